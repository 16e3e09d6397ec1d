import PyProof.Rows.All
import Wide.All
import OpenK.AllK
import Wide.FinOn
import PySem.Challenge.RW_xw0331_01
open PySem PySem.W PyProof.Rows PySem.Calls
set_option Elab.async false
set_option maxRecDepth 100000
set_option maxHeartbeats 8000000
namespace Mine
open_top hd for PySem.Challenge.rw_xw0331_01
theorem calm : True := by
  w_top off
  exact trivial
section PA
/-- what a call stands in: the ground of the walk -/
structure Cx (w : World) (A : Around) (h₀ : Heap) (L : Addr) (d u : Nat) : Prop where
  ex : ∃ (A₀ : Around) (base : Heap) (outer : List Env) (env : Env) (p : Program) (loose : List Str) (mean : ExcName → Option Value) (mg mb : Str → Option Value),
    Below A₀ base outer h₀ ∧ (Mine.hd.heap_39 w.params).In h₀ ∧ Top p loose mean mg mb h₀ ∧ A.frames = some (env :: outer) ∧ env.frame = some L ∧ env.scope.kind = .function
  hh : A.handled = none
  hd : A.depth ≤ d
  hu : A.units ≤ u

/-- the ground taken apart: one word in place of a long obtain (its term is short) -/
theorem Cx.out {w : World} {A : Around} {h₀ : Heap} {L : Addr} {d u : Nat} {P : Prop} (C : Cx w A h₀ L d u)
    (k : ∀ (A₀ : Around) (base : Heap) (outer : List Env) (env : Env) (p : Program) (loose : List Str) (mean : ExcName → Option Value) (mg mb : Str → Option Value),
      Below A₀ base outer h₀ → (Mine.hd.heap_39 w.params).In h₀ → Top p loose mean mg mb h₀ → A.frames = some (env :: outer) → env.frame = some L → env.scope.kind = .function → A.handled = none → A.depth ≤ d → A.units ≤ u → P) : P := by
  obtain ⟨⟨A₀, base, outer, env, p, loose, mean, mg, mb, B, X, T, hA, hf, hk⟩, hh, hd', hu⟩ := C
  exact k A₀ base outer env p loose mean mg mb B X T hA hf hk hh hd' hu
theorem Cx.mono {w : World} {A : Around} {h₀ : Heap} {L : Addr} {d u d' u' : Nat} (C : Cx w A h₀ L d u) (h1 : d ≤ d') (h2 : u ≤ u') : Cx w A h₀ L d' u' :=
  ⟨C.ex, C.hh, Nat.le_trans C.hd h1, Nat.le_trans C.hu h2⟩

theorem Cx.of {w : World} {A A₀ : Around} {base h₀ : Heap} {outer : List Env} {env : Env} {L : Addr} {p : Program} {loose : List Str} {mean : ExcName → Option Value} {mg mb : Str → Option Value} {d u : Nat}
    (B : Below A₀ base outer h₀) (X : (Mine.hd.heap_39 w.params).In h₀) (T : Top p loose mean mg mb h₀) (hA : A.frames = some (env :: outer)) (hf : env.frame = some L) (hk : env.scope.kind = .function)
    (hh : A.handled = none) (hd : A.depth ≤ d) (hu : A.units ≤ u) : Cx w A h₀ L d u := ⟨⟨A₀, base, outer, env, p, loose, mean, mg, mb, B, X, T, hA, hf, hk⟩, hh, hd, hu⟩

/-- one step deeper: the called def's own ground -/
theorem Cx.deeper {w : World} {A : Around} {base g : Heap} {outer : List Env} {env env' : Env} {L' : Addr} {p : Program} {loose : List Str} {mean : ExcName → Option Value} {mg mb : Str → Option Value} {d u : Nat}
    (B : Below A base (env :: outer) g) (X : (Mine.hd.heap_39 w.params).In g) (T : Top p loose mean mg mb g) (hf : env'.frame = some L') (hk : env'.scope.kind = .function)
    (hA : A.frames = some (env :: outer)) (hh : A.handled = none) (hd : A.depth ≤ d) (hu : A.units ≤ u) : Cx w (A.deeper env') g L' (d + 1) (u + 3) :=
  ⟨⟨A, base, env :: outer, env', p, loose, mean, mg, mb, B, X, T, Around.frames_deeper hA, hf, hk⟩, hh, Nat.succ_le_succ hd, by show A.units + 3 ≤ u + 3; omega⟩

theorem rl_is : recursionLimit = 1000 := rfl
theorem cl_is : cLine = 9900 := rfl
local macro_rules | `(tactic| k_room) => `(tactic| ((try simp only [depth_under_make, depth_under_kw, depth_in1, depth_deeper] at *); (try (have hRL9 := rl_is)); omega))
theorem mul_ok {a b : Int} (h1 : 0 ≤ a) (h2 : a < 2147483647) : IntMulOk a b := IntMulOk.of_left (intBits_le_64 (by omega) (by omega))

theorem take_spec {w : World} {A : Around} {E : Value → Shared → Prop} {s : Shared} {h₀ : Heap} {L : Addr} {m : Str → Option Value} {d u : Nat}
  (C : Cx w A h₀ L d u) (F : Fr h₀ L s.heap m) (hd : d < 950)
  {src : Addr} {x y top : Int} {tx ty tt : Tok} {n : Nat} (hN : News h₀ L s.heap [(src, listOf #[.int x tx, .int y ty] n)]) (hy0 : 0 ≤ y) (hy1 : y < 2147483647) (ht1 : 1 ≤ top) (ht2 : top ≤ 8)
  {Q : Value → Shared → Prop} (h : ∀ h' tk r t x' tx' y' ty' n', 0 ≤ r → r < top → 0 ≤ y' → y' < 2147483647 → Fr h₀ L h' m → h'.get? src = some (listOf #[.int x' tx', .int y' ty'] n') → (∀ b o, b ≠ src → s.heap.get? b = some o → h'.get? b = some o) → Q (.int r t) {s with heap := h', toks := tk}) :
  wpAny (model PySem.Challenge.rw_xw0331_01.row.prog w) A (PySem.call (.ref 173) [.ref src, .int top tt]) Q E s := by
  refine Cx.out C ?_
  clear C
  intro A₀ base outer env p loose mean mg mb B X T hA hf hk hh hd' hu
  revert X
  k_fill
  intro X
  refine wpAny_call ?_
  (refine' code_defG ?k1 ?k2 ?k3 hN ?k5 ?kA ?kF ?kK ?k6 ?k7 ?k8 ?k9 ?kB ?_ ?c2 ?c3 ?c4 ?c5; (case kA => assumption); (case kF => assumption); (case kK => assumption); (case k1 => k_asm); (case k2 => k_asm); (case k3 => k_asm); (case k5 => k_asm); (case k6 => k_is); (case k7 => k_is); (case k8 => k_room); (case k9 => first | exact BindsTo.of_eq rfl | exact binds_K (by k_in) rfl (by k_is) rfl rfl rfl | fail "k_enter: no rule for these arguments"); (case c5 => decide); (case kB => exact locs rfl); (case c2 => exact rfl); (case c3 => exact rfl); (case c4 => exact rfl); k_whole)
  intro g L' h1 FG F1 N1 B1 X1 T1 kG
  dsimp only
  k_fold
  k_steps
  · rename_i kF _ _ _
    refine h _ _ _ _ _ _ _ _ _ (Int.fmod_nonneg_of_pos _ (by omega)) (Int.fmod_lt_of_pos _ (by omega)) hy0 hy1 kF ((‹News h₀ L _ [(src, _)]› _ (.head _)).1) (fun b o hb e => ?_)
    exact Fr.keep ‹Fr g L' _ _› b o (kG b o e (by simpa using hb))
  · have hb0 : 0 ≤ (y * 39373 + 7).fmod 2147483647 := Int.fmod_nonneg_of_pos _ (by omega)
    have hb1 : (y * 39373 + 7).fmod 2147483647 < 2147483647 := Int.fmod_lt_of_pos _ (by omega)
    refine mul_int ?_ (mul_ok hb0 hb1)
    k_steps
    rename_i kF _ _ _
    refine h _ _ _ _ _ _ _ _ _ (Int.fmod_nonneg_of_pos _ (by omega)) (Int.fmod_lt_of_pos _ (by omega)) hb0 hb1 kF ((‹News h₀ L _ [(src, _)]› _ (.head _)).1) (fun b o hb e => ?_)
    exact Fr.keep ‹Fr g L' _ _› b o (kG b o e (by simpa using hb))
section P2
/-- the order of two triples of ints -/
def lex3 (x y : Int × Int × Int) : Bool := decide (x.1 < y.1) || (x.1 == y.1 && (decide (x.2.1 < y.2.1) || (x.2.1 == y.2.1 && decide (x.2.2 < y.2.2))))
section
variable {prog : Program} {w : World} {A : Around} {E : Value → Shared → Prop} {s : Shared}
theorem lt3_tree {a b : Addr} {oa ob : Obj} {na nb : Nat} {x y : Int × Int × Int} {t1 t2 t3 u1 u2 u3 : Tok} {P : PySem.Fin → Shared → Prop}
    (hoa : s.heap.get? a = some oa) (hda : oa.data = .seq #[.int x.1 t1, .int x.2.1 t2, .int x.2.2 t3] na) (hTb : s.TypeIs (.ref b) "tuple") (hob : s.heap.get? b = some ob)
    (hdb : ob.data = .seq #[.int y.1 u1, .int y.2.1 u2, .int y.2.2 u3] nb) (h : P (.done (.ret (.bool (lex3 x y)))) s) :
    wpAny (model prog w) A (Builtin.«tuple.__lt__» ⟨[.ref a, .ref b], []⟩) P E s := by
  show wpAny _ _ (isInstance (.ref b) (.type "tuple") >>= _) _ _ s
  refine wpAny_bind (wpAny_isInstance hTb isSubtype_tuple_tuple ?_)
  simp only [Bool.not_true, Bool.false_eq_true, if_false]
  refine wpAny_bind (wpAny_tupleItemsOf hoa hda ?_)
  refine wpAny_bind (wpAny_tupleItemsOf hob hdb ?_)
  refine wpAny_bind ?_
  obtain ⟨x1, x2, x3⟩ := x
  obtain ⟨y1, y2, y3⟩ := y
  simp only [List.zip_cons_cons, List.zip_nil_right, lex3] at h ⊢
  rw [List.forIn_cons]
  refine wpAny_bind (wpAny_bind (wpAny_eqBool_int ?_))
  by_cases e1 : x1 = y1
  · subst e1
    simp only [beq_self_eq_true, Bool.not_true, Bool.false_eq_true, if_false]
    refine wpAny_pure ?_
    dsimp only
    rw [List.forIn_cons]
    refine wpAny_bind (wpAny_bind (wpAny_eqBool_int ?_))
    by_cases e2 : x2 = y2
    · subst e2
      simp only [beq_self_eq_true, Bool.not_true, Bool.false_eq_true, if_false]
      refine wpAny_pure ?_
      dsimp only
      rw [List.forIn_cons]
      refine wpAny_bind (wpAny_bind (wpAny_eqBool_int ?_))
      by_cases e3 : x3 = y3
      · subst e3
        simp only [beq_self_eq_true, Bool.not_true, Bool.false_eq_true, if_false]
        refine wpAny_pure ?_
        dsimp only
        rw [List.forIn_nil]
        refine wpAny_pure ?_
        refine wpAny_pure ?_
        have h' : P (.done (.ret (.bool false))) s := by simpa using h
        exact h'
      · have b3 : (x3 == y3) = false := by simpa using e3
        simp only [b3, Bool.not_false, if_true]
        refine wpAny_bind (wpAny_rule (wpAny_bind (wpAny_lt_int ?_)))
        refine wpAny_pure (wpAny_pure (wpAny_pure ?_))
        simpa using h
    · have b2 : (x2 == y2) = false := by simpa using e2
      simp only [b2, Bool.not_false, if_true]
      refine wpAny_bind (wpAny_rule (wpAny_bind (wpAny_lt_int ?_)))
      refine wpAny_pure (wpAny_pure (wpAny_pure ?_))
      simpa [b2] using h
  · have b1 : (x1 == y1) = false := by simpa using e1
    simp only [b1, Bool.not_false, if_true]
    refine wpAny_bind (wpAny_rule (wpAny_bind (wpAny_lt_int ?_)))
    refine wpAny_pure (wpAny_pure (wpAny_pure ?_))
    simpa only [b1, Bool.false_and, Bool.or_false] using h

theorem lt3 {a b : Addr} {oa ob : Obj} {na nb : Nat} {x y : Int × Int × Int} {t1 t2 t3 u1 u2 u3 : Tok} {Q : Value → Shared → Prop}
    (hoa : s.heap.get? a = some oa) (hca : oa.cls = .type "tuple") (hda : oa.data = .seq #[.int x.1 t1, .int x.2.1 t2, .int x.2.2 t3] na) (hob : s.heap.get? b = some ob) (hcb : ob.cls = .type "tuple")
    (hdb : ob.data = .seq #[.int y.1 u1, .int y.2.1 u2, .int y.2.2 u3] nb) (hu : A.units < cLine) (h : Q (.bool (lex3 x y)) s) :
    wpAny (model prog w) A (compareOp .Lt (.ref a) (.ref b)) Q E s := by
  have hTa : s.TypeIs (.ref a) "tuple" := ⟨oa, hoa, hca⟩
  have hTb : s.TypeIs (.ref b) "tuple" := ⟨ob, hob, hcb⟩
  show wpAny _ _ (richCompare .Lt (.ref a) (.ref b)) Q E s
  exact wpAny_richCompare_same_room (op := .Lt) hTa hTb PySem.F.slot_tuple_lt
    (wpAny_call_entry PySem.F.slot_tuple_lt hTa PySem.F.entry_tuple_lt (lt3_tree hoa hda hTb hob hdb ⟨_, rfl, (fun e => nomatch e), h⟩) (PySem.F.args_tuple_lt_2 _ _)) hu
end
end P2
section P3
/-- an entry of the table: its data, and where they lie -/
structure Ent where
  a : Int
  s : Int
  o : Int
  p : Bool
  lk : Value
  ent : Addr
  ed : Addr
  es : List DictEntry
  q : Addr
  tr : Int
def EntD (r : Ent) : Prop := ∃ (h0 h1 h2 h3 h4 h5 : Int) (k0 k1 k2 k3 k4 k5 t0 t1 t3 t4 : Tok),
  r.es = [⟨h0, .str (Str.ofString "address") k0, .int r.a t0⟩, ⟨h1, .str (Str.ofString "order") k1, .int r.o t1⟩, ⟨h2, .str (Str.ofString "link") k2, r.lk⟩, ⟨h3, .str (Str.ofString "since") k3, .int r.s t3⟩, ⟨h4, .str (Str.ofString "tries") k4, .int r.tr t4⟩, ⟨h5, .str (Str.ofString "queue") k5, .ref r.q⟩]
theorem EntD.out {r : Ent} {P : Prop} (h : EntD r) (k : ∀ (h0 h1 h2 h3 h4 h5 : Int) (k0 k1 k2 k3 k4 k5 t0 t1 t3 t4 : Tok),
  r.es = [⟨h0, .str (Str.ofString "address") k0, .int r.a t0⟩, ⟨h1, .str (Str.ofString "order") k1, .int r.o t1⟩, ⟨h2, .str (Str.ofString "link") k2, r.lk⟩, ⟨h3, .str (Str.ofString "since") k3, .int r.s t3⟩, ⟨h4, .str (Str.ofString "tries") k4, .int r.tr t4⟩, ⟨h5, .str (Str.ofString "queue") k5, .ref r.q⟩] → P) : P := by
  obtain ⟨a0, a1, a2, a3, a4, a5, b0, b1, b2, b3, b4, b5, c0, c1, c3, c4, e⟩ := h
  exact k a0 a1 a2 a3 a4 a5 b0 b1 b2 b3 b4 b5 c0 c1 c3 c4 e
structure EntOk (r : Ent) : Prop where
  d : EntD r
  l : (r.p = true ∧ r.lk = .none) ∨ (r.p = false ∧ ∃ i t, r.lk = .int i t)
structure EntAt (h : Heap) (r : Ent) : Prop where
  ent : h.get? r.ent = some (instObj 77 r.ed)
  ed : h.get? r.ed = some (dictOf r.es 6)
  ok : EntOk r
theorem EntAt.keeps {h h' : Heap} {r : Ent} (x : EntAt h r) (k : ∀ b o, h.get? b = some o → h'.get? b = some o) : EntAt h' r := ⟨k _ _ x.ent, k _ _ x.ed, x.ok⟩

/-- the table: where it lies, what it holds -/
structure Arp where
  tbl : Addr
  td : Addr
  dE : Addr
  tds : List DictEntry
  oE : Obj
  size : Int
  made : Int
  R : List Ent
def TabD (G : Arp) : Prop := ∃ (h0 h1 h2 h3 h4 h5 h6 : Int) (k0 k1 k2 k3 k4 k5 k6 t0 t1 t2 t3 t4 t6 : Tok),
  G.tds = [⟨h0, .str (Str.ofString "size") k0, .int G.size t0⟩, ⟨h1, .str (Str.ofString "age_limit") k1, .int 100 t1⟩, ⟨h2, .str (Str.ofString "retry_after") k2, .int 9 t2⟩, ⟨h3, .str (Str.ofString "most_tries") k3, .int 3 t3⟩, ⟨h4, .str (Str.ofString "queue_limit") k4, .int 2 t4⟩, ⟨h5, .str (Str.ofString "entries") k5, .ref G.dE⟩, ⟨h6, .str (Str.ofString "made") k6, .int G.made t6⟩]
theorem TabD.out {G : Arp} {P : Prop} (h : TabD G) (k : ∀ (h0 h1 h2 h3 h4 h5 h6 : Int) (k0 k1 k2 k3 k4 k5 k6 t0 t1 t2 t3 t4 t6 : Tok),
  G.tds = [⟨h0, .str (Str.ofString "size") k0, .int G.size t0⟩, ⟨h1, .str (Str.ofString "age_limit") k1, .int 100 t1⟩, ⟨h2, .str (Str.ofString "retry_after") k2, .int 9 t2⟩, ⟨h3, .str (Str.ofString "most_tries") k3, .int 3 t3⟩, ⟨h4, .str (Str.ofString "queue_limit") k4, .int 2 t4⟩, ⟨h5, .str (Str.ofString "entries") k5, .ref G.dE⟩, ⟨h6, .str (Str.ofString "made") k6, .int G.made t6⟩] → P) : P := by
  obtain ⟨a0, a1, a2, a3, a4, a5, a6, b0, b1, b2, b3, b4, b5, b6, c0, c1, c2, c3, c4, c6, e⟩ := h
  exact k a0 a1 a2 a3 a4 a5 a6 b0 b1 b2 b3 b4 b5 b6 c0 c1 c2 c3 c4 c6 e
def kvsOf (R : List Ent) : List (Int × Value) := R.map fun r => (r.a, .ref r.ent)
structure ArpOk (w : World) (h : Heap) (G : Arp) : Prop where
  tbl : h.get? G.tbl = some (instObj 155 G.td)
  td : h.get? G.td = some (dictOf G.tds 7)
  tdD : TabD G
  dE : h.get? G.dE = some G.oE
  oE : G.oE.IsDictOf (PySem.intKind PySem.Challenge.rw_xw0331_01.row.prog w) (kvsOf G.R)
  lo : (G.dE == sysModules) = false
  ents : ∀ r ∈ G.R, EntAt h r
  eds : (G.R.map (·.ed)).Nodup
  few : G.R.length ≤ 8
theorem ArpOk.keeps {w : World} {h h' : Heap} {G : Arp} (x : ArpOk w h G) (k : ∀ b o, h.get? b = some o → h'.get? b = some o) : ArpOk w h' G :=
  ⟨k _ _ x.tbl, k _ _ x.td, x.tdD, k _ _ x.dE, x.oE, x.lo, fun r hr => (x.ents r hr).keeps k, x.eds, x.few⟩

theorem inst_keeps {h h' : Heap} {x C : Addr} {ox : Obj} {od : Obj} (I : W.InstAt h x ox C (some od)) (k : ∀ b o, h.get? b = some o → h'.get? b = some o) : W.InstAt h' x ox C (some od) := by
  obtain ⟨a, b, c, e⟩ := I
  refine ⟨k _ _ a, b, c, ?_⟩
  cases hd : ox.dict with
  | none => rw [hd] at e; exact e
  | some dx => rw [hd] at e; exact k _ _ e

/-- ranks -/
def Ent.pn (r : Ent) : Int := if r.p then 0 else 1
def Ent.rank (r : Ent) : Int × Int × Int := (r.pn, r.s, r.o)
def bestStep (b : Option Ent) (r : Ent) : Option Ent := match b with
  | none => some r
  | some x => if lex3 r.rank x.rank then some r else some x
def best (R : List Ent) : Option Ent := R.foldl bestStep none
theorem best_take {R : List Ent} {i : Nat} {r : Ent} (h : R[i]? = some r) : best (R.take (i + 1)) = bestStep (best (R.take i)) r := by
  unfold best
  rw [List.take_add_one, h]; simp
theorem best_some_of {R : List Ent} {b : Option Ent} (h : b ≠ none) : R.foldl bestStep b ≠ none := by
  induction R generalizing b with
  | nil => exact h
  | cons r R ih =>
    rw [List.foldl_cons]
    refine ih ?_
    cases b with
    | none => exact absurd rfl h
    | some x => unfold bestStep; dsimp only; split <;> simp

section
variable {prog : Program} {w : World} {A : Around} {E : Value → Shared → Prop} {s : Shared} {env : Env} {h₀ : Heap} {x : Str} {body : List Stmt} {Q : Flow → Shared → Prop}
/-- a for loop by a word over its whole state: the turn's number, the frame's names, the ledger -/
theorem loop_inv {I : Addr} {fp wr : List Addr} {n : Nat} {P : Nat → Value → Prop} {St : Nat → Heap → Prop} {m₀ : Str → Option Value} {news : List (Addr × Obj)}
    (W : Walks prog w A I fp wr n P St) (hIf : I ∈ fp) (hfp : ∀ b ∈ fp, b = I ∨ ∃ q, h₀.get? b = some q) (hI0 : h₀.get? I = none) (hob : ∀ i h, St i h → ∃ o, h.get? I = some o)
    (hLf : env.locals ∉ fp) (hwr : wr = [I]) (hnw : ∀ p ∈ news, p.1 ≠ I) (hst : St 0 s.heap) (F : Fr h₀ env.locals s.heap m₀) (N : News h₀ env.locals s.heap news)
    (J : Nat → (Str → Option Value) → List (Addr × Obj) → Prop) (hj : J 0 m₀ news)
    (turn : ∀ i v m₁ news₁ h tk o, i < n → P i v → J i m₁ news₁ → (∀ p ∈ news₁, p.1 ≠ I) → Fr h₀ env.locals h (fun y => if y = x then some v else m₁ y) → News h₀ env.locals h ((I, o) :: news₁) →
      wpAny (model prog w) A (execs body env) (UnrPost h₀ env.locals { s with heap := h, toks := tk } I o (J (i + 1)) Q) E { s with heap := h, toks := tk })
    (done : ∀ m₁ news₁ h tk, J n m₁ news₁ → Fr h₀ env.locals h m₁ → News h₀ env.locals h news₁ → Q .next { s with heap := h, toks := tk }) :
    LoopAtV prog w A h₀ env x body Q E (.ref I) s := by
  subst hwr
  refine ⟨I, fp, [I], n, P, St, m₀, news, J, rfl, W, hLf, (fun b hb => List.mem_singleton.mp hb ▸ hI0), (fun p hp hm => hnw p hp (List.mem_singleton.mp hm)), hst, F, N, hj, ?_, ?_⟩
  · rintro i v m₁ news₁ s₁ own ⟨hh', tk', rfl⟩ hin hP hJ hoff hown hget hall hst' F₁ N₁
    obtain ⟨o, ho⟩ := hob _ _ hst'
    have hio : (I, o) ∈ own := hall I hIf hI0 o ho
    have hone := own_one hown hfp ho N₁
    have hoff' : ∀ p ∈ news₁, p.1 ≠ I := fun p hp e => hoff p hp (e ▸ List.mem_singleton.mpr rfl)
    refine wpAny_mono (turn i v m₁ news₁ hh' tk' o hin hP hJ hoff' F₁ (news_one hio N₁)) (fun f s₂ p => ?_) fun _ _ e => e
    have fin : UnrEnd h₀ env.locals { s with heap := hh', toks := tk' } I o (J (i + 1)) s₂ → LoopStepU h₀ env.locals [I] own (J (i + 1)) { s with heap := hh', toks := tk' } .next s₂ := by
      rintro ⟨h', tk, m', news', e, F', N', ho', r⟩
      refine ⟨rfl, h', tk, m', news', e, F', fun p hp => ?_, fun p hp hI => ho' p hp (List.mem_singleton.mp hI), r⟩
      rcases List.mem_append.mp hp with hp | hp
      · rw [hone p hp]; exact N' _ (.head _)
      · exact N' _ (.tail _ hp)
    cases f with
    | ret v => exact .ret p
    | brk => exact .brk p
    | next => exact .next (fin p)
    | cont => exact .cont (fin p)
  · rintro h' tk m' news' F' N' _ hJ
    exact done m' news' h' tk hJ F' N'

/-- a turn's end: two objects of the ledger are handed on -/
theorem UnrEnd.pick2 {L I : Addr} {it : Obj} {rest : (Str → Option Value) → List (Addr × Obj) → Prop} {s₁ : Shared} {h' : Heap} {tk : Nat} {m' : Str → Option Value} {all : List (Addr × Obj)} (F : Fr h₀ L h' m') (N : News h₀ L h' all) (a b : Addr × Obj)
    (ha : a ∈ all) (hb : b ∈ all) (hI : (I, it) ∈ all) (na : a.1 ≠ I) (nb : b.1 ≠ I) (r : rest m' [a, b]) : UnrEnd h₀ L s₁ I it rest { s₁ with heap := h', toks := tk } :=
  UnrEnd.intro F N [a, b] (fun p hp => by
    rcases List.mem_cons.mp hp with rfl | hp
    · exact hI
    · rcases List.mem_cons.mp hp with rfl | hp
      · exact ha
      · rw [List.mem_singleton.mp hp]; exact hb) (fun p hp => by
    rcases List.mem_cons.mp hp with rfl | hp
    · exact na
    · rw [List.mem_singleton.mp hp]; exact nb) r
/-- over a dict that the ground keeps -/
theorem iter_dictG {d : Addr} {kvs : List (Int × Value)} {m₀ : Str → Option Value} {news : List (Addr × Obj)}
    (hh : A.handled = none) (hD : h₀.DictOf (PySem.intKind prog w) d kvs) (lo : (d == sysModules) = false) (F : Fr h₀ env.locals s.heap m₀) (N : News h₀ env.locals s.heap news)
    (J : Nat → (Str → Option Value) → List (Addr × Obj) → Prop) (hj : J 0 m₀ news)
    (turn : ∀ I i k x' t m₁ news₁ h tk o, kvs[i]? = some (k, x') → J i m₁ news₁ → (∀ p ∈ news₁, p.1 ≠ I) → Fr h₀ env.locals h (fun y => if y = x then some (.int k t) else m₁ y) → News h₀ env.locals h ((I, o) :: news₁) →
      wpAny (model prog w) A (execs body env) (UnrPost h₀ env.locals { s with heap := h, toks := tk } I o (J (i + 1)) Q) E { s with heap := h, toks := tk })
    (done : ∀ m₁ news₁ h tk, J kvs.length m₁ news₁ → Fr h₀ env.locals h m₁ → News h₀ env.locals h news₁ → Q .next { s with heap := h, toks := tk }) :
    wpAny (model prog w) A (pyIter (.ref d)) (fun it s₂ => LoopAtV prog w A h₀ env x body Q E it s₂) E s := by
  obtain ⟨o, es, ep, ho, r⟩ := id hD
  have hAt : s.heap.DictAt (PySem.intKind prog w) d kvs ep := ⟨o, es, F.keep _ _ ho, r⟩
  have hlt : d < h₀.objs.size := Heap.lt_size ho
  have hne : d ≠ s.heap.objs.size := Nat.ne_of_lt (Nat.lt_trans (Nat.lt_of_lt_of_le hlt F.above) F.ns.lt)
  refine wpAny_pyIter_dict lo hAt ?_
  have W := Walks.dictKeys (prog := prog) (w := w) (knd := PySem.intKind prog w) hh s.heap.objs.size d hne kvs ep
  refine loop_inv W (List.mem_cons.mpr (.inl rfl)) (fun b hb => ?_) (next_is_new F) (fun i h hs => by obtain ⟨⟨o, ho, _⟩, _⟩ := hs; exact ⟨o, ho⟩) ?_ rfl ?_ ?_ (F.push _) (fun p hp => ⟨Heap.get?_push_of_some _ (N p hp).1, (N p hp).2⟩) J hj ?_ done
  · rcases List.mem_cons.mp hb with e | hb
    · exact .inl e
    · exact .inr ⟨o, (List.mem_singleton.mp hb) ▸ ho⟩
  · intro hm
    rcases List.mem_cons.mp hm with e | hm
    · exact absurd F.ns.lt (e ▸ Nat.lt_irrefl _)
    · exact absurd (Nat.lt_of_lt_of_le hlt F.above) ((List.mem_singleton.mp hm) ▸ Nat.lt_irrefl _)
  · intro p hp hI
    exact absurd (Heap.lt_size (N p hp).1) (hI ▸ Nat.lt_irrefl _)
  · exact ⟨⟨_, Heap.get?_push_size _ rfl, rfl, rfl⟩, hAt.at' fun o e => Heap.get?_push_of_some _ e⟩
  · rintro i v m₁ news₁ h tk o _ ⟨k, x', hk, hv⟩ hJ hoff F' N'
    cases v with
    | int k' t =>
      have : k' = k := by simpa [PySem.intKind, Value.isInt] using hv
      subst this
      exact turn _ i k' x' t m₁ news₁ h tk o hk hJ hoff F' N'
    | _ => simp [PySem.intKind, Value.isInt] at hv
end
section
variable {prog : Program} {w : World} {A : Around} {E : Value → Shared → Prop} {s : Shared} {h₀ : Heap} {L : Addr} {m : Str → Option Value} {d : Addr} {kvs : List (Int × Value)} {k : Int} {t : Tok} {v : Value}
theorem dictG_item {value slice : PySem.Expr} {Q : Value → Shared → Prop} (F : Fr h₀ L s.heap m) (hD : h₀.DictOf (PySem.intKind prog w) d kvs) (hl : valueAt kvs k = some v) (h : Q v { s with toks := s.toks + 1 })
    (hs : subscripted slice false (.ref d) (.int k t) = operate [.ref d, .int k t] (getItem (.ref d) (.int k t)) := by with_unfolding_all rfl) (hg : ∀ r, letTemporaryGo value (.ref d) r = pure () := by intro _; with_unfolding_all rfl) :
    wpAny (model prog w) A (subscriptTail value slice (.ref d) (.int k t)) Q E s :=
  have hD' := hD.keep F.keep
  subscriptTail_builtin hD'.typeIs slot_dict_getitem.lookup (wpAny_getItem_of (intKind_is _ _ _ _) hD'.mapOf hl h) hs hg
end
theorem frame2 {m : Str → Option Value} {x y : Str} {a b : Option Value} (h1 : m x = a) (h2 : m y = b) : m = fun z => if z = x then a else if z = y then b else m z := by
  funext z
  by_cases e1 : z = x
  · simp [e1, h1]
  · by_cases e2 : z = y
    · subst e2; simp [e1, h2]
    · simp [e1, e2]
theorem with_frames {α : Type} {M : Model} {A : Around} {env0 e : Env} {outer : List Env} {t : Sem α} {Q : α → Shared → Prop} {E : Value → Shared → Prop} {s : Shared} (hA : A.frames = some (env0 :: outer))
    (k : (A.deeper e).frames = some (e :: env0 :: outer) → wpAny M (A.deeper e) t Q E s) : wpAny M (A.deeper e) t Q E s := k (Around.frames_deeper hA)
end P3
local macro_rules | `(tactic| k_inst) => `(tactic| exact inst_keeps (by assumption) (Fr.keep (by k_asm)))
local macro_rules | `(tactic| walk_at "subscriptTail") => `(tactic| (k_here; (with_reducible show wpAny _ _ (subscriptTail _ _ (Value.ref _) (Value.int _ _)) _ _ _); refine dictG_item (by k_asm) (by assumption) (by assumption) ?_))
local macro_rules | `(tactic| k_all) => `(tactic| assumption)
local macro_rules | `(tactic| k_ne) => `(tactic| (refine neN ?_; (try dsimp only); with_reducible (first | assumption | (refine Ne.symm ?_; assumption))))
section P4
theorem valueAt_mem {kvs : List (Int × Value)} {k : Int} {v : Value} (hn : (kvs.map (·.1)).Nodup) (hm : (k, v) ∈ kvs) : valueAt kvs k = some v := by
  induction kvs with
  | nil => cases hm
  | cons p r ih =>
    obtain ⟨k', v'⟩ := p
    unfold valueAt
    rw [List.find?_cons]
    simp only [List.map_cons, List.nodup_cons] at hn
    rcases List.mem_cons.mp hm with e | hm
    · cases e; simp
    · have hne : k' ≠ k := fun e => hn.1 (e ▸ List.mem_map.mpr ⟨(k, v), hm, rfl⟩)
      simp only [hne, decide_false]
      exact ih hn.2 hm
theorem kvsOf_nodup {w : World} {o : Obj} {R : List Ent} (h : o.IsDictOf (PySem.intKind PySem.Challenge.rw_xw0331_01.row.prog w) (kvsOf R)) : ((kvsOf R).map (·.1)).Nodup := by
  obtain ⟨es, ep, _, _, _, _, hn⟩ := h; exact hn
theorem kvsOf_at {R : List Ent} {i : Nat} {k : Int} {x : Value} (h : (kvsOf R)[i]? = some (k, x)) : ∃ r, R[i]? = some r ∧ r ∈ R ∧ k = r.a ∧ x = .ref r.ent := by
  unfold kvsOf at h
  rw [List.getElem?_map] at h
  cases hr : R[i]? with
  | none => rw [hr] at h; cases h
  | some r => rw [hr] at h; cases h; exact ⟨r, rfl, List.mem_of_getElem? hr, rfl, rfl⟩

theorem pend_spec {w : World} {A : Around} {E : Value → Shared → Prop} {s : Shared} {h₀ : Heap} {L : Addr} {m : Str → Option Value} {d u : Nat} {news : List (Addr × Obj)}
  (C : Cx w A h₀ L d u) (F : Fr h₀ L s.heap m) (N : News h₀ L s.heap news) (hd : d < 950) {r : Ent} (K : EntAt s.heap r) {pb : Bool} (hpb : r.p = pb)
  {Q : Value → Shared → Prop} (h : ∀ h' tk, Fr h₀ L h' m → News h₀ L h' news → (∀ b o, s.heap.get? b = some o → h'.get? b = some o) → Q (.bool pb) {s with heap := h', toks := tk}) :
  wpAny (model PySem.Challenge.rw_xw0331_01.row.prog w) A (PySem.call (.ref 74) [.ref r.ent]) Q E s := by
  refine Cx.out C ?_
  clear C
  intro A₀ base outer env p loose mean mg mb B X T hA hf hk hh hd' hu
  revert X
  k_fill
  intro X
  refine wpAny_call ?_
  have hN : News h₀ L s.heap [] := News.nil
  (refine' code_defG ?k1 ?k2 ?k3 hN ?k5 ?kA ?kF ?kK ?k6 ?k7 ?k8 ?k9 ?kB ?_ ?c2 ?c3 ?c4 ?c5; (case kA => assumption); (case kF => assumption); (case kK => assumption); (case k1 => k_asm); (case k2 => k_asm); (case k3 => k_asm); (case k5 => k_asm); (case k6 => k_is); (case k7 => k_is); (case k8 => k_room); (case k9 => first | exact BindsTo.of_eq rfl | exact binds_K (by k_in) rfl (by k_is) rfl rfl rfl | fail "k_enter: no rule for these arguments"); (case c5 => decide); (case kB => exact locs rfl); (case c2 => exact rfl); (case c3 => exact rfl); (case c4 => exact rfl); k_whole)
  intro g L' h1 FG F1 N1 B1 X1 T1 kG
  dsimp only
  k_fold
  have K1 : EntAt g r := K.keeps (fun b o e => kG b o e (by simp))
  refine EntD.out K1.ok.d ?_
  intro f0 f1 f2 f3 f4 f5 g0 g1 g2 g3 g4 g5 q0 q1 q3 q4 eR
  have I2 : W.InstAt g r.ent (instObj 77 r.ed) 77 (some (dictOf r.es 6)) := ⟨K1.ent, rfl, rfl, K1.ed⟩
  rw [eR] at I2
  rcases K1.ok.l with ⟨hp, hl⟩ | ⟨hp, li, lt, hl⟩
  · rw [hl] at I2
    rw [hp] at hpb
    subst hpb
    k_steps
    rename_i kF _ _ _
    exact h _ _ kF (N.grown (fun b o e => Fr.keep ‹Fr g L' _ _› b o (kG b o e (by simp)))) (fun b o e => Fr.keep ‹Fr g L' _ _› b o (kG b o e (by simp)))
  · rw [hl] at I2
    rw [hp] at hpb
    subst hpb
    k_steps
    rename_i kF _ _ _
    exact h _ _ kF (N.grown (fun b o e => Fr.keep ‹Fr g L' _ _› b o (kG b o e (by simp)))) (fun b o e => Fr.keep ‹Fr g L' _ _› b o (kG b o e (by simp)))

local macro_rules | `(tactic| walk_at "call ref") => `(tactic| (k_here; (try dsimp only [List.append_nil, List.nil_append, List.cons_append]); (refine pend_spec (by (exact Cx.deeper (by assumption) (by assumption) (by assumption) rfl rfl (by assumption) (by assumption) (by assumption) (by assumption))) (by k_asm) (by k_asm) (by omega) (EntAt.keeps (by assumption) (Fr.keep (by k_asm))) (by assumption) ?_); intro h' tk' F' N' kk'; clear kk'; (try k_sweep)))
def oldestOf (R : List Ent) : Int := match best R with | some r => r.a | none => 0

/-- the word of oldest's loop -/
def OldJ (G : Arp) (i : Nat) (m : Str → Option Value) (news : List (Addr × Obj)) : Prop :=
  m (Str.ofString "self") = some (.ref G.tbl) ∧ ((i = 0 ∧ m (Str.ofString "found") = some .none ∧ news = []) ∨
    ∃ x f rk t t1 t2 t3, best (G.R.take i) = some x ∧ m (Str.ofString "found") = some (.ref f) ∧
      news = [(f, ({ cls := .type "tuple", data := .seq #[.ref rk, .int x.a t] } : Obj)), (rk, ({ cls := .type "tuple", data := .seq #[.int x.pn t1, .int x.s t2, .int x.o t3] } : Obj))])

theorem oldest_spec {w : World} {A : Around} {E : Value → Shared → Prop} {s : Shared} {h₀ : Heap} {L : Addr} {m : Str → Option Value} {d u : Nat}
  (C : Cx w A h₀ L d u) (F : Fr h₀ L s.heap m) (hd : d < 940) (hu9 : u < 9000) {G : Arp} (K : ArpOk w s.heap G) (hne : G.R ≠ [])
  {Q : Value → Shared → Prop} (h : ∀ h' tk t, Fr h₀ L h' m → (∀ b o, s.heap.get? b = some o → h'.get? b = some o) → Q (.int (oldestOf G.R) t) {s with heap := h', toks := tk}) :
  wpAny (model PySem.Challenge.rw_xw0331_01.row.prog w) A (PySem.call (.ref 116) [.ref G.tbl]) Q E s := by
  refine Cx.out C ?_
  clear C
  intro A₀ base outer env p loose mean mg mb B X T hA hf hk hh hd' hu
  revert X
  k_fill
  intro X
  refine wpAny_call ?_
  have hN : News h₀ L s.heap [] := News.nil
  (refine' code_defG ?k1 ?k2 ?k3 hN ?k5 ?kA ?kF ?kK ?k6 ?k7 ?k8 ?k9 ?kB ?_ ?c2 ?c3 ?c4 ?c5; (case kA => assumption); (case kF => assumption); (case kK => assumption); (case k1 => k_asm); (case k2 => k_asm); (case k3 => k_asm); (case k5 => k_asm); (case k6 => k_is); (case k7 => k_is); (case k8 => k_room); (case k9 => first | exact BindsTo.of_eq rfl | exact binds_K (by k_in) rfl (by k_is) rfl rfl rfl | fail "k_enter: no rule for these arguments"); (case c5 => decide); (case kB => exact locs rfl); (case c2 => exact rfl); (case c3 => exact rfl); (case c4 => exact rfl); k_whole)
  intro g L' h1 FG F1 N1 B1 X1 T1 kG
  dsimp only
  k_fold
  have K1 : ArpOk w g G := K.keeps (fun b o e => kG b o e (by simp))
  refine TabD.out K1.tdD ?_
  intro a0 a1 a2 a3 a4 a5 a6 b0 b1 b2 b3 b4 b5 b6 c0 c1 c2 c3 c4 c6 eT
  have I1 : W.InstAt g G.tbl (instObj 155 G.td) 155 (some (dictOf G.tds 7)) := ⟨K1.tbl, rfl, rfl, K1.td⟩
  rw [eT] at I1
  k_steps
  have hLen : (kvsOf G.R).length = G.R.length := by simp [kvsOf]
  have hNd := kvsOf_nodup K1.oE
  have hD1 : g.DictOf (PySem.intKind PySem.Challenge.rw_xw0331_01.row.prog w) G.dE (kvsOf G.R) := Heap.dictOf_iff.mpr ⟨G.oE, K1.dE, K1.oE⟩
  refine iter_dictG hh hD1 K1.lo ‹Fr g L' _ _› ‹News g L' _ _› (OldJ G) ?_ ?_ ?_
  · exact ⟨rfl, .inl ⟨rfl, rfl, rfl⟩⟩
  · intro I i k x' t m₁ news₁ h2 tk o hk' hJ hoff F2 N2
    obtain ⟨r, hr, hrm, rfl, rfl⟩ := kvsOf_at hk'
    have hval : valueAt (kvsOf G.R) r.a = some (.ref r.ent) := valueAt_mem hNd (List.mem_map.mpr ⟨r, hrm, rfl⟩)
    have hbt := best_take hr
    have Er := K1.ents r hrm
    refine EntD.out Er.ok.d ?_
    intro f0 f1 f2 f3 f4 f5 g0 g1 g2 g3 g4 g5 q0 q1 q3 q4 eR
    have I2 : W.InstAt g r.ent (instObj 77 r.ed) 77 (some (dictOf r.es 6)) := ⟨Er.ent, rfl, rfl, Er.ed⟩
    rw [eR] at I2
    obtain ⟨hself, hcase⟩ := hJ
    rcases hcase with ⟨rfl, hfound, rfl⟩ | ⟨x, f, rk, t0, t1, t2, t3, hb, hfound, rfl⟩
    · rw [frame2 hself hfound] at F2
      have e0 : bestStep (best (G.R.take 0)) r = some r := rfl
      rw [e0] at hbt
      cases hp : r.p
      · k_steps
        rename_i rk _ lr _ tk2 f _ lf hE FE NE
        have hpn : r.pn = 1 := by unfold Ent.pn; rw [hp]; rfl
        exact UnrEnd.pick2 FE NE (f, _) (rk, _) (by k_mem) (by k_mem) (by k_mem) (by k_ne) (by k_ne) ⟨rfl, .inr ⟨r, f, rk, _, _, _, _, hbt, rfl, by rw [hpn]⟩⟩
      · k_steps
        rename_i rk _ lr _ tk2 f _ lf hE FE NE
        have hpn : r.pn = 0 := by unfold Ent.pn; rw [hp]; rfl
        exact UnrEnd.pick2 FE NE (f, _) (rk, _) (by k_mem) (by k_mem) (by k_mem) (by k_ne) (by k_ne) ⟨rfl, .inr ⟨r, f, rk, _, _, _, _, hbt, rfl, by rw [hpn]⟩⟩
    · have o1 : f ≠ I := hoff _ (.head _)
      have o2 : rk ≠ I := hoff _ (.tail _ (.head _))
      rw [frame2 hself hfound] at F2
      rw [hb] at hbt
      cases hp : r.p
      · k_steps
        rename_i D' _ lD hF FE NE
        have hpn : r.pn = 1 := by unfold Ent.pn; rw [hp]; rfl
        have erk : lex3 (1, r.s, r.o) x.rank = lex3 r.rank x.rank := by unfold Ent.rank; rw [hpn]
        refine lt3 (x := (1, r.s, r.o)) (y := x.rank) (News.get NE (.head _)) rfl rfl (News.get NE (.tail _ (.tail _ (.tail _ (.head _))))) rfl rfl (by ((show PySem.Around.units _ + 3 < _; have hCL9 := cl_is; omega))) ?_
        cases hlx : lex3 (1, r.s, r.o) x.rank
        · have hb2 : best (G.R.take (i + 1)) = some x := by rw [hbt]; unfold bestStep; dsimp only; rw [← erk, hlx]; rfl
          k_steps
          exact UnrEnd.pick2 FE NE (f, _) (rk, _) (by k_mem) (by k_mem) (by k_mem) o1 o2 ⟨rfl, .inr ⟨x, f, rk, _, _, _, _, hb2, rfl, rfl⟩⟩
        · have hb2 : best (G.R.take (i + 1)) = some r := by rw [hbt]; unfold bestStep; dsimp only; rw [← erk, hlx]; rfl
          k_steps
          rename_i f2 _ lf hE2 FE2 NE2
          exact UnrEnd.pick2 FE2 NE2 (f2, _) (D', _) (by k_mem) (by k_mem) (by k_mem) (by k_ne) (by k_ne) ⟨rfl, .inr ⟨r, f2, D', _, _, _, _, hb2, rfl, by rw [hpn]⟩⟩
      · k_steps
        rename_i D' _ lD hF FE NE
        have hpn : r.pn = 0 := by unfold Ent.pn; rw [hp]; rfl
        have erk : lex3 (0, r.s, r.o) x.rank = lex3 r.rank x.rank := by unfold Ent.rank; rw [hpn]
        refine lt3 (x := (0, r.s, r.o)) (y := x.rank) (News.get NE (.head _)) rfl rfl (News.get NE (.tail _ (.tail _ (.tail _ (.head _))))) rfl rfl (by ((show PySem.Around.units _ + 3 < _; have hCL9 := cl_is; omega))) ?_
        cases hlx : lex3 (0, r.s, r.o) x.rank
        · have hb2 : best (G.R.take (i + 1)) = some x := by rw [hbt]; unfold bestStep; dsimp only; rw [← erk, hlx]; rfl
          k_steps
          exact UnrEnd.pick2 FE NE (f, _) (rk, _) (by k_mem) (by k_mem) (by k_mem) o1 o2 ⟨rfl, .inr ⟨x, f, rk, _, _, _, _, hb2, rfl, rfl⟩⟩
        · have hb2 : best (G.R.take (i + 1)) = some r := by rw [hbt]; unfold bestStep; dsimp only; rw [← erk, hlx]; rfl
          k_steps
          rename_i f2 _ lf hE2 FE2 NE2
          exact UnrEnd.pick2 FE2 NE2 (f2, _) (D', _) (by k_mem) (by k_mem) (by k_mem) (by k_ne) (by k_ne) ⟨rfl, .inr ⟨r, f2, D', _, _, _, _, hb2, rfl, by rw [hpn]⟩⟩
  · rintro m₁ news₁ h2 tk ⟨hself, hcase⟩ F2 N2
    rw [hLen] at hcase
    have hpos : 0 < G.R.length := List.length_pos_iff.mpr hne
    rcases hcase with ⟨h0, _, _⟩ | ⟨x, f, rk, t0, t1, t2, t3, hb, hfound, rfl⟩
    · omega
    · rw [List.take_length] at hb
      rw [frame2 hself hfound] at F2
      k_steps
      rename_i kF _ _ _
      have e : oldestOf G.R = x.a := by unfold oldestOf; rw [hb]
      rw [← e]
      exact h _ _ _ kF (fun b o e => Fr.keep ‹Fr g L' _ _› b o (kG b o e (by simp)))
end P4
section P5
theorem best_mem {R : List Ent} : ∀ {x : Ent}, best R = some x → x ∈ R := by
  have go : ∀ (l : List Ent) (b : Option Ent) (x : Ent), l.foldl bestStep b = some x → x ∈ l ∨ b = some x := by
    intro l
    induction l with
    | nil => intro b x h; exact .inr h
    | cons r l ih =>
      intro b x h
      rw [List.foldl_cons] at h
      rcases ih _ _ h with h1 | h1
      · exact .inl (.tail _ h1)
      · cases b with
        | none => unfold bestStep at h1; cases h1; exact .inl (.head _)
        | some y =>
          unfold bestStep at h1; dsimp only at h1
          split at h1
          · cases h1; exact .inl (.head _)
          · exact .inr h1
  intro x h
  rcases go R none x h with h1 | h1
  · exact h1
  · cases h1
theorem best_ex {R : List Ent} (hne : R ≠ []) : ∃ x, best R = some x ∧ x ∈ R ∧ oldestOf R = x.a := by
  cases hb : best R with
  | none =>
    cases R with
    | nil => exact absurd rfl hne
    | cons r l => exact absurd hb (by unfold best; rw [List.foldl_cons]; exact best_some_of (by simp [bestStep]))
  | some x => exact ⟨x, rfl, best_mem hb, by unfold oldestOf; rw [hb]⟩

theorem dict_ne {es es' : List DictEntry} {n n' : Nat} (h : dictOf es n = dictOf es' n') : es = es' := by
  have := congrArg Obj.data h
  injection this with h1 _
  simpa using congrArg Array.toList h1
theorem ArpOk.apart {w : World} {h : Heap} {G : Arp} (K : ArpOk w h G) : ∀ r ∈ G.R, (r.ent ≠ G.tbl ∧ r.ent ≠ G.td ∧ r.ent ≠ G.dE) ∧ r.ed ≠ G.tbl ∧ r.ed ≠ G.td ∧ r.ed ≠ G.dE := by
  intro r hr
  have E := K.ents r hr
  obtain ⟨es, ep, hx, hdat, _, hpr, _⟩ := K.oE
  have hcl : G.oE.cls = .type "dict" := hx.1
  refine EntD.out E.ok.d ?_
  intro f0 f1 f2 f3 f4 f5 g0 g1 g2 g3 g4 g5 q0 q1 q3 q4 eR
  refine TabD.out K.tdD ?_
  intro a0 a1 a2 a3 a4 a5 a6 b0 b1 b2 b3 b4 b5 b6 c0 c1 c2 c3 c4 c6 eT
  refine ⟨⟨fun e => ?_, fun e => ?_, fun e => ?_⟩, fun e => ?_, fun e => ?_, fun e => ?_⟩
  · have h1 := E.ent; rw [e, K.tbl] at h1; cases h1
  · have h1 := E.ent; rw [e, K.td] at h1; cases h1
  · have h1 := E.ent; rw [e, K.dE] at h1; rw [Option.some.inj h1] at hcl; cases hcl
  · have h1 := E.ed; rw [e, K.tbl] at h1; cases h1
  · have h1 := E.ed; rw [e, K.td] at h1
    have h2 := dict_ne (Option.some.inj h1)
    rw [eT, eR] at h2
    injection h2 with h3 _
    injection h3 with _ h4 _
    injection h4 with h5 _
    exact absurd h5 (by decide)
  · have h1 := E.ed; rw [e, K.dE] at h1
    rw [Option.some.inj h1] at hdat
    injection hdat with h2 _
    rw [← h2, eR] at hpr
    generalize kvsOf G.R = kk at hpr
    cases hpr with
    | cons h3 _ _ => simp [PySem.intKind, Value.isInt] at h3

/-- the entries behind a new one -/
def roomFor (R : List Ent) (size : Int) : List Ent := if size ≤ (R.length : Int) then R.filter (fun r => decide (r.a ≠ oldestOf R)) else R
theorem kvsOf_without {R : List Ent} {k : Int} : without (kvsOf R) k = kvsOf (R.filter (fun r => decide (r.a ≠ k))) := by
  unfold without kvsOf
  rw [List.filter_map]; rfl
theorem stored_new {kvs : List (Int × Value)} {k : Int} {v : Value} (h : ∀ p ∈ kvs, p.1 ≠ k) : stored kvs k v = kvs ++ [(k, v)] := by
  unfold stored
  rw [if_neg]
  simp only [List.any_eq_true, decide_eq_true_eq, not_exists, not_and]
  exact h
theorem ArpOk.now {w : World} {g h : Heap} {L' : Addr} {m : Str → Option Value} {news : List (Addr × Obj)} {G : Arp} 
    (ents : ∀ r ∈ G.R, EntAt g r) (eds : (G.R.map (·.ed)).Nodup) (few : G.R.length ≤ 8) (F : Fr g L' h m) (N : News g L' h news)
    (m1 : (G.tbl, instObj 155 G.td) ∈ news) (m2 : (G.td, dictOf G.tds 7) ∈ news) (m3 : (G.dE, G.oE) ∈ news) (K' : TabD G ∧ G.oE.IsDictOf (PySem.intKind PySem.Challenge.rw_xw0331_01.row.prog w) (kvsOf G.R) ∧ (G.dE == sysModules) = false) : ArpOk w h G :=
  ⟨N.get m1, N.get m2, K'.1, N.get m3, K'.2.1, K'.2.2, fun r hr => (ents r hr).keeps F.keep, eds, few⟩

def oldEnt (R : List Ent) : Addr := match best R with | some x => x.ent | none => 0
theorem oldest_val {w : World} {o : Obj} {R : List Ent} (h : o.IsDictOf (PySem.intKind PySem.Challenge.rw_xw0331_01.row.prog w) (kvsOf R)) (hne : R ≠ []) : valueAt (kvsOf R) (oldestOf R) = some (.ref (oldEnt R)) := by
  obtain ⟨x, hb, hm, ho⟩ := best_ex hne
  have e : oldEnt R = x.ent := by unfold oldEnt; rw [hb]
  rw [ho, e]
  exact valueAt_mem (kvsOf_nodup h) (List.mem_map.mpr ⟨x, hm, rfl⟩)
theorem ne_of_len {G : Arp} (h1 : 1 ≤ G.size) (h : G.size ≤ ((kvsOf G.R).length : Int)) : G.R ≠ [] := fun e => by
  rw [e] at h; simp [kvsOf] at h; omega
theorem mem_tds {G : Arp} {l : List DictEntry} {news : List (Addr × Obj)} (e : G.tds = l) (h : (G.td, dictOf l 7) ∈ news) : (G.td, dictOf G.tds 7) ∈ news := e ▸ h
theorem oldest_specN {w : World} {A : Around} {E : Value → Shared → Prop} {s : Shared} {h₀ : Heap} {L : Addr} {m : Str → Option Value} {d u : Nat} {news : List (Addr × Obj)}
  (C : Cx w A h₀ L d u) (F : Fr h₀ L s.heap m) (N : News h₀ L s.heap news) (hd : d < 940) (hu9 : u < 9000) {G : Arp} (K : ArpOk w s.heap G) (hne : G.R ≠ [])
  {Q : Value → Shared → Prop} (h : ∀ h' tk t, Fr h₀ L h' m → News h₀ L h' news → Q (.int (oldestOf G.R) t) {s with heap := h', toks := tk}) :
  wpAny (model PySem.Challenge.rw_xw0331_01.row.prog w) A (PySem.call (.ref 116) [.ref G.tbl]) Q E s :=
  oldest_spec C F hd hu9 K hne fun h' tk t F' k => h h' tk t F' (N.grown k)
theorem without_fit {R : List Ent} {k : Int} : (without (kvsOf R) k).length ≤ R.length := by
  rw [kvsOf_without]; unfold kvsOf; rw [List.length_map]; exact List.length_filter_le _ _
local macro_rules | `(tactic| k_enter) => `(tactic| (
  (refine' code_def ?k1 ?k2 ?k3 ?k4 ?k5 ?kA ?kF ?kK ?k6 ?k7 ?k8 ?k9 ?kB ?_ ?c2 ?c3 ?c4 ?c5; (case kA => assumption); (case kF => exact rfl); (case kK => exact rfl); (case k1 => k_asm); (case k2 => k_asm); (case k3 => k_asm); (case k4 => k_asm); (case k5 => k_asm); (case k6 => k_is); (case k7 => k_is); (case k8 => k_room); (case k9 => first | exact BindsTo.of_eq rfl | exact binds_K (by k_in) rfl (by k_is) rfl rfl rfl | fail "k_enter: no rule for these arguments"); (case c5 => decide); (case kB => exact locs rfl); (case c2 => exact rfl); (case c3 => exact rfl); (case c4 => exact rfl); k_whole; intro g' L' h' FG' F' N' B' X' T'; (try dsimp only); (try k_fold))))
local macro_rules | `(tactic| walk_at "call builtin:len") => `(tactic| (k_here; (with_reducible show wpAny _ _ (call (Value.builtin "len") [Value.ref _]) _ _ _); k_dflt (refine kda_len (knd := PySem.intKind _ _) (by k_asm) (by k_mem) (by assumption) (by assumption) (by (first | (simp only [kvsOf, List.length_map, sizeLine_eq]; omega) | (refine Nat.le_trans without_fit ?_; rw [sizeLine_eq]; omega))) ?_)))
local macro_rules | `(tactic| walk_at "call builtin:dict.pop") => `(tactic| (k_here; (with_reducible show wpAny _ _ (call (Value.builtin "dict.pop") [Value.ref _, Value.int _ _]) _ _ _); k_dflt (refine' kob_pop (knd := PySem.intKind _ _) (more := []) ?F ?N ?U ?d (intKind_is _ _ _ _) (.inl rfl) (by rfl) (PySem.F.args_dict_pop_2 _ _) ?l ?z ?_; (case F => k_asm); (case N => k_asm); (case U => k_updF); (case d => k_asm); (case l => exact oldest_val (by assumption) (ne_of_len (by omega) (by omega))); (case z => (first | (simp only [kvsOf, List.length_map, sizeLine_eq]; omega) | (refine Nat.le_trans without_fit ?_; rw [sizeLine_eq]; omega)))); intro h' o' F' N' hd'; (try dsimp only at N')))
local macro_rules | `(tactic| walk_at "setItem ref int") => `(tactic| (k_here; (with_reducible show wpAny _ _ (setItem (Value.ref _) (Value.int _ _) (Value.ref _)) _ _ _); k_dflt (refine' kda_set (knd := PySem.intKind _ _) ?F ?N ?U ?d (intKind_is _ _ _ _) ?z ?_; (case F => k_asm); (case N => k_asm); (case U => k_updF); (case d => k_asm); (case z => (first | (simp only [kvsOf, List.length_map, sizeLine_eq]; omega) | (refine Nat.le_trans without_fit ?_; rw [sizeLine_eq]; omega)))); intro h' o' F' N' hd'; (try dsimp only at N')))
local macro_rules | `(tactic| walk_at "call ref") => `(tactic| (k_here; (try dsimp only [List.append_nil, List.nil_append, List.cons_append]); k_dflt (refine oldest_specN (by (exact Cx.deeper (by assumption) (by assumption) (by assumption) rfl rfl (by assumption) (by assumption) (by assumption) (by assumption))) (by k_asm) (by k_asm) (by omega) (by omega) (ArpOk.now (by assumption) (by assumption) (by assumption) (by k_asm) (by k_asm) (by k_mem) (mem_tds (by assumption) (by k_mem)) (by k_mem) (by assumption)) (ne_of_len (by omega) (by omega)) ?_); intro h' tk' t' F' N'; (try k_sweep)))

theorem new_entry_spec {w : World} {A : Around} {E : Value → Shared → Prop} {s : Shared} {h₀ : Heap} {L : Addr} {m : Str → Option Value} {d u : Nat}
  (C : Cx w A h₀ L d u) (F : Fr h₀ L s.heap m) (hd : d < 930) (hu9 : u < 8900) {G : Arp} (K : ArpOk w s.heap G) (hN : News h₀ L s.heap [(G.tbl, instObj 155 G.td), (G.td, dictOf G.tds 7), (G.dE, G.oE)])
  {a now : Int} {ta tn : Tok} (hnew : ∀ r ∈ G.R, r.a ≠ a) (hs1 : 1 ≤ G.size) (hs2 : (G.R.length : Int) ≤ G.size) (hs3 : G.size ≤ 4)
  {Q : Value → Shared → Prop} (h : ∀ h' tk (G' : Arp) (r : Ent), Fr h₀ L h' m → ArpOk w h' G' → G'.tbl = G.tbl → G'.td = G.td → G'.dE = G.dE → G'.size = G.size → G'.made = G.made + 1 → G'.R = roomFor G.R G.size ++ [r] → r.a = a → r.s = now → r.o = G.made → r.p = true → r.tr = 0 →
    News h₀ L h' [(G.tbl, instObj 155 G.td), (G.td, dictOf G'.tds 7), (G.dE, G'.oE), (r.ent, instObj 77 r.ed), (r.ed, dictOf r.es 6), (r.q, listOf #[] 0)] →
    (∀ b o, b ≠ G.td → b ≠ G.dE → s.heap.get? b = some o → h'.get? b = some o) → Q (.ref r.ent) {s with heap := h', toks := tk}) :
  wpAny (model PySem.Challenge.rw_xw0331_01.row.prog w) A (PySem.call (.ref 123) [.ref G.tbl, .int a ta, .int now tn]) Q E s := by
  refine Cx.out C ?_
  clear C
  intro A₀ base outer env p loose mean mg mb B X T hA hf hk hh hd' hu
  revert X
  k_fill
  intro X
  refine wpAny_call ?_
  refine TabD.out K.tdD ?_
  intro a0 a1 a2 a3 a4 a5 a6 b0 b1 b2 b3 b4 b5 b6 c0 c1 c2 c3 c4 c6 eT
  have hN' := hN
  rw [eT] at hN'
  (refine' code_defG ?k1 ?k2 ?k3 hN' ?k5 ?kA ?kF ?kK ?k6 ?k7 ?k8 ?k9 ?kB ?_ ?c2 ?c3 ?c4 ?c5; (case kA => assumption); (case kF => assumption); (case kK => assumption); (case k1 => k_asm); (case k2 => k_asm); (case k3 => k_asm); (case k5 => k_asm); (case k6 => k_is); (case k7 => k_is); (case k8 => k_room); (case k9 => first | exact BindsTo.of_eq rfl | exact binds_K (by k_in) rfl (by k_is) rfl rfl rfl | fail "k_enter: no rule for these arguments"); (case c5 => decide); (case kB => exact locs rfl); (case c2 => exact rfl); (case c3 => exact rfl); (case c4 => exact rfl); k_whole)
  intro g L' h1 FG F1 N1 B1 X1 T1 kG
  dsimp only
  refine with_frames hA ?_
  intro hA1
  k_fold
  have hap := K.apart
  have hEnts : ∀ r ∈ G.R, EntAt g r := fun r hr => by
    obtain ⟨⟨n1, n2, n3⟩, n4, n5, n6⟩ := hap r hr
    have Er := K.ents r hr
    exact ⟨kG _ _ Er.ent (by simp [n1, n2, n3]), kG _ _ Er.ed (by simp [n4, n5, n6]), Er.ok⟩
  have hDo := K.oE
  have hlo := K.lo
  have hfew := K.few
  have hEds := K.eds
  have hK3 : TabD G ∧ G.oE.IsDictOf (PySem.intKind PySem.Challenge.rw_xw0331_01.row.prog w) (kvsOf G.R) ∧ (G.dE == sysModules) = false := ⟨K.tdD, K.oE, K.lo⟩
  have n1 : @Ne Nat G.td G.tbl := fun e => by have h1 := K.tbl; rw [← (show G.td = G.tbl from e), K.td] at h1; cases h1
  have n2 : @Ne Nat G.dE G.tbl := fun e => by
    have h1 := K.tbl; rw [← (show G.dE = G.tbl from e), K.dE] at h1
    obtain ⟨_, _, hx, _⟩ := K.oE
    rw [Option.some.inj h1] at hx; cases hx.1
  have n3 : @Ne Nat G.dE G.td := fun e => by
    have h1 := K.td; rw [← (show G.dE = G.td from e), K.dE] at h1
    obtain ⟨es, ep, _, hdat, _, hpr, _⟩ := K.oE
    rw [Option.some.inj h1] at hdat
    injection hdat with h2 _
    rw [← h2, eT] at hpr
    generalize kvsOf G.R = kk at hpr
    cases hpr with
    | cons h3 _ _ => simp [PySem.intKind, Value.isInt] at h3
  have fin : ∀ (x dx l : Addr) (es tdl : List DictEntry) (o' : Obj) (R1 : List Ent) (h' : Heap) (tk : Nat), R1 = roomFor G.R G.size → (∀ b o, g.get? b = some o → h'.get? b = some o) →
      News g L' h' [(l, listOf #[] 0), (x, instObj 77 dx), (dx, dictOf es 6), (G.tbl, instObj 155 G.td), (G.td, dictOf tdl 7), (G.dE, o')] → Fr h₀ L h' m →
      News h₀ L h' [(l, listOf #[] 0), (x, instObj 77 dx), (dx, dictOf es 6), (G.tbl, instObj 155 G.td), (G.td, dictOf tdl 7), (G.dE, o')] →
      EntD ⟨a, now, G.made, true, .none, x, dx, es, l, 0⟩ → TabD { G with tds := tdl, made := G.made + 1 } → o'.IsDictOf (PySem.intKind PySem.Challenge.rw_xw0331_01.row.prog w) (stored (kvsOf R1) a (.ref x)) →
      Q (.ref x) { s with heap := h', toks := tk } := by
    rintro x dx l es tdl o' R1 h' tk rfl hk N kF kN hED hTD hDo'
    have hsub : ∀ r ∈ roomFor G.R G.size, r ∈ G.R := fun r hr => by
      unfold roomFor at hr; split at hr
      · exact (List.mem_filter.mp hr).1
      · exact hr
    have hst : stored (kvsOf (roomFor G.R G.size)) a (.ref x) = kvsOf (roomFor G.R G.size ++ [⟨a, now, G.made, true, .none, x, dx, es, l, 0⟩]) := by
      rw [stored_new]
      · unfold kvsOf; rw [List.map_append]; rfl
      · intro p hp
        obtain ⟨r, hr, rfl⟩ := List.mem_map.mp hp
        exact hnew r (hsub r hr)
    rw [hst] at hDo'
    have hlen : (roomFor G.R G.size).length ≤ G.R.length := by
      unfold roomFor; split
      · exact List.length_filter_le _ _
      · exact Nat.le_refl _
    refine h h' tk { G with tds := tdl, oE := o', made := G.made + 1, R := roomFor G.R G.size ++ [⟨a, now, G.made, true, .none, x, dx, es, l, 0⟩] } ⟨a, now, G.made, true, .none, x, dx, es, l, 0⟩ kF ?_ rfl rfl rfl rfl rfl rfl rfl rfl rfl rfl rfl ?_ ?_
    · refine ⟨N.get (by k_mem), N.get (by k_mem), hTD, N.get (by k_mem), hDo', hlo, ?_, ?_, ?_⟩
      · intro r hr
        rcases List.mem_append.mp hr with hr | hr
        · exact (hEnts r (hsub r hr)).keeps hk
        · rw [List.mem_singleton.mp hr]
          exact ⟨N.get (by k_mem), N.get (by k_mem), hED, .inl ⟨rfl, rfl⟩⟩
      · rw [List.map_append, List.nodup_append]
        refine ⟨?_, by simp, ?_⟩
        · refine List.Nodup.sublist ?_ hEds
          unfold roomFor; split
          · exact List.Sublist.map _ List.filter_sublist
          · exact List.Sublist.refl _
        · intro b hb c hc e
          obtain ⟨r, hr, rfl⟩ := List.mem_map.mp hb
          have hc' : c = dx := by simpa using hc
          have h1 := N.fresh (a := dx) (o := dictOf es 6) (by k_mem)
          have h2 := (hEnts r (hsub r hr)).ed
          rw [e, hc', h1] at h2; cases h2
      · simp only [List.length_append, List.length_singleton]; omega
    · intro p hp
      refine kN p ?_
      simp only [List.mem_cons, List.mem_nil_iff, or_false] at hp ⊢
      rcases hp with h1 | h1 | h1 | h1 | h1 | h1 <;> simp [h1]
    · intro b o n1 n2 e
      by_cases hb : b = G.tbl
      · subst hb
        rw [K.tbl] at e; cases e
        exact N.get (by k_mem)
      · exact hk b o (kG b o e (by simp [n1, n2, hb]))
  k_steps
  · have hroom : roomFor G.R G.size = G.R.filter (fun r => decide (r.a ≠ oldestOf G.R)) := by
      unfold roomFor; rw [if_pos]; simpa [kvsOf] using ‹G.size ≤ ((kvsOf G.R).length : Int)›
    rename_i o9 F9 N9 D9 kF9 kN9 _ _
    rw [kvsOf_without, ← hroom] at D9
    exact fin _ _ _ _ _ _ _ _ _ rfl F9.keep N9 kF9 kN9 ⟨_, _, _, _, _, _, _, _, _, _, _, _, _, _, _, _, rfl⟩ ⟨_, _, _, _, _, _, _, _, _, _, _, _, _, _, _, _, _, _, _, _, rfl⟩ D9
  · have hroom : roomFor G.R G.size = G.R := by
      unfold roomFor; rw [if_neg]; simpa [kvsOf] using ‹¬ G.size ≤ ((kvsOf G.R).length : Int)›
    rename_i o9 F9 N9 D9 kF9 kN9 _ _
    rw [← hroom] at D9
    exact fin _ _ _ _ _ _ _ _ _ rfl F9.keep N9 kF9 kN9 ⟨_, _, _, _, _, _, _, _, _, _, _, _, _, _, _, _, rfl⟩ ⟨_, _, _, _, _, _, _, _, _, _, _, _, _, _, _, _, _, _, _, _, rfl⟩ D9
end P5
section P6
theorem roomFor_sub {R : List Ent} {size : Int} : ∀ r ∈ roomFor R size, r ∈ R := fun r hr => by
  unfold roomFor at hr; split at hr
  · exact (List.mem_filter.mp hr).1
  · exact hr
theorem valueAt_none {R : List Ent} {a : Int} (h : ∀ r ∈ R, r.a ≠ a) : valueAt (kvsOf R) a = none := by
  unfold valueAt
  rw [Option.map_eq_none_iff, List.find?_eq_none]
  intro p hp
  obtain ⟨r, hr, rfl⟩ := List.mem_map.mp hp
  simpa using h r hr
theorem ne_of_get {h : Heap} {a b : Addr} {o o' : Obj} (ha : h.get? a = some o) (hb : h.get? b = some o') (hne : o ≠ o') : @Ne Nat a b := fun e => by
  rw [show a = b from e, hb] at ha; exact hne (Option.some.inj ha).symm
theorem inst_ne_dict {C dx : Addr} {es : List DictEntry} {n : Nat} : instObj C dx ≠ dictOf es n := fun e => by have h := congrArg Obj.data e; cases h
theorem dict_ne_list {es : List DictEntry} {n k : Nat} {vs : Array Value} : dictOf es n ≠ listOf vs k := fun e => by have h := congrArg Obj.data e; cases h
theorem inst_ne_list {C dx : Addr} {k : Nat} {vs : Array Value} : instObj C dx ≠ listOf vs k := fun e => by have h := congrArg Obj.data e; cases h
local macro_rules | `(tactic| walk_at "call builtin:dict.get") => `(tactic| (k_here; k_dflt (refine kdg_get1 (knd := PySem.intKind _ _) (by k_asm) (by k_mem) (by assumption) (by assumption) (intKind_is _ _ _ _) _ (by assumption) ?_); (try dsimp only [Option.getD])))

theorem learn_new {w : World} {A : Around} {E : Value → Shared → Prop} {s : Shared} {h₀ : Heap} {L : Addr} {m : Str → Option Value} {d u : Nat}
  (C : Cx w A h₀ L d u) (F : Fr h₀ L s.heap m) (hd : d < 920) (hu9 : u < 8800) {G : Arp} (K : ArpOk w s.heap G) (hN : News h₀ L s.heap [(G.tbl, instObj 155 G.td), (G.td, dictOf G.tds 7), (G.dE, G.oE)])
  {a now li : Int} {ta tn tl : Tok} (hnew : ∀ r ∈ G.R, r.a ≠ a) (hs1 : 1 ≤ G.size) (hs2 : (G.R.length : Int) ≤ G.size) (hs3 : G.size ≤ 4)
  {Q : Value → Shared → Prop} (h : ∀ h' tk (G' : Arp) (r : Ent) q, Fr h₀ L h' m → ArpOk w h' G' → G'.tbl = G.tbl → G'.td = G.td → G'.dE = G.dE → G'.size = G.size → G'.made = G.made + 1 → G'.R = roomFor G.R G.size ++ [r] → r.a = a → r.s = now → r.o = G.made → r.p = false →
    News h₀ L h' [(G.tbl, instObj 155 G.td), (G.td, dictOf G'.tds 7), (G.dE, G'.oE), (r.ent, instObj 77 r.ed), (r.ed, dictOf r.es 6), (q, listOf #[] 0)] →
    (∀ b o, b ≠ G.td → b ≠ G.dE → s.heap.get? b = some o → h'.get? b = some o) → Q (.ref q) {s with heap := h', toks := tk}) :
  wpAny (model PySem.Challenge.rw_xw0331_01.row.prog w) A (PySem.call (.ref 131) [.ref G.tbl, .int a ta, .int li tl, .int now tn]) Q E s := by
  refine Cx.out C ?_
  clear C
  intro A₀ base outer env p loose mean mg mb B X T hA hf hk hh hd' hu
  revert X
  k_fill
  intro X
  refine wpAny_call ?_
  refine TabD.out K.tdD ?_
  intro a0 a1 a2 a3 a4 a5 a6 b0 b1 b2 b3 b4 b5 b6 c0 c1 c2 c3 c4 c6 eT
  have hN' := hN
  rw [eT] at hN'
  (refine' code_defG ?k1 ?k2 ?k3 hN' ?k5 ?kA ?kF ?kK ?k6 ?k7 ?k8 ?k9 ?kB ?_ ?c2 ?c3 ?c4 ?c5; (case kA => assumption); (case kF => assumption); (case kK => assumption); (case k1 => k_asm); (case k2 => k_asm); (case k3 => k_asm); (case k5 => k_asm); (case k6 => k_is); (case k7 => k_is); (case k8 => k_room); (case k9 => first | exact BindsTo.of_eq rfl | exact binds_K (by k_in) rfl (by k_is) rfl rfl rfl | fail "k_enter: no rule for these arguments"); (case c5 => decide); (case kB => exact locs rfl); (case c2 => exact rfl); (case c3 => exact rfl); (case c4 => exact rfl); k_whole)
  intro g L' h1 FG F1 N1 B1 X1 T1 kG
  dsimp only
  k_fold
  have hap := K.apart
  have hEnts : ∀ r ∈ G.R, EntAt g r := fun r hr => by
    obtain ⟨⟨n1, n2, n3⟩, n4, n5, n6⟩ := hap r hr
    have Er := K.ents r hr
    exact ⟨kG _ _ Er.ent (by simp [n1, n2, n3]), kG _ _ Er.ed (by simp [n4, n5, n6]), Er.ok⟩
  have hDo := K.oE
  have hlo := K.lo
  have hfew := K.few
  have hEds := K.eds
  have hK3 : TabD G ∧ G.oE.IsDictOf (PySem.intKind PySem.Challenge.rw_xw0331_01.row.prog w) (kvsOf G.R) ∧ (G.dE == sysModules) = false := ⟨K.tdD, K.oE, K.lo⟩
  have hva : valueAt (kvsOf G.R) a = none := valueAt_none hnew
  k_steps
  refine new_entry_spec (G := G) (by (exact Cx.deeper (by assumption) (by assumption) (by assumption) rfl rfl (by assumption) (by assumption) (by assumption) (by assumption))) (by k_asm) (by omega) (by omega) (ArpOk.now hEnts hEds hfew (by k_asm) (by k_asm) (by k_mem) (mem_tds eT (by k_mem)) (by k_mem) hK3) (by rw [eT]; k_asm) hnew hs1 hs2 hs3 ?_
  intro h2 tk2 G' r F2 K2 e1 e2 e3 e4 e5 e6 ra rs ro rp rtr N2 pr2
  have hrm : r ∈ G'.R := by rw [e6]; simp
  have Er := K2.ents r hrm
  obtain ⟨⟨m1, m2, m3⟩, m4, m5, m6⟩ := K2.apart r hrm
  rw [e1] at m1 m4
  rw [e2] at m2 m5
  rw [e3] at m3 m6
  have x1 : @Ne Nat r.ed r.ent := ne_of_get Er.ed Er.ent inst_ne_dict.symm
  have x2 : @Ne Nat r.ed r.q := ne_of_get Er.ed (N2.get (by k_mem)) dict_ne_list
  have x3 : @Ne Nat r.ent r.q := ne_of_get Er.ent (N2.get (by k_mem)) inst_ne_list
  have x4 : @Ne Nat r.ed G.tbl := m4
  have x5 : @Ne Nat r.ed G.td := m5
  have x6 : @Ne Nat r.ed G.dE := m6
  refine EntD.out Er.ok.d ?_
  intro f0 f1 f2 f3 f4 f5 g0 g1 g2 g3 g4 g5 q0 q1 q3 q4 eR
  have hlk : r.lk = .none := by
    rcases Er.ok.l with ⟨_, h1⟩ | ⟨h1, _⟩
    · exact h1
    · rw [rp] at h1; cases h1
  have eR0 := eR
  rw [hlk, ra, ro] at eR
  rw [eR] at N2
  have fin : ∀ (es : List DictEntry) (h' : Heap) (tk : Nat), (∀ b o, g.get? b = some o → h'.get? b = some o) → ∀ qn : Addr × Obj,
      News g L' h' [qn, (G.tbl, instObj 155 G.td), (G.td, dictOf G'.tds 7), (G.dE, G'.oE), (r.ent, instObj 77 r.ed), (r.ed, dictOf es 6), (r.q, listOf #[] 0)] → Fr h₀ L h' m →
      News h₀ L h' [qn, (G.tbl, instObj 155 G.td), (G.td, dictOf G'.tds 7), (G.dE, G'.oE), (r.ent, instObj 77 r.ed), (r.ed, dictOf es 6), (r.q, listOf #[] 0)] →
      EntD ⟨a, now, G.made, false, .int li tl, r.ent, r.ed, es, qn.1, 0⟩ → Q (.ref r.q) { s with heap := h', toks := tk } := by
    intro es h' tk hk' qn N kF kN hED
    refine h h' tk { G' with R := roomFor G.R G.size ++ [⟨a, now, G.made, false, .int li tl, r.ent, r.ed, es, qn.1, 0⟩] } ⟨a, now, G.made, false, .int li tl, r.ent, r.ed, es, qn.1, 0⟩ r.q kF ?_ e1 e2 e3 e4 e5 rfl rfl rfl rfl rfl (fun p hp => kN p (.tail _ hp)) ?_
    · refine ⟨by dsimp only; rw [e1, e2]; exact N.get (by k_mem), by dsimp only; rw [e2]; exact N.get (by k_mem), K2.tdD, by dsimp only; rw [e3]; exact N.get (by k_mem), ?_, K2.lo, ?_, ?_, ?_⟩
      · have h1 := K2.oE
        rw [e6] at h1
        unfold kvsOf at h1 ⊢
        rw [List.map_append] at h1 ⊢
        rw [List.map_cons, List.map_nil, ra] at h1
        exact h1
      · intro r0 hr0
        rcases List.mem_append.mp hr0 with hr0 | hr0
        · exact (hEnts r0 (roomFor_sub r0 hr0)).keeps hk'
        · rw [List.mem_singleton.mp hr0]
          exact ⟨N.get (by k_mem), N.get (by k_mem), hED, .inr ⟨rfl, _, _, rfl⟩⟩
      · have h1 := K2.eds
        rw [e6, List.map_append] at h1
        rw [List.map_append]; exact h1
      · have h1 := K2.few
        rw [e6, List.length_append] at h1
        rw [List.length_append]; exact h1
    · intro b o n1 n2 e
      by_cases hb : b = G.tbl
      · subst hb
        rw [K.tbl] at e; cases e
        exact N.get (by k_mem)
      · exact hk' b o (kG b o e (by simp [n1, n2, hb]))
  k_steps
  rename_i F9 N9 kF9 kN9 _ _
  exact fin _ _ _ F9.keep _ N9 kF9 kN9 ⟨_, _, _, _, _, _, _, _, _, _, _, _, _, _, _, _, rfl⟩
end P6
section P7
local macro_rules | `(tactic| walk_at "call builtin:dict.get") => `(tactic| (k_here; k_dflt (refine kdg_get1 (knd := PySem.intKind _ _) (by k_asm) (by k_mem) (by assumption) (by assumption) (intKind_is _ _ _ _) _ (by assumption) ?_); (try dsimp only [Option.getD])))

theorem ask_new {w : World} {A : Around} {E : Value → Shared → Prop} {s : Shared} {h₀ : Heap} {L : Addr} {m : Str → Option Value} {d u : Nat}
  (C : Cx w A h₀ L d u) (F : Fr h₀ L s.heap m) (hd : d < 920) (hu9 : u < 8800) {G : Arp} (K : ArpOk w s.heap G) (hN : News h₀ L s.heap [(G.tbl, instObj 155 G.td), (G.td, dictOf G.tds 7), (G.dE, G.oE)])
  {a now : Int} {ta tn : Tok} {pv : Value} (hnew : ∀ r ∈ G.R, r.a ≠ a) (hs1 : 1 ≤ G.size) (hs2 : (G.R.length : Int) ≤ G.size) (hs3 : G.size ≤ 4)
  {Q : Value → Shared → Prop} (h : ∀ h' tk (G' : Arp) (r : Ent), Fr h₀ L h' m → ArpOk w h' G' → G'.tbl = G.tbl → G'.td = G.td → G'.dE = G.dE → G'.size = G.size → G'.made = G.made + 1 → G'.R = roomFor G.R G.size ++ [r] → r.a = a → r.s = now → r.o = G.made → r.p = true →
    News h₀ L h' [(G.tbl, instObj 155 G.td), (G.td, dictOf G'.tds 7), (G.dE, G'.oE), (r.ent, instObj 77 r.ed), (r.ed, dictOf r.es 6)] →
    (∀ b o, b ≠ G.td → b ≠ G.dE → s.heap.get? b = some o → h'.get? b = some o) → Q (.bool true) {s with heap := h', toks := tk}) :
  wpAny (model PySem.Challenge.rw_xw0331_01.row.prog w) A (PySem.call (.ref 138) [.ref G.tbl, .int a ta, pv, .int now tn]) Q E s := by
  refine Cx.out C ?_
  clear C
  intro A₀ base outer env p loose mean mg mb B X T hA hf hk hh hd' hu
  revert X
  k_fill
  intro X
  refine wpAny_call ?_
  refine TabD.out K.tdD ?_
  intro a0 a1 a2 a3 a4 a5 a6 b0 b1 b2 b3 b4 b5 b6 c0 c1 c2 c3 c4 c6 eT
  have hN' := hN
  rw [eT] at hN'
  (refine' code_defG ?k1 ?k2 ?k3 hN' ?k5 ?kA ?kF ?kK ?k6 ?k7 ?k8 ?k9 ?kB ?_ ?c2 ?c3 ?c4 ?c5; (case kA => assumption); (case kF => assumption); (case kK => assumption); (case k1 => k_asm); (case k2 => k_asm); (case k3 => k_asm); (case k5 => k_asm); (case k6 => k_is); (case k7 => k_is); (case k8 => k_room); (case k9 => first | exact BindsTo.of_eq rfl | exact binds_K (by k_in) rfl (by k_is) rfl rfl rfl | fail "k_enter: no rule for these arguments"); (case c5 => decide); (case kB => exact locs rfl); (case c2 => exact rfl); (case c3 => exact rfl); (case c4 => exact rfl); k_whole)
  intro g L' h1 FG F1 N1 B1 X1 T1 kG
  dsimp only
  k_fold
  have hap := K.apart
  have hEnts : ∀ r ∈ G.R, EntAt g r := fun r hr => by
    obtain ⟨⟨n1, n2, n3⟩, n4, n5, n6⟩ := hap r hr
    have Er := K.ents r hr
    exact ⟨kG _ _ Er.ent (by simp [n1, n2, n3]), kG _ _ Er.ed (by simp [n4, n5, n6]), Er.ok⟩
  have hDo := K.oE
  have hlo := K.lo
  have hfew := K.few
  have hEds := K.eds
  have hK3 : TabD G ∧ G.oE.IsDictOf (PySem.intKind PySem.Challenge.rw_xw0331_01.row.prog w) (kvsOf G.R) ∧ (G.dE == sysModules) = false := ⟨K.tdD, K.oE, K.lo⟩
  have hva : valueAt (kvsOf G.R) a = none := valueAt_none hnew
  k_steps
  refine new_entry_spec (G := G) (by (exact Cx.deeper (by assumption) (by assumption) (by assumption) rfl rfl (by assumption) (by assumption) (by assumption) (by assumption))) (by k_asm) (by omega) (by omega) (ArpOk.now hEnts hEds hfew (by k_asm) (by k_asm) (by k_mem) (mem_tds eT (by k_mem)) (by k_mem) hK3) (by rw [eT]; k_asm) hnew hs1 hs2 hs3 ?_
  intro h2 tk2 G' r F2 K2 e1 e2 e3 e4 e5 e6 ra rs ro rp rtr N2 pr2
  have hrm : r ∈ G'.R := by rw [e6]; simp
  have Er := K2.ents r hrm
  obtain ⟨⟨m1, m2, m3⟩, m4, m5, m6⟩ := K2.apart r hrm
  rw [e1] at m1 m4
  rw [e2] at m2 m5
  rw [e3] at m3 m6
  have x1 : @Ne Nat r.ed r.ent := ne_of_get Er.ed Er.ent inst_ne_dict.symm
  have x2 : @Ne Nat r.ed r.q := ne_of_get Er.ed (N2.get (by k_mem)) dict_ne_list
  have x3 : @Ne Nat r.ent r.q := ne_of_get Er.ent (N2.get (by k_mem)) inst_ne_list
  have x4 : @Ne Nat r.ed G.tbl := m4
  have x5 : @Ne Nat r.ed G.td := m5
  have x6 : @Ne Nat r.ed G.dE := m6
  refine EntD.out Er.ok.d ?_
  intro f0 f1 f2 f3 f4 f5 g0 g1 g2 g3 g4 g5 q0 q1 q3 q4 eR
  have hlk : r.lk = .none := by
    rcases Er.ok.l with ⟨_, h1⟩ | ⟨h1, _⟩
    · exact h1
    · rw [rp] at h1; cases h1
  have eR0 := eR
  rw [hlk, ra, ro] at eR
  rw [eR] at N2
  have hqg := N2.get (a := r.q) (o := listOf #[] 0) (by k_mem)
  have y1 : @Ne Nat G.tbl r.q := ne_of_get (N2.get (by k_mem)) hqg inst_ne_list
  have y2 : @Ne Nat G.td r.q := ne_of_get (N2.get (by k_mem)) hqg dict_ne_list
  have y3 : @Ne Nat G.dE r.q := ne_of_get (N2.get (by k_mem)) hqg (fun e => by
    obtain ⟨_, _, hx, _⟩ := K2.oE
    rw [e] at hx; exact absurd (Value.type.inj hx.1) (by decide))
  refine TabD.out K2.tdD ?_
  intro aa0 aa1 aa2 aa3 aa4 aa5 aa6 bb0 bb1 bb2 bb3 bb4 bb5 bb6 cc0 cc1 cc2 cc3 cc4 cc6 eT2
  rw [eT2] at N2
  have fin : ∀ (es : List DictEntry) (qo : Obj) (h' : Heap) (tk : Nat), (∀ b o, g.get? b = some o → h'.get? b = some o) →
      News g L' h' [(G.tbl, instObj 155 G.td), (G.td, dictOf G'.tds 7), (G.dE, G'.oE), (r.ent, instObj 77 r.ed), (r.ed, dictOf es 6), (r.q, qo)] → Fr h₀ L h' m →
      News h₀ L h' [(G.tbl, instObj 155 G.td), (G.td, dictOf G'.tds 7), (G.dE, G'.oE), (r.ent, instObj 77 r.ed), (r.ed, dictOf es 6), (r.q, qo)] →
      EntD ⟨a, now, G.made, true, .none, r.ent, r.ed, es, r.q, 1⟩ → Q (.bool true) { s with heap := h', toks := tk } := by
    intro es qo h' tk hk' N kF kN hED
    refine h h' tk { G' with R := roomFor G.R G.size ++ [⟨a, now, G.made, true, .none, r.ent, r.ed, es, r.q, 1⟩] } ⟨a, now, G.made, true, .none, r.ent, r.ed, es, r.q, 1⟩ kF ?_ e1 e2 e3 e4 e5 rfl rfl rfl rfl rfl (fun p hp => kN p ?_) ?_
    · refine ⟨by dsimp only; rw [e1, e2]; exact N.get (by k_mem), by dsimp only; rw [e2]; exact N.get (by k_mem), K2.tdD, by dsimp only; rw [e3]; exact N.get (by k_mem), ?_, K2.lo, ?_, ?_, ?_⟩
      · have h1 := K2.oE
        rw [e6] at h1
        unfold kvsOf at h1 ⊢
        rw [List.map_append] at h1 ⊢
        rw [List.map_cons, List.map_nil, ra] at h1
        exact h1
      · intro r0 hr0
        rcases List.mem_append.mp hr0 with hr0 | hr0
        · exact (hEnts r0 (roomFor_sub r0 hr0)).keeps hk'
        · rw [List.mem_singleton.mp hr0]
          exact ⟨N.get (by k_mem), N.get (by k_mem), hED, .inl ⟨rfl, rfl⟩⟩
      · have h1 := K2.eds
        rw [e6, List.map_append] at h1
        rw [List.map_append]; exact h1
      · have h1 := K2.few
        rw [e6, List.length_append] at h1
        rw [List.length_append]; exact h1
    · simp only [List.mem_cons, List.mem_nil_iff, or_false] at hp ⊢
      rcases hp with h1 | h1 | h1 | h1 | h1 <;> simp [h1]
    · intro b o n1 n2 e
      by_cases hb : b = G.tbl
      · subst hb
        rw [K.tbl] at e; cases e
        exact N.get (by k_mem)
      · exact hk' b o (kG b o e (by simp [n1, n2, hb]))
  k_steps
  rename_i F9 N9 _ kF9 kN9 _ _
  exact fin _ _ _ _ F9.keep (by rw [eT2]; exact N9) kF9 (by rw [eT2]; exact kN9) ⟨_, _, _, _, _, _, _, _, _, _, _, _, _, _, _, _, rfl⟩
end P7
section P8
local macro_rules | `(tactic| walk_at "call builtin:dict.get") => `(tactic| (k_here; k_dflt (refine kdg_get1 (knd := PySem.intKind _ _) (by k_asm) (by k_mem) (by assumption) (by assumption) (intKind_is _ _ _ _) _ (by assumption) ?_); (try dsimp only [Option.getD])))

theorem learn_old {w : World} {A : Around} {E : Value → Shared → Prop} {s : Shared} {h₀ : Heap} {L : Addr} {m : Str → Option Value} {d u : Nat}
  (C : Cx w A h₀ L d u) (F : Fr h₀ L s.heap m) (hd : d < 920) (hu9 : u < 8800) {G : Arp} (K : ArpOk w s.heap G) {R1 R2 : List Ent} {r : Ent} (hR : G.R = R1 ++ r :: R2)
  (hN : News h₀ L s.heap [(G.tbl, instObj 155 G.td), (G.td, dictOf G.tds 7), (G.dE, G.oE), (r.ent, instObj 77 r.ed), (r.ed, dictOf r.es 6)])
  {now li : Int} {ta tn tl : Tok}
  {Q : Value → Shared → Prop} (h : ∀ h' tk (r' : Ent) q, Fr h₀ L h' m → ArpOk w h' { G with R := R1 ++ r' :: R2 } → r'.a = r.a → r'.s = now → r'.o = r.o → r'.p = false → r'.ent = r.ent → r'.ed = r.ed →
    (∀ b o, b ≠ r.ed → s.heap.get? b = some o → h'.get? b = some o) → Q (.ref q) {s with heap := h', toks := tk}) :
  wpAny (model PySem.Challenge.rw_xw0331_01.row.prog w) A (PySem.call (.ref 131) [.ref G.tbl, .int r.a ta, .int li tl, .int now tn]) Q E s := by
  refine Cx.out C ?_
  clear C
  intro A₀ base outer env p loose mean mg mb B X T hA hf hk hh hd' hu
  revert X
  k_fill
  intro X
  refine wpAny_call ?_
  have hrm : r ∈ G.R := by rw [hR]; simp
  have Er := K.ents r hrm
  refine TabD.out K.tdD ?_
  intro a0 a1 a2 a3 a4 a5 a6 b0 b1 b2 b3 b4 b5 b6 c0 c1 c2 c3 c4 c6 eT
  refine EntD.out Er.ok.d ?_
  intro f0 f1 f2 f3 f4 f5 g0 g1 g2 g3 g4 g5 q0 q1 q3 q4 eR
  have hN' := hN
  rw [eT, eR] at hN'
  (refine' code_defG ?k1 ?k2 ?k3 hN' ?k5 ?kA ?kF ?kK ?k6 ?k7 ?k8 ?k9 ?kB ?_ ?c2 ?c3 ?c4 ?c5; (case kA => assumption); (case kF => assumption); (case kK => assumption); (case k1 => k_asm); (case k2 => k_asm); (case k3 => k_asm); (case k5 => k_asm); (case k6 => k_is); (case k7 => k_is); (case k8 => k_room); (case k9 => first | exact BindsTo.of_eq rfl | exact binds_K (by k_in) rfl (by k_is) rfl rfl rfl | fail "k_enter: no rule for these arguments"); (case c5 => decide); (case kB => exact locs rfl); (case c2 => exact rfl); (case c3 => exact rfl); (case c4 => exact rfl); k_whole)
  intro g L' h1 FG F1 N1 B1 X1 T1 kG
  dsimp only
  k_fold
  obtain ⟨⟨m1, m2, m3⟩, m4, m5, m6⟩ := K.apart r hrm
  have x1 : @Ne Nat r.ed r.ent := ne_of_get Er.ed Er.ent inst_ne_dict.symm
  have x4 : @Ne Nat r.ed G.tbl := m4
  have x5 : @Ne Nat r.ed G.td := m5
  have x6 : @Ne Nat r.ed G.dE := m6
  have hDo := K.oE
  have hlo := K.lo
  have hva : valueAt (kvsOf G.R) r.a = some (.ref r.ent) := valueAt_mem (kvsOf_nodup K.oE) (List.mem_map.mpr ⟨r, hrm, rfl⟩)
  have hnd := K.eds
  rw [hR, List.map_append, List.map_cons] at hnd
  have hothers : ∀ r0, r0 ∈ R1 ∨ r0 ∈ R2 → r0.ed ≠ r.ed := fun r0 hr0 e => by
    rw [List.nodup_append] at hnd
    obtain ⟨_, h2, h3⟩ := hnd
    rcases hr0 with h1 | h1
    · exact h3 _ (List.mem_map.mpr ⟨r0, h1, rfl⟩) _ (List.mem_cons_self ..) e
    · rw [List.nodup_cons] at h2
      exact h2.1 (e ▸ List.mem_map.mpr ⟨r0, h1, rfl⟩)
  have hEnts : ∀ r0, r0 ∈ R1 ∨ r0 ∈ R2 → EntAt g r0 := fun r0 hr0 => by
    have hm0 : r0 ∈ G.R := by rw [hR]; simpa using hr0.elim .inl (fun h => .inr (.inr h))
    obtain ⟨⟨n1, n2, n3⟩, n4, n5, n6⟩ := K.apart r0 hm0
    have E0 := K.ents r0 hm0
    have n7 : r0.ent ≠ r.ent := fun e => hothers r0 hr0 (by
      have h1 := E0.ent; rw [e, Er.ent] at h1
      have h2 := congrArg Obj.dict (Option.some.inj h1)
      exact (Option.some.inj h2).symm)
    have n8 : r0.ent ≠ r.ed := ne_of_get E0.ent Er.ed inst_ne_dict
    have n9 : r0.ed ≠ r.ent := ne_of_get E0.ed Er.ent inst_ne_dict.symm
    exact ⟨kG _ _ E0.ent (by simp [n1, n2, n3, n7, n8]), kG _ _ E0.ed (by simp [n4, n5, n6, n9, hothers r0 hr0]), E0.ok⟩
  have fin : ∀ (es : List DictEntry) (h' : Heap) (tk : Nat) (qn : Addr × Obj) (qv : Addr), (∀ b o, g.get? b = some o → h'.get? b = some o) →
      News g L' h' [qn, (G.tbl, instObj 155 G.td), (G.td, dictOf G.tds 7), (G.dE, G.oE), (r.ent, instObj 77 r.ed), (r.ed, dictOf es 6)] → Fr h₀ L h' m →
      EntD ⟨r.a, now, r.o, false, .int li tl, r.ent, r.ed, es, qn.1, 0⟩ → Q (.ref qv) { s with heap := h', toks := tk } := by
    intro es h' tk qn qv hk' N kF hED
    refine h h' tk ⟨r.a, now, r.o, false, .int li tl, r.ent, r.ed, es, qn.1, 0⟩ qv kF ?_ rfl rfl rfl rfl rfl rfl ?_
    · refine ⟨N.get (by k_mem), N.get (by k_mem), K.tdD, N.get (by k_mem), ?_, K.lo, ?_, ?_, ?_⟩
      · have h1 := K.oE
        rw [hR] at h1
        unfold kvsOf at h1 ⊢
        rw [List.map_append] at h1 ⊢
        exact h1
      · intro r0 hr0
        rcases List.mem_append.mp hr0 with hr0 | hr0
        · exact (hEnts r0 (.inl hr0)).keeps hk'
        · rcases List.mem_cons.mp hr0 with rfl | hr0
          · exact ⟨N.get (by k_mem), N.get (by k_mem), hED, .inr ⟨rfl, _, _, rfl⟩⟩
          · exact (hEnts r0 (.inr hr0)).keeps hk'
      · rw [List.map_append]; exact hnd
      · have h1 := K.few
        rw [hR, List.length_append] at h1
        rw [List.length_append]; exact h1
    · intro b o n1 e
      by_cases hb1 : b = G.tbl
      · subst hb1; rw [K.tbl] at e; cases e; exact N.get (by k_mem)
      by_cases hb2 : b = G.td
      · subst hb2; rw [K.td] at e; cases e; exact N.get (by k_mem)
      by_cases hb3 : b = G.dE
      · subst hb3; rw [K.dE] at e; cases e; exact N.get (by k_mem)
      by_cases hb4 : b = r.ent
      · subst hb4; rw [Er.ent] at e; cases e; exact N.get (by k_mem)
      exact hk' b o (kG b o e (by simp [n1, hb1, hb2, hb3, hb4]))
  k_steps
  rename_i F9 N9 kF9 kN9 _ _
  exact fin _ _ _ _ _ F9.keep (by rw [eT]; exact N9) kF9 ⟨_, _, _, _, _, _, _, _, _, _, _, _, _, _, _, _, rfl⟩
end P8
section P9
local macro_rules | `(tactic| ke_room) => `(tactic| (show PySem.Around.units _ + 3 + 64 < _; have hCL9 := cl_is; omega))
local macro_rules | `(tactic| walk_at "subscriptTail") => `(tactic| (k_here; (with_reducible show wpAny _ _ (subscriptTail _ _ (Value.ref _) (Value.int _ _)) _ _ _); k_dflt (refine kda_item (knd := PySem.intKind _ _) (by k_asm) (by k_mem) (by k_asm) (intKind_is _ _ _ _) (by assumption) ?_)))

theorem new_right_spec {w : World} {A : Around} {E : Value → Shared → Prop} {s : Shared} {h₀ : Heap} {L : Addr} {m : Str → Option Value} {d u : Nat}
  (C : Cx w A h₀ L d u) (F : Fr h₀ L s.heap m) (hd : d < 910) (hu9 : u < 8700) {G : Arp} (K : ArpOk w s.heap G) (hN : News h₀ L s.heap [(G.tbl, instObj 155 G.td), (G.td, dictOf G.tds 7), (G.dE, G.oE)])
  {a now wy : Int} {ta tn tw : Tok} (hnew : ∀ r ∈ G.R, r.a ≠ a) (hs1 : 1 ≤ G.size) (hs2 : (G.R.length : Int) ≤ G.size) (hs3 : G.size ≤ 4) (hw0 : 0 ≤ wy)
  {Q : Value → Shared → Prop} (h : ∀ h' tk (G' : Arp) (r : Ent), Fr h₀ L h' m → ArpOk w h' G' → G'.tbl = G.tbl → G'.td = G.td → G'.dE = G.dE → G'.size = G.size → G'.made = G.made + 1 → G'.R = roomFor G.R G.size ++ [r] → r.a = a → r.s = now → r.o = G.made → r.p = decide (0 < wy) →
    News h₀ L h' [(G.tbl, instObj 155 G.td), (G.td, dictOf G'.tds 7), (G.dE, G'.oE), (r.ent, instObj 77 r.ed), (r.ed, dictOf r.es 6)] →
    (∀ b o, b ≠ G.td → b ≠ G.dE → s.heap.get? b = some o → h'.get? b = some o) → Q (.bool true) {s with heap := h', toks := tk}) :
  wpAny (model PySem.Challenge.rw_xw0331_01.row.prog w) A (PySem.call (.ref 185) [.ref G.tbl, .int a ta, .int now tn, .int wy tw]) Q E s := by
  refine Cx.out C ?_
  clear C
  intro A₀ base outer env p loose mean mg mb B X T hA hf hk hh hd' hu
  revert X
  k_fill
  intro X
  refine wpAny_call ?_
  refine TabD.out K.tdD ?_
  intro a0 a1 a2 a3 a4 a5 a6 b0 b1 b2 b3 b4 b5 b6 c0 c1 c2 c3 c4 c6 eT
  have hN' := hN
  rw [eT] at hN'
  (refine' code_defG ?k1 ?k2 ?k3 hN' ?k5 ?kA ?kF ?kK ?k6 ?k7 ?k8 ?k9 ?kB ?_ ?c2 ?c3 ?c4 ?c5; (case kA => assumption); (case kF => assumption); (case kK => assumption); (case k1 => k_asm); (case k2 => k_asm); (case k3 => k_asm); (case k5 => k_asm); (case k6 => k_is); (case k7 => k_is); (case k8 => k_room); (case k9 => first | exact BindsTo.of_eq rfl | exact binds_K (by k_in) rfl (by k_is) rfl rfl rfl | fail "k_enter: no rule for these arguments"); (case c5 => decide); (case kB => exact locs rfl); (case c2 => exact rfl); (case c3 => exact rfl); (case c4 => exact rfl); k_whole)
  intro g L' h1 FG F1 N1 B1 X1 T1 kG
  dsimp only
  k_fold
  have hap := K.apart
  have hEnts : ∀ r ∈ G.R, EntAt g r := fun r hr => by
    obtain ⟨⟨n1, n2, n3⟩, n4, n5, n6⟩ := hap r hr
    have Er := K.ents r hr
    exact ⟨kG _ _ Er.ent (by simp [n1, n2, n3]), kG _ _ Er.ed (by simp [n4, n5, n6]), Er.ok⟩
  have hEds := K.eds
  have hfew := K.few
  have hK3 : TabD G ∧ G.oE.IsDictOf (PySem.intKind PySem.Challenge.rw_xw0331_01.row.prog w) (kvsOf G.R) ∧ (G.dE == sysModules) = false := ⟨K.tdD, K.oE, K.lo⟩
  have fin : ∀ (G' : Arp) (r : Ent) (h' : Heap) (tk : Nat), (∀ b o, g.get? b = some o → h'.get? b = some o) → Fr h₀ L h' m →
      News h₀ L h' [(G.tbl, instObj 155 G.td), (G.td, dictOf G'.tds 7), (G.dE, G'.oE), (r.ent, instObj 77 r.ed), (r.ed, dictOf r.es 6)] → ArpOk w h' G' →
      G'.tbl = G.tbl → G'.td = G.td → G'.dE = G.dE → G'.size = G.size → G'.made = G.made + 1 → G'.R = roomFor G.R G.size ++ [r] → r.a = a → r.s = now → r.o = G.made → r.p = decide (0 < wy) → Q (.bool true) { s with heap := h', toks := tk } := by
    intro G' r h' tk hk' kF kN K' e1 e2 e3 e4 e5 e6 ra rs ro rp
    refine h h' tk G' r kF K' e1 e2 e3 e4 e5 e6 ra rs ro rp kN ?_
    intro b o n1 n2 e
    by_cases hb : b = G.tbl
    · subst hb
      rw [K.tbl] at e; cases e
      exact kN.get (by k_mem)
    · exact hk' b o (kG b o e (by simp [n1, n2, hb]))
  have fin2 : ∀ (G' : Arp) (r : Ent) (h1 h' : Heap) (tk : Nat), ArpOk w h1 G' → (∀ r ∈ roomFor G.R G.size, EntAt h' r) → (∀ b o, g.get? b = some o → h'.get? b = some o) → Fr h₀ L h' m →
      News h₀ L h' [(G.tbl, instObj 155 G.td), (G.td, dictOf G'.tds 7), (G.dE, G'.oE), (r.ent, instObj 77 r.ed), (r.ed, dictOf r.es 6)] →
      G'.tbl = G.tbl → G'.td = G.td → G'.dE = G.dE → G'.size = G.size → G'.made = G.made + 1 → G'.R = roomFor G.R G.size ++ [r] → r.a = a → r.s = now → r.o = G.made → r.p = decide (0 < wy) → Q (.bool true) { s with heap := h', toks := tk } := by
    intro G' r h1 h' tk K1 hE hk' kF kN e1 e2 e3 e4 e5 e6 ra rs ro rp
    refine fin G' r h' tk hk' kF kN ⟨?_, ?_, K1.tdD, ?_, K1.oE, K1.lo, ?_, K1.eds, K1.few⟩ e1 e2 e3 e4 e5 e6 ra rs ro rp
    · rw [e1, e2]; exact kN.get (by k_mem)
    · rw [e2]; exact kN.get (by k_mem)
    · rw [e3]; exact kN.get (by k_mem)
    · intro r0 hr0
      rw [e6] at hr0
      rcases List.mem_append.mp hr0 with hr0 | hr0
      · exact hE r0 hr0
      · rw [List.mem_singleton.mp hr0]
        exact ⟨kN.get (by k_mem), kN.get (by k_mem), (K1.ents r (by rw [e6]; simp)).ok⟩
  k_steps
  · refine learn_new (G := G) (by (exact Cx.deeper (by assumption) (by assumption) (by assumption) rfl rfl (by assumption) (by assumption) (by assumption) (by assumption))) (by k_asm) (by omega) (by omega) (ArpOk.now hEnts hEds hfew (by k_asm) (by k_asm) (by k_mem) (mem_tds eT (by k_mem)) (by k_mem) hK3) (by rw [eT]; k_asm) hnew hs1 hs2 hs3 ?_
    intro h2 tk2 G' r q F2 K2 e1 e2 e3 e4 e5 e6 ra rs ro rp N2 pr2
    have hw : r.p = decide (0 < wy) := by rw [rp]; symm; rw [decide_eq_false_iff_not]; omega
    k_steps
    rename_i F9 N9 _ kF9 kN9 _ _
    refine fin2 G' r h2 _ _ K2 (fun r0 hr0 => (hEnts r0 (roomFor_sub r0 hr0)).keeps (Fr.keep F9)) (Fr.keep F9) kF9 (fun p hp => kN9 p ?_) e1 e2 e3 e4 e5 e6 ra rs ro hw
    simp only [List.mem_cons, List.mem_nil_iff, or_false] at hp ⊢
    rcases hp with h1 | h1 | h1 | h1 | h1 <;> simp [h1]
  · refine ask_new (G := G) (by (exact Cx.deeper (by assumption) (by assumption) (by assumption) rfl rfl (by assumption) (by assumption) (by assumption) (by assumption))) (by k_asm) (by omega) (by omega) (ArpOk.now hEnts hEds hfew (by k_asm) (by k_asm) (by k_mem) (mem_tds eT (by k_mem)) (by k_mem) hK3) (by rw [eT]; k_asm) hnew hs1 hs2 hs3 ?_
    intro h2 tk2 G' r F2 K2 e1 e2 e3 e4 e5 e6 ra rs ro rp N2 pr2
    have hw : r.p = decide (0 < wy) := by rw [rp]; symm; rw [decide_eq_true_iff]; omega
    k_steps
    rename_i kF9 kN9 _ _
    exact fin2 G' r h2 _ _ K2 (fun r0 hr0 => (hEnts r0 (roomFor_sub r0 hr0)).keeps (Fr.keep F2)) (Fr.keep F2) kF9 kN9 e1 e2 e3 e4 e5 e6 ra rs ro hw
  · refine new_entry_spec (G := G) (by (exact Cx.deeper (by assumption) (by assumption) (by assumption) rfl rfl (by assumption) (by assumption) (by assumption) (by assumption))) (by k_asm) (by omega) (by omega) (ArpOk.now hEnts hEds hfew (by k_asm) (by k_asm) (by k_mem) (mem_tds eT (by k_mem)) (by k_mem) hK3) (by rw [eT]; k_asm) hnew hs1 hs2 hs3 ?_
    intro h2 tk2 G' r F2 K2 e1 e2 e3 e4 e5 e6 ra rs ro rp rtr N2 pr2
    have hw : r.p = decide (0 < wy) := by rw [rp]; symm; rw [decide_eq_true_iff]; omega
    have hrm : r ∈ G'.R := by rw [e6]; simp
    have Er := K2.ents r hrm
    have hDo := K2.oE
    have hva : valueAt (kvsOf G'.R) a = some (.ref r.ent) := valueAt_mem (kvsOf_nodup K2.oE) (List.mem_map.mpr ⟨r, hrm, by rw [ra]⟩)
    refine EntD.out Er.ok.d ?_
    intro f0 f1 f2 f3 f4 f5 g0 g1 g2 g3 g4 g5 q0 q1 q3 q4 eR
    have hlk : r.lk = .none := by
      rcases Er.ok.l with ⟨_, h1⟩ | ⟨h1, _⟩
      · exact h1
      · rw [rp] at h1; cases h1
    rw [hlk, rtr] at eR
    have N3 := N2
    refine TabD.out K2.tdD ?_
    intro aa0 aa1 aa2 aa3 aa4 aa5 aa6 bb0 bb1 bb2 bb3 bb4 bb5 bb6 cc0 cc1 cc2 cc3 cc4 cc6 eT2
    rw [e3] at eT2
    rw [eR, eT2] at N2
    clear N3
    k_steps
    refine wpAny_getItem_of (knd := PySem.intKind _ _) (intKind_is _ _ _ _) (Heap.DictOf.mapOf (kda_dict (by k_asm) (by k_mem) hDo)) hva ?_
    k_steps
    rename_i F9 N9 _ kF9 kN9 _ _
    refine fin2 G' r h2 _ _ K2 (fun r0 hr0 => (hEnts r0 (roomFor_sub r0 hr0)).keeps (Fr.keep F9)) (Fr.keep F9) kF9 ?_ e1 e2 e3 e4 e5 e6 ra rs ro hw
    rw [eT2, eR]
    intro p hp
    refine kN9 p ?_
    simp only [List.mem_cons, List.mem_nil_iff, or_false] at hp ⊢
    rcases hp with h1 | h1 | h1 | h1 | h1 <;> simp [h1]
end P9
section P10
section
variable {prog : Program} {w : World} {A : Around} {E : Value → Shared → Prop} {s : Shared} {env : Env} {h₀ : Heap} {L : Addr} {m : Str → Option Value} {news : List (Addr × Obj)}
/-- what a comprehension over a list asks of its test and of its element -/
structure CompAsk (prog : Program) (w : World) (A : Around) (env : Env) (scope : Scope) (cl : List (Str × Addr)) (x : Str) (ifs : List Expr) (elt : Expr) (vs : List Value) (pz : Value → Bool) (Fz : Value → Value → Prop) (s₁ : Shared) : Prop where
  tests : ∀ C v s₂ m₂ E', v ∈ vs → s₂.heap.Ns (compEnvC scope cl C env).locals m₂ → m₂ x = some v → (∀ b o, s₁.heap.get? b = some o → s₂.heap.get? b = some o) →
    wpAny (model prog w) A (forIn ifs true fun c r => if r = true then do let ok ← isTrue c (compEnvC scope cl C env) (eval c (compEnvC scope cl C env)); pure (ForInStep.yield ok) else pure (ForInStep.yield r))
      (fun ok s₃ => ok = pz v ∧ Keeps s₂ s₃) E' s₂
  elt : ∀ C v s₂ m₂ E', v ∈ vs → pz v = true → s₂.heap.Ns (compEnvC scope cl C env).locals m₂ → m₂ x = some v → (∀ b o, s₁.heap.get? b = some o → s₂.heap.get? b = some o) →
    wpAny (model prog w) A (eval elt (compEnvC scope cl C env)) (fun y s₃ => Fz v y ∧ Keeps s₂ s₃) E' s₂

theorem comp_up {s₁ s₃ : Shared} {o' : Obj} (hk : ∀ b o, b ∉ [s₁.heap.objs.size] → (s₁.heap.push o').get? b = some o → s₃.heap.get? b = some o) : ∀ b o, s₁.heap.get? b = some o → s₃.heap.get? b = some o :=
  fun b o e => hk b o (fun hm => by rw [List.mem_singleton.mp hm] at e; exact Nat.lt_irrefl _ (Heap.lt_size e)) (Heap.get?_push_of_some _ e)

theorem assign_rows {elt iter : Expr} {x y : Str} {px py : Pos} {ifs : List Expr} {scope : Scope} {cl : List (Str × Addr)} {pos spos : Pos} {Q : Flow → Shared → Prop} (pz : Value → Bool) (Fz : Value → Value → Prop) (_F₀ : Fr h₀ L s.heap m) (_N₀ : News h₀ L s.heap news)
    (hsw : swapsWith (.ListComp elt [⟨.Name x px, iter, ifs, 0⟩] scope pos) (some (.Name y py)) spos.line env = pure true) (hL : env.locals = L)
    (hh : A.handled = none) (hclos : closureFor scope env = pure cl) (hcell : ∀ z ∈ scope.names, z.2 ≠ .cell) (hkind : scope.kind = .function)
    (hnames : ∀ z ∈ scope.names, z.2 = .local → scope.names.lookup z.1 = some .local) (hx : scope.names.lookup x = some .local)
    (hy : env.kindOf y = some .local) (hp : (env.scope.kind == .class || (env.scope.kind == .module && env.locals != env.globals)) = false)
    (h : wpAny (model prog w) A (eval iter env) (fun xv s₁ => ∃ ax vs, xv = .ref ax ∧ s₁.heap.IsList ax vs.toArray ∧ vs.length ≤ sizeLine ∧ Fr h₀ L s₁.heap m ∧ News h₀ L s₁.heap news ∧
      CompAsk prog w A env scope cl x ifs elt vs pz Fz s₁ ∧
      (∀ D (ys : List Value) n h' tk, Fr h₀ L h' (fun z => if z = y then some (.ref D) else m z) → News h₀ L h' ((D, listOf ys.toArray n) :: news) → (∀ p ∈ news, p.1 ≠ D) → s₁.heap.get? D = none → Paired Fz (vs.filter pz) ys → Q .next { s₁ with heap := h', toks := tk })) E s)
    (hs : ∀ x, foldedSetIterable iter env x = pure x) :
    wpAny (model prog w) A (exec (.Assign [.Name y py] (.ListComp elt [⟨.Name x px, iter, ifs, 0⟩] scope pos) spos) env) Q E s := by
  subst hL
  refine wpAny_Assign_ListComp_free pz Fz hsw hclos hcell hkind hnames hx hy hp (wpAny_mono h (fun xv s₁ h₁ => ?_) fun _ _ e => e) hs
  obtain ⟨ax, vs, rfl, hl, hsz, F, N, ask, hQ⟩ := h₁
  have hlt : ax < s₁.heap.objs.size := by obtain ⟨_, e, _⟩ := hl; exact Heap.lt_size e
  refine wpAny_pyIter_list hl ⟨s₁.heap.objs.size, [s₁.heap.objs.size, ax], [s₁.heap.objs.size], vs.toArray.size, _, _, m, rfl, Walks.list hh _ _ (Nat.ne_of_lt hlt) vs.toArray, (by rw [List.size_toArray]; exact hsz), ⟨⟨_, Heap.get?_push_size _ rfl, rfl, rfl⟩, hl.push _⟩, ?_, ?_, F.ns.push _, ⟨?_, ?_⟩, ?_⟩
  · intro b hb
    show b < (s₁.heap.push _).objs.size
    rw [Heap.size_push]
    rcases List.mem_cons.mp hb with rfl | hb
    · exact Nat.lt_succ_self _
    · rw [List.mem_singleton.mp hb]; exact Nat.lt_succ_of_lt hlt
  · intro hm
    rw [List.mem_singleton.mp hm] at F
    exact Nat.lt_irrefl _ F.ns.lt
  · intro C i v s₃ m₃ E' _ hP hn hm hk _
    exact ask.tests C v s₃ m₃ E' (by simpa using Array.mem_of_getElem? hP) hn hm (comp_up hk)
  · intro C i v s₃ m₃ E' _ hP hp' hn hm hk _
    exact ask.elt C v s₃ m₃ E' (by simpa using Array.mem_of_getElem? hP) hp' hn hm (comp_up hk)
  · intro D h' tk ys vs' hnew _ hpl hlen hP hF hn' hk
    have e : vs' = vs := by simpa using list_of_places hlen hP
    subst e
    obtain ⟨n, hpl⟩ := hpl
    have hD1 : s₁.heap.get? D = none := by
      cases e : s₁.heap.get? D with
      | none => rfl
      | some o' => rw [Heap.get?_push_of_some _ e] at hnew; cases hnew
    have keep : ∀ b o, b ≠ env.locals → s₁.heap.get? b = some o → h'.get? b = some o := fun b o hb e =>
      hk b o hb (fun hm => by rw [List.mem_singleton.mp hm] at e; exact Nat.lt_irrefl _ (Heap.lt_size e)) (Heap.get?_push_of_some _ e)
    refine hQ D ys.toList n h' tk ⟨hn', fun b o e => keep b o (Nat.ne_of_lt (Nat.lt_of_lt_of_le (Heap.lt_size e) F.above)) (F.keep b o e), F.above⟩ ?_ ?_ hD1 hF
    · intro p hp
      rcases List.mem_cons.mp hp with rfl | hp
      · refine ⟨by rw [Array.toArray_toList]; exact hpl, fun e => ?_, ?_⟩
        · obtain ⟨oL, _, _, hL, _⟩ := F.ns
          rw [← (show D = env.locals from e), hD1] at hL; cases hL
        · cases e : h₀.get? D with
          | none => rfl
          | some o' => rw [F.keep _ _ e] at hD1; cases hD1
      · exact ⟨keep _ _ (N p hp).2.1 (N p hp).1, (N p hp).2⟩
    · intro p hp e
      have := (N p hp).1
      rw [e, hD1] at this; cases this

theorem comp_rows {elt iter : Expr} {x : Str} {px : Pos} {ifs : List Expr} {scope : Scope} {cl : List (Str × Addr)} {pos : Pos} {Q : Value → Shared → Prop} (pz : Value → Bool) (Fz : Value → Value → Prop) (_F₀ : Fr h₀ L s.heap m) (_N₀ : News h₀ L s.heap news)
    (hh : A.handled = none) (hclos : closureFor scope env = pure cl) (hcell : ∀ z ∈ scope.names, z.2 ≠ .cell) (hkind : scope.kind = .function)
    (hnames : ∀ z ∈ scope.names, z.2 = .local → scope.names.lookup z.1 = some .local) (hx : scope.names.lookup x = some .local)
    (h : wpAny (model prog w) A (eval iter env) (fun xv s₁ => ∃ ax vs, xv = .ref ax ∧ s₁.heap.IsList ax vs.toArray ∧ vs.length ≤ sizeLine ∧ Fr h₀ L s₁.heap m ∧ News h₀ L s₁.heap news ∧
      CompAsk prog w A env scope cl x ifs elt vs pz Fz s₁ ∧
      (∀ D (ys : List Value) n h' tk, Fr h₀ L h' m → News h₀ L h' ((D, listOf ys.toArray n) :: news) → (∀ p ∈ news, p.1 ≠ D) → s₁.heap.get? D = none → Paired Fz (vs.filter pz) ys → Q (.ref D) { s₁ with heap := h', toks := tk })) E s)
    (hs : ∀ x, foldedSetIterable iter env x = pure x) :
    wpAny (model prog w) A (eval (.ListComp elt [⟨.Name x px, iter, ifs, 0⟩] scope pos) env) Q E s := by
  refine wpAny_ListComp_free pz Fz hclos hcell hkind hnames hx (wpAny_mono h (fun xv s₁ h₁ => ?_) fun _ _ e => e) hs
  obtain ⟨ax, vs, rfl, hl, hsz, F, N, ask, hQ⟩ := h₁
  have hlt : ax < s₁.heap.objs.size := by obtain ⟨_, e, _⟩ := hl; exact Heap.lt_size e
  refine wpAny_pyIter_list hl ⟨s₁.heap.objs.size, [s₁.heap.objs.size, ax], [s₁.heap.objs.size], vs.toArray.size, _, _, rfl, Walks.list hh _ _ (Nat.ne_of_lt hlt) vs.toArray, (by rw [List.size_toArray]; exact hsz), ⟨⟨_, Heap.get?_push_size _ rfl, rfl, rfl⟩, hl.push _⟩, ?_, ⟨?_, ?_⟩, ?_⟩
  · intro b hb
    show b < (s₁.heap.push _).objs.size
    rw [Heap.size_push]
    rcases List.mem_cons.mp hb with rfl | hb
    · exact Nat.lt_succ_self _
    · rw [List.mem_singleton.mp hb]; exact Nat.lt_succ_of_lt hlt
  · intro C i v s₃ m₃ E' _ hP hn hm hk _
    exact ask.tests C v s₃ m₃ E' (by simpa using Array.mem_of_getElem? hP) hn hm (comp_up hk)
  · intro C i v s₃ m₃ E' _ hP hp' hn hm hk _
    exact ask.elt C v s₃ m₃ E' (by simpa using Array.mem_of_getElem? hP) hp' hn hm (comp_up hk)
  · intro D h' tk ys vs' hnew _ hpl hlen hP hF hk
    have e : vs' = vs := by simpa using list_of_places hlen hP
    subst e
    obtain ⟨n, hpl⟩ := hpl
    have hD1 : s₁.heap.get? D = none := by
      cases e : s₁.heap.get? D with
      | none => rfl
      | some o' => rw [Heap.get?_push_of_some _ e] at hnew; cases hnew
    have keep : ∀ b o, s₁.heap.get? b = some o → h'.get? b = some o := comp_up (s₃ := { s₁ with heap := h' }) hk
    refine hQ D ys.toList n h' tk (F.keeps keep) ?_ ?_ hD1 hF
    · intro p hp
      rcases List.mem_cons.mp hp with rfl | hp
      · refine ⟨by rw [Array.toArray_toList]; exact hpl, fun e => ?_, ?_⟩
        · obtain ⟨oL, _, _, hL, _⟩ := F.ns
          rw [← (show D = L from e), hD1] at hL; cases hL
        · cases e : h₀.get? D with
          | none => rfl
          | some o' => rw [F.keep _ _ e] at hD1; cases hD1
      · exact ⟨keep _ _ (N p hp).1, (N p hp).2⟩
    · intro p hp e
      have := (N p hp).1
      rw [e, hD1] at this; cases this

theorem ifs_nil {c : Env} {M : Model} {E' : Value → Shared → Prop} {b : Bool} (hb : b = true) : wpAny M A (forIn ([] : List Expr) true fun e r => if r = true then do let ok ← isTrue e c (eval e c); pure (ForInStep.yield ok) else pure (ForInStep.yield r)) (fun ok s₃ => ok = b ∧ Keeps s s₃) E' s := by
  rw [List.forIn_nil]
  exact wpAny_pure ⟨hb.symm, s.heap, s.toks, rfl, fun _ _ e => e⟩
theorem ifs_one {c : Env} {M : Model} {e : Expr} {E' : Value → Shared → Prop} {P : Bool → Shared → Prop} (h : wpAny M A (isTrue e c (eval e c)) P E' s) : wpAny M A (forIn [e] true fun e r => if r = true then do let ok ← isTrue e c (eval e c); pure (ForInStep.yield ok) else pure (ForInStep.yield r)) P E' s := by
  rw [List.forIn_cons]
  simp only [if_true]
  refine wpAny_bind (wpAny_bind (wpAny_mono h (fun ok s' hp => wpAny_pure ?_) fun _ _ x => x))
  dsimp only
  rw [List.forIn_nil]
  exact wpAny_pure hp
end

/-- a place where the walk is to halt -/
def Stop (P : Prop) : Prop := P
theorem stop_at {P : Prop} (h : Stop P) : P := h
theorem paired_eq {l1 l2 : List Value} (h : Paired (fun v y => y = v) l1 l2) : l2 = l1 := by
  induction h with
  | nil => rfl
  | cons h1 _ ih => rw [h1, ih]
end P10
section P11
local macro_rules | `(tactic| walk_at "eval ListComp") => `(tactic| (k_here; refine stop_at ?_))
local macro_rules | `(tactic| walk_at "exec Assign cons ListComp") => `(tactic| (k_here; refine stop_at ?_))
/-- a row of the law's own list -/
structure Row where
  ad : Addr
  a : Int
  p : Bool
  s : Int
  o : Int
def RowOb (z : Row) (ob : Obj) : Prop := ∃ t1 t2 t3 n, ob = listOf #[.int z.a t1, .bool z.p, .int z.s t2, .int z.o t3] n
def refsOf (Z : List Row) : List Value := Z.map fun z => .ref z.ad
structure RowsIn (news : List (Addr × Obj)) (rl : Addr) (Z : List Row) : Prop where
  list : ∃ n, (rl, listOf (refsOf Z).toArray n) ∈ news
  rows : ∀ z ∈ Z, ∃ ob, (z.ad, ob) ∈ news ∧ RowOb z ob

def rowOf (Z : List Row) (v : Value) : Option Row := match v with
  | .ref a => Z.find? (fun z => z.ad == a)
  | _ => none
theorem RowsIn.same {h₀ h : Heap} {L : Addr} {news : List (Addr × Obj)} {rl : Addr} {Z : List Row} (N : News h₀ L h news) (hZ : RowsIn news rl Z) : ∀ z ∈ Z, ∀ y ∈ Z, z.ad = y.ad → z = y := by
  intro z hz y hy e
  obtain ⟨o1, m1, t1, t2, t3, n1, e1⟩ := hZ.rows z hz
  obtain ⟨o2, m2, u1, u2, u3, n2, e2⟩ := hZ.rows y hy
  have h1 := N.get m1
  rw [e, N.get m2] at h1
  rw [e1, e2] at h1
  have h2 := congrArg Obj.data (Option.some.inj h1)
  obtain ⟨ad1, a1, p1, s1, o1⟩ := z
  obtain ⟨ad2, a2, p2, s2, o2⟩ := y
  simp at h2 e
  obtain ⟨⟨⟨q1, _⟩, q2, ⟨q3, _⟩, q4, _⟩, _⟩ := h2
  simp_all
theorem rowOf_mem {Z : List Row} (hs : ∀ z ∈ Z, ∀ y ∈ Z, z.ad = y.ad → z = y) : ∀ z ∈ Z, rowOf Z (.ref z.ad) = some z := by
  intro z hz
  unfold rowOf
  dsimp only
  cases hf : Z.find? (fun y => y.ad == z.ad) with
  | none => exact absurd (List.find?_eq_none.mp hf z hz) (by simp)
  | some y =>
    have h1 := List.find?_some hf
    rw [hs y (List.mem_of_find?_eq_some hf) z hz (by simpa using h1)]
def byRow (Z : List Row) (f : Row → Bool) (v : Value) : Bool := match rowOf Z v with
  | some z => f z
  | none => false
theorem filter_refs2 {Z : List Row} (f : Row → Bool) : ∀ Y : List Row, (∀ z ∈ Y, rowOf Z (.ref z.ad) = some z) → (refsOf Y).filter (byRow Z f) = refsOf (Y.filter f) := by
  intro Y
  induction Y with
  | nil => intro _; rfl
  | cons y r ih =>
    intro h
    have h1 := h y (List.mem_cons_self ..)
    have h2 := ih fun z hz => h z (List.mem_cons_of_mem _ hz)
    show List.filter _ (Value.ref y.ad :: refsOf r) = _
    rw [List.filter_cons, List.filter_cons, h2]
    have h3 : byRow Z f (.ref y.ad) = f y := by unfold byRow; rw [h1]
    rw [h3]
    cases f y <;> rfl
theorem filter_refs {Z : List Row} (hs : ∀ z ∈ Z, rowOf Z (.ref z.ad) = some z) (f : Row → Bool) : (refsOf Z).filter (byRow Z f) = refsOf (Z.filter f) := filter_refs2 f Z hs
theorem mem_refs {Z : List Row} {v : Value} (h : v ∈ refsOf Z) : ∃ z ∈ Z, v = .ref z.ad := by
  obtain ⟨z, hz, rfl⟩ := List.mem_map.mp h; exact ⟨z, hz, rfl⟩

def rowData (z : Row) : PyData := .list [.int z.a, .bool z.p, .int z.s, .int z.o]
theorem rowData_canLay : ∀ Y : List Row, PyData.canLayAll0 (Y.map rowData) = true
  | [] => rfl
  | z :: r => by simp [rowData, PyData.canLayAll0, PyData.canLay0, rowData_canLay r]
theorem rowData_depth : ∀ Y : List Row, PyData.depthAll (Y.map rowData) ≤ 1
  | [] => by simp [PyData.depthAll]
  | z :: r => by
    have := rowData_depth r
    simp [rowData, PyData.depthAll, PyData.depth]; omega
theorem rowData_shaped (Y : List Row) : SeqAt.shaped (.list (Y.map rowData)) = true := by
  have := rowData_depth Y
  simp [SeqAt.shaped, PyData.canLay0, PyData.depth, rowData_canLay]; omega
theorem rowData_refl : ∀ Y : List Row, PyData.eqvAll (Y.map rowData) (Y.map rowData) = true
  | [] => by simp [PyData.eqvAll]
  | z :: r => by simp [rowData, PyData.eqvAll, PyData.eqv, rowData_refl r]
theorem rowData_nil (Y : List Row) : PyData.eqv (.list (Y.map rowData)) (.list []) = Y.isEmpty := by
  cases Y <;> simp [PyData.eqv, PyData.eqvAll]
theorem reads_row {h : Heap} {z : Row} {ob : Obj} (ho : h.get? z.ad = some ob) (hb : RowOb z ob) : Reads h (.ref z.ad) (rowData z) [z.ad] := by
  obtain ⟨t1, t2, t3, n, rfl⟩ := hb
  exact .list ho rfl rfl (.cons (.int _ _) (.cons (.bool _) (.cons (.int _ _) (.cons (.int _ _) .nil))))
theorem reads_rows {h : Heap} : ∀ {Y : List Row}, (∀ z ∈ Y, ∃ ob, h.get? z.ad = some ob ∧ RowOb z ob) → ∃ as, ReadsAll h (refsOf Y) (Y.map rowData) as
  | [], _ => ⟨[], .nil⟩
  | z :: r, hz => by
    obtain ⟨ob, ho, hb⟩ := hz z (List.mem_cons_self ..)
    obtain ⟨as, ih⟩ := reads_rows fun y hy => hz y (List.mem_cons_of_mem _ hy)
    exact ⟨_, .cons (reads_row ho hb) ih⟩
theorem cmp_nil {prog : Program} {w : World} {A : Around} {E : Value → Shared → Prop} {s : Shared} {D e : Addr} {Y : List Row} {n k : Nat} {Q : Value → Shared → Prop} (hD : s.heap.get? D = some (listOf (refsOf Y).toArray n)) (he : s.heap.get? e = some (listOf #[] k))
    (hY : ∀ z ∈ Y, ∃ ob, s.heap.get? z.ad = some ob ∧ RowOb z ob) (hu : A.units + 64 < cLine) (h : Q (.bool Y.isEmpty) s) : wpAny (model prog w) A (compareOp .Eq (.ref D) (.ref e)) Q E s := by
  obtain ⟨as, hr⟩ := reads_rows hY
  refine eq_dataH (da := .list (Y.map rowData)) (db := .list []) (.list hD rfl rfl hr) (.list he rfl rfl .nil) (rowData_shaped Y) (rowData_shaped []) hu ?_
  rw [rowData_nil]; exact h

def rowInt (Z : List Row) (f : Row → Int) (v : Value) : Int := match rowOf Z v with
  | some z => f z
  | none => 0
theorem paired_ints {Z : List Row} (hs : ∀ z ∈ Z, rowOf Z (.ref z.ad) = some z) (f : Row → Int) : ∀ {S : List Row} {ys : List Value}, (∀ z ∈ S, z ∈ Z) → Paired (fun v y => ∃ t, y = Value.int (rowInt Z f v) t) (refsOf S) ys → IntsAre ys (S.map f)
  | [], ys, _, h => by cases h; exact .nil
  | z :: r, ys, hS, h => by
    cases h with
    | @cons _ y _ l₂ h1 h2 =>
      obtain ⟨t, rfl⟩ := h1
      have e : rowInt Z f (.ref z.ad) = f z := by unfold rowInt; rw [hs z (hS z (List.mem_cons_self ..))]
      rw [e]
      exact .cons _ _ (paired_ints hs f (fun y hy => hS y (List.mem_cons_of_mem _ hy)) h2)
def GoingIs (Z : List Row) (v : Int) : Prop :=
  ∃ S M, S = (if (Z.filter (·.p)).isEmpty then Z else Z.filter (·.p)) ∧ M ∈ S.map (·.s) ∧ (∀ x ∈ S.map (·.s), M ≤ x) ∧ v = ((S.filter (fun z => z.s == M)).map (·.a)).getD 0 0

theorem going_spec {w : World} {A : Around} {E : Value → Shared → Prop} {s : Shared} {h₀ : Heap} {L : Addr} {m : Str → Option Value} {d u : Nat} {news : List (Addr × Obj)}
  (C : Cx w A h₀ L d u) (F : Fr h₀ L s.heap m) (N : News h₀ L s.heap news) (hd : d < 910) (hu9 : u < 8700) {rl : Addr} {Z : List Row} (hZ : RowsIn news rl Z) (hne : Z ≠ []) (hlen : Z.length ≤ 8)
  {Q : Value → Shared → Prop} (h : ∀ h' tk v t, Fr h₀ L h' m → News h₀ L h' news → GoingIs Z v → Q (.int v t) {s with heap := h', toks := tk}) :
  wpAny (model PySem.Challenge.rw_xw0331_01.row.prog w) A (PySem.call (.ref 178) [.ref rl]) Q E s := by
  refine Cx.out C ?_
  clear C
  intro A₀ base outer env p loose mean mg mb B X T hA hf hk hh hd' hu
  revert X
  k_fill
  intro X
  refine wpAny_call ?_
  refine' code_defC ?k1 ?k2 ?k3 ?k4 ?k5 ?kA ?kF ?kK ?k6 ?k7 ?k8 ?k9 ?kB ?kD ?_ ?c2 ?c3 ?c4
  (case kA => assumption); (case kF => assumption); (case kK => assumption)
  (case k1 => k_asm); (case k2 => k_asm); (case k3 => k_asm); (case k4 => exact N); (case k5 => k_asm)
  (case k6 => k_is); (case k7 => k_is); (case k8 => k_room)
  (case k9 => exact BindsTo.of_eq rfl)
  (case kB => exact rfl); (case kD => decide +kernel); (case c2 => exact rfl); (case c3 => exact rfl); (case c4 => exact rfl)
  intro g L' h1 tk cells FG F1 N1 Y1 B1 X1 T1 l1
  dsimp only
  k_fold
  k_cells Y1
  try simp only [List.cons_append, List.nil_append] at N1
  have hZs := rowOf_mem (hZ.same N)
  refine wpAny_execs_cons ?_
  refine assign_rows (cl := []) (byRow Z (·.p)) (fun v y => y = v) F1 N1 (by with_unfolding_all rfl) (by with_unfolding_all rfl) hh (by with_unfolding_all rfl) (by decide) (by with_unfolding_all rfl) (by decide) (by with_unfolding_all rfl) (by with_unfolding_all rfl) (by with_unfolding_all rfl) ?_ (by intro _; with_unfolding_all rfl)
  walk1
  refine ⟨rl, refsOf Z, rfl, ?_, ?_, F1, N1, ⟨?_, ?_⟩, ?_⟩
  · obtain ⟨n, hm⟩ := hZ.list
    exact ⟨_, N1.get (List.mem_cons_of_mem _ hm), rfl, n, rfl⟩
  · unfold refsOf; rw [List.length_map, sizeLine_eq]; omega
  · intro C v s₂ m₂ E' hv hn hm hk'
    obtain ⟨z, hz, rfl⟩ := mem_refs hv
    obtain ⟨ob, hob, t1, t2, t3, n, e⟩ := hZ.rows z hz
    have hg := hk' _ _ (N1.get (List.mem_cons_of_mem _ hob))
    have hL : s₂.heap.IsList z.ad (List.toArray [.int z.a t1, .bool z.p, .int z.s t2, .int z.o t3]) := ⟨_, hg, by rw [e], n, by rw [e]⟩
    refine ifs_one ?_
    k_steps
    · unfold byRow; rw [hZs z hz]
    · exact ⟨_, _, rfl, fun _ _ e => e⟩
  · intro C v s₂ m₂ E' hv _ hn hm hk'
    k_steps
    exact ⟨_, _, rfl, fun _ _ e => e⟩
  · intro D ys n h2 tk2 F2 N2 hnew2 hnone2 hP
    have hys := paired_eq hP
    rw [filter_refs hZs] at hys
    subst hys
    clear hP
    dsimp only
    refine wpAny_execs_cons ?_
    rename_i oc _
    obtain ⟨nr, hrl⟩ := hZ.list
    generalize hY : Z.filter (·.p) = Y at *
    have hYZ : ∀ z ∈ Y, z ∈ Z := fun z hz => by rw [← hY] at hz; exact (List.mem_filter.mp hz).1
    have hrows : ∀ (h' : Heap), News g L' h' ((D, listOf (refsOf Y).toArray n) :: (L' + 1, oc) :: news) → ∀ z ∈ Z, ∃ ob, h'.get? z.ad = some ob ∧ RowOb z ob := fun h' N' z hz => by
      obtain ⟨ob, hob, hb⟩ := hZ.rows z hz
      exact ⟨ob, N'.get (List.mem_cons_of_mem _ (List.mem_cons_of_mem _ hob)), hb⟩
    refine wpAny_mono (Q := fun f s' => Stop (f = .next ∧ ∃ (h' : Heap) (tk : Nat) (uu : Str → Option Value), s' = { s with heap := h', toks := tk } ∧ Fr g L' h' (fun y => if y = Str.ofString "some" then some (.ref (if Y.isEmpty then rl else D)) else uu y) ∧
      News g L' h' ((D, listOf (refsOf Y).toArray n) :: (L' + 1, oc) :: news))) ?_ ?_ (fun _ _ x => x)
    · k_steps
      refine cmp_nil (Y := Y) (News.get ‹News g L' _ _› (by k_mem)) (News.get ‹News g L' _ _› (by k_mem)) ?_ ?_ ?_
      · rename_i F4 N4 l4
        intro z hz
        obtain ⟨ob, hob, hb⟩ := hZ.rows z (hYZ z hz)
        exact ⟨ob, N4.get (List.mem_cons_of_mem _ (List.mem_cons_of_mem _ (List.mem_cons_of_mem _ hob))), hb⟩
      · show PySem.Around.units _ + 3 + 64 < _
        have hCL9 := cl_is
        omega
      · cases hemp : Y.isEmpty
        · k_steps
          rename_i F4 N4 l4
          exact ⟨rfl, _, _, _, rfl, F4, fun p hp => N4 p (List.mem_cons_of_mem _ hp)⟩
        · k_steps
          rename_i F4 N4
          exact ⟨rfl, _, _, _, rfl, F4, fun p hp => N4 p (List.mem_cons_of_mem _ hp)⟩
    · rintro f s' ⟨rfl, h3, tk3, uu, rfl, F3, N3⟩
      dsimp only
      generalize hSl : (if Y.isEmpty = true then rl else D) = sl at F3
      obtain ⟨S, nS, hS1, hS2, hS3⟩ : ∃ (S : List Row) (nS : Nat), S = (if Y.isEmpty then Z else Y) ∧ (sl, listOf (refsOf S).toArray nS) ∈ ((D, listOf (refsOf Y).toArray n) :: news) ∧ ∀ z ∈ S, z ∈ Z := by
        cases hemp : Y.isEmpty
        · rw [hemp] at hSl
          exact ⟨Y, n, rfl, by rw [← hSl]; exact List.mem_cons_self .., hYZ⟩
        · rw [hemp] at hSl
          exact ⟨Z, nr, rfl, by rw [← hSl]; exact List.mem_cons_of_mem _ hrl, fun _ h => h⟩
      have hSne : S ≠ [] := by
        rw [hS1]
        cases Y with
        | nil => exact hne
        | cons y r => simp
      have hS2' : (sl, listOf (refsOf S).toArray nS) ∈ (D, listOf (refsOf Y).toArray n) :: (L' + 1, oc) :: news := by
        rcases List.mem_cons.mp hS2 with h1 | h1
        · rw [h1]; exact List.mem_cons_self ..
        · exact List.mem_cons_of_mem _ (List.mem_cons_of_mem _ h1)
      have hlenS : (refsOf S).length ≤ sizeLine := by
        have h1 : S.length ≤ Z.length := by
          rw [hS1, ← hY]
          split
          · exact Nat.le_refl _
          · exact List.length_filter_le _ _
        unfold refsOf; rw [List.length_map, sizeLine_eq]; omega
      have hoff : ∀ p ∈ news, p.1 ≠ L' + 1 := fun p hp e => Nat.lt_irrefl (L' + 1) (Nat.lt_succ_of_lt (e ▸ l1 p hp))
      have n1 : @Ne Nat D (L' + 1) := fun e => hnew2 _ (List.mem_cons_self ..) e.symm
      k_steps
      unfold Stop
      refine comp_rows (cl := []) (fun _ => true) (fun v y => ∃ t, y = .int (rowInt Z (·.s) v) t) F3 N3 hh (by with_unfolding_all rfl) (by decide) (by with_unfolding_all rfl) (by decide) (by with_unfolding_all rfl) ?_ (by intro _; with_unfolding_all rfl)
      walk1
      refine ⟨sl, refsOf S, rfl, ⟨_, N3.get hS2', rfl, nS, rfl⟩, hlenS, F3, N3, ⟨fun _ _ _ _ _ _ _ _ _ => ifs_nil rfl, ?_⟩, ?_⟩
      · intro C v s₂ m₂ E' hv _ hn hm hk'
        obtain ⟨z, hz, rfl⟩ := mem_refs hv
        obtain ⟨ob, hob, t1, t2, t3, n', e⟩ := hZ.rows z (hS3 z hz)
        have hg := hk' _ _ (N3.get (List.mem_cons_of_mem _ (List.mem_cons_of_mem _ hob)))
        have hL : s₂.heap.IsList z.ad (List.toArray [.int z.a t1, .bool z.p, .int z.s t2, .int z.o t3]) := ⟨_, hg, by rw [e], n', by rw [e]⟩
        have hri : rowInt Z (·.s) (.ref z.ad) = z.s := by unfold rowInt; rw [hZs z (hS3 z hz)]
        k_steps
        · rw [hri]
        · exact ⟨_, _, rfl, fun _ _ e => e⟩
      · intro D2 ys2 n2 h4 tk4 F4 N4 hnew4 hnone4 hP
        have hf : (refsOf S).filter (fun _ => true) = refsOf S := List.filter_eq_self.mpr fun _ _ => rfl
        rw [hf] at hP
        have hI := paired_ints hZs (·.s) hS3 hP
        have n2' : @Ne Nat D2 (L' + 1) := fun e => hnew4 _ (List.mem_cons_of_mem _ (List.mem_cons_self ..)) e.symm
        have n3' : @Ne Nat D2 D := fun e => hnew4 _ (List.mem_cons_self ..) e.symm
        k_steps
        refine kso_min F4 N4 ⟨_, N4.get (List.mem_cons_self ..), rfl, n2, rfl⟩ hI (by rw [List.length_map]; exact List.length_pos_iff.mpr hSne) hh ?_
        intro h5 M tM tk5 F5 N5 hM hMle
        k_steps
        rename_i ol F6 N6 dl
        unfold Stop
        refine comp_rows (cl := [(Str.ofString "least", L' + 1)]) (byRow Z (fun z => z.s == M)) (fun v y => ∃ t, y = .int (rowInt Z (·.a) v) t) F6 N6 hh (by with_unfolding_all rfl) (by decide) (by with_unfolding_all rfl) (by decide) (by with_unfolding_all rfl) ?_ (by intro _; with_unfolding_all rfl)
        walk1
        have hS6 : (sl, listOf (refsOf S).toArray nS) ∈ (D2, listOf ys2.toArray n2) :: (D, listOf (refsOf Y).toArray n) :: (L' + 1, ol) :: news := by
          rcases List.mem_cons.mp hS2 with h1 | h1
          · rw [h1]; exact List.mem_cons_of_mem _ (List.mem_cons_self ..)
          · exact List.mem_cons_of_mem _ (List.mem_cons_of_mem _ (List.mem_cons_of_mem _ h1))
        refine ⟨sl, refsOf S, rfl, ⟨_, N6.get hS6, rfl, nS, rfl⟩, hlenS, F6, N6, ⟨?_, ?_⟩, ?_⟩
        · intro C v s₂ m₂ E' hv hn hm hk'
          obtain ⟨z, hz, rfl⟩ := mem_refs hv
          obtain ⟨ob, hob, t1, t2, t3, n', e⟩ := hZ.rows z (hS3 z hz)
          have hg := hk' _ _ (N6.get (List.mem_cons_of_mem _ (List.mem_cons_of_mem _ (List.mem_cons_of_mem _ hob))))
          have hL : s₂.heap.IsList z.ad (List.toArray [.int z.a t1, .bool z.p, .int z.s t2, .int z.o t3]) := ⟨_, hg, by rw [e], n', by rw [e]⟩
          refine ifs_one ?_
          k_steps
          · unfold byRow; rw [hZs z (hS3 z hz)]
          · exact ⟨_, _, rfl, fun _ _ e => e⟩
        · intro C v s₂ m₂ E' hv _ hn hm hk'
          obtain ⟨z, hz, rfl⟩ := mem_refs hv
          obtain ⟨ob, hob, t1, t2, t3, n', e⟩ := hZ.rows z (hS3 z hz)
          have hg := hk' _ _ (N6.get (List.mem_cons_of_mem _ (List.mem_cons_of_mem _ (List.mem_cons_of_mem _ hob))))
          have hL : s₂.heap.IsList z.ad (List.toArray [.int z.a t1, .bool z.p, .int z.s t2, .int z.o t3]) := ⟨_, hg, by rw [e], n', by rw [e]⟩
          have hri : rowInt Z (·.a) (.ref z.ad) = z.a := by unfold rowInt; rw [hZs z (hS3 z hz)]
          k_steps
          · rw [hri]
          · exact ⟨_, _, rfl, fun _ _ e => e⟩
        · intro D3 ys3 n3 h7 tk7 F7 N7 hnew7 hnone7 hP7
          rw [filter_refs2 _ S fun z hz => hZs z (hS3 z hz)] at hP7
          have hI7 := paired_ints hZs (·.a) (fun z hz => hS3 z (List.mem_filter.mp hz).1) hP7
          have hpos : 0 < (S.filter (fun z => z.s == M)).length := by
            obtain ⟨z, hz, hzM⟩ := List.mem_map.mp hM
            exact List.length_pos_of_mem (List.mem_filter.mpr ⟨hz, by simpa using hzM⟩)
          have hL7 : h7.IsList D3 ys3.toArray := ⟨_, N7.get (List.mem_cons_self ..), rfl, n3, rfl⟩
          k_steps
          rename_i kF9 kN9 _ _
          refine h _ _ _ _ kF9 (fun p hp => kN9 p (List.mem_cons_of_mem _ (List.mem_cons_of_mem _ (List.mem_cons_of_mem _ (List.mem_cons_of_mem _ hp))))) ⟨S, M, ?_, hM, hMle, rfl⟩
          rw [hY]; exact hS1
end P11
section P12
theorem pool_spec {w : World} {A : Around} {E : Value → Shared → Prop} {s : Shared} {h₀ : Heap} {L : Addr} {m : Str → Option Value} {d u : Nat}
  (C : Cx w A h₀ L d u) (F : Fr h₀ L s.heap m) (hd : d < 910) (hu9 : u < 8700) {sc : Addr} {vs : List Value} {ns : List Int} (hL : s.heap.IsList sc vs.toArray) (hI : IntsAre vs ns) (hlen : ns.length ≤ 63) {tk0 : Tok}
  {Q : Value → Shared → Prop} (h : ∀ h' tk src x y tx ty, Fr h₀ L h' m → News h₀ L h' [(src, listOf #[.int x tx, .int y ty] 0)] → (∀ b o, s.heap.get? b = some o → h'.get? b = some o) → s.heap.get? src = none → 0 ≤ y → y < 2147483647 → Q (.ref src) {s with heap := h', toks := tk}) :
  wpAny (model PySem.Challenge.rw_xw0331_01.row.prog w) A (PySem.call (.ref 166) [.ref sc, .int 0 tk0]) Q E s := by
  refine Cx.out C ?_
  clear C
  intro A₀ base outer env p loose mean mg mb B X T hA hf hk hh hd' hu
  revert X
  k_fill
  intro X
  refine wpAny_call ?_
  have hN : News h₀ L s.heap [] := News.nil
  (refine' code_defG ?k1 ?k2 ?k3 hN ?k5 ?kA ?kF ?kK ?k6 ?k7 ?k8 ?k9 ?kB ?_ ?c2 ?c3 ?c4 ?c5; (case kA => assumption); (case kF => assumption); (case kK => assumption); (case k1 => k_asm); (case k2 => k_asm); (case k3 => k_asm); (case k5 => k_asm); (case k6 => k_is); (case k7 => k_is); (case k8 => k_room); (case k9 => first | exact BindsTo.of_eq rfl | exact binds_K (by k_in) rfl (by k_is) rfl rfl rfl | fail "k_enter: no rule for these arguments"); (case c5 => decide); (case kB => exact locs rfl); (case c2 => exact rfl); (case c3 => exact rfl); (case c4 => exact rfl); k_whole)
  intro g L' h1 FG F1 N1 B1 X1 T1 kG
  dsimp only
  k_fold
  have hLg : g.IsList sc vs.toArray := hL.at fun o e => kG _ o e (by simp)
  have hlv : vs.length ≤ 63 := by rw [hI.length]; exact hlen
  k_steps
  all_goals (
    refine max_two_N hh (by k_asm) (by k_asm) ?_
    intro hx tkx Fx Nx
    k_steps
    rename_i src _ FQ NQ _ kF kN _ _
    refine h _ _ _ _ _ _ _ kF kN (fun b o e => FQ.keep b o (kG b o e (by simp))) ?_ (Int.fmod_nonneg_of_pos _ (by omega)) (Int.fmod_lt_of_pos _ (by omega))
    have h9 := (NQ _ (List.mem_cons_self ..)).2.2
    cases e : s.heap.get? src with
    | none => rfl
    | some o => rw [kG _ _ e (by simp)] at h9; cases h9)
end P12
end PA
section P13
theorem with_cx {α : Type} {w : World} {A : Around} {h₀ : Heap} {L : Addr} {d u : Nat} {M : Model} {t : Sem α} {Q : α → Shared → Prop} {E : Value → Shared → Prop} {s : Shared} (C : Cx w A h₀ L d u) (k : Cx w A h₀ L d u → wpAny M A t Q E s) : wpAny M A t Q E s := k C
/-- what is to hold behind the walk, as a word that nothing is known of but this: the terms stay short -/
theorem veil {α : Type} {A : Around} {M : Model} {m : Sem α} {Q : α → Shared → Prop} {E : Value → Shared → Prop} {s : Shared}
    (h : ∀ Q' : α → Shared → Prop, (∀ x s', Q x s' → Q' x s') → wpAny M A m Q' E s) : wpAny M A m Q E s := h Q fun _ _ x => x
theorem roomFor_few {R : List Ent} {size : Int} (h : (R.length : Int) < size) : roomFor R size = R := by
  unfold roomFor; rw [if_neg (by omega)]
/-- behind a call that writes the table's dict and its entries alone, what else was there is there still -/
theorem news_behind {h₀ h h' : Heap} {L td dE : Addr} {old new keep : List (Addr × Obj)} (N : News h₀ L h old) (N' : News h₀ L h' new) (pr : ∀ b o, b ≠ td → b ≠ dE → h.get? b = some o → h'.get? b = some o)
    (hk : ∀ p ∈ keep, p ∈ old ∧ p.1 ≠ td ∧ p.1 ≠ dE) : News h₀ L h' (new ++ keep) := fun p hp => by
  rcases List.mem_append.mp hp with hp | hp
  · exact N' p hp
  · obtain ⟨h1, h2, h3⟩ := hk p hp
    exact ⟨pr _ _ h2 h3 (N p h1).1, (N p h1).2⟩

theorem list_of_keys {prog : Program} {w : World} {A : Around} {E : Value → Shared → Prop} {s : Shared} {h₀ : Heap} {L d : Addr} {m : Str → Option Value} {news : List (Addr × Obj)} {o : Obj} {kvs : List (Int × Value)} {Q : Value → Shared → Prop}
    (hh : A.handled = none) (F : Fr h₀ L s.heap m) (N : News h₀ L s.heap news) (hp : (d, o) ∈ news) (hd : o.IsDictOf (PySem.intKind prog w) kvs) (lo : (d == sysModules) = false) (hn : kvs.length ≤ 16777216)
    (h : ∀ (B : Addr) c h' tk, KdlKeysI kvs fun vs => Fr h₀ L h' m → News h₀ L h' ((B, listOf vs.toArray c) :: news) → (∀ q ∈ news, q.1 < B) → Q (.ref B) { s with heap := h', toks := tk }) :
    wpAny (model prog w) A (call (.type "list") [.ref d]) Q E s := by
  obtain ⟨ep, hat⟩ := (kda_dict N hp hd).dictAt
  refine kdl_N (kdl_dict (knd := PySem.intKind prog w) (kvs := kvs) (ep := ep) lo) hh F N hat (kdl_size hn) fun B c h' tk vs F' N' l1 hl hv => ?_
  refine kdl_openI (h B c h' tk) vs hl (fun j u hu => ?_) F' N' l1
  obtain ⟨k, x, hx, hk⟩ := hv j u hu
  refine ⟨k, x, hx, ?_⟩
  cases u with
  | int k' t => exact ⟨t, by rw [show k' = k by simpa [PySem.intKind, Value.isInt] using hk]⟩
  | _ => simp [PySem.intKind, Value.isInt] at hk
def Cells (l : List (Addr × Obj)) : Prop := ∀ p ∈ l, ∃ v, p.2.data = .cell v
theorem cells_behind {w : World} {h₀ h h' : Heap} {L : Addr} {G : Arp} {cells : List (Addr × Obj)} (N : News h₀ L h cells) (hc : Cells cells) (K : ArpOk w h G) (pr : ∀ b o, b ≠ G.td → b ≠ G.dE → h.get? b = some o → h'.get? b = some o) : News h₀ L h' cells := fun p hp => by
  obtain ⟨v, hv⟩ := hc p hp
  have h1 := (N p hp).1
  refine ⟨pr _ _ (fun e => ?_) (fun e => ?_) h1, (N p hp).2⟩
  · rw [e, K.td] at h1
    rw [← Option.some.inj h1] at hv; cases hv
  · rw [e, K.dE] at h1
    rw [← Option.some.inj h1] at hv
    obtain ⟨_, _, _, hd, _⟩ := K.oE
    rw [hd] at hv; cases hv
theorem cells_behind1 {h₀ h h' : Heap} {L src : Addr} {vs : Array Value} {n : Nat} {cells : List (Addr × Obj)} (N : News h₀ L h cells) (hc : Cells cells) (hs : h.get? src = some (listOf vs n)) (pr : ∀ b o, b ≠ src → h.get? b = some o → h'.get? b = some o) : News h₀ L h' cells := fun p hp => by
  obtain ⟨v, hv⟩ := hc p hp
  have h1 := (N p hp).1
  refine ⟨pr _ _ (fun e => ?_) h1, (N p hp).2⟩
  rw [e, hs] at h1
  rw [← Option.some.inj h1] at hv; cases hv
theorem news_one' {h₀ h h' : Heap} {L a : Addr} {o o' : Obj} (N : News h₀ L h [(a, o)]) (e : h'.get? a = some o') : News h₀ L h' [(a, o')] := fun p hp => by
  rw [List.mem_singleton.mp hp]
  exact ⟨e, (N _ (List.mem_cons_self ..)).2⟩
theorem news_sub1 {h₀ h : Heap} {L : Addr} {a : Addr × Obj} {l : List (Addr × Obj)} (N : News h₀ L h (a :: l)) : News h₀ L h [a] := fun p hp => by
  rw [List.mem_singleton.mp hp]; exact N _ (List.mem_cons_self ..)
theorem news_tail {h₀ h : Heap} {L : Addr} {a : Addr × Obj} {l : List (Addr × Obj)} (N : News h₀ L h (a :: l)) : News h₀ L h l := fun p hp => N p (List.mem_cons_of_mem _ hp)
theorem news_app {h₀ h : Heap} {L : Addr} {a b : List (Addr × Obj)} (N : News h₀ L h a) (N' : News h₀ L h b) : News h₀ L h (a ++ b) := fun p hp => (List.mem_append.mp hp).elim (N p) (N' p)
theorem arp_new {w : World} {h₀ h : Heap} {L tbl td dE : Addr} {news : List (Addr × Obj)} {tds : List DictEntry} {oE : Obj} {size : Int} (N : News h₀ L h news) (m1 : (tbl, instObj 155 td) ∈ news) (m2 : (td, dictOf tds 7) ∈ news) (m3 : (dE, oE) ∈ news)
    (hT : TabD ⟨tbl, td, dE, tds, oE, size, 0, []⟩) (hi : oE.IsDictOf (PySem.intKind PySem.Challenge.rw_xw0331_01.row.prog w) []) (lo : (dE == sysModules) = false) : ArpOk w h ⟨tbl, td, dE, tds, oE, size, 0, []⟩ :=
  ⟨N.get m1, N.get m2, hT, N.get m3, hi, lo, (fun r hr => by cases hr), by simp, by simp⟩
theorem news3 {h₀ h : Heap} {L : Addr} {news : List (Addr × Obj)} {a b c : Addr × Obj} (N : News h₀ L h news) (m1 : a ∈ news) (m2 : b ∈ news) (m3 : c ∈ news) : News h₀ L h [a, b, c] := fun p hp => by
  simp only [List.mem_cons, List.mem_nil_iff, or_false] at hp
  rcases hp with rfl | rfl | rfl
  · exact N _ m1
  · exact N _ m2
  · exact N _ m3

end P13
section P14
/-- the law's rows and the table's entries say the same -/
def Mat (Z : List Row) (R : List Ent) : Prop := Z.map (fun z => (z.a, z.p, z.s, z.o)) = R.map (fun r => (r.a, r.p, r.s, r.o))
theorem Mat.nil : Mat [] [] := rfl
theorem Mat.len {Z : List Row} {R : List Ent} (h : Mat Z R) : Z.length = R.length := by
  have := congrArg List.length h
  simpa using this
theorem Mat.cons {Z : List Row} {R : List Ent} {z : Row} {r : Ent} : Mat (z :: Z) (r :: R) ↔ ((z.a = r.a ∧ z.p = r.p ∧ z.s = r.s ∧ z.o = r.o) ∧ Mat Z R) := by
  unfold Mat
  simp
theorem Mat.app {Z Z' : List Row} {R R' : List Ent} (h : Mat Z R) (h' : Mat Z' R') : Mat (Z ++ Z') (R ++ R') := by
  unfold Mat at *
  rw [List.map_append, List.map_append, h, h']
theorem Mat.ind {P : List Row → List Ent → Prop} (h0 : P [] []) (h1 : ∀ z r Z R, z.a = r.a → z.p = r.p → z.s = r.s → z.o = r.o → Mat Z R → P Z R → P (z :: Z) (r :: R)) : ∀ {Z : List Row} {R : List Ent}, Mat Z R → P Z R
  | [], [], _ => h0
  | [], r :: R, h => by cases h
  | z :: Z, [], h => by cases h
  | z :: Z, r :: R, h => by
    obtain ⟨⟨a, b, c, d⟩, e⟩ := Mat.cons.mp h
    exact h1 z r Z R a b c d e (Mat.ind h0 h1 e)
theorem Mat.filter {Z : List Row} {R : List Ent} (f : Int → Bool) (h : Mat Z R) : Mat (Z.filter fun z => f z.a) (R.filter fun r => f r.a) := by
  refine Mat.ind (P := fun Z R => Mat (Z.filter fun z => f z.a) (R.filter fun r => f r.a)) rfl ?_ h
  intro z r Z R ha hp hs ho _ ih
  rw [List.filter_cons, List.filter_cons, ha]
  split
  · exact Mat.cons.mpr ⟨⟨ha, hp, hs, ho⟩, ih⟩
  · exact ih
theorem Mat.orders {Z : List Row} {R : List Ent} (h : Mat Z R) : Z.map (·.o) = R.map (·.o) := by
  refine Mat.ind (P := fun Z R => Z.map (·.o) = R.map (·.o)) rfl ?_ h
  intro z r Z R ha hp hs ho _ ih
  rw [List.map_cons, List.map_cons, ho, ih]
theorem Mat.to {Z : List Row} {R : List Ent} (h : Mat Z R) : ∀ z ∈ Z, ∃ r ∈ R, z.a = r.a ∧ z.p = r.p ∧ z.s = r.s ∧ z.o = r.o := by
  intro z hz
  have h1 : (z.a, z.p, z.s, z.o) ∈ R.map (fun r => (r.a, r.p, r.s, r.o)) := by rw [← show _ = _ from h]; exact List.mem_map.mpr ⟨z, hz, rfl⟩
  obtain ⟨r, hr, e⟩ := List.mem_map.mp h1
  simp only [Prod.mk.injEq] at e
  exact ⟨r, hr, e.1.symm, e.2.1.symm, e.2.2.1.symm, e.2.2.2.symm⟩
theorem Mat.back {Z : List Row} {R : List Ent} (h : Mat Z R) : ∀ r ∈ R, ∃ z ∈ Z, z.a = r.a ∧ z.p = r.p ∧ z.s = r.s ∧ z.o = r.o := by
  intro r hr
  have h1 : (r.a, r.p, r.s, r.o) ∈ Z.map (fun z => (z.a, z.p, z.s, z.o)) := by rw [show Z.map _ = _ from h]; exact List.mem_map.mpr ⟨r, hr, rfl⟩
  obtain ⟨z, hz, e⟩ := List.mem_map.mp h1
  simp only [Prod.mk.injEq] at e
  exact ⟨z, hz, e.1, e.2.1, e.2.2.1, e.2.2.2⟩
theorem Mat.none {Z : List Row} {R : List Ent} {a : Int} (h : Mat Z R) (he : (Z.filter fun z => z.a == a).isEmpty = true) : ∀ r ∈ R, r.a ≠ a := by
  intro r hr e
  obtain ⟨z, hz, ha, _⟩ := h.back r hr
  have := List.isEmpty_iff.mp he
  exact List.filter_eq_nil_iff.mp this z hz (by simp [ha, e])
theorem Mat.some {Z : List Row} {R : List Ent} {a : Int} (h : Mat Z R) (he : (Z.filter fun z => z.a == a).isEmpty = false) : ∃ r ∈ R, r.a = a := by
  cases hf : Z.filter fun z => z.a == a with
  | nil => rw [hf] at he; cases he
  | cons z l =>
    have hz : z ∈ Z.filter fun z => z.a == a := by rw [hf]; exact List.mem_cons_self ..
    obtain ⟨h1, h2⟩ := List.mem_filter.mp hz
    obtain ⟨r, hr, ha, _⟩ := h.to z h1
    exact ⟨r, hr, by rw [← ha]; simpa using h2⟩

/-- the orders rise, and lie below the number made -/
def Rise (R : List Ent) (made : Int) : Prop := R.Pairwise (fun x y => x.o < y.o) ∧ ∀ r ∈ R, r.o < made
theorem Rise.filter {R : List Ent} {made : Int} (h : Rise R made) (f : Ent → Bool) : Rise (R.filter f) made :=
  ⟨h.1.filter _, fun r hr => h.2 r (List.mem_filter.mp hr).1⟩
theorem Rise.add {R : List Ent} {made : Int} {r : Ent} (h : Rise R made) (ho : r.o = made) : Rise (R ++ [r]) (made + 1) := by
  refine ⟨List.pairwise_append.mpr ⟨h.1, List.pairwise_singleton _ _, fun x hx y hy => ?_⟩, fun x hx => ?_⟩
  · rw [List.mem_singleton.mp hy, ho]; exact h.2 x hx
  · rcases List.mem_append.mp hx with h1 | h1
    · have := h.2 x h1; omega
    · rw [List.mem_singleton.mp h1, ho]; omega
theorem Rise.room {R : List Ent} {made size : Int} (h : Rise R made) : Rise (roomFor R size) made := by
  unfold roomFor; split
  · exact h.filter _
  · exact h
theorem Rise.same {R1 R2 : List Ent} {r r' : Ent} {made : Int} (h : Rise (R1 ++ r :: R2) made) (ho : r'.o = r.o) : Rise (R1 ++ r' :: R2) made := by
  refine ⟨?_, fun x hx => ?_⟩
  · have h1 := h.1
    rw [List.pairwise_append, List.pairwise_cons] at h1 ⊢
    obtain ⟨p1, ⟨p2, p3⟩, p4⟩ := h1
    refine ⟨p1, ⟨fun y hy => by rw [ho]; exact p2 y hy, p3⟩, fun x hx y hy => ?_⟩
    rcases List.mem_cons.mp hy with rfl | hy
    · rw [ho]; exact p4 x hx r (List.mem_cons_self ..)
    · exact p4 x hx y (List.mem_cons_of_mem _ hy)
  · rcases List.mem_append.mp hx with h1 | h1
    · exact h.2 x (List.mem_append_left _ h1)
    · rcases List.mem_cons.mp h1 with rfl | h1
      · rw [ho]; exact h.2 r (by simp)
      · exact h.2 x (by simp [h1])

theorem lex3_trans {x y z : Int × Int × Int} (h1 : lex3 x y = false) (h2 : lex3 y z = false) : lex3 x z = false := by
  obtain ⟨x1, x2, x3⟩ := x; obtain ⟨y1, y2, y3⟩ := y; obtain ⟨z1, z2, z3⟩ := z
  simp only [lex3, Bool.or_eq_false_iff, Bool.and_eq_false_iff, decide_eq_false_iff_not, beq_eq_false_iff_ne, ne_eq] at *
  omega
theorem lex3_asym {x y : Int × Int × Int} (h1 : lex3 x y = true) : lex3 y x = false := by
  obtain ⟨x1, x2, x3⟩ := x; obtain ⟨y1, y2, y3⟩ := y
  simp only [lex3, Bool.or_eq_false_iff, Bool.and_eq_false_iff, decide_eq_false_iff_not, beq_eq_false_iff_ne, ne_eq, Bool.or_eq_true, Bool.and_eq_true, decide_eq_true_eq, beq_iff_eq] at *
  omega
theorem lex3_self {x : Int × Int × Int} : lex3 x x = false := by
  obtain ⟨x1, x2, x3⟩ := x
  simp [lex3]
theorem best_min {R : List Ent} : ∀ {x : Ent}, best R = some x → ∀ y ∈ R, lex3 y.rank x.rank = false := by
  have go : ∀ (l : List Ent) (b : Option Ent) (x : Ent), l.foldl bestStep b = some x → (∀ y ∈ l, lex3 y.rank x.rank = false) ∧ (∀ y, b = some y → lex3 y.rank x.rank = false) := by
    intro l
    induction l with
    | nil => intro b x h; exact ⟨fun y hy => by (cases hy), fun y hy => by rw [List.foldl_nil] at h; rw [h] at hy; cases hy; exact lex3_self⟩
    | cons r l ih =>
      intro b x h
      rw [List.foldl_cons] at h
      obtain ⟨h1, h2⟩ := ih _ _ h
      cases b with
      | none =>
        have h3 := h2 r rfl
        refine ⟨fun y hy => ?_, fun y hy => by cases hy⟩
        rcases List.mem_cons.mp hy with rfl | hy
        · exact h3
        · exact h1 y hy
      | some z =>
        unfold bestStep at h2; dsimp only at h2
        cases hl : lex3 r.rank z.rank
        · rw [hl] at h2
          have h3 := h2 z rfl
          refine ⟨fun y hy => ?_, fun y hy => by cases hy; exact h3⟩
          rcases List.mem_cons.mp hy with rfl | hy
          · exact lex3_trans hl h3
          · exact h1 y hy
        · rw [hl] at h2
          have h3 := h2 r rfl
          refine ⟨fun y hy => ?_, fun y hy => by cases hy; exact lex3_trans (lex3_asym hl) h3⟩
          rcases List.mem_cons.mp hy with rfl | hy
          · exact h3
          · exact h1 y hy
  intro x h
  exact (go R none x h).1

theorem rise_inj {R : List Ent} {made : Int} (h : Rise R made) : ∀ x ∈ R, ∀ y ∈ R, x.o = y.o → x = y := by
  replace h := h.1
  induction R with
  | nil => intro x hx; cases hx
  | cons r R ih =>
    rw [List.pairwise_cons] at h
    obtain ⟨h1, h2⟩ := h
    intro x hx y hy e
    rcases List.mem_cons.mp hx with hx | hx <;> rcases List.mem_cons.mp hy with hy | hy
    · rw [hx, hy]
    · have := h1 y hy; rw [hx] at e; omega
    · have := h1 x hx; rw [hy] at e; omega
    · exact ih h2 x hx y hy e
theorem first_of {Z : List Row} (h : Z.Pairwise (fun x y => x.o < y.o)) {f : Row → Bool} {z : Row} {l : List Row} (e : Z.filter f = z :: l) : ∀ y ∈ Z, f y = true → z.o ≤ y.o := by
  intro y hy hf
  have h1 := h.filter f
  rw [e, List.pairwise_cons] at h1
  have h2 : y ∈ Z.filter f := List.mem_filter.mpr ⟨hy, hf⟩
  rw [e] at h2
  rcases List.mem_cons.mp h2 with rfl | h2
  · exact Int.le_refl _
  · exact Int.le_of_lt (h1.1 y h2)
theorem going_row {Z : List Row} {v : Int} (hZ : Z.Pairwise (fun x y => x.o < y.o)) (h : GoingIs Z v) : ∃ z ∈ Z, v = z.a ∧ (z.p = true ∨ ∀ y ∈ Z, y.p = false) ∧ (∀ y ∈ Z, y.p = z.p → z.s ≤ y.s) ∧ (∀ y ∈ Z, y.p = z.p → y.s = z.s → z.o ≤ y.o) := by
  obtain ⟨S, M, hS, hM, hle, hv⟩ := h
  obtain ⟨z1, hz1, e1⟩ := List.mem_map.mp hM
  have hSp : S.Pairwise (fun x y => x.o < y.o) := by
    rw [hS]; split
    · exact hZ
    · exact hZ.filter _
  have hSZ : ∀ z ∈ S, z ∈ Z := by
    rw [hS]; split
    · exact fun _ h => h
    · exact fun z hz => (List.mem_filter.mp hz).1
  cases hf : S.filter (fun z => z.s == M) with
  | nil => exact absurd (List.filter_eq_nil_iff.mp hf z1 hz1) (by simp [e1])
  | cons z l =>
    have hz : z ∈ S.filter (fun z => z.s == M) := by rw [hf]; exact List.mem_cons_self ..
    obtain ⟨hzS, hzM⟩ := List.mem_filter.mp hz
    have hzM : z.s = M := by simpa using hzM
    have hin : ∀ y ∈ Z, y.p = z.p → y ∈ S := by
      intro y hy hp
      rw [hS] at hzS ⊢
      split at hzS <;> rename_i hc
      · rw [if_pos hc]; exact hy
      · rw [if_neg hc]
        exact List.mem_filter.mpr ⟨hy, by rw [hp]; exact (List.mem_filter.mp hzS).2⟩
    refine ⟨z, hSZ z hzS, ?_, ?_, ?_, ?_⟩
    · rw [hv, hf]; rfl
    · rw [hS] at hzS
      split at hzS <;> rename_i hc
      · refine .inr fun y hy => ?_
        have := List.filter_eq_nil_iff.mp (List.isEmpty_iff.mp hc) y hy
        simpa using this
      · exact .inl (List.mem_filter.mp hzS).2
    · intro y hy hp
      rw [hzM]; exact hle _ (List.mem_map.mpr ⟨y, hin y hy hp, rfl⟩)
    · intro y hy hp hs
      exact first_of hSp hf y (hin y hy hp) (by simpa [hs] using hzM)
theorem Mat.rise {Z : List Row} {R : List Ent} {made : Int} (h : Mat Z R) (hr : Rise R made) : Z.Pairwise (fun x y => x.o < y.o) := by
  have h1 : (R.map (·.o)).Pairwise (· < ·) := List.pairwise_map.mpr hr.1
  rw [← h.orders] at h1
  exact List.pairwise_map.mp h1
theorem going_old {Z : List Row} {R : List Ent} {made v : Int} (h : Mat Z R) (hr : Rise R made) (hg : GoingIs Z v) : v = oldestOf R := by
  obtain ⟨z, hz, rfl, hp, hs, ho⟩ := going_row (h.rise hr) hg
  obtain ⟨r, hrR, ea, ep, es, eo⟩ := h.to z hz
  have hne : R ≠ [] := List.ne_nil_of_mem hrR
  obtain ⟨x, hb, hx, hxa⟩ := best_ex hne
  obtain ⟨y, hy, ya, yp, ys, yo⟩ := h.back x hx
  have h1 := best_min hb r hrR
  rw [hxa, ea]
  suffices e : x = r by rw [e]
  refine rise_inj hr x hx r hrR ?_
  have h2 := hs y hy
  have h3 := ho y hy
  have h4 : r.p = true ∨ x.p = false := by
    rcases hp with h5 | h5
    · exact .inl (ep ▸ h5)
    · exact .inr (yp ▸ h5 y hy)
  rw [yp, ep, ys, es] at h2
  rw [yp, ep, ys, es, yo, eo] at h3
  unfold Ent.rank Ent.pn at h1
  simp only [lex3, Bool.or_eq_false_iff, Bool.and_eq_false_iff, decide_eq_false_iff_not, beq_eq_false_iff_ne, ne_eq] at h1
  cases hxp : x.p <;> cases hrp : r.p <;> rw [hxp, hrp] at h1 h2 h3 h4 <;> simp at h1 h2 h3 h4
  all_goals
    have h6 : x.s = r.s := by omega
    have := h3 h6
    omega
end P14
section P15
theorem take_led {w : World} {A : Around} {E : Value → Shared → Prop} {s : Shared} {h₀ : Heap} {L : Addr} {m : Str → Option Value} {d u : Nat}
  (C : Cx w A h₀ L d u) (F : Fr h₀ L s.heap m) (hd : d < 950)
  {src : Addr} {x y top : Int} {tx ty tt : Tok} {n : Nat} {rest : List (Addr × Obj)} (hN : News h₀ L s.heap ((src, listOf #[.int x tx, .int y ty] n) :: rest)) (hne : ∀ p ∈ rest, @Ne Nat p.1 src) (hy0 : 0 ≤ y) (hy1 : y < 2147483647) (ht1 : 1 ≤ top) (ht2 : top ≤ 8)
  {Q : Value → Shared → Prop} (h : ∀ h' tk r t x' tx' y' ty' n', 0 ≤ r → r < top → 0 ≤ y' → y' < 2147483647 → Fr h₀ L h' m → News h₀ L h' ((src, listOf #[.int x' tx', .int y' ty'] n') :: rest) → Q (.int r t) {s with heap := h', toks := tk}) :
  wpAny (model PySem.Challenge.rw_xw0331_01.row.prog w) A (PySem.call (.ref 173) [.ref src, .int top tt]) Q E s := by
  refine take_spec C F hd (news_sub1 hN) hy0 hy1 ht1 ht2 fun h' tk r t x' tx' y' ty' n' r0 r1 y0 y1 F' hs pr => ?_
  refine h h' tk r t x' tx' y' ty' n' r0 r1 y0 y1 F' fun p hp => ?_
  rcases List.mem_cons.mp hp with rfl | hp
  · exact ⟨hs, (hN _ (List.mem_cons_self ..)).2⟩
  · have h1 := hN p (List.mem_cons_of_mem _ hp)
    exact ⟨pr _ _ (hne p hp) h1.1, h1.2⟩

/-- what kind of object -/
def kd (o : Obj) : Nat := match o.data with
  | .cell _ => 0
  | .seq _ _ => 1
  | .dict _ _ => 2
  | _ => 3
theorem kd_cell {o : Obj} {v : Option Value} (h : o.data = .cell v) : kd o = 0 := by unfold kd; rw [h]
theorem kd_dict {prog : Program} {w : World} {o : Obj} {kvs : List (Int × Value)} (h : o.IsDictOf (PySem.intKind prog w) kvs) : kd o = 2 := by
  obtain ⟨es, ep, _, hd, _⟩ := h
  unfold kd; rw [hd]
theorem news_ne {h₀ h : Heap} {L : Addr} {news : List (Addr × Obj)} {p q : Addr × Obj} (N : News h₀ L h news) (h1 : p ∈ news) (h2 : q ∈ news) (hne : p.2 ≠ q.2) : @Ne Nat p.1 q.1 := fun e => by
  have e1 := N.get h1
  rw [show p.1 = q.1 from e, N.get h2] at e1
  exact hne (Option.some.inj e1).symm
theorem kd_ne {o o' : Obj} (h : kd o ≠ kd o') : o ≠ o' := fun e => h (e ▸ rfl)
theorem news_off {h₀ h : Heap} {L : Addr} {news l : List (Addr × Obj)} {q : Addr × Obj} (N : News h₀ L h news) (h2 : q ∈ news) (hl : ∀ p ∈ l, p ∈ news ∧ p.2 ≠ q.2) : ∀ p ∈ l, @Ne Nat p.1 q.1 := fun p hp => news_ne N (hl p hp).1 h2 (hl p hp).2

/-- objects of the tail: entries, their dicts, rows -/
def YOb (o : Obj) : Prop := (∃ ed, o = instObj 77 ed) ∨ (∃ r, EntD r ∧ o = dictOf r.es 6) ∨ (∃ z, RowOb z o)
structure LedY (G : Arp) (Z : List Row) (Y : List (Addr × Obj)) : Prop where
  ob : ∀ p ∈ Y, YOb p.2
  ents : ∀ r ∈ G.R, (r.ent, instObj 77 r.ed) ∈ Y ∧ (r.ed, dictOf r.es 6) ∈ Y
  rows : ∀ z ∈ Z, ∃ ob, (z.ad, ob) ∈ Y ∧ RowOb z ob
structure GS (w : World) (G : Arp) : Prop where
  tdD : TabD G
  oE : G.oE.IsDictOf (PySem.intKind PySem.Challenge.rw_xw0331_01.row.prog w) (kvsOf G.R)
  lo : (G.dE == sysModules) = false
  ok : ∀ r ∈ G.R, EntOk r
  eds : (G.R.map (·.ed)).Nodup
  few : G.R.length ≤ 8
theorem ArpOk.gs {w : World} {h : Heap} {G : Arp} (K : ArpOk w h G) : GS w G := ⟨K.tdD, K.oE, K.lo, fun r hr => (K.ents r hr).ok, K.eds, K.few⟩
theorem GS.arp {w : World} {h₀ h : Heap} {L : Addr} {news Y : List (Addr × Obj)} {G : Arp} {Z : List Row} (x : GS w G) (N : News h₀ L h news) (m1 : (G.tbl, instObj 155 G.td) ∈ news) (m2 : (G.td, dictOf G.tds 7) ∈ news) (m3 : (G.dE, G.oE) ∈ news)
    (hY : LedY G Z Y) (hs : ∀ p ∈ Y, p ∈ news) : ArpOk w h G :=
  ⟨N.get m1, N.get m2, x.tdD, N.get m3, x.oE, x.lo, fun r hr => ⟨N.get (hs _ (hY.ents r hr).1), N.get (hs _ (hY.ents r hr).2), x.ok r hr⟩, x.eds, x.few⟩

/-- what the rows and the table say at a turn's end -/
structure Sets (w : World) (G : Arp) (Z : List Row) (Y : List (Addr × Obj)) (size : Int) : Prop where
  gs : GS w G
  y : LedY G Z Y
  mat : Mat Z G.R
  rise : Rise G.R G.made
  sz : G.size = size
  s1 : 1 ≤ size
  s4 : size ≤ 4
  len : (G.R.length : Int) ≤ size

theorem yob_cell {o o' : Obj} {v : Option Value} (h : YOb o) (h' : o'.data = .cell v) : o ≠ o' := by
  refine kd_ne ?_
  rw [kd_cell h']
  rcases h with ⟨ed, rfl⟩ | ⟨r, _, rfl⟩ | ⟨z, t1, t2, t3, n, rfl⟩ <;> exact Nat.succ_ne_zero _
theorem yob_pair {o : Obj} {x y : Int} {tx ty : Tok} {n : Nat} (h : YOb o) : o ≠ listOf #[.int x tx, .int y ty] n := by
  rintro rfl
  rcases h with ⟨ed, h⟩ | ⟨r, _, h⟩ | ⟨z, t1, t2, t3, n, h⟩
  · exact inst_ne_list h.symm
  · exact dict_ne_list h.symm
  · have h1 := congrArg Obj.data h
    injection h1 with h2 _
    have h3 := congrArg Array.size h2
    simp at h3
theorem yob_rows {o : Obj} {Z : List Row} {n : Nat} (h : YOb o) : o ≠ listOf (refsOf Z).toArray n := by
  rintro rfl
  rcases h with ⟨ed, h⟩ | ⟨r, _, h⟩ | ⟨z, t1, t2, t3, n, h⟩
  · exact inst_ne_list h.symm
  · exact dict_ne_list h.symm
  · have h1 := congrArg Obj.data h
    injection h1 with h2 _
    cases Z with
    | nil => have h3 := congrArg Array.size h2; simp [refsOf] at h3
    | cons y l => have h3 := congrArg Array.toList h2; simp [refsOf] at h3
theorem pair_rows {x y : Int} {tx ty : Tok} {n k : Nat} {Z : List Row} : listOf #[.int x tx, .int y ty] n ≠ listOf (refsOf Z).toArray k := by
  intro h
  have h1 := congrArg Obj.data h
  injection h1 with h2 _
  cases Z with
  | nil => have h3 := congrArg Array.size h2; simp [refsOf] at h3
  | cons y l => have h3 := congrArg Array.toList h2; simp [refsOf] at h3
theorem yob_tbl {o : Obj} {td : Addr} (h : YOb o) : o ≠ instObj 155 td := by
  rintro rfl
  rcases h with ⟨ed, h⟩ | ⟨r, _, h⟩ | ⟨z, t1, t2, t3, n, h⟩
  · have h1 := congrArg Obj.cls h; cases h1
  · exact inst_ne_dict h
  · exact inst_ne_list h
theorem yob_td {o : Obj} {G : Arp} (h : YOb o) (hT : TabD G) : o ≠ dictOf G.tds 7 := by
  rintro rfl
  refine TabD.out hT ?_
  intro a0 a1 a2 a3 a4 a5 a6 b0 b1 b2 b3 b4 b5 b6 c0 c1 c2 c3 c4 c6 eT
  rcases h with ⟨ed, h⟩ | ⟨r, hr, h⟩ | ⟨z, t1, t2, t3, n, h⟩
  · exact inst_ne_dict h.symm
  · have h2 := dict_ne h
    refine EntD.out hr ?_
    intro f0 f1 f2 f3 f4 f5 g0 g1 g2 g3 g4 g5 q0 q1 q3 q4 eR
    rw [eT, eR] at h2
    injection h2 with h3 _
    injection h3 with _ h4 _
    injection h4 with h5 _
    exact absurd h5 (by decide)
  · exact dict_ne_list h
theorem yob_dE {w : World} {o oE : Obj} {kvs : List (Int × Value)} (h : YOb o) (hd : oE.IsDictOf (PySem.intKind PySem.Challenge.rw_xw0331_01.row.prog w) kvs) : o ≠ oE := by
  rintro rfl
  obtain ⟨es, ep, hx, hdat, _, hpr, _⟩ := hd
  have hcl : o.cls = .type "dict" := hx.1
  rcases h with ⟨ed, h⟩ | ⟨r, hr, h⟩ | ⟨z, t1, t2, t3, n, h⟩
  · rw [h] at hcl; cases hcl
  · refine EntD.out hr ?_
    intro f0 f1 f2 f3 f4 f5 g0 g1 g2 g3 g4 g5 q0 q1 q3 q4 eR
    rw [h] at hdat
    injection hdat with h2 _
    rw [← h2, eR] at hpr
    cases hpr with
    | cons h3 _ _ => simp [PySem.intKind, Value.isInt] at h3
  · rw [h] at hcl; exact absurd (Value.type.inj hcl) (by decide)

theorem frame4 {m : Str → Option Value} {x y z u : Str} {a b c d : Option Value} (h1 : m x = a) (h2 : m y = b) (h3 : m z = c) (h4 : m u = d) : m = fun k => if k = x then a else if k = y then b else if k = z then c else if k = u then d else m k := by
  funext k
  by_cases e1 : k = x
  · subst e1; simp [h1]
  · by_cases e2 : k = y
    · subst e2; simp [e1, h2]
    · by_cases e3 : k = z
      · subst e3; simp [e1, e2, h3]
      · by_cases e4 : k = u
        · subst e4; simp [e1, e2, e3, h4]
        · simp [e1, e2, e3, e4]

/-- the law's state between its turns -/
def LSt (w : World) (L : Nat) (size : Int) (m : Str → Option Value) (news : List (Addr × Obj)) : Prop :=
  ∃ (G : Arp) (Z : List Row) (Y : List (Addr × Obj)) (src rl : Addr) (x y : Int) (tx ty t1 t2 : Tok) (n k : Nat) (cg cn ca ct : Obj) (v1 v2 v3 : Option Value),
    Sets w G Z Y size ∧ 0 ≤ y ∧ y < 2147483647 ∧ m (Str.ofString "size") = some (.int size t1) ∧ m (Str.ofString "rows") = some (.ref rl) ∧ m (Str.ofString "made") = some (.int G.made t2) ∧ m (Str.ofString "source") = some (.ref src) ∧
    cg.data = .cell v1 ∧ cn.data = .cell v2 ∧ ca.data = .cell v3 ∧ ct.data = .cell (some (.ref G.tbl)) ∧
    news = (src, listOf #[.int x tx, .int y ty] n) :: (rl, listOf (refsOf Z).toArray k) :: (G.tbl, instObj 155 G.td) :: (G.td, dictOf G.tds 7) :: (G.dE, G.oE) :: (L + 1 + 1 + 1 + 1, cg) :: (L + 1 + 1 + 1, cn) :: (L + 1 + 1, ca) :: (L + 1, ct) :: Y

theorem LSt.out {P : Prop} {w : World} {L : Nat} {size : Int} {m : Str → Option Value} {news : List (Addr × Obj)} (h : LSt w L size m news) (k : ∀ (G : Arp) (Z : List Row) (Y : List (Addr × Obj)) (src rl : Addr) (x y : Int) (tx ty t1 t2 : Tok) (n k : Nat) (cg cn ca ct : Obj) (v1 v2 v3 : Option Value),
    Sets w G Z Y size → 0 ≤ y → y < 2147483647 → m (Str.ofString "size") = some (.int size t1) → m (Str.ofString "rows") = some (.ref rl) → m (Str.ofString "made") = some (.int G.made t2) → m (Str.ofString "source") = some (.ref src) → cg.data = .cell v1 → cn.data = .cell v2 → ca.data = .cell v3 → ct.data = .cell (some (.ref G.tbl)) → news = (src, listOf #[.int x tx, .int y ty] n) :: (rl, listOf (refsOf Z).toArray k) :: (G.tbl, instObj 155 G.td) :: (G.td, dictOf G.tds 7) :: (G.dE, G.oE) :: (L + 1 + 1 + 1 + 1, cg) :: (L + 1 + 1 + 1, cn) :: (L + 1 + 1, ca) :: (L + 1, ct) :: Y → P) : P := by
  obtain ⟨G, Z, Y, src, rl, x, y, tx, ty, t1, t2, n, k', cg, cn, ca, ct, v1, v2, v3, p1, p2, p3, p4, p5, p6, p7, p8, p9, p10, p11, p12⟩ := h
  exact k G Z Y src rl x y tx ty t1 t2 n k' cg cn ca ct v1 v2 v3 p1 p2 p3 p4 p5 p6 p7 p8 p9 p10 p11 p12

section
variable {prog : Program} {w : World} {A : Around} {E : Value → Shared → Prop} {s : Shared} {env : Env} {h₀ : Heap} {x : Str} {body : List Stmt} {Q : Flow → Shared → Prop}
/-- the same, with a word on the iterator -/
theorem loop_inv2 {PO : Obj → Prop} {I : Addr} {fp wr : List Addr} {n : Nat} {P : Nat → Value → Prop} {St : Nat → Heap → Prop} {m₀ : Str → Option Value} {news : List (Addr × Obj)}
    (W : Walks prog w A I fp wr n P St) (hIf : I ∈ fp) (hfp : ∀ b ∈ fp, b = I ∨ ∃ q, h₀.get? b = some q) (hI0 : h₀.get? I = none) (hob : ∀ i h, St i h → ∃ o, h.get? I = some o ∧ PO o)
    (hLf : env.locals ∉ fp) (hwr : wr = [I]) (hnw : ∀ p ∈ news, p.1 ≠ I) (hst : St 0 s.heap) (F : Fr h₀ env.locals s.heap m₀) (N : News h₀ env.locals s.heap news)
    (J : Nat → (Str → Option Value) → List (Addr × Obj) → Prop) (hj : J 0 m₀ news)
    (turn : ∀ i v m₁ news₁ h tk o, PO o → i < n → P i v → J i m₁ news₁ → (∀ p ∈ news₁, p.1 ≠ I) → Fr h₀ env.locals h (fun y => if y = x then some v else m₁ y) → News h₀ env.locals h ((I, o) :: news₁) →
      wpAny (model prog w) A (execs body env) (UnrPost h₀ env.locals { s with heap := h, toks := tk } I o (J (i + 1)) Q) E { s with heap := h, toks := tk })
    (done : ∀ m₁ news₁ h tk, J n m₁ news₁ → Fr h₀ env.locals h m₁ → News h₀ env.locals h news₁ → Q .next { s with heap := h, toks := tk }) :
    LoopAtV prog w A h₀ env x body Q E (.ref I) s := by
  subst hwr
  refine ⟨I, fp, [I], n, P, St, m₀, news, J, rfl, W, hLf, (fun b hb => List.mem_singleton.mp hb ▸ hI0), (fun p hp hm => hnw p hp (List.mem_singleton.mp hm)), hst, F, N, hj, ?_, ?_⟩
  · rintro i v m₁ news₁ s₁ own ⟨hh', tk', rfl⟩ hin hP hJ hoff hown hget hall hst' F₁ N₁
    obtain ⟨o, ho, hpo⟩ := hob _ _ hst'
    have hio : (I, o) ∈ own := hall I hIf hI0 o ho
    have hone := own_one hown hfp ho N₁
    have hoff' : ∀ p ∈ news₁, p.1 ≠ I := fun p hp e => hoff p hp (e ▸ List.mem_singleton.mpr rfl)
    refine wpAny_mono (turn i v m₁ news₁ hh' tk' o hpo hin hP hJ hoff' F₁ (news_one hio N₁)) (fun f s₂ p => ?_) fun _ _ e => e
    have fin : UnrEnd h₀ env.locals { s with heap := hh', toks := tk' } I o (J (i + 1)) s₂ → LoopStepU h₀ env.locals [I] own (J (i + 1)) { s with heap := hh', toks := tk' } .next s₂ := by
      rintro ⟨h', tk, m', news', e, F', N', ho', r⟩
      refine ⟨rfl, h', tk, m', news', e, F', fun p hp => ?_, fun p hp hI => ho' p hp (List.mem_singleton.mp hI), r⟩
      rcases List.mem_append.mp hp with hp | hp
      · rw [hone p hp]; exact N' _ (.head _)
      · exact N' _ (.tail _ hp)
    cases f with
    | ret v => exact .ret p
    | brk => exact .brk p
    | next => exact .next (fin p)
    | cont => exact .cont (fin p)
  · rintro h' tk m' news' F' N' _ hJ
    exact done m' news' h' tk hJ F' N'

theorem range_inv {r : Addr} {b₀ : Int} {t₀ u₀ v₀ : Tok} {n : Nat} {m₀ : Str → Option Value} {news : List (Addr × Obj)}
    (hh : A.handled = none) (hr : IsRange s.heap r 0 b₀ 1 t₀ u₀ v₀) (hb0 : 0 ≤ b₀) (hb1 : b₀ ≤ 12) (hn : b₀ = (n : Int)) (F : Fr h₀ env.locals s.heap m₀) (N : News h₀ env.locals s.heap news)
    (J : (Str → Option Value) → List (Addr × Obj) → Prop) (hj : J m₀ news)
    (turn : ∀ I v m₁ news₁ h tk o, o.cls = .type "range_iterator" → J m₁ news₁ → (∀ p ∈ news₁, p.1 ≠ I) → Fr h₀ env.locals h (fun y => if y = x then some v else m₁ y) → News h₀ env.locals h ((I, o) :: news₁) →
      wpAny (model prog w) A (execs body env) (UnrPost h₀ env.locals { s with heap := h, toks := tk } I o J Q) E { s with heap := h, toks := tk })
    (done : ∀ m₁ news₁ h tk, J m₁ news₁ → Fr h₀ env.locals h m₁ → News h₀ env.locals h news₁ → Q .next { s with heap := h, toks := tk }) :
    wpAny (model prog w) A (pyIter (.ref r)) (fun it s₂ => LoopAtV prog w A h₀ env x body Q E it s₂) E s := by
  have hsz : Builtin.Range.small 0 b₀ 1 = true ∧ Builtin.Range.rangeSize 0 b₀ 1 = (n : Int) := by
    have h1 : ∀ k : Nat, k < 13 → Builtin.Range.small 0 (k : Int) 1 = true ∧ Builtin.Range.rangeSize 0 (k : Int) 1 = (k : Int) := by decide +kernel
    rw [hn]
    exact h1 n (by clear h1; omega)
  refine wpAny_pyIter_range hr hsz.1 ?_
  refine loop_inv2 (PO := fun o => o.cls = .type "range_iterator") (s := { s with heap := s.heap.push _ }) (Walks.range (prog := prog) (w := w) hh s.heap.objs.size 0 1 n) (List.mem_singleton.mpr rfl) (fun b hb => .inl (List.mem_singleton.mp hb)) (next_is_new F) (fun i h hs => ⟨_, hs, rfl⟩) ?_ rfl ?_ ?_ (F.push _) (fun p hp => ⟨Heap.get?_push_of_some _ (N p hp).1, (N p hp).2⟩) (fun _ => J) hj ?_ (fun m₁ news₁ h tk => done m₁ news₁ h tk)
  · intro hm
    exact absurd F.ns.lt ((List.mem_singleton.mp hm) ▸ Nat.lt_irrefl _)
  · intro p hp hI
    exact absurd (Heap.lt_size (N p hp).1) (hI ▸ Nat.lt_irrefl _)
  · show IsRangeIter _ _ _ _ _
    rw [hsz.2]
    simpa using Heap.get?_push_size _ rfl
  · intro i v m₁ news₁ h tk o ho _ _ hJ hoff F' N'
    exact turn _ v m₁ news₁ h tk o ho hJ hoff F' N'
end
theorem news_shuffle {h₀ h : Heap} {L : Addr} {a b c d e f : Addr × Obj} {r : List (Addr × Obj)} (N : News h₀ L h (a :: b :: c :: d :: e :: f :: r)) : News h₀ L h (f :: b :: d :: e :: c :: r) := fun p hp => N p (by
  simp only [List.mem_cons] at hp ⊢
  rcases hp with h | h | h | h | h | h <;> simp [h])
/-- a mark: the walk is to go on -/
def GoOn : Prop := True
inductive Hold (P : Prop) : Prop
  | intro (h : P) : Hold P
theorem news_offs {h₀ h : Heap} {L : Addr} {news : List (Addr × Obj)} {q : Addr × Obj} (N : News h₀ L h news) (h2 : q ∈ news) (l : List (Addr × Obj)) (hs : ∀ p ∈ l, p ∈ news) (hl : ∀ p ∈ l, p.2 ≠ q.2) : ∀ p ∈ l, @Ne Nat p.1 q.1 :=
  fun p hp => news_ne N (hs p hp) h2 (hl p hp)
theorem kd_list {vs : Array Value} {n : Nat} : kd (listOf vs n) = 1 := rfl
theorem kd_tds {es : List DictEntry} {n : Nat} : kd (dictOf es n) = 2 := rfl
theorem kd_inst {a b : Addr} : kd (instObj a b) = 3 := rfl
/-- the law's ledger: its places are apart -/
theorem led_offs {w : World} {h₀ h : Heap} {L : Addr} {l : Nat} {src rl tbl td dE tde : Addr} {x y : Int} {tx ty : Tok} {n k : Nat} {Z : List Row} {tds : List DictEntry} {oE cg cn ca ct : Obj} {kvs : List (Int × Value)} {v1 v2 v3 v4 : Option Value} {Y : List (Addr × Obj)}
    (N : News h₀ L h ((src, listOf #[.int x tx, .int y ty] n) :: (rl, listOf (refsOf Z).toArray k) :: (tbl, instObj 155 tde) :: (td, dictOf tds 7) :: (dE, oE) :: (l + 1 + 1 + 1 + 1, cg) :: (l + 1 + 1 + 1, cn) :: (l + 1 + 1, ca) :: (l + 1, ct) :: Y))
    (hE : oE.IsDictOf (PySem.intKind PySem.Challenge.rw_xw0331_01.row.prog w) kvs) (e1 : cg.data = .cell v1) (e2 : cn.data = .cell v2) (e3 : ca.data = .cell v3) (e4 : ct.data = .cell v4) (hY : ∀ p ∈ Y, YOb p.2) :
    (∀ p ∈ (rl, listOf (refsOf Z).toArray k) :: (tbl, instObj 155 tde) :: (td, dictOf tds 7) :: (dE, oE) :: (l + 1 + 1 + 1 + 1, cg) :: (l + 1 + 1 + 1, cn) :: (l + 1 + 1, ca) :: (l + 1, ct) :: Y, @Ne Nat p.1 src) ∧
    (∀ p ∈ (tbl, instObj 155 tde) :: (td, dictOf tds 7) :: (dE, oE) :: (l + 1 + 1 + 1 + 1, cg) :: (l + 1 + 1 + 1, cn) :: (l + 1 + 1, ca) :: (l + 1, ct) :: Y, @Ne Nat p.1 rl) ∧
    (∀ p ∈ (src, listOf #[.int x tx, .int y ty] n) :: (rl, listOf (refsOf Z).toArray k) :: (tbl, instObj 155 tde) :: (td, dictOf tds 7) :: (dE, oE) :: Y, @Ne Nat p.1 (l + 1 + 1 + 1 + 1)) ∧
    (∀ p ∈ (src, listOf #[.int x tx, .int y ty] n) :: (rl, listOf (refsOf Z).toArray k) :: (tbl, instObj 155 tde) :: (td, dictOf tds 7) :: (dE, oE) :: Y, @Ne Nat p.1 (l + 1 + 1 + 1)) ∧
    (∀ p ∈ (src, listOf #[.int x tx, .int y ty] n) :: (rl, listOf (refsOf Z).toArray k) :: (tbl, instObj 155 tde) :: (td, dictOf tds 7) :: (dE, oE) :: Y, @Ne Nat p.1 (l + 1 + 1)) := by
  have k1 := kd_cell e1
  have k2 := kd_cell e2
  have k3 := kd_cell e3
  have k4 := kd_cell e4
  have kE := kd_dict hE
  refine ⟨news_offs (q := (src, listOf #[.int x tx, .int y ty] n)) N (List.mem_cons_self ..) _ (fun p hp => List.mem_cons_of_mem _ hp) ?_,
    news_offs (q := (rl, listOf (refsOf Z).toArray k)) N (by k_mem) _ (fun p hp => List.mem_cons_of_mem _ (List.mem_cons_of_mem _ hp)) ?_,
    news_offs (q := (l + 1 + 1 + 1 + 1, cg)) N (by k_mem) _ (fun p hp => ?_) ?_, news_offs (q := (l + 1 + 1 + 1, cn)) N (by k_mem) _ (fun p hp => ?_) ?_, news_offs (q := (l + 1 + 1, ca)) N (by k_mem) _ (fun p hp => ?_) ?_⟩
  · simp only [List.forall_mem_cons]
    refine ⟨pair_rows.symm, kd_ne ?_, kd_ne ?_, kd_ne ?_, kd_ne ?_, kd_ne ?_, kd_ne ?_, kd_ne ?_, fun p hp => yob_pair (hY p hp)⟩ <;> simp only [k1, k2, k3, k4, kE, kd_list, kd_tds, kd_inst] <;> decide
  · simp only [List.forall_mem_cons]
    refine ⟨kd_ne ?_, kd_ne ?_, kd_ne ?_, kd_ne ?_, kd_ne ?_, kd_ne ?_, kd_ne ?_, fun p hp => yob_rows (hY p hp)⟩ <;> simp only [k1, k2, k3, k4, kE, kd_list, kd_tds, kd_inst] <;> decide
  · simp only [List.mem_cons] at hp ⊢
    rcases hp with h | h | h | h | h | h <;> simp [h]
  · simp only [List.forall_mem_cons]
    refine ⟨kd_ne ?_, kd_ne ?_, kd_ne ?_, kd_ne ?_, kd_ne ?_, fun p hp => yob_cell (hY p hp) e1⟩ <;> simp only [k1, k2, k3, k4, kE, kd_list, kd_tds, kd_inst] <;> decide
  · simp only [List.mem_cons] at hp ⊢
    rcases hp with h | h | h | h | h | h <;> simp [h]
  · simp only [List.forall_mem_cons]
    refine ⟨kd_ne ?_, kd_ne ?_, kd_ne ?_, kd_ne ?_, kd_ne ?_, fun p hp => yob_cell (hY p hp) e2⟩ <;> simp only [k1, k2, k3, k4, kE, kd_list, kd_tds, kd_inst] <;> decide
  · simp only [List.mem_cons] at hp ⊢
    rcases hp with h | h | h | h | h | h <;> simp [h]
  · simp only [List.forall_mem_cons]
    refine ⟨kd_ne ?_, kd_ne ?_, kd_ne ?_, kd_ne ?_, kd_ne ?_, fun p hp => yob_cell (hY p hp) e3⟩ <;> simp only [k1, k2, k3, k4, kE, kd_list, kd_tds, kd_inst] <;> decide
theorem off_out5 {x0 x1 x2 x3 x4 b : Addr} {o0 o1 o2 o3 o4 : Obj} {Y : List (Addr × Obj)} {G : Prop} (h : ∀ p ∈ (x0, o0) :: (x1, o1) :: (x2, o2) :: (x3, o3) :: (x4, o4) :: Y, @Ne Nat p.1 b) (k : @Ne Nat x0 b → @Ne Nat x1 b → @Ne Nat x2 b → @Ne Nat x3 b → @Ne Nat x4 b → (∀ p ∈ Y, @Ne Nat p.1 b) → G) : G :=
  k (h _ (.head _)) (h _ (.tail _ (.head _))) (h _ (.tail _ (.tail _ (.head _)))) (h _ (.tail _ (.tail _ (.tail _ (.head _))))) (h _ (.tail _ (.tail _ (.tail _ (.tail _ (.head _)))))) (fun p q => h p (.tail _ (.tail _ (.tail _ (.tail _ (.tail _ (q)))))))
theorem off_out7 {x0 x1 x2 x3 x4 x5 x6 b : Addr} {o0 o1 o2 o3 o4 o5 o6 : Obj} {Y : List (Addr × Obj)} {G : Prop} (h : ∀ p ∈ (x0, o0) :: (x1, o1) :: (x2, o2) :: (x3, o3) :: (x4, o4) :: (x5, o5) :: (x6, o6) :: Y, @Ne Nat p.1 b) (k : @Ne Nat x0 b → @Ne Nat x1 b → @Ne Nat x2 b → @Ne Nat x3 b → @Ne Nat x4 b → @Ne Nat x5 b → @Ne Nat x6 b → (∀ p ∈ Y, @Ne Nat p.1 b) → G) : G :=
  k (h _ (.head _)) (h _ (.tail _ (.head _))) (h _ (.tail _ (.tail _ (.head _)))) (h _ (.tail _ (.tail _ (.tail _ (.head _))))) (h _ (.tail _ (.tail _ (.tail _ (.tail _ (.head _)))))) (h _ (.tail _ (.tail _ (.tail _ (.tail _ (.tail _ (.head _))))))) (h _ (.tail _ (.tail _ (.tail _ (.tail _ (.tail _ (.tail _ (.head _)))))))) (fun p q => h p (.tail _ (.tail _ (.tail _ (.tail _ (.tail _ (.tail _ (.tail _ (q)))))))))
theorem off_out9 {x0 x1 x2 x3 x4 x5 x6 x7 x8 b : Addr} {o0 o1 o2 o3 o4 o5 o6 o7 o8 : Obj} {Y : List (Addr × Obj)} {G : Prop} (h : ∀ p ∈ (x0, o0) :: (x1, o1) :: (x2, o2) :: (x3, o3) :: (x4, o4) :: (x5, o5) :: (x6, o6) :: (x7, o7) :: (x8, o8) :: Y, p.1 ≠ b) (k : x0 ≠ b → x1 ≠ b → x2 ≠ b → x3 ≠ b → x4 ≠ b → x5 ≠ b → x6 ≠ b → x7 ≠ b → x8 ≠ b → (∀ p ∈ Y, p.1 ≠ b) → G) : G :=
  k (h _ (.head _)) (h _ (.tail _ (.head _))) (h _ (.tail _ (.tail _ (.head _)))) (h _ (.tail _ (.tail _ (.tail _ (.head _))))) (h _ (.tail _ (.tail _ (.tail _ (.tail _ (.head _)))))) (h _ (.tail _ (.tail _ (.tail _ (.tail _ (.tail _ (.head _))))))) (h _ (.tail _ (.tail _ (.tail _ (.tail _ (.tail _ (.tail _ (.head _)))))))) (h _ (.tail _ (.tail _ (.tail _ (.tail _ (.tail _ (.tail _ (.tail _ (.head _))))))))) (h _ (.tail _ (.tail _ (.tail _ (.tail _ (.tail _ (.tail _ (.tail _ (.tail _ (.head _)))))))))) (fun p q => h p (.tail _ (.tail _ (.tail _ (.tail _ (.tail _ (.tail _ (.tail _ (.tail _ (.tail _ (q)))))))))))
theorem news_swap {h₀ h : Heap} {L : Addr} {a b : Addr × Obj} {r : List (Addr × Obj)} (N : News h₀ L h (a :: b :: r)) : News h₀ L h (b :: a :: r) := fun p hp => N p (by
  simp only [List.mem_cons] at hp ⊢
  rcases hp with h | h | h <;> simp [h])
theorem off_cons {I : Addr} {o : Obj} {b : Nat} {l : List (Addr × Obj)} (h : @Ne Nat I b) (hl : ∀ p ∈ l, @Ne Nat p.1 b) : ∀ p ∈ (I, o) :: l, @Ne Nat p.1 b := List.forall_mem_cons.mpr ⟨h, hl⟩
theorem rows_inN {h₀ h : Heap} {L : Addr} {l Y : List (Addr × Obj)} {G : Arp} {Z : List Row} {rl : Addr} {k : Nat} (N : News h₀ L h l) (hr : (rl, listOf (refsOf Z).toArray k) ∈ l) (hY : LedY G Z Y) (hs : ∀ p ∈ Y, p ∈ l) :
    RowsIn l rl Z ∧ ∀ z ∈ Z, rowOf Z (.ref z.ad) = some z := by
  have h1 : RowsIn l rl Z := ⟨⟨k, hr⟩, fun z hz => by
    obtain ⟨ob, hob, hb⟩ := hY.rows z hz
    exact ⟨ob, hs _ hob, hb⟩⟩
  exact ⟨h1, rowOf_mem (h1.same N)⟩
theorem frame5 {m : Str → Option Value} {x y z u t : Str} {a b c d e : Option Value} (h1 : m x = a) (h2 : m y = b) (h3 : m z = c) (h4 : m u = d) (h5 : m t = e) : m = fun k => if k = x then a else if k = y then b else if k = z then c else if k = u then d else if k = t then e else m k := by
  funext k
  by_cases e1 : k = x
  · subst e1; simp [h1]
  · by_cases e2 : k = y
    · subst e2; simp [e1, h2]
    · by_cases e3 : k = z
      · subst e3; simp [e1, e2, h3]
      · by_cases e4 : k = u
        · subst e4; simp [e1, e2, e3, h4]
        · by_cases e5 : k = t
          · subst e5; simp [e1, e2, e3, e4, h5]
          · simp [e1, e2, e3, e4, e5]
theorem room_len {R : List Ent} {size : Int} (h1 : 1 ≤ size) (h : (R.length : Int) ≤ size) : ((roomFor R size).length : Int) + 1 ≤ size := by
  unfold roomFor
  split
  · rename_i hc
    have hne : R ≠ [] := fun e => by rw [e] at hc; simp at hc; omega
    obtain ⟨x, hb, hx, hxa⟩ := best_ex hne
    have h2 : (R.filter (fun r => decide (r.a ≠ oldestOf R))).length < R.length := by
      refine Nat.lt_of_le_of_ne (List.length_filter_le _ _) fun e => ?_
      have := List.length_filter_eq_length_iff.mp e x hx
      simp [hxa] at this
    omega
  · omega
end P15
section P16
theorem news_put3 {h₀ h : Heap} {L : Addr} {a b c d : Addr × Obj} {r : List (Addr × Obj)} (N : News h₀ L h (d :: a :: b :: c :: r)) : News h₀ L h (a :: b :: d :: r) := fun p hp => N p (by
  simp only [List.mem_cons] at hp ⊢
  rcases hp with h | h | h | h <;> simp [h])
theorem news_drop2 {h₀ h : Heap} {L : Addr} {a b : Addr × Obj} {r : List (Addr × Obj)} (N : News h₀ L h (a :: b :: r)) : News h₀ L h (a :: r) := fun p hp => N p (by
  simp only [List.mem_cons] at hp ⊢
  rcases hp with h | h <;> simp [h])
theorem mat_room {Z : List Row} {R : List Ent} {size v : Int} (h : Mat Z R) (hv : v = oldestOf R) (hs : size ≤ (R.length : Int)) : Mat (Z.filter (fun z => z.a != v)) (roomFor R size) := by
  subst hv
  unfold roomFor
  rw [if_pos hs]
  have h1 := h.filter (fun a => a != oldestOf R)
  have e : (fun r : Ent => decide (r.a ≠ oldestOf R)) = fun r => r.a != oldestOf R := by
    funext r; by_cases h : r.a = oldestOf R <;> simp [h]
  rw [e]; exact h1

/-- behind a new entry: the ledger -/
theorem new_ledger {w : World} {h₀ h h' : Heap} {L : Addr} {l : Nat} {G G' : Arp} {r : Ent} {zl sr rl I : Addr} {zob sro o9 rlo kg kn ka kt : Obj} {v1 v2 v3 v4 : Option Value} {Y : List (Addr × Obj)}
    (N : News h₀ L h ((zl, zob) :: (sr, sro) :: (I, o9) :: (rl, rlo) :: (G.tbl, instObj 155 G.td) :: (G.td, dictOf G.tds 7) :: (G.dE, G.oE) :: (l + 1 + 1 + 1 + 1, kg) :: (l + 1 + 1 + 1, kn) :: (l + 1 + 1, ka) :: (l + 1, kt) :: Y))
    (z1 : kd zob = 1) (z2 : kd sro = 1) (z3 : kd rlo = 1) (e1 : kg.data = .cell v1) (e2 : kn.data = .cell v2) (e3 : ka.data = .cell v3) (e4 : kt.data = .cell v4) (i1 : @Ne Nat G.td I) (i2 : @Ne Nat G.dE I) (S : GS w G) (hY : ∀ p ∈ Y, YOb p.2)
    (N' : News h₀ L h' [(G.tbl, instObj 155 G.td), (G.td, dictOf G'.tds 7), (G.dE, G'.oE), (r.ent, instObj 77 r.ed), (r.ed, dictOf r.es 6)]) (pr : ∀ b o, b ≠ G.td → b ≠ G.dE → h.get? b = some o → h'.get? b = some o) :
    News h₀ L h' ((I, o9) :: (sr, sro) :: (rl, rlo) :: (G.tbl, instObj 155 G.td) :: (G.td, dictOf G'.tds 7) :: (G.dE, G'.oE) :: (l + 1 + 1 + 1 + 1, kg) :: (l + 1 + 1 + 1, kn) :: (l + 1 + 1, ka) :: (l + 1, kt) :: (r.ent, instObj 77 r.ed) :: (r.ed, dictOf r.es 6) :: (zl, zob) :: Y) := by
  have mt : (G.td, dictOf G.tds 7) ∈ (zl, zob) :: (sr, sro) :: (I, o9) :: (rl, rlo) :: (G.tbl, instObj 155 G.td) :: (G.td, dictOf G.tds 7) :: (G.dE, G.oE) :: (l + 1 + 1 + 1 + 1, kg) :: (l + 1 + 1 + 1, kn) :: (l + 1 + 1, ka) :: (l + 1, kt) :: Y := by k_mem
  have mE : (G.dE, G.oE) ∈ (zl, zob) :: (sr, sro) :: (I, o9) :: (rl, rlo) :: (G.tbl, instObj 155 G.td) :: (G.td, dictOf G.tds 7) :: (G.dE, G.oE) :: (l + 1 + 1 + 1 + 1, kg) :: (l + 1 + 1 + 1, kn) :: (l + 1 + 1, ka) :: (l + 1, kt) :: Y := by k_mem
  have k1 := kd_cell e1
  have k2 := kd_cell e2
  have k3 := kd_cell e3
  have k4 := kd_cell e4
  have kE := kd_dict S.oE
  have go : ∀ p, p ∈ (zl, zob) :: (sr, sro) :: (I, o9) :: (rl, rlo) :: (G.tbl, instObj 155 G.td) :: (G.td, dictOf G.tds 7) :: (G.dE, G.oE) :: (l + 1 + 1 + 1 + 1, kg) :: (l + 1 + 1 + 1, kn) :: (l + 1 + 1, ka) :: (l + 1, kt) :: Y →
      (kd p.2 ≠ 2 ∨ YOb p.2 ∨ p.1 = I) → h'.get? p.1 = some p.2 ∧ p.1 ≠ L ∧ h₀.get? p.1 = none := fun p hp hk => by
    have hN := N p hp
    refine ⟨pr _ _ ?_ ?_ hN.1, hN.2⟩
    · rcases hk with hk | hk | hk
      · exact news_ne N hp mt (kd_ne (by rw [show kd (G.td, dictOf G.tds 7).2 = 2 from rfl]; exact hk))
      · exact news_ne N hp mt (yob_td hk S.tdD)
      · rw [hk]; exact i1.symm
    · rcases hk with hk | hk | hk
      · exact news_ne N hp mE (kd_ne (by rw [show kd (G.dE, G.oE).2 = 2 from kE]; exact hk))
      · exact news_ne N hp mE (yob_dE hk S.oE)
      · rw [hk]; exact i2.symm
  intro p hp
  simp only [List.mem_cons] at hp
  rcases hp with h | h | h | h | h | h | h | h | h | h | h | h | h | h
  · exact h ▸ go (I, o9) (by k_mem) (.inr (.inr rfl))
  · exact h ▸ go (sr, sro) (by k_mem) (.inl (by dsimp only; rw [z2]; decide))
  · exact h ▸ go (rl, rlo) (by k_mem) (.inl (by dsimp only; rw [z3]; decide))
  · exact h ▸ N' _ (by k_mem)
  · exact h ▸ N' _ (by k_mem)
  · exact h ▸ N' _ (by k_mem)
  · exact h ▸ go (_, kg) (by k_mem) (.inl (by dsimp only; rw [k1]; decide))
  · exact h ▸ go (_, kn) (by k_mem) (.inl (by dsimp only; rw [k2]; decide))
  · exact h ▸ go (_, ka) (by k_mem) (.inl (by dsimp only; rw [k3]; decide))
  · exact h ▸ go (_, kt) (by k_mem) (.inl (by dsimp only; rw [k4]; decide))
  · exact h ▸ N' _ (by k_mem)
  · exact h ▸ N' _ (by k_mem)
  · exact h ▸ go (zl, zob) (by k_mem) (.inl (by dsimp only; rw [z1]; decide))
  · exact go p (by repeat (first | exact h | refine List.mem_cons_of_mem _ ?_)) (.inr (.inl (hY p h)))

theorem refs_push {Z : List Row} {z : Row} : (refsOf Z).toArray.push (.ref z.ad) = (refsOf (Z ++ [z])).toArray := by
  unfold refsOf
  rw [List.map_append, List.push_toArray]; rfl

/-- behind a new entry: the state -/
theorem new_sets {w : World} {G G' : Arp} {Z Z1 : List Row} {Y : List (Addr × Obj)} {size : Int} {r : Ent} {z : Row} {zob : Obj} {h' : Heap} (S : Sets w G Z Y size) (K : ArpOk w h' G') (e4 : G'.size = G.size) (e5 : G'.made = G.made + 1) (e6 : G'.R = roomFor G.R G.size ++ [r])
    (m1 : Mat Z1 (roomFor G.R G.size)) (hs : ∀ y ∈ Z1, y ∈ Z) (hz : z.a = r.a ∧ z.p = r.p ∧ z.s = r.s ∧ z.o = r.o) (ho : r.o = G.made) (hb : RowOb z zob) :
    Sets w G' (Z1 ++ [z]) ((r.ent, instObj 77 r.ed) :: (r.ed, dictOf r.es 6) :: (z.ad, zob) :: Y) size := by
  have hr : r ∈ G'.R := by rw [e6]; simp
  refine ⟨K.gs, ⟨?_, ?_, ?_⟩, ?_, ?_, by rw [e4]; exact S.sz, S.s1, S.s4, ?_⟩
  · intro p hp
    simp only [List.mem_cons] at hp
    rcases hp with h | h | h | h
    · rw [h]; exact .inl ⟨_, rfl⟩
    · rw [h]; exact .inr (.inl ⟨r, (K.ents r hr).ok.d, rfl⟩)
    · rw [h]; exact .inr (.inr ⟨z, hb⟩)
    · exact S.y.ob p h
  · intro x hx
    rw [e6] at hx
    rcases List.mem_append.mp hx with h | h
    · obtain ⟨h1, h2⟩ := S.y.ents x (roomFor_sub x h)
      exact ⟨.tail _ (.tail _ (.tail _ h1)), .tail _ (.tail _ (.tail _ h2))⟩
    · rw [List.mem_singleton.mp h]
      exact ⟨.head _, .tail _ (.head _)⟩
  · intro y hy
    rcases List.mem_append.mp hy with h | h
    · obtain ⟨ob, h1, h2⟩ := S.y.rows y (hs y h)
      exact ⟨ob, .tail _ (.tail _ (.tail _ h1)), h2⟩
    · rw [List.mem_singleton.mp h]
      exact ⟨zob, .tail _ (.tail _ (.head _)), hb⟩
  · rw [e6]
    exact Mat.app m1 (Mat.cons.mpr ⟨hz, rfl⟩)
  · rw [e6, e5]
    exact S.rise.room.add ho
  · rw [e6, List.length_append, List.length_singleton]
    have := room_len (R := G.R) (size := size) S.s1 S.len
    rw [S.sz]; push_cast; exact this
end P16
section P17
section
variable {prog : Program} {w : World} {A : Around} {E : Value → Shared → Prop} {s : Shared} {env : Env} {h₀ : Heap} {L : Addr} {m : Str → Option Value} {news : List (Addr × Obj)}
theorem keys_vals {knd : KeyKind prog w Int} {kvs : List (Int × Value)} (hn : (kvs.map (·.1)).Nodup) (hint : ∀ k v, knd.is k v = true → ∃ t, v = .int k t) : ∀ (l : List (Int × Value)) (vs ys : List Value), (∀ p ∈ l, p ∈ kvs) → vs.length = l.length → (∀ (j : Nat) (v : Value), vs[j]? = some v → ∃ (k : Int) (x : Value), l[j]? = some (k, x) ∧ knd.is k v = true) →
    Paired (fun v y => ∀ k t, v = Value.int k t → valueAt kvs k = some y) vs ys → ys = l.map (·.2)
  | [], vs, ys, _, hl, _, h => by
    cases vs with
    | nil => cases h; rfl
    | cons v vs => simp at hl
  | (k, x) :: l, vs, ys, hs, hl, hP, h => by
    cases vs with
    | nil => simp at hl
    | cons v vs =>
      cases h with
      | @cons _ y _ l₂ h1 h2 =>
        obtain ⟨k', x', e1, e2⟩ := hP 0 v rfl
        simp only [List.getElem?_cons_zero, Option.some.injEq, Prod.mk.injEq] at e1
        obtain ⟨rfl, rfl⟩ := e1
        obtain ⟨t, rfl⟩ := hint _ _ e2
        have h3 := h1 k t rfl
        rw [valueAt_mem hn (hs (k, x) (List.mem_cons_self ..))] at h3
        rw [List.map_cons, ← Option.some.inj h3]
        congr 1
        refine keys_vals hn hint l vs l₂ (fun p hp => hs p (List.mem_cons_of_mem _ hp)) (by simpa using hl) (fun j v hj => ?_) h2
        have := hP (j + 1) v (by simpa using hj)
        simpa using this
theorem assign_keys {elt iter : Expr} {x y : Str} {px py : Pos} {scope : Scope} {cl : List (Str × Addr)} {pos spos : Pos} {kvs : List (Int × Value)} {Q : Flow → Shared → Prop} (_F₀ : Fr h₀ L s.heap m) (_N₀ : News h₀ L s.heap news)
    (hsw : swapsWith (.ListComp elt [⟨.Name x px, iter, [], 0⟩] scope pos) (some (.Name y py)) spos.line env = pure true) (hL : env.locals = L)
    (hh : A.handled = none) (hclos : closureFor scope env = pure cl) (hcell : ∀ z ∈ scope.names, z.2 ≠ .cell) (hkind : scope.kind = .function)
    (hnames : ∀ z ∈ scope.names, z.2 = .local → scope.names.lookup z.1 = some .local) (hx : scope.names.lookup x = some .local)
    (hy : env.kindOf y = some .local) (hp : (env.scope.kind == .class || (env.scope.kind == .module && env.locals != env.globals)) = false)
    (h : wpAny (model prog w) A (eval iter env) (fun xv s₁ => ∃ d o, xv = .ref d ∧ (d, o) ∈ news ∧ o.IsDictOf (PySem.intKind prog w) kvs ∧ (d == sysModules) = false ∧ kvs.length ≤ sizeLine ∧ Fr h₀ L s₁.heap m ∧ News h₀ L s₁.heap news ∧
      (∀ C k t s₂ m₂ E', (∃ x, (k, x) ∈ kvs) → s₂.heap.Ns (compEnvC scope cl C env).locals m₂ → m₂ x = some (.int k t) → (∀ b o, s₁.heap.get? b = some o → s₂.heap.get? b = some o) →
        wpAny (model prog w) A (eval elt (compEnvC scope cl C env)) (fun y s₃ => valueAt kvs k = some y ∧ Keeps s₂ s₃) E' s₂) ∧
      (∀ D n h' tk, Fr h₀ L h' (fun z => if z = y then some (.ref D) else m z) → News h₀ L h' ((D, listOf (kvs.map (·.2)).toArray n) :: news) → (∀ p ∈ news, p.1 ≠ D) → Q .next { s₁ with heap := h', toks := tk })) E s)
    (hs : ∀ x, foldedSetIterable iter env x = pure x) :
    wpAny (model prog w) A (exec (.Assign [.Name y py] (.ListComp elt [⟨.Name x px, iter, [], 0⟩] scope pos) spos) env) Q E s := by
  subst hL
  refine wpAny_Assign_ListComp_free (fun _ => true) (fun v y => ∀ k t, v = Value.int k t → valueAt kvs k = some y) hsw hclos hcell hkind hnames hx hy hp (wpAny_mono h (fun xv s₁ h₁ => ?_) fun _ _ e => e) hs
  obtain ⟨d, od, rfl, hdm, hdo, lo, hsz, F, N, ask, hQ⟩ := h₁
  obtain ⟨ep, hAt⟩ := (kda_dict N hdm hdo).dictAt
  have hlt : d < s₁.heap.objs.size := Heap.lt_size (N.get hdm)
  have hint : ∀ k v, (PySem.intKind prog w).is k v = true → ∃ t, v = .int k t := fun k v hv => by
    cases v with
    | int k' t => exact ⟨t, by rw [show k' = k by simpa [PySem.intKind, Value.isInt] using hv]⟩
    | _ => simp [PySem.intKind, Value.isInt] at hv
  have hnd : (kvs.map (·.1)).Nodup := by obtain ⟨_, _, _, _, _, _, hn⟩ := hdo; exact hn
  refine wpAny_pyIter_dict lo hAt ⟨s₁.heap.objs.size, [s₁.heap.objs.size, d], [s₁.heap.objs.size], kvs.length, _, _, m, rfl, Walks.dictKeys (knd := PySem.intKind prog w) hh _ d (Nat.ne_of_lt hlt) kvs ep, hsz, ⟨⟨_, Heap.get?_push_size _ rfl, rfl, rfl⟩, hAt.at' fun o e => Heap.get?_push_of_some _ e⟩, ?_, ?_, F.ns.push _, ⟨?_, ?_⟩, ?_⟩
  · intro b hb
    show b < (s₁.heap.push _).objs.size
    rw [Heap.size_push]
    rcases List.mem_cons.mp hb with rfl | hb
    · exact Nat.lt_succ_self _
    · rw [List.mem_singleton.mp hb]; exact Nat.lt_succ_of_lt hlt
  · intro hm
    rw [List.mem_singleton.mp hm] at F
    exact Nat.lt_irrefl _ F.ns.lt
  · intro C i v s₃ m₃ E' _ hP hn hm hk _
    exact ifs_nil rfl
  · intro C i v s₃ m₃ E' _ hP hp' hn hm hk _
    obtain ⟨k, x', hkx, hv⟩ := hP
    obtain ⟨t, rfl⟩ := hint _ _ hv
    refine wpAny_mono (ask C k t s₃ m₃ E' ⟨x', List.mem_of_getElem? hkx⟩ hn hm (comp_up hk)) (fun y s₄ hy => ⟨fun k' t' e => ?_, hy.2⟩) fun _ _ e => e
    cases e; exact hy.1
  · intro D h' tk ys vs' hnew _ hpl hlen hP hF hn' hk
    have hf : vs'.filter (fun _ => true) = vs' := List.filter_eq_self.mpr fun _ _ => rfl
    rw [hf] at hF
    have hys := keys_vals hnd hint kvs vs' ys.toList (fun _ h => h) hlen hP hF
    obtain ⟨n, hpl⟩ := hpl
    have hD1 : s₁.heap.get? D = none := by
      cases e : s₁.heap.get? D with
      | none => rfl
      | some o' => rw [Heap.get?_push_of_some _ e] at hnew; cases hnew
    have keep : ∀ b o, b ≠ env.locals → s₁.heap.get? b = some o → h'.get? b = some o := fun b o hb e =>
      hk b o hb (fun hm => by rw [List.mem_singleton.mp hm] at e; exact Nat.lt_irrefl _ (Heap.lt_size e)) (Heap.get?_push_of_some _ e)
    refine hQ D n h' tk ⟨hn', fun b o e => keep b o (Nat.ne_of_lt (Nat.lt_of_lt_of_le (Heap.lt_size e) F.above)) (F.keep b o e), F.above⟩ ?_ ?_
    · intro p hp
      rcases List.mem_cons.mp hp with rfl | hp
      · refine ⟨by rw [← hys, Array.toArray_toList]; exact hpl, fun e => ?_, ?_⟩
        · obtain ⟨oL, _, _, hL, _⟩ := F.ns
          rw [← (show D = env.locals from e), hD1] at hL; cases hL
        · cases e : h₀.get? D with
          | none => rfl
          | some o' => rw [F.keep _ _ e] at hD1; cases hD1
      · exact ⟨keep _ _ (N p hp).2.1 (N p hp).1, (N p hp).2⟩
    · intro p hp e
      have := (N p hp).1
      rw [e, hD1] at this; cases this

/-- the turns of a comprehension that makes objects: by a word on what is done -/
theorem comp_rest_inv {elt : Expr} {x : Str} {scope : Scope} {cl : List (Str × Addr)} {S : List (Addr × Obj) → Prop} {P : Nat → Value → Prop} {Fin : List Value → List (Addr × Obj) → Prop} {n : Nat} (J : Nat → List Value → List (Addr × Obj) → Prop)
    (turn : ∀ i ys news v I oI C oC D m₂ h tk (E' : Value → Shared → Prop), i < n → J i ys news → P i v → LCg.NsObj oC m₂ → m₂ x = some v → Fr h₀ L h m → News h₀ L h ((I, oI) :: (C, oC) :: (D, LCg.lst ys) :: news) → LCg.Off3 I C D news → ((@Ne Nat I C) ∧ (@Ne Nat I D) ∧ (@Ne Nat C D)) →
      wpAny (model prog w) A (eval elt (compEnvC scope cl C env)) (LCg.CompEnd h₀ L m { s with heap := h, toks := tk } I oI C oC D (LCg.lst ys) S (fun y news' => J (i + 1) (ys ++ [y]) news')) E' { s with heap := h, toks := tk })
    (fin : ∀ ys news, J n ys news → Fin ys news) : ∀ k i ys news, i + k = n → J i ys news → LCg.CompRest prog w A h₀ L m env elt x scope cl s S P Fin k i ys news
  | 0, i, ys, news, e, hj => by
    have : i = n := by omega
    subst this
    exact LCg.CompRest.zero (fin ys news hj)
  | k + 1, i, ys, news, e, hj => by
    refine LCg.CompRest.succ ?_
    intro v I oI C oC D m₂ h tk E' hP hC hx F N off ne
    refine wpAny_mono (turn i ys news v I oI C oC D m₂ h tk E' (by omega) hj hP hC hx F N off ne) (fun y s₂ hy => ?_) fun _ _ e => e
    obtain ⟨h', tk', news', e1, F', N', off', hS, hr⟩ := hy
    exact ⟨h', tk', news', e1, F', N', off', hS, comp_rest_inv J turn fin k (i + 1) (ys ++ [y]) news' (by omega) hr⟩
end
theorem learn_old' {w : World} {A : Around} {E : Value → Shared → Prop} {s : Shared} {h₀ : Heap} {L : Addr} {m : Str → Option Value} {d u : Nat}
  (C : Cx w A h₀ L d u) (F : Fr h₀ L s.heap m) (hd : d < 920) (hu9 : u < 8800) {G : Arp} (K : ArpOk w s.heap G) {R1 R2 : List Ent} {r : Ent} (hR : G.R = R1 ++ r :: R2) {a : Int} (ha : r.a = a)
  (hN : News h₀ L s.heap [(G.tbl, instObj 155 G.td), (G.td, dictOf G.tds 7), (G.dE, G.oE), (r.ent, instObj 77 r.ed), (r.ed, dictOf r.es 6)])
  {now li : Int} {ta tn tl : Tok}
  {Q : Value → Shared → Prop} (h : ∀ h' tk (r' : Ent) q, Fr h₀ L h' m → ArpOk w h' { G with R := R1 ++ r' :: R2 } → r'.a = a → r'.s = now → r'.o = r.o → r'.p = false → r'.ent = r.ent → r'.ed = r.ed →
    (∀ b o, b ≠ r.ed → s.heap.get? b = some o → h'.get? b = some o) → Q (.ref q) {s with heap := h', toks := tk}) :
  wpAny (model PySem.Challenge.rw_xw0331_01.row.prog w) A (PySem.call (.ref 131) [.ref G.tbl, .int a ta, .int li tl, .int now tn]) Q E s := by
  subst ha
  exact learn_old C F hd hu9 K hR hN fun h' tk r' q F' K' e1 e2 e3 e4 e5 e6 pr => h h' tk r' q F' K' e1 e2 e3 e4 e5 e6 pr
end P17
section P18
theorem mat_snoc {Zd : List Row} {R : List Ent} {i : Nat} {z : Row} {x : Ent} (h : Mat Zd (R.take i)) (hx : R[i]? = some x) (hz : z.a = x.a ∧ z.p = x.p ∧ z.s = x.s ∧ z.o = x.o) : Mat (Zd ++ [z]) (R.take (i + 1)) := by
  rw [List.take_add_one, hx]
  exact Mat.app h (Mat.cons.mpr ⟨hz, rfl⟩)
theorem mat_get {Z : List Row} {R : List Ent} (h : Mat Z R) {i : Nat} {z : Row} (hz : Z[i]? = some z) : ∃ x, R[i]? = some x ∧ z.a = x.a ∧ z.p = x.p ∧ z.s = x.s ∧ z.o = x.o := by
  have h1 := congrArg (fun l => l[i]?) (show Z.map _ = R.map _ from h)
  simp only [List.getElem?_map, hz, Option.map_some] at h1
  cases hr : R[i]? with
  | none => rw [hr] at h1; cases h1
  | some x =>
    rw [hr] at h1
    simp only [Option.map_some, Option.some.injEq, Prod.mk.injEq] at h1
    exact ⟨x, rfl, h1.1, h1.2.1, h1.2.2.1, h1.2.2.2⟩
theorem upd_map {R1 R2 : List Ent} {r r' : Ent} {a : Int} (ha : r.a = a) (hn : ((R1 ++ r :: R2).map (·.a)).Nodup) : R1 ++ r' :: R2 = (R1 ++ r :: R2).map (fun x => if x.a = a then r' else x) := by
  rw [List.map_append, List.map_cons, List.nodup_append, List.nodup_cons] at hn
  obtain ⟨_, ⟨h2, _⟩, h3⟩ := hn
  rw [List.map_append, List.map_cons, if_pos ha]
  have e1 : R1.map (fun x => if x.a = a then r' else x) = R1 := by
    conv => rhs; rw [← List.map_id R1]
    refine List.map_congr_left fun x hx => ?_
    rw [if_neg (fun e => h3 x.a (List.mem_map.mpr ⟨x, hx, rfl⟩) r.a (List.mem_cons_self ..) (by rw [ha]; exact e))]; rfl
  have e2 : R2.map (fun x => if x.a = a then r' else x) = R2 := by
    conv => rhs; rw [← List.map_id R2]
    refine List.map_congr_left fun x hx => ?_
    rw [if_neg (fun e => h2 (List.mem_map.mpr ⟨x, hx, by show x.a = r.a; rw [ha]; exact e⟩))]; rfl
  rw [e1, e2]
theorem gs_nodup {w : World} {G : Arp} (S : GS w G) : (G.R.map (·.a)).Nodup := by
  have h := kvsOf_nodup S.oE
  unfold kvsOf at h
  rw [List.map_map] at h
  exact h

/-- behind an entry that is learnt anew: the ledger -/
theorem old_ledger {w : World} {h₀ h h' : Heap} {L : Addr} {l : Nat} {G : Arp} {R1 R2 : List Ent} {r r' : Ent} {sr rl I : Addr} {sro o9 rlo kg kn ka kt : Obj} {v1 v2 v3 v4 : Option Value} {Z : List Row} {Y : List (Addr × Obj)}
    (N : News h₀ L h ((sr, sro) :: (I, o9) :: (rl, rlo) :: (G.tbl, instObj 155 G.td) :: (G.td, dictOf G.tds 7) :: (G.dE, G.oE) :: (l + 1 + 1 + 1 + 1, kg) :: (l + 1 + 1 + 1, kn) :: (l + 1 + 1, ka) :: (l + 1, kt) :: Y))
    (z2 : kd sro = 1) (z3 : kd rlo = 1) (e1 : kg.data = .cell v1) (e2 : kn.data = .cell v2) (e3 : ka.data = .cell v3) (e4 : kt.data = .cell v4) (ho9 : o9.cls = .type "range_iterator") (S : GS w G) (hY : LedY G Z Y)
    (hR : G.R = R1 ++ r :: R2) (K : ArpOk w h' { G with R := R1 ++ r' :: R2 }) (en : r'.ent = r.ent) (ed : r'.ed = r.ed) (pr : ∀ b o, b ≠ r.ed → h.get? b = some o → h'.get? b = some o) :
    News h₀ L h' ((sr, sro) :: (I, o9) :: (rl, rlo) :: (G.tbl, instObj 155 G.td) :: (G.td, dictOf G.tds 7) :: (G.dE, G.oE) :: (l + 1 + 1 + 1 + 1, kg) :: (l + 1 + 1 + 1, kn) :: (l + 1 + 1, ka) :: (l + 1, kt) ::
      ((r.ed, dictOf r'.es 6) :: Y.filter (fun p => decide (p.1 ≠ r.ed)))) ∧ LedY { G with R := R1 ++ r' :: R2 } Z ((r.ed, dictOf r'.es 6) :: Y.filter (fun p => decide (p.1 ≠ r.ed))) := by
  have hrm : r ∈ G.R := by rw [hR]; simp
  obtain ⟨y1, y2⟩ := hY.ents r hrm
  have yin : ∀ p ∈ Y, p ∈ (sr, sro) :: (I, o9) :: (rl, rlo) :: (G.tbl, instObj 155 G.td) :: (G.td, dictOf G.tds 7) :: (G.dE, G.oE) :: (l + 1 + 1 + 1 + 1, kg) :: (l + 1 + 1 + 1, kn) :: (l + 1 + 1, ka) :: (l + 1, kt) :: Y := fun p hp => by repeat (first | exact hp | refine List.mem_cons_of_mem _ ?_)
  have k1 := kd_cell e1
  have k2 := kd_cell e2
  have k3 := kd_cell e3
  have k4 := kd_cell e4
  have hyob : YOb (dictOf r.es 6) := hY.ob _ y2
  have hr' : r' ∈ R1 ++ r' :: R2 := by simp
  have Er' := K.ents r' hr'
  have ne : ∀ p ∈ (sr, sro) :: (I, o9) :: (rl, rlo) :: (G.tbl, instObj 155 G.td) :: (G.td, dictOf G.tds 7) :: (G.dE, G.oE) :: (l + 1 + 1 + 1 + 1, kg) :: (l + 1 + 1 + 1, kn) :: (l + 1 + 1, ka) :: (l + 1, kt) :: Y, p.2 ≠ dictOf r.es 6 → p.1 ≠ r.ed :=
    fun p hp hne => news_ne (q := (r.ed, dictOf r.es 6)) N hp (yin _ y2) hne
  have go : ∀ p ∈ (sr, sro) :: (I, o9) :: (rl, rlo) :: (G.tbl, instObj 155 G.td) :: (G.td, dictOf G.tds 7) :: (G.dE, G.oE) :: (l + 1 + 1 + 1 + 1, kg) :: (l + 1 + 1 + 1, kn) :: (l + 1 + 1, ka) :: (l + 1, kt) :: Y, p.1 ≠ r.ed →
      h'.get? p.1 = some p.2 ∧ p.1 ≠ L ∧ h₀.get? p.1 = none := fun p hp hk => ⟨pr _ _ hk (N p hp).1, (N p hp).2⟩
  have kdr : kd (dictOf r.es 6) = 2 := rfl
  constructor
  · intro p hp
    simp only [List.mem_cons] at hp
    rcases hp with h | h | h | h | h | h | h | h | h | h | h | h
    · exact h ▸ go (sr, sro) (by k_mem) (ne _ (by k_mem) (kd_ne (by dsimp only; rw [z2, kdr]; decide)))
    · exact h ▸ go (I, o9) (by k_mem) (ne _ (by k_mem) (fun e => by have := congrArg Obj.cls e; dsimp only at this; rw [ho9] at this; exact absurd (Value.type.inj this) (by decide)))
    · exact h ▸ go (rl, rlo) (by k_mem) (ne _ (by k_mem) (kd_ne (by dsimp only; rw [z3, kdr]; decide)))
    · exact h ▸ go (G.tbl, _) (by k_mem) (ne _ (by k_mem) (kd_ne (by dsimp only; rw [kd_inst, kdr]; decide)))
    · exact h ▸ go (G.td, _) (by k_mem) (ne _ (by k_mem) (yob_td hyob S.tdD).symm)
    · exact h ▸ go (G.dE, _) (by k_mem) (ne _ (by k_mem) (yob_dE hyob S.oE).symm)
    · exact h ▸ go (_, kg) (by k_mem) (ne _ (by k_mem) (kd_ne (by dsimp only; rw [k1, kdr]; decide)))
    · exact h ▸ go (_, kn) (by k_mem) (ne _ (by k_mem) (kd_ne (by dsimp only; rw [k2, kdr]; decide)))
    · exact h ▸ go (_, ka) (by k_mem) (ne _ (by k_mem) (kd_ne (by dsimp only; rw [k3, kdr]; decide)))
    · exact h ▸ go (_, kt) (by k_mem) (ne _ (by k_mem) (kd_ne (by dsimp only; rw [k4, kdr]; decide)))
    · rw [h]
      exact ⟨by rw [← ed]; exact Er'.ed, (N _ (yin _ y2)).2⟩
    · obtain ⟨h1, h2⟩ := List.mem_filter.mp h
      exact go p (yin p h1) (by simpa using h2)
  · have hnd := S.eds
    rw [hR, List.map_append, List.map_cons, List.nodup_append, List.nodup_cons] at hnd
    obtain ⟨_, ⟨d2, _⟩, d3⟩ := hnd
    have keep : ∀ x, x ∈ G.R → x.ed ≠ r.ed → (x.ent, instObj 77 x.ed) ∈ (r.ed, dictOf r'.es 6) :: Y.filter (fun p => decide (p.1 ≠ r.ed)) ∧ (x.ed, dictOf x.es 6) ∈ (r.ed, dictOf r'.es 6) :: Y.filter (fun p => decide (p.1 ≠ r.ed)) := fun x hx hne => by
      obtain ⟨a1, a2⟩ := hY.ents x hx
      exact ⟨.tail _ (List.mem_filter.mpr ⟨a1, by simpa using ne _ (yin _ a1) inst_ne_dict⟩), .tail _ (List.mem_filter.mpr ⟨a2, by simpa using hne⟩)⟩
    refine ⟨fun p hp => ?_, fun x hx => ?_, fun z hz => ?_⟩
    · rcases List.mem_cons.mp hp with h | h
      · rw [h]; exact .inr (.inl ⟨r', Er'.ok.d, rfl⟩)
      · exact hY.ob p (List.mem_filter.mp h).1
    · rcases List.mem_append.mp hx with h | h
      · exact keep x (by rw [hR]; simp [h]) (fun e => d3 x.ed (List.mem_map.mpr ⟨x, h, rfl⟩) r.ed (List.mem_cons_self ..) e)
      · rcases List.mem_cons.mp h with h | h
        · rw [h, en, ed]
          exact ⟨.tail _ (List.mem_filter.mpr ⟨y1, by simpa using ne _ (yin _ y1) inst_ne_dict⟩), .head _⟩
        · exact keep x (by rw [hR]; simp [h]) (fun e => d2 (List.mem_map.mpr ⟨x, h, e⟩))
    · obtain ⟨ob, h1, h2⟩ := hY.rows z hz
      refine ⟨ob, .tail _ (List.mem_filter.mpr ⟨h1, ?_⟩), h2⟩
      obtain ⟨t1, t2, t3, n, rfl⟩ := h2
      simpa using ne _ (yin _ h1) dict_ne_list.symm
theorem mem_mid {α : Type} {z : α} {Y : List α} (l : List α) {p : α} (hp : p ∈ l ++ z :: Y) : p ∈ z :: (l ++ Y) := by
  rcases List.mem_append.mp hp with h | h
  · exact .tail _ (List.mem_append_left _ h)
  · rcases List.mem_cons.mp h with rfl | h
    · exact .head _
    · exact .tail _ (List.mem_append_right _ h)
theorem off_mid {I C D : Addr} {z : Addr × Obj} {Y : List (Addr × Obj)} (l : List (Addr × Obj)) (h : LCg.Off3 I C D (l ++ Y)) (hz : (@Ne Nat z.1 I) ∧ (@Ne Nat z.1 C) ∧ (@Ne Nat z.1 D)) : LCg.Off3 I C D (l ++ z :: Y) := by
  refine LCg.Off3.of fun p hp => ?_
  rcases List.mem_cons.mp (mem_mid l hp) with rfl | h1
  · exact hz
  · exact h.mem p h1
theorem sub_ins {α : Type} {z i c d a1 a2 a3 a4 a5 a6 a7 a8 a9 a10 : α} {Y : List α} : ∀ p ∈ i :: c :: d :: a1 :: a2 :: a3 :: a4 :: a5 :: a6 :: a7 :: a8 :: a9 :: a10 :: z :: Y, p ∈ z :: i :: c :: d :: a1 :: a2 :: a3 :: a4 :: a5 :: a6 :: a7 :: a8 :: a9 :: a10 :: Y := fun _ hp => mem_mid [i, c, d, a1, a2, a3, a4, a5, a6, a7, a8, a9, a10] hp
theorem off_ins {I C D : Addr} {z a1 a2 a3 a4 a5 a6 a7 a8 a9 a10 : Addr × Obj} {Y : List (Addr × Obj)} (h : LCg.Off3 I C D (a1 :: a2 :: a3 :: a4 :: a5 :: a6 :: a7 :: a8 :: a9 :: a10 :: Y)) (hz : (@Ne Nat z.1 I) ∧ (@Ne Nat z.1 C) ∧ (@Ne Nat z.1 D)) : LCg.Off3 I C D (a1 :: a2 :: a3 :: a4 :: a5 :: a6 :: a7 :: a8 :: a9 :: a10 :: z :: Y) :=
  off_mid [a1, a2, a3, a4, a5, a6, a7, a8, a9, a10] h hz
theorem refs_get {Z : List Row} {i : Nat} {v : Value} (h : (refsOf Z).toArray[i]? = some v) : ∃ z, Z[i]? = some z ∧ v = .ref z.ad := by
  unfold refsOf at h
  simp only [List.getElem?_toArray, List.getElem?_map] at h
  cases hz : Z[i]? with
  | none => rw [hz] at h; cases h
  | some z => rw [hz] at h; exact ⟨z, rfl, (Option.some.inj h).symm⟩
theorem refs_size {Z : List Row} : (refsOf Z).toArray.size = Z.length := by
  unfold refsOf; rw [List.size_toArray, List.length_map]
theorem refs_snoc {Z : List Row} {z : Row} : refsOf Z ++ [.ref z.ad] = refsOf (Z ++ [z]) := by
  unfold refsOf; rw [List.map_append]; rfl
theorem ledy_snoc {G : Arp} {Z Zd : List Row} {Y : List (Addr × Obj)} {z : Row} {zob : Obj} (h : LedY G (Z ++ Zd) Y) (hb : RowOb z zob) : LedY G (Z ++ (Zd ++ [z])) ((z.ad, zob) :: Y) := by
  refine ⟨fun p hp => ?_, fun r hr => ?_, fun y hy => ?_⟩
  · rcases List.mem_cons.mp hp with e | e
    · rw [e]; exact .inr (.inr ⟨z, hb⟩)
    · exact h.ob p e
  · exact ⟨.tail _ (h.ents r hr).1, .tail _ (h.ents r hr).2⟩
  · rw [← List.append_assoc] at hy
    rcases List.mem_append.mp hy with e | e
    · obtain ⟨ob, h1, h2⟩ := h.rows y e
      exact ⟨ob, .tail _ h1, h2⟩
    · rw [List.mem_singleton.mp e]; exact ⟨zob, .head _, hb⟩
theorem ledy_same {G : Arp} {Z Zd : List Row} {Y : List (Addr × Obj)} {z : Row} (h : LedY G (Z ++ Zd) Y) (hz : z ∈ Z) : LedY G (Z ++ (Zd ++ [z])) Y := by
  refine ⟨h.ob, h.ents, fun y hy => ?_⟩
  rw [← List.append_assoc] at hy
  rcases List.mem_append.mp hy with e | e
  · exact h.rows y e
  · rw [List.mem_singleton.mp e]; exact h.rows z (List.mem_append_left _ hz)
theorem ledy_right {G : Arp} {Z Zd : List Row} {Y : List (Addr × Obj)} (h : LedY G (Z ++ Zd) Y) : LedY G Zd Y := ⟨h.ob, h.ents, fun y hy => h.rows y (List.mem_append_right _ hy)⟩
theorem news_put2 {h₀ h : Heap} {L : Addr} {a b c d : Addr × Obj} {r : List (Addr × Obj)} (N : News h₀ L h (d :: a :: b :: c :: r)) : News h₀ L h (b :: a :: d :: r) := fun p hp => N p (by
  simp only [List.mem_cons] at hp ⊢
  rcases hp with h | h | h | h <;> simp [h])
theorem ent_inj {R : List Ent} (h : (R.map (·.a)).Nodup) : ∀ x ∈ R, ∀ y ∈ R, x.a = y.a → x = y := by
  induction R with
  | nil => intro x hx; cases hx
  | cons r R ih =>
    rw [List.map_cons, List.nodup_cons] at h
    obtain ⟨h1, h2⟩ := h
    intro x hx y hy e
    rcases List.mem_cons.mp hx with hx | hx <;> rcases List.mem_cons.mp hy with hy | hy
    · rw [hx, hy]
    · exact absurd (List.mem_map.mpr ⟨y, hy, by rw [← e, hx]⟩) h1
    · exact absurd (List.mem_map.mpr ⟨x, hx, by rw [e, hy]⟩) h1
    · exact ih h2 x hx y hy e
end P18
section P19
theorem dictS_item {prog : Program} {w : World} {A : Around} {E : Value → Shared → Prop} {s : Shared} {d : Addr} {kvs : List (Int × Value)} {k : Int} {t : Tok} {v : Value} {value slice : PySem.Expr} {Q : Value → Shared → Prop} (hD : s.heap.DictOf (PySem.intKind prog w) d kvs) (hl : valueAt kvs k = some v) (h : Q v { s with toks := s.toks + 1 })
    (hs : subscripted slice false (.ref d) (.int k t) = operate [.ref d, .int k t] (getItem (.ref d) (.int k t)) := by with_unfolding_all rfl) (hg : ∀ r, letTemporaryGo value (.ref d) r = pure () := by intro _; with_unfolding_all rfl) :
    wpAny (model prog w) A (subscriptTail value slice (.ref d) (.int k t)) Q E s :=
  subscriptTail_builtin hD.typeIs slot_dict_getitem.lookup (wpAny_getItem_of (intKind_is _ _ _ _) hD.mapOf hl h) hs hg
theorem sub_ins11 {α : Type} {z i c d a0 a1 a2 a3 a4 a5 a6 a7 a8 a9 a10 : α} {Y : List α} : ∀ p ∈ i :: c :: d :: a0 :: a1 :: a2 :: a3 :: a4 :: a5 :: a6 :: a7 :: a8 :: a9 :: a10 :: z :: Y, p ∈ z :: i :: c :: d :: a0 :: a1 :: a2 :: a3 :: a4 :: a5 :: a6 :: a7 :: a8 :: a9 :: a10 :: Y := fun _ hp => mem_mid [i, c, d, a0, a1, a2, a3, a4, a5, a6, a7, a8, a9, a10] hp
theorem off_ins11 {I C D : Addr} {z a0 a1 a2 a3 a4 a5 a6 a7 a8 a9 a10 : Addr × Obj} {Y : List (Addr × Obj)} (h : LCg.Off3 I C D (a0 :: a1 :: a2 :: a3 :: a4 :: a5 :: a6 :: a7 :: a8 :: a9 :: a10 :: Y)) (hz : (@Ne Nat z.1 I) ∧ (@Ne Nat z.1 C) ∧ (@Ne Nat z.1 D)) : LCg.Off3 I C D (a0 :: a1 :: a2 :: a3 :: a4 :: a5 :: a6 :: a7 :: a8 :: a9 :: a10 :: z :: Y) :=
  ⟨h.1, off_ins h.2 hz⟩
theorem row_same {Z Z' : List Row} {R : List Ent} (h : Mat Z R) (h' : Mat Z' R) : Z.map rowData = Z'.map rowData := by
  have e : Z.map (fun z => (z.a, z.p, z.s, z.o)) = Z'.map (fun z => (z.a, z.p, z.s, z.o)) := (show _ = _ from h).trans (show _ = _ from h').symm
  have e2 := congrArg (List.map fun q : Int × Bool × Int × Int => PyData.list [.int q.1, .bool q.2.1, .int q.2.2.1, .int q.2.2.2]) e
  rw [List.map_map, List.map_map] at e2
  exact e2
theorem cmp_rows {prog : Program} {w : World} {A : Around} {E : Value → Shared → Prop} {s : Shared} {D e : Addr} {Z Z' : List Row} {R : List Ent} {n k : Nat} {Q : Value → Shared → Prop} (h1 : Mat Z R) (h2 : Mat Z' R) (hD : s.heap.get? D = some (listOf (refsOf Z).toArray n)) (he : s.heap.get? e = some (listOf (refsOf Z').toArray k))
    (hY : ∀ z ∈ Z, ∃ ob, s.heap.get? z.ad = some ob ∧ RowOb z ob) (hY' : ∀ z ∈ Z', ∃ ob, s.heap.get? z.ad = some ob ∧ RowOb z ob) (hu : A.units + 64 < cLine) (h : Q (.bool false) s) : wpAny (model prog w) A (compareOp .NotEq (.ref D) (.ref e)) Q E s := by
  obtain ⟨as, hr⟩ := reads_rows hY
  obtain ⟨bs, hr'⟩ := reads_rows hY'
  refine ne_dataH (da := .list (Z.map rowData)) (db := .list (Z'.map rowData)) (.list hD rfl rfl hr) (.list he rfl rfl hr') (rowData_shaped Z) (rowData_shaped Z') hu ?_
  rw [row_same h1 h2]
  have e3 : PyData.eqv (.list (Z'.map rowData)) (.list (Z'.map rowData)) = true := by
    have := rowData_refl Z'
    simp [PyData.eqv, this]
  rw [e3]; exact h
theorem ents_get {R : List Ent} {i : Nat} {v : Value} (h : ((kvsOf R).map (·.2)).toArray[i]? = some v) : ∃ r, R[i]? = some r ∧ v = .ref r.ent := by
  unfold kvsOf at h
  simp only [List.map_map, List.getElem?_toArray, List.getElem?_map] at h
  cases hz : R[i]? with
  | none => rw [hz] at h; cases h
  | some r => rw [hz] at h; exact ⟨r, rfl, (Option.some.inj h).symm⟩
theorem ents_size {R : List Ent} : ((kvsOf R).map (·.2)).toArray.size = R.length := by
  unfold kvsOf; rw [List.size_toArray, List.length_map, List.length_map]
theorem news_cons2 {h₀ h : Heap} {L : Addr} {a b : Addr × Obj} {l : List (Addr × Obj)} (N : News h₀ L h l) (h1 : a ∈ l) (h2 : b ∈ l) : News h₀ L h (a :: b :: l) := fun p hp => by
  rcases List.mem_cons.mp hp with e | hp
  · rw [e]; exact N _ h1
  · rcases List.mem_cons.mp hp with e | hp
    · rw [e]; exact N _ h2
    · exact N _ hp
theorem sub_two {α : Type} {z a b : α} {l : List α} {p : α} (h : p ∈ z :: l) : p ∈ z :: a :: b :: l := by
  simp only [List.mem_cons] at h ⊢
  rcases h with h | h <;> simp [h]
theorem sub_yd {α : Type} {d e i a1 a2 a3 a4 a5 a6 a7 a8 a9 : α} {Y Yd : List α} (h : ∀ p ∈ Y, p ∈ Yd) : ∀ p ∈ i :: a1 :: a2 :: a3 :: a4 :: a5 :: a6 :: a7 :: a8 :: a9 :: Y, p ∈ d :: e :: i :: a1 :: a2 :: a3 :: a4 :: a5 :: a6 :: a7 :: a8 :: a9 :: Yd := fun p hp => by
  rcases List.mem_append.mp (show p ∈ [i, a1, a2, a3, a4, a5, a6, a7, a8, a9] ++ Y from hp) with g | g
  · exact .tail _ (.tail _ (List.mem_append_left Yd g))
  · exact .tail _ (.tail _ (List.mem_append_right [i, a1, a2, a3, a4, a5, a6, a7, a8, a9] (h p g)))
end P19
section P20
local macro_rules | `(tactic| walk_at "eval ListComp") => `(tactic| (k_here; refine stop_at ?_))
local macro_rules | `(tactic| walk_at "exec Assign cons ListComp") => `(tactic| (k_here; refine stop_at ?_))
local macro_rules | `(tactic| walk_at "call ref") => `(tactic| (k_here; (try dsimp only [List.append_nil, List.nil_append, List.cons_append]); k_dflt (first | (show wpAny _ _ (PySem.call (Value.ref 131) _) _ _ _) | (show wpAny _ _ (PySem.call (Value.ref 138) _) _ _ _) | (show wpAny _ _ (PySem.call (Value.ref 123) _) _ _ _) | (show wpAny _ _ (PySem.call (Value.ref 173) _) _ _ _) | (show wpAny _ _ (PySem.call (Value.ref 178) _) _ _ _) | (show wpAny _ _ (PySem.call (Value.ref 185) _) _ _ _) | (show wpAny _ _ (PySem.call (Value.ref 166) _) _ _ _)); refine stop_at ?_))
local macro_rules | `(tactic| walk_at "pyIter ref") => `(tactic| (k_here; (with_reducible show wpAny _ _ (pyIter (Value.ref _)) (fun it s₂ => LoopAtV _ _ _ _ _ _ _ _ _ it s₂) _ _); refine stop_at ?_))
local macro_rules | `(tactic| k_ne) => `(tactic| (refine neN ?_; (try dsimp only); with_reducible (first | assumption | (refine Ne.symm ?_; assumption))))
local macro_rules | `(tactic| k_all) => `(tactic| assumption)
local macro_rules | `(tactic| walk_at "compareOp Eq ref ref") => `(tactic| (k_here; refine stop_at ?_))
local macro_rules | `(tactic| walk_at "exec If") => `(tactic| (k_here; (fail_if_success (with_reducible rename GoOn => g9)); refine stop_at ?_))
local macro_rules | `(tactic| walk_at "call builtin:len") => `(tactic| (k_here; refine stop_at ?_))
local macro_rules | `(tactic| walk_at "call builtin:list.append") => `(tactic| (k_here; refine stop_at ?_))
local macro_rules | `(tactic| walk_at "compareOp NotEq ref ref") => `(tactic| (k_here; (fail_if_success (with_reducible rename GoOn => g9)); refine stop_at ?_))
local macro_rules | `(tactic| walk_at "call ref") => `(tactic| (k_here; (try dsimp only [List.append_nil, List.nil_append, List.cons_append]); k_dflt (show wpAny _ _ (PySem.call (Value.ref 74) _) _ _ _); refine stop_at ?_))
theorem law_holds : PySem.Challenge.rw_xw0331_01.Holds := Mine.hd (by
  k_go0
  rename_i w s0 s1 mg mb G0 Y0 fa of pm doc ho hg KX XM V GL T BT TE TW a13 o12 M a11 a10 hcd ns hs hlay0 hL1 hr1 hl2 l8 l7 sc vs l4 hL ra w1 r0 hI hr hc1 hc0 K0 hD h1 tk1 F cg cn ca ct lg ln la lt N0 X0
  refine with_cx (w := w) (h₀ := s1.heap) (L := s1.heap.objs.size) (d := 400) (u := 100) (Cx.of K0 KX T rfl rfl rfl rfl (Nat.le_of_ble_eq_true rfl) (Nat.le_of_ble_eq_true rfl)) ?_
  intro CX
  k_fold
  have go : GoOn := trivial
  k_steps
  unfold Stop
  rename_i dE _ oE loE _ _ hiE _ lE _ _ _ _ _ _ hF FF NF
  refine' learn_new (G := ⟨_, _, dE, _, oE, 2, 0, []⟩) CX FF (by omega) (by omega) ?K ?N (fun r hr => by cases hr) (show (1 : Int) ≤ 2 by decide) (show (0 : Int) ≤ 2 by decide) (show (2 : Int) ≤ 4 by decide) ?_
  (case K => exact (arp_new NF (by k_mem) (by k_mem) (by k_mem) ⟨_, _, _, _, _, _, _, _, _, _, _, _, _, _, _, _, _, _, _, _, rfl⟩ hiE loE))
  (case N => exact news3 NF (by k_mem) (by k_mem) (by k_mem))
  intro h2 tk2 Ga ra qa Fa Ka ea1 ea2 ea3 ea4 ea5 ea6 raa ras rao rap Na pra
  dsimp only at ea1 ea2 ea3 ea4 ea5 ea6 rao Na pra
  rw [roomFor_few (by decide), List.nil_append] at ea6
  rw [Int.zero_add] at ea5
  have hcells : Cells [(s1.heap.objs.size + 1 + 1 + 1 + 1, cg), (s1.heap.objs.size + 1 + 1 + 1, cn), (s1.heap.objs.size + 1 + 1, ca), (s1.heap.objs.size + 1, ct)] := by
    intro p hp
    simp only [List.mem_cons, List.mem_nil_iff, or_false] at hp
    rcases hp with rfl | rfl | rfl | rfl
    · exact ⟨_, lg⟩
    · exact ⟨_, ln⟩
    · exact ⟨_, la⟩
    · exact ⟨_, lt⟩
  have NC : News s1.heap s1.heap.objs.size hF [(s1.heap.objs.size + 1 + 1 + 1 + 1, cg), (s1.heap.objs.size + 1 + 1 + 1, cn), (s1.heap.objs.size + 1 + 1, ca), (s1.heap.objs.size + 1, ct)] := fun p hp => NF p (List.mem_cons_of_mem _ (List.mem_cons_of_mem _ (List.mem_cons_of_mem _ hp)))
  have NC2 := cells_behind NC hcells (arp_new NF (by k_mem) (by k_mem) (by k_mem) ⟨_, _, _, _, _, _, _, _, _, _, _, _, _, _, _, _, _, _, _, _, rfl⟩ hiE loE) pra
  refine TabD.out Ka.tdD ?_
  intro u0 u1 u2 u3 u4 u5 u6 u7 u8 u9 u10 u11 u12 u13 u14 u15 u16 u17 u18 u19 eTa
  rw [ea4, ea5] at eTa
  have N2 := news_app Na NC2
  rw [eTa] at N2
  simp only [List.cons_append, List.nil_append] at N2
  have n1 : @Ne Nat Ga.td Ga.tbl := fun e => by have h1 := Ka.tbl; rw [← (show Ga.td = Ga.tbl from e), Ka.td] at h1; cases h1
  k_steps
  unfold Stop
  rw [← ea1]
  refine' ask_new (G := Ga) CX Fa (by omega) (by omega) Ka ?N ?new (by omega) ?s2 (by omega) ?_
  (case N => rw [ea1, ea2, ea3]; exact fun p hp => Na p (by simp only [List.mem_cons, List.mem_nil_iff, or_false] at hp ⊢; rcases hp with h1 | h1 | h1 <;> simp [h1]))
  (case new => rw [ea6]; intro r hr; rw [List.mem_singleton.mp hr, raa]; decide)
  (case s2 => rw [ea6, ea4]; simp)
  intro h3 tk3 Gb rb Fb Kb eb1 eb2 eb3 eb4 eb5 eb6 rba rbs rbo rbp Nb prb
  rw [ea1] at eb1
  rw [ea2] at eb2
  rw [ea3] at eb3
  rw [ea4] at eb4
  rw [ea5] at eb5
  rw [ea6, ea4, roomFor_few (by simp)] at eb6
  rw [ea1, ea2, ea3] at Nb
  rw [ea2, ea3] at prb
  simp only [List.cons_append, List.nil_append] at eb6
  have NC3 := cells_behind NC2 hcells Ka (by rw [ea2, ea3]; exact prb)
  refine TabD.out Kb.tdD ?_
  intro v0 v1 v2 v3 v4 v5 v6 v7 v8 v9 v10 v11 v12 v13 v14 v15 v16 v17 v18 v19 eTb
  rw [eb4, eb5] at eTb
  have N3 := news_app Nb NC3
  rw [eTb] at N3
  simp only [List.cons_append, List.nil_append] at N3
  clear N2
  k_steps
  unfold Stop
  rw [← eb1]
  refine' new_entry_spec (G := Gb) CX Fb (by omega) (by omega) Kb ?N ?new (by omega) ?s2 (by omega) ?_
  (case N => rw [eb1, eb2, eb3]; exact fun p hp => Nb p (by simp only [List.mem_cons, List.mem_nil_iff, or_false] at hp ⊢; rcases hp with h1 | h1 | h1 <;> simp [h1]))
  (case new => rw [eb6]; intro r hr; simp only [List.mem_cons, List.mem_nil_iff, or_false] at hr; rcases hr with rfl | rfl <;> simp [raa, rba])
  (case s2 => rw [eb6, eb4]; simp)
  intro h4 tk4 Gc rc Fc Kc ec1 ec2 ec3 ec4 ec5 ec6 rca rcs rco rcp rct Nc prc
  have hroom : roomFor Gb.R Gb.size = [ra] := by
    have e1 : ra.rank = (1, 0, 0) := by unfold Ent.rank Ent.pn; rw [rap, ras, rao]; rfl
    have e2 : rb.rank = (0, 5, 1) := by unfold Ent.rank Ent.pn; rw [rbp, rbs, rbo, ea5]; rfl
    have e3 : oldestOf [ra, rb] = 2 := by
      unfold oldestOf best
      simp only [List.foldl_cons, List.foldl_nil, bestStep]
      rw [e1, e2]
      simp only [lex3]
      exact rba
    rw [eb6, eb4]
    unfold roomFor
    rw [if_pos (by simp), e3]
    simp [raa, rba]
  rw [hroom] at ec6
  rw [eb1] at ec1
  rw [eb2] at ec2
  rw [eb3] at ec3
  rw [eb4] at ec4
  rw [eb1, eb2, eb3] at Nc
  rw [eb2, eb3] at prc
  simp only [List.cons_append, List.nil_append] at ec6
  have NC4 := cells_behind NC3 hcells Kb (by rw [eb2, eb3]; exact prc)
  refine TabD.out Kc.tdD ?_
  intro x0 x1 x2 x3 x4 x5 x6 x7 x8 x9 x10 x11 x12 x13 x14 x15 x16 x17 x18 x19 eTc
  rw [ec4, ec3] at eTc
  have N4 := news_app Nc NC4
  rw [eTc] at N4
  simp only [List.cons_append, List.nil_append] at N4
  clear N3
  have hDc := Kc.oE
  rw [ec6] at hDc
  unfold kvsOf at hDc
  simp only [List.map_cons, List.map_nil, raa, rca] at hDc
  have hloc := Kc.lo
  rw [ec3] at hloc
  k_steps
  refine list_of_keys rfl Fc N4 (by k_mem) hDc hloc (by simp) ?_
  intro B5 c5 h5 tk5 t51 t52 F5 N5 l5
  k_lt l5
  k_steps
  unfold Stop
  rename_i lq9 hq9 F9 N9 lt9
  have NC9 : News s1.heap s1.heap.objs.size hq9 [(s1.heap.objs.size + 1 + 1 + 1 + 1, cg), (s1.heap.objs.size + 1 + 1 + 1, cn), (s1.heap.objs.size + 1 + 1, ca), (s1.heap.objs.size + 1, ct)] := fun p hp => N9 p (List.mem_cons_of_mem _ (List.mem_cons_of_mem _ (List.mem_cons_of_mem _ (List.mem_cons_of_mem _ (List.mem_cons_of_mem _ (List.mem_cons_of_mem _ (List.mem_cons_of_mem _ (List.mem_cons_of_mem _ hp))))))))
  refine pool_spec CX F9 (by omega) (by omega) (hL.at fun o e => F9.keep _ o e) hI (by omega) ?_
  intro hp tkp src px py ptx pty Fp Np prp hsn hpy0 hpy1
  have nsrc : ∀ p ∈ [(s1.heap.objs.size + 1 + 1 + 1 + 1, cg), (s1.heap.objs.size + 1 + 1 + 1, cn), (s1.heap.objs.size + 1 + 1, ca), (s1.heap.objs.size + 1, ct)], src ≠ p.1 := fun p hp e => by
    have h1 := (NC9 p hp).1
    rw [← e] at h1
    rw [show hq9.get? src = none from hsn] at h1; cases h1
  have ns1 : @Ne Nat src (s1.heap.objs.size + 1 + 1 + 1 + 1) := nsrc (s1.heap.objs.size + 1 + 1 + 1 + 1, cg) (by k_mem)
  have ns2 : @Ne Nat src (s1.heap.objs.size + 1 + 1 + 1) := nsrc (s1.heap.objs.size + 1 + 1 + 1, cn) (by k_mem)
  have ns3 : @Ne Nat src (s1.heap.objs.size + 1 + 1) := nsrc (s1.heap.objs.size + 1 + 1, ca) (by k_mem)
  have ns4 : @Ne Nat src (s1.heap.objs.size + 1) := nsrc (s1.heap.objs.size + 1, ct) (by k_mem)
  clear nsrc
  have NCp := NC9.grown prp
  have Np2 := news_app Np NCp
  simp only [List.cons_append, List.nil_append] at Np2
  clear N9 NC9 lt9
  k_steps
  unfold Stop
  refine take_spec CX (by k_asm) (by omega) (news_sub1 ‹News _ _ _ ((src, _) :: _)›) hpy0 hpy1 (by decide) (by decide) ?_
  rename_i hz9 _ Nz9
  intro ht tkt rt tt xt txt yt tyt nt hrt0 hrt1 hyt0 hyt1 Ft hsrct prt
  have NCt := cells_behind1 (news_tail Nz9) hcells (Nz9.get (List.mem_cons_self ..)) prt
  have Nt := news_app (news_one' (news_sub1 Nz9) hsrct) NCt
  simp only [List.cons_append, List.nil_append] at Nt
  clear Nz9
  k_steps
  unfold Stop
  rename_i dE2 _ oE2 loE2 _ _ hiE2 _ lE2 _ _ _ _ _ _ rl2 _ lrl2 D2 _ lD2 _ _ dt2 ct2 _ _ F2 N2
  have NN := news_shuffle N2
  clear N2
  have OF := (led_offs (Z := []) NN hiE2 lg ln la ct2 (fun p hp => by cases hp)).1
  refine take_led CX (by k_asm) (by omega) NN OF hyt0 hyt1 (by decide) (by decide) ?_
  intro h8 tk8 rt2 tt2 x2 tx2 y2 ty2 n2 hr0 hr1 hy20 hy21 F3 N3
  clear NN F2 OF
  k_steps
  unfold Stop
  rename_i h4r tk4r t4r u4r v4r R4 F4 N4 _
  refine range_inv (n := (8 + rt2).toNat) rfl R4 (by omega) (by omega) (by omega) F4 N4 (LSt w s1.heap.objs.size (1 + rt)) ?hj ?turn ?done
  case hj =>
    refine ⟨⟨_, _, dE2, _, oE2, 1 + rt, 0, []⟩, [], [], src, rl2, x2, y2, tx2, ty2, _, _, n2, 0, _, _, _, _, _, _, _,
      ⟨⟨?TD, hiE2, loE2, (fun r hr => by cases hr), by simp, by simp⟩, ⟨(fun p hp => by cases hp), (fun r hr => by cases hr), (fun r hr => by cases hr)⟩, rfl, ⟨List.Pairwise.nil, fun r hr => by cases hr⟩, rfl, by omega, by omega, by simp; omega⟩,
      hy20, hy21, rfl, rfl, rfl, rfl, lg, ln, la, ct2, rfl⟩
    exact ⟨_, _, _, _, _, _, _, _, _, _, _, _, _, _, _, _, _, _, _, _, rfl⟩
  case done =>
    intro m9 news9 h9 tk9 hJ F9 N9
    clear N4 F4
    k_steps
  case turn =>
    clear N4 F4 R4 hy20 hy21 ct2 lE2 loE2 hiE2 ns1 ns2 ns3 ns4 n1 hcells
    intro I v9 m9 news9 h9 tk9 o9 ho9 hJ hoff F9 N9
    refine veil ?_
    intro QT hQT
    refine LSt.out hJ ?_
    clear hJ
    intro G Z Y sr rl xs ys txs tys ts1 ts2 nn kk kg kn ka kt w1g w2g w3g S hys0 hys1 hm1 hm2 hm3 hm4 lkg lkn lka lkt eN
    subst eN
    rw [frame4 hm1 hm2 hm3 hm4] at F9
    obtain ⟨O1, O2, O3, O4, O5⟩ := led_offs (news_tail N9) S.gs.oE lkg lkn lka lkt S.y.ob
    have hoffI := hoff
    have O1I : ∀ p ∈ (I, o9) :: _, @Ne Nat p.1 sr := off_cons (o := o9) (hoffI _ (List.mem_cons_self ..)).symm O1
    refine off_out9 hoffI ?_
    clear hoffI
    intro i1 i2 i3 i4 i5 i6 i7 i8 i9 iY
    refine off_out7 O2 ?_
    clear O2
    intro q1 q2 q3 q4 q5 q6 q7 qY
    refine off_out5 O3 ?_
    clear O3
    intro g1 g2 g3 g4 g5 gY
    refine off_out5 O4 ?_
    clear O4
    intro j1 j2 j3 j4 j5 jY
    refine off_out5 O5 ?_
    clear O5
    intro a1 a2 a3 a4 a5 aY
    replace N9 := news_swap N9
    replace F9 : Fr s1.heap s1.heap.objs.size h9 _ := F9
    replace N9 : News s1.heap s1.heap.objs.size h9 _ := N9
    dsimp only at F9
    clear go
    k_steps
    unfold Stop
    refine take_led CX (by k_asm) (by omega) N9 O1I hys0 hys1 (by decide) (by decide) ?_
    clear N9
    intro hA tkA ad tad xA txA yA tyA nA ad0 ad1 yA0 yA1 FA NA
    k_steps
    unfold Stop
    refine take_led CX (by k_asm) (by omega) NA O1I yA0 yA1 (by decide) (by decide) ?_
    clear NA yA0 yA1
    intro hB tkB nw tnw xB txB yB tyB nB nw0 nw1 yB0 yB1 FB NB
    k_steps
    unfold Stop
    refine take_led CX (by k_asm) (by omega) NB O1I yB0 yB1 (by decide) (by decide) ?_
    clear NB yB0 yB1
    intro hC tkC wy twy xC txC yC tyC nC wy0 wy1 yC0 yC1 FC NC9
    k_steps
    rename_i FD0 ND0
    replace ND0 := news_tail ND0
    k_steps
    unfold Stop
    rename_i oad dad _ onw dnw hE FE NE
    obtain ⟨hZE, hZs⟩ := rows_inN NE (by k_mem) S.y (fun p hp => by repeat (first | exact hp | refine List.mem_cons_of_mem _ ?_))
    have hlenZ : (refsOf Z).length ≤ sizeLine := by
      have := S.gs.few
      unfold refsOf; rw [List.length_map, S.mat.len, sizeLine_eq]; omega
    have hhA := CX.hh
    refine assign_rows (cl := [(Str.ofString "address", s1.heap.objs.size + 1 + 1)]) (byRow Z (fun z => z.a == 1 + ad)) (fun v y => y = v) FE NE (by with_unfolding_all rfl) (by with_unfolding_all rfl) hhA (by with_unfolding_all rfl) (by decide) (by with_unfolding_all rfl) (by decide) (by with_unfolding_all rfl) (by with_unfolding_all rfl) (by with_unfolding_all rfl) ?_ (by intro _; with_unfolding_all rfl)
    walk1
    refine ⟨rl, refsOf Z, rfl, ⟨_, NE.get (by k_mem), rfl, kk, rfl⟩, hlenZ, FE, NE, ⟨?_, ?_⟩, ?_⟩
    · intro C v s₂ m₂ E' hv hn hm hk'
      obtain ⟨z, hz, rfl⟩ := mem_refs hv
      obtain ⟨ob, hob, t1, t2, t3, n', e⟩ := hZE.rows z hz
      have hg := hk' _ _ (NE.get hob)
      have hL : s₂.heap.IsList z.ad (List.toArray [.int z.a t1, .bool z.p, .int z.s t2, .int z.o t3]) := ⟨_, hg, by rw [e], n', by rw [e]⟩
      refine ifs_one ?_
      k_steps
      · unfold byRow; rw [hZs z hz]
      · exact ⟨_, _, rfl, fun _ _ e => e⟩
    · intro C v s₂ m₂ E' hv _ hn hm hk'
      k_steps
      exact ⟨_, _, rfl, fun _ _ e => e⟩
    · intro D ys nD h2 tk2 F2 N2 hnew2 hnone2 hP
      have hys := paired_eq hP
      rw [filter_refs hZs] at hys
      subst hys
      clear hP
      dsimp only
      generalize hZF : Z.filter (fun z => z.a == 1 + ad) = ZF at *
      refine wpAny_execs_cons ?_
      refine wpAny_mono (Q := fun f s' => Hold (f = .next ∧ ∃ (h' : Heap) (tk : Nat) (m' : Str → Option Value) (news' : List (Addr × Obj)), s' = { s1 with heap := h', toks := tk } ∧ Fr s1.heap s1.heap.objs.size h' m' ∧ News s1.heap s1.heap.objs.size h' ((I, o9) :: news') ∧ (∀ p ∈ news', p.1 ≠ I) ∧ LSt w s1.heap.objs.size (1 + rt) m' news')) ?s3 ?s45 (fun _ _ x => x)
      case s45 =>
        clear S hys0 hys1 lkg lkn lka lkt hZE hZs hlenZ hnew2 hnone2 dad dnw F2 N2 hZF O1 O1I i1 i2 i3 i4 i5 i6 i7 i8 i9 iY q1 q2 q3 q4 q5 q6 q7 qY g1 g2 g3 g4 g5 gY j1 j2 j3 j4 j5 jY a1 a2 a3 a4 a5 aY hoff hm1 hm2 hm3 hm4
        rintro f s' ⟨⟨rfl, h4, tk4, m4, news4, rfl, F4, N4, hoff4, hst4⟩⟩
        refine LSt.out hst4 ?_
        clear hst4
        intro G Z Y sr rl xs ys txs tys ts1 ts2 nn kk kg kn ka kt w1g w2g w3g S hys0 hys1 hm1 hm2 hm3 hm4 lkg lkn lka lkt eN
        subst eN
        rw [frame4 hm1 hm2 hm3 hm4] at F4
        refine TabD.out S.gs.tdD ?_
        intro c0 c1 c2 c3 c4 c5 c6 c7 c8 c9 c10 c11 c12 c13 c14 c15 c16 c17 c18 c19 eT
        have N4L := N4
        rw [eT] at N4L
        dsimp only
        k_steps
        unfold Stop
        refine assign_keys (kvs := kvsOf G.R) (cl := [(Str.ofString "table", s1.heap.objs.size + 1)]) (by k_asm) N4L (by with_unfolding_all rfl) (by with_unfolding_all rfl) hhA (by with_unfolding_all rfl) (by decide) (by with_unfolding_all rfl) (by decide) (by with_unfolding_all rfl) (by with_unfolding_all rfl) (by with_unfolding_all rfl) ?_ (by intro _; with_unfolding_all rfl)
        iterate 3 walk1
        refine ⟨G.dE, G.oE, rfl, by k_mem, S.gs.oE, S.gs.lo, by unfold kvsOf; rw [List.length_map, sizeLine_eq]; have := S.gs.few; omega, by k_asm, N4L, ?elt, ?post⟩
        case elt =>
          rintro C k t s₂ m₂ E' ⟨x, hx⟩ hn hm hk
          have F2 := F4.keeps hk
          have N2 := N4L.grown hk
          have hval := valueAt_mem (kvsOf_nodup S.gs.oE) hx
          have hD2 : s₂.heap.DictOf (PySem.intKind PySem.Challenge.rw_xw0331_01.row.prog w) G.dE (kvsOf G.R) := Heap.dictOf_iff.mpr ⟨G.oE, N2.get (by k_mem), S.gs.oE⟩
          iterate 5 walk1
          refine kba_turn (value' := PySem.Expr.Name (PySem.Str.ofString "q") ⟨0, 0, 0, 0⟩) (fun _ => rfl) ?_
          exact dictS_item hD2 hval ⟨hval, _, _, rfl, fun _ _ e => e⟩
        case post =>
          intro D nD h5 tk5 F5 N5 hnD
          have go : GoOn := trivial
          k_steps
          clear go
          unfold Stop
          rw [← eT] at N5
          refine LCg.ListComp_U (cl := []) (F₀ := by k_asm) (by with_unfolding_all rfl) (by decide) (by with_unfolding_all rfl) (by decide) (by with_unfolding_all rfl) ?_ (by intro _; with_unfolding_all rfl)
          walk1
          refine LCg.CompSrc.ledger (its := ((kvsOf G.R).map (·.2)).toArray) (k := nD) hhA (by k_asm) N5 (by k_mem) (by rw [ents_size, sizeLine_eq]; have := S.gs.few; omega) ?_
          intro gg
          refine comp_rest_inv (fun i yl nw' => ∃ (Zd : List Row) (Yd : List (Addr × Obj)), yl = refsOf Zd ∧ Mat Zd (G.R.take i) ∧ LedY G (Z ++ Zd) Yd ∧ (∀ p ∈ Y, p ∈ Yd) ∧
            nw' = (D, (listOf ((kvsOf G.R).map (·.2)).toArray nD : Obj)) :: (I, o9) :: (sr, listOf #[.int xs txs, .int ys tys] nn) :: (rl, listOf (refsOf Z).toArray kk) :: (G.tbl, instObj 155 G.td) :: (G.td, dictOf G.tds 7) :: (G.dE, G.oE) :: (s1.heap.objs.size + 1 + 1 + 1 + 1, kg) :: (s1.heap.objs.size + 1 + 1 + 1, kn) :: (s1.heap.objs.size + 1 + 1, ka) :: (s1.heap.objs.size + 1, kt) :: Yd) ?turnd ?find _ 0 [] _ (Nat.zero_add _) ⟨[], _, rfl, rfl, by rw [List.append_nil]; exact S.y, fun _ h => h, rfl⟩
          case turnd =>
            rintro i yl nw' v Ic oI C oC Dc m₂ hc tkc E' hi ⟨Zd, Yd, rfl, hMd, hLd, hYd, rfl⟩ hP hC hx Fc Nc offc nec
            obtain ⟨r, hr, rfl⟩ := ents_get hP
            have hrm := List.mem_of_getElem? hr
            have Er : EntOk r := S.gs.ok r hrm
            refine EntD.out Er.d ?_
            intro f0 f1 f2 f3 f4 f5 f6 f7 f8 f9 f10 f11 f12 f13 f14 f15 eR
            have N9 := news_cons2 (a := (r.ent, instObj 77 r.ed)) (b := (r.ed, dictOf r.es 6)) Nc (by have h9 := (hLd.ents r hrm).1; repeat (first | exact h9 | refine List.mem_cons_of_mem _ ?_)) (by have h9 := (hLd.ents r hrm).2; repeat (first | exact h9 | refine List.mem_cons_of_mem _ ?_))
            have EA : EntAt hc r := ⟨N9.get (by k_mem), N9.get (by k_mem), Er⟩
            rw [eR] at N9
            clear Nc
            have X9 : (Mine.hd.heap_39 w.params).In hc := KX.keeps Fc.keep
            iterate 10 walk1
            dsimp only
            refine callWith_K0 X9 (by k_is) ?_
            k_steps
            unfold Stop
            refine pend_spec (r := r) CX Fc N9 (by omega) EA rfl ?_
            clear N9
            intro hp9 tkp Fp Np prp
            k_steps
            rename_i zl hz9 Fz Nz lz
            exact LCg.CompEnd.intro Fz Nz ((D, (listOf ((kvsOf G.R).map (·.2)).toArray nD : Obj)) :: (I, o9) :: (sr, listOf #[.int xs txs, .int ys tys] nn) :: (rl, listOf (refsOf Z).toArray kk) :: (G.tbl, instObj 155 G.td) :: (G.td, dictOf G.tds 7) :: (G.dE, G.oE) :: (s1.heap.objs.size + 1 + 1 + 1 + 1, kg) :: (s1.heap.objs.size + 1 + 1 + 1, kn) :: (s1.heap.objs.size + 1 + 1, ka) :: (s1.heap.objs.size + 1, kt) :: (zl, _) :: Yd)
              (fun p hp => sub_two (sub_ins11 p hp)) (off_ins11 offc ⟨Nat.ne_of_gt lz.2.2.1, Nat.ne_of_gt lz.2.2.2.1, Nat.ne_of_gt lz.2.2.2.2.1⟩) (.inr ⟨_, by k_mem, rfl, _, rfl⟩)
              ⟨Zd ++ [⟨zl, r.a, r.p, r.s, r.o⟩], _, refs_snoc (z := ⟨zl, r.a, r.p, r.s, r.o⟩), mat_snoc hMd hr ⟨rfl, rfl, rfl, rfl⟩, ledy_snoc (z := ⟨zl, r.a, r.p, r.s, r.o⟩) hLd ⟨_, _, _, _, rfl⟩, fun p hp => .tail _ (hYd p hp), rfl⟩
          case find =>
            rintro yl nw' ⟨Zd, Yd, rfl, hMd, hLd, hYd, rfl⟩
            unfold LCg.FinE
            intro D9 hD9 tkD9 FD9 ND9 o19
            rw [ents_size, List.take_length] at hMd
            k_steps
            unfold Stop
            refine cmp_rows hMd S.mat (ND9.get (List.mem_cons_self ..)) (ND9.get (by k_mem)) ?rz1 ?rz2 (Nat.lt_of_le_of_lt (Nat.add_le_add_right CX.hu 64) (by decide)) ?_
            case rz1 =>
              intro z hz
              obtain ⟨ob, h9, h10⟩ := hLd.rows z (List.mem_append_right _ hz)
              exact ⟨ob, ND9.get (by repeat (first | exact h9 | refine List.mem_cons_of_mem _ ?_)), h10⟩
            case rz2 =>
              intro z hz
              obtain ⟨ob, h9, h10⟩ := hLd.rows z (List.mem_append_left _ hz)
              exact ⟨ob, ND9.get (by repeat (first | exact h9 | refine List.mem_cons_of_mem _ ?_)), h10⟩
            k_steps
            refine hQT _ _ ?_
            walk1
            exact UnrEnd.intro FD9 ND9 _ (sub_yd hYd) hoff4 ⟨G, Z, Y, sr, rl, xs, ys, txs, tys, ts1, ts2, nn, kk, kg, kn, ka, kt, _, _, _, S, hys0, hys1, rfl, rfl, rfl, rfl, lkg, lkn, lka, lkt, rfl⟩
      case s3 =>
        refine veil ?_
        intro QH hQH
        have go : GoOn := trivial
        k_steps
        clear go
        rename_i l3 h3 F3 N3 lt3
        unfold Stop
        refine cmp_nil (Y := ZF) (N3.get (by k_mem)) (N3.get (by k_mem)) ?_ ?_ ?_
        · intro z hz
          rw [← hZF] at hz
          obtain ⟨ob, hob, hb⟩ := hZE.rows z (List.mem_filter.mp hz).1
          exact ⟨ob, N3.get (List.mem_cons_of_mem _ (List.mem_cons_of_mem _ hob)), hb⟩
        · exact Nat.lt_of_le_of_lt (Nat.add_le_add_right CX.hu 64) (by decide)
        · have hlen := S.mat.len
          cases hemp : ZF.isEmpty
          · obtain ⟨mm, F4, e1, e2, e3, e4, e5⟩ : ∃ mm, Fr s1.heap s1.heap.objs.size h3 mm ∧ mm (Str.ofString "size") = some (.int (1 + rt) ts1) ∧ mm (Str.ofString "rows") = some (.ref rl) ∧ mm (Str.ofString "made") = some (.int G.made ts2) ∧ mm (Str.ofString "source") = some (.ref sr) ∧ mm (Str.ofString "way") = some (.int wy twy) := ⟨_, F3, rfl, rfl, rfl, rfl, rfl⟩
            rw [frame5 e1 e2 e3 e4 e5] at F4
            try clear F3
            try clear F2
            replace N3 := news_tail (news_tail N3)
            try clear N2
            try clear hnew2
            try clear hnone2
            try clear lt3
            refine TabD.out S.gs.tdD ?_
            intro c0 c1 c2 c3 c4 c5 c6 c7 c8 c9 c10 c11 c12 c13 c14 c15 c16 c17 c18 c19 eT
            rw [eT] at N3
            have go : GoOn := trivial
            k_steps
            · unfold Stop
              rename News _ _ _ _ => N3
              rw [← eT] at N3
              obtain ⟨r, hrm, hra⟩ := S.mat.some (by rw [hZF]; exact hemp)
              obtain ⟨R1, R2, hR⟩ := List.append_of_mem hrm
              have yin : ∀ p ∈ Y, p ∈ (sr, (listOf #[.int xC txC, .int yC tyC] nC : Obj)) :: (I, o9) :: (rl, listOf (refsOf Z).toArray kk) :: (G.tbl, instObj 155 G.td) :: (G.td, dictOf G.tds 7) :: (G.dE, G.oE) :: (s1.heap.objs.size + 1 + 1 + 1 + 1, kg) :: (s1.heap.objs.size + 1 + 1 + 1, onw) :: (s1.heap.objs.size + 1 + 1, oad) :: (s1.heap.objs.size + 1, kt) :: Y :=
                fun p hp => by repeat (first | exact hp | refine List.mem_cons_of_mem _ ?_)
              have N5l : News s1.heap s1.heap.objs.size h3 [(G.tbl, instObj 155 G.td), (G.td, dictOf G.tds 7), (G.dE, G.oE), (r.ent, instObj 77 r.ed), (r.ed, dictOf r.es 6)] := fun p hp => by
                simp only [List.mem_cons, List.mem_nil_iff, or_false] at hp
                rcases hp with rfl | rfl | rfl | rfl | rfl
                · exact N3 _ (by k_mem)
                · exact N3 _ (by k_mem)
                · exact N3 _ (by k_mem)
                · exact N3 _ (yin _ (S.y.ents r hrm).1)
                · exact N3 _ (yin _ (S.y.ents r hrm).2)
              refine learn_old' CX (by k_asm) (by omega) (by omega) (S.gs.arp N3 (by k_mem) (by k_mem) (by k_mem) S.y yin) hR hra N5l ?_
              intro h5 tk5 rr q F5 K5 b1 b2 b3 b4 b5 b6 pr5
              obtain ⟨NL, YL⟩ := old_ledger N3 rfl rfl lkg dnw dad lkt ho9 S.gs S.y hR K5 b5 b6 pr5
              clear N3 N5l pr5
              k_steps
              unfold Stop
              have hR' : R1 ++ rr :: R2 = G.R.map (fun x => if x.a = 1 + ad then rr else x) := by
                rw [hR]; exact upd_map hra (by rw [← hR]; exact gs_nodup S.gs)
              have iY2 : ∀ p ∈ (r.ed, dictOf rr.es 6) :: Y.filter (fun p => decide (p.1 ≠ r.ed)), @Ne Nat p.1 I := fun p hp => by
                rcases List.mem_cons.mp hp with e | e
                · rw [e]; exact iY (r.ed, dictOf r.es 6) (S.y.ents r hrm).2
                · exact iY p (List.mem_filter.mp e).1
              refine LCg.Assign_ListComp_U (cl := [(Str.ofString "now", s1.heap.objs.size + 1 + 1 + 1), (Str.ofString "address", s1.heap.objs.size + 1 + 1)]) (F₀ := by k_asm) (by with_unfolding_all rfl) (by with_unfolding_all rfl) (by with_unfolding_all rfl) (by decide) (by with_unfolding_all rfl) (by decide) (by with_unfolding_all rfl) (by with_unfolding_all rfl) (by with_unfolding_all rfl) ?_ (by intro _; with_unfolding_all rfl)
              walk1
              refine LCg.CompSrc.ledger (its := (refsOf Z).toArray) (k := kk) hhA (by k_asm) NL (by k_mem) (by rw [refs_size, S.mat.len, sizeLine_eq]; have := S.gs.few; omega) ?_
              intro gg
              refine comp_rest_inv (fun i ys nw' => ∃ (Zd : List Row) (Yd : List (Addr × Obj)), ys = refsOf Zd ∧ Mat Zd ((R1 ++ rr :: R2).take i) ∧ LedY { G with R := R1 ++ rr :: R2 } (Z ++ Zd) Yd ∧ (∀ p ∈ Yd, @Ne Nat p.1 I) ∧
                nw' = (sr, (listOf #[.int xC txC, .int yC tyC] nC : Obj)) :: (I, o9) :: (rl, listOf (refsOf Z).toArray kk) :: (G.tbl, instObj 155 G.td) :: (G.td, dictOf G.tds 7) :: (G.dE, G.oE) :: (s1.heap.objs.size + 1 + 1 + 1 + 1, kg) :: (s1.heap.objs.size + 1 + 1 + 1, onw) :: (s1.heap.objs.size + 1 + 1, oad) :: (s1.heap.objs.size + 1, kt) :: Yd) ?turnc ?finc _ 0 [] _ (Nat.zero_add _) ⟨[], _, rfl, rfl, by rw [List.append_nil]; exact YL, iY2, rfl⟩
              case finc =>
                rintro ys nw' ⟨Zd, Yd, rfl, hMd, hLd, hId, rfl⟩
                unfold LCg.FinA
                intro D9 hD9 tkD9 FD9 ND9 o19
                have hl9 : (R1 ++ rr :: R2).length = G.R.length := by rw [hR', List.length_map]
                rw [refs_size, S.mat.len, ← hl9, List.take_length] at hMd
                k_steps
                refine hQH _ _ (Hold.intro ⟨rfl, hD9, _, _, _, rfl, by k_asm, news_swap (news_put3 ND9), ?off, ⟨{ G with R := R1 ++ rr :: R2 }, Zd, Yd, sr, D9, xC, yC, txC, tyC, ts1, ts2, nC, _, kg, onw, oad, kt, _, _, _,
                  ⟨K5.gs, ledy_right hLd, hMd, (by have h := S.rise; rw [hR] at h; exact h.same b3), S.sz, S.s1, S.s4, (by rw [show ({ G with R := R1 ++ rr :: R2 } : Arp).R = R1 ++ rr :: R2 from rfl, hl9]; exact S.len)⟩, yC0, yC1, rfl, rfl, rfl, rfl, lkg, dnw, dad, lkt, rfl⟩⟩)
                case off =>
                  simp only [List.forall_mem_cons]
                  exact ⟨i1, o19.2.1.symm, i3, i4, i5, i6, i7, i8, i9, hId⟩
              case turnc =>
                rintro i ys nw' v Ic oI C oC Dc m₂ hc tkc E' hi ⟨Zd, Yd, rfl, hMd, hLd, hId, rfl⟩ hP hC hx Fc Nc offc nec
                obtain ⟨z, hz, rfl⟩ := refs_get hP
                obtain ⟨x, hx', m1, m2, m3, m4⟩ := mat_get S.mat hz
                have hzZ : z ∈ Z := List.mem_of_getElem? hz
                obtain ⟨ob, hob, t1, t2, t3, n', e⟩ := hLd.rows z (List.mem_append_left _ hzZ)
                have hL : hc.IsList z.ad (List.toArray [.int z.a t1, .bool z.p, .int z.s t2, .int z.o t3]) := ⟨_, Nc.get (by repeat (first | exact hob | refine List.mem_cons_of_mem _ ?_)), by rw [e], n', by rw [e]⟩
                have hxm : x ∈ G.R := List.mem_of_getElem? hx'
                k_steps
                · rename_i heq zl hz9 Fz Nz lz
                  refine LCg.CompEnd.intro Fz Nz ((sr, (listOf #[.int xC txC, .int yC tyC] nC : Obj)) :: (I, o9) :: (rl, listOf (refsOf Z).toArray kk) :: (G.tbl, instObj 155 G.td) :: (G.td, dictOf G.tds 7) :: (G.dE, G.oE) :: (s1.heap.objs.size + 1 + 1 + 1 + 1, kg) :: (s1.heap.objs.size + 1 + 1 + 1, onw) :: (s1.heap.objs.size + 1 + 1, oad) :: (s1.heap.objs.size + 1, kt) :: (zl, _) :: Yd)
                    sub_ins (off_ins offc ⟨Nat.ne_of_gt lz.1, Nat.ne_of_gt lz.2.1, Nat.ne_of_gt lz.2.2.1⟩) (.inr ⟨_, by k_mem, rfl, _, rfl⟩) ?_
                  have hxr : x = r := ent_inj (gs_nodup S.gs) x hxm r hrm (by rw [← m1, heq, hra])
                  refine ⟨Zd ++ [⟨zl, 1 + ad, false, nw, z.o⟩], _, refs_snoc (z := ⟨zl, 1 + ad, false, nw, z.o⟩), mat_snoc hMd (by rw [hR', List.getElem?_map, hx', Option.map_some, if_pos (by rw [← m1]; exact heq)]) ⟨b1.symm, b4.symm, b2.symm, by rw [b3, ← hxr]; exact m4⟩, ledy_snoc (z := ⟨zl, 1 + ad, false, nw, z.o⟩) hLd ⟨_, _, _, _, rfl⟩, ?_, rfl⟩
                  exact List.forall_mem_cons.mpr ⟨Nat.ne_of_gt lz.2.2.2.2.1, hId⟩
                · rename_i heq
                  refine LCg.CompEnd.intro (by k_asm) Nc ((sr, (listOf #[.int xC txC, .int yC tyC] nC : Obj)) :: (I, o9) :: (rl, listOf (refsOf Z).toArray kk) :: (G.tbl, instObj 155 G.td) :: (G.td, dictOf G.tds 7) :: (G.dE, G.oE) :: (s1.heap.objs.size + 1 + 1 + 1 + 1, kg) :: (s1.heap.objs.size + 1 + 1 + 1, onw) :: (s1.heap.objs.size + 1 + 1, oad) :: (s1.heap.objs.size + 1, kt) :: Yd)
                    (fun p hp => hp) offc (.inr ⟨_, by k_mem, rfl, _, rfl⟩) ?_
                  exact ⟨Zd ++ [z], _, refs_snoc, mat_snoc hMd (by rw [hR', List.getElem?_map, hx', Option.map_some, if_neg (by rw [← m1]; exact heq)]) ⟨m1, m2, m3, m4⟩, ledy_same hLd hzZ, hId, rfl⟩
            · rename News _ _ _ _ => N3
              rw [← eT] at N3
              refine hQH _ _ (Hold.intro ⟨rfl, h3, _, _, _, rfl, by k_asm, news_swap N3, ?off, ⟨G, Z, Y, sr, rl, xC, yC, txC, tyC, ts1, ts2, nC, kk, kg, onw, oad, kt, _, _, _, S, yC0, yC1, rfl, rfl, rfl, rfl, lkg, dnw, dad, lkt, rfl⟩⟩)
              case off =>
                simp only [List.forall_mem_cons]
                exact ⟨i1, i2, i3, i4, i5, i6, i7, i8, i9, iY⟩
          · obtain ⟨mm, F4, e1, e2, e3, e4, e5⟩ : ∃ mm, Fr s1.heap s1.heap.objs.size h3 mm ∧ mm (Str.ofString "size") = some (.int (1 + rt) ts1) ∧ mm (Str.ofString "rows") = some (.ref rl) ∧ mm (Str.ofString "made") = some (.int G.made ts2) ∧ mm (Str.ofString "source") = some (.ref sr) ∧ mm (Str.ofString "way") = some (.int wy twy) := ⟨_, F3, rfl, rfl, rfl, rfl, rfl⟩
            rw [frame5 e1 e2 e3 e4 e5] at F4
            try clear F3
            try clear F2
            replace N3 := news_tail (news_tail N3)
            try clear N2
            try clear hnew2
            try clear hnone2
            try clear lt3
            k_steps
            unfold Stop
            refine wpAny_mono (Q := fun f s' => Hold (f = .next ∧ ∃ (h' : Heap) (tk : Nat) (m' : Str → Option Value) (rl' : Addr) (k' : Nat) (Z1 : List Row) (kg' : Obj) (vg' : Option Value), s' = { s1 with heap := h', toks := tk } ∧ Fr s1.heap s1.heap.objs.size h' m' ∧
              m' (Str.ofString "size") = some (.int (1 + rt) ts1) ∧ m' (Str.ofString "rows") = some (.ref rl') ∧ m' (Str.ofString "made") = some (.int G.made ts2) ∧ m' (Str.ofString "source") = some (.ref sr) ∧ m' (Str.ofString "way") = some (.int wy twy) ∧
              News s1.heap s1.heap.objs.size h' ((sr, listOf #[.int xC txC, .int yC tyC] nC) :: (I, o9) :: (rl', listOf (refsOf Z1).toArray k') :: (G.tbl, instObj 155 G.td) :: (G.td, dictOf G.tds 7) :: (G.dE, G.oE) :: (s1.heap.objs.size + 1 + 1 + 1 + 1, kg') :: (s1.heap.objs.size + 1 + 1 + 1, onw) :: (s1.heap.objs.size + 1 + 1, oad) :: (s1.heap.objs.size + 1, kt) :: Y) ∧
              kg'.data = .cell vg' ∧ rl' ≠ I ∧ Mat Z1 (roomFor G.R G.size) ∧ ∀ z ∈ Z1, z ∈ Z)) ?inner ?rest (fun _ _ x => x)
            case rest =>
              rintro f s' ⟨⟨rfl, h4, tk4, m4, rl4, k4, Z1, kg4, vg4, rfl, F4, f1, f2, f3, f4, f5, N4, dkg4, nI4, mat1, hsub1⟩⟩
              dsimp only
              rw [frame5 f1 f2 f3 f4 f5] at F4
              try clear N3
              have O4 := (led_offs (news_drop2 N4) S.gs.oE dkg4 dnw dad lkt S.y.ob).2.1
              refine off_out7 O4 ?_
              clear O4
              intro r1 r2 r3 r4 r5 r6 r7 rY
              have r8 : @Ne Nat sr rl4 := ((led_offs (news_drop2 N4) S.gs.oE dkg4 dnw dad lkt S.y.ob).1 _ (List.mem_cons_self ..)).symm
              have go : GoOn := trivial
              k_steps
              unfold Stop
              rename_i zl hz Fz Nz lz
              have r9 : @Ne Nat zl rl4 := Nat.ne_of_gt lz.2.2.1
              refine append_K (by k_asm) (by k_asm) (by k_upd) ?_ ?fit
              case fit =>
                have h9 := S.gs.few
                have h8 := mat1.len
                have h7 := room_len (R := G.R) (size := G.size) (by rw [S.sz]; exact S.s1) (by rw [S.sz]; exact S.len)
                have h6 := S.s4
                have h5 := S.sz
                unfold refsOf
                rw [List.size_toArray, List.length_map, h8, sizeLine_eq]
                omega
              clear Fz Nz
              intro h5 F5 N5
              k_steps
              unfold Stop
              rename_i h6 F6 N6
              refine new_right_spec (G := G) CX F6 (by omega) (by omega) (S.gs.arp N6 (by k_mem) (by k_mem) (by k_mem) S.y (fun p hp => by repeat (first | exact hp | refine List.mem_cons_of_mem _ ?_))) (news3 N6 (by k_mem) (by k_mem) (by k_mem)) ?hnew (by rw [S.sz]; exact S.s1) (by rw [S.sz]; exact S.len) (by rw [S.sz]; exact S.s4) wy0 ?_
              case hnew => exact S.mat.none (by rw [hZF]; exact hemp)
              intro h7 tk7 Gn rn F7 K7 u1 u2 u3 u4 u5 u6 rna rns rno rnp N7 pr7
              have NL := new_ledger N6 rfl rfl rfl dkg4 dnw dad lkt i4 i5 S.gs S.y.ob N7 pr7
              have entI : @Ne Nat rn.ent I := news_ne NL (p := (rn.ent, instObj 77 rn.ed)) (q := (I, o9)) (by k_mem) (by k_mem) (fun e => by have := congrArg Obj.cls e; rw [ho9] at this; cases this)
              have edI : @Ne Nat rn.ed I := news_ne NL (p := (rn.ed, dictOf rn.es 6)) (q := (I, o9)) (by k_mem) (by k_mem) (fun e => by have := congrArg Obj.cls e; rw [ho9] at this; exact absurd (Value.type.inj this) (by decide))
              have zlI : @Ne Nat zl I := Nat.ne_of_gt lz.2.1
              clear N6 N7 pr7 F6
              k_steps
              refine hQH _ _ (Hold.intro ⟨rfl, h7, _, _, _, rfl, by k_asm, NL, ?off, ?st⟩)
              case off =>
                simp only [List.forall_mem_cons]
                exact ⟨i1, nI4, i3, i4, i5, i6, i7, i8, i9, entI, edI, zlI, iY⟩
              case st =>
                exact ⟨Gn, Z1 ++ [⟨zl, 1 + ad, decide (0 < wy), nw, G.made⟩], _, sr, rl4, xC, yC, txC, tyC, ts1, _, nC, k4 + 1, kg4, onw, oad, kt, _, _, _,
                  new_sets (z := ⟨zl, 1 + ad, decide (0 < wy), nw, G.made⟩) S K7 u4 u5 u6 mat1 hsub1 ⟨rna.symm, rnp.symm, rns.symm, rno.symm⟩ rno ⟨_, _, _, _, rfl⟩, yC0, yC1, rfl, rfl, by rw [u5]; rfl, rfl, dkg4, dnw, dad, by rw [u1]; exact lkt, by rw [u1, u2, u3, ← refs_push]⟩
            case inner =>
              refine veil ?_
              intro QI hQI
              have go : GoOn := trivial
              k_steps
              unfold Stop
              refine Calls.call_len_list (items := (refsOf Z).toArray) ⟨_, N3.get (by k_mem), rfl, kk, rfl⟩ ?len ?_
              case len =>
                have := S.gs.few
                unfold refsOf
                rw [List.size_toArray, List.length_map, S.mat.len]
                omega
              have hsz : ((refsOf Z).toArray.size : Int) = (G.R.length : Int) := by
                unfold refsOf
                rw [List.size_toArray, List.length_map, S.mat.len]
              rw [hsz]
              k_steps
              · rename_i hfull
                unfold Stop
                obtain ⟨hZ3, _⟩ := rows_inN N3 (by k_mem) S.y (fun p hp => by repeat (first | exact hp | refine List.mem_cons_of_mem _ ?_))
                refine going_spec CX F4 N3 (by omega) (by omega) hZ3 ?ne ?le ?_
                case ne => intro e; rw [e] at hlen; simp at hlen; omega
                case le => rw [hlen]; exact S.gs.few
                intro h6 tk6 gv gt F6 N6 hg
                have hgo := going_old S.mat S.rise hg
                k_steps
                unfold Stop
                rename_i h7 ogone F7 N7 dgone
                refine assign_rows (cl := [(Str.ofString "gone", s1.heap.objs.size + 1 + 1 + 1 + 1)]) (byRow Z (fun z => z.a != gv)) (fun v y => y = v) F7 N7 (by with_unfolding_all rfl) (by with_unfolding_all rfl) hhA (by with_unfolding_all rfl) (by decide) (by with_unfolding_all rfl) (by decide) (by with_unfolding_all rfl) (by with_unfolding_all rfl) (by with_unfolding_all rfl) ?_ (by intro _; with_unfolding_all rfl)
                walk1
                obtain ⟨hZ7, _⟩ := rows_inN N7 (by k_mem) S.y (fun p hp => by repeat (first | exact hp | refine List.mem_cons_of_mem _ ?_))
                refine ⟨rl, refsOf Z, rfl, ⟨_, N7.get (by k_mem), rfl, kk, rfl⟩, hlenZ, F7, N7, ⟨?_, ?_⟩, ?_⟩
                · intro C v s₂ m₂ E' hv hn hm hk'
                  obtain ⟨z, hz, rfl⟩ := mem_refs hv
                  obtain ⟨ob, hob, t1, t2, t3, n', e⟩ := hZ7.rows z hz
                  have hg := hk' _ _ (N7.get hob)
                  have hL : s₂.heap.IsList z.ad (List.toArray [.int z.a t1, .bool z.p, .int z.s t2, .int z.o t3]) := ⟨_, hg, by rw [e], n', by rw [e]⟩
                  refine ifs_one ?_
                  k_steps
                  · unfold byRow; rw [hZs z hz]
                  · exact ⟨_, _, rfl, fun _ _ e => e⟩
                · intro C v s₂ m₂ E' hv _ hn hm hk'
                  k_steps
                  exact ⟨_, _, rfl, fun _ _ e => e⟩
                · intro D6 ys6 nD6 h8' tk8' F8 N8 hnew8 hnone8 hP8
                  have hys8 := paired_eq hP8
                  rw [filter_refs hZs] at hys8
                  subst hys8
                  clear hP8
                  k_steps
                  exact hQI _ _ (Hold.intro ⟨rfl, _, _, _, D6, nD6, Z.filter (fun z => z.a != gv), ogone, _, rfl, F8, rfl, rfl, rfl, rfl, rfl, news_put3 N8, dgone, (hnew8 (I, o9) (by k_mem)).symm, mat_room S.mat hgo (by rw [S.sz]; omega), fun z hz => (List.mem_filter.mp hz).1⟩)
              · rename_i hfull
                exact hQI _ _ (Hold.intro ⟨rfl, _, _, _, rl, kk, Z, kg, _, rfl, F4, rfl, rfl, rfl, rfl, rfl, N3, lkg, i2, by rw [roomFor_few (by rw [S.sz]; have := S.len; omega)]; exact S.mat, fun _ h => h⟩))
end P20
end Mine
theorem PySem.Challenge.cw_xw0331_01_holds : PySem.Challenge.rw_xw0331_01.Holds :=
  Mine.law_holds
