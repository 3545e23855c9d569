import PyProof.Rows.All
import Wide.All
import OpenK.AllK
import Wide.FinOn
import KE.KDictList
import KE.KDictOf
import KE.KRevSl
import PyProof.AttrMissHeap
import Lean
import PySem.Challenge.RW_og0120_01
open PySem PySem.W PySem.Calls PyProof.Rows
set_option Elab.async false
set_option maxRecDepth 100000
set_option maxHeartbeats 4000000
/-! MBase -/
namespace Mine

/-- all of h stands in h' -/
def Up (h h' : Heap) : Prop := ∀ b o, h.get? b = some o → h'.get? b = some o
/-- all of h but the named addresses stands in h' -/
def UpX (X : List Addr) (h h' : Heap) : Prop := ∀ b o, b ∉ X → h.get? b = some o → h'.get? b = some o
theorem Up.refl {h : Heap} : Up h h := fun _ _ e => e
theorem Up.trans {h h' h'' : Heap} (a : Up h h') (b : Up h' h'') : Up h h'' := fun c o e => b c o (a c o e)
theorem Up.push {h : Heap} (o : Obj) : Up h (h.push o) := fun _ _ e => Heap.get?_push_of_some _ e
theorem Up.toX {h h' : Heap} (a : Up h h') (X : List Addr) : UpX X h h' := fun b o _ e => a b o e
theorem UpX.trans {X : List Addr} {h h' h'' : Heap} (a : UpX X h h') (b : UpX X h' h'') : UpX X h h'' := fun c o n e => b c o n (a c o n e)
theorem UpX.mono {X Y : List Addr} {h h' : Heap} (a : UpX X h h') (s : ∀ b ∈ X, b ∈ Y) : UpX Y h h' := fun c o n e => a c o (fun q => n (s c q)) e
theorem UpX.same {a : Addr} {h h' : Heap} (s : Heap.SameBut a h h') : UpX [a] h h' := fun b o n e => (s.2 b (by simpa using n)).trans e
theorem UpX.up {h h' : Heap} (a : UpX [] h h') : Up h h' := fun b o e => a b o (by simp) e

/-- nothing lost, nothing read or printed -/
structure Grew (s s' : Shared) : Prop where
  up : Up s.heap s'.heap
  gens : s'.gens = s.gens
  os : s'.os = s.os
theorem Grew.refl {s : Shared} : Grew s s := ⟨Up.refl, rfl, rfl⟩
theorem Grew.trans {s s' s'' : Shared} (a : Grew s s') (b : Grew s' s'') : Grew s s'' := ⟨a.up.trans b.up, b.gens.trans a.gens, b.os.trans a.os⟩

/-- the pairs, as tuples of two ints, none of them at a named address -/
inductive Pairs (X : List Addr) (h : Heap) : List Value → List (Int × Int) → Prop
  | nil : Pairs X h [] []
  | cons {t : Addr} {a b : Int} {u v : Tok} {vs : List Value} {rs : List (Int × Int)} :
      IsTup h t #[.int a u, .int b v] → t ∉ X → Pairs X h vs rs → Pairs X h (.ref t :: vs) ((a, b) :: rs)
theorem IsTup.up' {h h' : Heap} {t : Addr} {its : Array Value} (x : IsTup h t its) (k : ∀ o, h.get? t = some o → h'.get? t = some o) : IsTup h' t its :=
  let ⟨o, e, r⟩ := x; ⟨o, k _ e, r⟩
theorem Pairs.upX {X Y : List Addr} {h h' : Heap} {vs : List Value} {rs : List (Int × Int)} (p : Pairs X h vs rs) (k : UpX Y h h') (s : ∀ b ∈ Y, b ∈ X) : Pairs X h' vs rs := by
  induction p with
  | nil => exact .nil
  | cons ht hX _ ih => exact .cons (IsTup.up' ht fun o e => k _ o (fun q => hX (s _ q)) e) hX ih
theorem Pairs.up {X : List Addr} {h h' : Heap} {vs : List Value} {rs : List (Int × Int)} (p : Pairs X h vs rs) (k : Up h h') : Pairs X h' vs rs :=
  p.upX (k.toX []) (by simp)
theorem Pairs.length {X : List Addr} {h : Heap} {vs : List Value} {rs : List (Int × Int)} (p : Pairs X h vs rs) : vs.length = rs.length := by
  induction p with
  | nil => rfl
  | cons _ _ _ ih => simp [ih]
theorem Pairs.mono {X Y : List Addr} {h : Heap} {vs : List Value} {rs : List (Int × Int)} (p : Pairs X h vs rs) (s : ∀ b ∈ Y, b ∈ X) : Pairs Y h vs rs := by
  induction p with
  | nil => exact .nil
  | cons ht hX _ ih => exact .cons ht (fun q => hX (s _ q)) ih
theorem Pairs.append {X : List Addr} {h : Heap} {vs ws : List Value} {rs qs : List (Int × Int)} (p : Pairs X h vs rs) (q : Pairs X h ws qs) : Pairs X h (vs ++ ws) (rs ++ qs) := by
  induction p with
  | nil => exact q
  | cons ht hX _ ih => exact .cons ht hX ih
theorem Pairs.snoc {X : List Addr} {h : Heap} {vs : List Value} {rs : List (Int × Int)} {t : Addr} {a b : Int} {u v : Tok} (p : Pairs X h vs rs)
    (ht : IsTup h t #[.int a u, .int b v]) (hX : t ∉ X) : Pairs X h (vs ++ [.ref t]) (rs ++ [(a, b)]) := p.append (.cons ht hX .nil)
/-- the last one -/
theorem Pairs.last {X : List Addr} {h : Heap} {vs : List Value} {rs : List (Int × Int)} {a b : Int} (p : Pairs X h vs (rs ++ [(a, b)])) :
    ∃ ws t u v, vs = ws ++ [.ref t] ∧ Pairs X h ws rs ∧ IsTup h t #[.int a u, .int b v] ∧ t ∉ X := by
  induction rs generalizing vs with
  | nil =>
    cases p with
    | cons ht hX r => cases r; exact ⟨[], _, _, _, rfl, .nil, ht, hX⟩
  | cons q rs ih =>
    cases p with
    | cons ht hX r =>
      obtain ⟨ws, t, u, v, rfl, hr, h1, h2⟩ := ih r
      exact ⟨_ :: ws, t, u, v, rfl, .cons ht hX hr, h1, h2⟩

/-- the program's own defs, in the row's order -/
def recs : List DefRec := recsOf PySem.Challenge.pw_og0120_01
theorem recs_len : recs.length = 7 := by rfl
def recAt (k : Nat) (h : k < 7) : DefRec := recs[k]'(by rw [recs_len]; exact h)
theorem recAt_mem (k : Nat) (h : k < 7) : recAt k h ∈ recs := List.getElem_mem _

/-- what the law's frame hands on of the top -/
structure MyTop (mg mb : Str → Option Value) (h : Heap) : Prop where
  g : h.Ns mainGlobals mg
  b : h.Ns builtinsNs mb
  nolimit : h.NoLimit
  fn : ∀ d ∈ recs, ∃ a o pm code doc, mg d.name = some (.ref a) ∧ h.get? a = some o ∧ o.data = .func (docDef d.name d.params d.body d.scope pm code doc) ∧ h.CodeRec code d.name
  built : ∀ x ∈ (["sorted", "list", "set", "len", "range", "dict", "abs", "int"] : List Str), mg x = none ∧ mb x = bootBuiltins x
theorem MyTop.keeps {mg mb : Str → Option Value} {h h' : Heap} (T : MyTop mg mb h) (hk : Up h h') : MyTop mg mb h' where
  g := T.g.keeps hk
  b := T.b.keeps hk
  nolimit := T.nolimit.keeps hk
  fn := fun d hd => let ⟨a, o, pm, code, doc, h1, h2, h3, h4⟩ := T.fn d hd; ⟨a, o, pm, code, doc, h1, hk _ _ h2, h3, h4.keeps hk⟩
  built := T.built
end Mine
namespace Mine
/-! the data of lists -/
def pairD (p : Int × Int) : PyData := .tuple [.int p.1, .int p.2]
theorem Pairs.reads {X : List Addr} {h : Heap} {vs : List Value} {rs : List (Int × Int)} (p : Pairs X h vs rs) : ReadsAll h vs (rs.map pairD) [] := by
  induction p with
  | nil => exact .nil
  | cons ht _ _ ih =>
    obtain ⟨o, ho, hc, n, hd⟩ := ht
    have r : Reads h (.ref _) (pairD (_, _)) [] := .tuple ho hc hd (.cons (.int _ _) (.cons (.int _ _) .nil))
    exact .cons (as := []) r ih
theorem ints_reads {h : Heap} {vs : List Value} {ns : List Int} (p : IntsAre vs ns) : ReadsAll h vs (ns.map PyData.int) [] := by
  induction p with
  | nil => exact .nil
  | cons n t _ ih => exact .cons (as := []) (.int n t) ih
theorem list_reads {h : Heap} {r : Addr} {vs : List Value} {ds : List PyData} {as : List Addr} (hl : h.IsList r vs.toArray) (p : ReadsAll h vs ds as) : Reads h (.ref r) (.list ds) (r :: as) := by
  obtain ⟨o, ho, hc, n, hd⟩ := hl
  exact .list ho hc hd (by simpa using p)
theorem canLay_pairs : ∀ rs : List (Int × Int), PyData.canLayAll0 (rs.map pairD) = true
  | [] => rfl
  | p :: rs => by simp [PyData.canLayAll0, pairD, PyData.canLay0, canLay_pairs rs]
theorem canLay_ints : ∀ ns : List Int, PyData.canLayAll0 (ns.map PyData.int) = true
  | [] => rfl
  | p :: rs => by simp [PyData.canLayAll0, PyData.canLay0, canLay_ints rs]
theorem eqv_pair (p q : Int × Int) : PyData.eqv (pairD p) (pairD q) = decide (p = q) := by
  obtain ⟨a, b⟩ := p; obtain ⟨c, d⟩ := q
  simp only [pairD, PyData.eqv, PyData.eqvAll, Bool.and_true, Prod.mk.injEq]
  by_cases h1 : a = c <;> by_cases h2 : b = d <;> simp [h1, h2]
theorem eqv_pairs : ∀ rs qs : List (Int × Int), PyData.eqvAll (rs.map pairD) (qs.map pairD) = decide (rs = qs)
  | [], [] => rfl
  | [], _ :: _ => rfl
  | _ :: _, [] => rfl
  | p :: rs, q :: qs => by
    simp only [List.map_cons, PyData.eqvAll, eqv_pair, eqv_pairs rs qs, List.cons.injEq]
    by_cases h1 : p = q <;> by_cases h2 : rs = qs <;> simp [h1, h2]
theorem eqv_ints : ∀ rs qs : List Int, PyData.eqvAll (rs.map PyData.int) (qs.map PyData.int) = decide (rs = qs)
  | [], [] => rfl
  | [], _ :: _ => rfl
  | _ :: _, [] => rfl
  | p :: rs, q :: qs => by
    simp only [List.map_cons, PyData.eqvAll, PyData.eqv, eqv_ints rs qs, List.cons.injEq]
    by_cases h1 : p = q <;> by_cases h2 : rs = qs <;> simp [h1, h2]
theorem depth_pairs : ∀ rs : List (Int × Int), PyData.depthAll (rs.map pairD) ≤ 1
  | [] => by simp [PyData.depthAll]
  | p :: rs => by
    have := depth_pairs rs
    simp only [List.map_cons, PyData.depthAll, pairD, PyData.depth]
    omega
theorem depth_ints : ∀ rs : List Int, PyData.depthAll (rs.map PyData.int) = 0
  | [] => by simp [PyData.depthAll]
  | p :: rs => by
    have := depth_ints rs
    simp only [List.map_cons, PyData.depthAll, PyData.depth]
    omega
section
variable {prog : Program} {w : World} {A : Around} {E : Value → Shared → Prop} {s : Shared}
theorem ne_lists {a b : Value} {xs ys : List PyData} {as bs : List Addr} {Q : Value → Shared → Prop} (ra : Reads s.heap a (.list xs) as) (rb : Reads s.heap b (.list ys) bs)
    (ha : PyData.canLayAll0 xs = true) (hb : PyData.canLayAll0 ys = true) (hu : A.units + 64 < cLine) (hd : PyData.depthAll xs < 60) (h : Q (.bool (!PyData.eqvAll xs ys)) s) : wpAny (model prog w) A (compareOp .NotEq a b) Q E s :=
  SeqAt.compareNe_reads ra rb ha hb (by simp only [PyData.depth]; omega) h
theorem eq_lists {a b : Value} {xs ys : List PyData} {as bs : List Addr} {Q : Value → Shared → Prop} (ra : Reads s.heap a (.list xs) as) (rb : Reads s.heap b (.list ys) bs)
    (ha : PyData.canLayAll0 xs = true) (hb : PyData.canLayAll0 ys = true) (hu : A.units + 64 < cLine) (hd : PyData.depthAll xs < 60) (h : Q (.bool (PyData.eqvAll xs ys)) s) : wpAny (model prog w) A (compareOp .Eq a b) Q E s :=
  SeqAt.compareEq_reads ra rb ha hb (by simp only [PyData.depth]; omega) h
end
end Mine

/-! MRuns -/
namespace Mine
section
variable {prog : Program} {w : World} {A : Around} {E : Value → Shared → Prop} {s : Shared} {env : Env}

theorem ev_local {x : Str} {pos : Pos} {m : Str → Option Value} {v : Value} {Q : Value → Shared → Prop} (hk : env.scope.kind = .function) (hx : env.kindOf x = some .local)
    (hn : s.heap.Ns env.locals m) (hv : m x = some v) (h : Q v s) (hd : (x == ("__debug__" : Str)) = false := by decide) : wpAny (model prog w) A (eval (.Name x pos) env) Q E s :=
  wpAny_Name (wpAny_loadName_local hk hx hn hv h) hd

/-- xs[-1] -/
theorem ev_back {e : PySem.Expr} {k1 : Nat} {p2 p3 p4 : Pos} {r : Addr} {ws : List Value} {x : Value} {Q : Value → Shared → Prop}
    (he : ∀ Q', Q' (.ref r) s → wpAny (model prog w) A (eval e env) Q' E s) (hl : s.heap.IsList r (ws ++ [x]).toArray) (h : ∀ tk, Q x { s with toks := tk })
    (hs : ∀ u, subscripted (.UnaryOp .USub (.Constant (.int 1) k1 p2) p3) false (.ref r) (.int (-1) u) = operate [.ref r, .int (-1) u] (getItem (.ref r) (.int (-1) u)) := by intro u; with_unfolding_all rfl) :
    wpAny (model prog w) A (eval (.Subscript e (.UnaryOp .USub (.Constant (.int 1) k1 p2) p3) p4) env) Q E s := by
  refine Subscript_ (he _ ?_)
  refine wpAny_UnaryOp (wpAny_Constant_int (neg_int ?_))
  have hl' : ({ s with toks := s.toks + 1 + 1 } : Shared).heap.IsList r (ws ++ [x]).toArray := hl
  refine tail_any (s := { s with toks := s.toks + 1 + 1 }) (hl'.typeIs) slot_list_getitem.lookup ?_ (hs _)
  refine wpAny_getItem_list_neg hl' (by decide) ?_ (by decide) ?_ (h _)
  · simp only [List.size_toArray, List.length_append, List.length_singleton]; omega
  · simp only [List.size_toArray, List.length_append, List.length_singleton]
    have : (-1 + ((ws.length + 1 : Nat) : Int)).toNat = ws.length := by omega
    rw [this]; simp

/-- t[j] of a tuple -/
theorem ev_part {e : PySem.Expr} {j : Nat} {k2 : Nat} {p5 p6 : Pos} {t : Addr} {its : List Value} {x : Value} {Q : Value → Shared → Prop}
    (he : ∀ Q', (∀ tk, Q' (.ref t) { s with toks := tk }) → wpAny (model prog w) A (eval e env) Q' E s) (ht : IsTup s.heap t its.toArray) (hx : its[j]? = some x) (hj : j < 2 ^ 62) (h : ∀ tk, Q x { s with toks := tk })
    (hs : ∀ u, subscripted (.Constant (.int j) k2 p5) false (.ref t) (.int j u) = operate [.ref t, .int j u] (getItem (.ref t) (.int j u)) := by intro u; with_unfolding_all rfl) :
    wpAny (model prog w) A (eval (.Subscript e (.Constant (.int j) k2 p5) p6) env) Q E s := by
  refine Subscript_ (he _ fun tk => ?_)
  refine wpAny_Constant_int ?_
  have ht' : IsTup ({ s with toks := tk + 1 } : Shared).heap t its.toArray := ht
  have hjl : j < its.length := by
    rcases Nat.lt_or_ge j its.length with hh | hh
    · exact hh
    · rw [List.getElem?_eq_none hh] at hx; cases hx
  refine item_tupleT (s := { s with toks := tk + 1 }) ht' (by omega) (by omega) (j := j) ?_ hx (h _) (hs _)
  have := seqIndex_of (k := (j : Int)) (n := its.length) (by omega) (by omega)
  simpa using this
end
end Mine
namespace Mine
/-! runs_of -/
def runStep (out : List (Int × Int)) (n : Int) : List (Int × Int) :=
  match out.getLast? with
  | none => [(n, 1)]
  | some (a, b) => if n = a + b then out.dropLast ++ [(a, b + 1)] else if n > a + b then out ++ [(n, 1)] else out
def runsL (ns : List Int) : List (Int × Int) := ns.foldl runStep []
theorem runStep_nil (n : Int) : runStep [] n = [(n, 1)] := rfl
theorem runStep_snoc (out : List (Int × Int)) (a b n : Int) : runStep (out ++ [(a, b)]) n = if n = a + b then out ++ [(a, b + 1)] else if n > a + b then (out ++ [(a, b)]) ++ [(n, 1)] else out ++ [(a, b)] := by
  unfold runStep
  rw [List.getLast?_concat, List.dropLast_concat]

abbrev rRuns : DefRec := recAt 0 (by decide)
abbrev eRuns (L f : Addr) (cd : Value) : Env := envOf rRuns.name rRuns.scope L f cd
/-- the loop's body -/
def bodyRuns : List Stmt := match rRuns.body with | [_, .For _ _ b _ _, _] => b | _ => []

structure RunSt (L r : Addr) (m : Str → Option Value) (X : List Addr) (vs : List Value) (out : List (Int × Int)) (h : Heap) : Prop where
  ns : h.Ns L m
  lst : h.PlainList r vs.toArray
  prs : Pairs X h vs out
  live : ∀ b ∈ X, ∃ o, h.get? b = some o
theorem RunSt.up {L r : Addr} {m : Str → Option Value} {X : List Addr} {vs : List Value} {out : List (Int × Int)} {h h' : Heap} (S : RunSt L r m X vs out h) (k : Up h h') : RunSt L r m X vs out h' :=
  ⟨S.ns.keeps k, S.lst.at fun o e => k _ o e, S.prs.up k, fun b hb => let ⟨o, e⟩ := S.live b hb; ⟨o, k _ _ e⟩⟩

structure AfterStep (L r : Addr) (m : Str → Option Value) (X : List Addr) (out : List (Int × Int)) (s s' : Shared) : Prop where
  gens : s'.gens = s.gens
  os : s'.os = s.os
  kept : UpX [r] s.heap s'.heap
  st : ∃ vs, RunSt L r m X vs out s'.heap

section
variable {prog : Program} {w : World} {A : Around} {E : Value → Shared → Prop} {s : Shared} {L f : Addr} {cd : Value}
theorem Grew.toks {s : Shared} {tk : Nat} : Grew s { s with toks := tk } := ⟨Up.refl, rfl, rfl⟩
theorem Grew.push {s : Shared} {o : Obj} : Grew s { s with heap := s.heap.push o } := ⟨Up.push o, rfl, rfl⟩

/-- runs == [] -/
theorem tst_eq {p1 p2 p3 : Pos} {whole : Sem Value} {r : Addr} {m : Str → Option Value} {X : List Addr} {vs : List Value} {out : List (Int × Int)} {Q : Bool → Shared → Prop}
    (S : RunSt L r m X vs out s.heap) (hr : m "runs" = some (.ref r)) (hu : A.units + 64 < cLine) (h : ∀ s', Grew s s' → Q (decide (out = [])) s') :
    wpAny (model prog w) A (isTrue (.Compare (.Name "runs" p1) [.Eq] [.List [] p2] p3) (eRuns L f cd) whole) Q E s := by
  refine wpAny_isTrue_Compare1 ?_
  refine ev_local rfl rfl S.ns hr ?_
  refine List_ (args_nil (wpAny_newList ?_))
  have S' := S.up (Up.push { cls := .type "list", data := .seq ([] : List Value).toArray })
  refine eq_lists (list_reads S'.lst.isList S'.prs.reads) (list_reads (vs := []) ⟨_, Heap.get?_push_size _ rfl, rfl, _, rfl⟩ (.nil)) (canLay_pairs _) rfl hu (by have := depth_pairs out; omega) ?_
  refine wpAny_truthy_bool ?_
  have e : PyData.eqvAll (out.map pairD) [] = decide (out = []) := eqv_pairs out []
  rw [e]
  exact h _ Grew.push
theorem tst_ne {p1 p2 p3 : Pos} {whole : Sem Value} {r : Addr} {m : Str → Option Value} {X : List Addr} {vs : List Value} {out : List (Int × Int)} {Q : Bool → Shared → Prop}
    (S : RunSt L r m X vs out s.heap) (hr : m "runs" = some (.ref r)) (hu : A.units + 64 < cLine) (h : ∀ s', Grew s s' → Q (!decide (out = [])) s') :
    wpAny (model prog w) A (isTrue (.Compare (.Name "runs" p1) [.NotEq] [.List [] p2] p3) (eRuns L f cd) whole) Q E s := by
  refine wpAny_isTrue_Compare1 ?_
  refine ev_local rfl rfl S.ns hr ?_
  refine List_ (args_nil (wpAny_newList ?_))
  have S' := S.up (Up.push { cls := .type "list", data := .seq ([] : List Value).toArray })
  refine ne_lists (list_reads S'.lst.isList S'.prs.reads) (list_reads (vs := []) ⟨_, Heap.get?_push_size _ rfl, rfl, _, rfl⟩ (.nil)) (canLay_pairs _) rfl hu (by have := depth_pairs out; omega) ?_
  refine wpAny_truthy_bool ?_
  have e : PyData.eqvAll (out.map pairD) [] = decide (out = []) := eqv_pairs out []
  rw [e]
  exact h _ Grew.push
/-- runs[-1][j] -/
theorem ev_last {j : Nat} {p1 p2 p3 p4 p5 p6 : Pos} {k1 k2 : Nat} {r t : Addr} {m : Str → Option Value} {X : List Addr} {ws its : List Value} {out : List (Int × Int)} {x : Value} {Q : Value → Shared → Prop}
    (S : RunSt L r m X (ws ++ [.ref t]) out s.heap) (hr : m "runs" = some (.ref r)) (ht : IsTup s.heap t its.toArray) (hx : its[j]? = some x) (hj : j < 2 ^ 62) (h : ∀ s', Grew s s' → Q x s') :
    wpAny (model prog w) A (eval (.Subscript (.Subscript (.Name "runs" p1) (.UnaryOp .USub (.Constant (.int 1) k1 p2) p3) p4) (.Constant (.int j) k2 p5) p6) (eRuns L f cd)) Q E s :=
  ev_part (fun Q' h' => ev_back (fun Q'' h'' => ev_local rfl rfl S.ns hr h'') S.lst.isList h') ht hx hj fun tk => h _ Grew.toks
/-- runs[-1][0] + runs[-1][1] -/
theorem ev_sum {p1 p2 p3 p4 p5 p6 q1 q2 q3 q4 q5 q6 p7 : Pos} {k1 k2 l1 l2 : Nat} {r t : Addr} {m : Str → Option Value} {X : List Addr} {ws : List Value} {out : List (Int × Int)} {a b : Int} {u v : Tok} {Q : Value → Shared → Prop}
    (S : RunSt L r m X (ws ++ [.ref t]) out s.heap) (hr : m "runs" = some (.ref r)) (ht : IsTup s.heap t #[.int a u, .int b v]) (h : ∀ s' tk, Grew s s' → Q (.int (a + b) tk) s') :
    wpAny (model prog w) A (eval (.BinOp (.Subscript (.Subscript (.Name "runs" p1) (.UnaryOp .USub (.Constant (.int 1) k1 p2) p3) p4) (.Constant (.int 0) k2 p5) p6) .Add
      (.Subscript (.Subscript (.Name "runs" q1) (.UnaryOp .USub (.Constant (.int 1) l1 q2) q3) q4) (.Constant (.int 1) l2 q5) q6) p7) (eRuns L f cd)) Q E s := by
  refine wpAny_BinOp ?_
  refine ev_last (j := 0) (its := [.int a u, .int b v]) S hr ht rfl (by decide) fun s₁ g₁ => ?_
  refine ev_last (j := 1) (its := [.int a u, .int b v]) (S.up g₁.up) hr (IsTup.keeps ht g₁.up) rfl (by decide) fun s₂ g₂ => ?_
  exact wpAny_add_int (h _ _ ((g₁.trans g₂).trans Grew.toks))

theorem fresh_notin {X : List Addr} {h : Heap} (live : ∀ b ∈ X, ∃ o, h.get? b = some o) : h.objs.size ∉ X := fun hb => by
  obtain ⟨o, e⟩ := live _ hb
  exact absurd (Heap.lt_size e) (Nat.lt_irrefl _)
theorem update_list {h : Heap} {r : Addr} {its : Array Value} {n : Nat} (ho : h.get? r = some { cls := .type "list", data := .seq its n }) (f : Array Value → Array Value) :
    (h.update r (Obj.mapSeq f)).PlainList r (f its) := by
  have q := Heap.get?_update_self (Obj.mapSeq f) ho (by simp [Obj.mapSeq]; rfl)
  simp only [Obj.mapSeq] at q
  exact ⟨_, q⟩

theorem after_upd {s s₁ : Shared} {L r : Addr} {m : Str → Option Value} {X : List Addr} {vs : List Value} {out : List (Int × Int)} {h' : Heap} (g : Grew s s₁) (hs : Heap.SameBut r s₁.heap h')
    (hn : s₁.heap.Ns L m) (hLr : L ≠ r) (hl : h'.PlainList r vs.toArray) (hp : Pairs X s₁.heap vs out) (hrX : r ∈ X) (live : ∀ b ∈ X, ∃ o, s₁.heap.get? b = some o) : AfterStep L r m X out s { s₁ with heap := h' } := by
  refine ⟨g.gens, g.os, (g.up.toX _).trans (UpX.same hs), vs, hn.sameBut hs hLr, hl, hp.upX (UpX.same hs) (by simpa using hrX), fun b hb => ?_⟩
  by_cases e : b = r
  · subst e; obtain ⟨n, q⟩ := hl; exact ⟨_, q⟩
  · obtain ⟨o, q⟩ := live b hb; exact ⟨o, (hs.2 b e).trans q⟩

theorem body_runs {r : Addr} {m : Str → Option Value} {X : List Addr} {n : Int} {t : Tok} {vs : List Value} {out : List (Int × Int)}
    (S : RunSt L r m X vs out s.heap) (hr : m "runs" = some (.ref r)) (hm : m "number" = some (.int n t)) (hrX : r ∈ X) (hLr : L ≠ r)
    (hlen : out.length < 1000) (hu : A.units + 64 < cLine) :
    wpAny (model prog w) A (execs bodyRuns (eRuns L f cd)) (fun fl s' => fl = .next ∧ AfterStep L r m X (runStep out n) s s') E s := by
  have app : ∀ s₁, Grew s s₁ → ∀ {p1 p3 p4 p5 p7 : Pos} {k1 k2 a1 a2 a3 a4 a5 a6 : Nat}, wpAny (model prog w) A (exec (.Expr (.Call (.Attribute (.Name "runs" p1) "append" ⟨a1, a2, 8, a3⟩) [.Tuple [.Name "number" p3, .Constant (.int 1) k1 p4] k2 p5] [] ⟨8, a4, a5, a6⟩) p7) (eRuns L f cd))
      (fun fl s' => fl = .next ∧ AfterStep L r m X (out ++ [(n, 1)]) s s') E s₁ := by
    intro s₁ g₁ p1 p3 p4 p5 p7 k1 k2 a1 a2 a3 a4 a5 a6
    have S₁ := S.up g₁.up
    refine wpAny_Expr ?_
    refine MethodCall_ ?_
    refine ev_local rfl rfl S₁.ns hr ?_
    obtain ⟨ep, hol⟩ := S₁.lst
    refine getMethod_list_append hol rfl rfl ?_
    refine callWith_method1 ?_
    refine args_cons ?_
    refine Tuple_ (args_cons ?_)
    refine ev_local rfl rfl S₁.ns hm ?_
    refine args_cons (wpAny_Constant_int (args_nil ?_))
    refine wpAny_newTuple ?_
    refine args_nil ?_
    have S₂ := S₁.up (Up.push { cls := .type "tuple", data := .seq [Value.int n t, Value.int 1 s₁.toks].toArray })
    have hT : IsTup (s₁.heap.push { cls := .type "tuple", data := .seq [Value.int n t, Value.int 1 s₁.toks].toArray }) s₁.heap.objs.size #[Value.int n t, Value.int 1 s₁.toks] := ⟨_, Heap.get?_push_size _ rfl, rfl, _, rfl⟩
    have hf := fresh_notin S₁.live
    refine wpAny_list_append_plain S₂.lst (fun h' hl hs => ?_) (by have := S.prs.length; simp only [List.size_toArray]; rw [this, sizeLine_eq]; omega)
    refine ⟨rfl, ?_⟩
    refine after_upd (s₁ := { s₁ with heap := s₁.heap.push _, toks := _ }) ⟨g₁.up.trans (Up.push _), g₁.gens, g₁.os⟩ hs S₂.ns hLr (vs := vs ++ [.ref s₁.heap.objs.size]) (by simpa using hl) (S₂.prs.snoc hT hf) hrX S₂.live
  refine wpAny_execs_cons ?_
  refine wpAny_If ?_
  refine isTrue_and ?_
  refine tst_ne S hr hu fun s₁ g₁ => ?_
  have S₁ := S.up g₁.up
  by_cases ho : out = []
  · subst ho
    simp only [decide_true, Bool.not_true, Bool.false_eq_true, if_false]
    refine wpAny_execs_cons ?_
    refine wpAny_If ?_
    refine isTrue_or ?_
    refine tst_eq S₁ hr hu fun s₂ g₂ => ?_
    simp only [decide_true, if_true]
    refine wpAny_execs_cons ?_
    refine wpAny_mono (app s₂ (g₁.trans g₂)) (fun fl s' h => ?_) fun _ _ e => e
    obtain ⟨rfl, h⟩ := h
    exact wpAny_execs_nil (wpAny_execs_nil (wpAny_execs_nil ⟨rfl, h⟩))
  · simp only [ho, decide_false, Bool.not_false, if_true]
    obtain ⟨o, ⟨a, b⟩, rfl⟩ : ∃ o p, out = o ++ [p] := ⟨out.dropLast, out.getLast ho, (List.dropLast_concat_getLast ho).symm⟩
    obtain ⟨ws, tt, ua, ub, rfl, hws, hT, htX⟩ := S₁.prs.last
    rw [runStep_snoc]
    refine isTrue_and ?_
    refine wpAny_isTrue_Compare1 ?_
    refine ev_local rfl rfl S₁.ns hm ?_
    refine ev_sum S₁ hr hT fun s₂ tk g₂ => ?_
    refine eq_int ?_
    refine wpAny_truthy_bool ?_
    have S₂ := S₁.up g₂.up
    have hT₂ := IsTup.keeps hT g₂.up
    by_cases e1 : n = a + b
    · subst e1
      simp only [beq_self_eq_true, if_true]
      refine isTrue_and_nil ?_
      simp only [if_true]
      refine wpAny_execs_cons ?_
      refine wpAny_Assign_Subscript ?_
      refine Tuple_ (args_cons ?_)
      refine ev_last (j := 0) (its := [.int a ua, .int b ub]) S₂ hr hT₂ rfl (by decide) fun s₃ g₃ => ?_
      refine args_cons (wpAny_BinOp ?_)
      refine ev_last (j := 1) (its := [.int a ua, .int b ub]) (S₂.up g₃.up) hr (IsTup.keeps hT₂ g₃.up) rfl (by decide) fun s₄ g₄ => ?_
      refine wpAny_Constant_int (wpAny_add_int (args_nil (wpAny_newTuple ?_)))
      have S₄ := (S₂.up g₃.up).up g₄.up
      have S₅ := S₄.up (Up.push { cls := .type "tuple", data := .seq [Value.int a ua, Value.int (b + 1) (s₄.toks + 1)].toArray })
      have hT₅ : IsTup (s₄.heap.push { cls := .type "tuple", data := .seq [Value.int a ua, Value.int (b + 1) (s₄.toks + 1)].toArray }) s₄.heap.objs.size #[Value.int a ua, Value.int (b + 1) (s₄.toks + 1)] := ⟨_, Heap.get?_push_size _ rfl, rfl, _, rfl⟩
      have hf := fresh_notin S₄.live
      refine ev_local rfl rfl S₅.ns hr ?_
      refine wpAny_UnaryOp (wpAny_Constant_int (neg_int ?_))
      obtain ⟨ep, hol⟩ := S₅.lst
      refine ki_setBack hol (by decide) (by simp only [List.size_toArray, List.length_append, List.length_singleton]; omega) (by decide) ?_
      refine wpAny_execs_nil (wpAny_execs_nil ⟨rfl, ?_⟩)
      have hu5 := update_list hol (·.setIfInBounds (-1 + ((ws ++ [Value.ref tt]).toArray.size : Int)).toNat (.ref s₄.heap.objs.size))
      have hidx : (-1 + ((ws ++ [Value.ref tt]).toArray.size : Int)).toNat = ws.length := by
        simp only [List.size_toArray, List.length_append, List.length_singleton]; omega
      have hgall := ((g₁.trans g₂).trans g₃).trans g₄
      refine after_upd (s₁ := { s₄ with heap := s₄.heap.push _, toks := _ }) ⟨hgall.up.trans (Up.push _), hgall.gens, hgall.os⟩ (Heap.SameBut.update _ r _) S₅.ns hLr (vs := ws ++ [.ref s₄.heap.objs.size]) ?_ ?_ hrX S₅.live
      · rw [hidx] at hu5
        have : ((ws ++ [Value.ref tt]).toArray.setIfInBounds ws.length (.ref s₄.heap.objs.size)) = (ws ++ [Value.ref s₄.heap.objs.size]).toArray := by simp
        rw [← this]
        rw [hidx]
        exact hu5
      · exact ((((hws.up g₂.up).up g₃.up).up g₄.up).up (Up.push _)).snoc hT₅ hf
    · have : (n == a + b) = false := by simpa using e1
      simp only [this, e1, if_false, Bool.false_eq_true]
      refine wpAny_execs_cons ?_
      refine wpAny_If ?_
      refine isTrue_or ?_
      refine tst_eq S₂ hr hu fun s₃ g₃ => ?_
      simp only [List.append_eq_nil_iff, List.cons_ne_nil, and_false, decide_false, Bool.false_eq_true, if_false]
      refine isTrue_or ?_
      refine wpAny_isTrue_Compare1 ?_
      have S₃ := S₂.up g₃.up
      refine ev_local rfl rfl S₃.ns hm ?_
      refine ev_sum S₃ hr (IsTup.keeps hT₂ g₃.up) fun s₄ tk g₄ => ?_
      refine gt_int ?_
      refine wpAny_truthy_bool ?_
      have S₄ := S₃.up g₄.up
      have hgall := ((g₁.trans g₂).trans g₃).trans g₄
      by_cases e2 : n > a + b
      · simp only [e2, decide_true, if_true]
        refine wpAny_execs_cons ?_
        refine wpAny_mono (app s₄ hgall) (fun fl s' h => ?_) fun _ _ e => e
        obtain ⟨rfl, h⟩ := h
        exact wpAny_execs_nil (wpAny_execs_nil (wpAny_execs_nil ⟨rfl, h⟩))
      · simp only [e2, decide_false, if_false, Bool.false_eq_true]
        refine isTrue_or_nil ?_
        simp only [if_false, Bool.false_eq_true]
        exact wpAny_execs_nil (wpAny_execs_nil (wpAny_execs_nil ⟨rfl, hgall.gens, hgall.os, hgall.up.toX _, _, S₄⟩))
end
end Mine

/-! MLoop -/
namespace Mine
theorem fresh_none' {h : Heap} {a : Addr} (ha : h.objs.size ≤ a) : h.get? a = none := by
  cases q : h.get? a with
  | none => rfl
  | some o => exact absurd (Heap.lt_size q) (Nat.not_lt.mpr ha)
section
variable {prog : Program} {w : World} {A : Around} {E : Value → Shared → Prop} {s : Shared} {env : Env}
/-- a for over anything that walks: J holds ahead of each turn -/
theorem forLoop_gen {R : Result → Shared → Prop} {target : PySem.Expr} {body : List Stmt} {I : Addr} {fp wr : List Addr} {n : Nat} {P : Nat → Value → Prop} {St : Nat → Heap → Prop}
    (W : Walks prog w A I fp wr n P St) (J : Nat → Shared → Prop) (hst : St 0 s.heap) (h0 : J 0 s)
    (hJ : ∀ i s₁ s₂, J i s₁ → UpX wr s₁.heap s₂.heap → s₂.gens = s₁.gens → s₂.os = s₁.os → J i s₂)
    (step : ∀ i v s₁ (E' : Value → Shared → Prop), i < n → P i v → St (i + 1) s₁.heap → J i s₁ → wpAny (model prog w) A (letOwnedTupleGo target (.ref I) v) (fun _ s₂ => wpAny (model prog w) A (assign target env v) (fun _ s₃ =>
      wpAny (model prog w) A (execs body env) (fun f s₄ => f = .next ∧ St (i + 1) s₄.heap ∧ J (i + 1) s₄) E' s₃) E' s₂) E' s₁)
    (hR : ∀ s', J n s' → R (.ok .next) s') : codeAny (model prog w) A (.forLoop target (.ref I) body [] env) R s := by
  refine codeAny_forLoop_any (fun k s' => ∃ i, i ≤ n ∧ k = n + 1 - i ∧ St i s'.heap ∧ J i s') ?_ (n + 1) ⟨0, Nat.zero_le _, rfl, hst, h0⟩
  rintro k s' ⟨i, hi, rfl, hst', hJ'⟩
  by_cases hlt : i < n
  · refine W.item i s' _ _ hlt hst' fun v h₁ tk₁ hP hst₁ hk₁ => ?_
    refine wpAny_mono (step i v _ _ hlt hP hst₁ (hJ i _ _ hJ' (fun b o hb e => hk₁ b o hb e) rfl rfl)) (fun _ s₂ h₂ => wpAny_mono h₂ (fun _ s₃ h₃ => wpAny_mono h₃ (fun f s₄ h₄ => ?_) fun _ _ e => e) fun _ _ e => e) fun _ _ e => e
    obtain ⟨rfl, h5, h6⟩ := h₄
    exact ⟨n + 1 - (i + 1), by omega, i + 1, hlt, rfl, h5, h6⟩
  · have hin : i = n := by omega
    subst hin
    refine W.done s' _ _ hst' fun h₁ tk₁ hk₁ => wpAny_execs_nil (hR _ (hJ i _ _ hJ' (fun b o hb e => hk₁ b o hb e) rfl rfl))
end
end Mine

/-! MRunsC -/
namespace Mine
theorem fresh_none {h : Heap} {a : Addr} (ha : h.objs.size ≤ a) : h.get? a = none := by
  cases q : h.get? a with
  | none => rfl
  | some o => exact absurd (Heap.lt_size q) (Nat.not_lt.mpr ha)
theorem ne_fresh {h : Heap} {a b : Addr} {o : Obj} (ha : h.get? a = none) (hb : h.get? b = some o) : b ≠ a := fun e => by
  subst e; rw [ha] at hb; cases hb
/-- what sorted makes of v, from h on -/
def Sorts (prog : Program) (w : World) (h : Heap) (v : Value) (ns : List Int) : Prop :=
  ∀ (A : Around) (s : Shared) (Q E : Value → Shared → Prop), A.handled = none → Up h s.heap →
    (∀ s' D vs' ns', Grew s s' → s.heap.get? D = none → s'.heap.PlainList D vs'.toArray → IntsAre vs' ns' → ns'.Perm ns → ns'.Pairwise (· ≤ ·) → Q (.ref D) s') →
    wpAny (model prog w) A (call (.builtin "sorted") [v]) Q E s
theorem Sorts.list {prog : Program} {w : World} {h : Heap} {l : Addr} {vs : List Value} {ns : List Int} (hl : h.IsList l vs.toArray) (hi : IntsAre vs ns) (h64 : ns.length < 64) : Sorts prog w h (.ref l) ns := by
  intro A s Q E _ hu hQ
  have e := IntsAre.length hi
  refine sorted_ints (hl.at fun o e => hu _ o e) hi (by omega) fun out ns' a1 a2 a3 => ?_
  obtain ⟨ep, hat⟩ := sortedAll_at s.heap vs out
  exact hQ _ _ out.toList ns' ⟨fun b o e => sortedAll_old e, rfl, rfl⟩ (fresh_none (Nat.le_succ _)) ⟨ep, by simpa using hat⟩ a1 a2 a3

theorem runStep_len (out : List (Int × Int)) (n : Int) : (runStep out n).length ≤ out.length + 1 := by
  rcases List.eq_nil_or_concat out with rfl | ⟨o, ⟨a, b⟩, rfl⟩
  · simp [runStep_nil]
  · rw [List.concat_eq_append, runStep_snoc]
    split
    · simp
    · split <;> simp
theorem runsL_len (ns : List Int) : (runsL ns).length ≤ ns.length := by
  have key : ∀ (ns : List Int) (out : List (Int × Int)), (ns.foldl runStep out).length ≤ out.length + ns.length := by
    intro ns
    induction ns with
    | nil => simp
    | cons n r ih =>
      intro out
      have h1 := ih (runStep out n)
      have h2 := runStep_len out n
      simp only [List.foldl_cons, List.length_cons]; omega
  have := key ns []
  simpa [runsL] using this
section
variable {prog : Program} {w : World} {A : Around} {E : Value → Shared → Prop} {s : Shared} {mg mb : Str → Option Value} {env : Env}
theorem ev_builtin {x : Str} {pos : Pos} {v : Value} {Q : Value → Shared → Prop} (T : MyTop mg mb s.heap) (hk : env.scope.kind = .function) (hx : env.kindOf x = some .globalImplicit) (hg : env.globals = mainGlobals) (hb : env.builtins = builtinsNs)
    (hm : x ∈ (["sorted", "list", "set", "len", "range", "dict", "abs", "int"] : List Str)) (hv : bootBuiltins x = some v) (h : Q v s) (hd : (x == ("__debug__" : Str)) = false := by decide) :
    wpAny (model prog w) A (eval (.Name x pos) env) Q E s :=
  Name_function_global hk hx (loadGlobal_builtin (by rw [hg]; exact T.g) (T.built x hm).1 (by rw [hb]; exact T.b) ((T.built x hm).2.trans hv) h) hd
theorem ev_global {x : Str} {pos : Pos} {v : Value} {Q : Value → Shared → Prop} (T : MyTop mg mb s.heap) (hk : env.scope.kind = .function) (hx : env.kindOf x = some .globalImplicit) (hg : env.globals = mainGlobals)
    (hv : mg x = some v) (h : Q v s) (hd : (x == ("__debug__" : Str)) = false := by decide) :
    wpAny (model prog w) A (eval (.Name x pos) env) Q E s :=
  Name_function_global hk hx (loadGlobal_global (by rw [hg]; exact T.g) hv h) hd

theorem call_runs {f : Addr} {v : Value} {ns : List Int} {Q : Value → Shared → Prop} (T : MyTop mg mb s.heap) (hf : mg "runs_of" = some (.ref f)) (hh : A.handled = none) (hd : A.depth < recursionLimit) (hu : A.units + 100 < cLine)
    (hs : Sorts prog w s.heap v ns) (hlen : ns.length < 64)
    (h : ∀ s' r vs ns', Grew s s' → s.heap.get? r = none → s'.heap.PlainList r vs.toArray → Pairs [] s'.heap vs (runsL ns') → ns'.Perm ns → ns'.Pairwise (· ≤ ·) → Q (.ref r) s') :
    wpAny (model prog w) A (call (.ref f) [v]) Q E s := by
  obtain ⟨a, o, pm, code, doc, h1, h2, h3, h4⟩ := T.fn rRuns (recAt_mem 0 (by decide))
  have ea : a = f := by
    have q : mg "runs_of" = some (.ref a) := h1
    rw [hf] at q; cases q; rfl
  subst ea
  refine wpAny_call (call_plain_ret (binds := [("numbers", v)]) hd h2 h3 T.nolimit h4 rfl (locs rfl) (fun h₁ F => ?_) rfl rfl rfl (by decide))
  have hA : (A.deeper (eRuns s.heap.objs.size a code)).handled = none := hh
  have hU : (A.deeper (eRuns s.heap.objs.size a code)).units + 64 < cLine := by show A.units + 3 + 64 < cLine; omega
  have hLs : s.heap.get? s.heap.objs.size = none := fresh_none (Nat.le_refl _)
  generalize s.heap.objs.size = L at F hA hU hLs ⊢
  generalize A.deeper (eRuns L a code) = A' at hA hU ⊢
  refine wpAny_execs_cons ?_
  refine wpAny_Assign_Name (List_ (args_nil (wpAny_newList ?_)))
  refine wpAny_storeName_local rfl (F.ns.keeps (Up.push _)) fun h₂ hn₂ hs₂ => ?_
  -- the list and the locals
  have hrL : h₁.objs.size ≠ L := by
    obtain ⟨_, _, _, e, _⟩ := F.ns
    exact Nat.ne_of_gt (Heap.lt_size e)
  have hr₂ : h₂.PlainList h₁.objs.size #[] := ⟨0, (hs₂.2 _ hrL).trans (Heap.get?_push_size _ rfl)⟩
  have k₂ : UpX [L] s.heap h₂ := fun b o hb e => (hs₂.2 b (show b ≠ L by simpa using hb)).trans (Heap.get?_push_of_some _ (F.keep b o e))
  have u₂ : Up s.heap h₂ := fun b o e => k₂ b o (by simpa using ne_fresh hLs e) e
  have hrs : s.heap.get? h₁.objs.size = none := by
    cases q : s.heap.get? h₁.objs.size with
    | none => rfl
    | some o => exact absurd (Heap.lt_size (F.keep _ _ q)) (Nat.lt_irrefl _)
  generalize h₁.objs.size = r at hr₂ hrL hrs hn₂ ⊢
  refine wpAny_execs_cons ?_
  refine wpAny_For ?_
  refine Call_ ?_
  have T₂ : MyTop mg mb h₂ := T.keeps u₂
  refine ev_builtin (s := { s with heap := h₂, toks := _ }) T₂ rfl rfl rfl rfl (by decide) PyProof.Rows.boot_sorted ?_
  refine callWith_builtin1 (args_cons ?_)
  refine ev_local rfl rfl hn₂ (v := v) rfl (args_nil ?_)
  refine hs _ _ _ _ hA u₂ fun s₃ D vs' ns' g₃ hD hlD hI hperm hsort => ?_
  refine wpAny_pyIter_list hlD.isList ?_
  -- facts ahead of the loop
  have hLl : ∃ o, s₃.heap.get? L = some o := by obtain ⟨o, _, _, e, _⟩ := hn₂; exact ⟨o, g₃.up _ _ e⟩
  have hrl : ∃ o, s₃.heap.get? r = some o := by obtain ⟨o, e⟩ := hr₂; exact ⟨_, g₃.up _ _ e⟩
  have hDI : D ≠ s₃.heap.objs.size := by obtain ⟨_, e⟩ := hlD; exact Nat.ne_of_lt (Heap.lt_size e)
  have hLI : L ≠ s₃.heap.objs.size := by obtain ⟨_, e⟩ := hLl; exact Nat.ne_of_lt (Heap.lt_size e)
  have hrI : r ≠ s₃.heap.objs.size := by obtain ⟨_, e⟩ := hrl; exact Nat.ne_of_lt (Heap.lt_size e)
  have hDL : D ≠ L := by obtain ⟨o, _, _, e, _⟩ := hn₂; exact (ne_fresh hD e).symm
  have hDr : D ≠ r := by obtain ⟨o, e⟩ := hr₂; exact (ne_fresh hD e).symm
  have hIs : s₃.heap.get? s₃.heap.objs.size = none := fresh_none (Nat.le_refl _)
  have hup₃ : Up s.heap s₃.heap := u₂.trans g₃.up
  have hIs0 : s.heap.get? s₃.heap.objs.size = none := by
    cases q : s.heap.get? s₃.heap.objs.size with
    | none => rfl
    | some o => rw [hup₃ _ _ q] at hIs; cases hIs
  have hgens : s₃.gens = s.gens := g₃.gens
  have hos : s₃.os = s.os := g₃.os
  have hn₃ := hn₂.keeps g₃.up
  have hr₃ : s₃.heap.PlainList r #[] := hr₂.at fun o e => g₃.up _ _ e
  have hlenI : vs'.length = ns'.length := IntsAre.length hI
  have hst0 : (s₃.heap.push { cls := .type "list_iterator", data := .fields #[.ref D, .int 0 0] }).IsListIter s₃.heap.objs.size D 0 ∧ (s₃.heap.push { cls := .type "list_iterator", data := .fields #[.ref D, .int 0 0] }).IsList D vs'.toArray :=
    ⟨⟨_, Heap.get?_push_size _ rfl, rfl, rfl⟩, hlD.isList.at fun o e => Heap.get?_push_of_some _ e⟩
  have hup4 : Up s₃.heap (s₃.heap.push { cls := .type "list_iterator", data := .fields #[.ref D, .int 0 0] }) := Up.push _
  generalize s₃.heap.objs.size = I at *
  refine forLoop_gen (Walks.list hA I D hDI vs'.toArray)
    (fun i s' => s'.gens = s.gens ∧ s'.os = s.os ∧ UpX [L, r, I] s.heap s'.heap ∧ ∃ m vs, m "runs" = some (.ref r) ∧ s'.heap.Ns L m ∧ s'.heap.PlainList r vs.toArray ∧ Pairs [L, r, I] s'.heap vs (runsL (ns'.take i))) hst0
    ⟨hgens, hos, (hup₃.trans hup4).toX _, _, [], ?_, hn₃.keeps hup4, hr₃.at fun o e => hup4 _ _ e, .nil⟩ ?_ ?_ ?_
  · rfl
  · rintro i s₁ s₂ ⟨a1, a2, a3, m, vs, a4, a5, a6, a7⟩ k b1 b2
    refine ⟨b1.trans a1, b2.trans a2, a3.trans (k.mono (by simp)), m, vs, a4, a5.at' fun o e => k _ _ (by simpa using hLI) e, a6.at fun o e => k _ _ (by simpa using hrI) e, a7.upX k (by simp)⟩
  · rintro i v₁ s₁ E' hi hP hst ⟨a1, a2, a3, m, vs, a4, a5, a6, a7⟩
    have hi' : i < ns'.length := by rw [← hlenI]; simpa using hi
    obtain ⟨t₁, hx⟩ := hI.get i ns'[i] (by simp [hi'])
    have hv : v₁ = .int ns'[i] t₁ := by
      have hP' : vs'[i]? = some v₁ := by simpa using hP
      rw [hx] at hP'; exact (Option.some.inj hP').symm
    subst hv
    refine wpAny_of_eq (a := ()) rfl ?_
    refine wpAny_assign_Name (wpAny_storeName_local rfl a5 fun h₅ hn₅ hs₅ => ?_)
    have kL : UpX [L] s₁.heap h₅ := UpX.same hs₅
    have hst₅ : h₅.IsListIter I D (i + 1) ∧ h₅.IsList D vs'.toArray := ⟨hst.1.at fun o e => kL _ _ (by simpa using hLI.symm) e, hst.2.at fun o e => kL _ _ (by simpa using hDL) e⟩
    have S₅ : RunSt L r (fun y => if y = "number" then some (.int ns'[i] t₁) else m y) [L, r, I] vs (runsL (ns'.take i)) h₅ := by
      refine ⟨hn₅, a6.at fun o e => kL _ _ (by simpa using hrL) e, a7.upX kL (by simp), fun b hb => ?_⟩
      simp only [List.mem_cons, List.not_mem_nil, or_false] at hb
      rcases hb with rfl | rfl | rfl
      · obtain ⟨o, _, _, e, _⟩ := hn₅; exact ⟨o, e⟩
      · obtain ⟨_, e⟩ := a6; exact ⟨_, kL _ _ (by simpa using hrL) e⟩
      · obtain ⟨o, e, _⟩ := hst₅.1; exact ⟨o, e⟩
    have hout : (runsL (ns'.take i)).length ≤ i := Nat.le_trans (runsL_len _) (by simp; omega)
    have hns' : ns'.length = ns.length := hperm.length_eq
    have hb := body_runs (prog := prog) (w := w) (E := E') (f := a) (cd := code) (s := { s₁ with heap := h₅, toks := s₁.toks + 1 }) (t := t₁) (n := ns'[i]) S₅ ((if_neg (by decide)).trans a4) (if_pos rfl) (by simp) (Ne.symm hrL) (by omega) hU
    refine wpAny_mono hb (fun fl s₆ h₆ => ?_) fun _ _ e => e
    obtain ⟨rfl, b1, b2, b3, vs₆, S₆⟩ := h₆
    have k₆ : UpX [L, r] s₁.heap s₆.heap := (kL.mono fun b hb => List.mem_append_left [r] hb).trans (b3.mono fun b hb => .tail _ hb)
    refine ⟨rfl, ⟨hst₅.1.at fun o e => b3 _ _ (by simpa using hrI.symm) e, hst₅.2.at fun o e => b3 _ _ (by simpa using hDr) e⟩, b1.trans a1, b2.trans a2, a3.trans (k₆.mono fun b hb => List.mem_append_left [I] hb), _, vs₆, ?_, S₆.ns, S₆.lst, ?_⟩
    · exact (if_neg (by decide)).trans a4
    · have e : runsL (ns'.take (i + 1)) = runStep (runsL (ns'.take i)) ns'[i] := by
        have hq : ns'[i]? = some ns'[i] := List.getElem?_eq_getElem hi'
        have hs : ns'.take (i + 1) = ns'.take i ++ [ns'[i]] := by rw [List.take_add_one, hq]; rfl
        unfold runsL
        rw [hs, List.foldl_append]
        rfl
      rw [e]; exact S₆.prs
  · rintro s' ⟨a1, a2, a3, m, vs, a4, a5, a6, a7⟩
    refine wpAny_execs_cons (wpAny_Return_some ?_)
    refine ev_local rfl rfl a5 a4 ?_
    have hfull : ns'.take vs'.toArray.size = ns' := by simp [hlenI]
    rw [hfull] at a7
    refine h s' r vs ns' ⟨fun b o e => a3 b o ?_ e, a1, a2⟩ hrs a6 (a7.mono (by simp)) hperm hsort
    simp only [List.mem_cons, List.not_mem_nil, or_false, not_or]
    exact ⟨ne_fresh hLs e, ne_fresh hrs e, ne_fresh hIs0 e⟩
end
end Mine

/-! MSpread -/
namespace Mine
def rangeL (a b : Int) : List Int := (List.range b.toNat).map fun (i : Nat) => a + (i : Int)
def spreadL (rs : List (Int × Int)) : List Int := rs.flatMap fun p => rangeL p.1 p.2
theorem Pairs.get {X : List Addr} {h : Heap} {vs : List Value} {rs : List (Int × Int)} (p : Pairs X h vs rs) {i : Nat} {v : Value} (hv : vs[i]? = some v) :
    ∃ (t : Addr) (a b : Int) (u w : Tok), v = .ref t ∧ rs[i]? = some (a, b) ∧ IsTup h t #[.int a u, .int b w] ∧ t ∉ X := by
  induction p generalizing i with
  | nil => simp at hv
  | @cons t a b u w vs rs ht hX _ ih =>
    cases i with
    | zero => simp at hv; subst hv; exact ⟨t, a, b, u, w, rfl, rfl, ht, hX⟩
    | succ i => simpa using ih (by simpa using hv)
theorem ints_of_items {acc : List Value} {ns : List Int} (hl : acc.length = ns.length) (h : ∀ j v, acc[j]? = some v → ∃ t : Tok, v = Value.int (ns.getD j 0) t) : IntsAre acc ns := by
  induction acc generalizing ns with
  | nil => cases ns with
    | nil => exact .nil
    | cons _ _ => simp at hl
  | cons v acc ih =>
    cases ns with
    | nil => simp at hl
    | cons n ns =>
      obtain ⟨t, rfl⟩ := h 0 v rfl
      exact .cons n t (ih (by simpa using hl) fun j u hu => by simpa using h (j + 1) u (by simpa using hu))
theorem rangeL_len (a b : Int) : (rangeL a b).length = b.toNat := by simp [rangeL]
theorem rangeL_getD (a b : Int) {j : Nat} (h : j < b.toNat) : (rangeL a b).getD j 0 = a + (j : Int) := by
  simp [rangeL, h]

theorem spreadL_len : ∀ (rs : List (Int × Int)) (k : Nat), (∀ p ∈ rs, p.2.toNat ≤ k) → (spreadL rs).length ≤ rs.length * k
  | [], _, _ => by simp [spreadL]
  | p :: rs, k, h => by
    have h1 := spreadL_len rs k fun q hq => h q (.tail _ hq)
    have h2 := h p (.head _)
    have : spreadL (p :: rs) = rangeL p.1 p.2 ++ spreadL rs := by simp [spreadL]
    rw [this, List.length_append, rangeL_len, List.length_cons, Nat.add_mul, Nat.one_mul]
    omega
theorem plain_one {pos : Pos} {e : PySem.Expr} {env : Env} (he : starEach [e] env = [(false, eval e env)]) : (backTo pos (starEach [e] env)).any (·.1) = false := by rw [he]; rfl

abbrev rSpread : DefRec := recAt 5 (by decide)
abbrev eSpread (L f : Addr) (cd : Value) : Env := envOf rSpread.name rSpread.scope L f cd
section
variable {prog : Program} {w : World} {A : Around} {E : Value → Shared → Prop} {s : Shared} {mg mb : Str → Option Value}
theorem call_spread {f r0 : Addr} {vs : List Value} {rs : List (Int × Int)} {Q : Value → Shared → Prop} (T : MyTop mg mb s.heap) (hf : mg "_law_spread" = some (.ref f)) (hh : A.handled = none) (hd : A.depth < recursionLimit)
    (hl : s.heap.IsList r0 vs.toArray) (hp : Pairs [] s.heap vs rs) (hlen : rs.length < 64) (hb : ∀ p ∈ rs, 0 ≤ p.1 ∧ p.1 < 1000 ∧ 0 ≤ p.2 ∧ p.2 < 1000)
    (h : ∀ s' r ws, Grew s s' → s.heap.get? r = none → s'.heap.PlainList r ws.toArray → IntsAre ws (spreadL rs) → Q (.ref r) s') :
    wpAny (model prog w) A (call (.ref f) [.ref r0]) Q E s := by
  obtain ⟨a, o, pm, code, doc, h1, h2, h3, h4⟩ := T.fn rSpread (recAt_mem 5 (by decide))
  have ea : a = f := by
    have q : mg "_law_spread" = some (.ref a) := h1
    rw [hf] at q; cases q; rfl
  subst ea
  refine wpAny_call (call_plain_ret (binds := [("runs", .ref r0)]) hd h2 h3 T.nolimit h4 rfl (locs rfl) (fun h₁ F => ?_) rfl rfl rfl (by decide))
  have hA : (A.deeper (eSpread s.heap.objs.size a code)).handled = none := hh
  have hLs : s.heap.get? s.heap.objs.size = none := fresh_none (Nat.le_refl _)
  generalize s.heap.objs.size = L at F hA hLs ⊢
  generalize A.deeper (eSpread L a code) = A' at hA ⊢
  refine wpAny_execs_cons ?_
  refine wpAny_Assign_Name (List_ (args_nil (wpAny_newList ?_)))
  refine wpAny_storeName_local rfl (F.ns.keeps (Up.push _)) fun h₂ hn₂ hs₂ => ?_
  have hrL : h₁.objs.size ≠ L := by
    obtain ⟨_, _, _, e, _⟩ := F.ns
    exact Nat.ne_of_gt (Heap.lt_size e)
  have hr₂ : h₂.PlainList h₁.objs.size #[] := ⟨0, (hs₂.2 _ hrL).trans (Heap.get?_push_size _ rfl)⟩
  have k₂ : UpX [L] s.heap h₂ := fun b o hb e => (hs₂.2 b (show b ≠ L by simpa using hb)).trans (Heap.get?_push_of_some _ (F.keep b o e))
  have u₂ : Up s.heap h₂ := fun b o e => k₂ b o (by simpa using ne_fresh hLs e) e
  have hrs : s.heap.get? h₁.objs.size = none := by
    cases q : s.heap.get? h₁.objs.size with
    | none => rfl
    | some o => exact absurd (Heap.lt_size (F.keep _ _ q)) (Nat.lt_irrefl _)
  generalize h₁.objs.size = r at hr₂ hrL hrs hn₂ ⊢
  refine wpAny_execs_cons ?_
  refine wpAny_For ?_
  refine ev_local rfl rfl hn₂ (v := .ref r0) rfl ?_
  have hl₂ : h₂.IsList r0 vs.toArray := hl.at fun o e => u₂ _ _ e
  refine wpAny_pyIter_list (s := { s with heap := h₂, toks := _ }) hl₂ ?_
  have hp₂ := hp.up u₂
  have hLl : ∃ o, h₂.get? L = some o := by obtain ⟨o, _, _, e, _⟩ := hn₂; exact ⟨o, e⟩
  have hr0I : r0 ≠ h₂.objs.size := by obtain ⟨_, e, _⟩ := hl₂; exact Nat.ne_of_lt (Heap.lt_size e)
  have hLI : L ≠ h₂.objs.size := by obtain ⟨_, e⟩ := hLl; exact Nat.ne_of_lt (Heap.lt_size e)
  have hr0L : r0 ≠ L := by obtain ⟨_, e, _⟩ := hl; exact ne_fresh hLs e
  have hrI : r ≠ h₂.objs.size := by obtain ⟨_, e⟩ := hr₂; exact Nat.ne_of_lt (Heap.lt_size e)
  have hIs0 : s.heap.get? h₂.objs.size = none := by
    cases q : s.heap.get? h₂.objs.size with
    | none => rfl
    | some o => exact absurd (Heap.lt_size (u₂ _ _ q)) (Nat.lt_irrefl _)
  have hst0 : (h₂.push { cls := .type "list_iterator", data := .fields #[.ref r0, .int 0 0] }).IsListIter h₂.objs.size r0 0 ∧ (h₂.push { cls := .type "list_iterator", data := .fields #[.ref r0, .int 0 0] }).IsList r0 vs.toArray :=
    ⟨⟨_, Heap.get?_push_size _ rfl, rfl, rfl⟩, hl₂.at fun o e => Heap.get?_push_of_some _ e⟩
  have hup4 : Up h₂ (h₂.push { cls := .type "list_iterator", data := .fields #[.ref r0, .int 0 0] }) := Up.push _
  show codeAny _ _ _ _ { s with heap := h₂.push _, toks := _ }
  generalize h₂.objs.size = I at hr0I hLI hrI hIs0 hst0 ⊢
  refine forLoop_gen (Walks.list hA I r0 hr0I vs.toArray)
    (fun i s' => s'.gens = s.gens ∧ s'.os = s.os ∧ UpX [L, I] s.heap s'.heap ∧ ∃ m r ws, m "found" = some (.ref r) ∧ s'.heap.Ns L m ∧ s'.heap.PlainList r ws.toArray ∧ IntsAre ws (spreadL (rs.take i)) ∧ r ≠ L ∧ r ≠ I ∧ s.heap.get? r = none) hst0
    ⟨rfl, rfl, (u₂.trans hup4).toX _, _, r, [], ?_, hn₂.keeps hup4, hr₂.at fun o e => hup4 _ _ e, .nil, hrL, hrI, hrs⟩ ?_ ?_ ?_
  · rfl
  · rintro i s₁ s₂ ⟨a1, a2, a3, m, r, ws, a4, a5, a6, a7, a8, a9, a10⟩ k b1 b2
    exact ⟨b1.trans a1, b2.trans a2, a3.trans (k.mono fun b hb => .tail _ hb), m, r, ws, a4, a5.at' fun o e => k _ _ (by simpa using hLI) e, a6.at fun o e => k _ _ (by simpa using a9) e, a7, a8, a9, a10⟩
  · rintro i v₁ s₁ E' hi hP hst ⟨a1, a2, a3, m, r, ws, a4, a5, a6, a7, a8, a9, a10⟩
    obtain ⟨t, x, y, tx, ty, rfl, hxy, ht, _⟩ := hp.get (i := i) (v := v₁) (by simpa using hP)
    have hmem : (x, y) ∈ rs := List.mem_of_getElem? hxy
    have hbd := hb _ hmem
    have htL : t ∉ [L, I] := by
      obtain ⟨_, e, _⟩ := ht
      simp only [List.mem_cons, List.not_mem_nil, or_false, not_or]
      exact ⟨ne_fresh hLs e, ne_fresh hIs0 e⟩
    have ht₁ : IsTup s₁.heap t #[.int x tx, .int y ty] := IsTup.up' ht fun o e => a3 _ _ htL e
    refine letGo_listiter hst.1 ?_
    refine assign_Tuple_tuple hA ht₁ (by rfl) (by rfl) fun h₅ hs₅ => ?_
    have u₅ : Up s₁.heap h₅ := fun b o e => hs₅ b o (Nat.ne_of_lt (Heap.lt_size e)) e
    refine assignInOrder_cons ?_
    refine wpAny_assign_Name (wpAny_storeName_local rfl (a5.keeps u₅) fun h₆ hn₆ hs₆ => ?_)
    refine assignInOrder_cons ?_
    refine wpAny_assign_Name (wpAny_storeName_local rfl hn₆ fun h₇ hn₇ hs₇ => ?_)
    refine assignInOrder_nil ?_
    have k₇ : UpX [L] s₁.heap h₇ := ((u₅.toX [L]).trans (UpX.same hs₆)).trans (UpX.same hs₇)
    have hr₇ : h₇.PlainList r ws.toArray := a6.at fun o e => k₇ _ _ (by simpa using a8) e
    have T₇ : MyTop mg mb h₇ := T.keeps fun b o e => k₇ b o (by simpa using ne_fresh hLs e) (a3 b o (by
      simp only [List.mem_cons, List.not_mem_nil, or_false, not_or]
      exact ⟨ne_fresh hLs e, ne_fresh hIs0 e⟩) e)
    have mf : (fun z => if z = Str.ofString "many" then some (Value.int y ty) else if z = Str.ofString "begun" then some (Value.int x tx) else m z) "found" = some (.ref r) := (if_neg (by decide)).trans ((if_neg (by decide)).trans a4)
    have mx : (fun z => if z = Str.ofString "many" then some (Value.int y ty) else if z = Str.ofString "begun" then some (Value.int x tx) else m z) "begun" = some (.int x tx) := (if_neg (by decide)).trans (if_pos rfl)
    have my : (fun z => if z = Str.ofString "many" then some (Value.int y ty) else if z = Str.ofString "begun" then some (Value.int x tx) else m z) "many" = some (.int y ty) := if_pos rfl
    refine wpAny_execs_cons (wpAny_Assign_Name (wpAny_BinOp ?_))
    refine ev_local rfl rfl hn₇ mf ?_
    refine Call_ ?_
    refine ev_builtin (s := { s₁ with heap := h₇, toks := _ }) T₇ rfl rfl rfl rfl (by decide) PyProof.Rows.boot_list ?_
    refine callWith_type1 (args_cons ?_)
    refine Call_ ?_
    refine ev_builtin (s := { s₁ with heap := h₇, toks := _ }) T₇ rfl rfl rfl rfl (by decide) PyProof.Rows.boot_range ?_
    refine callWith_type1 (args_cons ?_) rfl (plain_one rfl)
    refine ev_local rfl rfl hn₇ mx ?_
    refine args_cons (wpAny_BinOp ?_)
    refine ev_local rfl rfl hn₇ mx ?_
    refine ev_local rfl rfl hn₇ my ?_
    refine wpAny_add_int (args_nil (call_range_2 (args_nil ?_)))
    refine call_list_range hA (IsRange.new _ _ _ _ _ _ _) (small_one (by omega) (by omega) (by omega) (by omega)) (rangeSize_nat _ _) (by omega) fun h₈ tk₈ acc c₈ hk₈ hD₈ hit₈ => ?_
    have u₈ : Up h₇ h₈ := (Up.push _).trans hk₈
    have hI₈ : IntsAre acc.toList (rangeL x y) := by
      have hsz : acc.toList.length = (rangeL x y).length := by rw [rangeL_len, Array.length_toList, hit₈.1]; congr 1; omega
      refine ints_of_items hsz fun j v hv => ?_
      have hj : j < y.toNat := by
        rw [← rangeL_len x y, ← hsz]
        exact (List.getElem?_eq_some_iff.mp hv).1
      obtain ⟨t9, rfl⟩ := hit₈.2 j v (by simpa using hv)
      exact ⟨t9, by rw [rangeL_getD x y hj, Int.mul_one]⟩
    obtain ⟨n₇, e₇⟩ := hr₇
    have hsp : spreadL (rs.take (i + 1)) = spreadL (rs.take i) ++ rangeL x y := by
      have hs : rs.take (i + 1) = rs.take i ++ [(x, y)] := by rw [List.take_add_one, hxy]; rfl
      rw [hs]; simp [spreadL]
    have hlw : ws.length ≤ 64 * 1000 := by
      rw [a7.length]
      refine Nat.le_trans (spreadL_len (rs.take i) 1000 fun p hp => by have := hb p (List.mem_of_mem_take hp); omega) ?_
      have : (rs.take i).length ≤ 64 := by rw [List.length_take]; omega
      exact Nat.mul_le_mul_right _ this
    have hla : acc.size ≤ 1000 := by rw [hit₈.1]; omega
    refine P.add_list (s := { s₁ with heap := h₈, toks := _ }) (u₈ _ _ e₇) hD₈ ?_ (by rw [sizeLine_eq]; simp only [List.size_toArray]; omega)
    refine wpAny_storeName_local rfl ((hn₇.keeps u₈).keeps (Up.push _)) fun h₉ hn₉ hs₉ => ?_
    refine wpAny_execs_nil ?_
    have k₉ : UpX [L] s₁.heap h₉ := (k₇.trans ((u₈.trans (Up.push _)).toX [L])).trans (UpX.same hs₉)
    have hr9L : h₈.objs.size ≠ L := by
      obtain ⟨_, _, _, e, _⟩ := hn₇
      exact Nat.ne_of_gt (Heap.lt_size (u₈ _ _ e))
    have hr9I : h₈.objs.size ≠ I := by
      obtain ⟨_, e, _⟩ := hst.1
      exact Nat.ne_of_gt (Heap.lt_size (u₈ _ _ (k₇ _ _ (by simpa using hLI.symm) e)))
    have k₉' : UpX [L, I] s.heap h₉ := a3.trans (k₉.mono fun b hb => List.mem_append_left [I] hb)
    refine ⟨rfl, ⟨hst.1.at fun o e => k₉ _ _ (by simpa using hLI.symm) e, hst.2.at fun o e => k₉ _ _ (by simpa using hr0L) e⟩, a1, a2, k₉', _, h₈.objs.size, ws ++ acc.toList, if_pos rfl, hn₉, ?_, ?_, hr9L, hr9I, ?_⟩
    · exact ⟨0, (hs₉.2 _ hr9L).trans (by rw [show (ws ++ acc.toList).toArray = ws.toArray ++ acc by simp]; exact Heap.get?_push_size _ rfl)⟩
    · rw [hsp]; exact a7.append hI₈
    · cases q : s.heap.get? h₈.objs.size with
      | none => rfl
      | some o =>
        have q7 := k₇ _ _ (by simpa using hr9L) (a3 _ _ (by simp only [List.mem_cons, List.not_mem_nil, or_false, not_or]; exact ⟨hr9L, hr9I⟩) q)
        exact absurd (Heap.lt_size (u₈ _ _ q7)) (Nat.lt_irrefl _)
  · rintro s' ⟨a1, a2, a3, m, r, ws, a4, a5, a6, a7, a8, a9, a10⟩
    refine wpAny_execs_cons (wpAny_Return_some ?_)
    refine ev_local rfl rfl a5 a4 ?_
    have hfull : rs.take vs.toArray.size = rs := by simp [hp.length]
    rw [hfull] at a7
    refine h s' r ws ⟨fun b o e => a3 b o ?_ e, a1, a2⟩ a10 a6 a7
    simp only [List.mem_cons, List.not_mem_nil, or_false, not_or]
    exact ⟨ne_fresh hLs e, ne_fresh hIs0 e⟩
end
end Mine

/-! MSetF -/
namespace Mine
theorem slot_setiter_next : Slot "set_iterator" "__next__" "set_iterator.__next__" :=
  .of (owner := "set_iterator") (n := "__next__") (by rw [typeLookup_type, builtinLookup_eq_fast]; kernel_rfl) (by decide +kernel) (by decide +kernel) (by decide +kernel)
    (by first | exact .inl (by decide +kernel) | exact .inr (by decide +kernel)) (by rw [isSubtype_type]; kernel_rfl)
theorem entry_setiter_next : entryFor table "set_iterator.__next__" = some Builtin.«set_iterator.__next__» := entryFor_of_tree (by kernel_rfl)
theorem entry_set_iter : entryFor table "set.__iter__" = some Builtin.«frozenset.__iter__» :=
  entryFor_alias (id' := "frozenset.__iter__") (by kernel_rfl) rfl (by decide +kernel) (by kernel_rfl)
theorem args_setiter_next (a : Value) : argsOk "set_iterator.__next__" ⟨[a], []⟩ := by
  unfold argsOk; kernel_rfl
theorem slot_setiter_iter : Slot "set_iterator" "__iter__" "set_iterator.__iter__" :=
  .of (owner := "set_iterator") (n := "__iter__") (by rw [typeLookup_type, builtinLookup_eq_fast]; kernel_rfl) (by decide +kernel) (by decide +kernel) (by decide +kernel)
    (by first | exact .inl (by decide +kernel) | exact .inr (by decide +kernel)) (by rw [isSubtype_type]; kernel_rfl)
theorem entry_setiter_iter : entryFor table "set_iterator.__iter__" = some Builtin.«dict_keyiterator.__iter__» :=
  entryFor_alias (id' := "dict_keyiterator.__iter__") (by kernel_rfl) rfl (by decide +kernel) (by kernel_rfl)
theorem args_setiter_iter (a : Value) : argsOk "set_iterator.__iter__" ⟨[a], []⟩ := by
  unfold argsOk; kernel_rfl
end Mine

/-! MTab -/
namespace Mine
/-! tables of places -/
def Rising (xs : Array Nat) : Prop := xs.toList.Pairwise (· < ·)
theorem Rising.lt {xs : Array Nat} (h : Rising xs) {i j : Nat} (hij : i < j) (hj : j < xs.size) : xs.getD i 0 < xs.getD j 0 := by
  have hi : i < xs.size := Nat.lt_trans hij hj
  have := List.pairwise_iff_getElem.mp h i j (by simpa using hi) (by simpa using hj) hij
  simpa [Array.getD, hi, hj] using this
theorem getD_same {xs : Array Nat} {i a b : Nat} (h : i < xs.size) : xs.getD i a = xs.getD i b := by simp [Array.getD, h]
theorem below_go {xs : Array Nat} {j p : Nat} (hp : p ≤ xs.size) (hlo : ∀ i, i < p → xs.getD i 0 < j) (hhi : ∀ i, p ≤ i → i < xs.size → j ≤ xs.getD i 0) :
    ∀ fuel lo hi, lo ≤ p → p ≤ hi → hi ≤ xs.size → hi - lo ≤ fuel → SetTable.below.go xs j fuel lo hi = p := by
  intro fuel
  induction fuel with
  | zero => intro lo hi h1 h2 h3 h4; unfold SetTable.below.go; omega
  | succ fuel ih =>
    intro lo hi h1 h2 h3 h4
    unfold SetTable.below.go
    split
    · rename_i hlt
      dsimp only
      have hm : (lo + hi) / 2 < hi := by omega
      rw [getD_same (a := j) (b := 0) (show (lo + hi) / 2 < xs.size by omega)]
      split
      · rename_i hc
        refine ih _ _ ?_ h2 h3 (by omega)
        rcases Nat.lt_or_ge ((lo + hi) / 2) p with h5 | h5
        · omega
        · have := hhi _ h5 (by omega); omega
      · rename_i hc
        refine ih _ _ h1 ?_ (by omega) (by omega)
        rcases Nat.lt_or_ge ((lo + hi) / 2) p with h5 | h5
        · have := hlo _ h5; omega
        · exact h5
    · omega
theorem below_eq {xs : Array Nat} {j p : Nat} (hp : p ≤ xs.size) (hlo : ∀ i, i < p → xs.getD i 0 < j) (hhi : ∀ i, p ≤ i → i < xs.size → j ≤ xs.getD i 0) : SetTable.below xs j = p :=
  below_go hp hlo hhi _ _ _ (Nat.zero_le _) hp (Nat.le_refl _) (by omega)
theorem below_zero (xs : Array Nat) : SetTable.below xs 0 = 0 :=
  below_eq (Nat.zero_le _) (fun i hi => absurd hi (Nat.not_lt_zero _)) fun _ _ _ => Nat.zero_le _
theorem below_next {xs : Array Nat} (h : Rising xs) {i : Nat} (hi : i < xs.size) : SetTable.below xs (xs.getD i 0 + 1) = i + 1 := by
  refine below_eq hi (fun k hk => ?_) fun k hk hks => ?_
  · rcases Nat.lt_or_ge k i with h5 | h5
    · have := h.lt h5 hi; omega
    · have : k = i := by omega
      subst this; omega
  · have := h.lt (show i < k by omega) hks; omega
/-- there is a place for every number -/
theorem below_split {xs : Array Nat} (h : Rising xs) (j : Nat) : ∃ p, p ≤ xs.size ∧ (∀ i, i < p → xs.getD i 0 < j) ∧ (∀ i, p ≤ i → i < xs.size → j ≤ xs.getD i 0) := by
  obtain ⟨l⟩ := xs
  have key : ∀ l : List Nat, l.Pairwise (· < ·) → ∃ p, p ≤ l.length ∧ (∀ i, i < p → l.getD i 0 < j) ∧ (∀ i, p ≤ i → i < l.length → j ≤ l.getD i 0) := by
    intro l
    induction l with
    | nil => exact fun _ => ⟨0, Nat.le_refl _, fun i hi => absurd hi (Nat.not_lt_zero _), fun i _ hi => absurd hi (Nat.not_lt_zero _)⟩
    | cons x r ih =>
      intro hp
      obtain ⟨hx, hr⟩ := List.pairwise_cons.mp hp
      by_cases hxj : x < j
      · obtain ⟨p, h1, h2, h3⟩ := ih hr
        refine ⟨p + 1, Nat.succ_le_succ h1, fun i hi => ?_, fun i hi his => ?_⟩
        · cases i with
          | zero => simpa using hxj
          | succ i => simpa using h2 i (by omega)
        · cases i with
          | zero => omega
          | succ i => simpa using h3 i (by omega) (by simpa using his)
      · refine ⟨0, Nat.zero_le _, fun i hi => absurd hi (Nat.not_lt_zero _), fun i _ his => ?_⟩
        cases i with
        | zero => simpa using Nat.not_lt.mp hxj
        | succ i =>
          have hi' : i < r.length := by simpa using his
          have h5 := hx r[i] (List.getElem_mem hi')
          have h6 : (x :: r).getD (i + 1) 0 = r[i] := by simp [hi']
          rw [h6]; omega
  obtain ⟨p, h1, h2, h3⟩ := key l h
  refine ⟨p, by simpa using h1, fun i hi => ?_, fun i hi his => ?_⟩
  · have := h2 i hi
    have hl : i < l.length := by omega
    simpa [Array.getD, hl] using this
  · have hl : i < l.length := by simpa using his
    have := h3 i hi hl
    simpa [Array.getD, hl] using this

theorem rising_insert {xs : Array Nat} (h : Rising xs) {j : Nat} (hj : ∀ i, i < xs.size → xs.getD i 0 ≠ j) : Rising (SetTable.insertAt xs (SetTable.below xs j) j) := by
  obtain ⟨p, h1, h2, h3⟩ := below_split h j
  rw [below_eq h1 h2 h3]
  unfold Rising
  rw [SetTable.toList_insertAt]
  unfold Rising at h
  have hsplit : xs.toList = xs.toList.take p ++ xs.toList.drop p := (List.take_append_drop p _).symm
  rw [hsplit] at h
  obtain ⟨ha, hb, hab⟩ := List.pairwise_append.mp h
  have lo : ∀ a ∈ xs.toList.take p, a < j := by
    intro a ha'
    obtain ⟨i, hi, rfl⟩ := List.mem_iff_getElem.mp ha'
    have hip : i < p := by have := hi; rw [List.length_take] at this; omega
    have his : i < xs.size := by have := hi; rw [List.length_take] at this; simp at this; omega
    have := h2 i hip
    simpa [Array.getD, his] using this
  have hi : ∀ a ∈ xs.toList.drop p, j < a := by
    intro a ha'
    obtain ⟨i, hi, rfl⟩ := List.mem_iff_getElem.mp ha'
    have his : p + i < xs.size := by have := hi; rw [List.length_drop] at this; simp at this; omega
    have h5 := h3 (p + i) (by omega) his
    have h6 := hj (p + i) his
    have h7 : xs.getD (p + i) 0 = (xs.toList.drop p)[i] := by simp [Array.getD, his]
    rw [← h7]; omega
  refine List.pairwise_append.mpr ⟨ha, List.pairwise_cons.mpr ⟨hi, hb⟩, fun a ha' b hb' => ?_⟩
  rcases List.mem_cons.mp hb' with rfl | hb'
  · exact lo a ha'
  · exact hab a ha' b hb'
end Mine

/-! MTab2 -/
namespace Mine
structure TabOk (led : Bool) (t : SetTable) : Prop where
  rising : Rising t.place
  clean : t.dummies = #[]
  led : t.led = led
theorem rising_range (n : Nat) : Rising (Array.range n) := by
  unfold Rising
  rw [Array.toList_range]
  exact List.pairwise_lt_range
theorem TabOk.standIn {b : Bool} {t : SetTable} (h : TabOk b t) (n : Nat) : TabOk b (t.standIn n) := ⟨rising_range n, rfl, h.led⟩
theorem TabOk.orStandIn {b : Bool} {t : SetTable} (h : TabOk b t) (n : Nat) : TabOk b (t.orStandIn n) := by
  unfold SetTable.orStandIn
  split
  · exact h
  · exact h.standIn n
theorem TabOk.fresh (f m : Nat) (b : Bool) : TabOk b (.fresh f m b) := ⟨.nil, rfl, rfl⟩
theorem TabOk.plainOff {b : Bool} {t : SetTable} (h : TabOk b t) : TabOk b { t with plain := false } := ⟨h.rising, h.clean, h.led⟩

theorem slot_clean {t : SetTable} (hd : t.dummies = #[]) (j : Nat) : t.slot j ≠ .dummy := by
  unfold SetTable.slot
  rw [hd]
  dsimp only
  split
  · simp
  · simp [SetTable.has]
theorem probe_go {t : SetTable} {hashAt : Nat → Int} {h : Int} (hd : t.dummies = #[]) : ∀ fuel (p : SetTable.Probe) (j : Nat) (d : Option Nat), p.dummy = none → SetTable.probe.go t hashAt h fuel p = some (.empty j d) → t.slot j = .empty ∧ d = none := by
  intro fuel
  induction fuel with
  | zero => intro p j d hp e; simp [SetTable.probe.go] at e
  | succ fuel ih =>
    intro p j d hp e
    unfold SetTable.probe.go at e
    cases hs : t.slot p.j with
    | empty =>
      rw [hs] at e
      simp only [Option.some.injEq, SetTable.Met.empty.injEq] at e
      obtain ⟨rfl, rfl⟩ := e
      exact ⟨hs, hp⟩
    | dummy => exact absurd hs (slot_clean hd _)
    | live i =>
      rw [hs] at e
      dsimp only at e
      split at e
      · simp at e
      · refine ih _ _ _ ?_ e
        unfold SetTable.advance
        split
        · exact hp
        · exact hp
theorem freeSlot_clean {t : SetTable} {h : Int} (hd : t.dummies = #[]) {j : Nat} {b : Bool} (e : t.freeSlot h = some (j, b)) : t.slot j = .empty ∧ b = false := by
  unfold SetTable.freeSlot at e
  split at e
  · rename_i j' d hp
    obtain ⟨h1, rfl⟩ := probe_go hd _ _ _ _ rfl hp
    simp only [Option.getD_none, Option.isSome_none, Option.some.injEq, Prod.mk.injEq] at e
    obtain ⟨rfl, rfl⟩ := e
    exact ⟨h1, rfl⟩
  · cases e
theorem not_there {t : SetTable} (hr : Rising t.place) {j : Nat} (e : t.slot j = .empty) : ∀ i, i < t.place.size → t.place.getD i 0 ≠ j := by
  intro i hi hij
  have hb : SetTable.below t.place j = i := by
    refine below_eq (Nat.le_of_lt hi) (fun k hk => ?_) fun k hk hks => ?_
    · have := hr.lt hk hi; omega
    · rcases Nat.lt_or_ge i k with h5 | h5
      · have := hr.lt h5 hks; omega
      · have : k = i := by omega
        subst this; omega
  unfold SetTable.slot at e
  rw [hb] at e
  have : t.place[i]? = some j := by
    rw [Array.getElem?_eq_getElem hi]
    have : t.place.getD i 0 = t.place[i] := by simp [Array.getD, hi]
    rw [← this, hij]
  simp [this] at e
theorem TabOk.put {b : Bool} {t : SetTable} (h : TabOk b t) {j : Nat} (e : t.slot j = .empty) : TabOk b (t.put j).1 := by
  refine ⟨rising_insert h.rising (not_there h.rising e), ?_, h.led⟩
  show (if SetTable.has t.dummies j then _ else t.dummies) = #[]
  rw [h.clean]
  simp [SetTable.has]
theorem TabOk.layNew {b : Bool} {t : SetTable} (h : TabOk b t) (es : Array (Int × Value)) (k : Int) (x : Value) : TabOk b (layNew t es k x).2.1 ∧ ((layNew t es k x).2.2.1 = false) := by
  unfold PySem.layNew
  split
  · rename_i j d hf
    obtain ⟨h1, rfl⟩ := freeSlot_clean h.clean hf
    exact ⟨(h.put h1).orStandIn _, rfl⟩
  · exact ⟨h.standIn _, rfl⟩
theorem rising_filterMap {α : Type} (f : Nat → Option α) (g : Nat × α → Nat) (hg : ∀ j a, g (j, a) = j) (n : Nat) : Rising (((List.range n).filterMap fun j => (f j).map (j, ·)).map g).toArray := by
  unfold Rising
  have key : ∀ l : List Nat, l.Pairwise (· < ·) → ((l.filterMap fun j => (f j).map (j, ·)).map g).Pairwise (· < ·) ∧ ∀ x ∈ ((l.filterMap fun j => (f j).map (j, ·)).map g), x ∈ l := by
    intro l
    induction l with
    | nil => exact fun _ => ⟨.nil, fun x hx => by simp at hx⟩
    | cons a r ih =>
      intro hp
      obtain ⟨h1, h2⟩ := List.pairwise_cons.mp hp
      obtain ⟨h3, h4⟩ := ih h2
      cases hf : f a with
      | none =>
        have e : ((a :: r).filterMap fun j => (f j).map (j, ·)) = r.filterMap fun j => (f j).map (j, ·) := by simp [List.filterMap_cons, hf]
        rw [e]
        exact ⟨h3, fun x hx => .tail _ (h4 x hx)⟩
      | some y =>
        have e : ((a :: r).filterMap fun j => (f j).map (j, ·)) = (a, y) :: r.filterMap fun j => (f j).map (j, ·) := by simp [List.filterMap_cons, hf]
        rw [e, List.map_cons, hg]
        refine ⟨List.pairwise_cons.mpr ⟨fun x hx => h1 x (h4 x hx), h3⟩, fun x hx => ?_⟩
        rcases List.mem_cons.mp hx with rfl | hx
        · exact .head _
        · exact .tail _ (h4 x hx)
  simpa using (key _ List.pairwise_lt_range).1
theorem laid_ok {mask finger moves : Nat} {led plain : Bool} {hs : Array Int} {t : SetTable} {order : Array Nat} (e : SetTable.laid mask finger moves led plain hs = some (t, order)) : TabOk led t := by
  unfold SetTable.laid at e
  cases hl : SetTable.layClean mask hs with
  | none => rw [hl] at e; cases e
  | some owner =>
    rw [hl] at e
    have e' := Option.some.inj e
    have e2 := congrArg Prod.fst e'
    dsimp only at e2
    rw [← e2]
    exact ⟨rising_filterMap (fun j => owner.getD j none) (·.1) (fun _ _ => rfl) _, rfl, rfl⟩
theorem TabOk.relayAll {b : Bool} {t : SetTable} (h : TabOk b t) (es : Array (Int × Value)) (n : Nat) : TabOk b (relayAll t es n).2.1 := by
  unfold PySem.relayAll
  split
  · rename_i t' order hr
    have := laid_ok hr
    dsimp only
    split
    · exact ⟨this.rising, this.clean, this.led.trans h.led⟩
    · exact h.standIn _
  · exact h.standIn _
end Mine

/-! MSetAdd -/
namespace Mine
def byText (w : World) : Bool := w.params.followText "set-order"
def keyOf (e : Int × Value) : Int := match e.2 with | .int k _ => k | _ => 0
theorem keyOf_is {k : Int} {e : Int × Value} (h : Value.isInt k e.2 = true) : keyOf e = k := by
  obtain ⟨hh, v⟩ := e
  obtain ⟨t, rfl⟩ := Value.isInt_shape h
  rfl
/-- a set of ints, its table as it was led -/
def SetAt (prog : Program) (w : World) (h : Heap) (a : Addr) (ks : List Int) : Prop :=
  ∃ o es ep t, h.get? a = some o ∧ o.ExactSet ∧ o.data = .set es ep t ∧ ElemsOf (intKind prog w) es.toList ∧ (es.toList.map keyOf).Perm ks ∧ es.size < scanBound ∧ t.fits es.size = true ∧ TabOk (!byText w) t
theorem SetAt.up {prog : Program} {w : World} {h h' : Heap} {a : Addr} {ks : List Int} (S : SetAt prog w h a ks) (k : ∀ o, h.get? a = some o → h'.get? a = some o) : SetAt prog w h' a ks :=
  let ⟨o, es, ep, t, e, r⟩ := S; ⟨o, es, ep, t, k _ e, r⟩
theorem SetAt.typeIs {prog : Program} {w : World} {s : Shared} {a : Addr} {ks : List Int} (S : SetAt prog w s.heap a ks) : s.TypeIs (.ref a) "set" :=
  let ⟨o, _, _, _, e, hx, _⟩ := S; ⟨o, e, hx.1⟩
def addKey (ks : List Int) (k : Int) : List Int := if k ∈ ks then ks else ks ++ [k]

section
variable {prog : Program} {w : World} {A : Around} {E : Value → Shared → Prop} {s : Shared}
theorem find_none {es : List (Int × Value)} {k : Int} (hel : ElemsOf (intKind prog w) es) (h : es.findIdx? (fun e => (intKind prog w).is k e.2) = none) : k ∉ es.map keyOf := by
  intro hk
  obtain ⟨e, he, rfl⟩ := List.mem_map.mp hk
  obtain ⟨⟨k', hk', _⟩, _⟩ := hel e he
  have h1 := List.findIdx?_eq_none_iff.mp h e he
  rw [keyOf_is hk', hk'] at h1
  cases h1
theorem find_some {es : List (Int × Value)} {k : Int} {j : Nat} (h : es.findIdx? (fun e => (intKind prog w).is k e.2) = some j) : k ∈ es.map keyOf := by
  obtain ⟨hj, hp, _⟩ := List.findIdx?_eq_some_iff_getElem.mp h
  exact List.mem_map.mpr ⟨es[j], List.getElem_mem hj, keyOf_is hp⟩
/-- an element stored anew: the set behind it -/
theorem set_stored {h : Heap} {a : Addr} {o : Obj} {es es' : Array (Int × Value)} {ep : Nat} {t t' : SetTable} {ks : List Int} (ho : h.get? a = some o) (hx : o.ExactSet) (hd : o.data = .set es ep t)
    (hel : ElemsOf (intKind prog w) es'.toList) (hp : (es'.toList.map keyOf).Perm ks) (hb : es'.size < scanBound) (hf : t'.fits es'.size = true) (ht : TabOk (!byText w) t') :
    SetAt prog w (h.update a (Obj.putSet es' t')) a ks ∧ (h.update a (Obj.putSet es' t')).get? a = some { o with data := .set es' (ep + 1) t' } := by
  have q := (SetOf_store (knd := intKind prog w) (S' := fun k => decide (∃ e ∈ es'.toList, (intKind prog w).is k e.2 = true)) ho hx hd hel (fun k => decide_eq_true_iff) hb hf).1
  exact ⟨⟨_, es', ep + 1, t', q, hx, rfl, hel, hp, hb, hf, ht⟩, q⟩
theorem set_add {a : Addr} {ks : List Int} {k : Int} {tok : Tok} {Q : Bool → Shared → Prop} (hS : SetAt prog w s.heap a ks) (hroom : ks.length + 1 < scanBound)
    (h : ∀ h' b, Heap.SameBut a s.heap h' → SetAt prog w h' a (addKey ks k) → Q b { s with heap := h' }) :
    wpAny (model prog w) A (setAddHashed a (.int k tok) (hashInt k)) Q E s := by
  obtain ⟨o, es, ep, t, ho, hex, hd, hel, hperm, hb, hf, ht⟩ := hS
  have hlen : es.size = ks.length := by rw [← Array.length_toList, ← List.length_map (f := keyOf), hperm.length_eq]
  have hkey : (intKind prog w).is k (.int k tok) = true := intKind_is _ _ _ _
  unfold setAddHashed setAddHashedIn
  refine wpAny_holding (wpAny_bind (wpAny_setState_of ho hd hf ?_))
  dsimp only
  rw [byScan_of (knd := intKind prog w) rfl hb hel, if_pos rfl]
  unfold setAddByScan
  refine wpAny_bind (wpAny_bind (wpAny_rule (wpAny_bind ?_)))
  refine wpAny_setScan_of (knd := intKind prog w) hkey ho hd hf hel ?_
  cases hr : List.findIdx? (fun e => (intKind prog w).is k e.2) es.toList with
  | some j =>
    have hk : k ∈ ks := hperm.mem_iff.mp (find_some hr)
    refine wpAny_pure (wpAny_pure ?_)
    have := h s.heap false (Heap.SameBut.refl a s.heap) ⟨o, es, ep, t, ho, hex, hd, hel, by unfold addKey; rw [if_pos hk]; exact hperm, hb, hf, ht⟩
    exact this
  | none =>
    have hk : k ∉ ks := fun q => find_none hel hr (hperm.mem_iff.mpr q)
    dsimp only
    have q1 := layNew_perm t es (hashInt k) (.int k tok)
    have q2 := layNew_fits t es (hashInt k) (.int k tok)
    have q3 := ht.layNew es (hashInt k) (.int k tok)
    show wpAny _ _ (match layNew t es (hashInt k) (.int k tok) with | (es, t, wasDummy, gave) => _) _ _ _
    generalize layNew t es (hashInt k) (.int k tok) = L at q1 q2 q3 ⊢
    obtain ⟨es1, t1, wd, gave⟩ := L
    dsimp only at q1 q2 q3 ⊢
    obtain ⟨q3, rfl⟩ := q3
    rw [Array.toList_push] at q1
    have e1 : ElemsOf (intKind prog w) es1.toList := (hel.push (knd := intKind prog w) hkey rfl).perm q1
    have e2 : (es1.toList.map keyOf).Perm (addKey ks k) := by
      unfold addKey
      rw [if_neg hk]
      refine (q1.map keyOf).trans ?_
      rw [List.map_append]
      exact hperm.append (.refl _)
    have e3 : es1.size < scanBound := by
      rw [← Array.length_toList, q1.length_eq, List.length_append, Array.length_toList, hlen]; exact hroom
    -- what is left: the store, and a new table where this one is too full
    have tail : ∀ (g : Bool → Sem Unit) (_ : ∀ (b : Bool) (s₁ : Shared) (Q' : Unit → Shared → Prop), Q' () s₁ → wpAny (model prog w) A (g b) Q' E s₁),
        wpAny (model prog w) A (storeSet a es1 t1 >>= fun _ => if (!false && t1.tooFull) = true then (g (relayAll t1 es1 (SetTable.grown es1.size)).2.2 >>= fun _ =>
          storeSet a (relayAll t1 es1 (SetTable.grown es1.size)).1 (relayAll t1 es1 (SetTable.grown es1.size)).2.1 >>= fun _ => pure (some true)) else pure (some true))
          (fun r s' => ∃ b h', r = some b ∧ s' = { s with heap := h' } ∧ Heap.SameBut a s.heap h' ∧ SetAt prog w h' a (addKey ks k)) E s := by
      intro g hg
      refine wpAny_bind (wpAny_storeSet_of ho hd ?_ (fits_of_scanBound e3))
      obtain ⟨S1, o1⟩ := set_stored (w := w) ho hex hd e1 e2 e3 q2 q3
      have b1 := Heap.SameBut.update s.heap a (Obj.putSet es1 t1)
      split
      · have r1 := relayAll_perm t1 es1 (SetTable.grown es1.size)
        have r2 := relayAll_fits t1 es1 (SetTable.grown es1.size)
        have r3 := q3.relayAll es1 (SetTable.grown es1.size)
        generalize relayAll t1 es1 (SetTable.grown es1.size) = Rl at r1 r2 r3 ⊢
        have r4 : Rl.1.size < scanBound := by rw [← Array.length_toList, r1.length_eq, Array.length_toList]; exact e3
        refine wpAny_bind (hg _ _ _ ?_)
        refine wpAny_bind (wpAny_storeSet_of o1 rfl ?_ (fits_of_scanBound r4))
        obtain ⟨S2, _⟩ := set_stored (w := w) o1 hex rfl (e1.perm r1) ((r1.map keyOf).trans e2) r4 r2 r3
        exact wpAny_pure ⟨true, _, rfl, rfl, b1.trans (Heap.SameBut.update _ a _), S2⟩
      · exact wpAny_pure ⟨true, _, rfl, rfl, b1, S1⟩
    have hv : hashByValue 8 (.int k tok) = pure true := rfl
    refine wpAny_bind ?_
    have hg : ∀ (b : Bool) (s₁ : Shared) (Q' : Unit → Shared → Prop), Q' () s₁ → wpAny (model prog w) A (match b with | true => rule "set.scan.the-table-gave-way" | false => pure ()) Q' E s₁ :=
      fun b s₁ Q' hq => by cases b <;> first | exact wpAny_pure hq | exact wpAny_rule hq
    have fin := wpAny_mono (tail _ hg) (Q' := fun r s' => wpAny (model prog w) A (match r with | some b => pure b | none => setAddHashedIn a (.int k tok) (hashInt k) 99999) Q E s') (fun r s' hr => by
      obtain ⟨b, h', rfl, rfl, b1, S1⟩ := hr
      exact wpAny_pure (h h' b b1 S1)) (fun _ _ e => e)
    refine (show wpAny (model prog w) A (match gave with | true => rule "set.scan.the-table-gave-way" | false => pure ()) _ _ _ from hg _ _ _ ?_)
    split
    · exact wpAny_bind (wpAny_of_eq hv fin)
    · exact wpAny_bind (wpAny_pure fin)
end
end Mine

/-! MSetNew -/
namespace Mine
abbrev newSetObj (b : Bool) : Obj := { cls := .type "set", dict := none, data := .set #[] 0 (.fresh 0 0 b) }
section
variable {prog : Program} {w : World} {A : Around} {E : Value → Shared → Prop} {s : Shared}
/-- set.__new__: the table is led unless the world says the order by text -/
theorem set_new (v : Value) {Q₁ : Value → Shared → Prop} (h : Q₁ (.ref s.heap.objs.size) { s with heap := s.heap.push (newSetObj (!byText w)) }) :
    codeAny (model prog w) A (.call (.builtin "set.__new__") ⟨[.type "set", v], []⟩) (wants Q₁ E) s := by
  refine codeAny_call_builtin F.plain_set_new F.entry_set_new (wpAny_of_eq (F.newCall_set_1 v) ?_)
  unfold Builtin.«set.__new__» Builtin.Frozenset.newClass
  have hsub := sub_set_self
  obtain ⟨hp, g, d, tk, os⟩ := s
  dsimp only
  wp_walk
  refine wpAny_askSetting (wpAny_pure ?_)
  dsimp only
  simp only [newObj]
  refine wpAny_bind (wpAny_alloc (wpAny_pure ?_))
  exact wpAny_pure h

/-- a call of set with one argument, its __init__ left open -/
theorem set_called {v : Value} {Q : Value → Shared → Prop}
    (h : wpAny (model prog w) A.in1.in1 (Builtin.«set.__init__» ⟨[.ref s.heap.objs.size, v], []⟩)
      (fun fin s' => match fin with | .done f => wants (fun r s₂ => r = .none ∧ Q (.ref s.heap.objs.size) s₂) E (.ok f) s' | .again c' => c'.quiet = true ∧ codeAny (model prog w) A.in1 c' (wants (fun r s₂ => r = .none ∧ Q (.ref s.heap.objs.size) s₂) E) s')
      (fun e s' => wants (fun r s₂ => r = .none ∧ Q (.ref s.heap.objs.size) s₂) E (.error e) s') { s with heap := s.heap.push (newSetObj (!byText w)) }) :
    wpAny (model prog w) A (call (.type "set") [v]) Q E s := by
  obtain ⟨c, tl, hmro⟩ := F.called_set.mro
  have hmade := F.called_set.made
  have hsub := F.called_set.sub
  have h1 := F.called_set.notType
  have h2 := F.called_set.canCreate
  have hct := F.typeCall_set_1 v
  refine wpAny_call (codeAny_of_tree ?_)
  show wpAny _ _ (callAny (.type "set") _) _ _ _
  refine wpAny_pure ⟨Code.quiet_builtin _ (by decide +kernel), codeAny_builtin F.entry_type_call ?_⟩
  rw [Around.under_plain (weight_type_call_type "set" [v] []) rfl]
  repeat (any_goals (first | assumption | wp_step))
  refine codeAny_mono (set_new (E := E) v (Q₁ := fun obj s₁ => obj = .ref s.heap.objs.size ∧ s₁ = { s with heap := s.heap.push (newSetObj (!byText w)) }) ⟨rfl, rfl⟩) fun r s₁ hr => ?_
  rcases r with e | fl
  · exact hr
  cases fl with
  | ret obj =>
    obtain ⟨rfl, rfl⟩ := hr
    have hT : Shared.TypeIs { s with heap := s.heap.push (newSetObj (!byText w)) } (.ref s.heap.objs.size) "set" := ⟨_, Heap.get?_push_size _ rfl, rfl⟩
    have hli := F.called_set.init.lookup
    have hbi := F.called_set.init.bind (.ref s.heap.objs.size)
    repeat (any_goals (first | assumption | wp_step))
    refine codeAny_mono (codeAny_call_builtin F.called_set.init.plain F.entry_set_init (check_set_init_1 hT h)) fun r₂ s₂ hr₂ => ?_
    rcases r₂ with e | fl₂
    · exact hr₂
    cases fl₂ with
    | ret r =>
      obtain ⟨rfl, hq⟩ := hr₂
      repeat (any_goals (first | assumption | wp_step))
    | _ => exact hr₂.elim
  | _ => exact hr.elim
end
end Mine

/-! MSetList -/
namespace Mine
def keysL (ns : List Int) : List Int := ns.foldl addKey []
theorem addKey_len (ks : List Int) (k : Int) : (addKey ks k).length ≤ ks.length + 1 := by unfold addKey; split <;> simp
theorem addKey_mem (ks : List Int) (k x : Int) : x ∈ addKey ks k ↔ x ∈ ks ∨ x = k := by
  unfold addKey
  split
  · rename_i h
    exact ⟨.inl, fun q => q.elim id fun e => e ▸ h⟩
  · simp
theorem addKey_nodup {ks : List Int} (h : ks.Nodup) (k : Int) : (addKey ks k).Nodup := by
  unfold addKey
  split
  · exact h
  · rename_i hk
    refine List.nodup_append.mpr ⟨h, by simp, fun a ha b hb => ?_⟩
    rw [List.mem_singleton.mp hb]
    exact fun e => hk (e ▸ ha)
theorem keys_fold : ∀ (ns ks : List Int), ks.Nodup → (ns.foldl addKey ks).Nodup ∧ (∀ x, x ∈ ns.foldl addKey ks ↔ x ∈ ks ∨ x ∈ ns) ∧ (ns.foldl addKey ks).length ≤ ks.length + ns.length
  | [], ks, h => ⟨h, fun x => by simp, by simp⟩
  | n :: r, ks, h => by
    obtain ⟨h1, h2, h3⟩ := keys_fold r (addKey ks n) (addKey_nodup h n)
    refine ⟨h1, fun x => ?_, ?_⟩
    · rw [List.foldl_cons, h2, addKey_mem, List.mem_cons, or_assoc]
    · have := addKey_len ks n
      rw [List.foldl_cons, List.length_cons]; omega
theorem keysL_nodup (ns : List Int) : (keysL ns).Nodup := (keys_fold ns [] .nil).1
theorem keysL_mem (ns : List Int) (x : Int) : x ∈ keysL ns ↔ x ∈ ns := by simpa [keysL] using (keys_fold ns [] .nil).2.1 x
theorem keysL_len (ns : List Int) : (keysL ns).length ≤ ns.length := by simpa [keysL] using (keys_fold ns [] .nil).2.2

section
variable {prog : Program} {w : World} {A : Around} {E : Value → Shared → Prop} {s : Shared}
theorem set_loop {R : Result → Shared → Prop} {I l S : Addr} {vs : List Value} {ns : List Int} (hh : A.handled = none) (hlI : l ≠ I) (hSl : S ≠ l) (hSI : S ≠ I) (hi : IntsAre vs ns) (hb : ns.length + 1 < 1000) :
    ∀ (k i : Nat) (s : Shared) (ks : List Int), ns.length - i = k → i ≤ ns.length → (s.heap.IsListIter I l i ∧ s.heap.IsList l vs.toArray) → SetAt prog w s.heap S ks → ks.length ≤ i →
      (∀ h' tk, UpX [S, I] s.heap h' → SetAt prog w h' S ((ns.drop i).foldl addKey ks) → R (.ok (.ret .none)) { s with heap := h', toks := tk }) →
      codeAny (model prog w) A (.builtin "set.update.loop" ⟨[.ref S, .ref I], []⟩) R s := by
  have hlen : vs.length = ns.length := hi.length
  have W := Walks.list (prog := prog) (w := w) (A := A.in1) hh I l hlI vs.toArray
  intro k
  induction k with
  | zero =>
    intro i s ks hk hin hst hS _ hR
    have e : i = vs.toArray.size := by simp; omega
    refine codeAny_builtin F.entry_set_update_loop ?_
    rw [Around.under_plainId F.plain_set_update_loop _]
    show wpAny _ A.in1 (pyNext (.ref I) >>= _) _ _ s
    refine wpAny_bind (W.done s _ _ (e ▸ hst) fun h' tk hk' => ?_)
    show wpAny _ A.in1 (ret Value.none) _ _ _
    refine wpAny_pure (hR h' tk (fun b o hb e => hk' b o (fun q => hb (.tail _ q)) e) ?_)
    rw [List.drop_of_length_le (by omega)]
    exact hS.up fun o e => hk' _ _ (by simpa using hSI) e
  | succ k ih =>
    intro i s ks hk hin hst hS hks hR
    have hlt : i < ns.length := by omega
    refine codeAny_builtin F.entry_set_update_loop ?_
    rw [Around.under_plainId F.plain_set_update_loop _]
    show wpAny _ A.in1 (pyNext (.ref I) >>= _) _ _ s
    refine wpAny_bind (W.item i s _ _ (by simp; omega) hst fun v h' tk hP hst' hk' => ?_)
    obtain ⟨t, hx⟩ := hi.get i ns[i] (by simp [hlt])
    have hv : v = .int ns[i] t := by
      have hP' : vs[i]? = some v := by simpa using hP
      rw [hx] at hP'; exact (Option.some.inj hP').symm
    subst hv
    have hS' : SetAt prog w h' S ks := hS.up fun o e => hk' _ _ (by simpa using hSI) e
    show wpAny _ A.in1 (holding [Value.int ns[i] t] (setAdd S (.int ns[i] t)) >>= _) _ _ _
    refine wpAny_bind (wpAny_holding ?_)
    unfold setAdd
    refine wpAny_holding (wpAny_bind (wpAny_pyHash_int ?_))
    refine set_add (s := { s with heap := h', toks := _ }) hS' (by unfold scanBound; omega) fun h'' b hsb S'' => ?_
    refine wpAny_pure ⟨plainId_quiet F.plain_set_update_loop _, ih (i + 1) _ (addKey ks ns[i]) (by omega) hlt ?_ S'' (by have := addKey_len ks ns[i]; omega) fun h3 tk3 u3 S3 => ?_⟩
    · exact ⟨hst'.1.at fun o e => (hsb.2 I (Ne.symm hSI)).trans e, hst'.2.at fun o e => (hsb.2 l (Ne.symm hSl)).trans e⟩
    · refine hR h3 tk3 (fun b o hb e => u3 b o hb ((hsb.2 b fun q => hb (q ▸ .head _)).trans (hk' b o (fun q => hb (.tail _ q)) e))) ?_
      have e : ns.drop i = ns[i] :: ns.drop (i + 1) := List.drop_eq_getElem_cons hlt
      rw [e, List.foldl_cons]
      exact S3

/-- set(xs) of a list of ints -/
theorem call_set {l : Addr} {vs : List Value} {ns : List Int} {Q : Value → Shared → Prop} (hh : A.handled = none) (hl : s.heap.IsList l vs.toArray) (hi : IntsAre vs ns) (hb : ns.length + 1 < 1000)
    (h : ∀ s' a, Grew s s' → s.heap.get? a = none → SetAt prog w s'.heap a (keysL ns) → Q (.ref a) s') :
    wpAny (model prog w) A (call (.type "set") [.ref l]) Q E s := by
  refine set_called ?_
  have hls : l < s.heap.objs.size := by obtain ⟨_, e, _⟩ := hl; exact Heap.lt_size e
  have hS0 : (s.heap.push (newSetObj (!byText w))).get? s.heap.objs.size = some (newSetObj (!byText w)) := Heap.get?_push_size _ rfl
  have hfr : s.heap.get? s.heap.objs.size = none := fresh_none' (Nat.le_refl _)
  have hl1 : (s.heap.push (newSetObj (!byText w))).IsList l vs.toArray := hl.push _
  have hup : Up s.heap (s.heap.push (newSetObj (!byText w))) := Up.push _
  have hlS : s.heap.objs.size ≠ l := Nat.ne_of_gt hls
  generalize s.heap.objs.size = S at hS0 hfr hlS ⊢
  generalize hH : s.heap.push (newSetObj (!byText w)) = H at hS0 hl1 hup ⊢
  have hT : Shared.TypeIs { s with heap := H } (.ref S) "set" := ⟨_, hS0, rfl⟩
  have hSA : SetAt prog w H S [] := ⟨_, _, _, _, hS0, ⟨rfl, rfl, rfl⟩, rfl, fun e he => by simp at he, .nil, by decide, rfl, TabOk.fresh _ _ _⟩
  obtain ⟨ol, hol, hcl, nl, hdl⟩ := id hl1
  obtain ⟨ocls, odict, odata, oslots⟩ := ol
  simp only at hcl hdl
  subst hcl; subst hdl
  have hsls := F.sub_list_set
  have hslf := F.sub_list_frozenset
  have hne : (Value.type "list" == Value.type "dict") = false := by decide
  unfold Builtin.«set.__init__» noKeywords Builtin.Frozenset.updateFrom
  generalize hPI : pyIter = PI
  wp_walk
  subst hPI
  refine wpAny_pyIter_list hl1 ?_
  refine wpAny_bind (wpAny_runValue ?_)
  have hIl : l ≠ H.objs.size := Nat.ne_of_lt (Heap.lt_size hol)
  have hIS : S ≠ H.objs.size := Nat.ne_of_lt (Heap.lt_size hS0)
  refine set_loop (ns := ns) (vs := vs) (by simp [hh]) hIl hlS hIS hi hb (ns.length - 0) 0 _ [] rfl (Nat.zero_le _) ⟨⟨_, Heap.get?_push_size _ rfl, rfl, rfl⟩, hl1.push _⟩
    (hSA.up fun o e => Heap.get?_push_of_some _ e) (Nat.le_refl _) fun h' tk hu S' => ?_
  show wpAny _ _ _ _ _ _
  refine wpAny_pure ?_
  show wpAny _ _ (ret Value.none) _ _ _
  refine wpAny_pure ⟨rfl, h _ S ⟨fun b o e => hu b o ?_ (Heap.get?_push_of_some _ (hup b o e)), rfl, rfl⟩ hfr (by simpa [keysL] using S')⟩
  simp only [List.mem_cons, List.not_mem_nil, or_false, not_or]
  refine ⟨fun q => ?_, Nat.ne_of_lt (Heap.lt_size (hup b o e))⟩
  rw [q, hfr] at e
  cases e
end
end Mine

/-! MSetIt -/
namespace Mine
/-- the set's inside, at one heap -/
structure SetIn (w : World) (h : Heap) (a : Addr) (es : Array (Int × Value)) (ep : Nat) (t : SetTable) : Prop where
  at_ : ∃ o, h.get? a = some o ∧ o.ExactSet ∧ o.data = .set es ep t
  fits : t.fits es.size = true
  tab : TabOk (!byText w) t
theorem SetIn.up {w : World} {h h' : Heap} {a : Addr} {es : Array (Int × Value)} {ep : Nat} {t : SetTable} (S : SetIn w h a es ep t) (k : ∀ o, h.get? a = some o → h'.get? a = some o) : SetIn w h' a es ep t :=
  ⟨let ⟨o, e, r⟩ := S.at_; ⟨o, k _ e, r⟩, S.fits, S.tab⟩
theorem SetIn.typeIs {w : World} {s : Shared} {a : Addr} {es : Array (Int × Value)} {ep : Nat} {t : SetTable} (S : SetIn w s.heap a es ep t) : s.TypeIs (.ref a) "set" :=
  let ⟨o, e, hx, _⟩ := S.at_; ⟨o, e, hx.1⟩
def itObj (first : Value) (i : Nat) (a : Addr) (n ep : Nat) : Obj := { cls := .type "set_iterator", data := .fields #[first, .int i 0, .ref a, .int n 0, .int ep 0] }

theorem perm_erase {α : Type} : ∀ {l : List α} {i : Nat} (h : i < l.length), (l[i] :: l.eraseIdx i).Perm l
  | x :: r, 0, _ => by simp
  | x :: r, i + 1, h => by
    have h' : i < r.length := by simpa using h
    have := perm_erase h'
    simp only [List.getElem_cons_succ, List.eraseIdx_cons_succ]
    exact (List.Perm.swap _ _ _).trans (this.cons x)
section
variable {prog : Program} {w : World} {A : Around} {E : Value → Shared → Prop} {s : Shared} {a : Addr} {es : Array (Int × Value)} {ep : Nat} {t : SetTable}
theorem in_state {Q : (Array (Int × Value) × Nat × SetTable) → Shared → Prop} (S : SetIn w s.heap a es ep t) (h : Q (es, ep, t) s) : wpAny (model prog w) A (setState a) Q E s := by
  obtain ⟨o, e, _, hd⟩ := S.at_
  exact wpAny_setState_of e hd S.fits h
theorem in_byText {Q : Bool → Shared → Prop} (h : Q (byText w) s) : wpAny (model prog w) A setsByText Q E s := by
  unfold setsByText
  exact wpAny_bind (wpAny_askSetting (wpAny_pure h))
theorem in_drawn {Q : Bool → Shared → Prop} (S : SetIn w s.heap a es ep t) (h : Q (!byText w && (!t.plain && decide (es.size > 1))) s) : wpAny (model prog w) A (setDrawn a) Q E s := by
  unfold setDrawn
  refine wpAny_bind (in_state S (wpAny_bind (in_byText (wpAny_pure ?_))))
  exact h
theorem wpAny_choose' {src : Source} {n : Nat} {Q : Nat → Shared → Prop} (hn : n ≠ 0) (h : ∀ i d, i < n → Q i { s with drawn := d }) : wpAny (model prog w) A (choose src n) Q E s := by
  intro Γ p _
  unfold choose
  rw [Sem.wp_choose]
  exact ⟨hn, h _ _ (Nat.mod_lt _ (Nat.pos_of_ne_zero hn))⟩
theorem in_order {α : Type} : ∀ (n : Nat) (xs : List α) (s : Shared) (Q : List α → Shared → Prop), xs.length = n → (∀ ys d, ys.Perm xs → Q ys { s with drawn := d }) → wpAny (model prog w) A (drawOrder n xs) Q E s
  | 0, xs, s, Q, hl, h => by
    have : xs = [] := List.length_eq_zero_iff.mp hl
    subst this
    unfold drawOrder
    exact wpAny_pure (h [] s.drawn .nil)
  | n + 1, [], s, Q, hl, h => by simp at hl
  | n + 1, x :: r, s, Q, hl, h => by
    unfold drawOrder
    refine wpAny_bind (wpAny_choose' (by simp) fun i d hi => ?_)
    have hx : (x :: r)[i]? = some (x :: r)[i] := List.getElem?_eq_getElem hi
    rw [hx]
    dsimp only
    refine wpAny_bind (in_order n ((x :: r).eraseIdx i) _ _ (by rw [List.length_eraseIdx, if_pos hi, hl]; rfl) fun ys d' hp => wpAny_pure ?_)
    refine h _ d' ?_
    exact (hp.cons _).trans (perm_erase hi)
end
end Mine

/-! MSetIt2 -/
namespace Mine
theorem pick_go {α : Type} (next : Nat → Nat) : ∀ (fuel k : Nat) (left : List α) (out : Array α), left.length = fuel → (pickOrder.go next fuel k left out).toList.Perm (out.toList ++ left)
  | 0, k, left, out, h => by
    have : left = [] := List.length_eq_zero_iff.mp h
    subst this
    unfold pickOrder.go
    simp
  | fuel + 1, k, left, out, h => by
    unfold pickOrder.go
    have hi : next k % left.length < left.length := Nat.mod_lt _ (by omega)
    rw [List.getElem?_eq_getElem hi]
    dsimp only
    refine (pick_go next fuel (k + 1) _ _ (by rw [List.length_eraseIdx, if_pos hi, h]; rfl)).trans ?_
    rw [Array.toList_push, List.append_assoc]
    exact (perm_erase hi).append_left _
theorem pick_perm {α : Type} (next : Nat → Nat) (xs : Array α) : (pickOrder next xs).toList.Perm xs.toList := by
  unfold pickOrder
  simpa using pick_go next xs.size 0 xs.toList #[] (by simp)

/-- the order in which a set that is not drawn is walked -/
def walkP (w : World) (a : Addr) (es : Array (Int × Value)) (ep : Nat) : Array (Int × Value) := if byText w then pickOrder (w.params.setOrder a ep) es else es
theorem walkP_perm (w : World) (a : Addr) (es : Array (Int × Value)) (ep : Nat) : (walkP w a es ep).toList.Perm es.toList := by
  unfold walkP
  split
  · exact pick_perm _ _
  · exact .refl _
def slotP (w : World) (t : SetTable) (i : Nat) : Nat := if byText w then 0 else if i = 0 then 0 else t.place.getD (i - 1) 0 + 1
section
variable {prog : Program} {w : World} {A : Around} {E : Value → Shared → Prop} {s : Shared} {a : Addr} {es : Array (Int × Value)} {ep : Nat} {t : SetTable}
theorem in_walk {Q : Array (Int × Value) → Shared → Prop} (S : SetIn w s.heap a es ep t) (hb : byText w = true) (h : Q (walkP w a es ep) s) : wpAny (model prog w) A (setWalk a) Q E s := by
  unfold setWalk
  refine wpAny_bind (in_state S (wpAny_bind (in_byText ?_)))
  rw [hb]
  try dsimp only
  rw [if_pos rfl]
  refine wpAny_bind (wpAny_askSetting (wpAny_pure ?_))
  unfold walkP at h
  rw [if_pos hb] at h
  exact h
theorem slotP_below (S : SetIn w s.heap a es ep t) (hb : byText w = false) {i : Nat} (hi : i ≤ es.size) : SetTable.below t.place (slotP w t i) = i := by
  have hsz : t.place.size = es.size := by
    have := S.fits
    simp only [SetTable.fits, Bool.and_eq_true, beq_iff_eq] at this
    exact this.1
  unfold slotP
  rw [hb]
  simp only [Bool.false_eq_true, if_false]
  split
  · rename_i h0; rw [h0]; exact below_zero _
  · rename_i h0
    have := below_next S.tab.rising (i := i - 1) (by omega)
    rw [this]; omega
theorem in_next {i : Nat} {Q : Option (Value × Nat) → Shared → Prop} (S : SetIn w s.heap a es ep t) (hd : byText w = true ∨ (!t.plain && decide (es.size > 1)) = false) (hi : i ≤ es.size)
    (h : Q ((walkP w a es ep)[i]?.map fun e => (e.2, slotP w t (i + 1))) s) : wpAny (model prog w) A (setNext a (slotP w t i) i ep) Q E s := by
  unfold setNext
  refine wpAny_bind (in_state S (wpAny_bind (in_byText ?_)))
  dsimp only
  cases hb : byText w with
  | true =>
    simp only [if_true, bne_self_eq_false, Bool.false_eq_true, if_false]
    refine wpAny_bind (in_walk S hb (wpAny_pure ?_))
    have : slotP w t (i + 1) = slotP w t i := by unfold slotP; rw [hb]; rfl
    rw [this] at h
    exact h
  | false =>
    have hd' : (!t.plain && decide (es.size > 1)) = false := hd.resolve_left (by rw [hb]; exact Bool.false_ne_true)
    have hled : t.led = true := by rw [S.tab.led, hb]; rfl
    have hsz : t.place.size = es.size := by
      have := S.fits
      simp only [SetTable.fits, Bool.and_eq_true, beq_iff_eq] at this
      exact this.1
    simp only [Bool.false_eq_true, if_false]
    show wpAny _ _ (if (!t.plain && decide (es.size > 1)) = true then _ else _) _ _ _
    rw [hd', if_neg Bool.false_ne_true]
    show wpAny _ _ (((if (!t.led && !es.isEmpty) = true then unsupported "set:maker-not-led" else pure ()) : Sem Unit) >>= _) _ _ _
    rw [hled]
    simp only [Bool.not_true, Bool.false_and, Bool.false_eq_true, if_false]
    refine wpAny_bind (wpAny_pure ?_)
    rw [slotP_below S hb hi]
    have hw : walkP w a es ep = es := by unfold walkP; rw [hb]; rfl
    rw [hw] at h
    by_cases hlt : i < es.size
    · have h1 : es[i]? = some es[i] := Array.getElem?_eq_getElem hlt
      have h2 : t.place[i]? = some t.place[i] := Array.getElem?_eq_getElem (by omega)
      rw [h1] at h
      rw [h1, h2]
      refine wpAny_pure ?_
      have h3 : slotP w t (i + 1) = t.place[i] + 1 := by
        unfold slotP
        rw [hb]
        have : t.place.getD i 0 = t.place[i] := by simp [Array.getD, show i < t.place.size by omega]
        simp [this]
      simp only [Option.map_some] at h
      rw [h3] at h
      exact h
    · have h1 : es[i]? = none := Array.getElem?_eq_none (by omega)
      rw [h1] at h
      rw [h1]
      exact wpAny_pure h
end
end Mine

/-! MSetWalk -/
namespace Mine
section
variable {prog : Program} {w : World} {A : Around} {E : Value → Shared → Prop} {s : Shared} {a I : Addr} {es : Array (Int × Value)} {ep : Nat} {t : SetTable}
theorem it_type {first : Value} {i n : Nat} (h : s.heap.get? I = some (itObj first i a n ep)) : s.TypeIs (.ref I) "set_iterator" := ⟨_, h, rfl⟩
theorem it_upd {h : Heap} {first x : Value} {i n j : Nat} (e : h.get? I = some (itObj first i a n ep)) :
    (h.update I (Obj.mapFields (·.setIfInBounds j x))).get? I = some { cls := .type "set_iterator", data := .fields (#[first, .int i 0, .ref a, .int n 0, .int ep 0].setIfInBounds j x) } :=
  Heap.get?_update_self _ e rfl
/-- one turn of a set's iterator: what it does beside the item -/
theorem next_P {i : Nat} {Q : Option Value → Shared → Prop} (hh : A.handled = none) (hI : s.heap.get? I = some (itObj (.int (slotP w t i) 0) i a es.size ep)) (S : SetIn w s.heap a es ep t) (hd : byText w = true ∨ (!t.plain && decide (es.size > 1)) = false)
    (hi : i ≤ es.size)
    (hsome : ∀ x, (walkP w a es ep)[i]? = some x → ∀ h', h'.get? I = some (itObj (.int (slotP w t (i + 1)) 0) (i + 1) a es.size ep) → Heap.SameBut I s.heap h' → Q (some x.2) { s with heap := h' })
    (hnone : (walkP w a es ep)[i]? = none → ∀ h', Heap.ExtBut I s.heap h' → Q none { s with heap := h' }) :
    wpAny (model prog w) A (pyNext (.ref I)) Q E s := by
  unfold pyNext
  refine wpAny_bind (wpAny_attempt (wpAny_callSpecial?_slot (name := Str.ofString "__next__") (it_type hI) slot_setiter_next
    (wpAny_call_entry slot_setiter_next (it_type hI) entry_setiter_next ?_ (args_setiter_next _))))
  unfold Builtin.«set_iterator.__next__»
  refine wpAny_bind (wpAny_pure ?_)
  refine wpAny_bind (wpAny_fieldsOf hI rfl ?_)
  show wpAny _ _ (setEntries a >>= _) _ _ s
  obtain ⟨o, ho, hx, hdat⟩ := S.at_
  refine wpAny_bind (wpAny_setEntries_of ho hdat S.fits ?_)
  simp only [bne_self_eq_false, Bool.false_eq_true, if_false]
  show wpAny _ _ (setNext a (Int.toNat (slotP w t i)) (Int.toNat i) (Int.toNat ep) >>= _) _ _ s
  simp only [Int.toNat_natCast]
  refine wpAny_bind (in_next S hd hi ?_)
  cases hq : (walkP w a es ep)[i]? with
  | some x =>
    simp only [Option.map_some]
    refine wpAny_bind (wpAny_setField hI rfl (by simp [itObj]) ?_)
    have e1 := it_upd (j := 0) (x := rawInt (slotP w t (i + 1))) hI
    refine wpAny_bind (wpAny_setField e1 rfl (by simp) ?_)
    have e2 := Heap.get?_update_self (Obj.mapFields (·.setIfInBounds 1 (rawInt (i + 1)))) e1 rfl
    refine wpAny_pure ⟨x.2, rfl, ?_⟩
    exact wpAny_pure (hsome x hq _ e2 ((Heap.SameBut.update _ _ _).trans (Heap.SameBut.update _ _ _)))
  | none =>
    simp only [Option.map_none]
    refine wpAny_bind (wpAny_setField hI rfl (by simp [itObj]) ?_)
    show wpAny _ _ (newExc (.type "StopIteration") [] >>= _) _ _ _
    refine wpAny_bind ?_
    simp only [newExc, newTuple]
    refine wpAny_bind (wpAny_newObj_type ?_ (by size_fits))
    refine wpAny_bind (m := firstArgMember _ _) (wpAny_of_eq (a := Value.none) (by first | rfl | (simp only [firstArgMember]; rfl)) ?_)
    refine wpAny_newObj_type ?_ (by size_fits)
    simp only [raiseNew]
    refine wpAny_bind (wpAny_handled ?_)
    rw [show A.in1.handled = none from hh]
    refine wpAny_bind (wpAny_pure (wpAny_throw ?_))
    refine wpAny_bind (wpAny_isInstance (T := "StopIteration") (b := true) ⟨_, Heap.get?_push_size _ rfl, rfl⟩ isSubtype_stop ?_)
    exact wpAny_pure (hnone hq _ (((Heap.SameBut.update ..).extBut.push _).push _))
/-- the same over a drawn order -/
theorem next_D {i : Nat} {T : Addr} {ps : List Nat} {Q : Option Value → Shared → Prop} (hh : A.handled = none) (hI : s.heap.get? I = some (itObj (.ref T) i a es.size ep)) (S : SetIn w s.heap a es ep t)
    (hT : s.heap.IsTuple T (ps.map fun (i : Nat) => rawInt i).toArray)
    (hsome : ∀ k x, ps[i]? = some k → es[k]? = some x → ∀ h', h'.get? I = some (itObj (.ref T) (i + 1) a es.size ep) → Heap.SameBut I s.heap h' → Q (some x.2) { s with heap := h' })
    (hin : ∀ k, ps[i]? = some k → k < es.size)
    (hnone : ps[i]? = none → ∀ h', Heap.ExtBut I s.heap h' → Q none { s with heap := h' }) :
    wpAny (model prog w) A (pyNext (.ref I)) Q E s := by
  unfold pyNext
  refine wpAny_bind (wpAny_attempt (wpAny_callSpecial?_slot (name := Str.ofString "__next__") (it_type hI) slot_setiter_next
    (wpAny_call_entry slot_setiter_next (it_type hI) entry_setiter_next ?_ (args_setiter_next _))))
  unfold Builtin.«set_iterator.__next__»
  refine wpAny_bind (wpAny_pure ?_)
  refine wpAny_bind (wpAny_fieldsOf hI rfl ?_)
  show wpAny _ _ (setEntries a >>= _) _ _ s
  obtain ⟨o, ho, hx, hdat⟩ := S.at_
  refine wpAny_bind (wpAny_setEntries_of ho hdat S.fits ?_)
  simp only [bne_self_eq_false, Bool.false_eq_true, if_false]
  obtain ⟨oT, hoT, _, nT, hdT⟩ := id hT
  show wpAny _ _ (seqItems? (.ref T) >>= _) _ _ s
  refine wpAny_bind (wpAny_seqItems hoT hdT ?_)
  simp only [Int.toNat_natCast, List.getElem?_toArray, List.getElem?_map]
  cases hq : ps[i]? with
  | some k =>
    have hk := hin k hq
    have he : es[k]? = some es[k] := Array.getElem?_eq_getElem hk
    show wpAny _ _ (setNextDrawn a (Int.toNat (k : Int)) (Int.toNat (ep : Int)) >>= _) _ _ s
    simp only [Int.toNat_natCast]
    unfold setNextDrawn
    refine wpAny_bind (wpAny_bind (in_state S ?_))
    simp only [bne_self_eq_false, Bool.false_eq_true, if_false]
    refine wpAny_bind (wpAny_pure ?_)
    rw [he]
    refine wpAny_pure ?_
    refine wpAny_bind (wpAny_setField hI rfl (by simp [itObj]) ?_)
    refine wpAny_pure ⟨(es[k]).2, rfl, ?_⟩
    exact wpAny_pure (hsome k _ hq he _ (it_upd hI) (Heap.SameBut.update _ _ _))
  | none =>
    show wpAny _ _ (setField (.ref I) 0 (rawInt 0) >>= _) _ _ _
    refine wpAny_bind (wpAny_setField hI rfl (by simp [itObj]) ?_)
    have e1 := it_upd (j := 0) (x := rawInt 0) hI
    refine wpAny_bind (wpAny_setField e1 rfl (by simp) ?_)
    show wpAny _ _ (newExc (.type "StopIteration") [] >>= _) _ _ _
    refine wpAny_bind ?_
    simp only [newExc, newTuple]
    refine wpAny_bind (wpAny_newObj_type ?_ (by size_fits))
    refine wpAny_bind (m := firstArgMember _ _) (wpAny_of_eq (a := Value.none) (by first | rfl | (simp only [firstArgMember]; rfl)) ?_)
    refine wpAny_newObj_type ?_ (by size_fits)
    simp only [raiseNew]
    refine wpAny_bind (wpAny_handled ?_)
    rw [show A.in1.handled = none from hh]
    refine wpAny_bind (wpAny_pure (wpAny_throw ?_))
    refine wpAny_bind (wpAny_isInstance (T := "StopIteration") (b := true) ⟨_, Heap.get?_push_size _ rfl, rfl⟩ isSubtype_stop ?_)
    exact wpAny_pure (hnone hq _ ((((Heap.SameBut.update ..).trans (Heap.SameBut.update ..)).extBut.push _).push _))
end
end Mine

/-! MSetIter -/
namespace Mine
theorem UpX.ext {a : Addr} {h h' : Heap} (s : Heap.ExtBut a h h') : UpX [a] h h' := fun b o n e => s b o (by simpa using n) e
section
variable {prog : Program} {w : World} {A : Around} {E : Value → Shared → Prop} {s : Shared} {a I : Addr} {es : Array (Int × Value)} {ep : Nat} {t : SetTable}
theorem pyIter_setiter {first : Value} {i n : Nat} {Q : Value → Shared → Prop} (h : s.heap.get? I = some (itObj first i a n ep)) (hQ : Q (.ref I) s) : wpAny (model prog w) A (pyIter (.ref I)) Q E s := by
  refine wpAny_pyIter_slot (it_type h) slot_setiter_iter (wpAny_call_entry slot_setiter_iter (it_type h) entry_setiter_iter ?_ (args_setiter_iter _))
  show wpAny _ _ (ret (.ref I)) _ _ s
  exact wpAny_pure ⟨_, rfl, "set_iterator", _, it_type h, slot_setiter_next.lookup, hQ⟩

theorem walksP (hh : A.handled = none) (hd : byText w = true ∨ (!t.plain && decide (es.size > 1)) = false) (hne : a ≠ I) :
    Walks prog w A I [I, a] [I] es.size (fun i v => ((walkP w a es ep).toList.map (·.2))[i]? = some v) (fun i h => i ≤ es.size ∧ h.get? I = some (itObj (.int (slotP w t i) 0) i a es.size ep) ∧ SetIn w h a es ep t) where
  sub := fun b hb => by simp at hb; simp [hb]
  frame := fun i h h' st hk => ⟨st.1, hk I (by simp) _ st.2.1, st.2.2.up (fun o e => hk a (by simp) o e)⟩
  item := fun i s Q E hi st hQ => by
    have hsz : (walkP w a es ep).size = es.size := by
      have := (walkP_perm w a es ep).length_eq
      simpa using this
    refine next_P hh st.2.1 st.2.2 hd st.1 (fun x hx h' hI' hs => ?_) fun hn => ?_
    · refine hQ x.2 h' s.toks (by rw [List.getElem?_map, Array.getElem?_toList, hx]; rfl) ⟨hi, hI', st.2.2.up fun o e => (hs.2 a hne).trans e⟩ fun b o hb e => UpX.same hs b o hb e
    · exact absurd (Array.getElem?_eq_none_iff.mp hn) (by omega)
  done := fun s Q E st hQ => by
    have hsz : (walkP w a es ep).size = es.size := by
      have := (walkP_perm w a es ep).length_eq
      simpa using this
    refine next_P hh st.2.1 st.2.2 hd st.1 (fun x hx => ?_) fun hn h' hs => hQ h' s.toks fun b o hb e => UpX.ext hs b o hb e
    rw [Array.getElem?_eq_none (by omega)] at hx
    cases hx
  self := fun i s Q E st hQ => pyIter_setiter st.2.1 hQ

theorem pick_map : ∀ (ps : List Nat), (∀ k ∈ ps, k < es.size) → (ps.filterMap fun k => es[k]?.map (·.2)) = ps.map fun k => (es[k]?.map (·.2)).getD .none
  | [], _ => rfl
  | p :: r, hin => by
    have hp' := hin p (.head _)
    rw [List.filterMap_cons, List.map_cons, Array.getElem?_eq_getElem hp', ← pick_map r fun k hk => hin k (.tail _ hk)]
    rfl
theorem walksD {T : Addr} {ps : List Nat} (hh : A.handled = none) (hne : a ≠ I) (hT : T ≠ I) (hp : ps.Perm (List.range es.size)) :
    Walks prog w A I [I, T, a] [I] es.size (fun i v => (ps.filterMap fun k => es[k]?.map (·.2))[i]? = some v) (fun i h => h.get? I = some (itObj (.ref T) i a es.size ep) ∧ SetIn w h a es ep t ∧ h.IsTuple T (ps.map fun (i : Nat) => rawInt i).toArray) where
  sub := fun b hb => by simp at hb; simp [hb]
  frame := fun i h h' st hk => ⟨hk I (by simp) _ st.1, st.2.1.up (fun o e => hk a (by simp) o e), IsTup.up' st.2.2 fun o e => hk T (by simp) o e⟩
  item := fun i s Q E hi st hQ => by
    have hlen : ps.length = es.size := by rw [hp.length_eq, List.length_range]
    have hin : ∀ k ∈ ps, k < es.size := fun k hk => List.mem_range.mp (hp.mem_iff.mp hk)
    refine next_D hh st.1 st.2.1 st.2.2 (fun k x hk hx h' hI' hs => ?_) (fun k hk => hin k (List.mem_of_getElem? hk)) fun hn => ?_
    · refine hQ x.2 h' s.toks ?_ ⟨hI', st.2.1.up fun o e => (hs.2 a hne).trans e, IsTup.up' st.2.2 fun o e => (hs.2 T hT).trans e⟩ fun b o hb e => UpX.same hs b o hb e
      have e : (ps.filterMap fun k => es[k]?.map (·.2)) = ps.map fun k => (es[k]?.map (·.2)).getD .none := by
        exact pick_map ps hin
      rw [e, List.getElem?_map, hk]
      simp [hx]
    · exact absurd (List.getElem?_eq_none_iff.mp hn) (by omega)
  done := fun s Q E st hQ => by
    have hlen : ps.length = es.size := by rw [hp.length_eq, List.length_range]
    refine next_D hh st.1 st.2.1 st.2.2 (fun k x hk => ?_) (fun k hk => ?_) fun hn h' hs => hQ h' s.toks fun b o hb e => UpX.ext hs b o hb e
    · rw [List.getElem?_eq_none (by omega)] at hk; cases hk
    · rw [List.getElem?_eq_none (by omega)] at hk; cases hk
  self := fun i s Q E st hQ => pyIter_setiter st.1 hQ
theorem perm_pick {ps : List Nat} (hp : ps.Perm (List.range es.size)) : (ps.filterMap fun k => es[k]?.map (·.2)).Perm (es.toList.map (·.2)) := by
  refine (hp.filterMap _).trans ?_
  have : ((List.range es.size).filterMap fun k => es[k]?.map (·.2)) = es.toList.map (·.2) := by
    rw [← Array.length_toList]
    have key : ∀ l : List (Int × Value), ((List.range l.length).filterMap fun k => l[k]?.map (·.2)) = l.map (·.2) := by
      intro l
      induction l with
      | nil => rfl
      | cons x r ih =>
        rw [List.length_cons, List.range_succ_eq_map, List.filterMap_cons]
        simp only [List.getElem?_cons_zero, Option.map_some, List.filterMap_map, List.map_cons]
        congr 1
    have := key es.toList
    simpa using this
  rw [this]
theorem newTuple_any {vs : List Value} {Q : Value → Shared → Prop} (hsz : vs.length ≤ sizeLine) (h : ∀ T h', h'.IsTuple T vs.toArray → Up s.heap h' → s.heap.get? T = none → Q (.ref T) { s with heap := h' }) : wpAny (model prog w) A (newTuple vs) Q E s := by
  unfold newTuple
  refine wpAny_newObj_type (h _ _ ⟨_, Heap.get?_push_size _ rfl, rfl, _, rfl⟩ (Up.push _) (fresh_none' (Nat.le_refl _)))

/-- iter(set) -/
theorem iter_set {Q : Value → Shared → Prop} (hh : A.handled = none) (hsz : es.size ≤ sizeLine) (S : SetIn w s.heap a es ep t)
    (h : ∀ s' I fp St (ord : List Value), Grew s s' → s.heap.get? I = none → (∀ b ∈ fp, b = a ∨ s.heap.get? b = none) → (∀ b ∈ fp, b < s'.heap.objs.size) → Walks prog w A I fp [I] es.size (fun i v => ord[i]? = some v) St → St 0 s'.heap → ord.Perm (es.toList.map (·.2)) → Q (.ref I) s') :
    wpAny (model prog w) A (pyIter (.ref a)) Q E s := by
  have has : a < s.heap.objs.size := by obtain ⟨_, e, _⟩ := S.at_; exact Heap.lt_size e
  refine wpAny_pyIter_slot S.typeIs F.slot_set_iter (wpAny_call_entry F.slot_set_iter S.typeIs entry_set_iter ?_ (F.args_set_iter_1 _))
  unfold Builtin.«frozenset.__iter__» Builtin.Frozenset.slot0 Builtin.Frozenset.sizeOf
  obtain ⟨o, ho, hx, hdat⟩ := id S.at_
  refine wpAny_bind (wpAny_bind (wpAny_pure (wpAny_pure ?_)))
  refine wpAny_bind (wpAny_bind (wpAny_setEntries_of ho hdat S.fits (wpAny_pure ?_)))
  refine wpAny_bind (in_drawn S ?_)
  cases hd : (!byText w && (!t.plain && decide (es.size > 1))) with
  | false =>
    rw [if_neg Bool.false_ne_true]
    have hd' : byText w = true ∨ (!t.plain && decide (es.size > 1)) = false := by
      rcases Bool.and_eq_false_iff.mp hd with q | q
      · exact .inl (by simpa using q)
      · exact .inr q
    refine wpAny_bind (wpAny_pure ?_)
    refine wpAny_bind (wpAny_setEpoch_of ho hdat S.fits ?_)
    refine wpAny_bind (wpAny_newObj_type (wpAny_pure ⟨_, rfl, "set_iterator", _, ⟨_, Heap.get?_push_size _ rfl, rfl⟩, slot_setiter_next.lookup, ?_⟩))
    refine h _ s.heap.objs.size _ _ ((walkP w a es ep).toList.map (·.2)) ⟨Up.push _, rfl, rfl⟩ (fresh_none' (Nat.le_refl _)) (fun b hb => ?_) (fun b hb => ?_) (walksP (t := t) hh hd' (Nat.ne_of_lt has)) ⟨Nat.zero_le _, ?_, S.up fun o e => Heap.get?_push_of_some _ e⟩ ((walkP_perm _ _ _ _).map _)
    · rcases List.mem_cons.mp hb with rfl | hb
      · exact .inr (fresh_none' (Nat.le_refl _))
      · exact .inl (List.mem_singleton.mp hb)
    · show b < (s.heap.push _).objs.size
      rw [size_push']
      rcases List.mem_cons.mp hb with rfl | hb
      · exact Nat.lt_succ_self _
      · rw [List.mem_singleton.mp hb]; exact Nat.lt_succ_of_lt has
    have : slotP w t 0 = 0 := by unfold slotP; split <;> rfl
    rw [this]
    exact Heap.get?_push_size _ rfl
  | true =>
    rw [if_pos rfl]
    refine wpAny_bind (in_order es.size (List.range es.size) _ _ List.length_range fun ps d hp => ?_)
    refine wpAny_bind (newTuple_any (by rw [List.length_map, hp.length_eq, List.length_range]; exact hsz) fun T h' hT hup hTn => ?_)
    refine wpAny_bind (wpAny_setEpoch_of (s := { s with heap := h', drawn := d }) (hup _ _ ho) hdat S.fits ?_)
    refine wpAny_bind (wpAny_newObj_type (wpAny_pure ⟨_, rfl, "set_iterator", _, ⟨_, Heap.get?_push_size _ rfl, rfl⟩, slot_setiter_next.lookup, ?_⟩))
    have hTs : T < h'.objs.size := by obtain ⟨_, e, _⟩ := hT; exact Heap.lt_size e
    have hfr : s.heap.get? h'.objs.size = none := by
      cases q : s.heap.get? h'.objs.size with
      | none => rfl
      | some o => exact absurd (Heap.lt_size (hup _ _ q)) (Nat.lt_irrefl _)
    refine h _ h'.objs.size _ _ _ ⟨hup.trans (Up.push _), rfl, rfl⟩ hfr (fun b hb => ?_) (fun b hb => ?_) (walksD (t := t) hh (Nat.ne_of_lt (Heap.lt_size (hup _ _ ho))) (Nat.ne_of_lt hTs) hp) ⟨Heap.get?_push_size _ rfl, (S.up fun o e => hup _ _ e).up fun o e => Heap.get?_push_of_some _ e, hT.push _⟩ (perm_pick hp)
    · rcases List.mem_cons.mp hb with rfl | hb
      · exact .inr hfr
      · rcases List.mem_cons.mp hb with rfl | hb
        · exact .inr hTn
        · exact .inl (List.mem_singleton.mp hb)
    · show b < (h'.push _).objs.size
      rw [size_push']
      rcases List.mem_cons.mp hb with rfl | hb
      · exact Nat.lt_succ_self _
      · rcases List.mem_cons.mp hb with rfl | hb
        · exact Nat.lt_succ_of_lt hTs
        · rw [List.mem_singleton.mp hb]; exact Nat.lt_succ_of_lt (Heap.lt_size (hup _ _ ho))
end
end Mine

/-! MSrc -/
namespace Mine
/-- something that is walked afresh by every iter() -/
structure Src (prog : Program) (w : World) (T : String) (r : Addr) (n : Nat) (Res : List Value → Prop) (OK : Heap → Prop) : Prop where
  type : ∀ s : Shared, OK s.heap → s.TypeIs (.ref r) T
  there : ∀ h : Heap, OK h → r < h.objs.size
  keep : ∀ h h' : Heap, OK h → (∀ o, h.get? r = some o → h'.get? r = some o) → OK h'
  notList : (Value.type T == Value.type "list") = false
  notTuple : (Value.type T == Value.type "tuple") = false
  hint : ∀ (A : Around) (E : Value → Shared → Prop) (s : Shared) (Q : Bool → Shared → Prop), OK s.heap → Q false s → wpAny (model prog w) A (Builtin.List.listLengthHint (.ref r)) Q E s
  iter : ∀ (A : Around) (s : Shared) (Q E : Value → Shared → Prop), A.handled = none → OK s.heap →
    (∀ (s' : Shared) (I : Addr) (fp : List Addr) (P : Nat → Value → Prop) (St : Nat → Heap → Prop), Grew s s' → s.heap.get? I = none → (∀ b ∈ fp, b = r ∨ s.heap.get? b = none) → (∀ b ∈ fp, b < s'.heap.objs.size) →
      Walks prog w A I fp [I] n P St → St 0 s'.heap → (∀ vs : List Value, vs.length = n → (∀ j v, vs[j]? = some v → P j v) → Res vs) → Q (.ref I) s') →
    wpAny (model prog w) A (pyIter (.ref r)) Q E s
section
variable {prog : Program} {w : World} {A : Around} {E : Value → Shared → Prop} {s : Shared} {T : String} {r : Addr} {n : Nat} {Res : List Value → Prop} {OK : Heap → Prop}
theorem src_extend {R : Result → Shared → Prop} (K : Src prog w T r n Res OK) (hh : A.handled = none) (hok : OK s.heap) (S : Addr) (hSr : S ≠ r) (res : Value) (c₀ : Nat) (hS : s.heap.get? S = some { cls := .type "list", dict := none, data := .seq #[] c₀, slots := #[] })
    (hR : ∀ s' acc' c', UpX [S] s.heap s'.heap → s'.gens = s.gens → s'.os = s.os → s'.heap.get? S = some { cls := .type "list", dict := none, data := .seq acc' c', slots := #[] } → acc'.toList.length = n → Res acc'.toList → R (.ok (.ret res)) s') (hn : n ≤ sizeLine) :
    wpAny (model prog w) A.in1 (Builtin.List.listExtendWith (.ref S) (.ref r) res)
      (fun fin s' => match fin with | .done f => R (.ok f) s' | .again c' => c'.quiet = true ∧ codeAny (model prog w) A c' R s') (fun e s' => R (.error e) s') s := by
  unfold Builtin.List.listExtendWith
  refine wpAny_bind (wpAny_typeOf (T := T) (K.type s hok) ?_)
  have h1 : Builtin.List.listSameRef (.ref S) (.ref r) = false := by simp [Builtin.List.listSameRef, hSr]
  simp only [h1, K.notList, K.notTuple, Bool.or_false, Bool.false_eq_true, if_false]
  refine wpAny_bind (K.iter A.in1 s _ _ hh hok fun s₁ I fp P St g hI hfp _ W st hres => ?_)
  have hSf : S ∉ fp := fun q => by
    rcases hfp S q with rfl | q'
    · exact hSr rfl
    · rw [q'] at hS; cases hS
  have hSI : S ≠ I := fun q => by rw [q, hI] at hS; cases hS
  have key : ∀ (h : Heap) (c₁ tk : Nat), St 0 h → UpX [S] s.heap h →
      h.get? S = some { cls := .type "list", dict := none, data := .seq #[] c₁, slots := #[] } → codeAny (model prog w) A (.builtin "list.extend.loop" ⟨[.ref S, .ref I, res], []⟩) R { s₁ with heap := h, toks := tk } := by
    intro h c₁ tk hst hk hS₁
    refine codeAny_extend_loopS W.toS hn S hSf res n 0 _ #[] c₁ rfl (Nat.zero_le _) hst hS₁ (ItemsOf.nil _) fun s' acc' c' hm hS' hacc => ?_
    have e := Moved.eq_with hm
    have g1 : s'.gens = s₁.gens := by rw [e]
    have g2 : s'.os = s₁.os := by rw [e]
    refine hR s' acc' c' (fun b o hb e => ?_) (g1.trans g.gens) (g2.trans g.os) hS' (by rw [Array.length_toList]; exact hacc.1) (hres _ (by rw [Array.length_toList]; exact hacc.1) fun j v e => hacc.2 j v (by rw [← Array.getElem?_toList]; exact e))
    refine hm.heap b o (fun hmem => ?_) (hk b o hb e)
    rcases List.mem_cons.mp hmem with e' | hmem
    · exact hb (by rw [e']; exact .head _)
    · rw [List.mem_singleton.mp hmem, hI] at e; cases e
  have hS₁ := g.up _ _ hS
  refine wpAny_bind (wpAny_holding (K.hint _ _ _ _ (K.keep _ _ hok fun o e => g.up _ _ e) ?_))
  refine wpAny_ite_split (fun _ => ?_) (fun _ => wpAny_pure ⟨plainId_quiet PySem.F.plain_extend_loop _, key _ c₀ s₁.toks st (g.up.toX _) hS₁⟩)
  refine wpAny_bind (wpAny_rule ?_)
  refine wpAny_bind ?_
  show wpAny _ _ (updateSeq S (·.push .none) >>= fun _ => updateSeq S (·.pop)) _ _ _
  refine wpAny_bind (wpAny_updateSeq hS₁ rfl ?_)
  have hS₂ := Heap.get?_update_self (Obj.mapSeq (·.push Value.none)) hS₁ rfl
  refine wpAny_updateSeq (hz := by seq_fits) hS₂ rfl ?_
  have hS₃ := Heap.get?_update_self (Obj.mapSeq (·.pop)) hS₂ rfl
  refine wpAny_pure ⟨plainId_quiet PySem.F.plain_extend_loop _, key _ _ s₁.toks ?_ (fun b o hb e => ?_) hS₃⟩
  · refine W.frame 0 _ _ st fun b hb o e => ?_
    have hbS : b ≠ S := fun h => hSf (h ▸ hb)
    exact (Heap.get?_update_other _ _ (Ne.symm hbS)).trans ((Heap.get?_update_other _ _ (Ne.symm hbS)).trans e)
  · have hb' : b ≠ S := fun q => hb (by rw [q]; exact .head _)
    exact (Heap.get?_update_other _ _ (Ne.symm hb')).trans ((Heap.get?_update_other _ _ (Ne.symm hb')).trans (g.up _ _ e))

theorem src_collect {R : List Value → Shared → Prop} (K : Src prog w T r n Res OK) (hh : A.handled = none) (hok : OK s.heap) (hn : n ≤ sizeLine)
    (h : ∀ (s' : Shared) (vs : List Value), Grew s s' → vs.length = n → Res vs → R vs s') :
    wpAny (model prog w) A (collect (.ref r)) R E s := by
  have hlt := K.there _ hok
  have hfr : s.heap.get? s.heap.objs.size = none := fresh_none' (Nat.le_refl _)
  unfold collect
  refine wpAny_bind (wpAny_runValue (codeAny_builtin entry_proto_collect' ?_))
  rw [Around.under_plainId PySem.F.plain_proto_collect _]
  show wpAny _ A.in1 (newList [] >>= fun l => again (.builtin "list.__iadd__" ⟨[l, .ref r], []⟩)) _ _ s
  refine wpAny_bind (wpAny_newObj_type ?_)
  refine wpAny_pure ⟨plainId_quiet PySem.F.plain_list_iadd _, codeAny_builtin entry_list_iadd' ?_⟩
  rw [Around.under_plainId PySem.F.plain_list_iadd _]
  have hS₁ : (s.heap.push { cls := .type "list", data := .seq ([] : List Value).toArray }).get? s.heap.objs.size = some { cls := .type "list", data := .seq #[] } := Heap.get?_push_size _ rfl
  show wpAny _ A.in1 (Builtin.List.listExtendWith (.ref s.heap.objs.size) (.ref r) (.ref s.heap.objs.size)) _ _ _
  have hup : Up s.heap (s.heap.push { cls := .type "list", data := .seq ([] : List Value).toArray }) := Up.push _
  have key := src_extend (A := A) (s := { s with heap := s.heap.push { cls := .type "list", data := .seq ([] : List Value).toArray } })
    (R := fun (q : Result) (s' : Shared) => ∃ (acc' : Array Value) (c' : Nat), q = .ok (.ret (.ref s.heap.objs.size)) ∧ Grew s s' ∧ s'.heap.get? s.heap.objs.size = some { cls := .type "list", dict := none, data := .seq acc' c', slots := #[] } ∧ acc'.toList.length = n ∧ Res acc'.toList)
    K hh (K.keep _ _ hok fun o e => Heap.get?_push_of_some _ e) s.heap.objs.size (Nat.ne_of_gt hlt) (.ref s.heap.objs.size) 0 hS₁
    (fun s' acc' c' hk g1 g2 hS' hl hr => ⟨acc', c', rfl, ⟨fun b o e => hk b o (fun q => by rw [List.mem_singleton.mp q, hfr] at e; cases e) (hup _ _ e), g1, g2⟩, hS', hl, hr⟩) hn
  refine wpAny_mono key (fun fin s' x => ?_) fun e s' x => ?_
  · cases fin with
    | done f =>
      obtain ⟨acc', c', e, g, hS', hl, hr⟩ := x
      cases e
      show wpAny _ A (load s.heap.objs.size >>= _) _ _ _
      refine wpAny_bind (wpAny_load hS' ?_)
      exact wpAny_pure (h s' acc'.toList g hl hr)
    | again c₁ =>
      refine ⟨x.1, codeAny_mono x.2 fun q s₂ y => ?_⟩
      obtain ⟨acc', c', rfl, g, hS', hl, hr⟩ := y
      show wpAny _ A (load s.heap.objs.size >>= _) _ _ _
      refine wpAny_bind (wpAny_load hS' ?_)
      exact wpAny_pure (h s₂ acc'.toList g hl hr)
  · obtain ⟨_, _, e', _⟩ := x
    cases e'
end
set_option maxHeartbeats 3200000 in
theorem Src.sorts {prog : Program} {w : World} {T : String} {r : Addr} {n : Nat} {OK : Heap → Prop} {ns : List Int} {h : Heap} (K : Src prog w T r n (fun vs => ∃ ms, IntsAre vs ms ∧ ms.Perm ns) OK) (hok : OK h) (h64 : n < 64) : Sorts prog w h (.ref r) ns := by
  intro A s Q E hh hu hQ
  refine Calls.call_function_entry kind_sorted plain_sorted entry_sorted (args_sorted1 _) ?_
  unfold Builtin.«sorted»
  refine wpAny_bind (m := checkCount "sorted" 1 1 _) (wpAny_pure ?_)
  have hsz : n ≤ sizeLine := by rw [sizeLine_eq]; omega
  refine wpAny_bind (src_collect (A := A.in1) K hh (K.keep _ _ hok fun o e => hu _ o e) hsz fun s₁ vs g hl hr => ?_)
  obtain ⟨ms, hI, hp⟩ := hr
  refine wpAny_bind (wpAny_newList ?_ (by rw [hl]; exact hsz))
  have hoL : (s₁.heap.push (seqObj "list" vs.toArray 0)).get? s₁.heap.objs.size = some (seqObj "list" vs.toArray 0) := Heap.get?_push_size _ rfl
  show wpAny _ _ _ _ _ { s₁ with heap := s₁.heap.push (seqObj "list" vs.toArray 0) }
  refine wpAny_bind (wpAny_holding (wpAny_call_entry slot_list_sort ⟨_, hoL, rfl⟩ entry_list_sort (list_sort_tree hoL hI (by omega) fun out ns' a1 a2 a3 => ⟨_, rfl, ?_⟩) (args_list_sort _)))
  have hfr : s.heap.get? s₁.heap.objs.size = none := by
    cases q : s.heap.get? s₁.heap.objs.size with
    | none => rfl
    | some o => exact absurd (Heap.lt_size (g.up _ _ q)) (Nat.lt_irrefl _)
  obtain ⟨e, he⟩ := sortedHeap_at (out := out) hoL
  refine wpAny_pure ⟨_, rfl, hQ _ s₁.heap.objs.size out.toList ns' ⟨fun b o eb => ?_, g.gens, g.os⟩ hfr ⟨e, by simpa using he⟩ a1 (a2.trans hp) a3⟩
  have hb := g.up _ _ eb
  have hlt := Heap.lt_size hb
  refine (sortedHeap_old (Nat.ne_of_lt hlt) (by rw [size_push']; exact Nat.lt_succ_of_lt hlt)).trans ?_
  rw [Heap.get?_push_ne _ _ _ (Nat.ne_of_lt hlt)]
  exact hb
end Mine

/-! MSrcSet -/
namespace Mine
section
variable {prog : Program} {w : World} {A : Around} {E : Value → Shared → Prop} {s : Shared}
theorem hint_set {r : Addr} {Q : Bool → Shared → Prop} (hT : s.TypeIs (.ref r) "set") (h : Q false s) : wpAny (model prog w) A (Builtin.List.listLengthHint (.ref r)) Q E s := by
  unfold Builtin.List.listLengthHint
  refine wpAny_bind (wpAny_specialOf hT PySem.F.slot_set_len.lookup ?_)
  generalize hid : ("set.__len__" : String) = id0
  wp_delta
  rw [show splitId id0 = some ("set", "__len__") from by subst hid; decide +kernel]
  subst hid
  refine wpAny_bind (wpAny_isInstance (T := "set") (b := true) hT (by rw [isSubtype_type]; kernel_rfl) ?_)
  refine wpAny_ite_split (fun hab => absurd hab (by decide)) (fun _ => ?_)
  refine wpAny_ite_split (fun _ => ?_) (fun hab => absurd (by decide +kernel) hab)
  refine wpAny_bind (wpAny_typeOf hT ?_)
  exact wpAny_pure h
theorem ints_perm {prog : Program} {w : World} : ∀ {es : List (Int × Value)}, ElemsOf (intKind prog w) es → IntsAre (es.map (·.2)) (es.map keyOf)
  | [], _ => .nil
  | (hh, v) :: r, h => by
    obtain ⟨⟨k, hk, _⟩, _⟩ := h (hh, v) (.head _)
    obtain ⟨t, rfl⟩ := Value.isInt_shape hk
    exact .cons _ _ (ints_perm fun e he => h e (.tail _ he))
theorem ints_permute {vs vs' : List Value} (p : vs'.Perm vs) : ∀ {ns : List Int}, IntsAre vs ns → ∃ ms, IntsAre vs' ms ∧ ms.Perm ns := by
  induction p with
  | nil => intro ns h; exact ⟨ns, h, .refl _⟩
  | cons x p ih =>
    intro ns h
    cases h with
    | cons n t h =>
      obtain ⟨ms, h3, h4⟩ := ih h
      exact ⟨_ :: ms, .cons _ _ h3, h4.cons _⟩
  | swap x y l =>
    intro ns h
    cases h with
    | cons n t h =>
      cases h with
      | cons n t h => exact ⟨_, .cons _ _ (.cons _ _ h), .swap _ _ _⟩
  | trans p q ihp ihq =>
    intro ns h
    obtain ⟨ms, h1, h2⟩ := ihq h
    obtain ⟨ks, h3, h4⟩ := ihp h1
    exact ⟨ks, h3, h4.trans h2⟩
theorem src_set {a : Addr} {es : Array (Int × Value)} {ep : Nat} {t : SetTable} {ns : List Int} (hel : ElemsOf (intKind prog w) es.toList) (hp : (es.toList.map keyOf).Perm ns) (hsz : es.size ≤ sizeLine) :
    Src prog w "set" a es.size (fun vs => ∃ ms, IntsAre vs ms ∧ ms.Perm ns) (fun h => SetIn w h a es ep t) where
  type := fun _ S => S.typeIs
  there := fun _ S => by obtain ⟨_, e, _⟩ := S.at_; exact Heap.lt_size e
  keep := fun _ _ S k => S.up k
  notList := by decide
  notTuple := by decide
  hint := fun _ _ _ _ S hq => hint_set S.typeIs hq
  iter := fun A s Q E hh S h => by
    refine iter_set hh hsz S fun s' I fp St ord g hI hfp hlt W st hord => h s' I fp _ St g hI hfp hlt W st fun vs hl hv => ?_
    have hvs : vs = ord := by
      have hol : ord.length = es.size := by rw [hord.length_eq, List.length_map, Array.length_toList]
      refine List.ext_getElem? fun j => ?_
      cases q : vs[j]? with
      | some v => exact (hv j v q).symm
      | none =>
        have := List.getElem?_eq_none_iff.mp q
        exact (List.getElem?_eq_none (by omega)).symm
    subst hvs
    obtain ⟨ms, h1, h2⟩ := ints_permute hord (ints_perm hel)
    exact ⟨ms, h1, h2.trans hp⟩
/-- sorted(set) -/
theorem SetAt.sorts {h : Heap} {a : Addr} {ks : List Int} (S : SetAt prog w h a ks) (h64 : ks.length < 64) : Sorts prog w h (.ref a) ks := by
  obtain ⟨o, es, ep, t, e, hx, hd, hel, hp, hb, hf, ht⟩ := S
  have hl : es.size = ks.length := by rw [← hp.length_eq, List.length_map, Array.length_toList]
  exact (src_set (w := w) (a := a) (ep := ep) (t := t) hel hp (by rw [sizeLine_eq]; omega)).sorts ⟨⟨o, e, hx, hd⟩, hf, ht⟩ (by omega)
end
end Mine

/-! MDict -/
namespace Mine
section
variable {prog : Program} {w : World} {A : Around} {E : Value → Shared → Prop} {s : Shared}
set_option maxHeartbeats 1600000 in
theorem noKeys {a : Addr} {xs : Array Value} {k : Nat} {Q : Option Value → Shared → Prop} (hx : s.heap.get? a = some { cls := .type "list", dict := none, data := .seq xs k, slots := #[] }) (hA : A.handled = none)
    (h : ∀ h' tk e, Heap.NewExcOf s.heap h' e "AttributeError" → Q none { s with heap := h', toks := tk }) :
    wpAny (model prog w) A (getAttr? (.ref a) "keys") Q E s := by
  have hmiss : typeLookup (.type "list") (Str.ofString "keys") = pure none := by rw [typeLookup_type, builtinLookup_eq_fast]; kernel_rfl
  have hname : (["__module__", "__name__", "__qualname__", "__doc__", "__annotations__"] : List Str).contains (Str.ofString "keys") = false := by decide +kernel
  obtain ⟨hp, g, d, tk, os⟩ := s
  have hT : ∀ tk', (⟨hp, g, d, tk', os⟩ : Shared).TypeIs (.ref a) "list" := fun _ => ⟨_, hx, rfl⟩
  have f1 := sub_AttributeError
  have f3 := F.slot_list_getattribute.lookup
  have f4 := F.slot_list_getattribute.bind (.ref a)
  have f5 := am_list_getattr_none
  unfold getAttr? getAttrBy? getAttrBy
  repeat (any_goals (first | assumption | exact hT _ | ((with_reducible show wpAny _ _ (call (Value.builtin "list.__getattribute__") _ _) _ _ _); refine call_meets F.slot_list_getattribute (hT _) am_entry_list_getattribute (F.args_list_getattribute_2 _ _) (meets_getattribute_miss_list a xs k #[] _ _ hmiss hname) ⟨hx, hA, fun h' tk' e hx' => ?_⟩) | wp_step))
  obtain ⟨t', u', he⟩ := hx'.there
  show wpAny _ _ (getattributeRaised _ _ _ _ _ _ _) _ _ _
  unfold getattributeRaised
  repeat (any_goals (first | assumption | wp_step))
  exact h _ _ _ hx'.of
end
end Mine

/-! MDict2 -/
namespace Mine
/-- two-item tuples, the first item an int -/
inductive KeyTups (h : Heap) : List Value → List Int → Prop
  | nil : KeyTups h [] []
  | cons {t : Addr} {n : Int} {u : Tok} {x : Value} {vs : List Value} {ns : List Int} : h.IsTuple t #[.int n u, x] → KeyTups h vs ns → KeyTups h (.ref t :: vs) (n :: ns)
theorem KeyTups.up {h h' : Heap} {vs : List Value} {ns : List Int} (K : KeyTups h vs ns) (k : Up h h') : KeyTups h' vs ns := by
  induction K with
  | nil => exact .nil
  | cons ht _ ih => exact .cons (IsTup.up' ht fun o e => k _ o e) ih
theorem KeyTups.length {h : Heap} {vs : List Value} {ns : List Int} (K : KeyTups h vs ns) : vs.length = ns.length := by
  induction K with
  | nil => rfl
  | cons _ _ ih => simp [ih]
theorem KeyTups.get {h : Heap} {vs : List Value} {ns : List Int} (K : KeyTups h vs ns) : ∀ {i : Nat} {v : Value}, vs[i]? = some v → ∃ t n u x, v = .ref t ∧ ns[i]? = some n ∧ h.IsTuple t #[.int n u, x] := by
  induction K with
  | nil => intro i v e; simp at e
  | cons ht _ ih =>
    intro i v e
    cases i with
    | zero => simp at e; exact ⟨_, _, _, _, e.symm, rfl, ht⟩
    | succ i => simp only [List.getElem?_cons_succ] at e ⊢; exact ih e
theorem stored_keys {kvs : List (Int × Value)} {k : Int} {v : Value} : (stored kvs k v).map (·.1) = addKey (kvs.map (·.1)) k := by
  unfold stored addKey
  by_cases h : k ∈ kvs.map (·.1)
  · obtain ⟨e, he, rfl⟩ := List.mem_map.mp h
    rw [if_pos h, if_pos (List.any_eq_true.mpr ⟨e, he, by simp⟩), List.map_map]
    refine List.map_congr_left fun x _ => ?_
    simp only [Function.comp_apply]
    split <;> rfl
  · rw [if_neg h, if_neg, List.map_append]
    · rfl
    · intro q
      obtain ⟨e, he, q⟩ := List.any_eq_true.mp q
      exact h (List.mem_map.mpr ⟨e, he, by simpa using q⟩)
theorem plain_dict_loop : plainId "dict.update.loop" = true := by decide +kernel
theorem entry_dict_loop : entryFor table "dict.update.loop" = some Builtin.«dict.update.loop» := entryFor_of_tree (by kernel_rfl)
section
variable {prog : Program} {w : World} {A : Around} {E : Value → Shared → Prop} {s : Shared}
def DictIs (prog : Program) (w : World) (h : Heap) (D : Addr) (ks : List Int) : Prop := ∃ kvs : List (Int × Value), h.DictOf (intKind prog w) D kvs ∧ kvs.map (·.1) = ks
theorem DictIs.up {h h' : Heap} {D : Addr} {ks : List Int} (x : DictIs prog w h D ks) (k : ∀ o, h.get? D = some o → h'.get? D = some o) : DictIs prog w h' D ks := by
  obtain ⟨kvs, ⟨o, es, ep, e, r⟩, q⟩ := x
  exact ⟨kvs, ⟨o, es, ep, k _ e, r⟩, q⟩
set_option maxHeartbeats 1600000 in
theorem dict_loop {R : Result → Shared → Prop} {h₀ : Heap} {I l S : Addr} {vs : List Value} {ns : List Int} (hh : A.handled = none) (hlI : l ≠ I) (hSl : S ≠ l) (hSI : S ≠ I) (hi : KeyTups h₀ vs ns) (hS0 : h₀.get? S = none) (hI0 : h₀.get? I = none) (hb : ns.length < 1000) :
    ∀ (k i : Nat) (s : Shared) (ks : List Int), ns.length - i = k → i ≤ ns.length → Up h₀ s.heap → (s.heap.IsListIter I l i ∧ s.heap.IsList l vs.toArray) → DictIs prog w s.heap S ks → ks.length ≤ i →
      (∀ h' tk, UpX [S, I] s.heap h' → DictIs prog w h' S ((ns.drop i).foldl addKey ks) → R (.ok (.ret .none)) { s with heap := h', toks := tk }) →
      codeAny (model prog w) A (.builtin "dict.update.loop" ⟨[.ref S, .ref I, rawInt i, .none], []⟩) R s := by
  have hlen : vs.length = ns.length := hi.length
  have W := Walks.list (prog := prog) (w := w) (A := A.in1) hh I l hlI vs.toArray
  intro k
  induction k with
  | zero =>
    intro i s ks hk hin hu hst hS _ hR
    have e : i = vs.toArray.size := by simp; omega
    refine codeAny_builtin entry_dict_loop ?_
    rw [Around.under_plainId plain_dict_loop _]
    show wpAny _ A.in1 (pyNext (.ref I) >>= _) _ _ s
    refine wpAny_bind (W.done s _ _ (e ▸ hst) fun h' tk hk' => ?_)
    show wpAny _ A.in1 (Builtin.Dict.addKeywords S [] >>= fun _ => ret Value.none) _ _ _
    refine wpAny_bind (wpAny_pure ?_)
    refine wpAny_pure (hR h' tk (fun b o hb e => hk' b o (fun q => hb (.tail _ q)) e) ?_)
    rw [List.drop_of_length_le (by omega)]
    exact hS.up fun o e => hk' _ _ (by simpa using hSI) e
  | succ k ih =>
    intro i s ks hk hin hu hst hS hks hR
    have hlt : i < ns.length := by omega
    refine codeAny_builtin entry_dict_loop ?_
    rw [Around.under_plainId plain_dict_loop _]
    show wpAny _ A.in1 (pyNext (.ref I) >>= _) _ _ s
    refine wpAny_bind (W.item i s _ _ (by simp; omega) hst fun v h' tk hP hst' hk' => ?_)
    obtain ⟨t, n, u, x, rfl, hn, ht⟩ := hi.get (by simpa using hP)
    have hS' : DictIs prog w h' S ks := hS.up fun o e => hk' _ _ (by simpa using hSI) e
    have ht' : h'.IsTuple t #[.int n u, x] := IsTup.up' ht fun o e => hk' _ _ (fun q => by rw [List.mem_singleton.mp q, hI0] at e; cases e) (hu _ _ e)
    obtain ⟨ot, hot, hct, nt, hdt⟩ := id ht'
    show wpAny _ _ (holding [_] _ >>= _) _ _ _
    refine wpAny_bind (wpAny_holding (wpAny_bind ?_))
    refine wpAny_tryCatch ?_
    unfold Builtin.Dict.pairItems
    refine wpAny_bind (wpAny_typeOf (s := { s with heap := h', toks := tk }) (T := "tuple") ⟨_, hot, hct⟩ ?_)
    have htt : (Value.type "tuple" == Value.type "tuple") = true := by decide
    simp only [htt, Bool.or_true, if_true]
    refine wpAny_bind (wpAny_seqItems (s := { s with heap := h', toks := tk }) hot hdt ?_)
    refine wpAny_pure ?_
    show wpAny _ _ (holding [Value.int n u, x] (dictSet S (.int n u) x)) _ _ _
    refine wpAny_holding ?_
    obtain ⟨kvs, hD, rfl⟩ := hS'
    have hsz : kvs.length ≤ sizeLine := by rw [List.length_map] at hks; rw [sizeLine_eq]; omega
    refine wpAny_dictSet_pairs (s := { s with heap := h', toks := tk }) (knd := intKind prog w) (k := n) (intKind_is _ _ _ _) hD (fun h2 hD2 hsb => ?_) hsz
    have hn' : ns[i] = n := by have := List.getElem?_eq_getElem hlt; rw [hn] at this; exact (Option.some.inj this).symm
    refine wpAny_pure ⟨plainId_quiet plain_dict_loop _, ?_⟩
    refine ih (i + 1) { s with heap := h2, toks := tk + 1 } (addKey (kvs.map (·.1)) n) (by omega) hlt (fun b o e => ?_) ?_ ⟨_, hD2, stored_keys⟩ (by have := addKey_len (kvs.map (·.1)) n; omega) fun h3 tk3 u3 S3 => ?_
    · refine (hsb.2 b (fun q => by rw [q, hS0] at e; cases e)).trans ?_
      exact hk' b o (fun q => by rw [List.mem_singleton.mp q, hI0] at e; cases e) (hu _ _ e)
    · exact ⟨hst'.1.at fun o e => (hsb.2 I (Ne.symm hSI)).trans e, hst'.2.at fun o e => (hsb.2 l (Ne.symm hSl)).trans e⟩
    · refine hR h3 tk3 (fun b o hb e => u3 b o hb ((hsb.2 b fun q => hb (q ▸ .head _)).trans (hk' b o (fun q => hb (.tail _ q)) e))) ?_
      have e : ns.drop i = ns[i] :: ns.drop (i + 1) := List.drop_eq_getElem_cons hlt
      rw [e, List.foldl_cons, hn']
      exact S3

/-- dict(list of two-item tuples) -/
theorem call_dict {l : Addr} {vs : List Value} {ns : List Int} {Q : Value → Shared → Prop} (hh : A.handled = none) (hl : s.heap.PlainList l vs.toArray) (hi : KeyTups s.heap vs ns) (hb : ns.length < 1000)
    (h : ∀ s' a, Grew s s' → s.heap.objs.size ≤ a → s.heap.get? a = none → DictIs prog w s'.heap a (keysL ns) → Q (.ref a) s') :
    wpAny (model prog w) A (call (.type "dict") [.ref l]) Q E s := by
  refine callType_codes (Q₁ := fun obj s₁ => obj = .ref s.heap.objs.size ∧ s₁ = { s with heap := s.heap.push { cls := .type "dict", data := .dict #[] } }) F.kt_called_dict (F.kt_typeCall_dict_1 _) F.entry_dict_init (kt_code_dict_new _ ⟨rfl, rfl⟩) ?_
  rintro obj s₁ ⟨rfl, rfl⟩
  have hnew : (s.heap.push { cls := .type "dict", data := .dict #[] }).DictOf (intKind prog w) s.heap.objs.size [] := Heap.DictOf.new s.heap
  have hup : Up s.heap (s.heap.push { cls := .type "dict", data := .dict #[] }) := Up.push _
  have hfr : s.heap.get? s.heap.objs.size = none := fresh_none' (Nat.le_refl _)
  have hls : l < s.heap.objs.size := by obtain ⟨_, e⟩ := hl; exact Heap.lt_size e
  have hlS : s.heap.objs.size ≠ l := Nat.ne_of_gt hls
  have hnewT : (Shared.TypeIs { s with heap := s.heap.push { cls := .type "dict", data := .dict #[] } } (.ref s.heap.objs.size) "dict") := hnew.typeIs
  have hss : s.heap.objs.size < (s.heap.push { cls := .type "dict", data := .dict #[] }).objs.size := by rw [size_push']; exact Nat.lt_succ_self _
  refine ⟨hnewT, F.args_dict_init_2 _ _, ?_⟩
  generalize s.heap.push { cls := .type "dict", data := .dict #[] } = H at hnew hup hnewT hss ⊢
  generalize hSS : s.heap.objs.size = S at hnew hfr hlS hnewT hss ⊢
  unfold Builtin.«dict.__init__»
  refine wpAny_bind ?_
  unfold Builtin.Dict.selfAndRest
  refine wpAny_bind (wpAny_notOrdered_dict hnewT ?_)
  show wpAny _ _ (pure (S, [Value.ref l])) _ _ _
  refine wpAny_pure ?_
  show wpAny _ _ (Builtin.Dict.updateFrom "dict.__init__" S (.ref l) [] .none) _ _ _
  unfold Builtin.Dict.updateFrom
  obtain ⟨nl, hgl⟩ := hl
  have hgl' := hup _ _ hgl
  refine wpAny_bind (wpAny_typeOf (s := { s with heap := H }) (T := "list") ⟨_, hgl', rfl⟩ ?_)
  rw [if_pos (by decide)]
  refine wpAny_bind (noKeys (s := { s with heap := H }) hgl' (by simp [hh]) fun h1 tk1 e1 hx => ?_)
  rw [if_pos (show (none : Option Value).isNone = true from rfl)]
  have hl1 : h1.IsList l vs.toArray := ⟨_, hx.keeps _ _ hgl', rfl, nl, rfl⟩
  have hS1 : DictIs prog w h1 S [] := ⟨[], by obtain ⟨o, es, ep, e, r⟩ := hnew; exact ⟨o, es, ep, hx.keeps _ _ e, r⟩, rfl⟩
  have hu1 : Up s.heap h1 := fun b o e => hx.keeps _ _ (hup _ _ e)
  refine wpAny_bind (wpAny_rule (wpAny_bind ?_))
  refine wpAny_pyIter_list hl1 ?_
  refine wpAny_pure ⟨plainId_quiet plain_dict_loop _, ?_⟩
  have hIs : s.heap.get? h1.objs.size = none := by
    cases q : s.heap.get? h1.objs.size with
    | none => rfl
    | some o => exact absurd (Heap.lt_size (hu1 _ _ q)) (Nat.lt_irrefl _)
  have hSI : S ≠ h1.objs.size := by
    obtain ⟨_, ⟨_, _, _, e, _⟩, _⟩ := hS1
    exact Nat.ne_of_lt (Heap.lt_size e)
  refine dict_loop (h₀ := s.heap) (ns := ns) (vs := vs) (by simp [hh]) (Nat.ne_of_lt (Heap.lt_size (hx.keeps _ _ hgl'))) hlS hSI hi hfr hIs hb (ns.length - 0) 0 _ [] rfl (Nat.zero_le _) (fun b o e => Heap.get?_push_of_some _ (hu1 _ _ e)) ⟨⟨_, Heap.get?_push_size _ rfl, rfl, rfl⟩, hl1.push _⟩
    (hS1.up fun o e => Heap.get?_push_of_some _ e) (Nat.le_refl _) fun h' tk hu S' => ?_
  refine ⟨rfl, h _ S ⟨fun b o e => hu b o ?_ (Heap.get?_push_of_some _ (hu1 b o e)), rfl, rfl⟩ (Nat.le_of_eq hSS) hfr (by simpa [keysL] using S')⟩
  simp only [List.mem_cons, List.not_mem_nil, or_false, not_or]
  exact ⟨fun q => (by rw [q, hfr] at e; cases e), fun q => (by rw [q] at e; rw [hIs] at e; cases e)⟩
theorem src_dict {D : Addr} {kvs : List (Int × Value)} {ep : Nat} (lo : (D == sysModules) = false) :
    Src prog w "dict" D kvs.length (fun vs => ∃ ms, IntsAre vs ms ∧ ms.Perm (kvs.map (·.1))) (fun h => h.DictAt (intKind prog w) D kvs ep) where
  type := fun _ hm => hm.dictOf.typeIs
  there := fun _ hm => hm.lt_size
  keep := fun _ _ hm hk => hm.at' hk
  notList := by decide
  notTuple := by decide
  hint := fun _ _ _ _ hm hq => kdl_hint_dict hm.dictOf.typeIs hq
  iter := fun A s Q E hh hm h => by
    refine wpAny_pyIter_dict lo hm ?_
    refine h _ s.heap.objs.size [s.heap.objs.size, D] _ _ ⟨Up.push _, rfl, rfl⟩ (fresh_none' (Nat.le_refl _)) (fun b hb => ?_) (fun b hb => ?_) (Walks.dictKeys hh _ D (Nat.ne_of_lt hm.lt_size) kvs ep) ⟨⟨_, Heap.get?_push_size _ rfl, rfl, rfl⟩, hm.push _⟩ fun vs hl hv => ?_
    · rcases List.mem_cons.mp hb with rfl | hb
      · exact .inr (fresh_none' (Nat.le_refl _))
      · exact .inl (List.mem_singleton.mp hb)
    · show b < (s.heap.push _).objs.size
      rw [size_push']
      rcases List.mem_cons.mp hb with rfl | hb
      · exact Nat.lt_succ_self _
      · rw [List.mem_singleton.mp hb]; exact Nat.lt_succ_of_lt hm.lt_size
    · refine ⟨kvs.map (·.1), ?_, .refl _⟩
      clear h hm
      induction vs generalizing kvs with
      | nil =>
        have : kvs = [] := List.length_eq_zero_iff.mp hl.symm
        subst this; exact .nil
      | cons v r ih =>
        cases kvs with
        | nil => simp at hl
        | cons kv kr =>
          obtain ⟨k, x, e, q⟩ := hv 0 v rfl
          simp at e
          subst e
          obtain ⟨t, rfl⟩ := Value.isInt_shape q
          exact .cons _ _ (ih (by simpa using hl) fun j v e => hv (j + 1) v (by simpa using e))
/-- sorted(dict) -/
theorem DictIs.sorts {h : Heap} {D : Addr} {ks : List Int} (S : DictIs prog w h D ks) (lo : (D == sysModules) = false) (h64 : ks.length < 64) : Sorts prog w h (.ref D) ks := by
  obtain ⟨kvs, hD, rfl⟩ := S
  obtain ⟨ep, hat⟩ := hD.dictAt
  exact (src_dict lo).sorts hat (by simpa using h64)
end
end Mine

/-! MPen -/
namespace Mine
/-- a pen: the list p, its digits at D -/
def PenAt (h : Heap) (p D : Addr) : Prop := ∃ (vs : List Value) (ds : List Int) (c d : Int) (u v : Tok), h.PlainList p #[.ref D, .int c u, .int d v] ∧ h.PlainList D vs.toArray ∧ IntsAre vs ds ∧ vs.length ≤ 63
theorem PenAt.ne {h : Heap} {p D : Addr} (P : PenAt h p D) : p ≠ D := by
  obtain ⟨vs, ds, c, d, u, v, ⟨n, e⟩, ⟨n', e'⟩, hi, _⟩ := P
  intro q
  rw [q, e'] at e
  have e1 : vs.toArray = #[.ref D, .int c u, .int d v] := by injection (Option.some.inj e) with _ _ q _; injection q
  have e2 : vs = [.ref D, .int c u, .int d v] := by simpa using congrArg Array.toList e1
  subst e2
  cases hi
theorem PenAt.up {h h' : Heap} {p D : Addr} (P : PenAt h p D) (k : ∀ b o, b = p ∨ b = D → h.get? b = some o → h'.get? b = some o) : PenAt h' p D := by
  obtain ⟨vs, ds, c, d, u, v, h1, h2, r⟩ := P
  exact ⟨vs, ds, c, d, u, v, h1.at fun o e => k _ o (.inl rfl) e, h2.at fun o e => k _ o (.inr rfl) e, r⟩
section
variable {prog : Program} {w : World} {A : Around} {E : Value → Shared → Prop} {s : Shared} {mg mb : Str → Option Value} {env : Env}
/-- xs[j] of a list -/
theorem ev_at {e : PySem.Expr} {j : Nat} {k2 : Nat} {p5 p6 : Pos} {r : Addr} {its : Array Value} {x : Value} {Q : Value → Shared → Prop}
    (he : ∀ Q', Q' (.ref r) s → wpAny (model prog w) A (eval e env) Q' E s) (hl : s.heap.IsList r its) (hx : its[j]? = some x) (hj : j < 2 ^ 62) (h : ∀ tk, Q x { s with toks := tk })
    (hs : ∀ u, subscripted (.Constant (.int j) k2 p5) false (.ref r) (.int j u) = operate [.ref r, .int j u] (getItem (.ref r) (.int j u)) := by intro u; with_unfolding_all rfl) :
    wpAny (model prog w) A (eval (.Subscript e (.Constant (.int j) k2 p5) p6) env) Q E s := by
  refine Subscript_ (he _ ?_)
  refine wpAny_Constant_int ?_
  have hl' : ({ s with toks := s.toks + 1 } : Shared).heap.IsList r its := hl
  refine tail_any (s := { s with toks := s.toks + 1 }) (hl'.typeIs) slot_list_getitem.lookup ?_ (hs _)
  exact wpAny_getItem_list hl' (by omega) (by omega) (by simpa using hx) (h _)

abbrev rDraw : DefRec := recAt 2 (by decide)
abbrev eDraw (L f : Addr) (cd : Value) : Env := envOf rDraw.name rDraw.scope L f cd
/-- ahead of the last three lines -/
structure DrawSt (L p D : Addr) (m : Str → Option Value) (c d : Int) (h : Heap) : Prop where
  ns : h.Ns L m
  pen : ∃ u v, h.PlainList p #[.ref D, .int c u, .int d v]
  dig : ∃ (vs : List Value) (ds : List Int), h.PlainList D vs.toArray ∧ IntsAre vs ds ∧ vs.length ≤ 63
theorem DrawSt.up {L p D : Addr} {m : Str → Option Value} {c d : Int} {h h' : Heap} (S : DrawSt L p D m c d h) (k : Up h h') : DrawSt L p D m c d h' :=
  ⟨S.ns.keeps k, let ⟨u, v, q⟩ := S.pen; ⟨u, v, q.at fun o e => k _ o e⟩, let ⟨vs, ds, q, r⟩ := S.dig; ⟨vs, ds, q.at fun o e => k _ o e, r⟩⟩
end
end Mine

/-! MDraw -/
namespace Mine
def bodyDrawTail : List Stmt := match rDraw.body with | _ :: _ :: r => r | _ => []
theorem Up.except {hb h h' : Heap} {X : List Addr} (U : Up hb h) (f : ∀ b ∈ X, hb.get? b = none) (k : UpX X h h') : Up hb h' := fun b o e => k b o (fun q => by rw [f b q] at e; cases e) (U b o e)
/-- what a draw leaves -/
structure Drew (hb : Heap) (X : List Addr) (p D : Addr) (s s' : Shared) : Prop where
  up : UpX X s.heap s'.heap
  base : Up hb s'.heap
  gens : s'.gens = s.gens
  os : s'.os = s.os
  pen : PenAt s'.heap p D
section
variable {prog : Program} {w : World} {A : Around} {E : Value → Shared → Prop} {s : Shared} {mg mb : Str → Option Value} {L p D f : Addr} {cd : Value} {m : Str → Option Value} {hb : Heap}
theorem pen_put {h : Heap} {n : Nat} {its : Array Value} (he : h.get? p = some { cls := .type "list", data := .seq its n }) (f : Array Value → Array Value) : Heap.SameBut p h (h.update p (Obj.mapSeq f)) ∧ (h.update p (Obj.mapSeq f)).PlainList p (f its) :=
  ⟨Heap.SameBut.update _ _ _, update_list he f⟩
theorem draw_tail {c d k : Int} {tk : Tok} (T : MyTop mg mb hb) (U : Up hb s.heap) (fr : ∀ b ∈ [p, D, L], hb.get? b = none) (S : DrawSt L p D m c d s.heap) (hp : m "pen" = some (.ref p)) (hm : m "many" = some (.int k tk)) (hk : 0 < k) (hk2 : k < 1000) (hpL : p ≠ L) (hDL : D ≠ L) (hpD : p ≠ D) :
    wpAny (model prog w) A (execs bodyDrawTail (eDraw L f cd)) (fun fl s' => (∃ v t, fl = .ret (.int v t) ∧ 0 ≤ v ∧ v < k) ∧ Drew hb [p, D, L] p D s s') E s := by
  obtain ⟨u, v, hP⟩ := S.pen
  obtain ⟨vs, ds, hD, hI, hlen⟩ := S.dig
  refine wpAny_execs_cons (wpAny_Assign_Name (wpAny_BinOp ?_))
  refine Call_ ?_
  refine ev_builtin (T.keeps U) rfl rfl rfl rfl (by decide) PyProof.Rows.boot_int ?_
  refine callWith_type1 (args_cons ?_)
  refine ev_at (j := 2) (its := #[.ref D, .int c u, .int d v]) (fun Q' h' => ev_local rfl rfl S.ns hp h') hP.isList rfl (by decide) fun t1 => ?_
  refine args_nil (call_int_int ?_)
  refine ev_local rfl rfl S.ns hm ?_
  refine mod_int (by omega) ?_
  refine wpAny_storeName_local rfl S.ns fun h₁ hn₁ hs₁ => ?_
  have k₁ : UpX [p, D, L] s.heap h₁ := (UpX.same (a := L) hs₁).mono (by simp)
  have hP₁ : h₁.PlainList p #[.ref D, .int c u, .int d v] := hP.at fun o e => (hs₁.2 _ hpL).trans e
  have hD₁ : h₁.PlainList D vs.toArray := hD.at fun o e => (hs₁.2 _ hDL).trans e
  have U₁ : Up hb h₁ := U.except fr k₁
  refine wpAny_execs_cons (wpAny_Assign_Subscript (wpAny_BinOp ?_))
  refine Call_ ?_
  refine ev_builtin (s := { s with heap := h₁, toks := _ }) (T.keeps U₁) rfl rfl rfl rfl (by decide) PyProof.Rows.boot_int ?_
  refine callWith_type1 (args_cons ?_)
  refine ev_at (s := { s with heap := h₁, toks := _ }) (j := 2) (its := #[.ref D, .int c u, .int d v]) (fun Q' h' => ev_local rfl rfl hn₁ ((if_neg (by decide)).trans hp) h') hP₁.isList rfl (by decide) fun t2 => ?_
  refine args_nil (call_int_int ?_)
  refine ev_local rfl rfl hn₁ ((if_neg (by decide)).trans hm) ?_
  refine floordiv_int (by omega) ?_
  refine ev_local rfl rfl hn₁ ((if_neg (by decide)).trans hp) ?_
  refine wpAny_Constant_int ?_
  obtain ⟨ep, hpe⟩ := hP₁
  refine ki_setAt hpe (by decide) (by decide) (by simp) ?_
  obtain ⟨hs₂, hP₂⟩ := pen_put hpe (·.setIfInBounds 2 (.int (d.fdiv k) t2))
  have hP₂' : (h₁.update p (Obj.mapSeq (·.setIfInBounds 2 (.int (d.fdiv k) t2)))).PlainList p #[.ref D, .int c u, .int (d.fdiv k) t2] := hP₂
  have k₂ : UpX [p, D, L] s.heap (h₁.update p (Obj.mapSeq (·.setIfInBounds 2 (.int (d.fdiv k) t2)))) := k₁.trans ((UpX.same hs₂).mono (by simp))
  have hD₂ : (h₁.update p (Obj.mapSeq (·.setIfInBounds 2 (.int (d.fdiv k) t2)))).PlainList D vs.toArray := hD₁.at fun o e => (hs₂.2 _ (Ne.symm hpD)).trans e
  have hn₂ := hn₁.sameBut hs₂ (Ne.symm hpL)
  refine wpAny_execs_cons (wpAny_Return_some (wpAny_BinOp (wpAny_BinOp ?_)))
  refine ev_local (s := { s with heap := h₁.update p _, toks := _ }) rfl rfl hn₂ (if_pos rfl) ?_
  refine ev_at (s := { s with heap := h₁.update p _, toks := _ }) (j := 1) (its := #[.ref D, .int c u, .int (d.fdiv k) t2]) (fun Q' h' => ev_local rfl rfl hn₂ ((if_neg (by decide)).trans hp) h') hP₂'.isList rfl (by decide) fun t3 => ?_
  refine wpAny_add_int ?_
  refine ev_local (s := { s with heap := h₁.update p _, toks := _ }) rfl rfl hn₂ ((if_neg (by decide)).trans hm) ?_
  refine mod_int (by omega) ?_
  exact ⟨⟨_, _, rfl, Int.fmod_nonneg_of_pos _ hk, Int.fmod_lt_of_pos _ hk⟩, k₂, U.except fr k₂, rfl, rfl, vs, ds, c, _, _, _, hP₂', hD₂, hI, hlen⟩
end
end Mine

/-! MDraw2 -/
namespace Mine
section
variable {prog : Program} {w : World} {A : Around} {E : Value → Shared → Prop} {s : Shared} {mg mb : Str → Option Value} {p D f : Addr} {cd : Value} {hb : Heap}
theorem call_draw {k : Int} {tk : Tok} {Q : Value → Shared → Prop} (T : MyTop mg mb hb) (U : Up hb s.heap) (fr : ∀ b ∈ [p, D], hb.get? b = none) (hf : mg "_law_draw" = some (.ref f)) (hh : A.handled = none) (hd : A.depth < recursionLimit) (hu : A.units + 100 < cLine)
    (P : PenAt s.heap p D) (hk : 0 < k) (hk2 : k < 1000)
    (h : ∀ s' v t, Drew hb [p, D] p D s s' → 0 ≤ v → v < k → Q (.int v t) s') :
    wpAny (model prog w) A (call (.ref f) [.ref p, .int k tk]) Q E s := by
  obtain ⟨a, o, pm, code, doc, h1, h2, h3, h4⟩ := T.fn rDraw (recAt_mem 2 (by decide))
  have ea : a = f := by
    have q : mg "_law_draw" = some (.ref a) := h1
    rw [hf] at q; cases q; rfl
  subst ea
  have T0 : MyTop mg mb s.heap := T.keeps U
  refine wpAny_call (call_plain_ret (binds := [("pen", .ref p), ("many", .int k tk)]) hd (U _ _ h2) h3 T0.nolimit (h4.keeps U) rfl (locs rfl) (fun h₁ F => ?_) rfl rfl rfl (by decide))
  have hA : (A.deeper (eDraw s.heap.objs.size a code)).handled = none := hh
  have hU : (A.deeper (eDraw s.heap.objs.size a code)).units + 64 < cLine := by show A.units + 3 + 64 < cLine; omega
  have hLs : s.heap.get? s.heap.objs.size = none := fresh_none (Nat.le_refl _)
  have hpD := P.ne
  obtain ⟨vs, ds, c, d, u, v, hP, hD, hI, hlen⟩ := P
  have hpL : p ≠ s.heap.objs.size := by obtain ⟨_, e⟩ := hP; exact ne_fresh hLs e
  have hDL : D ≠ s.heap.objs.size := by obtain ⟨_, e⟩ := hD; exact ne_fresh hLs e
  have hLb : hb.get? s.heap.objs.size = none := by
    cases q : hb.get? s.heap.objs.size with
    | none => rfl
    | some o => rw [U _ _ q] at hLs; cases hLs
  generalize s.heap.objs.size = L at F hA hU hLs hpL hDL hLb ⊢
  generalize A.deeper (eDraw L a code) = A' at hA hU ⊢
  have u₁ : Up s.heap h₁ := F.keep
  obtain ⟨mm, hmp, hmm, hn₁⟩ : ∃ mm : Str → Option Value, mm "pen" = some (.ref p) ∧ mm "many" = some (.int k tk) ∧ h₁.Ns L mm := ⟨_, rfl, rfl, F.ns⟩
  have hP₁ : h₁.PlainList p #[.ref D, .int c u, .int d v] := hP.at fun o e => u₁ _ _ e
  have hD₁ : h₁.PlainList D vs.toArray := hD.at fun o e => u₁ _ _ e
  have fr' : ∀ b ∈ [p, D, L], hb.get? b = none := by
    intro b hb'
    simp only [List.mem_cons, List.not_mem_nil, or_false] at hb'
    rcases hb' with rfl | rfl | rfl
    · exact fr _ (by simp)
    · exact fr _ (by simp)
    · exact hLb
  refine wpAny_execs_cons (wpAny_Assign_Subscript (wpAny_BinOp ?_))
  refine ev_at (env := eDraw L a code) (j := 1) (its := #[.ref D, .int c u, .int d v]) (fun Q' h' => ev_local rfl rfl hn₁ hmp h') hP₁.isList rfl (by decide) fun t1 => ?_
  refine wpAny_Constant_int (wpAny_add_int ?_)
  refine ev_local rfl rfl hn₁ hmp ?_
  refine wpAny_Constant_int ?_
  obtain ⟨ep, hpe⟩ := hP₁
  refine ki_setAt hpe (by decide) (by decide) (by simp) ?_
  obtain ⟨hs₂, hP₂⟩ := pen_put hpe (·.setIfInBounds 1 (.int (c + 1) (t1 + 1)))
  have hP₂' : (h₁.update p (Obj.mapSeq (·.setIfInBounds 1 (.int (c + 1) (t1 + 1))))).PlainList p #[.ref D, .int (c + 1) (t1 + 1), .int d v] := hP₂
  have k₂ : UpX [p, D, L] s.heap (h₁.update p (Obj.mapSeq (·.setIfInBounds 1 (.int (c + 1) (t1 + 1))))) := (u₁.toX _).trans ((UpX.same hs₂).mono (by simp))
  have hD₂ : (h₁.update p (Obj.mapSeq (·.setIfInBounds 1 (.int (c + 1) (t1 + 1))))).PlainList D vs.toArray := hD₁.at fun o e => (hs₂.2 _ (Ne.symm hpD)).trans e
  have hn₂ := hn₁.sameBut hs₂ (Ne.symm hpL)
  show wpAny _ _ _ _ _ { s with heap := h₁.update p (Obj.mapSeq (·.setIfInBounds 1 (.int (c + 1) (t1 + 1)))), toks := _ }
  generalize h₁.update p (Obj.mapSeq (·.setIfInBounds 1 (.int (c + 1) (t1 + 1)))) = h₂ at hs₂ hP₂' k₂ hD₂ hn₂ ⊢
  -- the end, from any state ahead of it
  have fin : ∀ (s₃ : Shared) (d' : Int), DrawSt L p D mm (c + 1) d' s₃.heap → UpX [p, D, L] s.heap s₃.heap → s₃.gens = s.gens → s₃.os = s.os →
      wpAny (model prog w) A' (execs bodyDrawTail (eDraw L a code)) (fun fl s' => wants Q E (.ok (.ret (match fl with | .ret v => v | _ => .none))) s') (fun _ _ => False) s₃ := by
    intro s₃ d' S₃ k₃ g1 g2
    refine wpAny_mono (draw_tail T (U.except fr' k₃) fr' S₃ (tk := tk) (k := k) hmp hmm hk hk2 hpL hDL hpD) (fun fl s' hx => ?_) fun _ _ e => e
    obtain ⟨⟨x, t, rfl, x0, xk⟩, dr⟩ := hx
    refine h s' x t ⟨fun b o hb' e => (k₃.trans dr.up) b o ?_ e, dr.base, dr.gens.trans g1, dr.os.trans g2, dr.pen⟩ x0 xk
    simp only [List.mem_cons, List.not_mem_nil, or_false, not_or] at hb' ⊢
    exact ⟨hb'.1, hb'.2, ne_fresh hLs e⟩
  refine wpAny_execs_cons ?_
  refine wpAny_If ?_
  refine isTrue_and ?_
  refine wpAny_isTrue_Compare1 ?_
  refine ev_at (env := eDraw L a code) (s := { s with heap := h₂, toks := _ }) (j := 2) (its := #[.ref D, .int (c + 1) (t1 + 1), .int d v]) (fun Q' h' => ev_local rfl rfl hn₂ hmp h') hP₂'.isList rfl (by decide) fun t2 => ?_
  refine wpAny_Constant_int (eq_int (wpAny_truthy_bool ?_))
  have St : DrawSt L p D mm (c + 1) d h₂ := ⟨hn₂, ⟨_, _, hP₂'⟩, ⟨vs, ds, hD₂, hI, hlen⟩⟩
  by_cases e0 : d = 0
  · subst e0
    simp only [beq_self_eq_true, if_true]
    refine isTrue_and ?_
    refine wpAny_isTrue_Compare1 ?_
    refine ev_at (env := eDraw L a code) (s := { s with heap := h₂, toks := _ }) (j := 0) (its := #[.ref D, .int (c + 1) (t1 + 1), .int 0 v]) (fun Q' h' => ev_local rfl rfl hn₂ hmp h') hP₂'.isList rfl (by decide) fun t3 => ?_
    refine List_ (args_nil (wpAny_newList ?_))
    have St' := St.up (Up.push { cls := .type "list", data := .seq ([] : List Value).toArray })
    have hD₂' : (h₂.push { cls := .type "list", data := .seq ([] : List Value).toArray }).PlainList D vs.toArray := hD₂.at fun o e => Heap.get?_push_of_some _ e
    have hP₃ : (h₂.push { cls := .type "list", data := .seq ([] : List Value).toArray }).PlainList p #[.ref D, .int (c + 1) (t1 + 1), .int 0 v] := hP₂'.at fun o e => Heap.get?_push_of_some _ e
    have k₃ : UpX [p, D, L] s.heap (h₂.push { cls := .type "list", data := .seq ([] : List Value).toArray }) := k₂.trans ((Up.push _).toX _)
    have hn₃ := hn₂.keeps (Up.push { cls := .type "list", data := .seq ([] : List Value).toArray })
    refine ne_lists (s := { s with heap := h₂.push _, toks := _ }) (list_reads hD₂'.isList (ints_reads hI)) (list_reads (vs := []) ⟨_, Heap.get?_push_size _ rfl, rfl, _, rfl⟩ (.nil)) (canLay_ints _) rfl hU (by rw [depth_ints]; omega) ?_
    refine wpAny_truthy_bool ?_
    have e : PyData.eqvAll (ds.map PyData.int) [] = decide (ds = []) := eqv_ints ds []
    rw [e]
    generalize h₂.push { cls := .type "list", data := .seq ([] : List Value).toArray } = h₃ at St' hD₂' hP₃ k₃ hn₃ ⊢
    by_cases e1 : ds = []
    · subst e1
      simp only [decide_true, Bool.not_true, Bool.false_eq_true, if_false]
      refine wpAny_execs_nil ?_
      exact fin { s with heap := h₃, toks := _ } 0 St' k₃ rfl rfl
    · simp only [e1, decide_false, Bool.not_false, if_true]
      refine isTrue_and_nil ?_
      simp only [if_true]
      cases hI with
      | nil => exact absurd rfl e1
      | @cons n tn vs' ds' hI' =>
      refine wpAny_execs_cons (wpAny_Assign_Subscript ?_)
      refine MethodCall_ ?_
      refine ev_at (env := eDraw L a code) (s := { s with heap := h₃, toks := _ }) (j := 0) (its := #[.ref D, .int (c + 1) (t1 + 1), .int 0 v]) (fun Q' h' => ev_local rfl rfl hn₃ hmp h') hP₃.isList rfl (by decide) fun t4 => ?_
      obtain ⟨nD, hDe⟩ := hD₂'
      refine getMethod_builtin (s := { s with heap := h₃, toks := _ }) ⟨_, hDe, rfl⟩ PySem.F.plainAttrs_list PySem.F.slot_list_pop PySem.F.type_list_pop (fun a e => by cases e; exact ⟨_, hDe, rfl⟩) ?_
      refine callWith_method1 (args_cons (wpAny_Constant_int (args_nil ?_)))
      refine call_meets (s := { s with heap := h₃, toks := _ }) PySem.F.slot_list_pop ⟨_, hDe, rfl⟩ PySem.F.entry_list_pop (PySem.F.args_list_pop_2 _ _) (PySem.MeetsSeq.list_pop_at D (Value.int n tn :: vs').toArray nD 0 _ 0 (.int n tn) (by decide) (by simp [seqIndex?]) (by simp) ?_) ⟨hDe, ?_⟩
      · simp only [List.size_toArray, sizeLine_eq]; omega
      have hsD : Heap.SameBut D h₃ (h₃.update D (Obj.mapSeq fun xs => xs.eraseIdxIfInBounds 0)) := Heap.SameBut.update _ _ _
      have hD4 : (h₃.update D (Obj.mapSeq fun xs => xs.eraseIdxIfInBounds 0)).PlainList D vs'.toArray := by
        have q := update_list hDe (fun xs => xs.eraseIdxIfInBounds 0)
        have e : ((Value.int n tn :: vs').toArray.eraseIdxIfInBounds 0) = vs'.toArray := by simp [Array.eraseIdxIfInBounds]
        rw [e] at q; exact q
      have hP4 : (h₃.update D (Obj.mapSeq fun xs => xs.eraseIdxIfInBounds 0)).PlainList p #[.ref D, .int (c + 1) (t1 + 1), .int 0 v] := hP₃.at fun o e => (hsD.2 _ hpD).trans e
      have hn4 := hn₃.sameBut hsD (Ne.symm hDL)
      have k4 : UpX [p, D, L] s.heap (h₃.update D (Obj.mapSeq fun xs => xs.eraseIdxIfInBounds 0)) := k₃.trans ((UpX.same hsD).mono (by simp))
      show wpAny _ _ _ _ _ { s with heap := h₃.update D (Obj.mapSeq fun xs => xs.eraseIdxIfInBounds 0), toks := _ }
      generalize h₃.update D (Obj.mapSeq fun xs => xs.eraseIdxIfInBounds 0) = h₄ at hD4 hP4 hn4 k4 ⊢
      refine ev_local rfl rfl hn4 hmp ?_
      refine wpAny_Constant_int ?_
      obtain ⟨ep4, hpe4⟩ := hP4
      refine ki_setAt hpe4 (by decide) (by decide) (by simp) ?_
      obtain ⟨hs5, hP5⟩ := pen_put hpe4 (·.setIfInBounds 2 (.int n tn))
      have hP5' : (h₄.update p (Obj.mapSeq (·.setIfInBounds 2 (.int n tn)))).PlainList p #[.ref D, .int (c + 1) (t1 + 1), .int n tn] := hP5
      have k5 : UpX [p, D, L] s.heap (h₄.update p (Obj.mapSeq (·.setIfInBounds 2 (.int n tn)))) := k4.trans ((UpX.same hs5).mono (by simp))
      have hD5 : (h₄.update p (Obj.mapSeq (·.setIfInBounds 2 (.int n tn)))).PlainList D vs'.toArray := hD4.at fun o e => (hs5.2 _ (Ne.symm hpD)).trans e
      have hn5 := hn4.sameBut hs5 (Ne.symm hpL)
      refine wpAny_execs_nil ?_
      refine fin { s with heap := h₄.update p (Obj.mapSeq (·.setIfInBounds 2 (.int n tn))), toks := _ } n ⟨hn5, ⟨_, _, hP5'⟩, ⟨vs', ds', hD5, hI', ?_⟩⟩ k5 rfl rfl
      simp only [List.length_cons] at hlen; omega
  · have : (d == 0) = false := by simpa using e0
    simp only [this, if_false, Bool.false_eq_true]
    refine wpAny_execs_nil ?_
    exact fin { s with heap := h₂, toks := _ } d St k₂ rfl rfl
end
end Mine

/-! MPick -/
namespace Mine
abbrev rPick : DefRec := recAt 3 (by decide)
abbrev ePick (L f : Addr) (cd : Value) : Env := envOf rPick.name rPick.scope L f cd
section
variable {prog : Program} {w : World} {A : Around} {E : Value → Shared → Prop} {s : Shared} {mg mb : Str → Option Value} {p D f l : Addr} {cd : Value} {hb : Heap}
theorem call_pick {vs : List Value} {ns : List Int} {Q : Value → Shared → Prop} (T : MyTop mg mb hb) (U : Up hb s.heap) (fr : ∀ b ∈ [p, D], hb.get? b = none) (hf : mg "_law_pick" = some (.ref f)) (hh : A.handled = none) (hd : A.depth + 1 < recursionLimit) (hu : A.units + 200 < cLine)
    (P : PenAt s.heap p D) (hl : s.heap.IsList l vs.toArray) (hI : IntsAre vs ns) (hlen : 0 < ns.length) (hlen2 : ns.length < 1000) (hlp : l ≠ p) (hlD : l ≠ D)
    (h : ∀ s' v t, Drew hb [p, D] p D s s' → v ∈ ns → Q (.int v t) s') :
    wpAny (model prog w) A (call (.ref f) [.ref p, .ref l]) Q E s := by
  obtain ⟨a, o, pm, code, doc, h1, h2, h3, h4⟩ := T.fn rPick (recAt_mem 3 (by decide))
  have ea : a = f := by
    have q : mg "_law_pick" = some (.ref a) := h1
    rw [hf] at q; cases q; rfl
  subst ea
  obtain ⟨fd, od, _, _, _, hfd, hod, hdd, _⟩ := T.fn rDraw (recAt_mem 2 (by decide))
  have T0 : MyTop mg mb s.heap := T.keeps U
  refine wpAny_call (call_plain_ret (binds := [("pen", .ref p), ("some", .ref l)]) (by omega) (U _ _ h2) h3 T0.nolimit (h4.keeps U) rfl (locs rfl) (fun h₁ F => ?_) rfl rfl rfl (by decide))
  have hA : (A.deeper (ePick s.heap.objs.size a code)).handled = none := hh
  have hU : (A.deeper (ePick s.heap.objs.size a code)).units + 100 < cLine := by show A.units + 3 + 100 < cLine; omega
  have hDp : (A.deeper (ePick s.heap.objs.size a code)).depth < recursionLimit := by show A.depth + 1 < recursionLimit; omega
  generalize s.heap.objs.size = L at F hA hU hDp ⊢
  generalize A.deeper (ePick L a code) = A' at hA hU hDp ⊢
  have u₁ : Up s.heap h₁ := F.keep
  have P₁ : PenAt h₁ p D := P.up fun b o _ e => u₁ b o e
  obtain ⟨mm, hmp, hmm, hn₁⟩ : ∃ mm : Str → Option Value, mm "pen" = some (.ref p) ∧ mm "some" = some (.ref l) ∧ h₁.Ns L mm := ⟨_, rfl, rfl, F.ns⟩
  have U₁ : Up hb h₁ := U.trans u₁
  have hl₁ : h₁.IsList l vs.toArray := hl.at fun o e => u₁ _ _ e
  refine wpAny_execs_cons (wpAny_Return_some ?_)
  refine Subscript_ ?_
  refine ev_local rfl rfl hn₁ hmm ?_
  refine Call_ ?_
  refine ev_global (s := { s with heap := h₁, toks := _ }) (T.keeps U₁) rfl rfl rfl hfd ?_
  refine callWith_def hdd (args_cons ?_)
  refine ev_local rfl rfl hn₁ hmp ?_
  refine args_cons (Call_ ?_)
  refine ev_builtin (s := { s with heap := h₁, toks := _ }) (T.keeps U₁) rfl rfl rfl rfl (by decide) PyProof.Rows.Boot.len ?_
  refine callWith_builtin1 (args_cons ?_)
  refine ev_local rfl rfl hn₁ hmm ?_
  have hvl : vs.length = ns.length := hI.length
  refine args_nil (PyProof.Rows.len_list hl₁ (by simp only [List.size_toArray]; omega) (args_nil ⟨U₁ _ _ hod, ?_⟩))
  refine call_draw (s := { s with heap := h₁, toks := _ }) T U₁ fr hfd hA hDp hU P₁ (by simp only [List.size_toArray]; omega) (by simp only [List.size_toArray]; omega) fun s' v t dr v0 vk => ?_
  simp only [List.size_toArray] at vk
  have hl2 : s'.heap.IsList l vs.toArray := hl₁.at fun o e => dr.up _ _ (by simp only [List.mem_cons, List.not_mem_nil, or_false, not_or]; exact ⟨hlp, hlD⟩) e
  refine tail_any (hl2.typeIs) slot_list_getitem.lookup ?_ (by with_unfolding_all rfl)
  have hvn : v.toNat < ns.length := by omega
  obtain ⟨tx, hx⟩ := hI.get v.toNat ns[v.toNat] (by simp [hvn])
  refine wpAny_getItem_list hl2 v0 (by omega) (by simpa using hx) ?_
  exact h s' _ tx ⟨fun b o hb' e => dr.up b o hb' (u₁ b o e), dr.base, dr.gens, dr.os, dr.pen⟩ (List.getElem_mem _)
end
end Mine

/-! MComp -/
namespace Mine
section
variable {prog : Program} {w : World} {A : Around} {E : Value → Shared → Prop} {env : Env}
theorem comp_eff {elt iter : PySem.Expr} {x : Str} {px : Pos} {scope : Scope} {cl : List (Str × Addr)} {pos : Pos} {s₂ : Shared} {I : Addr} {n : Nat} {P : Nat → Value → Prop} {St : Nat → Heap → Prop} {Q : Value → Shared → Prop}
    (W : Walks prog w A I [I] [I] n P St) (hsz : n ≤ sizeLine) (Xe : List Addr) (J : Nat → List Value → Shared → Prop)
    (hcell : ∀ y ∈ scope.names, y.2 ≠ .cell) (hkind : scope.kind = .function) (hx : scope.names.lookup x = some .local) (hst : St 0 s₂.heap) (hI : I < s₂.heap.objs.size) (hIX : I ∉ Xe) (hXl : ∀ b ∈ Xe, b < s₂.heap.objs.size)
    (hJ0 : J 0 [] s₂)
    (hJm : ∀ i ys a b (Z : List Addr), J i ys a → UpX Z a.heap b.heap → b.gens = a.gens → b.os = a.os → (∀ z ∈ Z, z = I ∨ s₂.heap.get? z = none) → J i ys b)
    (helt : ∀ C i v s₃ m ys (E' : Value → Shared → Prop), s₂.heap.get? C = none → i < n → P i v → s₃.heap.Ns C m → m x = some v → J i ys s₃ →
      wpAny (model prog w) A (eval elt (compEnvC scope cl C env)) (fun y s₄ => J (i + 1) (ys ++ [y]) s₄ ∧ UpX Xe s₃.heap s₄.heap) E' s₃)
    (hQ : ∀ D s' ys, s₂.heap.get? D = none → J n ys s' → s'.heap.PlainList D ys.toArray → Q (.ref D) s') :
    wpAny (model prog w) A (newList []) (fun acc s₃ => wpAny (model prog w) A (newFunctionEnv scope env.globals cl [] env.qual none .none (some env)) (fun cenv s₄ =>
      codeAny (model prog w) A (.compStart (.ListComp elt [⟨.Name x px, iter, [], 0⟩] scope pos) 0 (.ref I) acc { cenv with scope := relabel scope env }) (compPost (model prog w) A E none Q acc cenv.locals) s₄) E s₃) E s₂ := by
  refine wpAny_newObj_type (wpAny_newFunctionEnv hcell (by intro y hy; simp at hy) (fun h₁ hns₁ hsb₁ => ?_) hkind)
  dsimp only at hns₁ hsb₁ ⊢
  generalize hH2 : s₂.heap.push { cls := .type "list", dict := none, data := .seq ([] : List Value).toArray } = H2 at hns₁ hsb₁ ⊢
  have hC : H2.objs.size = s₂.heap.objs.size + 1 := by rw [← hH2, Heap.size_push]
  have hDC : s₂.heap.objs.size ≠ H2.objs.size := by rw [hC]; exact Nat.ne_of_lt (Nat.lt_succ_self _)
  have below : ∀ b, b < s₂.heap.objs.size → b ≠ H2.objs.size ∧ b ≠ s₂.heap.objs.size := fun b hb => ⟨by rw [hC]; exact Nat.ne_of_lt (Nat.lt_succ_of_lt hb), Nat.ne_of_lt hb⟩
  have old : Up s₂.heap h₁ := fun b o e => hsb₁.extBut b o (below b (Heap.lt_size e)).1 (Heap.get?_push_of_some _ (hH2 ▸ Heap.get?_push_of_some _ e))
  have hacc : h₁.PlainList s₂.heap.objs.size #[] := ⟨_, hsb₁.extBut _ _ hDC (Heap.get?_push_of_some _ (hH2 ▸ Heap.get?_push_size _ rfl))⟩
  have hst₁ : St 0 h₁ := W.frame _ _ _ hst fun b _ o e => old b o e
  have hfD : s₂.heap.get? s₂.heap.objs.size = none := fresh_none' (Nat.le_refl _)
  have hfC : s₂.heap.get? H2.objs.size = none := fresh_none' (by rw [hC]; exact Nat.le_succ _)
  have hDI : s₂.heap.objs.size ≠ I := Nat.ne_of_gt hI
  have hCI : H2.objs.size ≠ I := (below I hI).1.symm
  have hDX : s₂.heap.objs.size ∉ Xe := fun q => Nat.lt_irrefl _ (hXl _ q)
  have hCX : H2.objs.size ∉ Xe := fun q => (below _ (hXl _ q)).1 rfl
  generalize s₂.heap.objs.size = D at *
  generalize H2.objs.size = C at *
  have hxr : (compEnvC scope cl C env).kindOf x = some .local := lookup_relabel_local hx
  have loop : ∀ s₃ : Shared, s₃.heap = h₁ → s₃.gens = s₂.gens → s₃.os = s₂.os →
      codeAny (model prog w) A (.compLoop (.ListComp elt [⟨.Name x px, iter, [], 0⟩] scope pos) 0 (.ref I) (.ref D) (compEnvC scope cl C env))
        (compPost (model prog w) A E none Q (.ref D) C) s₃ := by
    intro s₃ e1 e2 e3
    refine codeAny_compLoop_tests (fun k s' => ∃ i ys m, i ≤ n ∧ k = n + 1 - i ∧ St i s'.heap ∧ s'.heap.PlainList D ys.toArray ∧ s'.heap.Ns C m ∧ J i ys s' ∧ ys.length = i) ?_ (n + 1)
      ⟨0, [], _, Nat.zero_le _, rfl, by rw [e1]; exact hst₁, by rw [e1]; exact hacc, by rw [e1]; exact hns₁, hJm 0 [] s₂ s₃ [] hJ0 (by rw [e1]; exact old.toX _) e2 e3 (by simp), rfl⟩
    rintro k s' ⟨i, ys, m', hi, rfl, hst', hacc', hn', hJ', hyl⟩
    by_cases hlt : i < n
    · refine W.item i _ _ _ hlt hst' fun v h₁' tk₁ hPv hst₁' hk₁ => ?_
      refine wpAny_assign_Name (wpAny_storeName_local hxr (hn'.at' fun o e => hk₁ _ o (by simpa using hCI) e) (fun h₂ hn₂ hs₂ => ?_) (by simp [compEnvC, relabel, hkind]))
      have k₂ : UpX [I, C] s'.heap h₂ := fun b o hb e => by
        simp only [List.mem_cons, List.not_mem_nil, or_false, not_or] at hb
        exact (hs₂.2 b hb.2).trans (hk₁ b o (by simpa using hb.1) e)
      have hJ₂ : J i ys { s' with heap := h₂, toks := tk₁ + 1 } := hJm i ys s' _ [I, C] hJ' k₂ rfl rfl (by
        intro z hz
        rcases List.mem_cons.mp hz with rfl | hz
        · exact .inl rfl
        · rw [List.mem_singleton.mp hz]; exact .inr hfC)
      have hst₂ : St (i + 1) h₂ := W.frame _ _ _ hst₁' fun b hb o e => (hs₂.2 b (by rw [List.mem_singleton.mp hb]; exact Ne.symm hCI)).trans e
      refine wpAny_tests_nil ?_
      rw [if_pos rfl]
      refine wpAny_mono (helt C i v _ _ ys _ hfC hlt hPv hn₂ (if_pos rfl) hJ₂) (fun y s₄ h₄ => ?_) fun _ _ e => e
      obtain ⟨hJ₄, hk₄⟩ := h₄
      have hacc₄ : s₄.heap.PlainList D ys.toArray := hacc'.at fun o e => hk₄ _ o hDX (k₂ _ o (by simp only [List.mem_cons, List.not_mem_nil, or_false, not_or]; exact ⟨hDI, hDC⟩) e)
      refine wpAny_list_append_plain (hsz := by simp only [List.size_toArray]; omega) hacc₄ fun h₅ hl₅ hs₅ => ?_
      refine ⟨n + 1 - (i + 1), by omega, i + 1, ys ++ [y], _, hlt, rfl, ?_, by simpa using hl₅, (hn₂.at' fun o e => hk₄ _ o hCX e).sameBut hs₅ (Ne.symm hDC), ?_, by simp [hyl]⟩
      · refine W.frame _ _ _ hst₂ fun b hb o e => ?_
        rw [List.mem_singleton.mp hb] at e ⊢
        exact (hs₅.2 I (Ne.symm hDI)).trans (hk₄ _ o hIX e)
      · exact hJm _ _ s₄ _ [D] hJ₄ (UpX.same hs₅) rfl rfl (by intro z hz; rw [List.mem_singleton.mp hz]; exact .inr hfD)
    · have hin : i = n := by omega
      subst hin
      refine W.done _ _ _ hst' fun h₁' tk₁ hk₁ => ?_
      refine ⟨m', hn'.at' fun o e => hk₁ _ o (by simpa using hCI) e, fun h' hs' => hQ D _ ys hfD (hJm _ _ s' _ [I, C] hJ' (fun b o hb e => ?_) rfl rfl ?_) (hacc'.at fun o e => (hs'.2 D hDC).trans (hk₁ _ o (by simpa using hDI) e))⟩
      · simp only [List.mem_cons, List.not_mem_nil, or_false, not_or] at hb
        exact (hs'.2 b hb.2).trans (hk₁ b o (by simpa using hb.1) e)
      · intro z hz
        rcases List.mem_cons.mp hz with rfl | hz
        · exact .inl rfl
        · rw [List.mem_singleton.mp hz]; exact .inr hfC
  exact codeAny_compStart_list (loop _ rfl rfl rfl) (W.self 0 _ _ _ hst₁ (loop _ rfl rfl rfl))

/-- iter(range(v)) -/
theorem range_iter {s : Shared} {v : Int} {t : Tok} {Q : Value → Shared → Prop} (hh : A.handled = none) (h0 : -1000 < v) (h1 : v < 1000)
    (h : ∀ s' I, Grew s s' → s.heap.get? I = none → I < s'.heap.objs.size → Walks prog w A I [I] [I] v.toNat (fun i x => ∃ t, x = .int (0 + i * 1) t) (fun i h => IsRangeIter h I (0 + (i : Nat) * 1) ((v.toNat : Int) - (i : Nat)) 1) → IsRangeIter s'.heap I (0 + ((0 : Nat) : Int) * 1) ((v.toNat : Int) - ((0 : Nat) : Int)) 1 → Q (.ref I) s') :
    wpAny (model prog w) A (call (.type "range") [.int v t]) (fun r s₁ => wpAny (model prog w) A (pyIter r) Q E s₁) E s := by
  refine call_range_1 ?_
  refine wpAny_pyIter_range (IsRange.new _ _ _ _ _ _ _) (small_one (by omega) (by omega) (by omega) (by omega)) ?_
  have hrs : Builtin.Range.rangeSize 0 v 1 = ((v.toNat : Nat) : Int) := by have := rangeSize_nat 0 v; simpa using this
  rw [hrs]
  refine h _ (s.heap.push { cls := .type "range", data := .fields #[.int 0 s.toks, .int v t, .int 1 (s.toks + 1)] }).objs.size ⟨(Up.push _).trans (Up.push _), rfl, rfl⟩ (fresh_none' (by rw [size_push']; exact Nat.le_succ _)) ?_ (Walks.range hh _ 0 1 _) ?_
  · show _ < (Heap.push _ _).objs.size
    rw [size_push' (s.heap.push { cls := .type "range", data := .fields #[.int 0 s.toks, .int v t, .int 1 (s.toks + 1)] })]
    exact Nat.lt_succ_self _
  · have e1 : (0 : Int) + ((0 : Nat) : Int) * 1 = 0 := by simp
    have e2 : (v.toNat : Int) - ((0 : Nat) : Int) = (v.toNat : Int) := by simp
    rw [e1, e2]
    exact Heap.get?_push_size _ rfl
end
end Mine

/-! MNumb -/
namespace Mine
abbrev rNumb : DefRec := recAt 4 (by decide)
abbrev eNumb (L f : Addr) (cd : Value) : Env := envOfC rNumb.name rNumb.scope L f cd
theorem cells_numb (L : Addr) : cellsFrom (L + 1) rNumb.scope.names [] = [(Str.ofString "pen", L + 1)] := by rfl
section
variable {prog : Program} {w : World} {A : Around} {E : Value → Shared → Prop} {s : Shared} {mg mb : Str → Option Value} {p D f l : Addr} {cd : Value} {hb : Heap}
theorem call_numbers {Q : Value → Shared → Prop} (T : MyTop mg mb hb) (U : Up hb s.heap) (fr : ∀ b ∈ [p, D], hb.get? b = none) (hf : mg "_law_numbers" = some (.ref f)) (hh : A.handled = none) (hd : A.depth + 3 < recursionLimit) (hu : A.units + 400 < cLine)
    (P : PenAt s.heap p D)
    (h : ∀ s' r vs ns, Drew hb [p, D] p D s s' → s.heap.get? r = none → s'.heap.PlainList r vs.toArray → IntsAre vs ns → ns.length < 13 → (∀ n ∈ ns, 0 ≤ n ∧ n < 30) → Q (.ref r) s') :
    wpAny (model prog w) A (call (.ref f) [.ref p]) Q E s := by
  obtain ⟨a, o, pm, code, doc, h1, h2, h3, h4⟩ := T.fn rNumb (recAt_mem 4 (by decide))
  have ea : a = f := by
    have q : mg "_law_numbers" = some (.ref a) := h1
    rw [hf] at q; cases q; rfl
  subst ea
  obtain ⟨fd, od, _, _, _, hfd, hod, hdd, _⟩ := T.fn rDraw (recAt_mem 2 (by decide))
  obtain ⟨fp, op, _, _, _, hfp, hop, hdp, _⟩ := T.fn rPick (recAt_mem 3 (by decide))
  have T0 : MyTop mg mb s.heap := T.keeps U
  refine wpAny_call (call_cells_ret (binds := [("pen", .ref p)]) (by omega) (U _ _ h2) h3 T0.nolimit (h4.keeps U) rfl (fun x hx => by rw [List.mem_singleton.mp hx]; exact .inr ⟨rfl, rfl⟩) (fun h₁ tk₁ F X => ?_) rfl rfl rfl)
  have hA : (A.deeper (eNumb s.heap.objs.size a code)).handled = none := hh
  have hU : (A.deeper (eNumb s.heap.objs.size a code)).units + 300 < cLine := by show A.units + 3 + 300 < cLine; omega
  have hDp : (A.deeper (eNumb s.heap.objs.size a code)).depth + 2 < recursionLimit := by show A.depth + 1 + 2 < recursionLimit; omega
  have hcell : h₁.IsCell (s.heap.objs.size + 1) (some (.ref p)) := X.cell (Str.ofString "pen") (s.heap.objs.size + 1) rfl
  have hLs : s.heap.get? s.heap.objs.size = none := fresh_none (Nat.le_refl _)
  have hcs : s.heap.get? (s.heap.objs.size + 1) = none := fresh_none (Nat.le_succ _)
  generalize s.heap.objs.size = L at F hA hU hDp hcell hLs hcs ⊢
  generalize A.deeper (eNumb L a code) = A' at hA hU hDp ⊢
  have u₁ : Up s.heap h₁ := F.keep
  have P₁ : PenAt h₁ p D := P.up fun b o _ e => u₁ b o e
  have U₁ : Up hb h₁ := U.trans u₁
  have hpl : (∃ o, s.heap.get? p = some o) ∧ ∃ o, s.heap.get? D = some o := by
    obtain ⟨vs, ds, c, d, u, v, ⟨n, e⟩, ⟨n', e'⟩, _⟩ := P
    exact ⟨⟨_, e⟩, ⟨_, e'⟩⟩
  have hcp : L + 1 ≠ p := by obtain ⟨_, e⟩ := hpl.1; exact (ne_fresh hcs e).symm
  have hcD : L + 1 ≠ D := by obtain ⟨_, e⟩ := hpl.2; exact (ne_fresh hcs e).symm
  have T₁ : MyTop mg mb h₁ := T.keeps U₁
  refine wpAny_execs_cons (wpAny_Return_some ?_)
  rw [eval_ListComp]
  refine wpAny_comprehension_free (use := none) (cl := [(Str.ofString "pen", L + 1)]) rfl (by intro _; rfl) rfl rfl (by decide +kernel) ?_
  refine Call_ ?_
  refine ev_builtin (s := { s with heap := h₁, toks := _ }) T₁ rfl rfl rfl rfl (by decide) PyProof.Rows.boot_range ?_
  refine callWith_type1 (args_cons ?_)
  refine Call_ ?_
  refine ev_global (s := { s with heap := h₁, toks := _ }) T₁ rfl rfl rfl hfd ?_
  refine callWith_def hdd (args_cons ?_)
  refine wpAny_Name (wpAny_loadName_cell rfl rfl rfl hcell ?_) (by decide)
  refine args_cons (wpAny_Constant_int (args_nil ⟨U₁ _ _ hod, ?_⟩))
  refine call_draw (s := { s with heap := h₁, toks := _ }) T U₁ fr hfd hA (by omega) (by omega) P₁ (by decide) (by decide) fun s₁ v t dr v0 vk => ?_
  refine args_nil (range_iter hA (by omega) (by omega) fun s₂ I g₂ hIs hIl W st => ?_)
  have hb2 : Up hb s₂.heap := dr.base.trans g₂.up
  have live1 : ∀ b o, s.heap.get? b = some o → ∃ o', s₂.heap.get? b = some o' := by
    intro b o e
    by_cases q : b = p
    · subst q
      obtain ⟨vs, ds, c, d, u, v, ⟨n, e⟩, _⟩ := dr.pen
      exact ⟨_, g₂.up _ _ e⟩
    · by_cases q' : b = D
      · subst q'
        obtain ⟨vs, ds, c, d, u, v, _, ⟨n', e'⟩, _⟩ := dr.pen
        exact ⟨_, g₂.up _ _ e'⟩
      · exact ⟨o, g₂.up _ _ (dr.up b o (by simp only [List.mem_cons, List.not_mem_nil, or_false, not_or]; exact ⟨q, q'⟩) (u₁ _ _ e))⟩
  have P₂ : PenAt s₂.heap p D := dr.pen.up fun b o _ e => g₂.up b o e
  have hcell₂ : s₂.heap.IsCell (L + 1) (some (.ref p)) := by
    obtain ⟨o, e, r⟩ := hcell
    exact ⟨o, g₂.up _ _ (dr.up _ _ (by simp only [List.mem_cons, List.not_mem_nil, or_false, not_or]; exact ⟨hcp, hcD⟩) e), r⟩
  have hpI : p ≠ I := by
    obtain ⟨vs, ds, c, d, u, v, ⟨n, e⟩, _⟩ := dr.pen
    exact ne_fresh hIs e
  have hDI : D ≠ I := by
    obtain ⟨vs, ds, c, d, u, v, _, ⟨n, e⟩, _⟩ := dr.pen
    exact ne_fresh hIs e
  have hcI : L + 1 ≠ I := by
    obtain ⟨o, e, _⟩ := hcell
    exact ne_fresh hIs (dr.up _ _ (by simp only [List.mem_cons, List.not_mem_nil, or_false, not_or]; exact ⟨hcp, hcD⟩) e)
  have hIb : hb.get? I = none := by
    cases q : hb.get? I with
    | none => rfl
    | some o => rw [dr.base _ _ q] at hIs; cases hIs
  have up2 : UpX [p, D] s.heap s₂.heap := fun b o hb' e => g₂.up _ _ (dr.up b o hb' (u₁ _ _ e))
  have g1 : s₂.gens = s.gens := g₂.gens.trans dr.gens
  have g2 : s₂.os = s.os := g₂.os.trans dr.os
  refine comp_eff (s₂ := s₂) (I := I) (n := v.toNat) W (by rw [sizeLine_eq]; omega) [p, D]
    (fun i ys s' => UpX [p, D, I] s₂.heap s'.heap ∧ Up hb s'.heap ∧ s'.gens = s₂.gens ∧ s'.os = s₂.os ∧ PenAt s'.heap p D ∧ ∃ ns, IntsAre ys ns ∧ ns.length = i ∧ ∀ n ∈ ns, 0 ≤ n ∧ n < 30)
    (by decide +kernel) rfl rfl st hIl (by simp only [List.mem_cons, List.not_mem_nil, or_false, not_or]; exact ⟨Ne.symm hpI, Ne.symm hDI⟩) ?_ ⟨Up.refl.toX _, hb2, rfl, rfl, P₂, [], .nil, rfl, by simp⟩ ?_ ?_ ?_
  · intro b hb'
    obtain ⟨vs, ds, c, d, u, v, ⟨n, e⟩, ⟨n', e'⟩, _⟩ := P₂
    simp only [List.mem_cons, List.not_mem_nil, or_false] at hb'
    rcases hb' with rfl | rfl
    · exact Heap.lt_size e
    · exact Heap.lt_size e'
  · rintro i ys a b Z ⟨a1, a2, a3, a4, a5, a6⟩ k b1 b2 hZ
    have nz : ∀ x o, s₂.heap.get? x = some o → x ≠ I → x ∉ Z := fun x o e hx q => by
      rcases hZ x q with rfl | q'
      · exact hx rfl
      · rw [q'] at e; cases e
    have pl : (∃ o, s₂.heap.get? p = some o) ∧ ∃ o, s₂.heap.get? D = some o := by
      obtain ⟨vs, ds, c, d, u, v, ⟨n, e⟩, ⟨n', e'⟩, _⟩ := P₂
      exact ⟨⟨_, e⟩, ⟨_, e'⟩⟩
    refine ⟨fun x o hx e => k x o (nz x o e fun q => hx (by simp [q])) (a1 x o hx e), fun x o e => k x o (nz x o (hb2 _ _ e) fun q => by rw [q, hIb] at e; cases e) (a2 _ _ e), b1.trans a3, b2.trans a4, a5.up fun x o hx e => ?_, a6⟩
    rcases hx with rfl | rfl
    · obtain ⟨o', q⟩ := pl.1; exact k _ _ (nz _ _ q hpI) e
    · obtain ⟨o', q⟩ := pl.2; exact k _ _ (nz _ _ q hDI) e
  · rintro C i v₁ s₃ m ys E' hC hi ⟨t₁, rfl⟩ hn hm ⟨a1, a2, a3, a4, a5, ns, a6, a7, a8⟩
    have hcell₃ : s₃.heap.IsCell (L + 1) (some (.ref p)) := by
      obtain ⟨o, e, r⟩ := hcell₂
      exact ⟨o, a1 _ _ (by simp only [List.mem_cons, List.not_mem_nil, or_false, not_or]; exact ⟨hcp, hcD, hcI⟩) e, r⟩
    have hCp : C ≠ p := by
      obtain ⟨vs, ds, c, d, u, v, ⟨n, e⟩, _⟩ := P₂
      exact (ne_fresh hC e).symm
    have hCD : C ≠ D := by
      obtain ⟨vs, ds, c, d, u, v, _, ⟨n, e⟩, _⟩ := P₂
      exact (ne_fresh hC e).symm
    refine Call_ ?_
    refine ev_global (T.keeps a2) rfl rfl rfl hfp ?_
    refine callWith_def hdp (args_cons ?_)
    refine wpAny_Name (wpAny_loadName_cell rfl rfl rfl hcell₃ ?_) (by decide)
    refine args_cons (List_ (args_cons (Call_ ?_)))
    refine ev_global (T.keeps a2) rfl rfl rfl hfd ?_
    refine callWith_def hdd (args_cons ?_)
    refine wpAny_Name (wpAny_loadName_cell rfl rfl rfl hcell₃ ?_) (by decide)
    refine args_cons (wpAny_Constant_int (args_nil ⟨a2 _ _ hod, ?_⟩))
    refine call_draw (s := { s₃ with toks := _ }) T a2 fr hfd hA (by omega) (by omega) a5 (by decide) (by decide) fun s₄ v₄ t₄ dr₄ v0 vk => ?_
    have hn₄ : s₄.heap.Ns C m := hn.at' fun o e => dr₄.up _ _ (by simp only [List.mem_cons, List.not_mem_nil, or_false, not_or]; exact ⟨hCp, hCD⟩) e
    refine args_cons (ev_local rfl rfl hn₄ hm ?_)
    refine args_cons (wpAny_Constant_int (args_nil (wpAny_newList ?_)))
    refine args_nil ⟨(Up.push _) _ _ (dr₄.base _ _ hop), ?_⟩
    have hl₄ : (s₄.heap.push { cls := .type "list", data := .seq [Value.int v₄ t₄, Value.int (0 + (i : Int) * 1) t₁, Value.int 5 s₄.toks].toArray }).IsList s₄.heap.objs.size [Value.int v₄ t₄, Value.int (0 + (i : Int) * 1) t₁, Value.int 5 s₄.toks].toArray := ⟨_, Heap.get?_push_size _ rfl, rfl, _, rfl⟩
    have k₄ : Up s₄.heap (s₄.heap.push { cls := .type "list", data := .seq [Value.int v₄ t₄, Value.int (0 + (i : Int) * 1) t₁, Value.int 5 s₄.toks].toArray }) := Up.push _
    have hlf : s₄.heap.get? s₄.heap.objs.size = none := fresh_none (Nat.le_refl _)
    have P₄ := dr₄.pen.up fun b o _ e => k₄ b o e
    have hlp : s₄.heap.objs.size ≠ p := by
      obtain ⟨vs, ds, c, d, u, v, ⟨n, e⟩, _⟩ := dr₄.pen
      exact (ne_fresh hlf e).symm
    have hlD : s₄.heap.objs.size ≠ D := by
      obtain ⟨vs, ds, c, d, u, v, _, ⟨n, e⟩, _⟩ := dr₄.pen
      exact (ne_fresh hlf e).symm
    refine call_pick (s := { s₄ with heap := s₄.heap.push { cls := .type "list", data := .seq [Value.int v₄ t₄, Value.int (0 + (i : Int) * 1) t₁, Value.int 5 s₄.toks].toArray }, toks := _ }) T (dr₄.base.trans k₄) fr hfp hA (by omega) (by omega) P₄ hl₄ (.cons _ _ (.cons _ _ (.cons _ _ .nil))) (by simp) (by simp) hlp hlD fun s₅ x tx dr₅ hx => ?_
    have up5 : UpX [p, D] s₃.heap s₅.heap := fun b o hb' e => dr₅.up b o hb' (k₄ _ _ (dr₄.up b o hb' e))
    refine ⟨⟨fun b o hb' e => up5 b o (fun q => hb' ?_) (a1 b o hb' e), dr₅.base, (dr₅.gens.trans dr₄.gens).trans a3, (dr₅.os.trans dr₄.os).trans a4, dr₅.pen, ns ++ [x], a6.append (.cons _ _ .nil), by simp [a7], fun n hn' => ?_⟩, up5⟩
    · simp only [List.mem_cons, List.not_mem_nil, or_false] at q ⊢
      rcases q with q | q
      · exact .inl q
      · exact .inr (.inl q)
    · rcases List.mem_append.mp hn' with q | q
      · exact a8 n q
      · rw [List.mem_singleton.mp q]
        simp only [List.mem_cons, List.not_mem_nil, or_false] at hx
        rcases hx with rfl | rfl | rfl <;> omega
  · rintro r s' ys hr ⟨a1, a2, a3, a4, a5, ns, a6, a7, a8⟩ hl
    refine h s' r ys ns ⟨fun b o hb' e => a1 b o ?_ (up2 b o hb' e), a2, a3.trans g1, a4.trans g2, a5⟩ ?_ hl a6 (by omega) a8
    · simp only [List.mem_cons, List.not_mem_nil, or_false, not_or] at hb' ⊢
      refine ⟨hb'.1, hb'.2, fun q => ?_⟩
      subst q
      rw [dr.up _ _ (by simp only [List.mem_cons, List.not_mem_nil, or_false, not_or]; exact hb') (u₁ _ _ e)] at hIs
      cases hIs
    · cases q : s.heap.get? r with
      | none => rfl
      | some o => obtain ⟨o', e⟩ := live1 r o q; rw [e] at hr; cases hr
end
end Mine

/-! MPenC -/
namespace Mine
abbrev rPen : DefRec := recAt 1 (by decide)
abbrev ePen (L f : Addr) (cd : Value) : Env := envOf rPen.name rPen.scope L f cd
theorem ints_any : ∀ {ys : List Value}, (∀ y ∈ ys, ∃ n t, y = Value.int n t) → ∃ ds, IntsAre ys ds
  | [], _ => ⟨[], .nil⟩
  | y :: r, h => by
    obtain ⟨n, t, rfl⟩ := h y (.head _)
    obtain ⟨ds, hd⟩ := ints_any fun y hy => h y (.tail _ hy)
    exact ⟨n :: ds, .cons _ _ hd⟩
theorem paired_right {F : Value → Value → Prop} {xs ys : List Value} (p : Paired F xs ys) : ∀ y ∈ ys, ∃ x, F x y := by
  induction p with
  | nil => simp
  | cons h _ ih =>
    intro y hy
    rcases List.mem_cons.mp hy with rfl | hy
    · exact ⟨_, h⟩
    · exact ih y hy
section
variable {prog : Program} {w : World} {A : Around} {E : Value → Shared → Prop} {s : Shared} {mg mb : Str → Option Value} {l : Addr} {env : Env}
/-- a slice of a list, its slice object just made -/
theorem slice_tail {value slice : PySem.Expr} {items : Array Value} {vl vu vk : Value} {lo hi st : Option Int} {ops : List Value} {Q : Value → Shared → Prop}
    (hl : s.heap.IsList l items) (pl : IsPart vl lo) (pu : IsPart vu hi) (pk : IsPart vk st) (h0 : st ≠ some 0)
    (h : ∀ s' D, Grew s s' → s.heap.get? D = none → s'.heap.PlainList D (slicePick items lo hi st) → Q (.ref D) s')
    (hs : subscripted slice false (.ref l) (.ref s.heap.objs.size) = operate ops (getItem (.ref l) (.ref s.heap.objs.size)))
    (ht : ∀ r, letTemporaryGo value (.ref l) r = pure ())
    (hsz : items.size ≤ sizeLine) :
    wpAny (model prog w) A (subscriptTail value slice (.ref l) (.ref s.heap.objs.size)) Q E { s with heap := s.heap.push { cls := .type "slice", data := .fields #[vl, vu, vk] } } := by
  refine subscriptTail_ops (Heap.IsList.typeIs (s := { s with heap := s.heap.push { cls := .type "slice", data := .fields #[vl, vu, vk] } }) (hl.push _)) list_getitem_lookup
    (wpAny_getItem_list_slice (hl.push _) (Heap.IsSliceOf.new ..) pl pu pk h0 ?_ hsz) hs ht
  refine h _ _ ⟨(Up.push _).trans (Up.push _), rfl, rfl⟩ (fresh_none (by show _ ≤ (Heap.push _ _).objs.size; rw [size_push']; exact Nat.le_succ _)) ⟨0, Heap.get?_push_size _ rfl⟩

theorem call_pen {f : Addr} {vs : List Value} {ns : List Int} {Q : Value → Shared → Prop} (T : MyTop mg mb s.heap) (hf : mg "_law_pen" = some (.ref f)) (hh : A.handled = none) (hd : A.depth < recursionLimit) (hu : A.units + 100 < cLine)
    (hl : s.heap.IsList l vs.toArray) (hI : IntsAre vs ns) (hlen : ns.length ≤ 63)
    (h : ∀ s' p D, Grew s s' → s.heap.get? p = none → s.heap.get? D = none → PenAt s'.heap p D → Q (.ref p) s') :
    wpAny (model prog w) A (call (.ref f) [.ref l]) Q E s := by
  obtain ⟨a, o, pm, code, doc, h1, h2, h3, h4⟩ := T.fn rPen (recAt_mem 1 (by decide))
  have ea : a = f := by
    have q : mg "_law_pen" = some (.ref a) := h1
    rw [hf] at q; cases q; rfl
  subst ea
  refine wpAny_call (call_plain_ret (binds := [("script", .ref l)]) hd h2 h3 T.nolimit h4 rfl (locs rfl) (fun h₁ F => ?_) rfl rfl rfl (by decide))
  have hA : (A.deeper (ePen s.heap.objs.size a code)).handled = none := hh
  generalize s.heap.objs.size = L at F hA ⊢
  generalize A.deeper (ePen L a code) = A' at hA ⊢
  have u₁ : Up s.heap h₁ := F.keep
  have hl₁ : h₁.IsList l vs.toArray := hl.at fun o e => u₁ _ _ e
  have T₁ := T.keeps u₁
  have hvl : vs.length = ns.length := hI.length
  have hz : vs.toArray.size ≤ sizeLine := by simp only [List.size_toArray, sizeLine_eq]; omega
  refine wpAny_execs_cons (wpAny_Return_some ?_)
  refine List_ (args_cons ?_)
  refine wpAny_ListComp_free (cl := []) (fun _ => true) (fun _ y => ∃ n t, y = Value.int n t) rfl (by decide +kernel) rfl (by decide +kernel) rfl ?_ (by intro _; rfl)
  refine Subscript_ ?_
  refine ev_local rfl rfl F.ns (v := .ref l) rfl ?_
  refine wpAny_Slice (wpAny_pure ?_)
  rw [evalPart_some]
  refine wpAny_Constant_int (wpAny_pure ?_)
  refine slice_tail (s := { s with heap := h₁, toks := _ }) (ops := [.ref h₁.objs.size, .ref l]) hl₁ .none (.int _ _) .none (by simp) (fun s₂ D g₂ hD hDl => ?_) (by with_unfolding_all rfl) (by intro _; with_unfolding_all rfl) hz
  refine wpAny_pyIter_list hDl.isList ?_
  have hDI : D ≠ s₂.heap.objs.size := by obtain ⟨_, e⟩ := hDl; exact Nat.ne_of_lt (Heap.lt_size e)
  have hpk := slicePick_size_le vs.toArray none (some 63) none
  have hIp : IntsAre (slicePick vs.toArray none (some 63) none).toList (pickNums ns none (some 63) none) := hI.pick _ _ _
  generalize slicePick vs.toArray none (some 63) none = items at hDl hpk hIp ⊢
  generalize pickNums ns none (some 63) none = ks at hIp
  simp only [List.size_toArray] at hpk
  have g3 : Grew s { s₂ with heap := s₂.heap.push { cls := .type "list_iterator", data := .fields #[.ref D, .int 0 0] } } := ⟨(u₁.trans g₂.up).trans (Up.push _), g₂.gens, g₂.os⟩
  have T₃ : MyTop mg mb (s₂.heap.push { cls := .type "list_iterator", data := .fields #[.ref D, .int 0 0] }) := T.keeps g3.up
  have hIf : s₂.heap.get? s₂.heap.objs.size = none := fresh_none (Nat.le_refl _)
  refine ⟨s₂.heap.objs.size, [s₂.heap.objs.size, D], [s₂.heap.objs.size], items.size, _, _, rfl, Walks.list hA _ D hDI items, by rw [sizeLine_eq]; omega, ⟨⟨_, Heap.get?_push_size _ rfl, rfl, rfl⟩, hDl.isList.push _⟩, ?_, ⟨?_, ?_⟩, ?_⟩
  · intro b hb
    show b < (s₂.heap.push _).objs.size
    rw [size_push']
    rcases List.mem_cons.mp hb with rfl | hb
    · exact Nat.lt_succ_self _
    · rw [List.mem_singleton.mp hb]; obtain ⟨_, e⟩ := hDl; exact Nat.lt_succ_of_lt (Heap.lt_size e)
  · intro C i v s₃ m₃ E' hC hv hn hm hk htk
    exact wpAny_tests_nil ⟨rfl, s₃.heap, s₃.toks, rfl, fun _ _ e => e⟩
  · intro C i v s₃ m₃ E' hC hv hp hn hm hk htk
    have U₃ : Up s.heap s₃.heap := fun b o e => hk b o (fun q => by
      rw [List.mem_singleton.mp q] at e
      have := g₂.up _ _ (u₁ _ _ e)
      rw [hIf] at this; cases this) (g3.up _ _ e)
    have T₃' := T.keeps U₃
    obtain ⟨t, rfl⟩ := hIp.int_at i v (by rw [Array.getElem?_toList]; exact hv)
    refine wpAny_BinOp (wpAny_BinOp (wpAny_Constant_int ?_))
    refine Call_ ?_
    refine ev_builtin (s := { s₃ with toks := _ }) T₃' rfl rfl rfl rfl (by decide) PyProof.Rows.boot_abs ?_
    refine callWith_builtin1 (args_cons (Call_ ?_))
    refine ev_builtin (s := { s₃ with toks := _ }) T₃' rfl rfl rfl rfl (by decide) PyProof.Rows.boot_int ?_
    refine callWith_type1 (args_cons ?_)
    refine ev_local rfl rfl hn hm ?_
    refine args_nil (call_int_int (args_nil (call_abs_int fun u tk => ?_)))
    refine PyProof.Rows.mul_int ?_ (IntMulOk.of_left (by decide +kernel))
    refine Call_ ?_
    refine ev_builtin (s := { s₃ with toks := _ }) T₃' rfl rfl rfl rfl (by decide) PyProof.Rows.boot_int ?_
    refine callWith_type1 (args_cons (wpAny_Compare1 ?_))
    refine ev_local rfl rfl hn hm ?_
    refine wpAny_Constant_int (lt_int ?_)
    refine args_nil (call_int_bool ?_)
    refine wpAny_add_int ?_
    exact ⟨⟨_, _, rfl⟩, s₃.heap, _, rfl, fun _ _ e => e⟩
  · intro D' h' tk ys ws hD' hl' hpl hwl hwv hpr hk
    obtain ⟨ds, hds⟩ := ints_any (ys := ys.toList) fun y hy => let ⟨_, q⟩ := paired_right hpr y hy; q
    have hyl : ys.toList.length ≤ 63 := by
      have e1 := hpr.length
      have e2 : (ws.filter fun _ => true).length ≤ ws.length := List.length_filter_le _ _
      omega
    have U' : Up s.heap h' := fun b o e => hk b o (fun q => by
      rw [List.mem_singleton.mp q] at e
      have := g₂.up _ _ (u₁ _ _ e)
      rw [hIf] at this; cases this) (g3.up _ _ e)
    refine args_cons (wpAny_Constant_int (args_cons (wpAny_Constant_int (args_nil (wpAny_newList ?_)))))
    refine h _ h'.objs.size D' ⟨U'.trans (Up.push _), g₂.gens, g₂.os⟩ ?_ ?_ ⟨ys.toList, ds, 0, 0, _, _, ⟨0, Heap.get?_push_size _ rfl⟩, by simpa using hpl.at fun o e => Heap.get?_push_of_some _ e, hds, hyl⟩
    · cases q : s.heap.get? h'.objs.size with
      | none => rfl
      | some o => exact absurd (Heap.lt_size (U' _ _ q)) (Nat.lt_irrefl _)
    · cases q : s.heap.get? D' with
      | none => rfl
      | some o => have := g3.up _ _ q; rw [hD'] at this; cases this
end
end Mine

/-! MPlain -/
namespace Mine
def Good (rs : List (Int × Int)) : Prop := (∀ p ∈ rs, 1 ≤ p.2) ∧ rs.Pairwise fun p q => p.1 + p.2 < q.1
theorem mem_rangeL {a b x : Int} : x ∈ rangeL a b ↔ a ≤ x ∧ x < a + b := by
  unfold rangeL
  rw [List.mem_map]
  constructor
  · rintro ⟨i, hi, rfl⟩
    have := List.mem_range.mp hi
    omega
  · rintro ⟨h1, h2⟩
    exact ⟨(x - a).toNat, List.mem_range.mpr (by omega), by omega⟩
theorem mem_spread {rs : List (Int × Int)} {x : Int} : x ∈ spreadL rs ↔ ∃ p ∈ rs, p.1 ≤ x ∧ x < p.1 + p.2 := by
  unfold spreadL
  rw [List.mem_flatMap]
  exact ⟨fun ⟨p, hp, h⟩ => ⟨p, hp, mem_rangeL.mp h⟩, fun ⟨p, hp, h⟩ => ⟨p, hp, mem_rangeL.mpr h⟩⟩
theorem good_snoc {o : List (Int × Int)} {p : Int × Int} : Good (o ++ [p]) ↔ Good o ∧ 1 ≤ p.2 ∧ ∀ q ∈ o, q.1 + q.2 < p.1 := by
  unfold Good
  rw [List.pairwise_append]
  constructor
  · rintro ⟨h1, h2, _, h3⟩
    exact ⟨⟨fun q hq => h1 q (List.mem_append_left _ hq), h2⟩, h1 p (by simp), fun q hq => h3 q hq p (by simp)⟩
  · rintro ⟨⟨h1, h2⟩, h3, h4⟩
    refine ⟨fun q hq => ?_, h2, by simp, fun q hq r hr => ?_⟩
    · rcases List.mem_append.mp hq with h | h
      · exact h1 q h
      · rw [List.mem_singleton.mp h]; exact h3
    · rw [List.mem_singleton.mp hr]; exact h4 q hq
theorem step_good {out : List (Int × Int)} {seen : List Int} {n : Int} (g : Good out) (hm : ∀ x, x ∈ spreadL out ↔ x ∈ seen) (hn : ∀ x ∈ seen, x ≤ n) : Good (runStep out n) ∧ ∀ x, x ∈ spreadL (runStep out n) ↔ x ∈ seen ++ [n] := by
  rcases List.eq_nil_or_concat out with rfl | ⟨o, ⟨a, b⟩, rfl⟩
  · rw [runStep_nil]
    refine ⟨⟨by simp, by simp⟩, fun x => ?_⟩
    rw [List.mem_append, ← hm x, mem_spread, mem_spread]
    simp
    omega
  · rw [List.concat_eq_append] at *
    rw [runStep_snoc]
    obtain ⟨go, hb, hlt⟩ := good_snoc.mp g
    simp only at hb hlt
    have hlast : a + b - 1 ≤ n := hn _ ((hm _).mp (mem_spread.mpr ⟨(a, b), by simp, by show a ≤ _ ∧ _ < a + b; omega⟩))
    by_cases e1 : n = a + b
    · rw [if_pos e1]
      refine ⟨good_snoc.mpr ⟨go, by show 1 ≤ b + 1; omega, hlt⟩, fun x => ?_⟩
      rw [List.mem_append, ← hm x, mem_spread, mem_spread]
      constructor
      · rintro ⟨p, hp, h1, h2⟩
        rcases List.mem_append.mp hp with h | h
        · exact .inl ⟨p, List.mem_append_left _ h, h1, h2⟩
        · rw [List.mem_singleton.mp h] at h1 h2
          simp only at h1 h2
          by_cases e : x = n
          · exact .inr (by simp [e])
          · exact .inl ⟨(a, b), by simp, h1, by show x < a + b; omega⟩
      · rintro (⟨p, hp, h1, h2⟩ | h)
        · rcases List.mem_append.mp hp with h | h
          · exact ⟨p, List.mem_append_left _ h, h1, h2⟩
          · rw [List.mem_singleton.mp h] at h1 h2
            exact ⟨(a, b + 1), by simp, h1, by simp only at h2 ⊢; omega⟩
        · rw [List.mem_singleton.mp h]
          exact ⟨(a, b + 1), by simp, by simp only; omega, by simp only; omega⟩
    · rw [if_neg e1]
      by_cases e2 : n > a + b
      · rw [if_pos e2]
        refine ⟨good_snoc.mpr ⟨g, by simp, fun q hq => ?_⟩, fun x => ?_⟩
        · rcases List.mem_append.mp hq with h | h
          · have := hlt q h; simp only; omega
          · rw [List.mem_singleton.mp h]; simp only; omega
        · rw [List.mem_append, ← hm x, mem_spread, mem_spread]
          constructor
          · rintro ⟨p, hp, h1, h2⟩
            rcases List.mem_append.mp hp with h | h
            · exact .inl ⟨p, h, h1, h2⟩
            · rw [List.mem_singleton.mp h] at h1 h2
              simp only at h1 h2
              exact .inr (by simp; omega)
          · rintro (⟨p, hp, h1, h2⟩ | h)
            · exact ⟨p, List.mem_append_left _ hp, h1, h2⟩
            · rw [List.mem_singleton.mp h]
              exact ⟨(n, 1), by simp, by simp, by simp only; omega⟩
      · rw [if_neg e2]
        refine ⟨g, fun x => ?_⟩
        rw [List.mem_append, hm x]
        refine ⟨.inl, fun h => h.elim id fun h => ?_⟩
        rw [List.mem_singleton.mp h, ← hm n, mem_spread]
        exact ⟨(a, b), by simp, by show a ≤ n; omega, by show n < a + b; omega⟩
theorem runs_fold : ∀ (ns : List Int) (out : List (Int × Int)) (seen : List Int), Good out → (∀ x, x ∈ spreadL out ↔ x ∈ seen) → (∀ x ∈ seen, ∀ n ∈ ns, x ≤ n) → ns.Pairwise (· ≤ ·) →
    Good (ns.foldl runStep out) ∧ ∀ x, x ∈ spreadL (ns.foldl runStep out) ↔ x ∈ seen ++ ns
  | [], out, seen, g, hm, _, _ => ⟨g, fun x => by simpa using hm x⟩
  | n :: r, out, seen, g, hm, hs, hp => by
    obtain ⟨h1, h2⟩ := List.pairwise_cons.mp hp
    obtain ⟨g', hm'⟩ := step_good g hm fun x hx => hs x hx n (.head _)
    have := runs_fold r (runStep out n) (seen ++ [n]) g' hm' (fun x hx m hm => by
      rcases List.mem_append.mp hx with h | h
      · exact hs x h m (.tail _ hm)
      · rw [List.mem_singleton.mp h]; exact h1 m hm) h2
    rw [List.append_assoc] at this
    exact this
theorem runs_good {ns : List Int} (h : ns.Pairwise (· ≤ ·)) : Good (runsL ns) := (runs_fold ns [] [] ⟨by simp, .nil⟩ (by simp [spreadL]) (by simp) h).1
theorem runs_mem {ns : List Int} (h : ns.Pairwise (· ≤ ·)) (x : Int) : x ∈ spreadL (runsL ns) ↔ x ∈ ns := by
  have := (runs_fold ns [] [] ⟨by simp, .nil⟩ (by simp [spreadL]) (by simp) h).2 x
  simpa [runsL] using this
theorem rangeL_sorted (a b : Int) : (rangeL a b).Pairwise (· < ·) := by
  unfold rangeL
  rw [List.pairwise_map]
  exact List.pairwise_lt_range.imp fun h => by omega
theorem spread_sorted : ∀ {rs : List (Int × Int)}, Good rs → (spreadL rs).Pairwise (· < ·)
  | [], _ => .nil
  | p :: rs, g => by
    obtain ⟨h1, h2⟩ := List.pairwise_cons.mp g.2
    have e : spreadL (p :: rs) = rangeL p.1 p.2 ++ spreadL rs := by simp [spreadL]
    rw [e, List.pairwise_append]
    refine ⟨rangeL_sorted _ _, spread_sorted ⟨fun q hq => g.1 q (.tail _ hq), h2⟩, fun x hx y hy => ?_⟩
    obtain ⟨q, hq, h3, h4⟩ := mem_spread.mp hy
    have := mem_rangeL.mp hx
    have := h1 q hq
    omega
theorem sorted_unique : ∀ {l₁ l₂ : List Int}, l₁.Pairwise (· < ·) → l₂.Pairwise (· < ·) → (∀ x, x ∈ l₁ ↔ x ∈ l₂) → l₁ = l₂
  | [], [], _, _, _ => rfl
  | [], y :: r, _, _, h => by have := (h y).mpr (.head _); simp at this
  | x :: r, [], _, _, h => by have := (h x).mp (.head _); simp at this
  | x :: r, y :: q, h1, h2, h => by
    obtain ⟨a1, a2⟩ := List.pairwise_cons.mp h1
    obtain ⟨b1, b2⟩ := List.pairwise_cons.mp h2
    have e : x = y := by
      rcases List.mem_cons.mp ((h x).mp (.head _)) with e | e
      · exact e
      · rcases List.mem_cons.mp ((h y).mpr (.head _)) with e' | e'
        · exact e'.symm
        · have := a1 _ e'; have := b1 _ e; omega
    subst e
    congr 1
    refine sorted_unique a2 b2 fun z => ⟨fun hz => ?_, fun hz => ?_⟩
    · rcases List.mem_cons.mp ((h z).mp (.tail _ hz)) with e | e
      · have := a1 z hz; omega
      · exact e
    · rcases List.mem_cons.mp ((h z).mpr (.tail _ hz)) with e | e
      · have := b1 z hz; omega
      · exact e
theorem strict_of {l : List Int} (h1 : l.Pairwise (· ≤ ·)) (h2 : l.Nodup) : l.Pairwise (· < ·) :=
  (List.Pairwise.and h1 h2).imp fun h => by have := h.1; have := h.2; omega
/-- the first question -/
theorem law_spread {ns ns' ks : List Int} (hp : ns'.Perm ns) (hs : ns'.Pairwise (· ≤ ·)) (kp : ks.Perm (keysL ns)) (ksrt : ks.Pairwise (· ≤ ·)) : spreadL (runsL ns') = ks := by
  refine sorted_unique (spread_sorted (runs_good hs)) (strict_of ksrt (kp.nodup_iff.mpr (keysL_nodup ns))) fun x => ?_
  rw [runs_mem hs, hp.mem_iff, kp.mem_iff, keysL_mem]
/-- the runs of a spread are the runs -/
theorem step_range : ∀ (b : Nat) (a c : Int) (out : List (Int × Int)), 1 ≤ c → ((List.range b).map fun (i : Nat) => a + c + (i : Int)).foldl runStep (out ++ [(a, c)]) = out ++ [(a, c + b)]
  | 0, a, c, out, _ => by simp
  | b + 1, a, c, out, hc => by
    have e : ((List.range (b + 1)).map fun (i : Nat) => a + c + (i : Int)) = (a + c) :: ((List.range b).map fun (i : Nat) => a + (c + 1) + (i : Int)) := by
      rw [List.range_succ_eq_map, List.map_cons, List.map_map]
      congr 1
      · simp
      · refine List.map_congr_left fun i _ => ?_
        simp only [Function.comp_apply]
        push_cast
        omega
    rw [e, List.foldl_cons, runStep_snoc, if_pos rfl, step_range b a (c + 1) out (by omega)]
    have : c + 1 + (b : Int) = c + ((b + 1 : Nat) : Int) := by push_cast; omega
    rw [this]
theorem run_range {out : List (Int × Int)} {a b : Int} (hb : 1 ≤ b) (h : ∀ q ∈ out, q.1 + q.2 < a) : (rangeL a b).foldl runStep out = out ++ [(a, b)] := by
  obtain ⟨k, rfl⟩ : ∃ k : Nat, b = (k : Int) + 1 := ⟨(b - 1).toNat, by omega⟩
  have e : rangeL a ((k : Int) + 1) = a :: ((List.range k).map fun (i : Nat) => a + 1 + (i : Int)) := by
    unfold rangeL
    have : ((k : Int) + 1).toNat = k + 1 := by omega
    rw [this, List.range_succ_eq_map, List.map_cons, List.map_map]
    congr 1
    · simp
    · refine List.map_congr_left fun i _ => ?_
      simp only [Function.comp_apply]
      push_cast
      omega
  rw [e, List.foldl_cons]
  have e2 : runStep out a = out ++ [(a, 1)] := by
    rcases List.eq_nil_or_concat out with rfl | ⟨o, ⟨x, y⟩, rfl⟩
    · rfl
    · rw [List.concat_eq_append] at *
      have := h (x, y) (by simp)
      simp only at this
      rw [runStep_snoc, if_neg (by omega), if_pos (by omega)]
  rw [e2, step_range k a 1 out (by omega)]
  have : (1 : Int) + (k : Int) = (k : Int) + 1 := by omega
  rw [this]
theorem runs_spread : ∀ (rs out : List (Int × Int)), Good (out ++ rs) → (spreadL rs).foldl runStep out = out ++ rs
  | [], out, _ => by simp [spreadL]
  | p :: rs, out, g => by
    have e : spreadL (p :: rs) = rangeL p.1 p.2 ++ spreadL rs := by simp [spreadL]
    have g' : Good ((out ++ [p]) ++ rs) := by simpa using g
    have h1 : 1 ≤ p.2 := g.1 p (by simp)
    have h2 : ∀ q ∈ out, q.1 + q.2 < p.1 := by
      have := (List.pairwise_append.mp g.2).2.2
      exact fun q hq => this q hq p (by simp)
    rw [e, List.foldl_append, run_range h1 h2, runs_spread rs _ g']
    simp
/-- the runs are the set's -/
theorem runs_same {ns ms : List Int} (h1 : ns.Pairwise (· ≤ ·)) (h2 : ms.Pairwise (· ≤ ·)) (h : ∀ x, x ∈ ns ↔ x ∈ ms) : runsL ns = runsL ms := by
  have e : spreadL (runsL ns) = spreadL (runsL ms) := sorted_unique (spread_sorted (runs_good h1)) (spread_sorted (runs_good h2)) fun x => by rw [runs_mem h1, runs_mem h2, h]
  have a := runs_spread (runsL ns) [] (by simpa using runs_good h1)
  have b := runs_spread (runsL ms) [] (by simpa using runs_good h2)
  rw [e] at a
  simpa using a.symm.trans b
/-- the third question -/
theorem starts_len {ns : List Int} : ∀ {rs : List (Int × Int)}, Good rs → (∀ p ∈ rs, ∀ x, p.1 ≤ x → x < p.1 + p.2 → x ∈ ns) → (∀ p ∈ rs, p.1 - 1 ∉ ns) → ((spreadL rs).filter fun k => decide (k - 1 ∉ ns)).length = rs.length
  | [], _, _, _ => by simp [spreadL]
  | p :: rs, g, hin, hst => by
    have e : spreadL (p :: rs) = rangeL p.1 p.2 ++ spreadL rs := by simp [spreadL]
    have g' : Good rs := ⟨fun q hq => g.1 q (.tail _ hq), (List.pairwise_cons.mp g.2).2⟩
    rw [e, List.filter_append, List.length_append, starts_len g' (fun q hq => hin q (.tail _ hq)) (fun q hq => hst q (.tail _ hq)), List.length_cons]
    have h1 : 1 ≤ p.2 := g.1 p (by simp)
    have hin' := hin p (.head _)
    have hst' := hst p (.head _)
    have : ((rangeL p.1 p.2).filter fun k => decide (k - 1 ∉ ns)) = [p.1] := by
      obtain ⟨a, b⟩ := p
      simp only at *
      obtain ⟨k, rfl⟩ : ∃ k : Nat, b = (k : Int) + 1 := ⟨(b - 1).toNat, by omega⟩
      unfold rangeL
      have : ((k : Int) + 1).toNat = k + 1 := by omega
      rw [this, List.range_succ_eq_map, List.map_cons, List.map_map, List.filter_cons_of_pos (by simpa using hst')]
      have : (((List.range k).map ((fun (i : Nat) => a + (i : Int)) ∘ Nat.succ)).filter fun k => decide (k - 1 ∉ ns)) = [] := by
        refine List.filter_eq_nil_iff.mpr fun x hx => ?_
        obtain ⟨i, hi, rfl⟩ := List.mem_map.mp hx
        have := List.mem_range.mp hi
        have := hin' (((fun (i : Nat) => a + (i : Int)) ∘ Nat.succ) i - 1) (by simp only [Function.comp_apply]; push_cast; omega) (by simp only [Function.comp_apply]; push_cast; omega)
        simpa using this
      rw [this]
      simp
    rw [this]
    simp
    omega
theorem good_apart {rs : List (Int × Int)} (g : Good rs) {p q : Int × Int} (hp : p ∈ rs) (hq : q ∈ rs) : p = q ∨ p.1 + p.2 < q.1 ∨ q.1 + q.2 < p.1 := by
  obtain ⟨i, hi, rfl⟩ := List.getElem_of_mem hp
  obtain ⟨j, hj, rfl⟩ := List.getElem_of_mem hq
  have h := List.pairwise_iff_getElem.mp g.2
  rcases Nat.lt_trichotomy i j with e | e | e
  · exact .inr (.inl (h i j hi hj e))
  · subst e; exact .inl rfl
  · exact .inr (.inr (h j i hj hi e))
theorem law_starts {ns ns' ks : List Int} (hp : ns'.Perm ns) (hs : ns'.Pairwise (· ≤ ·)) (kp : ks.Perm (keysL ns)) : (ks.filter fun k => decide (k - 1 ∉ ns)).length = (runsL ns').length := by
  have g := runs_good hs
  have hm : ∀ x, x ∈ ns ↔ x ∈ spreadL (runsL ns') := fun x => by rw [runs_mem hs, hp.mem_iff]
  have e : ks.Perm (spreadL (runsL ns')) := by
    refine kp.trans ?_
    refine (List.perm_ext_iff_of_nodup (keysL_nodup ns) ?_).mpr fun x => by rw [keysL_mem, hm]
    exact (spread_sorted g).imp fun h => by omega
  rw [(e.filter _).length_eq]
  refine starts_len g (fun p hp x h1 h2 => (hm x).mpr (mem_spread.mpr ⟨p, hp, h1, h2⟩)) fun p hp q => ?_
  obtain ⟨r, hr, h1, h2⟩ := mem_spread.mp ((hm _).mp q)
  have h0 : 1 ≤ p.2 := g.1 p hp
  rcases good_apart g hp hr with rfl | h | h
  · omega
  · omega
  · omega
theorem runs_bound {ns : List Int} (hs : ns.Pairwise (· ≤ ·)) (hb : ∀ n ∈ ns, 0 ≤ n ∧ n < 30) : ∀ p ∈ runsL ns, 0 ≤ p.1 ∧ p.1 < 1000 ∧ 0 ≤ p.2 ∧ p.2 < 1000 := by
  intro p hp
  have h1 : 1 ≤ p.2 := (runs_good hs).1 p hp
  have ha := hb p.1 ((runs_mem hs _).mp (mem_spread.mpr ⟨p, hp, by omega, by omega⟩))
  have hc := hb (p.1 + p.2 - 1) ((runs_mem hs _).mp (mem_spread.mpr ⟨p, hp, by omega, by omega⟩))
  omega
end Mine

/-! MLawA -/
namespace Mine
abbrev rLaw : DefRec := recAt 6 (by decide)
abbrev eLaw (L f : Addr) (cd : Value) : Env := envOfC rLaw.name rLaw.scope L f cd
def bodyLoop : List Stmt := match rLaw.body with | [_, _, _, .For _ _ b _ _, _, _] => b | _ => []
def law1 : Stmt := match bodyLoop with | [s, _, _, _] => s | _ => .Pass ⟨0, 0, 0, 0⟩
def law2 : Stmt := match bodyLoop with | [_, s, _, _] => s | _ => .Pass ⟨0, 0, 0, 0⟩
def law3 : Stmt := match bodyLoop with | [_, _, s, _] => s | _ => .Pass ⟨0, 0, 0, 0⟩
def law4 : Stmt := match bodyLoop with | [_, _, _, s] => s | _ => .Pass ⟨0, 0, 0, 0⟩
theorem bodyLoop_eq : bodyLoop = [law1, law2, law3, law4] := by rfl
theorem cells_law (L : Addr) : cellsFrom (L + 1) rLaw.scope.names [] = [(Str.ofString "runs", L + 1 + 1), (Str.ofString "numbers", L + 1)] := by rfl

/-- amid one turn of the loop -/
structure Turn (hb : Heap) (L a r : Addr) (ns ns' : List Int) (h : Heap) : Prop where
  up : Up hb h
  cn : h.IsCell (L + 1) (some (.ref a))
  cr : h.IsCell (L + 1 + 1) (some (.ref r))
  la : ∃ vs : List Value, h.IsList a vs.toArray ∧ IntsAre vs ns
  lr : ∃ ws : List Value, h.PlainList r ws.toArray ∧ Pairs [] h ws (runsL ns')
  len : ns.length < 30
  bnd : ∀ n ∈ ns, 0 ≤ n ∧ n < 30
  perm : ns'.Perm ns
  sorted : ns'.Pairwise (· ≤ ·)
theorem Turn.grow {hb : Heap} {L a r : Addr} {ns ns' : List Int} {h h' : Heap} (S : Turn hb L a r ns ns' h) (k : Up h h') : Turn hb L a r ns ns' h' :=
  ⟨S.up.trans k, S.cn.keeps k, S.cr.keeps k, let ⟨vs, h1, h2⟩ := S.la; ⟨vs, h1.at fun o e => k _ o e, h2⟩, let ⟨ws, h1, h2⟩ := S.lr; ⟨ws, h1.at fun o e => k _ o e, h2.up k⟩, S.len, S.bnd, S.perm, S.sorted⟩
theorem Turn.bound {hb : Heap} {L a r : Addr} {ns ns' : List Int} {h : Heap} (S : Turn hb L a r ns ns' h) : ∀ p ∈ runsL ns', 0 ≤ p.1 ∧ p.1 < 1000 ∧ 0 ≤ p.2 ∧ p.2 < 1000 :=
  runs_bound S.sorted fun n hn => S.bnd n (S.perm.mem_iff.mp hn)
theorem Turn.runs_len {hb : Heap} {L a r : Addr} {ns ns' : List Int} {h : Heap} (S : Turn hb L a r ns ns' h) : (runsL ns').length < 30 := by
  have := runsL_len ns'
  have := S.perm.length_eq
  have := S.len
  omega
section
variable {prog : Program} {w : World} {A : Around} {E : Value → Shared → Prop} {s : Shared} {mg mb : Str → Option Value} {L f a r : Addr} {cd : Value} {hb : Heap} {ns ns' : List Int}
theorem ev_cell {x : Str} {pos : Pos} {c : Addr} {v : Value} {Q : Value → Shared → Prop} (hc : (cellsFrom (L + 1) rLaw.scope.names []).lookup x = some c) (hv : s.heap.IsCell c (some v)) (h : Q v s)
    (hl : (eLaw L f cd).kindOf x = some .cell := by rfl) (hd : (x == ("__debug__" : Str)) = false := by decide) :
    wpAny (model prog w) A (eval (.Name x pos) (eLaw L f cd)) Q E s := wpAny_Name (wpAny_loadName_cell rfl hl hc hv h) hd

theorem paired_nil {F : Value → Value → Prop} {vs : List Value} {ys : Array Value} (h : Paired F (vs.filter fun _ => false) ys.toList) : ys = #[] := by
  have e := h.length
  have e2 : vs.filter (fun _ => false) = [] := List.filter_eq_nil_iff.mpr (by simp)
  rw [e2] at e
  have : ys.toList = [] := List.length_eq_zero_iff.mp (by simpa using e.symm)
  have := congrArg List.toArray this
  simpa using this
/-- an empty list against [] -/
theorem ne_empty {D : Addr} {p2 : Pos} {Q : Bool → Shared → Prop} (hD : s.heap.PlainList D #[]) (hu : A.units + 100 < cLine) {env : Env} (h : ∀ s', Grew s s' → Q false s') :
    wpAny (model prog w) A (eval (.List [] p2) env) (fun b s₂ => wpAny (model prog w) A (compareOp .NotEq (.ref D) b) (fun c s₃ => wpAny (model prog w) A (truthy c) Q E s₃) E s₂) E s := by
  refine List_ (args_nil (wpAny_newList ?_))
  have hD' : (s.heap.push { cls := .type "list", data := .seq ([] : List Value).toArray }).PlainList D ([] : List Value).toArray := hD.at fun o e => Heap.get?_push_of_some _ e
  refine ne_lists (s := { s with heap := s.heap.push _ }) (list_reads hD'.isList .nil) (list_reads (vs := []) ⟨_, Heap.get?_push_size _ rfl, rfl, _, rfl⟩ .nil) rfl rfl (by omega) (by show PyData.depthAll [] < 60; decide) ?_
  refine wpAny_truthy_bool ?_
  exact h _ ⟨Up.push _, rfl, rfl⟩
theorem turn2 (T : MyTop mg mb hb) (S : Turn hb L a r ns ns' s.heap) (hh : A.handled = none) (hd : A.depth < recursionLimit) (hu : A.units + 100 < cLine) :
    wpAny (model prog w) A (exec law2 (eLaw L f cd)) (fun fl s' => fl = .next ∧ Grew s s') E s := by
  obtain ⟨fs, os, _, _, _, hfs, hos, hds, _⟩ := T.fn rSpread (recAt_mem 5 (by decide))
  refine wpAny_If ?_
  refine isTrue_or ?_
  refine wpAny_isTrue_Compare1 ?_
  refine Call_ ?_
  refine ev_global (T.keeps S.up) rfl rfl rfl hfs ?_
  refine callWith_def hds (args_cons ?_)
  refine ev_cell rfl S.cr ?_
  refine args_nil ⟨S.up _ _ hos, ?_⟩
  obtain ⟨ws, hlr, hpr⟩ := S.lr
  refine call_spread (T.keeps S.up) hfs hh hd hlr.isList hpr (by have := S.runs_len; omega) S.bound fun s₁ r₁ ws₁ g₁ hr₁ hl₁ hI₁ => ?_
  have S₁ := S.grow g₁.up
  refine Call_ ?_
  refine ev_builtin (T.keeps S₁.up) rfl rfl rfl rfl (by decide) PyProof.Rows.boot_sorted ?_
  refine callWith_builtin1 (args_cons (Call_ ?_))
  refine ev_builtin (T.keeps S₁.up) rfl rfl rfl rfl (by decide) PyProof.Rows.boot_set ?_
  refine callWith_type1 (args_cons ?_)
  refine ev_cell rfl S₁.cn ?_
  obtain ⟨vs, hla, hIa⟩ := S₁.la
  refine args_nil (call_set hh hla hIa (by have := S.len; omega) fun s₂ b g₂ hb2 hS => ?_)
  refine args_nil ?_
  refine hS.sorts (by have := keysL_len ns; have := S.len; omega) A s₂ _ _ hh Up.refl fun s₃ D vs' ks g₃ hD hlD hIk hpk hsk => ?_
  have S₃ := S₁.grow (g₂.up.trans g₃.up)
  have hl₃ : s₃.heap.PlainList r₁ ws₁.toArray := hl₁.at fun o e => g₃.up _ _ (g₂.up _ _ e)
  refine ne_lists (list_reads hl₃.isList (ints_reads hI₁)) (list_reads hlD.isList (ints_reads hIk)) (canLay_ints _) (canLay_ints _) (by omega) (by rw [depth_ints]; omega) ?_
  refine wpAny_truthy_bool ?_
  rw [eqv_ints, law_spread S.perm S.sorted hpk hsk]
  simp only [decide_true, Bool.not_true, Bool.false_eq_true, if_false]
  refine isTrue_or ?_
  refine wpAny_isTrue_Compare1 ?_
  refine wpAny_ListComp_free (cl := []) (fun _ => false) (fun _ _ => True) rfl (by decide +kernel) rfl (by decide +kernel) rfl ?_ (by intro _; rfl)
  refine ev_cell rfl S₃.cr ?_
  have hlr₃ : s₃.heap.PlainList r ws.toArray := hlr.at fun o e => g₃.up _ _ (g₂.up _ _ (g₁.up _ _ e))
  have hpr₃ : Pairs [] s₃.heap ws (runsL ns') := ((hpr.up g₁.up).up g₂.up).up g₃.up
  refine wpAny_pyIter_list hlr₃.isList ?_
  have hIf : s₃.heap.get? s₃.heap.objs.size = none := fresh_none (Nat.le_refl _)
  have hrl : r < s₃.heap.objs.size := by obtain ⟨_, e⟩ := hlr₃; exact Heap.lt_size e
  have hwl : ws.length < 30 := by rw [hpr.length]; exact S.runs_len
  refine ⟨s₃.heap.objs.size, [s₃.heap.objs.size, r], [s₃.heap.objs.size], ws.toArray.size, _, _, rfl, Walks.list hh _ r (Nat.ne_of_lt hrl) ws.toArray, by rw [sizeLine_eq]; simp only [List.size_toArray]; omega, ⟨⟨_, Heap.get?_push_size _ rfl, rfl, rfl⟩, hlr₃.isList.push _⟩, ?_, ⟨?_, ?_⟩, ?_⟩
  · intro b hb
    show b < (s₃.heap.push _).objs.size
    rw [size_push']
    rcases List.mem_cons.mp hb with rfl | hb
    · exact Nat.lt_succ_self _
    · rw [List.mem_singleton.mp hb]; exact Nat.lt_succ_of_lt hrl
  · intro C i v s₄ m₄ E' hC hv hn hm hk htk
    obtain ⟨t, x, y, tx, ty, rfl, hxy, ht, _⟩ := hpr₃.get (i := i) (v := v) (by simpa using hv)
    have h1 : 1 ≤ y := (runs_good S.sorted).1 _ (List.mem_of_getElem? hxy)
    have ht₄ : IsTup s₄.heap t #[.int x tx, .int y ty] := IsTup.up' ht fun o e => hk _ _ (fun q => by rw [List.mem_singleton.mp q, hIf] at e; cases e) (Heap.get?_push_of_some _ e)
    refine wpAny_tests_one (wpAny_isTrue_Compare1 ?_)
    refine ev_part (j := 1) (its := [.int x tx, .int y ty]) (fun Q' h' => ev_local rfl rfl hn hm (h' _)) ht₄ rfl (by decide) fun tk => ?_
    refine wpAny_Constant_int (PyProof.Rows.lt_int (wpAny_truthy_bool ?_))
    exact ⟨by simp; omega, s₄.heap, _, rfl, fun _ _ e => e⟩
  · intro C i v s₄ m₄ E' hC hv hp
    cases hp
  · intro D' h' tk ys vs2 hD' hl' hpl hvl hvp hpr' hk
    have e := paired_nil hpr'
    subst e
    refine ne_empty (s := { s₃ with heap := h', toks := tk }) hpl hu fun s₅ g₅ => ?_
    simp only [Bool.false_eq_true, if_false]
    refine isTrue_or_nil ?_
    simp only [Bool.false_eq_true, if_false]
    refine wpAny_execs_nil ⟨rfl, ⟨fun b o e => g₅.up _ _ (hk _ _ (fun q => ?_) (Heap.get?_push_of_some _ (g₃.up _ _ (g₂.up _ _ (g₁.up _ _ e))))), (g₅.gens.trans g₃.gens).trans (g₂.gens.trans g₁.gens), (g₅.os.trans g₃.os).trans (g₂.os.trans g₁.os)⟩⟩
    rw [List.mem_singleton.mp q] at e
    have := g₃.up _ _ (g₂.up _ _ (g₁.up _ _ e))
    rw [hIf] at this; cases this
end
end Mine

/-! MLawB -/
namespace Mine
def pStart (ns : List Int) (v : Value) : Bool := match v with | .int k _ => decide (k - 1 ∉ ns) | _ => false
theorem pStart_len {ns : List Int} {vs : List Value} {ms : List Int} (h : IntsAre vs ms) : (vs.filter (pStart ns)).length = (ms.filter fun k => decide (k - 1 ∉ ns)).length := by
  induction h with
  | nil => rfl
  | cons n t _ ih =>
    rw [List.filter_cons, List.filter_cons]
    have e : pStart ns (.int n t) = decide (n - 1 ∉ ns) := rfl
    rw [e]
    split
    · simp [ih]
    · exact ih
theorem any_mem (ns : List Int) (k : Int) : (!(ns.any (· == k))) = decide (k ∉ ns) := by
  by_cases h : k ∈ ns
  · have : ns.any (· == k) = true := List.any_eq_true.mpr ⟨k, h, by simp⟩
    simp [this, h]
  · have : ns.any (· == k) = false := by
      refine List.any_eq_false.mpr fun x hx => ?_
      simp
      exact fun e => h (e ▸ hx)
    simp [this, h]
section
variable {prog : Program} {w : World} {A : Around} {E : Value → Shared → Prop} {s : Shared} {mg mb : Str → Option Value} {L f a r : Addr} {cd : Value} {hb : Heap} {ns ns' : List Int}
theorem turn3 (T : MyTop mg mb hb) (S : Turn hb L a r ns ns' s.heap) (hh : A.handled = none) (hd : A.depth < recursionLimit) (hu : A.units + 100 < cLine) :
    wpAny (model prog w) A (exec law3 (eLaw L f cd)) (fun fl s' => fl = .next ∧ Grew s s') E s := by
  refine wpAny_If ?_
  refine wpAny_isTrue_Compare1 ?_
  refine Call_ ?_
  refine ev_builtin (T.keeps S.up) rfl rfl rfl rfl (by decide) PyProof.Rows.Boot.len ?_
  refine callWith_builtin1 (args_cons ?_)
  refine ev_cell rfl S.cr ?_
  obtain ⟨ws, hlr, hpr⟩ := S.lr
  have hwl : ws.length < 30 := by rw [hpr.length]; exact S.runs_len
  refine args_nil (PyProof.Rows.len_list hlr.isList (by simp only [List.size_toArray]; omega) ?_)
  refine Call_ ?_
  refine ev_builtin (s := { s with toks := _ }) (T.keeps S.up) rfl rfl rfl rfl (by decide) PyProof.Rows.Boot.len ?_
  refine callWith_builtin1 (args_cons ?_)
  refine wpAny_ListComp_free (cl := [(Str.ofString "numbers", L + 1)]) (pStart ns) (fun _ _ => True) rfl (by decide +kernel) rfl (by decide +kernel) rfl ?_ (by intro _; rfl)
  refine Call_ ?_
  refine ev_builtin (s := { s with toks := _ }) (T.keeps S.up) rfl rfl rfl rfl (by decide) PyProof.Rows.boot_set ?_
  refine callWith_type1 (args_cons ?_)
  refine ev_cell (s := { s with toks := _ }) rfl S.cn ?_
  obtain ⟨vs, hla, hIa⟩ := S.la
  refine args_nil (call_set (s := { s with toks := _ }) hh hla hIa (by have := S.len; omega) fun s₂ b g₂ hb2 hS => ?_)
  have u₂ : Up s.heap s₂.heap := g₂.up
  obtain ⟨o, es, ep, tb, hoe, hx, hdt, hel, hpm, hbd, hft, htb⟩ := hS
  have hes : es.size < 30 := by
    have e1 := hpm.length_eq
    rw [List.length_map, Array.length_toList] at e1
    have := keysL_len ns; have := S.len; omega
  refine iter_set hh (by rw [sizeLine_eq]; omega) (⟨⟨o, hoe, hx, hdt⟩, hft, htb⟩ : SetIn w s₂.heap b es ep tb) fun s₃ I fp St ord g₃ hI hfp hfl W st hord => ?_
  have hS₃ := S.grow (u₂.trans g₃.up)
  have hIs : s.heap.get? I = none := by
    cases q : s.heap.get? I with
    | none => rfl
    | some o => rw [u₂ _ _ q] at hI; cases hI
  obtain ⟨ms, hIo, hms⟩ := ints_permute hord (ints_perm (prog := prog) (w := w) hel)
  have hms' : ms.Perm (keysL ns) := hms.trans hpm
  have hol : ord.length = es.size := by rw [hord.length_eq, List.length_map, Array.length_toList]
  obtain ⟨vs₃, hla₃, hIa₃⟩ := hS₃.la
  refine ⟨I, fp, [I], es.size, _, St, rfl, W, by rw [sizeLine_eq]; omega, st, hfl, ⟨?_, ?_⟩, ?_⟩
  · intro C i v s₄ m₄ E' hC hv hn hm hk htk
    obtain ⟨t, rfl⟩ := hIo.int_at i v hv
    have k4 : ∀ b o, s.heap.get? b = some o → s₄.heap.get? b = some o := fun b o e => hk b o (fun q => by rw [List.mem_singleton.mp q, hIs] at e; cases e) (g₃.up _ _ (u₂ _ _ e))
    have hcn : s₄.heap.IsCell (L + 1) (some (.ref a)) := S.cn.keeps k4
    have hla₄ : s₄.heap.IsList a vs.toArray := hla.at fun o e => k4 _ o e
    refine wpAny_tests_one (wpAny_isTrue_Compare1 ?_)
    refine wpAny_BinOp (ev_local rfl rfl hn hm ?_)
    refine wpAny_Constant_int (PyProof.Rows.sub_int ?_)
    refine wpAny_Name (wpAny_loadName_cell rfl rfl rfl hcn ?_) (by decide)
    refine notin_list_ints (s := { s₄ with toks := _ }) hla₄ hIa ?_
    refine wpAny_truthy_bool ?_
    exact ⟨any_mem _ _, s₄.heap, _, rfl, fun _ _ e => e⟩
  · intro C i v s₄ m₄ E' hC hv hp hn hm hk htk
    refine ev_local rfl rfl hn hm ⟨trivial, s₄.heap, s₄.toks, rfl, fun _ _ e => e⟩
  · intro D' h' tk ys vs2 hD' hl' hpl hvl hvp hpr' hk
    have hvo : vs2 = ord := by
      refine List.ext_getElem? fun j => ?_
      cases q : vs2[j]? with
      | some v => exact (hvp j v q).symm
      | none =>
        have := List.getElem?_eq_none_iff.mp q
        exact (List.getElem?_eq_none (by omega)).symm
    subst hvo
    have hlen : ys.size = (runsL ns').length := by
      have e1 := hpr'.length
      rw [pStart_len hIo, law_starts S.perm S.sorted hms', Array.length_toList] at e1
      exact e1.symm
    have U' : Up s.heap h' := fun b o e => hk b o (fun q => by rw [List.mem_singleton.mp q, hIs] at e; cases e) (g₃.up _ _ (u₂ _ _ e))
    refine args_nil (PyProof.Rows.len_list (s := { s₃ with heap := h', toks := tk }) hl' (by have := S.runs_len; omega) ?_)
    refine PyProof.Rows.ne_int (wpAny_truthy_bool ?_)
    have e : ((ws.toArray.size : Int) != (ys.size : Int)) = false := by
      rw [hlen, List.size_toArray, hpr.length]; simp
    rw [e]
    simp only [Bool.false_eq_true, if_false]
    exact wpAny_execs_nil ⟨rfl, U', g₃.gens.trans g₂.gens, g₃.os.trans g₂.os⟩
end
end Mine

/-! MLawC -/
namespace Mine
theorem walks_lt {prog : Program} {w : World} {A : Around} {I : Addr} {fp wr : List Addr} {n : Nat} {P : Nat → Value → Prop} {St : Nat → Heap → Prop} (W : Walks prog w A I fp wr n P St) : Walks prog w A I fp wr n (fun i v => i < n ∧ P i v) St where
  sub := W.sub
  frame := W.frame
  item := fun i s Q E hi st hQ => W.item i s Q E hi st fun v h' tk hp => hQ v h' tk ⟨hi, hp⟩
  done := W.done
  self := W.self
section
variable {prog : Program} {w : World} {A : Around} {E : Value → Shared → Prop} {s : Shared} {mg mb : Str → Option Value} {L f a r : Addr} {cd : Value} {hb : Heap} {ns ns' : List Int} {env : Env}
/-- xs[i] of a list, i any int expression -/
theorem ev_item {e ie : PySem.Expr} {p6 : Pos} {k : Int} {its : Array Value} {x : Value} {Q : Value → Shared → Prop}
    (he : ∀ Q', Q' (.ref r) s → wpAny (model prog w) A (eval e env) Q' E s) (hi : ∀ Q' : Value → Shared → Prop, (∀ tk u, Q' (.int k u) { s with toks := tk }) → wpAny (model prog w) A (eval ie env) Q' E s)
    (hl : s.heap.IsList r its) (h0 : 0 ≤ k) (hk : k < 2 ^ 62) (hx : its[k.toNat]? = some x) (h : ∀ tk, Q x { s with toks := tk })
    (hs : ∀ u, subscripted ie false (.ref r) (.int k u) = operate [.ref r, .int k u] (getItem (.ref r) (.int k u)) := by intro u; with_unfolding_all rfl) :
    wpAny (model prog w) A (eval (.Subscript e ie p6) env) Q E s := by
  refine Subscript_ (he _ ?_)
  refine hi _ fun tk u => ?_
  have hl' : ({ s with toks := tk } : Shared).heap.IsList r its := hl
  refine tail_any (s := { s with toks := tk }) (hl'.typeIs) slot_list_getitem.lookup ?_ (hs _)
  exact wpAny_getItem_list hl' h0 (by omega) hx (h _)
theorem turn4 (T : MyTop mg mb hb) (S : Turn hb L a r ns ns' s.heap) (hh : A.handled = none) (hu : A.units + 100 < cLine) :
    wpAny (model prog w) A (exec law4 (eLaw L f cd)) (fun fl s' => fl = .next ∧ Grew s s') E s := by
  obtain ⟨ws, hlr, hpr⟩ := S.lr
  have hwl : ws.length = (runsL ns').length := hpr.length
  have hrl := S.runs_len
  refine wpAny_If ?_
  refine wpAny_isTrue_Compare1 ?_
  refine wpAny_ListComp_free (cl := [(Str.ofString "runs", L + 1 + 1)]) (fun _ => false) (fun _ _ => True) rfl (by decide +kernel) rfl (by decide +kernel) rfl ?_ (by intro _; rfl)
  refine Call_ ?_
  refine ev_builtin (T.keeps S.up) rfl rfl rfl rfl (by decide) PyProof.Rows.boot_range ?_
  refine callWith_type1 (args_cons (wpAny_BinOp (Call_ ?_)))
  refine ev_builtin (T.keeps S.up) rfl rfl rfl rfl (by decide) PyProof.Rows.Boot.len ?_
  refine callWith_builtin1 (args_cons ?_)
  refine ev_cell rfl S.cr ?_
  refine args_nil (PyProof.Rows.len_list hlr.isList (by simp only [List.size_toArray]; omega) ?_)
  refine wpAny_Constant_int (PyProof.Rows.sub_int (args_nil ?_))
  refine range_iter hh (by simp only [List.size_toArray]; omega) (by simp only [List.size_toArray]; omega) fun s₃ I g₃ hI hIl W st => ?_
  have u₃ : Up s.heap s₃.heap := g₃.up
  have hIs : s.heap.get? I = none := hI
  refine ⟨I, [I], [I], _, _, _, rfl, walks_lt W, by rw [sizeLine_eq]; simp only [List.size_toArray]; omega, st, by intro b hb; rw [List.mem_singleton.mp hb]; exact hIl, ⟨?_, ?_⟩, ?_⟩
  · rintro C i v s₄ m₄ E' hC ⟨hlti, t, rfl⟩ hn hm hk htk
    have k4 : ∀ b o, s.heap.get? b = some o → s₄.heap.get? b = some o := fun b o e => hk b o (fun q => by rw [List.mem_singleton.mp q, hIs] at e; cases e) (u₃ _ _ e)
    have hcr : s₄.heap.IsCell (L + 1 + 1) (some (.ref r)) := S.cr.keeps k4
    have hlr₄ : s₄.heap.IsList r ws.toArray := hlr.isList.at fun o e => k4 _ o e
    have hpr₄ : Pairs [] s₄.heap ws (runsL ns') := hpr.up k4
    by_cases hin : i + 1 < ws.length
    · have h1 : ws[i]? = some ws[i] := List.getElem?_eq_getElem (by omega)
      have h2 : ws[i + 1]? = some ws[i + 1] := List.getElem?_eq_getElem hin
      obtain ⟨t1, x1, y1, tx1, ty1, e1, q1, ht1, _⟩ := hpr₄.get h1
      obtain ⟨t2, x2, y2, tx2, ty2, e2, q2, ht2, _⟩ := hpr₄.get h2
      rw [e1] at h1
      rw [e2] at h2
      have hlt : x1 + y1 < x2 := by
        have g := (runs_good S.sorted).2
        obtain ⟨a1, b1⟩ := List.getElem?_eq_some_iff.mp q1
        obtain ⟨a2, b2⟩ := List.getElem?_eq_some_iff.mp q2
        have := List.pairwise_iff_getElem.mp g i (i + 1) a1 a2 (Nat.lt_succ_self _)
        rw [b1, b2] at this
        exact this
      have ek : (0 : Int) + (i : Int) * 1 = (i : Int) := by omega
      refine wpAny_tests_one (wpAny_isTrue_Compare1 (wpAny_BinOp ?_))
      refine ev_part (j := 0) (its := [.int x1 tx1, .int y1 ty1]) (fun Q' h' => ev_item (k := (0 : Int) + (i : Int) * 1) (fun Q'' h'' => wpAny_Name (wpAny_loadName_cell rfl rfl rfl hcr h'') (by decide)) (fun Q'' h'' => ev_local rfl rfl hn hm (h'' _ _)) hlr₄ (by omega) (by omega) (by rw [ek]; simpa using h1) h') ht1 rfl (by decide) fun tk1 => ?_
      refine ev_part (s := { s₄ with toks := _ }) (j := 1) (its := [.int x1 tx1, .int y1 ty1]) (fun Q' h' => ev_item (s := { s₄ with toks := _ }) (k := (0 : Int) + (i : Int) * 1) (fun Q'' h'' => wpAny_Name (wpAny_loadName_cell rfl rfl rfl hcr h'') (by decide)) (fun Q'' h'' => ev_local rfl rfl hn hm (h'' _ _)) hlr₄ (by omega) (by omega) (by rw [ek]; simpa using h1) h') ht1 rfl (by decide) fun tk2 => ?_
      refine wpAny_add_int ?_
      refine ev_part (s := { s₄ with toks := _ }) (j := 0) (its := [.int x2 tx2, .int y2 ty2]) (fun Q' h' => ev_item (s := { s₄ with toks := _ }) (k := (0 : Int) + (i : Int) * 1 + 1) (fun Q'' h'' => wpAny_Name (wpAny_loadName_cell rfl rfl rfl hcr h'') (by decide)) (fun Q'' h'' => wpAny_BinOp (ev_local rfl rfl hn hm (wpAny_Constant_int (wpAny_add_int (h'' _ _))))) hlr₄ (by omega) (by omega) (by rw [ek]; simpa using h2) h') ht2 rfl (by decide) fun tk3 => ?_
      refine PyProof.Rows.ge_int (wpAny_truthy_bool ?_)
      exact ⟨by simp; omega, s₄.heap, _, rfl, fun _ _ e => e⟩
    · simp only [List.size_toArray] at hlti; omega
  · intro C i v s₄ m₄ E' hC hv hp
    cases hp
  · intro D' h' tk ys vs2 hD' hl' hpl hvl hvp hpr' hk
    have e := paired_nil hpr'
    subst e
    refine ne_empty (s := { s₃ with heap := h', toks := tk }) hpl hu fun s₅ g₅ => ?_
    simp only [Bool.false_eq_true, if_false]
    refine wpAny_execs_nil ⟨rfl, ⟨fun b o e => g₅.up _ _ (hk _ _ (fun q => ?_) (u₃ _ _ e)), g₅.gens.trans g₃.gens, g₅.os.trans g₃.os⟩⟩
    rw [List.mem_singleton.mp q, hIs] at e; cases e
end
end Mine

/-! MLawD -/
namespace Mine
theorem Pairs.cell {h h' : Heap} {c : Addr} {v : Option Value} {vs : List Value} {rs : List (Int × Int)} (p : Pairs [] h vs rs) (hc : h.IsCell c v) (hs : Heap.SameBut c h h') : Pairs [] h' vs rs := by
  induction p with
  | nil => exact .nil
  | cons ht hX _ ih =>
    refine .cons (IsTup.up' ht fun o e => (hs.2 _ fun q => ?_).trans e) hX ih
    obtain ⟨o1, e1, _, n, d1⟩ := ht
    obtain ⟨o2, e2, d2⟩ := hc
    rw [q, e2] at e1
    cases e1
    rw [d2] at d1
    cases d1
theorem list_ne_cell {h : Heap} {c r : Addr} {v : Option Value} {its : Array Value} (hl : h.IsList r its) (hc : h.IsCell c v) : r ≠ c := by
  intro q
  obtain ⟨o1, e1, _, n, d1⟩ := hl
  obtain ⟨o2, e2, d2⟩ := hc
  rw [q, e2] at e1
  cases e1
  rw [d2] at d1
  cases d1
section
variable {prog : Program} {w : World} {A : Around} {E : Value → Shared → Prop} {s : Shared} {mg mb : Str → Option Value} {L f a r : Addr} {cd : Value} {hb : Heap} {ns ns' : List Int}
theorem turn {vs : List Value} (T : MyTop mg mb hb) (U : Up hb s.heap) (hcf : hb.get? (L + 1 + 1) = none) (hh : A.handled = none) (hd : A.depth < recursionLimit) (hu : A.units + 200 < cLine)
    (cn : s.heap.IsCell (L + 1) (some (.ref a))) (cr : ∃ v, s.heap.IsCell (L + 1 + 1) v) (la : s.heap.IsList a vs.toArray) (hI : IntsAre vs ns) (hlen : ns.length < 30) (hbd : ∀ n ∈ ns, 0 ≤ n ∧ n < 30) :
    wpAny (model prog w) A (execs bodyLoop (eLaw L f cd)) (fun fl s' => fl = .next ∧ UpX [L + 1 + 1] s.heap s'.heap ∧ s'.gens = s.gens ∧ s'.os = s.os ∧ ∃ v, s'.heap.IsCell (L + 1 + 1) v) E s := by
  rw [bodyLoop_eq]
  obtain ⟨fr, or, _, _, _, hfr, hor, hdr, _⟩ := T.fn rRuns (recAt_mem 0 (by decide))
  refine wpAny_execs_cons ?_
  refine wpAny_Assign_Name ?_
  refine Call_ ?_
  refine ev_global (T.keeps U) rfl rfl rfl hfr ?_
  refine callWith_def hdr (args_cons ?_)
  refine ev_cell rfl cn ?_
  refine args_nil ⟨U _ _ hor, ?_⟩
  refine call_runs (T.keeps U) hfr hh hd (by omega) (Sorts.list la hI (by omega)) (by omega) fun s₁ r ws ns' g₁ hr₁ hlr hpr hperm hsort => ?_
  obtain ⟨v₀, cr⟩ := cr
  have cr₁ : s₁.heap.IsCell (L + 1 + 1) v₀ := cr.keeps g₁.up
  have cn₁ : s₁.heap.IsCell (L + 1) (some (.ref a)) := cn.keeps g₁.up
  refine wpAny_storeName_cell rfl rfl rfl cr₁ fun h₂ hv₂ hs₂ => ?_
  have k₂ : UpX [L + 1 + 1] s.heap h₂ := (g₁.up.toX _).trans (UpX.same hs₂)
  have U₂ : Up hb h₂ := U.except (by intro b hb'; rw [List.mem_singleton.mp hb']; exact hcf) k₂
  have hne : L + 1 ≠ L + 1 + 1 := Nat.ne_of_lt (Nat.lt_succ_self _)
  have S : Turn hb L a r ns ns' h₂ := ⟨U₂, cn₁.sameBut hs₂ hne, hv₂, ⟨vs, la.at fun o e => (hs₂.2 _ (list_ne_cell la cr)).trans (g₁.up _ _ e), hI⟩, ⟨ws, hlr.at fun o e => (hs₂.2 _ (list_ne_cell hlr.isList cr₁)).trans e, hpr.cell cr₁ hs₂⟩, hlen, hbd, hperm, hsort⟩
  refine wpAny_execs_cons (wpAny_mono (turn2 (s := { s₁ with heap := h₂ }) T S hh hd (by omega)) (fun fl s₃ h₃ => ?_) fun _ _ e => e)
  obtain ⟨rfl, g₃⟩ := h₃
  have S₃ := S.grow g₃.up
  refine wpAny_execs_cons (wpAny_mono (turn3 T S₃ hh hd (by omega)) (fun fl s₄ h₄ => ?_) fun _ _ e => e)
  obtain ⟨rfl, g₄⟩ := h₄
  have S₄ := S₃.grow g₄.up
  refine wpAny_execs_cons (wpAny_mono (turn4 T S₄ hh (by omega)) (fun fl s₅ h₅ => ?_) fun _ _ e => e)
  obtain ⟨rfl, g₅⟩ := h₅
  have S₅ := S₄.grow g₅.up
  exact wpAny_execs_nil ⟨rfl, fun b o hb' e => g₅.up _ _ (g₄.up _ _ (g₃.up _ _ (k₂ b o hb' e))), (g₅.gens.trans g₄.gens).trans (g₃.gens.trans g₁.gens), (g₅.os.trans g₄.os).trans (g₃.os.trans g₁.os), _, S₅.cr⟩
end
end Mine

/-! MLawE -/
namespace Mine
def lawIf : Stmt := match rLaw.body with | [_, _, _, _, s, _] => s | _ => .Pass ⟨0, 0, 0, 0⟩
def lawRet : Stmt := match rLaw.body with | [_, _, _, _, _, s] => s | _ => .Pass ⟨0, 0, 0, 0⟩
/-- a list of ints, plain -/
def IntList (h : Heap) (a : Addr) (ns : List Int) : Prop := ∃ vs : List Value, h.PlainList a vs.toArray ∧ IntsAre vs ns
theorem IntList.up {h h' : Heap} {a : Addr} {ns : List Int} (x : IntList h a ns) (k : ∀ o, h.get? a = some o → h'.get? a = some o) : IntList h' a ns :=
  let ⟨vs, h1, h2⟩ := x; ⟨vs, h1.at k, h2⟩
/-- behind the loop -/
structure Post (hb : Heap) (L : Addr) (m : Str → Option Value) (a1 a2 K : Addr) (n1 n2 : List Int) (h : Heap) : Prop where
  up : Up hb h
  ns : h.Ns L m
  m1 : m "one" = some (.ref a1)
  m2 : m "other" = some (.ref a2)
  m3 : m "kept" = some (.ref K)
  l1 : IntList h a1 n1
  l2 : IntList h a2 n2
  kept : ∃ b1 b2, IsTup h K #[.ref b1, .ref b2] ∧ IntList h b1 n1 ∧ IntList h b2 n2
  len1 : n1.length < 13
  len2 : n2.length < 13
  bd1 : ∀ n ∈ n1, 0 ≤ n ∧ n < 30
  bd2 : ∀ n ∈ n2, 0 ≤ n ∧ n < 30
theorem Post.grow {hb : Heap} {L : Addr} {m : Str → Option Value} {a1 a2 K : Addr} {n1 n2 : List Int} {h h' : Heap} (S : Post hb L m a1 a2 K n1 n2 h) (k : Up h h') : Post hb L m a1 a2 K n1 n2 h' :=
  ⟨S.up.trans k, S.ns.keeps k, S.m1, S.m2, S.m3, S.l1.up fun o e => k _ o e, S.l2.up fun o e => k _ o e, let ⟨b1, b2, x, y, z⟩ := S.kept; ⟨b1, b2, IsTup.up' x fun o e => k _ o e, y.up fun o e => k _ o e, z.up fun o e => k _ o e⟩, S.len1, S.len2, S.bd1, S.bd2⟩
theorem spread_perm {ns ns' : List Int} (hp : ns'.Perm ns) (hs : ns'.Pairwise (· ≤ ·)) : (spreadL (runsL ns')).Perm (keysL ns) := by
  refine (List.perm_ext_iff_of_nodup ?_ (keysL_nodup ns)).mpr fun x => by rw [keysL_mem, runs_mem hs, hp.mem_iff]
  exact (spread_sorted (runs_good hs)).imp fun h => by omega
section
variable {prog : Program} {w : World} {A : Around} {E : Value → Shared → Prop} {s : Shared} {mg mb : Str → Option Value} {L f a1 a2 K : Addr} {cd : Value} {hb : Heap} {n1 n2 : List Int} {m : Str → Option Value}
theorem add_ints {a b : Addr} {Q : Value → Shared → Prop} (h1 : IntList s.heap a n1) (h2 : IntList s.heap b n2) (hl : n1.length + n2.length < 1000) (h : ∀ s' D, Grew s s' → s.heap.get? D = none → IntList s'.heap D (n1 ++ n2) → Q (.ref D) s') :
    wpAny (model prog w) A (binaryOp .Add (.ref a) (.ref b)) Q E s := by
  obtain ⟨vs, ⟨n, e⟩, hi⟩ := h1
  obtain ⟨ws, ⟨k, e'⟩, hj⟩ := h2
  have l1 := hi.length
  have l2 := hj.length
  refine P.add_list e e' (h _ _ ⟨Up.push _, rfl, rfl⟩ (fresh_none (Nat.le_refl _)) ⟨vs ++ ws, ⟨0, ?_⟩, hi.append hj⟩) (by rw [sizeLine_eq]; simp only [List.size_toArray]; omega)
  have : (vs ++ ws).toArray = vs.toArray ++ ws.toArray := by simp
  rw [this]
  exact Heap.get?_push_size _ rfl
theorem runs_of_ints {fr a : Addr} {Q : Value → Shared → Prop} (T : MyTop mg mb hb) (U : Up hb s.heap) (hf : mg "runs_of" = some (.ref fr)) (hh : A.handled = none) (hd : A.depth < recursionLimit) (hu : A.units + 100 < cLine) (l1 : IntList s.heap a n1) (hlen : n1.length < 64)
    (h : ∀ s' r vs ns', Grew s s' → s.heap.get? r = none → s'.heap.PlainList r vs.toArray → Pairs [] s'.heap vs (runsL ns') → ns'.Perm n1 → ns'.Pairwise (· ≤ ·) → Q (.ref r) s') :
    wpAny (model prog w) A (call (.ref fr) [.ref a]) Q E s := by
  obtain ⟨vs, hl, hi⟩ := l1
  exact call_runs (T.keeps U) hf hh hd hu (Sorts.list hl.isList hi hlen) hlen h
theorem law_if (T : MyTop mg mb hb) (S : Post hb L m a1 a2 K n1 n2 s.heap) (hh : A.handled = none) (hd : A.depth < recursionLimit) (hu : A.units + 200 < cLine) :
    wpAny (model prog w) A (exec lawIf (eLaw L f cd)) (fun fl s' => fl = .next ∧ Grew s s') E s := by
  obtain ⟨fr, or, _, _, _, hfr, hor, hdr, _⟩ := T.fn rRuns (recAt_mem 0 (by decide))
  obtain ⟨fs, os, _, _, _, hfs, hos, hds, _⟩ := T.fn rSpread (recAt_mem 5 (by decide))
  refine wpAny_If ?_
  refine wpAny_isTrue_Compare1 ?_
  refine Call_ ?_
  refine ev_global (T.keeps S.up) rfl rfl rfl hfr ?_
  refine callWith_def hdr (args_cons (wpAny_BinOp (Call_ ?_)))
  refine ev_global (T.keeps S.up) rfl rfl rfl hfs ?_
  refine callWith_def hds (args_cons (Call_ ?_))
  refine ev_global (T.keeps S.up) rfl rfl rfl hfr ?_
  refine callWith_def hdr (args_cons ?_)
  refine ev_local rfl rfl S.ns S.m1 ?_
  refine args_nil ⟨S.up _ _ hor, ?_⟩
  refine runs_of_ints T S.up hfr hh hd (by omega) S.l1 (by have := S.len1; omega) fun s₁ r₁ w₁ k₁ g₁ _ hr₁ hp₁ hperm₁ hs₁ => ?_
  have S₁ := S.grow g₁.up
  have bd₁ : ∀ n ∈ k₁, 0 ≤ n ∧ n < 30 := fun n hn => S.bd1 n (hperm₁.mem_iff.mp hn)
  have rl₁ : (runsL k₁).length < 64 := by have := runsL_len k₁; have := hperm₁.length_eq; have := S.len1; omega
  refine args_nil ⟨S₁.up _ _ hos, ?_⟩
  refine call_spread (T.keeps S₁.up) hfs hh hd hr₁.isList hp₁ rl₁ (runs_bound hs₁ bd₁) fun s₂ q₂ w₂ g₂ hq₂ hl₂ hI₂ => ?_
  have S₂ := S₁.grow g₂.up
  have I₂ : IntList s₂.heap q₂ (spreadL (runsL k₁)) := ⟨w₂, hl₂, hI₂⟩
  refine Call_ ?_
  refine ev_global (T.keeps S₂.up) rfl rfl rfl hfs ?_
  refine callWith_def hds (args_cons (Call_ ?_))
  refine ev_global (T.keeps S₂.up) rfl rfl rfl hfr ?_
  refine callWith_def hdr (args_cons ?_)
  refine ev_local rfl rfl S₂.ns S₂.m2 ?_
  refine args_nil ⟨S₂.up _ _ hor, ?_⟩
  refine runs_of_ints T S₂.up hfr hh hd (by omega) S₂.l2 (by have := S.len2; omega) fun s₃ r₃ w₃ k₃ g₃ _ hr₃ hp₃ hperm₃ hs₃ => ?_
  have S₃ := S₂.grow g₃.up
  have bd₃ : ∀ n ∈ k₃, 0 ≤ n ∧ n < 30 := fun n hn => S.bd2 n (hperm₃.mem_iff.mp hn)
  have rl₃ : (runsL k₃).length < 64 := by have := runsL_len k₃; have := hperm₃.length_eq; have := S.len2; omega
  refine args_nil ⟨S₃.up _ _ hos, ?_⟩
  refine call_spread (T.keeps S₃.up) hfs hh hd hr₃.isList hp₃ rl₃ (runs_bound hs₃ bd₃) fun s₄ q₄ w₄ g₄ hq₄ hl₄ hI₄ => ?_
  have S₄ := S₃.grow g₄.up
  have I₄ : IntList s₄.heap q₄ (spreadL (runsL k₃)) := ⟨w₄, hl₄, hI₄⟩
  have e₁ := (spread_perm hperm₁ hs₁).length_eq
  have e₃ := (spread_perm hperm₃ hs₃).length_eq
  have e₁' := keysL_len n1
  have e₃' := keysL_len n2
  have L1 := S.len1
  have L2 := S.len2
  refine add_ints (I₂.up fun o e => g₄.up _ _ (g₃.up _ _ e)) I₄ (by omega) fun s₅ D₅ g₅ hD₅ I₅ => ?_
  have S₅ := S₄.grow g₅.up
  refine args_nil ⟨S₅.up _ _ hor, ?_⟩
  refine runs_of_ints T S₅.up hfr hh hd (by omega) I₅ (by rw [List.length_append]; omega) fun s₆ r₆ w₆ k₆ g₆ _ hr₆ hp₆ hperm₆ hs₆ => ?_
  have S₆ := S₅.grow g₆.up
  refine Call_ ?_
  refine ev_global (T.keeps S₆.up) rfl rfl rfl hfr ?_
  refine callWith_def hdr (args_cons (wpAny_BinOp ?_))
  refine ev_local rfl rfl S₆.ns S₆.m2 ?_
  refine ev_local rfl rfl S₆.ns S₆.m1 ?_
  refine add_ints S₆.l2 S₆.l1 (by omega) fun s₇ D₇ g₇ hD₇ I₇ => ?_
  have S₇ := S₆.grow g₇.up
  refine args_nil ⟨S₇.up _ _ hor, ?_⟩
  refine runs_of_ints T S₇.up hfr hh hd (by omega) I₇ (by rw [List.length_append]; omega) fun s₈ r₈ w₈ k₈ g₈ _ hr₈ hp₈ hperm₈ hs₈ => ?_
  have S₈ := S₇.grow g₈.up
  have hr₆' : s₈.heap.PlainList r₆ w₆.toArray := hr₆.at fun o e => g₈.up _ _ (g₇.up _ _ e)
  have hp₆' : Pairs [] s₈.heap w₆ (runsL k₆) := (hp₆.up g₇.up).up g₈.up
  refine ne_lists (list_reads hr₆'.isList hp₆'.reads) (list_reads hr₈.isList hp₈.reads) (canLay_pairs _) (canLay_pairs _) (by omega) (by have := depth_pairs (runsL k₆); omega) ?_
  refine wpAny_truthy_bool ?_
  have same : runsL k₆ = runsL k₈ := runs_same hs₆ hs₈ fun x => by
    rw [hperm₆.mem_iff, hperm₈.mem_iff, List.mem_append, List.mem_append, runs_mem hs₁, runs_mem hs₃, hperm₁.mem_iff, hperm₃.mem_iff]
    exact Or.comm
  rw [eqv_pairs, same]
  simp only [decide_true, Bool.not_true, Bool.false_eq_true, if_false]
  exact wpAny_execs_nil ⟨rfl, ((((((g₁.trans g₂).trans g₃).trans g₄).trans g₅).trans g₆).trans g₇).trans g₈⟩
end
end Mine

/-! MCompT -/
namespace Mine
section
variable {prog : Program} {w : World} {A : Around} {E : Value → Shared → Prop} {env : Env}
theorem comp_tup {elt iter : PySem.Expr} {x : Str} {px : Pos} {scope : Scope} {cl : List (Str × Addr)} {pos : Pos} {s₂ : Shared} {I : Addr} {fp : List Addr} {n : Nat} {P : Nat → Value → Prop} {St : Nat → Heap → Prop} {Q : Value → Shared → Prop}
    (W : Walks prog w A I fp [I] n P St) (hfp : ∀ b ∈ fp, b < s₂.heap.objs.size) (hsz : n ≤ sizeLine) (J : Addr → Addr → Nat → List Value → Shared → Prop) (hIlive : ∀ i h, St i h → ∃ o, h.get? I = some o)
    (hcell : ∀ y ∈ scope.names, y.2 ≠ .cell) (hkind : scope.kind = .function) (hx : scope.names.lookup x = some .local) (hst : St 0 s₂.heap) (hI : I < s₂.heap.objs.size)
    (hJ0 : ∀ C D s', s₂.heap.get? C = none → s₂.heap.get? D = none → Up s₂.heap s'.heap → s'.gens = s₂.gens → s'.os = s₂.os → J C D 0 [] s')
    (hJm : ∀ C D i ys a b, s₂.heap.get? C = none → s₂.heap.get? D = none → J C D i ys a → UpX [I, C, D] a.heap b.heap → b.gens = a.gens → b.os = a.os → J C D i ys b)
    (helt : ∀ C D i v s₃ m ys (E' : Value → Shared → Prop), s₂.heap.get? C = none → s₂.heap.get? D = none → i < n → P i v → s₃.heap.Ns C m → m x = some v → J C D i ys s₃ → (∀ z ∈ [I, C, D], ∃ o, s₃.heap.get? z = some o) →
      wpAny (model prog w) A (eval elt (compEnvC scope cl C env)) (fun y s₄ => J C D (i + 1) (ys ++ [y]) s₄ ∧ Up s₃.heap s₄.heap) E' s₃)
    (hQ : ∀ C D s' ys, s₂.heap.get? D = none → J C D n ys s' → s'.heap.PlainList D ys.toArray → Q (.ref D) s') :
    wpAny (model prog w) A (newList []) (fun acc s₃ => wpAny (model prog w) A (newFunctionEnv scope env.globals cl [] env.qual none .none (some env)) (fun cenv s₄ =>
      codeAny (model prog w) A (.compStart (.ListComp elt [⟨.Name x px, iter, [], 0⟩] scope pos) 0 (.ref I) acc { cenv with scope := relabel scope env }) (compPost (model prog w) A E none Q acc cenv.locals) s₄) E s₃) E s₂ := by
  refine wpAny_newObj_type (wpAny_newFunctionEnv hcell (by intro y hy; simp at hy) (fun h₁ hns₁ hsb₁ => ?_) hkind)
  dsimp only at hns₁ hsb₁ ⊢
  generalize hH2 : s₂.heap.push { cls := .type "list", dict := none, data := .seq ([] : List Value).toArray } = H2 at hns₁ hsb₁ ⊢
  have hC : H2.objs.size = s₂.heap.objs.size + 1 := by rw [← hH2, Heap.size_push]
  have hDC : s₂.heap.objs.size ≠ H2.objs.size := by rw [hC]; exact Nat.ne_of_lt (Nat.lt_succ_self _)
  have below : ∀ b, b < s₂.heap.objs.size → b ≠ H2.objs.size ∧ b ≠ s₂.heap.objs.size := fun b hb => ⟨by rw [hC]; exact Nat.ne_of_lt (Nat.lt_succ_of_lt hb), Nat.ne_of_lt hb⟩
  have old : Up s₂.heap h₁ := fun b o e => hsb₁.extBut b o (below b (Heap.lt_size e)).1 (Heap.get?_push_of_some _ (hH2 ▸ Heap.get?_push_of_some _ e))
  have hacc : h₁.PlainList s₂.heap.objs.size #[] := ⟨_, hsb₁.extBut _ _ hDC (Heap.get?_push_of_some _ (hH2 ▸ Heap.get?_push_size _ rfl))⟩
  have hst₁ : St 0 h₁ := W.frame _ _ _ hst fun b _ o e => old b o e
  have hfD : s₂.heap.get? s₂.heap.objs.size = none := fresh_none' (Nat.le_refl _)
  have hfC : s₂.heap.get? H2.objs.size = none := fresh_none' (by rw [hC]; exact Nat.le_succ _)
  have hDI : s₂.heap.objs.size ≠ I := Nat.ne_of_gt hI
  have hCI : H2.objs.size ≠ I := (below I hI).1.symm
  have hDf : s₂.heap.objs.size ∉ fp := fun q => Nat.lt_irrefl _ (hfp _ q)
  have hCf : H2.objs.size ∉ fp := fun q => (below _ (hfp _ q)).1 rfl
  generalize s₂.heap.objs.size = D at *
  generalize H2.objs.size = C at *
  have hxr : (compEnvC scope cl C env).kindOf x = some .local := lookup_relabel_local hx
  have loop : ∀ s₃ : Shared, s₃.heap = h₁ → s₃.gens = s₂.gens → s₃.os = s₂.os →
      codeAny (model prog w) A (.compLoop (.ListComp elt [⟨.Name x px, iter, [], 0⟩] scope pos) 0 (.ref I) (.ref D) (compEnvC scope cl C env))
        (compPost (model prog w) A E none Q (.ref D) C) s₃ := by
    intro s₃ e1 e2 e3
    refine codeAny_compLoop_tests (fun k s' => ∃ i ys m, i ≤ n ∧ k = n + 1 - i ∧ St i s'.heap ∧ s'.heap.PlainList D ys.toArray ∧ s'.heap.Ns C m ∧ J C D i ys s' ∧ ys.length = i) ?_ (n + 1)
      ⟨0, [], _, Nat.zero_le _, rfl, by rw [e1]; exact hst₁, by rw [e1]; exact hacc, by rw [e1]; exact hns₁, hJ0 C D s₃ hfC hfD (by rw [e1]; exact old) e2 e3, rfl⟩
    rintro k s' ⟨i, ys, m', hi, rfl, hst', hacc', hn', hJ', hyl⟩
    by_cases hlt : i < n
    · refine W.item i _ _ _ hlt hst' fun v h₁' tk₁ hPv hst₁' hk₁ => ?_
      refine wpAny_assign_Name (wpAny_storeName_local hxr (hn'.at' fun o e => hk₁ _ o (by simpa using hCI) e) (fun h₂ hn₂ hs₂ => ?_) (by simp [compEnvC, relabel, hkind]))
      have k₂ : UpX [I, C] s'.heap h₂ := fun b o hb e => by
        simp only [List.mem_cons, List.not_mem_nil, or_false, not_or] at hb
        exact (hs₂.2 b hb.2).trans (hk₁ b o (by simpa using hb.1) e)
      have hJ₂ : J C D i ys { s' with heap := h₂, toks := tk₁ + 1 } := hJm C D i ys s' _ hfC hfD hJ' (k₂.mono (by simp)) rfl rfl
      have hst₂ : St (i + 1) h₂ := W.frame _ _ _ hst₁' fun b hb o e => (hs₂.2 b (fun q => hCf (by have q' : b = C := q; rw [← q']; exact hb))).trans e
      refine wpAny_tests_nil ?_
      rw [if_pos rfl]
      have hlive : ∀ z ∈ [I, C, D], ∃ o, h₂.get? z = some o := by
        intro z hz
        simp only [List.mem_cons, List.not_mem_nil, or_false] at hz
        rcases hz with rfl | rfl | rfl
        · exact hIlive _ _ hst₂
        · obtain ⟨o, _, _, e, _⟩ := hn₂; exact ⟨o, e⟩
        · obtain ⟨_, e⟩ := hacc'; exact ⟨_, k₂ _ _ (by simp only [List.mem_cons, List.not_mem_nil, or_false, not_or]; exact ⟨hDI, hDC⟩) e⟩
      refine wpAny_mono (helt C D i v _ _ ys _ hfC hfD hlt hPv hn₂ (if_pos rfl) hJ₂ hlive) (fun y s₄ h₄ => ?_) fun _ _ e => e
      obtain ⟨hJ₄, hk₄⟩ := h₄
      have hacc₄ : s₄.heap.PlainList D ys.toArray := hacc'.at fun o e => hk₄ _ o (k₂ _ o (by simp only [List.mem_cons, List.not_mem_nil, or_false, not_or]; exact ⟨hDI, hDC⟩) e)
      refine wpAny_list_append_plain (hsz := by simp only [List.size_toArray]; omega) hacc₄ fun h₅ hl₅ hs₅ => ?_
      refine ⟨n + 1 - (i + 1), by omega, i + 1, ys ++ [y], _, hlt, rfl, ?_, by simpa using hl₅, (hn₂.at' fun o e => hk₄ _ o e).sameBut hs₅ (Ne.symm hDC), ?_, by simp [hyl]⟩
      · refine W.frame _ _ _ hst₂ fun b hb o e => ?_
        exact (hs₅.2 b (fun q => hDf (q ▸ hb))).trans (hk₄ _ o e)
      · exact hJm _ _ _ _ s₄ _ hfC hfD hJ₄ ((UpX.same hs₅).mono (by simp)) rfl rfl
    · have hin : i = n := by omega
      subst hin
      refine W.done _ _ _ hst' fun h₁' tk₁ hk₁ => ?_
      refine ⟨m', hn'.at' fun o e => hk₁ _ o (by simpa using hCI) e, fun h' hs' => hQ C D _ ys hfD (hJm _ _ _ _ s' _ hfC hfD hJ' (fun b o hb e => ?_) rfl rfl) (hacc'.at fun o e => (hs'.2 D hDC).trans (hk₁ _ o (by simpa using hDI) e))⟩
      simp only [List.mem_cons, List.not_mem_nil, or_false, not_or] at hb
      exact (hs'.2 b hb.2.1).trans (hk₁ b o (by simpa using hb.1) e)
  exact codeAny_compStart_list (loop _ rfl rfl rfl) (W.self 0 _ _ _ hst₁ (loop _ rfl rfl rfl))

end
end Mine

/-! MLawF -/
namespace Mine
inductive KeyTupsX (X : List Addr) (h : Heap) : List Value → List Int → Prop
  | nil : KeyTupsX X h [] []
  | snoc {t : Addr} {n : Int} {u : Tok} {x : Value} {vs : List Value} {ns : List Int} : KeyTupsX X h vs ns → h.IsTuple t #[.int n u, x] → t ∉ X → KeyTupsX X h (vs ++ [.ref t]) (ns ++ [n])
theorem KeyTupsX.upX {X Y : List Addr} {h h' : Heap} {vs : List Value} {ns : List Int} (K : KeyTupsX X h vs ns) (k : UpX Y h h') (s : ∀ b ∈ Y, b ∈ X) : KeyTupsX X h' vs ns := by
  induction K with
  | nil => exact .nil
  | snoc _ ht hX ih => exact .snoc ih (IsTup.up' ht fun o e => k _ o (fun q => hX (s _ q)) e) hX
theorem KeyTups.append {h : Heap} {vs ws : List Value} {ns ms : List Int} (a : KeyTups h vs ns) (b : KeyTups h ws ms) : KeyTups h (vs ++ ws) (ns ++ ms) := by
  induction a with
  | nil => exact b
  | cons ht _ ih => exact .cons ht ih
theorem KeyTupsX.plain {X : List Addr} {h : Heap} {vs : List Value} {ns : List Int} (K : KeyTupsX X h vs ns) : KeyTups h vs ns := by
  induction K with
  | nil => exact .nil
  | snoc _ ht _ ih => exact ih.append (.cons ht .nil)
theorem sysm_lt {mg mb : Str → Option Value} {h : Heap} (T : MyTop mg mb h) {a : Addr} (ha : h.objs.size ≤ a) : (a == sysModules) = false := by
  have hlt : mainGlobals < h.objs.size := by obtain ⟨_, _, _, e, _⟩ := T.g; exact Heap.lt_size e
  have h3 : (3 : Nat) < h.objs.size := hlt
  have : (3 : Nat) < a := Nat.lt_of_lt_of_le h3 ha
  have h1 : a ≠ (1 : Nat) := fun q => by rw [q] at this; exact absurd this (by decide)
  simpa [sysModules] using h1
theorem two_reads {h : Heap} {K b1 b2 : Addr} {n1 n2 : List Int} (hT : IsTup h K #[.ref b1, .ref b2]) (l1 : IntList h b1 n1) (l2 : IntList h b2 n2) : ∃ as, Reads h (.ref K) (.tuple [.list (n1.map PyData.int), .list (n2.map PyData.int)]) as := by
  obtain ⟨o, ho, hc, n, hd⟩ := hT
  obtain ⟨v1, h1, i1⟩ := l1
  obtain ⟨v2, h2, i2⟩ := l2
  exact ⟨_, .tuple ho hc hd (.cons (list_reads h1.isList (ints_reads i1)) (.cons (list_reads h2.isList (ints_reads i2)) .nil))⟩
section
variable {prog : Program} {w : World} {A : Around} {E : Value → Shared → Prop} {s : Shared} {mg mb : Str → Option Value} {L f a1 a2 K : Addr} {cd : Value} {hb : Heap} {n1 n2 : List Int} {m : Str → Option Value}
theorem law_ret (T : MyTop mg mb hb) (S : Post hb L m a1 a2 K n1 n2 s.heap) (hh : A.handled = none) (hd : A.depth < recursionLimit) (hu : A.units + 200 < cLine) :
    wpAny (model prog w) A (exec lawRet (eLaw L f cd)) (fun fl s' => fl = .ret (.bool true) ∧ Grew s s') E s := by
  obtain ⟨fr, or, _, _, _, hfr, hor, hdr, _⟩ := T.fn rRuns (recAt_mem 0 (by decide))
  have L1 := S.len1
  have L2 := S.len2
  refine wpAny_Return_some ?_
  refine BoolOp_and ?_
  refine wpAny_Compare1 ?_
  refine Call_ ?_
  refine ev_global (T.keeps S.up) rfl rfl rfl hfr ?_
  refine callWith_def hdr (args_cons (Call_ ?_))
  refine ev_builtin (T.keeps S.up) rfl rfl rfl rfl (by decide) PyProof.Rows.boot_dict ?_
  refine callWith_type1 (args_cons ?_)
  rw [eval_ListComp]
  refine wpAny_comprehension_free (use := none) (cl := []) rfl (by intro _; rfl) rfl rfl (by decide +kernel) ?_
  refine ev_local rfl rfl S.ns S.m1 ?_
  obtain ⟨vs, hl, hI⟩ := S.l1
  have hvl : vs.length = n1.length := hI.length
  refine wpAny_pyIter_list hl.isList ?_
  have hIf : s.heap.get? s.heap.objs.size = none := fresh_none (Nat.le_refl _)
  have u₂ : Up s.heap (s.heap.push { cls := .type "list_iterator", data := .fields #[.ref a1, .int 0 0] }) := Up.push _
  have hal : a1 < s.heap.objs.size := by obtain ⟨_, e⟩ := hl; exact Heap.lt_size e
  have back : ∀ {z : Addr} {o : Obj}, s.heap.get? z = some o → (s.heap.push { cls := .type "list_iterator", data := .fields #[.ref a1, .int 0 0] }).get? z = some o := fun e => u₂ _ _ e
  refine comp_tup (I := s.heap.objs.size) (Walks.list hh s.heap.objs.size a1 (Nat.ne_of_lt hal) vs.toArray) ?_ (by rw [sizeLine_eq]; simp only [List.size_toArray]; omega)
    (fun C D i ys s' => UpX [s.heap.objs.size] (s.heap.push { cls := .type "list_iterator", data := .fields #[.ref a1, .int 0 0] }) s'.heap ∧ s'.gens = s.gens ∧ s'.os = s.os ∧ KeyTupsX [s.heap.objs.size, C, D] s'.heap ys (n1.take i))
    (fun i h st => by obtain ⟨⟨o, e, _⟩, _⟩ := st; exact ⟨o, e⟩) (by decide +kernel) rfl rfl ⟨⟨_, Heap.get?_push_size _ rfl, rfl, rfl⟩, hl.isList.push _⟩ ?_ ?_ ?_ ?_ ?_
  · intro b hb'
    show b < (s.heap.push _).objs.size
    rw [size_push']
    rcases List.mem_cons.mp hb' with rfl | hb'
    · exact Nat.lt_succ_self _
    · rw [List.mem_singleton.mp hb']; exact Nat.lt_succ_of_lt hal
  · show s.heap.objs.size < (s.heap.push _).objs.size
    rw [size_push']; exact Nat.lt_succ_self _
  · intro C D s' hC hD hu e1 e2
    exact ⟨hu.toX _, e1, e2, .nil⟩
  · rintro C D i ys a b hC hD ⟨b1, b2, b3, b4⟩ k e1 e2
    refine ⟨fun z o hz e => k z o (fun q => ?_) (b1 z o hz e), e1.trans b2, e2.trans b3, b4.upX k (by simp)⟩
    simp only [List.mem_cons, List.not_mem_nil, or_false] at q hz
    rcases q with q | q | q
    · exact hz q
    · subst q; rw [hC] at e; cases e
    · subst q; rw [hD] at e; cases e
  · rintro C D i v s₃ m₃ ys E' hC hD hi hv hn hm ⟨b1, b2, b3, b4⟩ hlive
    obtain ⟨t, hx⟩ := hI.get i (n1[i]'(by simpa [hvl] using hi)) (by simp)
    have hv' : v = .int (n1[i]'(by simpa [hvl] using hi)) t := by
      have q : vs[i]? = some v := by simpa using hv
      rw [hx] at q; exact (Option.some.inj q).symm
    subst hv'
    refine Tuple_ (args_cons (ev_local rfl rfl hn hm ?_))
    refine args_cons (Constant_bool (args_nil (wpAny_newTuple ?_)))
    have hTf : s₃.heap.get? s₃.heap.objs.size = none := fresh_none (Nat.le_refl _)
    have hTX : s₃.heap.objs.size ∉ [s.heap.objs.size, C, D] := fun q => by obtain ⟨o, e⟩ := hlive _ q; rw [hTf] at e; cases e
    refine ⟨⟨fun z o hz e => Heap.get?_push_of_some _ (b1 z o hz e), b2, b3, ?_⟩, Up.push _⟩
    have e : n1.take (i + 1) = n1.take i ++ [n1[i]'(by simpa [hvl] using hi)] := by
      rw [List.take_add_one, List.getElem?_eq_getElem (by simpa [hvl] using hi)]; rfl
    rw [e]
    exact .snoc (b4.upX ((Up.push _).toX []) (by simp)) ⟨_, Heap.get?_push_size _ rfl, rfl, _, rfl⟩ hTX
  · rintro C D s' ys hD ⟨b1, b2, b3, b4⟩ hpl
    have hfull : n1.take vs.toArray.size = n1 := by simp [hvl]
    rw [hfull] at b4
    have g₁ : Grew s s' := ⟨fun z o e => b1 z o (fun q => by rw [List.mem_singleton.mp q, hIf] at e; cases e) (u₂ _ _ e), b2, b3⟩
    have S₁ := S.grow g₁.up
    refine args_nil (call_dict hh hpl b4.plain (by omega) fun s₂ Dd g₂ hsz hDd hdict => ?_)
    have S₂ := S₁.grow g₂.up
    refine args_nil ⟨S₂.up _ _ hor, ?_⟩
    have hk1 := keysL_len n1
    refine call_runs (T.keeps S₂.up) hfr hh hd (by omega) (hdict.sorts (sysm_lt (T.keeps S₁.up) hsz) (by omega)) (by omega) fun s₃ r₃ w₃ k₃ g₃ _ hr₃ hp₃ hperm₃ hs₃ => ?_
    have S₃ := S₂.grow g₃.up
    refine Call_ ?_
    refine ev_global (T.keeps S₃.up) rfl rfl rfl hfr ?_
    refine callWith_def hdr (args_cons ?_)
    refine Subscript_ ?_
    refine ev_local rfl rfl S₃.ns S₃.m1 ?_
    refine wpAny_Slice (wpAny_pure (wpAny_pure ?_))
    rw [evalPart_some]
    refine wpAny_UnaryOp (wpAny_Constant_int (PyProof.Rows.neg_int ?_))
    obtain ⟨v3, hl3, hI3⟩ := S₃.l1
    have hv3 : v3.length = n1.length := hI3.length
    refine slice_tail (s := { s₃ with toks := _ }) (ops := [.ref a1, .ref s₃.heap.objs.size]) hl3.isList .none .none (.int (-1) _) (by decide) (fun s₄ D₄ g₄ hD₄ hl₄ => ?_) (by with_unfolding_all rfl) (by intro _; with_unfolding_all rfl) (by rw [sizeLine_eq]; simp only [List.size_toArray]; omega)
    have g₄' : Grew s₃ s₄ := ⟨g₄.up, g₄.gens, g₄.os⟩
    have S₄ := S₃.grow g₄'.up
    have I₄ : IntList s₄.heap D₄ n1.reverse := ⟨v3.reverse, by rw [krv_pick] at hl₄; simpa using hl₄, hI3.reverse⟩
    refine args_nil ⟨S₄.up _ _ hor, ?_⟩
    refine runs_of_ints T S₄.up hfr hh hd (by omega) I₄ (by rw [List.length_reverse]; omega) fun s₅ r₅ w₅ k₅ g₅ _ hr₅ hp₅ hperm₅ hs₅ => ?_
    have S₅ := S₄.grow g₅.up
    have hr₃' : s₅.heap.PlainList r₃ w₃.toArray := hr₃.at fun o e => g₅.up _ _ (g₄'.up _ _ e)
    have hp₃' : Pairs [] s₅.heap w₃ (runsL k₃) := (hp₃.up g₄'.up).up g₅.up
    refine eq_lists (list_reads hr₃'.isList hp₃'.reads) (list_reads hr₅.isList hp₅.reads) (canLay_pairs _) (canLay_pairs _) (by omega) (by have := depth_pairs (runsL k₃); omega) ?_
    refine wpAny_truthy_bool ?_
    have same : runsL k₃ = runsL k₅ := runs_same hs₃ hs₅ fun x => by
      rw [hperm₃.mem_iff, hperm₅.mem_iff, keysL_mem, List.mem_reverse]
    rw [eqv_pairs, same]
    simp only [decide_true, if_true]
    -- runs_of([]) == []
    refine BoolOp_and ?_
    refine wpAny_Compare1 ?_
    refine Call_ ?_
    refine ev_global (T.keeps S₅.up) rfl rfl rfl hfr ?_
    refine callWith_def hdr (args_cons (List_ (args_nil (wpAny_newList ?_))))
    have u6 : Up s₅.heap (s₅.heap.push { cls := .type "list", data := .seq ([] : List Value).toArray }) := Up.push _
    have I₆ : IntList (s₅.heap.push { cls := .type "list", data := .seq ([] : List Value).toArray }) s₅.heap.objs.size [] := ⟨[], ⟨0, Heap.get?_push_size _ rfl⟩, .nil⟩
    have S₆ := S₅.grow u6
    refine args_nil ⟨S₆.up _ _ hor, ?_⟩
    refine runs_of_ints (s := { s₅ with heap := s₅.heap.push _ }) T S₆.up hfr hh hd (by omega) I₆ (by decide) fun s₇ r₇ w₇ k₇ g₇ _ hr₇ hp₇ hperm₇ hs₇ => ?_
    have S₇ := S₆.grow g₇.up
    have hk₇ : k₇ = [] := List.length_eq_zero_iff.mp (by rw [hperm₇.length_eq]; rfl)
    subst hk₇
    refine List_ (args_nil (wpAny_newList ?_))
    have u8 : Up s₇.heap (s₇.heap.push { cls := .type "list", data := .seq ([] : List Value).toArray }) := Up.push _
    have S₈ := S₇.grow u8
    have hr₈ : (s₇.heap.push { cls := .type "list", data := .seq ([] : List Value).toArray }).PlainList r₇ w₇.toArray := hr₇.at fun o e => u8 _ _ e
    refine eq_lists (s := { s₇ with heap := s₇.heap.push _ }) (list_reads hr₈.isList (hp₇.up u8).reads) (list_reads (vs := []) ⟨_, Heap.get?_push_size _ rfl, rfl, _, rfl⟩ .nil) (canLay_pairs _) rfl (by omega) (by have := depth_pairs (runsL []); omega) ?_
    refine wpAny_truthy_bool ?_
    have e8 : PyData.eqvAll ((runsL []).map pairD) [] = true := rfl
    rw [e8]
    simp only [if_true]
    -- (one, other) == kept
    refine BoolOp_one ?_
    refine wpAny_Compare1 ?_
    refine Tuple_ (args_cons ?_)
    refine ev_local (s := { s₇ with heap := s₇.heap.push _ }) rfl rfl S₈.ns S₈.m1 ?_
    refine args_cons ?_
    refine ev_local (s := { s₇ with heap := s₇.heap.push _ }) rfl rfl S₈.ns S₈.m2 (args_nil (wpAny_newTuple ?_))
    have u9 : Up (s₇.heap.push { cls := .type "list", data := .seq ([] : List Value).toArray }) ((s₇.heap.push { cls := .type "list", data := .seq ([] : List Value).toArray }).push { cls := .type "tuple", data := .seq [Value.ref a1, Value.ref a2].toArray }) := Up.push _
    have S₉ := S₈.grow u9
    have hT9 : ((s₇.heap.push { cls := .type "list", data := .seq ([] : List Value).toArray }).push { cls := .type "tuple", data := .seq [Value.ref a1, Value.ref a2].toArray }).get? (s₇.heap.push { cls := .type "list", data := .seq ([] : List Value).toArray }).objs.size = some { cls := .type "tuple", data := .seq [Value.ref a1, Value.ref a2].toArray } := Heap.get?_push_size _ rfl
    refine ev_local (s := { s₇ with heap := (s₇.heap.push _).push _ }) rfl rfl S₉.ns S₉.m3 ?_
    obtain ⟨b1, b2, hK, i1, i2⟩ := S₉.kept
    obtain ⟨as1, ra⟩ := two_reads ⟨_, hT9, rfl, _, rfl⟩ S₉.l1 S₉.l2
    obtain ⟨as2, rb⟩ := two_reads hK i1 i2
    have hlay : PyData.canLay0 (.tuple [.list (n1.map PyData.int), .list (n2.map PyData.int)]) = true := by simp [PyData.canLay0, PyData.canLayAll0, canLay_ints]
    have hdep : PyData.depth (.tuple [.list (n1.map PyData.int), .list (n2.map PyData.int)]) ≤ 5 := by simp [PyData.depth, PyData.depthAll, depth_ints]
    refine SeqAt.compareEq_reads ra rb hlay hlay (by omega) ?_
    have e9 : PyData.eqv (.tuple [.list (n1.map PyData.int), .list (n2.map PyData.int)]) (.tuple [.list (n1.map PyData.int), .list (n2.map PyData.int)]) = true := by simp [PyData.eqv, PyData.eqvAll, eqv_ints]
    rw [e9]
    exact ⟨rfl, ⟨g₁.up.trans (g₂.up.trans (g₃.up.trans (g₄'.up.trans (g₅.up.trans (u6.trans (g₇.up.trans (u8.trans u9))))))), (g₇.gens.trans g₅.gens).trans (g₄'.gens.trans (g₃.gens.trans (g₂.gens.trans g₁.gens))), (g₇.os.trans g₅.os).trans (g₄'.os.trans (g₃.os.trans (g₂.os.trans g₁.os)))⟩⟩
end
end Mine

/-! MLawG -/
namespace Mine
def lawFor : Stmt := match rLaw.body with | [_, _, _, s, _, _] => s | _ => .Pass ⟨0, 0, 0, 0⟩
theorem tuple_ne_cell {h : Heap} {c r : Addr} {v : Option Value} {its : Array Value} (hl : IsTup h r its) (hc : h.IsCell c v) : r ≠ c := by
  intro q
  obtain ⟨o1, e1, _, n, d1⟩ := hl
  obtain ⟨o2, e2, d2⟩ := hc
  rw [q, e2] at e1
  cases e1
  rw [d2] at d1
  cases d1
theorem IntList.ne_cell {h : Heap} {c r : Addr} {v : Option Value} {ns : List Int} (hl : IntList h r ns) (hc : h.IsCell c v) : r ≠ c := by
  obtain ⟨_, h1, _⟩ := hl
  exact list_ne_cell h1.isList hc
theorem Post.cells {hb : Heap} {L : Addr} {m : Str → Option Value} {a1 a2 K : Addr} {n1 n2 : List Int} {h h' : Heap} {v1 v2 : Option Value} (S : Post hb L m a1 a2 K n1 n2 h) (c1 : h.IsCell (L + 1) v1) (c2 : h.IsCell (L + 1 + 1) v2)
    (f1 : hb.get? (L + 1) = none) (f2 : hb.get? (L + 1 + 1) = none) (k : UpX [L + 1, L + 1 + 1] h h') : Post hb L m a1 a2 K n1 n2 h' := by
  obtain ⟨b1, b2, x, y, z⟩ := S.kept
  have li : ∀ {a : Addr} {ns : List Int}, IntList h a ns → IntList h' a ns := fun l => l.up fun o e => k _ o (by
    simp only [List.mem_cons, List.not_mem_nil, or_false, not_or]; exact ⟨l.ne_cell c1, l.ne_cell c2⟩) e
  refine ⟨S.up.except (fun b hb' => ?_) k, S.ns.at' fun o e => k _ o ?_ e, S.m1, S.m2, S.m3, li S.l1, li S.l2, ⟨b1, b2, IsTup.up' x fun o e => k _ o ?_ e, li y, li z⟩, S.len1, S.len2, S.bd1, S.bd2⟩
  · simp only [List.mem_cons, List.not_mem_nil, or_false] at hb'
    rcases hb' with rfl | rfl
    · exact f1
    · exact f2
  · simp only [List.mem_cons, List.not_mem_nil, or_false, not_or]
    exact ⟨Nat.ne_of_lt (Nat.lt_succ_self _), Nat.ne_of_lt (Nat.lt_succ_of_lt (Nat.lt_succ_self _))⟩
  · simp only [List.mem_cons, List.not_mem_nil, or_false, not_or]
    exact ⟨tuple_ne_cell x c1, tuple_ne_cell x c2⟩
section
variable {prog : Program} {w : World} {A : Around} {E : Value → Shared → Prop} {s : Shared} {mg mb : Str → Option Value} {L f a1 a2 K : Addr} {cd : Value} {hb : Heap} {n1 n2 : List Int} {m : Str → Option Value}
theorem law_for (T : MyTop mg mb hb) (S : Post hb L m a1 a2 K n1 n2 s.heap) (c1 : ∃ v, s.heap.IsCell (L + 1) v) (c2 : ∃ v, s.heap.IsCell (L + 1 + 1) v) (f1 : hb.get? (L + 1) = none) (f2 : hb.get? (L + 1 + 1) = none)
    (hh : A.handled = none) (hd : A.depth < recursionLimit) (hu : A.units + 300 < cLine) :
    wpAny (model prog w) A (exec lawFor (eLaw L f cd)) (fun fl s' => fl = .next ∧ UpX [L + 1, L + 1 + 1] s.heap s'.heap ∧ s'.gens = s.gens ∧ s'.os = s.os ∧ (∃ v, s'.heap.IsCell (L + 1) v) ∧ ∃ v, s'.heap.IsCell (L + 1 + 1) v) E s := by
  have L1 := S.len1
  have L2 := S.len2
  refine wpAny_For ?_
  refine Tuple_ (args_cons ?_)
  refine ev_local rfl rfl S.ns S.m1 ?_
  refine args_cons ?_
  refine ev_local rfl rfl S.ns S.m2 ?_
  refine args_cons (wpAny_BinOp ?_)
  refine ev_local rfl rfl S.ns S.m1 ?_
  refine ev_local rfl rfl S.ns S.m2 ?_
  refine add_ints S.l1 S.l2 (by omega) fun s₁ D3 g₁ hD3 I3 => ?_
  have S₁ := S.grow g₁.up
  refine args_cons (wpAny_BinOp ?_)
  refine ev_local rfl rfl S₁.ns S₁.m1 ?_
  refine ev_local rfl rfl S₁.ns S₁.m1 ?_
  refine add_ints S₁.l1 S₁.l1 (by omega) fun s₂ D4 g₂ hD4 I4 => ?_
  have S₂ := S₁.grow g₂.up
  refine args_nil (wpAny_newTuple ?_)
  have uT : Up s₂.heap (s₂.heap.push { cls := .type "tuple", data := .seq [Value.ref a1, Value.ref a2, Value.ref D3, Value.ref D4].toArray }) := Up.push _
  have hT : (s₂.heap.push { cls := .type "tuple", data := .seq [Value.ref a1, Value.ref a2, Value.ref D3, Value.ref D4].toArray }).IsTuple s₂.heap.objs.size [Value.ref a1, Value.ref a2, Value.ref D3, Value.ref D4].toArray := ⟨_, Heap.get?_push_size _ rfl, rfl, _, rfl⟩
  have gT : Grew s { s₂ with heap := s₂.heap.push { cls := .type "tuple", data := .seq [Value.ref a1, Value.ref a2, Value.ref D3, Value.ref D4].toArray } } := (g₁.trans g₂).trans ⟨uT, rfl, rfl⟩
  have S₃ := S₂.grow uT
  have I3' := (I3.up fun o e => g₂.up _ _ e).up fun o e => uT _ _ e
  have I4' := I4.up fun o e => uT _ _ e
  generalize s₂.heap.objs.size = K4 at hT ⊢
  generalize hH : s₂.heap.push { cls := .type "tuple", data := .seq [Value.ref a1, Value.ref a2, Value.ref D3, Value.ref D4].toArray } = H at hT gT S₃ I3' I4' ⊢
  have hitems : ∀ (i : Nat) (v : Value), [Value.ref a1, Value.ref a2, Value.ref D3, Value.ref D4].toArray[i]? = some v → ∃ (a : Addr) (ns : List Int), v = Value.ref a ∧ IntList H a ns ∧ ns.length < 30 ∧ ∀ n ∈ ns, 0 ≤ n ∧ n < 30 := by
    intro i v e
    have app : ∀ {xs ys : List Int}, (∀ n ∈ xs, 0 ≤ n ∧ n < 30) → (∀ n ∈ ys, 0 ≤ n ∧ n < 30) → ∀ n ∈ xs ++ ys, 0 ≤ n ∧ n < 30 := fun h1 h2 n hn => (List.mem_append.mp hn).elim (h1 n) (h2 n)
    match i, e with
    | 0, e => simp at e; exact ⟨a1, n1, e.symm, S₃.l1, by omega, S.bd1⟩
    | 1, e => simp at e; exact ⟨a2, n2, e.symm, S₃.l2, by omega, S.bd2⟩
    | 2, e => simp at e; exact ⟨D3, n1 ++ n2, e.symm, I3', by rw [List.length_append]; omega, app S.bd1 S.bd2⟩
    | 3, e => simp at e; exact ⟨D4, n1 ++ n1, e.symm, I4', by rw [List.length_append]; omega, app S.bd1 S.bd1⟩
    | n + 4, e => simp at e
  refine wpAny_pyIter_tuple (s := { s₂ with heap := H }) hT ?_
  obtain ⟨v1, c1⟩ := c1
  obtain ⟨v2, c2⟩ := c2
  have c1' : H.IsCell (L + 1) v1 := c1.keeps gT.up
  have c2' : H.IsCell (L + 1 + 1) v2 := c2.keeps gT.up
  have hKI : K4 ≠ H.objs.size := by obtain ⟨_, e, _⟩ := hT; exact Nat.ne_of_lt (Heap.lt_size e)
  have hK1 : K4 ≠ L + 1 := tuple_ne_cell hT c1'
  have hK2 : K4 ≠ L + 1 + 1 := tuple_ne_cell hT c2'
  have h1I : L + 1 ≠ H.objs.size := Nat.ne_of_lt c1'.lt
  have h2I : L + 1 + 1 ≠ H.objs.size := Nat.ne_of_lt c2'.lt
  have hIf : H.get? H.objs.size = none := fresh_none (Nat.le_refl _)
  have h12 : L + 1 ≠ L + 1 + 1 := Nat.ne_of_lt (Nat.lt_succ_self _)
  have uI : Up H (H.push { cls := .type "tuple_iterator", data := .fields #[.ref K4, .int 0 0] }) := Up.push _
  have hst0 : (H.push { cls := .type "tuple_iterator", data := .fields #[.ref K4, .int 0 0] }).IsTupleIter H.objs.size K4 0 ∧ (H.push { cls := .type "tuple_iterator", data := .fields #[.ref K4, .int 0 0] }).IsTuple K4 [Value.ref a1, Value.ref a2, Value.ref D3, Value.ref D4].toArray :=
    ⟨⟨_, Heap.get?_push_size _ rfl, rfl, rfl⟩, hT.push _⟩
  show codeAny _ _ _ _ { s₂ with heap := H.push _ }
  generalize H.objs.size = I at hKI h1I h2I hIf hst0 ⊢
  refine forLoop_gen (Walks.tuple hh I K4 hKI _)
    (fun i s' => s'.gens = s.gens ∧ s'.os = s.os ∧ UpX [L + 1, L + 1 + 1, I] H s'.heap ∧ (∃ v, s'.heap.IsCell (L + 1) v) ∧ ∃ v, s'.heap.IsCell (L + 1 + 1) v) hst0
    ⟨gT.gens, gT.os, uI.toX _, ⟨_, c1'.keeps uI⟩, ⟨_, c2'.keeps uI⟩⟩ ?_ ?_ ?_
  · rintro i x y ⟨b1, b2, b3, ⟨x1, b4⟩, ⟨x2, b5⟩⟩ k e1 e2
    refine ⟨e1.trans b1, e2.trans b2, b3.trans (k.mono (by simp)), ⟨x1, ?_⟩, ⟨x2, ?_⟩⟩
    · obtain ⟨o, e, d⟩ := b4; exact ⟨o, k _ _ (by simpa using h1I) e, d⟩
    · obtain ⟨o, e, d⟩ := b5; exact ⟨o, k _ _ (by simpa using h2I) e, d⟩
  · rintro i v s₄ E' hi hP hst ⟨b1, b2, b3, ⟨x1, b4⟩, ⟨x2, b5⟩⟩
    obtain ⟨a, ns, rfl, hIa, hlen, hbd⟩ := hitems i v hP
    have hIa4 : IntList s₄.heap a ns := hIa.up fun o e => b3 _ o (by
      simp only [List.mem_cons, List.not_mem_nil, or_false, not_or]
      refine ⟨hIa.ne_cell c1', hIa.ne_cell c2', ?_⟩
      exact ne_fresh hIf e) e
    refine wpAny_of_eq (a := ()) rfl ?_
    refine wpAny_assign_Name (wpAny_storeName_cell rfl rfl rfl b4 fun h₅ hv₅ hs₅ => ?_)
    have hIa5 : IntList h₅ a ns := hIa4.up fun o e => (hs₅.2 _ (hIa4.ne_cell b4)).trans e
    obtain ⟨vs, hl5, hi5⟩ := hIa5
    have k5 : UpX [L + 1, L + 1 + 1, I] H h₅ := b3.trans ((UpX.same hs₅).mono (by simp))
    have fI : hb.get? I = none := by
      cases q : hb.get? I with
      | none => rfl
      | some o => rw [S₃.up _ _ q] at hIf; cases hIf
    have U5 : Up hb h₅ := S₃.up.except (by
      intro b hb'
      simp only [List.mem_cons, List.not_mem_nil, or_false] at hb'
      rcases hb' with rfl | rfl | rfl
      · exact f1
      · exact f2
      · exact fI) k5
    have c5 : h₅.IsCell (L + 1 + 1) x2 := b5.sameBut hs₅ h12.symm
    refine wpAny_mono (turn (s := { s₄ with heap := h₅ }) T U5 f2 hh hd (by omega) hv₅ ⟨_, c5⟩ hl5.isList hi5 hlen hbd) (fun fl s₆ h₆ => ?_) fun _ _ e => e
    obtain ⟨rfl, k6, e1, e2, x3, c6⟩ := h₆
    refine ⟨rfl, ⟨?_, ?_⟩, e1.trans b1, e2.trans b2, k5.trans (k6.mono (by simp)), ⟨some (.ref a), ?_⟩, ⟨x3, c6⟩⟩
    · obtain ⟨o, e, d⟩ := hst.1
      exact ⟨o, k6 _ _ (by simpa using h2I.symm) ((hs₅.2 _ (Ne.symm h1I)).trans e), d⟩
    · exact IsTup.up' hst.2 fun o e => k6 _ _ (by simpa using hK2) ((hs₅.2 _ hK1).trans e)
    · obtain ⟨o, e, d⟩ := hv₅; exact ⟨o, k6 _ _ (by simpa using h12) e, d⟩
  · rintro s' ⟨b1, b2, b3, b4, b5⟩
    refine ⟨rfl, fun b o hb' e => b3 b o ?_ (gT.up _ _ e), b1, b2, b4, b5⟩
    simp only [List.mem_cons, List.not_mem_nil, or_false, not_or] at hb' ⊢
    exact ⟨hb'.1, hb'.2, ne_fresh hIf (gT.up _ _ e)⟩
end
end Mine

/-! MLawH -/
namespace Mine
def lawA1 : Stmt := match rLaw.body with | [s, _, _, _, _, _] => s | _ => .Pass ⟨0, 0, 0, 0⟩
def lawA2 : Stmt := match rLaw.body with | [_, s, _, _, _, _] => s | _ => .Pass ⟨0, 0, 0, 0⟩
def lawA3 : Stmt := match rLaw.body with | [_, _, s, _, _, _] => s | _ => .Pass ⟨0, 0, 0, 0⟩
theorem bodyLaw_eq : rLaw.body = [lawA1, lawA2, lawA3, lawFor, lawIf, lawRet] := by rfl
section
variable {prog : Program} {w : World} {A : Around} {E : Value → Shared → Prop} {s : Shared} {mg mb : Str → Option Value} {L f l p D : Addr} {cd : Value} {hb : Heap} {m : Str → Option Value}
theorem get_mono {hb h : Heap} (U : Up hb h) {a : Addr} (e : h.get? a = none) : hb.get? a = none := by
  cases q : hb.get? a with
  | none => rfl
  | some o => rw [U _ _ q] at e; cases e
theorem law_pen {vs : List Value} {ns : List Int} (T : MyTop mg mb hb) (U : Up hb s.heap) (hn : s.heap.Ns L m) (hm : m "script" = some (.ref l)) (hl : hb.IsList l vs.toArray) (hI : IntsAre vs ns) (hlen : ns.length ≤ 63) (fL : hb.get? L = none)
    (hh : A.handled = none) (hd : A.depth < recursionLimit) (hu : A.units + 200 < cLine) :
    wpAny (model prog w) A (exec lawA1 (eLaw L f cd)) (fun fl s' => fl = .next ∧ UpX [L] s.heap s'.heap ∧ s'.gens = s.gens ∧ s'.os = s.os ∧ ∃ m p D, s'.heap.Ns L m ∧ m "pen" = some (.ref p) ∧ hb.get? p = none ∧ hb.get? D = none ∧ p ≠ L ∧ D ≠ L ∧ PenAt s'.heap p D) E s := by
  obtain ⟨fp, op, _, _, _, hfp, hop, hdp, _⟩ := T.fn rPen (recAt_mem 1 (by decide))
  refine wpAny_Assign_Name (Call_ ?_)
  refine ev_global (T.keeps U) rfl rfl rfl hfp ?_
  refine callWith_def hdp (args_cons ?_)
  refine ev_local rfl rfl hn hm ?_
  refine args_nil ⟨U _ _ hop, ?_⟩
  refine call_pen (T.keeps U) hfp hh hd (by omega) (hl.at fun o e => U _ _ e) hI hlen fun s₁ p D g₁ hp hD P => ?_
  have hn₁ := hn.keeps g₁.up
  have hpL : p ≠ L := by obtain ⟨o, _, _, e, _⟩ := hn; exact (ne_fresh hp e).symm
  have hDL : D ≠ L := by obtain ⟨o, _, _, e, _⟩ := hn; exact (ne_fresh hD e).symm
  refine wpAny_storeName_local rfl hn₁ fun h₂ hn₂ hs₂ => ?_
  refine ⟨rfl, (g₁.up.toX _).trans (UpX.same (a := L) hs₂), g₁.gens, g₁.os, _, p, D, hn₂, if_pos rfl, get_mono U hp, get_mono U hD, hpL, hDL, P.up fun b o hb' e => (hs₂.2 b ?_).trans e⟩
  rcases hb' with rfl | rfl
  · exact hpL
  · exact hDL
end
end Mine

/-! MLawI -/
namespace Mine
section
variable {prog : Program} {w : World} {A : Around} {E : Value → Shared → Prop} {s : Shared} {mg mb : Str → Option Value} {L f l p D : Addr} {cd : Value} {hb : Heap} {m : Str → Option Value}
theorem law_nums (T : MyTop mg mb hb) (U : Up hb s.heap) (hn : s.heap.Ns L m) (hm : m "pen" = some (.ref p)) (fp : hb.get? p = none) (fD : hb.get? D = none) (fL : hb.get? L = none) (hpL : p ≠ L) (hDL : D ≠ L) (P : PenAt s.heap p D)
    (hh : A.handled = none) (hd : A.depth + 3 < recursionLimit) (hu : A.units + 500 < cLine) :
    wpAny (model prog w) A (exec lawA2 (eLaw L f cd)) (fun fl s' => fl = .next ∧ UpX [L, p, D] s.heap s'.heap ∧ s'.gens = s.gens ∧ s'.os = s.os ∧
      ∃ m a1 a2 n1 n2, s'.heap.Ns L m ∧ m "one" = some (.ref a1) ∧ m "other" = some (.ref a2) ∧ IntList s'.heap a1 n1 ∧ IntList s'.heap a2 n2 ∧ n1.length < 13 ∧ n2.length < 13 ∧ (∀ n ∈ n1, 0 ≤ n ∧ n < 30) ∧ ∀ n ∈ n2, 0 ≤ n ∧ n < 30) E s := by
  obtain ⟨fq, oq, _, _, _, hfq, hoq, hdq, _⟩ := T.fn rNumb (recAt_mem 4 (by decide))
  have fr : ∀ b ∈ [p, D], hb.get? b = none := by
    intro b hb'
    simp only [List.mem_cons, List.not_mem_nil, or_false] at hb'
    rcases hb' with rfl | rfl
    · exact fp
    · exact fD
  have hLx : L ∉ [p, D] := by simp only [List.mem_cons, List.not_mem_nil, or_false, not_or]; exact ⟨Ne.symm hpL, Ne.symm hDL⟩
  refine Assign_Tuple_swapped (names := [Str.ofString "one", Str.ofString "other"]) ?_
  refine Tuple_ (args_cons (Call_ ?_))
  refine ev_global (T.keeps U) rfl rfl rfl hfq ?_
  refine callWith_def hdq (args_cons ?_)
  refine ev_local rfl rfl hn hm ?_
  refine args_nil ⟨U _ _ hoq, ?_⟩
  refine call_numbers T U fr hfq hh hd (by omega) P fun s₁ r₁ v₁ n₁ d₁ hr₁ hl₁ hI₁ hlen₁ hbd₁ => ?_
  have hn₁ : s₁.heap.Ns L m := hn.at' fun o e => d₁.up _ _ hLx e
  have hr₁x : r₁ ∉ [p, D] := by
    obtain ⟨vs, ds, c, d, u, v, ⟨n, e⟩, ⟨n', e'⟩, _⟩ := P
    simp only [List.mem_cons, List.not_mem_nil, or_false, not_or]
    exact ⟨(ne_fresh hr₁ e).symm, (ne_fresh hr₁ e').symm⟩
  refine args_cons (Call_ ?_)
  refine ev_global (T.keeps d₁.base) rfl rfl rfl hfq ?_
  refine callWith_def hdq (args_cons ?_)
  refine ev_local rfl rfl hn₁ hm ?_
  refine args_nil ⟨d₁.base _ _ hoq, ?_⟩
  refine call_numbers T d₁.base fr hfq hh hd (by omega) d₁.pen fun s₂ r₂ v₂ n₂ d₂ hr₂ hl₂ hI₂ hlen₂ hbd₂ => ?_
  have hn₂ : s₂.heap.Ns L m := hn₁.at' fun o e => d₂.up _ _ hLx e
  have hl₁' : s₂.heap.PlainList r₁ v₁.toArray := hl₁.at fun o e => d₂.up _ _ hr₁x e
  refine args_nil (wpAny_newTuple ?_)
  have uT : Up s₂.heap (s₂.heap.push { cls := .type "tuple", data := .seq [Value.ref r₁, Value.ref r₂].toArray }) := Up.push _
  have hT : IsTup (s₂.heap.push { cls := .type "tuple", data := .seq [Value.ref r₁, Value.ref r₂].toArray }) s₂.heap.objs.size #[.ref r₁, .ref r₂] := ⟨_, Heap.get?_push_size _ rfl, rfl, _, rfl⟩
  generalize s₂.heap.push { cls := .type "tuple", data := .seq [Value.ref r₁, Value.ref r₂].toArray } = H at uT hT ⊢
  generalize s₂.heap.objs.size = K2 at hT ⊢
  refine wpAny_mono (Q := fun items s' => items = [Value.ref r₁, Value.ref r₂] ∧ ∃ h₃, s' = { s₂ with heap := h₃ } ∧ Up H h₃) (E := fun _ _ => False) ?_ (fun items s' hx => ?_) (fun _ _ e => e.elim)
  · refine unpackItems_tuple (s := { s₂ with heap := H }) (items := #[Value.ref r₁, Value.ref r₂]) hh hT fun h₃ hs₃ => ⟨rfl, h₃, rfl, fun b o e => hs₃ b o (Nat.ne_of_lt (Heap.lt_size e)) e⟩
  obtain ⟨rfl, h₃, rfl, hs₃⟩ := hx
  have u₃ : Up s₂.heap h₃ := fun b o e => hs₃ b o (uT _ _ e)
  refine assignInOrder_cons (bindName_ ?_)
  refine wpAny_storeName_local rfl (hn₂.keeps u₃) fun h₄ hn₄ hs₄ => ?_
  refine assignInOrder_cons (bindName_ ?_)
  refine wpAny_storeName_local rfl hn₄ fun h₅ hn₅ hs₅ => ?_
  refine assignInOrder_nil ?_
  have k₅ : UpX [L] s₂.heap h₅ := ((u₃.toX _).trans (UpX.same (a := L) hs₄)).trans (UpX.same (a := L) hs₅)
  have hr₁L : r₁ ≠ L := by obtain ⟨o, _, _, e, _⟩ := hn; exact (ne_fresh hr₁ e).symm
  have hr₂L : r₂ ≠ L := by obtain ⟨o, _, _, e, _⟩ := hn₁; exact (ne_fresh hr₂ e).symm
  refine ⟨rfl, fun b o hb' e => ?_, d₂.gens.trans d₁.gens, d₂.os.trans d₁.os, _, r₁, r₂, n₁, n₂, hn₅, if_pos rfl, (if_neg (by decide)).trans (if_pos rfl), ⟨v₁, hl₁'.at fun o e => k₅ _ o (by simpa using hr₁L) e, hI₁⟩, ⟨v₂, hl₂.at fun o e => k₅ _ o (by simpa using hr₂L) e, hI₂⟩, hlen₁, hlen₂, hbd₁, hbd₂⟩
  simp only [List.mem_cons, List.not_mem_nil, or_false, not_or] at hb'
  have q : b ∉ [p, D] := by simp only [List.mem_cons, List.not_mem_nil, or_false, not_or]; exact hb'.2
  exact k₅ b o (by simpa using hb'.1) (d₂.up b o q (d₁.up b o q e))
end
end Mine

/-! MLawJ -/
namespace Mine
section
variable {prog : Program} {w : World} {A : Around} {E : Value → Shared → Prop} {s : Shared} {mg mb : Str → Option Value} {L f l p D a1 a2 : Addr} {cd : Value} {hb : Heap} {m : Str → Option Value} {n1 n2 : List Int}
theorem list_ints {a : Addr} {ns : List Int} {Q : Value → Shared → Prop} (hl : IntList s.heap a ns) (hlen : ns.length < 1000) (h : ∀ s' b, Grew s s' → s.heap.get? b = none → IntList s'.heap b ns → Q (.ref b) s') :
    wpAny (model prog w) A (call (.type "list") [.ref a]) Q E s := by
  obtain ⟨vs, ⟨n, e⟩, hi⟩ := hl
  have hv := hi.length
  refine call_list_seq a (.inl rfl) e rfl rfl (fun h' c' hk hD => ?_) (by rw [sizeLine_eq]; simp only [List.size_toArray]; omega)
  exact h _ _ ⟨hk, rfl, rfl⟩ (fresh_none (Nat.le_refl _)) ⟨vs, ⟨c', hD⟩, hi⟩
theorem law_kept (T : MyTop mg mb hb) (U : Up hb s.heap) (hn : s.heap.Ns L m) (m1 : m "one" = some (.ref a1)) (m2 : m "other" = some (.ref a2)) (i1 : IntList s.heap a1 n1) (i2 : IntList s.heap a2 n2) (l1 : n1.length < 13) (l2 : n2.length < 13) (b1 : ∀ n ∈ n1, 0 ≤ n ∧ n < 30) (b2 : ∀ n ∈ n2, 0 ≤ n ∧ n < 30) (fL : hb.get? L = none) :
    wpAny (model prog w) A (exec lawA3 (eLaw L f cd)) (fun fl s' => fl = .next ∧ UpX [L] s.heap s'.heap ∧ s'.gens = s.gens ∧ s'.os = s.os ∧ ∃ m K, Post hb L m a1 a2 K n1 n2 s'.heap) E s := by
  refine wpAny_Assign_Name (Tuple_ (args_cons (Call_ ?_)))
  refine ev_builtin (T.keeps U) rfl rfl rfl rfl (by decide) PyProof.Rows.boot_list ?_
  refine callWith_type1 (args_cons ?_)
  refine ev_local rfl rfl hn m1 ?_
  refine args_nil (list_ints i1 (by omega) fun s₁ c1 g₁ hc1 j1 => ?_)
  have hn₁ := hn.keeps g₁.up
  refine args_cons (Call_ ?_)
  refine ev_builtin (T.keeps (U.trans g₁.up)) rfl rfl rfl rfl (by decide) PyProof.Rows.boot_list ?_
  refine callWith_type1 (args_cons ?_)
  refine ev_local rfl rfl hn₁ m2 ?_
  refine args_nil (list_ints (i2.up fun o e => g₁.up _ _ e) (by omega) fun s₂ c2 g₂ hc2 j2 => ?_)
  have hn₂ := hn₁.keeps g₂.up
  refine args_nil (wpAny_newTuple ?_)
  have uT : Up s₂.heap (s₂.heap.push { cls := .type "tuple", data := .seq [Value.ref c1, Value.ref c2].toArray }) := Up.push _
  have hT : IsTup (s₂.heap.push { cls := .type "tuple", data := .seq [Value.ref c1, Value.ref c2].toArray }) s₂.heap.objs.size #[.ref c1, .ref c2] := ⟨_, Heap.get?_push_size _ rfl, rfl, _, rfl⟩
  have hKL : s₂.heap.objs.size ≠ L := by obtain ⟨_, _, _, e, _⟩ := hn₂; exact Nat.ne_of_gt (Heap.lt_size e)
  have uA : Up s.heap (s₂.heap.push { cls := .type "tuple", data := .seq [Value.ref c1, Value.ref c2].toArray }) := g₁.up.trans (g₂.up.trans uT)
  have j1' := (j1.up fun o e => g₂.up _ _ e).up fun o e => uT _ _ e
  have j2' := j2.up fun o e => uT _ _ e
  show wpAny _ _ _ _ _ { s₂ with heap := s₂.heap.push { cls := .type "tuple", data := .seq [Value.ref c1, Value.ref c2].toArray } }
  generalize s₂.heap.push { cls := .type "tuple", data := .seq [Value.ref c1, Value.ref c2].toArray } = H at uT hT uA j1' j2' ⊢
  generalize s₂.heap.objs.size = K at hT hKL ⊢
  have hnH : H.Ns L m := hn₂.keeps uT
  refine wpAny_storeName_local (s := { s₂ with heap := H }) rfl hnH fun h₃ hn₃ hs₃ => ?_
  have k₃ : UpX [L] H h₃ := UpX.same (a := L) hs₃
  have U₃ : Up hb h₃ := (U.trans uA).except (by intro b hb'; rw [List.mem_singleton.mp hb']; exact fL) k₃
  have li : ∀ {a : Addr} {ns : List Int}, IntList H a ns → IntList h₃ a ns := fun {a} {ns} x => x.up fun o e => k₃ _ o (by
    rw [List.mem_singleton]
    rintro rfl
    obtain ⟨vs, ⟨n, e1⟩, _⟩ := x
    obtain ⟨o2, es, _, e2, d2, _⟩ := hnH
    rw [e1] at e2
    cases e2
    cases d2) e
  refine ⟨rfl, (uA.toX _).trans k₃, g₂.gens.trans g₁.gens, g₂.os.trans g₁.os, _, K, U₃, hn₃, (if_neg (by decide)).trans m1, (if_neg (by decide)).trans m2, if_pos rfl, li (i1.up fun o e => uA _ _ e), li (i2.up fun o e => uA _ _ e), ⟨c1, c2, ?_, li j1', li j2'⟩, l1, l2, b1, b2⟩
  exact IsTup.up' hT fun o e => k₃ _ o (by simpa using hKL) e

theorem law_body {vs : List Value} {ns : List Int} (T : MyTop mg mb hb) (U : Up hb s.heap) (hn : s.heap.Ns L m) (hm : m "script" = some (.ref l)) (hl : hb.IsList l vs.toArray) (hI : IntsAre vs ns) (hlen : ns.length ≤ 63)
    (c1 : ∃ v, s.heap.IsCell (L + 1) v) (c2 : ∃ v, s.heap.IsCell (L + 1 + 1) v) (fL : hb.get? L = none) (f1 : hb.get? (L + 1) = none) (f2 : hb.get? (L + 1 + 1) = none)
    (hh : A.handled = none) (hd : A.depth + 10 < recursionLimit) (hu : A.units + 1000 < cLine) :
    wpAny (model prog w) A (execs rLaw.body (eLaw L f cd)) (fun fl s' => fl = .ret (.bool true) ∧ Up hb s'.heap ∧ s'.gens = s.gens ∧ s'.os = s.os) E s := by
  rw [bodyLaw_eq]
  obtain ⟨x1, c1⟩ := c1
  obtain ⟨x2, c2⟩ := c2
  have h1L : L + 1 ≠ L := Nat.ne_of_gt (Nat.lt_succ_self _)
  have h2L : L + 1 + 1 ≠ L := Nat.ne_of_gt (Nat.lt_succ_of_lt (Nat.lt_succ_self _))
  refine wpAny_execs_cons (wpAny_mono (law_pen T U hn hm hl hI hlen fL hh (by omega) (by omega)) (fun fl s₁ h₁ => ?_) fun _ _ e => e)
  obtain ⟨rfl, k₁, g₁, o₁, m₁, p, D, hn₁, hp₁, fp, fD, hpL, hDL, P⟩ := h₁
  have U₁ : Up hb s₁.heap := U.except (by intro b hb'; rw [List.mem_singleton.mp hb']; exact fL) k₁
  have c1₁ : s₁.heap.IsCell (L + 1) x1 := by obtain ⟨o, e, d⟩ := c1; exact ⟨o, k₁ _ _ (by simpa using h1L) e, d⟩
  have c2₁ : s₁.heap.IsCell (L + 1 + 1) x2 := by obtain ⟨o, e, d⟩ := c2; exact ⟨o, k₁ _ _ (by simpa using h2L) e, d⟩
  refine wpAny_execs_cons (wpAny_mono (law_nums T U₁ hn₁ hp₁ fp fD fL hpL hDL P hh (by omega) (by omega)) (fun fl s₂ h₂ => ?_) fun _ _ e => e)
  obtain ⟨rfl, k₂, g₂, o₂, m₂, a1, a2, n1, n2, hn₂, m1, m2, i1, i2, l1, l2, b1, b2⟩ := h₂
  have U₂ : Up hb s₂.heap := U₁.except (by
    intro b hb'
    simp only [List.mem_cons, List.not_mem_nil, or_false] at hb'
    rcases hb' with rfl | rfl | rfl
    · exact fL
    · exact fp
    · exact fD) k₂
  have notpen : ∀ {c : Addr} {v : Option Value}, s₁.heap.IsCell c v → c ≠ p ∧ c ≠ D := by
    intro c v hc
    obtain ⟨vs, ds, x, y, u, v, h1, h2, _⟩ := P
    exact ⟨(list_ne_cell h1.isList hc).symm, (list_ne_cell h2.isList hc).symm⟩
  have c1₂ : s₂.heap.IsCell (L + 1) x1 := by
    obtain ⟨o, e, d⟩ := id c1₁
    exact ⟨o, k₂ _ _ (by simp only [List.mem_cons, List.not_mem_nil, or_false, not_or]; exact ⟨h1L, notpen c1₁⟩) e, d⟩
  have c2₂ : s₂.heap.IsCell (L + 1 + 1) x2 := by
    obtain ⟨o, e, d⟩ := id c2₁
    exact ⟨o, k₂ _ _ (by simp only [List.mem_cons, List.not_mem_nil, or_false, not_or]; exact ⟨h2L, notpen c2₁⟩) e, d⟩
  refine wpAny_execs_cons (wpAny_mono (law_kept T U₂ hn₂ m1 m2 i1 i2 l1 l2 b1 b2 fL) (fun fl s₃ h₃ => ?_) fun _ _ e => e)
  obtain ⟨rfl, k₃, g₃, o₃, m₃, K, S₃⟩ := h₃
  have c1₃ : s₃.heap.IsCell (L + 1) x1 := by obtain ⟨o, e, d⟩ := c1₂; exact ⟨o, k₃ _ _ (by simpa using h1L) e, d⟩
  have c2₃ : s₃.heap.IsCell (L + 1 + 1) x2 := by obtain ⟨o, e, d⟩ := c2₂; exact ⟨o, k₃ _ _ (by simpa using h2L) e, d⟩
  refine wpAny_execs_cons (wpAny_mono (law_for T S₃ ⟨_, c1₃⟩ ⟨_, c2₃⟩ f1 f2 hh (by omega) (by omega)) (fun fl s₄ h₄ => ?_) fun _ _ e => e)
  obtain ⟨rfl, k₄, g₄, o₄, _, _⟩ := h₄
  have S₄ := S₃.cells c1₃ c2₃ f1 f2 k₄
  refine wpAny_execs_cons (wpAny_mono (law_if T S₄ hh (by omega) (by omega)) (fun fl s₅ h₅ => ?_) fun _ _ e => e)
  obtain ⟨rfl, g₅⟩ := h₅
  have S₅ := S₄.grow g₅.up
  refine wpAny_execs_cons (wpAny_mono (law_ret T S₅ hh (by omega) (by omega)) (fun fl s₆ h₆ => ?_) fun _ _ e => e)
  obtain ⟨rfl, g₆⟩ := h₆
  exact ⟨rfl, S₅.up.trans g₆.up, ((g₆.gens.trans g₅.gens).trans g₄).trans ((g₃.trans g₂).trans g₁), ((g₆.os.trans g₅.os).trans o₄).trans ((o₃.trans o₂).trans o₁)⟩
end
end Mine

/-! MJoin -/
namespace Mine
def eight : List Str := ["sorted", "list", "set", "len", "range", "dict", "abs", "int"]
theorem top_my {p : Program} {loose : List Str} {mean : ExcName → Option Value} {mg mb : Str → Option Value} {h : Heap} (T : Top p loose mean mg mb h) (hr : recsOf p = recs)
    (hf : (eight.all fun x => decide (x ∉ startupNames ∧ x ∉ loose ∧ x ∉ (recsOf p).map (·.name) ∧ x ∉ (litsOf p).map (·.1) ∧ x ∉ (clssOf p loose).map (·.name) ∧ x ≠ "__name__")) = true) : MyTop mg mb h where
  g := T.g
  b := T.b
  nolimit := T.nolimit
  fn := fun d hd => T.fn d (by rw [hr]; exact hd)
  built := fun x hx => by
    have := of_decide_eq_true (List.all_eq_true.mp hf x hx)
    exact ⟨T.free x this.1 this.2.1 this.2.2.1 this.2.2.2.1 this.2.2.2.2.1, T.builtins x this.2.2.2.2.2⟩
theorem join {prog : Program} {w : World} {mg mb : Str → Option Value} {s₁ : Shared} {h₁ : Heap} {tk : Nat} {m : Str → Option Value} {f l : Addr} {cd : Value} {o1 o2 : Obj} {x1 x2 : Option Value} {vs : List Value} {ns : List Int} {Q : Flow → Shared → Prop} {E : Value → Shared → Prop}
    (T : MyTop mg mb s₁.heap) (hl : s₁.heap.IsList l vs.toArray) (hI : IntsAre vs ns) (hlen : ¬ ((63 : Nat) : Int) < (ns.length : Int))
    (F : Fr s₁.heap s₁.heap.objs.size h₁ m) (hm : m (Str.ofString "script") = some (.ref l))
    (N : News s₁.heap s₁.heap.objs.size h₁ [(s₁.heap.objs.size + 1 + 1, o1), (s₁.heap.objs.size + 1, o2)]) (d1 : o1.data = .cell x1) (d2 : o2.data = .cell x2)
    (hQ : ∀ s', (∀ b o, s₁.heap.get? b = some o → s'.heap.get? b = some o) → s'.gens = s₁.gens → s'.os = s₁.os → Q (.ret (.bool true)) s') :
    wpAny (model prog w) (callerA.deeper (eLaw s₁.heap.objs.size f cd)) (execs rLaw.body (eLaw s₁.heap.objs.size f cd)) Q E { s₁ with heap := h₁, toks := tk } := by
  have n1 := N _ (.head _)
  have n2 := N _ (.tail _ (.head _))
  refine wpAny_mono (law_body (hb := s₁.heap) (s := { s₁ with heap := h₁, toks := tk }) (E := fun _ _ => False) T F.keep F.ns hm hl hI (by omega) ⟨x2, o2, n2.1, d2⟩ ⟨x1, o1, n1.1, d1⟩ (fresh_none (Nat.le_refl _)) (fresh_none (Nat.le_succ _)) (fresh_none (Nat.le_succ_of_le (Nat.le_succ _))) rfl (show 1 + claimMargin + 1 + 10 < recursionLimit by decide) (show 4 + 3 + 1000 < cLine by decide)) (fun fl s' hx => ?_) fun _ _ e => e.elim
  obtain ⟨rfl, up, g, o⟩ := hx
  exact hQ s' up g o
end Mine

set_option maxHeartbeats 8000000 in
theorem PySem.Challenge.cw_og0120_01_holds : PySem.Challenge.rw_og0120_01.Holds := by
  w_on; o_law; k_head; (case hw => w_witness2)
  w_strict (
    k_go0
    have TM := Mine.top_my ‹Top _ _ _ _ _ _› (by rfl) (by decide +kernel)
    refine Mine.join TM (by assumption) (by assumption) (by assumption) (by assumption) ?_ (by assumption) (by assumption) (by assumption) ?_
    · rfl
    · intro s' up g o
      refine ⟨.inl ⟨.bool true, .bool true, [], rfl, fun cls => rfl, .bool true, ?_, fun hu => ⟨.nil, fun a ha => nomatch ha⟩⟩, up, o, g.trans ‹_ = #[]›⟩
      wrow_post)
