import PyProof.Rows.All
import Wide.All
import OpenK.AllK
import Wide.FinOn
import Lean
import PySem.Challenge.RW_xm0172_01
open PySem PySem.W PySem.Spec PySem.Calls PyProof.Rows
set_option Elab.async false
set_option compiler.extract_closed false
set_option maxRecDepth 100000
set_option maxHeartbeats 8000000
set_option linter.unusedVariables false
namespace Mine
section
local macro_rules
  | `(tactic| refine PySem.W.holds_open (q := $q) (loose := $l) (Xt := $x1) (XP := $x2) (Yf := $y1) (Ya := $y2) (YP := $y3) (N := $n) ?$h:ident $a1 $a2 $a3 $a4 $a5 $a6 $a7 $a8 $a9 $b1 $b2 $b3 ?$hw:ident ?$hc:ident) =>
    `(tactic| refine PySem.W.holds_open (q := $q) (loose := $l) (Xt := $x1) (XP := $x2) (Yf := $y1) (Ya := $y2) (YP := $y3) (N := $n) (fun w => by kernel_rfl) $a1 $a2 $a3 $a4 $a5 $a6 $a7 $a8 $a9 $b1 $b2 $b3 ?$hw ?$hc)
open_top hd for PySem.Challenge.rw_xm0172_01
end
noncomputable abbrev Led := List (Addr × Obj)

noncomputable def Tri (w : World) (p : Program) (loose : List Str) (mean : ExcName → Option Value) (mg mb : Str → Option Value) (dd du : Nat) (f : Value) (vs : List Value) (news : Led) (Post : Value → Led → Prop) : Prop :=
  ∀ (dp un : Nat) (gd : Option (List Code)) (cn : Str) (cs : Scope) (a : Addr) (ccd : Value) (cl : List (Str × Addr)) (outer : List Env) (A₀ : Around) (base h₀ : Heap) (L : Addr) (m : Str → Option Value) (s : Shared) (Q E : Value → Shared → Prop),
    Below A₀ base outer h₀ → Fr h₀ L s.heap m → (hd.heap_39 w.params).In h₀ → News h₀ L s.heap news → Top p loose mean mg mb h₀ → cs.kind = .function → dp + dd < recursionLimit → un + du < cLine →
    (∀ r news' h' tk', Fr h₀ L h' m → News h₀ L h' news' → Post r news' → Q r { s with heap := h', toks := tk' }) →
    wpAny (model PySem.Challenge.rw_xm0172_01.row.prog w) (ktrTop dp un gd cn cs L a ccd cl outer) (call f vs) Q E s

inductive Pk (a : Addr) (o : Obj) : Led → Led → Prop
  | head {r : Led} : (∀ p ∈ r, p.1 ≠ a) → Pk a o ((a, o) :: r) r
  | tail {p : Addr × Obj} {r r' : Led} : p.1 ≠ a → Pk a o r r' → Pk a o (p :: r) (p :: r')
theorem Pk.off {a : Addr} {o : Obj} {l r : Led} (P : Pk a o l r) : ∀ p ∈ r, p.1 ≠ a := by
  induction P with
  | head h => exact h
  | tail h _ ih => intro p hp; rcases List.mem_cons.mp hp with rfl | hp; exact h; exact ih p hp
theorem Pk.sub {a : Addr} {o : Obj} {l r : Led} (P : Pk a o l r) : ∀ p ∈ (a, o) :: r, p ∈ l := by
  induction P with
  | head h => exact fun _ h => h
  | tail h _ ih =>
    intro p hp
    rcases List.mem_cons.mp hp with rfl | hp
    · exact .tail _ (ih _ (.head _))
    · rcases List.mem_cons.mp hp with rfl | hp
      · exact .head _
      · exact .tail _ (ih p (.tail _ hp))
theorem News.subl {h₀ h : Heap} {L : Addr} {l l' : Led} (N : News h₀ L h l) (hs : ∀ p ∈ l', p ∈ l) : News h₀ L h l' := fun p hp => N p (hs p hp)
theorem sub_cons {a b : Led} {x : Addr × Obj} (h : ∀ p ∈ a, p ∈ b) : ∀ p ∈ a, p ∈ x :: b := fun p hp => .tail _ (h p hp)
theorem sub_app {a b t : Led} (h : ∀ p ∈ a, p ∈ b) : ∀ p ∈ a, p ∈ t ++ b := fun p hp => List.mem_append.mpr (.inr (h p hp))
theorem sub_l {a b : Led} : ∀ p ∈ a, p ∈ a ++ b := fun p hp => List.mem_append.mpr (.inl hp)
theorem sub_app2 {a b t : Led} (h : ∀ p ∈ a, p ∈ b) : ∀ p ∈ t ++ a, p ∈ t ++ b := fun p hp => List.mem_append.mpr ((List.mem_append.mp hp).imp id (h p))
theorem sub_cons2 {a b : Led} {x : Addr × Obj} (h : ∀ p ∈ a, p ∈ b) : ∀ p ∈ x :: a, p ∈ x :: b := fun p hp => by
  rcases List.mem_cons.mp hp with rfl | hp
  · exact .head _
  · exact .tail _ (h p hp)
theorem off_sub {a b : Led} {x : Addr} (h : ∀ p ∈ b, p.1 ≠ x) (k : ∀ p ∈ a, p ∈ b) : ∀ p ∈ a, p.1 ≠ x := fun p hp => h p (k p hp)
theorem off_cons {a : Led} {x : Addr} {p : Addr × Obj} (h : p.1 ≠ x) (k : ∀ p ∈ a, p.1 ≠ x) : ∀ q ∈ p :: a, q.1 ≠ x := fun q hq => by
  rcases List.mem_cons.mp hq with rfl | hq
  · exact h
  · exact k q hq
theorem off_lt {a : Led} {x : Addr} (h : AllLt x a) : ∀ p ∈ a, p.1 ≠ x := fun p hp => Nat.ne_of_lt (ktn_ltOf h p hp)
theorem off_app {a b : Led} {x : Addr} (h : ∀ p ∈ a, p.1 ≠ x) (k : ∀ p ∈ b, p.1 ≠ x) : ∀ p ∈ a ++ b, p.1 ≠ x := fun p hp => (List.mem_append.mp hp).elim (h p) (k p)

/-- the reel: a list of two ints -/
structure RS where
  s : Int
  x : Int
  t1 : Tok
  t2 : Tok
  hs : 0 ≤ s
  hx : 0 ≤ x
  hx' : x < 2147483647
noncomputable abbrev reelO (q : RS) : Obj := listOf #[.int q.s q.t1, .int q.x q.t2] 0

/-- tuples and lists alone -/
noncomputable def keepO (p : Addr × Obj) : Bool := decide (p.2.cls = .type "tuple") || decide (p.2.cls = .type "list")
noncomputable def Stab (Post : Value → Led → Prop) : Prop := ∀ r tl, Post r tl → Post r (tl.filter keepO)
theorem keep_mem {l : Led} {p : Addr × Obj} (h : p ∈ l) (k : keepO p = true) : p ∈ l.filter keepO := List.mem_filter.mpr ⟨h, k⟩
/-- a loop's own object is taken out -/
inductive OffC (I : Addr) (it : Obj) : Led → Prop
  | lt {r : Led} : (∀ p ∈ r, p.1 ≠ I) → OffC I it r
  | cons {p : Addr × Obj} {r : Led} : p.2.cls ≠ it.cls → OffC I it r → OffC I it (p :: r)
  | app {t r : Led} : (∀ p ∈ t, p.2.cls ≠ it.cls) → OffC I it r → OffC I it (t ++ r)
theorem OffC.off {I : Addr} {it : Obj} {r : Led} (P : OffC I it r) {h₀ h : Heap} {L : Addr} (e : h.get? I = some it) (N : News h₀ L h r) : ∀ p ∈ r, p.1 ≠ I := by
  induction P with
  | lt h => exact h
  | cons h _ ih => exact off_cons (fun q => h (by
      have := (N _ (.head _)).1
      rw [q, e] at this
      exact congrArg Obj.cls (Option.some.inj this).symm)) (ih (fun p hp => N p (.tail _ hp)))
  | app h _ ih => exact off_app (fun p hp q => h p hp (by
      have := (N p (List.mem_append.mpr (.inl hp))).1
      rw [q, e] at this
      exact congrArg Obj.cls (Option.some.inj this).symm)) (ih fun p hp => N p (List.mem_append.mpr (.inr hp)))
inductive PkI (I : Addr) (it : Obj) : Led → Led → Prop
  | head {r : Led} : OffC I it r → PkI I it ((I, it) :: r) r
  | tail {p : Addr × Obj} {r r' : Led} : p.2.cls ≠ it.cls → PkI I it r r' → PkI I it (p :: r) (p :: r')
  | app {t r r' : Led} : (∀ p ∈ t, p.2.cls ≠ it.cls) → PkI I it r r' → PkI I it (t ++ r) (t ++ r')
theorem PkI.sub {I : Addr} {it : Obj} {l r : Led} (P : PkI I it l r) : (I, it) ∈ l ∧ ∀ p ∈ r, p ∈ l := by
  induction P with
  | head h => exact ⟨.head _, fun _ h => .tail _ h⟩
  | tail h _ ih => exact ⟨.tail _ ih.1, sub_cons2 ih.2⟩
  | app h _ ih => exact ⟨List.mem_append.mpr (.inr ih.1), sub_app2 ih.2⟩
theorem PkI.off {I : Addr} {it : Obj} {l r : Led} (P : PkI I it l r) {h₀ h : Heap} {L : Addr} (e : h.get? I = some it) (N : News h₀ L h l) : ∀ p ∈ r, p.1 ≠ I := by
  induction P with
  | head h => exact h.off e fun p hp => N p (.tail _ hp)
  | tail h _ ih => exact off_cons (fun q => h (by
      have := (N _ (.head _)).1
      rw [q, e] at this
      exact congrArg Obj.cls (Option.some.inj this).symm)) (ih (fun p hp => N p (.tail _ hp)))
  | app h _ ih => exact off_app (fun p hp q => h p hp (by
      have := (N p (List.mem_append.mpr (.inl hp))).1
      rw [q, e] at this
      exact congrArg Obj.cls (Option.some.inj this).symm)) (ih fun p hp => N p (List.mem_append.mpr (.inr hp)))
theorem unrEnd_pk {h₀ : Heap} {L I : Addr} {it : Obj} {rest : (Str → Option Value) → List (Addr × Obj) → Prop} {s₁ : Shared} {h' : Heap} {tk : Nat} {m' : Str → Option Value} {all news' : Led} (F : Fr h₀ L h' m') (N : News h₀ L h' all)
    (P : PkI I it all news') (r : rest m' news') : UnrEnd h₀ L s₁ I it rest { s₁ with heap := h', toks := tk } :=
  ⟨h', tk, m', news', rfl, F, fun p hp => by
    rcases List.mem_cons.mp hp with rfl | hp
    · exact N _ P.sub.1
    · exact N p (P.sub.2 p hp), P.off (N _ P.sub.1).1 N, r⟩
theorem cls_ne {a b : String} (h : a ≠ b) : Value.type a ≠ Value.type b := fun e => h (Value.type.inj e)
theorem keep_cls {n : String} {l : Led} (h : ∀ p ∈ l, keepO p = true) (h1 : n ≠ "tuple") (h2 : n ≠ "list") : ∀ p ∈ l, p.2.cls ≠ .type n := fun p hp q => by
  have := h p hp
  simp only [keepO, q, Bool.or_eq_true, decide_eq_true_eq] at this
  rcases this with e | e <;> cases e <;> contradiction
noncomputable def GTri (w : World) (p : Program) (loose : List Str) (mean : ExcName → Option Value) (mg mb : Str → Option Value) (dd du : Nat) (f : Value) (vs : List Value) (ra : Addr) (rest : Led) (Post : Value → Led → Prop) : Prop :=
  ∀ q : RS, (∀ p ∈ rest, p.1 ≠ ra) → Tri w p loose mean mg mb dd du f vs ((ra, reelO q) :: rest) (fun r l => ∃ q' tl, l = (ra, reelO q') :: (tl ++ rest) ∧ (∀ p ∈ tl, p.1 ≠ ra) ∧ Post r tl)

theorem gtri_use {w : World} {p : Program} {loose : List Str} {mean : ExcName → Option Value} {mg mb : Str → Option Value} {dd du : Nat} {f : Value} {vs : List Value} {ra : Addr} {rest big : Led} {Post : Value → Led → Prop}
    {dp un : Nat} {gd : Option (List Code)} {cn : Str} {cs : Scope} {a : Addr} {ccd : Value} {cl : List (Str × Addr)} {outer : List Env} {A₀ : Around} {base h₀ : Heap} {L : Addr} {m : Str → Option Value} {s : Shared} {Q E : Value → Shared → Prop} {q : RS}
    (B : Below A₀ base outer h₀) (F : Fr h₀ L s.heap m) (X : (hd.heap_39 w.params).In h₀) (N : News h₀ L s.heap big) (T : Top p loose mean mg mb h₀) (hk : cs.kind = .function)
    (P : Pk ra (reelO q) big rest) (C : GTri w p loose mean mg mb dd du f vs ra rest Post) (st : Stab Post) (hd : dp + dd < recursionLimit) (hu : un + du < cLine)
    (ret : ∀ r q' tl h' tk', Fr h₀ L h' m → News h₀ L h' ((ra, reelO q') :: (tl ++ rest)) → (∀ p ∈ tl ++ rest, p.1 ≠ ra) → (∀ p ∈ tl, keepO p = true) → Post r tl → Q r { s with heap := h', toks := tk' }) :
    wpAny (model PySem.Challenge.rw_xm0172_01.row.prog w) (ktrTop dp un gd cn cs L a ccd cl outer) (call f vs) Q E s :=
  C q P.off _ _ _ _ _ _ _ _ _ _ _ _ _ _ _ _ _ B F X (News.subl N P.sub) T hk hd hu (by
    rintro r _ h' tk' F' N' ⟨q', tl, rfl, ho, hP⟩
    have hf : ∀ p ∈ tl.filter keepO, p ∈ tl := fun p hp => (List.mem_filter.mp hp).1
    exact ret r q' (tl.filter keepO) h' tk' F' (News.subl N' fun p hp => by
      rcases List.mem_cons.mp hp with rfl | hp
      · exact .head _
      · exact .tail _ (List.mem_append.mpr ((List.mem_append.mp hp).imp (hf p) id))) (off_app (fun p hp => ho p (hf p hp)) P.off) (fun p hp => (List.mem_filter.mp hp).2) (st r tl hP))
/-- the end of a def's walk: what is made goes in front -/
theorem gtri_end {ra : Addr} {rest big rest2 : Led} {Post : Value → Led → Prop} {q : RS} {h₀ h : Heap} {L : Addr} {m : Str → Option Value} {Q : Value → Shared → Prop} {s : Shared} {tk : Nat} {r : Value}
    (ret : ∀ r news' h' tk', Fr h₀ L h' m → News h₀ L h' news' → (∃ q' tl, news' = (ra, reelO q') :: (tl ++ rest) ∧ (∀ p ∈ tl, p.1 ≠ ra) ∧ Post r tl) → Q r { s with heap := h', toks := tk' })
    (F : Fr h₀ L h m) (N : News h₀ L h big) (P : Pk ra (reelO q) big rest2) (hs : ∀ p ∈ rest, p ∈ rest2) (hP : Post r rest2) : Q r { s with heap := h, toks := tk } :=
  ret r ((ra, reelO q) :: (rest2 ++ rest)) h tk F (News.subl N fun p hp => P.sub p (by
    rcases List.mem_cons.mp hp with rfl | hp
    · exact .head _
    · exact .tail _ ((List.mem_append.mp hp).elim id (hs p)))) ⟨q, rest2, rfl, P.off, hP⟩
theorem bz {s : Shared} {name qual : Str} {params : Arguments} {body : List Stmt} {scope : Scope} {dV kV doc pm cdv ct : Value} {an : Option Addr} {args : List Value}
    (h : bindArgs (fnOf name qual params body scope dV kV doc pm an cdv ct) ⟨args, []⟩ = pure ((params.args.map (·.arg)).zip args)) : BindsTo s (fnOf name qual params body scope dV kV doc pm an cdv ct) ⟨args, []⟩ ((params.args.map (·.arg)).zip args) := BindsTo.of_eq h
theorem mem_hd {x : Addr × Obj} {l : Led} : x ∈ x :: l := .head _
theorem mem_tl {x y : Addr × Obj} {l : Led} (h : x ∈ l) : x ∈ y :: l := .tail _ h
theorem mem_r {x : Addr × Obj} {a b : Led} (h : x ∈ b) : x ∈ a ++ b := List.mem_append.mpr (.inr h)
theorem mem_l {x : Addr × Obj} {a b : Led} (h : x ∈ a) : x ∈ a ++ b := List.mem_append.mpr (.inl h)
local macro_rules | `(tactic| walk_at "m_memR") => `(tactic| first | with_reducible exact mem_hd | ((with_reducible refine' mem_tl ?mm); (case mm => walk_at "m_memR")) | ((with_reducible refine' mem_l ?mm); (case mm => with_reducible assumption)) | ((with_reducible refine' mem_r ?mm); (case mm => walk_at "m_memR")) | with_reducible assumption)
local macro_rules | `(tactic| walk_at "m_memD") => `(tactic| first | (apply mem_hd; done) | (refine' mem_tl ?mm; (case mm => walk_at "m_memD")) | (refine' mem_r ?mm; (case mm => walk_at "m_memD")) | assumption)
local macro_rules | `(tactic| walk_at "m_mem") => `(tactic| walk_at "m_memR")
local macro_rules | `(tactic| walk_at "subscriptTail") => `(tactic| (k_here; (with_reducible show wpAny _ _ (subscriptTail _ _ (Value.ref _) (Value.int _ _)) _ _ _); k_dflt (refine' item_tupleT ?t ?a ?b ?c ?d ?_; (case t => exact News.isTup (by k_asm) (by walk_at "m_memR")); (case a => decide); (case b => decide); (case c => rfl); (case d => rfl); k_whole)))
local macro_rules | `(tactic| k_mem) => `(tactic| walk_at "m_mem")
local macro_rules | `(tactic| k_all) => `(tactic| with_reducible assumption)
local macro_rules | `(tactic| walk_at "ite") => `(tactic| (k_here; first | with_reducible refine ite_tt ?_ | with_reducible refine ite_ff ?_ | (with_reducible refine split_not ?_) | (refine ite_pos ?c ?_; (case c => ((simp only [beq_iff_eq, bne_iff_ne, decide_eq_true_eq, ne_eq, gt_iff_lt]); omega))) | (refine ite_neg ?c ?_; (case c => ((simp only [beq_iff_eq, bne_iff_ne, decide_eq_true_eq, ne_eq, gt_iff_lt]); omega)))))
noncomputable abbrev tupO (xs : List Value) : Obj := { cls := .type "tuple", data := .seq xs.toArray }
theorem add_ls {prog : Program} {w : World} {A : Around} {E : Value → Shared → Prop} {s : Shared} {h₀ : Heap} {L : Addr} {m : Str → Option Value} {news : Led} {l b : Addr} {vs ws : List Value} {n k : Nat} {Q : Value → Shared → Prop} (F : Fr h₀ L s.heap m) (N : News h₀ L s.heap news)
    (ha : (l, listOf vs.toArray n) ∈ news) (hb : (b, listOf ws.toArray k) ∈ news) (hsz : vs.length + ws.length ≤ sizeLine)
    (h : ∀ d h', Fr h₀ L h' m → News h₀ L h' ((d, listOf (vs ++ ws).toArray 0) :: news) → (∀ p ∈ news, p.1 < d) → Q (.ref d) { s with heap := h' }) : wpAny (model prog w) A (binaryOp .Add (.ref l) (.ref b)) Q E s :=
  add_lists F N (News.isList N ha) (News.isList N hb) (fun h' F' N' => h _ h' F' N' fun p hp => Heap.lt_size (N p hp).1) hsz
theorem add_tp {prog : Program} {w : World} {A : Around} {E : Value → Shared → Prop} {s : Shared} {h₀ : Heap} {L : Addr} {m : Str → Option Value} {news : Led} {l b : Addr} {x y : Value} {vs ws : List Value} {Q : Value → Shared → Prop} (F : Fr h₀ L s.heap m) (N : News h₀ L s.heap news)
    (ha : (l, tupO (x :: vs)) ∈ news) (hb : (b, tupO (y :: ws)) ∈ news) (hsz : (x :: vs).length + (y :: ws).length ≤ sizeLine)
    (h : ∀ d h', Fr h₀ L h' m → News h₀ L h' ((d, tupO (x :: vs ++ y :: ws)) :: news) → (∀ p ∈ news, p.1 < d) → Q (.ref d) { s with heap := h' }) : wpAny (model prog w) A (binaryOp .Add (.ref l) (.ref b)) Q E s :=
  add_tuples F N (News.isTup N ha) (News.isTup N hb) (fun h => nomatch h) (fun _ h => nomatch h) (fun _ _ h' F' N' => h _ h' F' N' fun p hp => Heap.lt_size (N p hp).1) hsz
/-- pure values -/
inductive V where
  | str (s : Str) | int (i : Int) | none | bool (b : Bool) | tup (xs : List V) | list (xs : List V) | raw (v : Value)
/-- a value stands for a pure one -/
inductive Rep (l : Led) : Value → V → Prop
  | str {s : Str} {t : Tok} : Rep l (.str s t) (.str s)
  | int {i : Int} {t : Tok} : Rep l (.int i t) (.int i)
  | none : Rep l .none .none
  | bool {b : Bool} : Rep l (.bool b) (.bool b)
  | tup {a : Addr} {xs : List Value} {Xs : List V} : (a, tupO xs) ∈ l → xs.length = Xs.length → (∀ p ∈ xs.zip Xs, Rep l p.1 p.2) → Rep l (.ref a) (.tup Xs)
  | list {a : Addr} {xs : List Value} {n : Nat} {Xs : List V} : (a, listOf xs.toArray n) ∈ l → xs.length = Xs.length → (∀ p ∈ xs.zip Xs, Rep l p.1 p.2) → Rep l (.ref a) (.list Xs)
  | raw {v : Value} : Rep l v (.raw v)
inductive Reps (l : Led) : List Value → List V → Prop
  | nil : Reps l [] []
  | cons {x : Value} {X : V} {xs : List Value} {Xs : List V} : Rep l x X → Reps l xs Xs → Reps l (x :: xs) (X :: Xs)
noncomputable abbrev Sub (l l' : Led) : Prop := ∀ p ∈ l, p ∈ l'
theorem Rep.mono0 {l l' : Led} {v : Value} {X : V} (h : Rep l v X) (h1 : ∀ a xs, (a, tupO xs) ∈ l → (a, tupO xs) ∈ l') (h2 : ∀ a xs n, (a, listOf xs n) ∈ l → (a, listOf xs n) ∈ l') : Rep l' v X := by
  induction h with
  | str => exact .str
  | int => exact .int
  | none => exact .none
  | bool => exact .bool
  | tup hm hl _ ih => exact .tup (h1 _ _ hm) hl ih
  | list hm hl _ ih => exact .list (h2 _ _ _ hm) hl ih
  | raw => exact .raw
theorem Rep.mono {l l' : Led} {v : Value} {X : V} (h : Rep l v X) (hs : Sub l l') : Rep l' v X := h.mono0 (fun _ _ => hs _) (fun _ _ _ => hs _)
theorem Reps.mono {l l' : Led} {vs : List Value} {Xs : List V} (h : Reps l vs Xs) (hs : Sub l l') : Reps l' vs Xs := by
  induction h with
  | nil => exact .nil
  | cons h _ ih => exact .cons (h.mono hs) ih
theorem Reps.len {l : Led} {vs : List Value} {Xs : List V} (h : Reps l vs Xs) : vs.length = Xs.length := by
  induction h with
  | nil => rfl
  | cons _ _ ih => simp [ih]
theorem Reps.zip {l : Led} {vs : List Value} {Xs : List V} (h : Reps l vs Xs) : ∀ p ∈ vs.zip Xs, Rep l p.1 p.2 := by
  induction h with
  | nil => intro p hp; cases hp
  | cons h _ ih => intro p hp; rcases List.mem_cons.mp hp with rfl | hp; exact h; exact ih p hp
theorem reps_of {l : Led} : ∀ {vs : List Value} {Xs : List V}, vs.length = Xs.length → (∀ p ∈ vs.zip Xs, Rep l p.1 p.2) → Reps l vs Xs
  | [], [], _, _ => .nil
  | [], _ :: _, h, _ => by cases h
  | _ :: _, [], h, _ => by cases h
  | v :: vs, X :: Xs, h, k => .cons (k (v, X) (.head _)) (reps_of (by simpa using h) fun p hp => k p (.tail _ hp))
theorem Rep.of_tup {l : Led} {a : Addr} {xs : List Value} {Xs : List V} (h : (a, tupO xs) ∈ l) (k : Reps l xs Xs) : Rep l (.ref a) (.tup Xs) := .tup h k.len k.zip
theorem Rep.of_list {l : Led} {a : Addr} {xs : List Value} {n : Nat} {Xs : List V} (h : (a, listOf xs.toArray n) ∈ l) (k : Reps l xs Xs) : Rep l (.ref a) (.list Xs) := .list h k.len k.zip
theorem Rep.inv {l : Led} {v : Value} {X : V} (h : Rep l v X) : match X with | .str s => ∃ t, v = .str s t | .int i => ∃ t, v = .int i t | .none => v = .none | .bool b => v = .bool b | .raw u => v = u | .tup _ => ∃ a, v = .ref a | .list _ => ∃ a, v = .ref a := by
  cases h with
  | str => exact ⟨_, rfl⟩
  | int => exact ⟨_, rfl⟩
  | none => rfl
  | bool => rfl
  | tup => exact ⟨_, rfl⟩
  | list => exact ⟨_, rfl⟩
  | raw => rfl
theorem Rep.str_inv {l : Led} {v : Value} {s : Str} (h : Rep l v (.str s)) : ∃ t, v = .str s t := h.inv
theorem Rep.int_inv {l : Led} {v : Value} {i : Int} (h : Rep l v (.int i)) : ∃ t, v = .int i t := h.inv
theorem Rep.none_inv {l : Led} {v : Value} (h : Rep l v .none) : v = .none := h.inv
theorem Rep.bool_inv {l : Led} {v : Value} {b : Bool} (h : Rep l v (.bool b)) : v = .bool b := h.inv
theorem Rep.raw_inv {l : Led} {v u : Value} (h : Rep l v (.raw u)) : v = u := h.inv
theorem Rep.tupr {l : Led} {v : Value} {xs : List V} (h : Rep l v (.tup xs)) : ∃ a, v = .ref a := h.inv
theorem Rep.listr {l : Led} {v : Value} {xs : List V} (h : Rep l v (.list xs)) : ∃ a, v = .ref a := h.inv
theorem Rep.tup_inv {l : Led} {v : Value} {Xs : List V} (h : Rep l v (.tup Xs)) : ∃ a xs, v = .ref a ∧ (a, tupO xs) ∈ l ∧ Reps l xs Xs := by
  cases h with
  | tup hm hl hk => exact ⟨_, _, rfl, hm, reps_of hl hk⟩
theorem Rep.list_inv {l : Led} {v : Value} {Xs : List V} (h : Rep l v (.list Xs)) : ∃ a xs n, v = .ref a ∧ (a, listOf xs.toArray n) ∈ l ∧ Reps l xs Xs := by
  cases h with
  | list hm hl hk => exact ⟨_, _, _, rfl, hm, reps_of hl hk⟩
theorem Reps.app {l : Led} {vs ws : List Value} {Xs Ys : List V} (h : Reps l vs Xs) (k : Reps l ws Ys) : Reps l (vs ++ ws) (Xs ++ Ys) := by
  induction h with
  | nil => exact k
  | cons h _ ih => exact .cons h ih
theorem Reps.get {l : Led} {vs : List Value} {Xs : List V} (h : Reps l vs Xs) : ∀ {i : Nat} {X : V}, Xs[i]? = some X → ∃ v, vs[i]? = some v ∧ Rep l v X := by
  induction h with
  | nil => intro i X e; simp at e
  | cons h _ ih =>
    intro i X e
    cases i with
    | zero => simp at e; subst e; exact ⟨_, by simp, h⟩
    | succ i => simp at e; simpa using ih e
theorem Reps.get' {l : Led} {vs : List Value} {Xs : List V} (h : Reps l vs Xs) : ∀ {i : Nat} {v : Value}, vs[i]? = some v → ∃ X, Xs[i]? = some X ∧ Rep l v X := by
  induction h with
  | nil => intro i X e; simp at e
  | cons h _ ih =>
    intro i X e
    cases i with
    | zero => simp at e; subst e; exact ⟨_, by simp, h⟩
    | succ i => simp at e; simpa using ih e
theorem Reps.drop {l : Led} {vs : List Value} {Xs : List V} (h : Reps l vs Xs) : ∀ n, Reps l (vs.drop n) (Xs.drop n) := by
  induction h with
  | nil => intro n; simp; exact .nil
  | cons h hr ih =>
    intro n
    cases n with
    | zero => exact .cons h hr
    | succ n => exact ih n
/-- the program, the world and what it means: fixed through all -/
structure GX where
  w : World
  p : Program
  loose : List Str
  mean : ExcName → Option Value
  mg : Str → Option Value
  mb : Str → Option Value
structure Cx where
  g : GX
  dp : Nat
  un : Nat
  gd : Option (List Code)
  cn : Str
  cs : Scope
  L : Addr
  a : Addr
  ccd : Value
  cl : List (Str × Addr)
  outer : List Env
  A₀ : Around
  base : Heap
  h₀ : Heap
noncomputable abbrev PR : Program := PySem.Challenge.rw_xm0172_01.row.prog
noncomputable abbrev Cx.A (c : Cx) : Around := ktrTop c.dp c.un c.gd c.cn c.cs c.L c.a c.ccd c.cl c.outer
noncomputable abbrev Cx.env (c : Cx) : Env := envX c.cn c.cs c.L c.a c.ccd c.cl
noncomputable abbrev Cx.K (c : Cx) : Frag := hd.heap_39 c.g.w.params
structure Cx.Ok (c : Cx) : Prop where
  B : Below c.A₀ c.base c.outer c.h₀
  X : c.K.In c.h₀
  T : Top c.g.p c.g.loose c.g.mean c.g.mg c.g.mb c.h₀
  hk : c.cs.kind = .function
  u : c.un + 50 < cLine
noncomputable abbrev MM := Str → Option Value
noncomputable abbrev MV := Str → Option V
noncomputable abbrev upd (m : MM) (x : Str) (v : Value) : MM := fun y => if y = x then some v else m y
noncomputable abbrev updV (M : MV) (x : Str) (X : V) : MV := fun y => if y = x then some X else M y
noncomputable abbrev II (σ : Type) := σ → Led → Led → Prop
/-- the state as the conditions see it -/
structure Cf {σ : Type} (I : II σ) (c : Cx) (s : σ) (M : MV) (imm : Led) (h : Heap) (m : MM) (g : Led) : Prop where
  F : Fr c.h₀ c.L h m
  N : News c.h₀ c.L h (g ++ imm)
  i : I s imm g
  d : ∀ p ∈ g, ∀ q ∈ imm, p.1 ≠ q.1
  r : ∀ x X, M x = some X → ∃ v, m x = some v ∧ Rep imm v X
structure Gr (l l' : Led) : Prop where
  t : ∀ a xs, (a, tupO xs) ∈ l → (a, tupO xs) ∈ l'
  l : ∀ a xs n, (a, listOf xs n) ∈ l → (a, listOf xs n) ∈ l'
theorem gr_of {l l' : Led} (h : Sub l l') : Gr l l' := ⟨fun _ _ => h _, fun _ _ _ => h _⟩
theorem Rep.gr {l l' : Led} {v : Value} {X : V} (h : Rep l v X) (k : Gr l l') : Rep l' v X := h.mono0 k.t k.l
theorem Reps.gr {l l' : Led} {vs : List Value} {Xs : List V} (h : Reps l vs Xs) (k : Gr l l') : Reps l' vs Xs := by
  induction h with
  | nil => exact .nil
  | cons h _ ih => exact .cons (h.gr k) ih
class IMono {σ : Type} (I : II σ) : Prop where
  mono : ∀ {s imm imm' g}, I s imm g → Gr imm imm' → I s imm' g
section
variable {σ : Type} {I : II σ} {c : Cx} {s : σ} {M : MV} {imm : Led} {h : Heap} {m : MM} {g : Led}
/-- a new immutable thing -/
theorem Cf.new [IMono I] (C : Cf I c s M imm h m g) {h' : Heap} {D : Addr} {o : Obj} (F : Fr c.h₀ c.L h' m) (N : News c.h₀ c.L h' ((D, o) :: (g ++ imm))) (l : ∀ p ∈ g ++ imm, p.1 < D) : Cf I c s M ((D, o) :: imm) h' m g where
  F := F
  N := News.subl N fun p hp => by
    rcases List.mem_append.mp hp with hp | hp
    · exact .tail _ (List.mem_append.mpr (.inl hp))
    · rcases List.mem_cons.mp hp with rfl | hp
      · exact .head _
      · exact .tail _ (List.mem_append.mpr (.inr hp))
  i := IMono.mono C.i (gr_of fun _ hp => .tail _ hp)
  d := fun p hp q hq => by
    rcases List.mem_cons.mp hq with rfl | hq
    · exact Nat.ne_of_lt (l p (List.mem_append.mpr (.inl hp)))
    · exact C.d p hp q hq
  r := fun x X e => let ⟨v, e1, e2⟩ := C.r x X e; ⟨v, e1, e2.mono fun _ hp => .tail _ hp⟩
theorem Cf.heap (C : Cf I c s M imm h m g) {h' : Heap} (F : Fr c.h₀ c.L h' m) (N : News c.h₀ c.L h' (g ++ imm)) : Cf I c s M imm h' m g := ⟨F, N, C.i, C.d, C.r⟩
theorem Cf.upd (C : Cf I c s M imm h m g) {h' : Heap} {x : Str} {v : Value} {X : V} (hv : Rep imm v X) (F : Fr c.h₀ c.L h' (upd m x v)) (N : News c.h₀ c.L h' (g ++ imm)) : Cf I c s (updV M x X) imm h' (Mine.upd m x v) g :=
  ⟨F, N, C.i, C.d, fun y Y e => by
    simp only [updV] at e
    simp only [Mine.upd]
    split at e
    · rename_i hy; rw [if_pos hy]; cases e; exact ⟨v, rfl, hv⟩
    · rename_i hy; rw [if_neg hy]; exact C.r y Y e⟩
theorem Cf.tup (C : Cf I c s M imm h m g) {a : Addr} {xs : List Value} (hm : (a, tupO xs) ∈ imm) : (a, tupO xs) ∈ g ++ imm := List.mem_append.mpr (.inr hm)
theorem Cf.tup' (C : Cf I c s M imm h m g) {a : Addr} {xs : List Value} {n : Nat} (hm : (a, listOf xs.toArray n) ∈ imm) : (a, listOf xs.toArray n) ∈ g ++ imm := List.mem_append.mpr (.inr hm)
end
noncomputable abbrev KV (σ : Type) := V → σ → Prop
inductive FV where
  | next | ret (X : V)
noncomputable abbrev KS (σ : Type) := FV → MV → σ → Prop
section
variable {σ : Type} (I : II σ) (c : Cx) (M : MV)
noncomputable def EOb (e : Expr) (s : σ) (K : KV σ) : Prop := ∀ (h : Heap) imm m g gs dr tk os (Q E : Value → Shared → Prop), Cf I c s M imm h m g → (∀ v X s' imm' m' g' h' tk', K X s' → Rep imm' v X → Sub imm imm' → Cf I c s' M imm' h' m' g' → Q v ⟨h', gs, dr, tk', os⟩) → wpAny (model PR c.g.w) c.A (eval e c.env) Q E ⟨h, gs, dr, tk, os⟩
noncomputable def TOb (e : Expr) (s : σ) (K : KV σ) : Prop := ∀ (h : Heap) imm m g gs dr tk os (Q : Bool → Shared → Prop) (E : Value → Shared → Prop), Cf I c s M imm h m g → (∀ b s' imm' m' g' h' tk', K (.bool b) s' → Sub imm imm' → Cf I c s' M imm' h' m' g' → Q b ⟨h', gs, dr, tk', os⟩) → wpAny (model PR c.g.w) c.A (PySem.isTrue e c.env (eval e c.env)) Q E ⟨h, gs, dr, tk, os⟩
noncomputable def COb (f : Value) (Xs : List V) (s : σ) (K : KV σ) : Prop := ∀ (h : Heap) imm m g gs dr tk os (Q E : Value → Shared → Prop) vs, Reps imm vs Xs → Cf I c s M imm h m g → (∀ v X s' imm' m' g' h' tk', K X s' → Rep imm' v X → Sub imm imm' → Cf I c s' M imm' h' m' g' → Q v ⟨h', gs, dr, tk', os⟩) → wpAny (model PR c.g.w) c.A (call f vs) Q E ⟨h, gs, dr, tk, os⟩
noncomputable def QOb (op : CmpOp) (X Y : V) (s : σ) (K : KV σ) : Prop := ∀ (h : Heap) imm m g gs dr tk os (Q E : Value → Shared → Prop) v u, Rep imm v X → Rep imm u Y → Cf I c s M imm h m g → (∀ b s' imm' m' g' h' tk', K (.bool b) s' → Sub imm imm' → Cf I c s' M imm' h' m' g' → Q (.bool b) ⟨h', gs, dr, tk', os⟩) → wpAny (model PR c.g.w) c.A (compareOp op v u) Q E ⟨h, gs, dr, tk, os⟩
/-- how a value of a statement's end stands for a pure one -/
inductive RF (imm : Led) : Flow → FV → Prop
  | next : RF imm .next .next
  | ret {v : Value} {X : V} : Rep imm v X → RF imm (.ret v) (.ret X)
noncomputable def SOb (st : Stmt) (s : σ) (K : KS σ) : Prop := ∀ (h : Heap) imm m g gs dr tk os (Q : Flow → Shared → Prop) (E : Value → Shared → Prop), PassesOwn (model PR c.g.w) c.A c.env E → Cf I c s M imm h m g → (∀ f f' M' s' imm' m' g' h' tk', K f' M' s' → RF imm' f f' → Sub imm imm' → Cf I c s' M' imm' h' m' g' → Q f ⟨h', gs, dr, tk', os⟩) → wpAny (model PR c.g.w) c.A (exec st c.env) Q E ⟨h, gs, dr, tk, os⟩
noncomputable def BOb (b : List Stmt) (s : σ) (K : KS σ) : Prop := ∀ (h : Heap) imm m g gs dr tk os (Q : Flow → Shared → Prop) (E : Value → Shared → Prop), PassesOwn (model PR c.g.w) c.A c.env E → Cf I c s M imm h m g → (∀ f f' M' s' imm' m' g' h' tk', K f' M' s' → RF imm' f f' → Sub imm imm' → Cf I c s' M' imm' h' m' g' → Q f ⟨h', gs, dr, tk', os⟩) → wpAny (model PR c.g.w) c.A (execs b c.env) Q E ⟨h, gs, dr, tk, os⟩
end
structure EW {σ : Type} (I : II σ) (c : Cx) (M : MV) (e : Expr) (s : σ) (K : KV σ) : Prop where
  run : EOb I c M e s K
structure TW {σ : Type} (I : II σ) (c : Cx) (M : MV) (e : Expr) (s : σ) (K : KV σ) : Prop where
  run : TOb I c M e s K
structure QW {σ : Type} (I : II σ) (c : Cx) (M : MV) (op : CmpOp) (X Y : V) (s : σ) (K : KV σ) : Prop where
  run : QOb I c M op X Y s K
structure CW {σ : Type} (I : II σ) (c : Cx) (M : MV) (f : Value) (Xs : List V) (s : σ) (K : KV σ) : Prop where
  run : COb I c M f Xs s K
structure SW {σ : Type} (I : II σ) (c : Cx) (M : MV) (st : Stmt) (s : σ) (K : KS σ) : Prop where
  run : SOb I c M st s K
inductive AddOb (K : V → Prop) : V → V → Prop
  | ii {a b : Int} : K (.int (a + b)) → AddOb K (.int a) (.int b)
  | ll {xs ys : List V} : xs.length + ys.length ≤ 16777216 → K (.list (xs ++ ys)) → AddOb K (.list xs) (.list ys)
  | tt {x y : V} {xs ys : List V} : (x :: xs).length + (y :: ys).length ≤ 16777216 → K (.tup (x :: xs ++ y :: ys)) → AddOb K (.tup (x :: xs)) (.tup (y :: ys))
inductive BK (P Q : Prop) : V → Prop
  | t : P → BK P Q (.bool true)
  | f : Q → BK P Q (.bool false)
  | s {b : Bool} : (b = true → P) → (b = false → Q) → BK P Q (.bool b)
noncomputable def eqV : V → V → Option Bool
  | .str x, .str y => some (x == y)
  | .int x, .int y => some (x == y)
  | _, _ => Option.none
noncomputable def neV : V → V → Option Bool
  | .str x, .str y => some (x != y)
  | .tup (_ :: _), .tup [] => some true
  | .tup [], .tup [] => some false
  | _, _ => Option.none
noncomputable def ltV : V → V → Option Bool
  | .int x, .int y => some (decide (x < y))
  | _, _ => Option.none
noncomputable def isNV : V → V → Option Bool
  | .none, .none => some true
  | .tup _, .none => some false
  | .list _, .none => some false
  | .str _, .none => some false
  | _, _ => Option.none
/-- a list of texts -/
noncomputable def strsOf : List V → Option (List Str)
  | [] => some []
  | .str x :: r => (strsOf r).map (x :: ·)
  | _ :: _ => Option.none
noncomputable def inV : V → V → Option Bool
  | .str x, .tup Xs => (strsOf Xs).map fun ys => ys.any (· == x)
  | .str x, .list Xs => (strsOf Xs).map fun ys => ys.any (· == x)
  | _, _ => Option.none
theorem strsOf_are {imm : Led} : ∀ {Xs : List V} {ys : List Str} {vs : List Value}, strsOf Xs = some ys → Reps imm vs Xs → StrsAre vs ys
  | [], _, _, e, h => by cases h; cases e; exact .nil
  | .str x :: r, _, _, e, h => by
    have e : (strsOf r).map (x :: ·) = some _ := e
    cases hr : strsOf r with
    | none => rw [hr] at e; cases e
    | some zs =>
      rw [hr] at e; cases e
      cases h with
      | cons h h2 =>
        obtain ⟨t, rfl⟩ := h.str_inv
        exact .cons _ _ (strsOf_are hr h2)
  | .int _ :: _, _, _, e, _ => by cases e
  | .none :: _, _, _, e, _ => by cases e
  | .bool _ :: _, _, _, e, _ => by cases e
  | .tup _ :: _, _, _, e, _ => by cases e
  | .list _ :: _, _, _, e, _ => by cases e
  | .raw _ :: _, _, _, e, _ => by cases e
theorem in_tuple_strs {prog : Program} {w : World} {A : Around} {E : Value → Shared → Prop} {s : Shared} {l : Addr} {vs : List Value} {ys : List Str} {k : Str} {t : Tok} {Q : Value → Shared → Prop} (hl : s.heap.IsTuple l vs.toArray) (hi : StrsAre vs ys)
    (h : Q (.bool (ys.any (· == k))) s) : wpAny (model prog w) A (compareOp .In (.str k t) (.ref l)) Q E s :=
  PySem.SeqAt.in_tupleAt (isStrOf k) hl (fun y hy => (eq_isStrOf k t hi y (by simpa using hy)).at _ _) (by rw [← Array.any_toList, show vs.toArray.toList = vs from rfl, any_isStrOf k hi]; exact h)
theorem ne_empty {prog : Program} {w : World} {A : Around} {E : Value → Shared → Prop} {s : Shared} {h₀ : Heap} {L l b : Addr} {news : Led} {x : Value} {xs : List Value} {Q : Value → Shared → Prop} (N : News h₀ L s.heap news) (hl : (l, tupO (x :: xs)) ∈ news) (hb : (b, tupO []) ∈ news) (hu : A.units < cLine) (h : Q (.bool true) s) : wpAny (model prog w) A (compareOp .NotEq (.ref l) (.ref b)) Q E s :=
  PySem.SeqAt.RcNeAt.tuples (items := (x :: xs).toArray) (items2 := ([] : List Value).toArray) (e := fun _ => true) ⟨_, (N _ hl).1, rfl, _, rfl⟩ ⟨_, (N _ hb).1, rfl, _, rfl⟩ hu (fun j h1 h2 => absurd h2 (by simp)) prog w E Q (by simpa using h)
theorem eq_empty {prog : Program} {w : World} {A : Around} {E : Value → Shared → Prop} {s : Shared} {h₀ : Heap} {L l b : Addr} {news : Led} {Q : Value → Shared → Prop} (N : News h₀ L s.heap news) (hl : (l, tupO []) ∈ news) (hb : (b, tupO []) ∈ news) (hu : A.units < cLine) (h : Q (.bool false) s) : wpAny (model prog w) A (compareOp .NotEq (.ref l) (.ref b)) Q E s :=
  PySem.SeqAt.RcNeAt.tuples (items := ([] : List Value).toArray) (items2 := ([] : List Value).toArray) (e := fun _ => true) ⟨_, (N _ hl).1, rfl, _, rfl⟩ ⟨_, (N _ hb).1, rfl, _, rfl⟩ hu (fun j h1 h2 => absurd h2 (by simp)) prog w E Q (by simpa using h)
theorem get24 {prog : Program} {w : World} {A : Around} {E : Value → Shared → Prop} {s : Shared} {t sl : Addr} {x0 x1 x2 x3 : Value} {u v : Tok} {Q : Value → Shared → Prop} (ht : IsTup s.heap t #[x0, x1, x2, x3]) (hs : s.heap.IsSliceOf sl (.int 2 u) (.int 4 v) .none)
    (h : Q (.ref s.heap.objs.size) { s with heap := s.heap.push { cls := .type "tuple", data := .seq #[x2, x3] } }) : wpAny (model prog w) A (getItem (.ref t) (.ref sl)) Q E s := by
  obtain ⟨os, hos, hcs, hds⟩ := id hs
  have hTs : s.TypeIs (.ref sl) "slice" := ⟨os, hos, hcs⟩
  unfold getItem
  try with_reducible refine wpAny_holding ?_
  first | refine wpAny_bind (wpAny_pure ?_) | skip
  refine wpAny_bind (wpAny_sequenceKey ht.typeIs (by decide) ?_)
  refine wpAny_bind (wpAny_callSpecial?_slot (name := Str.ofString "__getitem__") ht.typeIs slot_tuple_getitem
    (wpAny_call_entry slot_tuple_getitem ht.typeIs entry_tuple_getitem ?_ (args_tuple_getitem _ _)))
  show wpAny _ _ (Builtin.Tuple.tupleItemsOf (.ref t) >>= _) _ _ s
  refine wpAny_bind (tupleItemsOf_ ht ?_)
  refine wpAny_bind (wpAny_typeOf hTs ?_)
  rw [if_pos (by decide)]
  have ap : ∀ {R : Int × Int × Nat → Shared → Prop} {E : Value → Shared → Prop}, R (2, 1, 2) s → wpAny (model prog w) A.in1 (Builtin.Slice.sliceApplied (.ref sl) (pure (((#[x0, x1, x2, x3] : Array Value).size : Nat) : Int))) R E s := by
    intro R E hR
    unfold Builtin.Slice.sliceApplied Builtin.Slice.sliceFields
    refine wpAny_bind (wpAny_bind (wpAny_field hos hds (x := .int 2 u) rfl (wpAny_bind (wpAny_field hos hds (x := .int 4 v) rfl (wpAny_bind (wpAny_field hos hds (x := .none) rfl (wpAny_pure ?_)))))))
    refine wpAny_bind (slicePart_none ?_)
    show wpAny _ _ (if ((1 : Int) == 0) = true then _ else _) _ _ s
    rw [if_neg (by decide)]
    refine wpAny_bind (slicePart_int (wpAny_bind (slicePart_int (wpAny_bind (wpAny_pure ?_)))))
    exact wpAny_pure hR
  refine wpAny_bind (ap ?_)
  first
    | exact wpAny_bind (m := Builtin.Tuple.tupleExact _) (wpAny_newObj_type (wpAny_pure ⟨_, rfl, wpAny_pure h⟩) (Nat.le_of_ble_eq_true rfl))
    | exact wpAny_bind (m := Builtin.Tuple.tupleExact _) (wpAny_newObj_type (wpAny_bind (wpAny_pure (wpAny_pure ⟨_, rfl, wpAny_pure h⟩))) (Nat.le_of_ble_eq_true rfl))
    | exact wpAny_bind (wpAny_bind (m := Builtin.Tuple.tupleExact _) (wpAny_newObj_type (wpAny_pure (wpAny_pure ⟨_, rfl, wpAny_pure h⟩)) (Nat.le_of_ble_eq_true rfl)))
    | exact wpAny_bind (wpAny_bind (m := Builtin.Tuple.tupleExact _) (wpAny_newObj_type (wpAny_pure ⟨_, rfl, wpAny_pure h⟩) (Nat.le_of_ble_eq_true rfl)))
theorem cut24 {prog : Program} {w : World} {A : Around} {E : Value → Shared → Prop} {s : Shared} {h₀ : Heap} {L : Addr} {m : Str → Option Value} {news : Led} {value slice : Expr} {t : Addr} {x0 x1 x2 x3 : Value} {u v : Tok} {Q : Value → Shared → Prop}
    (F : Fr h₀ L s.heap m) (N : News h₀ L s.heap news) (ht : (t, tupO [x0, x1, x2, x3]) ∈ news)
    (h : ∀ D h', Fr h₀ L h' m → News h₀ L h' ((D, tupO [x2, x3]) :: news) → (∀ p ∈ news, p.1 < D) → Q (.ref D) { s with heap := h' })
    (hs : subscripted slice false (.ref t) (.ref s.heap.objs.size) = operate [.ref s.heap.objs.size, .ref t] (getItem (.ref t) (.ref s.heap.objs.size)))
    (hg : ∀ r, letTemporaryGo value (.ref t) r = pure ()) :
    wpAny (model prog w) A (subscriptTail value slice (.ref t) (.ref s.heap.objs.size)) Q E { s with heap := s.heap.push { cls := .type "slice", data := .fields #[.int 2 u, .int 4 v, .none] } } := by
  have ht' : IsTup (s.heap.push { cls := .type "slice", data := .fields #[.int 2 u, .int 4 v, .none] }) t #[x0, x1, x2, x3] := (News.isTup N ht).keeps fun _ _ e => Heap.get?_push_of_some _ e
  refine subscriptTail_ops (s := { s with heap := s.heap.push { cls := .type "slice", data := .fields #[.int 2 u, .int 4 v, .none] } }) ht'.typeIs slot_tuple_getitem.lookup
    (get24 ht' (Heap.IsSliceOf.new ..) ?_) hs hg
  have N1 := News.push (F.push { cls := .type "slice", data := .fields #[.int 2 u, .int 4 v, .none] }) (N.grown fun _ _ e => Heap.get?_push_of_some _ e) { cls := .type "tuple", data := .seq #[x2, x3] }
  rw [Heap.size_push] at N1
  show Q (.ref (s.heap.push _).objs.size) _
  rw [Heap.size_push]
  exact h _ _ ((F.push _).push _) N1 (fun p hp => Nat.lt_succ_of_lt (Heap.lt_size (N p hp).1))
theorem tup_from {prog : Program} {w : World} {A : Around} {E : Value → Shared → Prop} {s : Shared} {h₀ : Heap} {L : Addr} {m : Str → Option Value} {news : Led} {value slice : Expr} {t : Addr} {xs zs : List Value} {a : Nat} {u : Tok} {Q : Value → Shared → Prop}
    (F : Fr h₀ L s.heap m) (N : News h₀ L s.heap news) (ht : (t, tupO xs) ∈ news) (h1 : 1 ≤ a) (ha : a ≤ xs.length) (hz : xs.length ≤ sizeLine) (e : xs.drop a = zs)
    (h : ∀ D h', Fr h₀ L h' m → News h₀ L h' ((D, tupO zs) :: news) → (∀ p ∈ news, p.1 < D) → Q (.ref D) { s with heap := h' })
    (hs : subscripted slice false (.ref t) (.ref s.heap.objs.size) = operate [.ref s.heap.objs.size, .ref t] (getItem (.ref t) (.ref s.heap.objs.size)))
    (hg : ∀ r, letTemporaryGo value (.ref t) r = pure ()) :
    wpAny (model prog w) A (subscriptTail value slice (.ref t) (.ref s.heap.objs.size)) Q E { s with heap := s.heap.push { cls := .type "slice", data := .fields #[.int a u, .none, .none] } } :=
  slice_tuple_from F N (News.isTup N ht) h1 (by simpa using ha) (fun h' F' N' => h _ h' F' (by subst e; simpa using N') fun p hp => Nat.lt_succ_of_lt (Heap.lt_size (N p hp).1)) hs hg (by simpa using hz)
noncomputable def cmpV (op : CmpOp) (X Y : V) : Option Bool := match op with
  | .Eq => eqV X Y
  | .NotEq => neV X Y
  | .Gt => ltV Y X
  | .Lt => ltV X Y
  | .Is => isNV X Y
  | .IsNot => (isNV X Y).map fun b => !b
  | .In => inV X Y
  | _ => Option.none
noncomputable def itV : V → Nat → Option V
  | .tup Xs, i => Xs[i]?
  | _, _ => Option.none
/-- a method of a thing is found -/
noncomputable def GetM {σ : Type} (I : II σ) (c : Cx) (r : Value) (mt : Str) (f : Value) (first : List Value) : Prop := ∀ (s : σ) (M : MV) (h : Heap) imm m g gs dr tk os pl (Q : Value × List Value → Shared → Prop) (E : Value → Shared → Prop), Cf I c s M imm h m g → (∀ tk', Q (f, first) ⟨h, gs, dr, tk', os⟩) → wpAny (model PR c.g.w) c.A (getMethod r mt pl) Q E ⟨h, gs, dr, tk, os⟩
inductive GOb {σ : Type} (I : II σ) (c : Cx) (r : Value) (mt : Str) (K : Value → List V → Prop) : Prop
  | fn {f : Value} : GetM I c r mt f [r] → keepIn c.K f = true → K f [.raw r] → GOb I c r mt K
  | own {f : Value} : GetM I c r mt f [] → keepIn c.K f = true → K f [] → GOb I c r mt K
noncomputable def lastV : V → Option V
  | .tup Xs => Xs.getLast?
  | _ => Option.none
/-- a part of a tuple -/
noncomputable def cutV (K : V → Prop) (a : Nat) : Option Nat → V → Prop
  | Option.none, .tup Xs => (Nat.ble 1 a && Nat.ble a Xs.length && Nat.ble Xs.length 1000) = true ∧ K (.tup (Xs.drop a))
  | some 4, .tup [_, _, X, Y] => a = 2 ∧ K (.tup [X, Y])
  | _, _ => False
inductive SubK where
  | lit (j : Nat) | last | cut (a : Nat) (hi : Option Nat) | dyn | other
noncomputable def isName : Expr → Bool
  | .Name .. => true
  | _ => false
noncomputable def natE : Option Expr → Option (Option Nat)
  | Option.none => some Option.none
  | some (.Constant (.int (.ofNat a)) _ _) => some (some a)
  | _ => Option.none
noncomputable def subC : Const → SubK
  | .int (.ofNat j) => if Nat.ble j 100 then .lit j else .other
  | _ => .other
noncomputable def subU : UnaryOp → Expr → SubK
  | .USub, .Constant (.int i) _ _ => if i == 1 then .last else .other
  | _, _ => .other
noncomputable def subS (e : Expr) (lo hi st : Option Expr) : SubK := match lo with
  | some (.Constant (.int (.ofNat a)) _ _) => (match st with
    | Option.none => if isName e then (match natE hi with | some h => .cut a h | Option.none => .other) else .other
    | some _ => .other)
  | _ => .other
noncomputable def subKind (e : Expr) : Expr → SubK
  | .Constant c _ _ => subC c
  | .UnaryOp op x _ => subU op x
  | .Slice lo hi st _ => subS e lo hi st
  | .Call .. => .dyn
  | _ => .other
inductive SubI : Expr → Expr → SubK → Prop
  | lit {e : Expr} {j k : Nat} {p : Pos} : j ≤ 100 → SubI e (.Constant (.int (.ofNat j)) k p) (.lit j)
  | last {e : Expr} {k : Nat} {p p2 : Pos} : SubI e (.UnaryOp .USub (.Constant (.int 1) k p) p2) .last
  | cut {x : Str} {xp p p2 : Pos} {a k : Nat} {hi : Option Expr} {h : Option Nat} : natE hi = some h → SubI (.Name x xp) (.Slice (some (.Constant (.int (.ofNat a)) k p)) hi Option.none p2) (.cut a h)
  | dyn {e f : Expr} {es : List Expr} {ks : List Keyword} {p : Pos} : SubI e (.Call f es ks p) .dyn
  | other {e i : Expr} : SubI e i .other
theorem subKind_inv {e i : Expr} {r : SubK} (hr : subKind e i = r) : SubI e i r := by
  subst hr
  cases i with
  | Constant c k p =>
    cases c with
    | int j =>
      cases j with
      | ofNat j =>
        show SubI e _ (if Nat.ble j 100 then SubK.lit j else .other)
        cases h : Nat.ble j 100 with
        | true => exact .lit (Nat.le_of_ble_eq_true h)
        | false => exact .other
      | negSucc j => exact .other
    | _ => exact .other
  | UnaryOp op x p =>
    cases op with
    | USub =>
      cases x with
      | Constant c k p2 =>
        cases c with
        | int i =>
          show SubI e _ (if i == 1 then SubK.last else .other)
          cases h : i == 1 with
          | true => rw [eq_of_beq h]; exact .last
          | false => exact .other
        | _ => exact .other
      | _ => exact .other
    | _ => exact .other
  | Slice lo hi st p =>
    cases lo with
    | none => exact .other
    | some lo =>
      cases lo with
      | Constant c k p2 =>
        cases c with
        | int a =>
          cases a with
          | ofNat a =>
            cases st with
            | some _ => exact .other
            | none =>
              cases e with
              | Name x xp =>
                show SubI _ _ (match natE hi with | some h => SubK.cut a h | Option.none => .other)
                cases h2 : natE hi with
                | some h => exact .cut h2
                | none => exact .other
              | _ => exact .other
          | negSucc a => exact .other
        | _ => exact .other
      | _ => exact .other
  | Call f es ks p => exact .dyn
  | _ => exact .other
/-- a built-in method of an attribute's value -/
noncomputable def GetP {σ : Type} (I : II σ) (c : Cx) (r : Value) (at' mt : Str) (b : String) (a : Addr) : Prop := ∀ (s : σ) (M : MV) (h : Heap) imm m g gs dr tk os pl (Q : Value × List Value → Shared → Prop) (E : Value → Shared → Prop), Cf I c s M imm h m g → (∀ tk', Q (.builtin b, [.ref a]) ⟨h, gs, dr, tk', os⟩) → wpAny (model PR c.g.w) c.A (getAttr r at' true) (fun v s' => wpAny (model PR c.g.w) c.A (getMethod v mt pl) Q E s') E ⟨h, gs, dr, tk, os⟩
inductive P2Ob {σ : Type} (I : II σ) (c : Cx) (r : Value) (at' mt : Str) (K : String → Addr → Prop) : Prop
  | mk {b : String} {a : Addr} : GetP I c r at' mt b a → K b a → P2Ob I c r at' mt K
noncomputable def vEs {σ : Type} (ev : Expr → σ → KV σ → Prop) : List Expr → σ → (List V → σ → Prop) → Prop
  | [], s, K => K [] s
  | e :: es, s, K => ev e s fun X s1 => vEs ev es s1 fun Xs s2 => K (X :: Xs) s2
noncomputable def isStar : Expr → Bool
  | .Starred _ _ => true
  | _ => false
noncomputable def plain (es : List Expr) : Bool := es.all (fun e => !isStar e) && Nat.ble es.length 100
/-- an item at a place that is reckoned -/
inductive IxOb (K : V → Prop) : V → V → Prop
  | mk {xs : List V} {i : Int} : 0 ≤ i → i < xs.length → xs.length ≤ 1000 → (∀ X ∈ xs, K X) → IxOb K (.list xs) (.int i)
noncomputable def vE {σ : Type} (I : II σ) (sc : Scope) (gl : List (Str × Value)) (c : Cx) (M : MV) : Nat → Bool → Expr → σ → KV σ → Prop
  | 0, _, _, _, _ => False
  | _ + 1, false, .Name x p, s, K => (match sc.names.lookup x with
    | some .local => (match M x with | some X => K X s | Option.none => False)
    | some .globalImplicit => (match gl.lookup x with | some v => K (.raw v) s | Option.none => False)
    | _ => EW I c M (.Name x p) s K)
  | _ + 1, false, .Constant (.str x) _ _, s, K => K (.str x) s
  | _ + 1, false, .Constant (.int x) _ _, s, K => K (.int x) s
  | _ + 1, false, .Constant .none _ _, s, K => K .none s
  | _ + 1, false, .Constant (.bool b) _ _, s, K => K (.bool b) s
  | n + 1, false, .Tuple es k p, s, K => if plain es then vEs (vE I sc gl c M n false) es s fun Xs s' => K (.tup Xs) s' else EW I c M (.Tuple es k p) s K
  | n + 1, false, .List es p, s, K => if plain es then vEs (vE I sc gl c M n false) es s fun Xs s' => K (.list Xs) s' else EW I c M (.List es p) s K
  | n + 1, false, .Subscript e i q, s, K => (match subKind e i with
      | .lit j => vE I sc gl c M n false e s fun X s' => (match itV X j with | some Y => K Y s' | Option.none => False)
      | .last => vE I sc gl c M n false e s fun X s' => (match lastV X with | some Y => K Y s' | Option.none => False)
      | .cut a hi => vE I sc gl c M n false e s fun X s' => cutV (fun Y => K Y s') a hi X
      | .dyn => vE I sc gl c M n false e s fun X s1 => vE I sc gl c M n false i s1 fun Y s2 => IxOb (fun Z => K Z s2) X Y
      | .other => EW I c M (.Subscript e i q) s K)
  | n + 1, false, .BinOp a .Add b _, s, K => vE I sc gl c M n false a s fun X s1 => vE I sc gl c M n false b s1 fun Y s2 => AddOb (fun Z => K Z s2) X Y
  | n + 1, false, .BinOp a .Sub b _, s, K => vE I sc gl c M n false a s fun X s1 => vE I sc gl c M n false b s1 fun Y s2 => (match X, Y with
    | .int x, .int y => K (.int (x - y)) s2
    | _, _ => False)
  | n + 1, false, .Call (.Name f fp) (e :: es) [] p, s, K => if plain (e :: es) && sc.names.lookup f == some .globalImplicit then (match gl.lookup f with
      | some fv => vEs (vE I sc gl c M n false) (e :: es) s fun Xs s' => CW I c M fv Xs s' K
      | Option.none => EW I c M (.Call (.Name f fp) (e :: es) [] p) s K) else EW I c M (.Call (.Name f fp) (e :: es) [] p) s K
  | n + 1, false, .Call (.Attribute (.Name x xp) mt ap) (e :: es) [] p, s, K => if plain (e :: es) && Nat.ble es.length 20 && ap.endLine == p.line then vE I sc gl c M n false (.Name x xp) s fun X s1 => (match X with
      | .raw r => GOb I c r mt fun f first => vEs (vE I sc gl c M n false) (e :: es) s1 fun Xs s' => CW I c M f (first ++ Xs) s' K
      | _ => False) else EW I c M (.Call (.Attribute (.Name x xp) mt ap) (e :: es) [] p) s K
  | n + 1, false, .Call (.Attribute (.Attribute (.Name x xp) at' ap0) mt ap) es [] p, s, K => if plain es && Nat.ble es.length 20 && ap.endLine == p.line then vE I sc gl c M n false (.Name x xp) s fun X s1 => (match X with
      | .raw r => P2Ob I c r at' mt fun b a => vEs (vE I sc gl c M n false) es s1 fun Xs s' => CW I c M (.builtin b) (.raw (.ref a) :: Xs) s' K
      | _ => False) else EW I c M (.Call (.Attribute (.Attribute (.Name x xp) at' ap0) mt ap) es [] p) s K
  | n + 1, false, .IfExp t a b _, s, K => vE I sc gl c M n true t s fun X s' => BK (vE I sc gl c M n false a s' K) (vE I sc gl c M n false b s' K) X
  | n + 1, false, .Compare a [op] [b] p, s, K => if behindInMarks op b then EW I c M (.Compare a [op] [b] p) s K else vE I sc gl c M n false a s fun X s1 => vE I sc gl c M n false b s1 fun Y s2 => (match cmpV op X Y with
    | some r => K (.bool r) s2
    | Option.none => QW I c M op X Y s2 K)
  | _ + 1, false, e, s, K => EW I c M e s K
  | n + 1, true, .Compare a [op] [b] p, s, K => if behindInMarks op b then TW I c M (.Compare a [op] [b] p) s K else vE I sc gl c M n false a s fun X s1 => vE I sc gl c M n false b s1 fun Y s2 => (match cmpV op X Y with
    | some r => K (.bool r) s2
    | Option.none => QW I c M op X Y s2 K)
  | _ + 1, true, .BoolOp .And [] _, s, K => K (.bool true) s
  | n + 1, true, .BoolOp .And (e :: es) p, s, K => vE I sc gl c M n true e s fun X s' => BK (vE I sc gl c M n true (.BoolOp .And es p) s' K) (K (.bool false) s') X
  | _ + 1, true, .BoolOp .Or [] _, s, K => K (.bool false) s
  | n + 1, true, .BoolOp .Or (e :: es) p, s, K => vE I sc gl c M n true e s fun X s' => BK (K (.bool true) s') (vE I sc gl c M n true (.BoolOp .Or es p) s' K) X
  | n + 1, true, .UnaryOp .Not e _, s, K => vE I sc gl c M n true e s fun X s' => (match X with | .bool b => K (.bool (!b)) s' | _ => False)
  | n + 1, true, .Name x p, s, K => vE I sc gl c M n false (.Name x p) s fun X s' => (match X with | .bool b => K (.bool b) s' | _ => False)
  | n + 1, true, .Call f es ks p, s, K => vE I sc gl c M n false (.Call f es ks p) s fun X s' => (match X with | .bool b => K (.bool b) s' | _ => False)
  | n + 1, true, .Subscript e i p, s, K => vE I sc gl c M n false (.Subscript e i p) s fun X s' => (match X with | .bool b => K (.bool b) s' | _ => False)
  | _ + 1, true, e, s, K => TW I c M e s K
theorem starEach_c {e : Expr} {rest : List Expr} {env : Env} (h : isStar e = false) : starEach (e :: rest) env = (false, eval e env) :: starEach rest env := by
  cases e <;> first | rfl | (exact Bool.noConfusion (show true = false from h))
theorem starEach_any {env : Env} {pos : Pos} : ∀ {es : List Expr}, (es.all fun e => !isStar e) = true → ((backTo pos (starEach es env)).any fun x => x.1) = false
  | [], _ => rfl
  | e :: es, h => by
    simp only [List.all_cons, Bool.and_eq_true, Bool.not_eq_true'] at h
    rw [starEach_c h.1]
    have := starEach_any (env := env) (pos := pos) h.2
    simpa [backTo] using this
theorem lookup_mem {x : Str} {v : Value} : ∀ {l : List (Str × Value)}, l.lookup x = some v → (x, v) ∈ l
  | [], h => nomatch h
  | (y, u) :: r, h => by
    rw [List.lookup_cons] at h
    split at h
    · rename_i e
      have e := eq_of_beq e
      cases h
      subst e
      exact .head _
    · exact .tail _ (lookup_mem h)
/-- the names that a def reads: globals of the text, and the built-in ones -/
inductive GlOne (c : Cx) : Str × Value → Prop
  | glob {x : Str} {v : Value} : nsIn c.K mainGlobals x = some (some v) → keepIn c.K v = true → GlOne c (x, v)
  | bui {x : Str} {id : String} : nsIn c.K mainGlobals x = some none → bootBuiltins x = some (.builtin id) → x ≠ Str.ofString "__name__" → GlOne c (x, .builtin id)
  | typ {x : Str} {id : String} : nsIn c.K mainGlobals x = some none → bootBuiltins x = some (.type id) → x ≠ Str.ofString "__name__" → GlOne c (x, .type id)
noncomputable def GlOk (c : Cx) (gl : List (Str × Value)) : Prop := ∀ q ∈ gl, GlOne c q ∧ (q.1 == Str.ofString "__debug__") = false
theorem callWith_b {M : Model} {A : Around} {E : Value → Shared → Prop} {s : Shared} {env : Env} {pos : Pos} {T : String} {e : Expr} {rest : List Expr} {Q : Value → Shared → Prop}
    (h : wpAny M A (spliced (backTo pos (starEach (e :: rest) env))) (fun vs s₁ => wpAny M A (call (.builtin T) vs) Q E s₁) E s)
    (he : starEach (e :: rest) env = (false, eval e env) :: starEach rest env) (hplain : (backTo pos (starEach rest env)).any (·.1) = false) :
    wpAny M A (callWith pos (.builtin T) [] (backTo pos (starEach (e :: rest) env)) []) Q E s := by
  rw [he] at h ⊢
  exact Calls.callWith_builtin (by show (false || (backTo pos (starEach rest env)).any (·.1)) = false; rw [hplain]; rfl) (Calls.evalArgs_plain h)
theorem itemAt {prog : Program} {w : World} {A : Around} {E : Value → Shared → Prop} {s : Shared} {value slice : PySem.Expr} {h₀ : Heap} {L l : Addr} {news : Led} {vs : List Value} {n : Nat} {k : Int} {u : Tok} {Q : Value → Shared → Prop}
    (N : News h₀ L s.heap news) (hm : (l, listOf vs.toArray n) ∈ news) (h0 : 0 ≤ k) (h1 : k < vs.length) (hfit : k < 2 ^ 63) (h : ∀ (i : Nat) v, vs[i]? = some v → Q v s)
    (hs : subscripted slice false (.ref l) (.int k u) = operate [.ref l, .int k u] (getItem (.ref l) (.int k u))) :
    wpAny (model prog w) A (subscriptTail value slice (.ref l) (.int k u)) Q E s := by
  have hl := PySem.IsL.isList (n := n) (N _ hm).1
  have hlt : k.toNat < vs.length := by omega
  have hx : vs[k.toNat]? = some vs[k.toNat] := by simp [hlt]
  exact tail_any hl.typeIs slot_list_getitem.lookup (wpAny_getItem_list hl h0 hfit (by simp [hx]) (h _ _ hx)) hs
section
variable {σ : Type} {I : II σ} {c : Cx} {M : MV} {sc : Scope} {gl : List (Str × Value)} {n : Nat}
theorem sub_rfl {l : Led} : Sub l l := fun _ h => h
theorem Sub.trans {a b d : Led} (h : Sub a b) (k : Sub b d) : Sub a d := fun p hp => k p (h p hp)
noncomputable def EsOb (I : II σ) (c : Cx) (M : MV) (es : List Expr) (s : σ) (K : List V → σ → Prop) : Prop := ∀ (h : Heap) imm m g gs dr tk os pos (Q : List Value → Shared → Prop) (E : Value → Shared → Prop), Cf I c s M imm h m g → (∀ vs Xs s' imm' m' g' h' tk', vs.length = es.length → K Xs s' → Reps imm' vs Xs → Sub imm imm' → Cf I c s' M imm' h' m' g' → Q vs ⟨h', gs, dr, tk', os⟩) → wpAny (model PR c.g.w) c.A (spliced (backTo pos (starEach es c.env))) Q E ⟨h, gs, dr, tk, os⟩
theorem vEs_ok (ih : ∀ e s K, vE I sc gl c M n false e s K → EOb I c M e s K) : ∀ es s K, (es.all fun e => !isStar e) = true → vEs (vE I sc gl c M n false) es s K → EsOb I c M es s K
  | [], s, K, _, hv => fun h imm m g gs dr tk os pos Q E C k => args_nil (k [] [] s imm m g h tk rfl hv .nil sub_rfl C)
  | e :: es, s, K, hs, hv => fun h imm m g gs dr tk os pos Q E C k => by
    simp only [List.all_cons, Bool.and_eq_true, Bool.not_eq_true'] at hs
    exact args_cons (ih e s _ hv h imm m g gs dr tk os _ E C fun v X s' imm' m' g' h' tk' hK hr hs' C' => vEs_ok ih es s' _ hs.2 hK h' imm' m' g' gs dr tk' os pos _ E C' fun vs Xs s'' imm'' m'' g'' h'' tk'' hl hK2 hr2 hs2 C'' => k (v :: vs) (X :: Xs) s'' imm'' m'' g'' h'' tk'' (by simp [hl]) hK2 (.cons (hr.mono hs2) hr2) (hs'.trans hs2) C'') (starEach_c hs.1)
theorem size_of {vs : List Value} {es : List Expr} (h : Nat.ble es.length 100 = true) (e : vs.length = es.length) : vs.length ≤ sizeLine := by
  have := Nat.le_of_ble_eq_true h
  rw [sizeLine_eq]; omega
theorem isTrue_whole {op : BoolOp} {es : List Expr} {p : Pos} {env : Env} (w1 w2 : Sem Value) : PySem.isTrue (.BoolOp op es p) env w1 = PySem.isTrue (.BoolOp op es p) env w2 := by
  cases op <;> cases es <;> rfl
theorem name_ok (ok : c.Ok) (hsc : c.cs = sc) (hgl : GlOk c gl) (hdb : sc.names.lookup (Str.ofString "__debug__") = Option.none) {x : Str} {p : Pos} {s : σ} {K : KV σ} (hv : vE I sc gl c M (n + 1) false (.Name x p) s K) : EOb I c M (.Name x p) s K := by
  subst hsc
  have hd : ∀ k, c.cs.names.lookup x = some k → (x == Str.ofString "__debug__") = false := fun k hk => by
    cases hx : x == Str.ofString "__debug__" with
    | false => rfl
    | true => rw [eq_of_beq hx, hdb] at hk; cases hk
  have hv : (match c.cs.names.lookup x with
    | some .local => (match M x with | some X => K X s | Option.none => False)
    | some .globalImplicit => (match gl.lookup x with | some v => K (.raw v) s | Option.none => False)
    | _ => EW I c M (.Name x p) s K) := hv
  split at hv
  · rename_i hl
    split at hv
    · rename_i X hm
      intro h imm m g gs dr tk os Q E C k
      obtain ⟨v, hv1, hv2⟩ := C.r x X hm
      exact nameX_L C.F hv1 (k v X _ _ _ _ _ _ hv hv2 sub_rfl C) ok.hk hl (hd _ hl)
    · exact hv.elim
  · rename_i hl
    split at hv
    · rename_i v hm
      intro h imm m g gs dr tk os Q E C k
      have hq := k v _ _ _ _ _ h tk hv .raw sub_rfl C
      cases (hgl _ (lookup_mem hm)).1 with
      | glob h1 h2 => exact nameX_K C.F ok.X (topRead_of ok.T) h1 hq ok.hk hl (hd _ hl)
      | bui h1 h2 h3 => exact nameX_B C.F ok.X (topRead_of ok.T) h1 h2 h3 hq ok.hk hl (hd _ hl)
      | typ h1 h2 h3 => exact nameX_B C.F ok.X (topRead_of ok.T) h1 h2 h3 hq ok.hk hl (hd _ hl)
    · exact hv.elim
  · exact hv.run
theorem cmpV_ok (ok : c.Ok) {op : CmpOp} {X Y : V} {r : Bool} (e : cmpV op X Y = some r) {imm : Led} {v u : Value} (h1 : Rep imm v X) (h2 : Rep imm u Y) {s : Shared} {g : Led} (N : News c.h₀ c.L s.heap (g ++ imm)) {Q E : Value → Shared → Prop} (h : Q (.bool r) s) : wpAny (model PR c.g.w) c.A (compareOp op v u) Q E s := by
  have hu : c.A.units < cLine := Nat.lt_of_le_of_lt (Nat.le_add_right _ _) ok.u
  have isN : ∀ {X Y : V} {r : Bool}, isNV X Y = some r → Y = .none ∧ ((X = .none ∧ r = true) ∨ (r = false ∧ ((∃ s, X = .str s) ∨ (∃ xs, X = .tup xs) ∨ ∃ xs, X = .list xs))) := by
    intro X Y r e
    unfold isNV at e
    split at e
    · cases e; exact ⟨rfl, .inl ⟨rfl, rfl⟩⟩
    · cases e; exact ⟨rfl, .inr ⟨rfl, .inr (.inl ⟨_, rfl⟩)⟩⟩
    · cases e; exact ⟨rfl, .inr ⟨rfl, .inr (.inr ⟨_, rfl⟩)⟩⟩
    · cases e; exact ⟨rfl, .inr ⟨rfl, .inl ⟨_, rfl⟩⟩⟩
    · cases e
  have ltI : ∀ {X Y : V} {r : Bool}, ltV X Y = some r → ∃ x y, X = .int x ∧ Y = .int y ∧ r = decide (x < y) := by
    intro X Y r e
    unfold ltV at e
    split at e
    · cases e; exact ⟨_, _, rfl, rfl, rfl⟩
    · cases e
  cases op with
  | Eq =>
    have e : eqV X Y = some r := e
    unfold eqV at e
    split at e
    · cases e; obtain ⟨_, rfl⟩ := h1.str_inv; obtain ⟨_, rfl⟩ := h2.str_inv; exact PyProof.Rows.eq_str h
    · cases e; obtain ⟨_, rfl⟩ := h1.int_inv; obtain ⟨_, rfl⟩ := h2.int_inv; exact PyProof.Rows.eq_int h
    · cases e
  | NotEq =>
    have e : neV X Y = some r := e
    unfold neV at e
    split at e
    · cases e; obtain ⟨_, rfl⟩ := h1.str_inv; obtain ⟨_, rfl⟩ := h2.str_inv; exact PyProof.Rows.ne_str h
    · cases e
      obtain ⟨a, xs, rfl, hm, hq⟩ := h1.tup_inv
      obtain ⟨b, ys, rfl, hm2, hq2⟩ := h2.tup_inv
      cases hq2
      cases hq with
      | cons _ _ => exact ne_empty N (List.mem_append.mpr (.inr hm)) (List.mem_append.mpr (.inr hm2)) hu h
    · cases e
      obtain ⟨a, xs, rfl, hm, hq⟩ := h1.tup_inv
      obtain ⟨b, ys, rfl, hm2, hq2⟩ := h2.tup_inv
      cases hq2; cases hq
      exact eq_empty N (List.mem_append.mpr (.inr hm)) (List.mem_append.mpr (.inr hm2)) hu h
    · cases e
  | Gt =>
    obtain ⟨x, y, rfl, rfl, rfl⟩ := ltI (show ltV Y X = some r from e)
    obtain ⟨_, rfl⟩ := h1.int_inv; obtain ⟨_, rfl⟩ := h2.int_inv; exact gt_int h
  | Lt =>
    obtain ⟨x, y, rfl, rfl, rfl⟩ := ltI (show ltV X Y = some r from e)
    obtain ⟨_, rfl⟩ := h1.int_inv; obtain ⟨_, rfl⟩ := h2.int_inv; exact lt_int h
  | Is =>
    obtain ⟨rfl, ⟨rfl, rfl⟩ | ⟨rfl, ⟨s, rfl⟩ | ⟨xs, rfl⟩ | ⟨xs, rfl⟩⟩⟩ := isN (show isNV X Y = some r from e)
    · cases h1.none_inv; cases h2.none_inv; exact is_none_none h
    · obtain ⟨_, rfl⟩ := h1.str_inv; cases h2.none_inv; exact wpAny_is_other rfl (by intro e; cases e) h
    · obtain ⟨_, rfl⟩ := h1.inv; cases h2.none_inv; exact is_ref_none h
    · obtain ⟨_, rfl⟩ := h1.inv; cases h2.none_inv; exact is_ref_none h
  | IsNot =>
    have e : (isNV X Y).map (fun b => !b) = some r := e
    cases hx : isNV X Y with
    | none => rw [hx] at e; cases e
    | some b =>
      rw [hx] at e; cases e
      obtain ⟨rfl, ⟨rfl, rfl⟩ | ⟨rfl, ⟨s, rfl⟩ | ⟨xs, rfl⟩ | ⟨xs, rfl⟩⟩⟩ := isN hx
      · cases h1.none_inv; cases h2.none_inv; exact isnot_none_none h
      · obtain ⟨_, rfl⟩ := h1.str_inv; cases h2.none_inv; exact wpAny_isNot_other rfl (by intro e; cases e) h
      · obtain ⟨_, rfl⟩ := h1.inv; cases h2.none_inv; exact isnot_ref_none h
      · obtain ⟨_, rfl⟩ := h1.inv; cases h2.none_inv; exact isnot_ref_none h
  | In =>
    have e : inV X Y = some r := e
    unfold inV at e
    split at e
    · rename_i x Xs e'
      cases hs : strsOf Xs with
      | none => rw [hs] at e; cases e
      | some ys =>
        rw [hs] at e; cases e
        obtain ⟨t, rfl⟩ := h1.str_inv
        obtain ⟨b, zs, rfl, hm, hq⟩ := h2.tup_inv
        exact in_tuple_strs (News.isTup N (List.mem_append.mpr (.inr hm))) (strsOf_are hs hq) h
    · rename_i x Xs e'
      cases hs : strsOf Xs with
      | none => rw [hs] at e; cases e
      | some ys =>
        rw [hs] at e; cases e
        obtain ⟨t, rfl⟩ := h1.str_inv
        obtain ⟨b, zs, n, rfl, hm, hq⟩ := h2.list_inv
        exact in_list_strs (News.isList N (List.mem_append.mpr (.inr hm))) (strsOf_are hs hq) h
    · cases e
  | _ => exact absurd (show (Option.none : Option Bool) = some r from e) (by intro h; cases h)
theorem BK.inv {P Q : Prop} {X : V} (h : BK P Q X) : (X = .bool true ∧ P) ∨ (X = .bool false ∧ Q) := by
  cases h with
  | t h => exact .inl ⟨rfl, h⟩
  | f h => exact .inr ⟨rfl, h⟩
  | @s b h k => cases b with
    | true => exact .inl ⟨rfl, h rfl⟩
    | false => exact .inr ⟨rfl, k rfl⟩
theorem meth_eq {x : Str} {xp : Pos} {mt : Str} {ap p : Pos} {es : List Expr} {env : Env} (hs : (es.all fun e => !isStar e) = true) (hl : es.length ≤ 21) (hp : ap.endLine = p.line) : eval (.Call (.Attribute (.Name x xp) mt ap) es [] p) env = (do
      let ov ← eval (.Name x xp) env
      standAt ap.atName
      let (f, first) ← holding [ov] (getMethod ov mt (do return (← importBound (.Name x xp) env).getD true))
      callWith p f first (backTo p (starEach es env)) []) := by
  have hall : methodCallForm es.length (backTo p (starEach es env)) [] = true := by
    have := starEach_any (env := env) (pos := p) hs
    unfold methodCallForm
    simp only [Bool.and_eq_true, List.all_nil, List.isEmpty_nil, if_true, Nat.add_zero, decide_eq_true_eq]
    refine ⟨⟨?_, trivial⟩, by omega⟩
    rw [List.all_eq_true]
    intro x hx
    cases hb : x.1 with
    | false => rfl
    | true => rw [List.any_eq_false] at this; exact absurd hb (this x hx)
  show (do
    let ov ← attributeBase (.Name x xp) mt env (eval (.Name x xp) env)
    standAt ap.atName
    methodCall (.Name x xp) mt ap p env ov (es.length + ([] : List Keyword).length) (backTo p (starEach es env)) (backToKw p (keywordEach [] env))) = _
  have hall' : methodCallForm (es.length + ([] : List Keyword).length) (backTo p (starEach es env)) (backToKw p (keywordEach [] env)) = true := hall
  unfold methodCall methodCallPos calleeOf
  simp only [hall', hp, if_true, Bool.not_true, Bool.false_or, beq_self_eq_true]
  rfl
theorem meth_eq2 {x at' : Str} {xp ap0 : Pos} {mt : Str} {ap p : Pos} {es : List Expr} {env : Env} (hs : (es.all fun e => !isStar e) = true) (hl : es.length ≤ 21) (hp : ap.endLine = p.line) : eval (.Call (.Attribute (.Attribute (.Name x xp) at' ap0) mt ap) es [] p) env = (do
      let ov ← eval (.Attribute (.Name x xp) at' ap0) env
      standAt ap.atName
      let (f, first) ← holding [ov] (getMethod ov mt (do return (← importBound (.Attribute (.Name x xp) at' ap0) env).getD true))
      callWith p f first (backTo p (starEach es env)) []) := by
  have hall : methodCallForm es.length (backTo p (starEach es env)) [] = true := by
    have := starEach_any (env := env) (pos := p) hs
    unfold methodCallForm
    simp only [Bool.and_eq_true, List.all_nil, List.isEmpty_nil, if_true, Nat.add_zero, decide_eq_true_eq]
    refine ⟨⟨?_, trivial⟩, by omega⟩
    rw [List.all_eq_true]
    intro x hx
    cases hb : x.1 with
    | false => rfl
    | true => rw [List.any_eq_false] at this; exact absurd hb (this x hx)
  show (do
    let ov ← attributeBase (.Attribute (.Name x xp) at' ap0) mt env (eval (.Attribute (.Name x xp) at' ap0) env)
    standAt ap.atName
    methodCall (.Attribute (.Name x xp) at' ap0) mt ap p env ov (es.length + ([] : List Keyword).length) (backTo p (starEach es env)) (backToKw p (keywordEach [] env))) = _
  have hall' : methodCallForm (es.length + ([] : List Keyword).length) (backTo p (starEach es env)) (backToKw p (keywordEach [] env)) = true := hall
  unfold methodCall methodCallPos calleeOf
  simp only [hall', hp, if_true, Bool.not_true, Bool.false_or, beq_self_eq_true]
  rfl
theorem vE_ok [IMono I] (ok : c.Ok) (hsc : c.cs = sc) (hgl : GlOk c gl) (hdb : sc.names.lookup (Str.ofString "__debug__") = Option.none) : ∀ n, (∀ e s K, vE I sc gl c M n false e s K → EOb I c M e s K) ∧ (∀ e s K, vE I sc gl c M n true e s K → TOb I c M e s K) := by
  intro n
  induction n with
  | zero => exact ⟨fun _ _ _ h => (show False from h).elim, fun _ _ _ h => (show False from h).elim⟩
  | succ n ih =>
    obtain ⟨iE, iT⟩ := ih
    have cmpE : ∀ {a b : Expr} {op : CmpOp} {p : Pos} {s : σ} {K : KV σ}, behindInMarks op b = false → vE I sc gl c M n false a s (fun X s1 => vE I sc gl c M n false b s1 fun Y s2 => (match cmpV op X Y with
          | some r => K (.bool r) s2
          | Option.none => QW I c M op X Y s2 K)) →
        ∀ (h : Heap) imm m g gs dr tk os (Q E : Value → Shared → Prop), Cf I c s M imm h m g → (∀ b s' imm' m' g' h' tk', K (.bool b) s' → Sub imm imm' → Cf I c s' M imm' h' m' g' → Q (.bool b) ⟨h', gs, dr, tk', os⟩) →
          wpAny (model PR c.g.w) c.A (eval a c.env) (fun v s₁ => wpAny (model PR c.g.w) c.A (eval b c.env) (fun u s₂ => wpAny (model PR c.g.w) c.A (compareOp op v u) Q E s₂) E s₁) E ⟨h, gs, dr, tk, os⟩ := by
      intro a b op p s K hm hv h imm m g gs dr tk os Q E C k
      refine iE a s _ hv h imm m g gs dr tk os _ E C fun v X s1 imm1 m1 g1 h1 tk1 hv1 hr1 hs1 C1 => iE b s1 _ hv1 h1 imm1 m1 g1 gs dr tk1 os _ E C1 fun u Y s2 imm2 m2 g2 h2 tk2 hv2 hr2 hs2 C2 => ?_
      split at hv2
      · rename_i r e
        exact cmpV_ok ok e (hr1.mono hs2) hr2 C2.N (k _ _ _ _ _ _ _ hv2 (hs1.trans hs2) C2)
      · exact hv2.run h2 imm2 m2 g2 gs dr tk2 os Q E v u (hr1.mono hs2) hr2 C2 fun b s' imm' m' g' h' tk' hK hs C' => k b s' imm' m' g' h' tk' hK ((hs1.trans hs2).trans hs) C'
    have hTuple : ∀ {es k p s K}, (if plain es then vEs (vE I sc gl c M n false) es s fun Xs s' => K (.tup Xs) s' else EW I c M (.Tuple es k p) s K) → EOb I c M (.Tuple es k p) s K := by
      intro es k p s K hv
      split at hv
      · rename_i hp
        simp only [plain, Bool.and_eq_true] at hp
        exact fun h imm m g gs dr tk os Q E C k => Tuple_ (vEs_ok iE _ s _ hp.1 hv h imm m g gs dr tk os _ _ E C fun vs Xs s' imm' m' g' h' tk' hl hK hr hs C' => kup_newTuple C'.F C'.N (fun D h2 F2 N2 l2 => k _ _ s' _ m' g' h2 tk' hK (.of_tup (.head _) (hr.mono (sub_cons sub_rfl))) (hs.trans (sub_cons sub_rfl)) (C'.new F2 N2 l2)) (size_of hp.2 hl))
      · exact hv.run
    have hList : ∀ {es p s K}, (if plain es then vEs (vE I sc gl c M n false) es s fun Xs s' => K (.list Xs) s' else EW I c M (.List es p) s K) → EOb I c M (.List es p) s K := by
      intro es p s K hv
      split at hv
      · rename_i hp
        simp only [plain, Bool.and_eq_true] at hp
        exact fun h imm m g gs dr tk os Q E C k => List_ (vEs_ok iE _ s _ hp.1 hv h imm m g gs dr tk os _ _ E C fun vs Xs s' imm' m' g' h' tk' hl hK hr hs C' => newList_K C'.F C'.N (fun D h2 F2 N2 l2 => k _ _ s' _ m' g' h2 tk' hK (.of_list (.head _) (hr.mono (sub_cons sub_rfl))) (hs.trans (sub_cons sub_rfl)) (C'.new F2 N2 l2)) (size_of hp.2 hl))
      · exact hv.run
    have hSub : ∀ {e i q s K}, (match subKind e i with
      | .lit j => vE I sc gl c M n false e s fun X s' => (match itV X j with | some Y => K Y s' | Option.none => False)
      | .last => vE I sc gl c M n false e s fun X s' => (match lastV X with | some Y => K Y s' | Option.none => False)
      | .cut a hi => vE I sc gl c M n false e s fun X s' => cutV (fun Y => K Y s') a hi X
      | .dyn => vE I sc gl c M n false e s fun X s1 => vE I sc gl c M n false i s1 fun Y s2 => IxOb (fun Z => K Z s2) X Y
      | .other => EW I c M (.Subscript e i q) s K) → EOb I c M (.Subscript e i q) s K := by
      intro e i q s K hv
      cases hk : subKind e i with
      | lit j =>
        have hinv := subKind_inv hk
        rw [hk] at hv
        cases hinv with
        | lit hi =>
        intro h imm m g gs dr tk os Q E C r
        refine Subscript_ (iE _ s _ hv h imm m g gs dr tk os _ E C fun v X s1 imm1 m1 g1 h1 tk1 hv1 hr1 hs1 C1 => ?_)
        split at hv1
        · rename_i Y hY
          unfold itV at hY
          split at hY
          · rename_i Xs
            obtain ⟨a, xs, rfl, hm, hrs⟩ := hr1.tup_inv
            obtain ⟨x, hx, hrx⟩ := hrs.get hY
            have hlt : j < xs.length := (List.getElem?_eq_some_iff.mp hx).1
            refine wpAny_Constant_int ?_
            exact item_tupleT (News.isTup C1.N (C1.tup hm)) (by have : (0 : Int) ≤ Int.ofNat j := Int.natCast_nonneg j; omega) (by have : Int.ofNat j ≤ 100 := Int.ofNat_le.mpr hi; omega) (j := j) (seqIndex_of (Int.natCast_nonneg j) (by simpa using hlt)) hx (r x Y s1 imm1 m1 g1 _ _ hv1 hrx hs1 C1) (by with_unfolding_all rfl)
          · cases hY
        · exact hv1.elim
      | last =>
        have hinv := subKind_inv hk
        rw [hk] at hv
        cases hinv with
        | last =>
        intro h imm m g gs dr tk os Q E C r
        refine Subscript_ (iE _ s _ hv h imm m g gs dr tk os _ E C fun v X s1 imm1 m1 g1 h1 tk1 hv1 hr1 hs1 C1 => ?_)
        split at hv1
        · rename_i Y hY
          unfold lastV at hY
          split at hY
          · rename_i Xs
            obtain ⟨a, xs, rfl, hm, hrs⟩ := hr1.tup_inv
            rw [List.getLast?_eq_getElem?] at hY
            obtain ⟨x, hx, hrx⟩ := hrs.get hY
            have hlt := (List.getElem?_eq_some_iff.mp hx).1
            have hle := hrs.len
            refine PyProof.Rows.UnaryOp_ (wpAny_Constant_int (neg_int ?_))
            exact item_tupleT (News.isTup C1.N (C1.tup hm)) (by decide) (by decide) (j := Xs.length - 1) (by rw [MeetsSeq.seqIndex_neg (by decide) (by omega)]; congr 1; omega) hx (r x Y s1 imm1 m1 g1 _ _ hv1 hrx hs1 C1) (by with_unfolding_all rfl)
          · cases hY
        · exact hv1.elim
      | cut a hi' =>
        have hinv := subKind_inv hk
        rw [hk] at hv
        cases hinv with
        | @cut x xp p p2 _ kk hi _ hn =>
        intro h imm m g gs dr tk os Q E C r
        refine Subscript_ (iE _ s _ hv h imm m g gs dr tk os _ E C fun v X s1 imm1 m1 g1 h1 tk1 hv1 hr1 hs1 C1 => ?_)
        refine wpAny_Slice ?_
        show wpAny _ _ (eval (.Constant (.int (.ofNat a)) kk p) c.env) _ _ _
        refine wpAny_Constant_int ?_
        have hv1 : cutV (fun Y => K Y s1) a hi' X := hv1
        unfold cutV at hv1
        split at hv1
        · rename_i Xs
          obtain ⟨hc, hK⟩ := hv1
          simp only [Bool.and_eq_true] at hc
          obtain ⟨⟨h1a, h2a⟩, h3a⟩ := hc
          have h1a := Nat.le_of_ble_eq_true h1a
          have h2a := Nat.le_of_ble_eq_true h2a
          have h3a := Nat.le_of_ble_eq_true h3a
          obtain ⟨b, xs, rfl, hm, hrs⟩ := hr1.tup_inv
          have hl := hrs.len
          have hh : hi = none := by
            unfold natE at hn
            split at hn
            · rfl
            · cases hn
            · cases hn
          subst hh
          refine wpAny_pure (wpAny_pure ?_)
          refine tup_from C1.F C1.N (C1.tup hm) h1a (by rw [hl]; exact h2a) (by rw [sizeLine_eq, hl]; omega) rfl (fun D h2 F2 N2 l2 => ?_) (by with_unfolding_all rfl) (fun r => by with_unfolding_all rfl)
          exact r _ _ s1 ((D, tupO (xs.drop a)) :: imm1) m1 g1 h2 _ hK (.of_tup (.head _) ((hrs.drop a).mono (sub_cons sub_rfl))) (hs1.trans (sub_cons sub_rfl)) (C1.new F2 N2 l2)
        · rename_i X0 X1 X Y
          obtain ⟨rfl, hK⟩ := hv1
          obtain ⟨b, xs, rfl, hm, hrs⟩ := hr1.tup_inv
          cases hrs with
          | cons r0 hrs => cases hrs with
            | cons r1 hrs => cases hrs with
              | cons r2 hrs => cases hrs with
                | cons r3 hrs =>
                  cases hrs
                  unfold natE at hn
                  split at hn
                  · cases hn
                  · cases hn
                    rename_i k4 p4
                    show wpAny _ _ (eval (.Constant (.int (.ofNat 4)) k4 p4) c.env) _ _ _
                    refine wpAny_Constant_int (wpAny_pure ?_)
                    refine cut24 C1.F C1.N (C1.tup hm) (fun D h2 F2 N2 l2 => ?_) (by with_unfolding_all rfl) (fun r => by with_unfolding_all rfl)
                    exact r _ _ s1 ((D, _) :: imm1) m1 g1 h2 _ hK (.of_tup (.head _) ((Reps.cons r2 (.cons r3 .nil)).mono (sub_cons sub_rfl))) (hs1.trans (sub_cons sub_rfl)) (C1.new F2 N2 l2)
                  · cases hn
        · exact hv1.elim
      | dyn =>
        have hinv := subKind_inv hk
        rw [hk] at hv
        cases hinv with
        | dyn =>
        intro h imm m g gs dr tk os Q E C r
        refine Subscript_ (iE _ s _ hv h imm m g gs dr tk os _ E C fun v X s1 imm1 m1 g1 h1 tk1 hv1 hr1 hs1 C1 => iE _ s1 _ hv1 h1 imm1 m1 g1 gs dr tk1 os _ E C1 fun u Y s2 imm2 m2 g2 h2 tk2 hv2 hr2 hs2 C2 => ?_)
        cases hv2 with
        | mk h0 hlt hz hK =>
          obtain ⟨_, rfl⟩ := hr2.int_inv
          obtain ⟨a, xs, nn, rfl, hm, hrs⟩ := (hr1.mono hs2).list_inv
          refine itemAt C2.N (C2.tup' hm) h0 (by rw [hrs.len]; exact hlt) (by omega) (fun i v hi => ?_) (by with_unfolding_all rfl)
          obtain ⟨X, hX, hrx⟩ := hrs.get' hi
          exact r v X s2 imm2 m2 g2 _ _ (hK X (List.mem_of_getElem? hX)) hrx (hs1.trans hs2) C2
      | other => rw [hk] at hv; exact hv.run
    have hAdd : ∀ {a b p s K}, (vE I sc gl c M n false a s fun X s1 => vE I sc gl c M n false b s1 fun Y s2 => AddOb (fun Z => K Z s2) X Y) → EOb I c M (.BinOp a .Add b p) s K := by
      intro a b p s K hv h imm m g gs dr tk os Q E C k
      refine wpAny_BinOp (iE _ s _ hv h imm m g gs dr tk os _ E C fun v X s1 imm1 m1 g1 h1 tk1 hv1 hr1 hs1 C1 => iE _ s1 _ hv1 h1 imm1 m1 g1 gs dr tk1 os _ E C1 fun u Y s2 imm2 m2 g2 h2 tk2 hv2 hr2 hs2 C2 => ?_)
      have hr1 := hr1.mono hs2
      cases hv2 with
      | ii hK =>
        cases hr1; cases hr2
        exact add_int (k _ _ _ _ _ _ _ _ hK .int (hs1.trans hs2) C2)
      | ll hz hK =>
        obtain ⟨a1, xs1, n1, rfl, hm1, hq1⟩ := hr1.list_inv
        obtain ⟨a2, xs2, n2, rfl, hm2, hq2⟩ := hr2.list_inv
        exact add_ls C2.F C2.N (C2.tup' hm1) (C2.tup' hm2) (by rw [sizeLine_eq, hq1.len, hq2.len]; exact hz) fun D h3 F3 N3 l3 => k _ _ s2 _ m2 g2 h3 tk2 hK (.of_list (.head _) ((hq1.app hq2).mono (sub_cons sub_rfl))) ((hs1.trans hs2).trans (sub_cons sub_rfl)) (C2.new F3 N3 l3)
      | tt hz hK =>
        obtain ⟨a1, xs1, rfl, hm1, hq1⟩ := hr1.tup_inv
        obtain ⟨a2, xs2, rfl, hm2, hq2⟩ := hr2.tup_inv
        cases hq1 with
        | cons p1 q1 => cases hq2 with
          | cons p2 q2 => exact add_tp C2.F C2.N (C2.tup hm1) (C2.tup hm2) (by have h1 := q1.len; have h2 := q2.len; rw [sizeLine_eq]; simp only [List.length_cons] at *; omega) fun D h3 F3 N3 l3 => k _ _ s2 _ m2 g2 h3 tk2 hK (.of_tup (.head _) (((Reps.cons p1 q1).app (.cons p2 q2)).mono (sub_cons sub_rfl))) ((hs1.trans hs2).trans (sub_cons sub_rfl)) (C2.new F3 N3 l3)
    have hSubI : ∀ {a b p s K}, (vE I sc gl c M n false a s fun X s1 => vE I sc gl c M n false b s1 fun Y s2 => (match X, Y with
        | .int x, .int y => K (.int (x - y)) s2
        | _, _ => False)) → EOb I c M (.BinOp a .Sub b p) s K := by
      intro a b p s K hv h imm m g gs dr tk os Q E C k
      refine wpAny_BinOp (iE _ s _ hv h imm m g gs dr tk os _ E C fun v X s1 imm1 m1 g1 h1 tk1 hv1 hr1 hs1 C1 => iE _ s1 _ hv1 h1 imm1 m1 g1 gs dr tk1 os _ E C1 fun u Y s2 imm2 m2 g2 h2 tk2 hv2 hr2 hs2 C2 => ?_)
      split at hv2
      · cases hr1; cases hr2
        exact sub_int (k _ _ _ _ _ _ _ _ hv2 .int (hs1.trans hs2) C2)
      · exact hv2.elim
    have hCall : ∀ {f fp e es p s K}, (if plain (e :: es) && sc.names.lookup f == some .globalImplicit then (match gl.lookup f with
      | some fv => vEs (vE I sc gl c M n false) (e :: es) s fun Xs s' => CW I c M fv Xs s' K
      | Option.none => EW I c M (.Call (.Name f fp) (e :: es) [] p) s K) else EW I c M (.Call (.Name f fp) (e :: es) [] p) s K) → EOb I c M (.Call (.Name f fp) (e :: es) [] p) s K := by
      intro f fp e es p s K hv
      split at hv
      · rename_i hp
        simp only [plain, Bool.and_eq_true, beq_iff_eq] at hp
        obtain ⟨⟨hp1, hp2⟩, hp3⟩ := hp
        split at hv
        · rename_i fv hfv
          have hg := hgl _ (lookup_mem hfv)
          intro h imm m g gs dr tk os Q E C k
          have he := starEach_c (rest := es) (env := c.env) (by simp only [List.all_cons, Bool.and_eq_true, Bool.not_eq_true'] at hp1; exact hp1.1)
          have ha := starEach_any (env := c.env) (pos := p) (es := es) (by simp only [List.all_cons, Bool.and_eq_true] at hp1; exact hp1.2)
          have hx : (envX c.cn c.cs c.L c.a c.ccd c.cl).kindOf f = some .globalImplicit := by subst hsc; exact hp3
          have hk' := fun (vs : List Value) (Xs : List V) (s1 : σ) (imm1 : Led) m1 g1 h1 tk1 (hv1 : CW I c M fv Xs s1 K) (hr1 : Reps imm1 vs Xs) (hs1 : Sub imm imm1) (C1 : Cf I c s1 M imm1 h1 m1 g1) => hv1.run h1 imm1 m1 g1 gs dr tk1 os Q E vs hr1 C1 fun v X s2 imm2 m2 g2 h2 tk2 hK hr2 hs2 C2 => k v X s2 imm2 m2 g2 h2 tk2 hK hr2 (hs1.trans hs2) C2
          cases hg.1 with
          | glob h1 h2 =>
            refine PyProof.Rows.Call_ (nameX_K C.F ok.X (topRead_of ok.T) h1 ?_ ok.hk hx hg.2) (by rfl)
            exact callWith_K ok.X h2 (vEs_ok iE _ s _ hp1 hv h imm m g gs dr tk os _ _ E C fun vs Xs s1 imm1 m1 g1 h1 tk1 hl1 hv1 hr1 hs1 C1 => ⟨fun a o e => C1.F.keep a o (ok.X a o e), hk' vs Xs s1 imm1 m1 g1 h1 tk1 hv1 hr1 hs1 C1⟩) he ha
          | bui h1 h2 h3 =>
            refine PyProof.Rows.Call_ (nameX_B C.F ok.X (topRead_of ok.T) h1 h2 h3 ?_ ok.hk hx hg.2) (by rfl)
            exact callWith_b (vEs_ok iE _ s _ hp1 hv h imm m g gs dr tk os _ _ E C fun vs Xs s1 imm1 m1 g1 h1 tk1 hl1 hv1 hr1 hs1 C1 => hk' vs Xs s1 imm1 m1 g1 h1 tk1 hv1 hr1 hs1 C1) he ha
          | typ h1 h2 h3 =>
            refine PyProof.Rows.Call_ (nameX_B C.F ok.X (topRead_of ok.T) h1 h2 h3 ?_ ok.hk hx hg.2) (by rfl)
            exact Pv.callWith_type1 (vEs_ok iE _ s _ hp1 hv h imm m g gs dr tk os _ _ E C fun vs Xs s1 imm1 m1 g1 h1 tk1 hl1 hv1 hr1 hs1 C1 => hk' vs Xs s1 imm1 m1 g1 h1 tk1 hv1 hr1 hs1 C1) he ha
        · exact hv.run
      · exact hv.run
    have hMeth : ∀ {x xp mt ap e es p s K}, (if plain (e :: es) && Nat.ble es.length 20 && ap.endLine == p.line then vE I sc gl c M n false (.Name x xp) s fun X s1 => (match X with
      | .raw r => GOb I c r mt fun f first => vEs (vE I sc gl c M n false) (e :: es) s1 fun Xs s' => CW I c M f (first ++ Xs) s' K
      | _ => False) else EW I c M (.Call (.Attribute (.Name x xp) mt ap) (e :: es) [] p) s K) → EOb I c M (.Call (.Attribute (.Name x xp) mt ap) (e :: es) [] p) s K := by
      intro x xp mt ap e es p s K hv
      split at hv
      · rename_i hp
        simp only [plain, Bool.and_eq_true, beq_iff_eq] at hp
        obtain ⟨⟨⟨hp1, _⟩, hp2⟩, hp3⟩ := hp
        have hp2 := Nat.le_of_ble_eq_true hp2
        have he := starEach_c (rest := es) (env := c.env) (by simp only [List.all_cons, Bool.and_eq_true, Bool.not_eq_true'] at hp1; exact hp1.1)
        have ha := starEach_any (env := c.env) (pos := p) (es := es) (by simp only [List.all_cons, Bool.and_eq_true] at hp1; exact hp1.2)
        intro h imm m g gs dr tk os Q E C k
        refine PyProof.Rows.MethodCall_ (iE _ s _ hv h imm m g gs dr tk os _ E C fun v X s1 imm1 m1 g1 h1 tk1 hv1 hr1 hs1 C1 => ?_) (meth_eq hp1 (by simp only [List.length_cons]; omega) hp3)
        cases X with
        | raw r =>
          have e := hr1.raw_inv
          subst e
          have hk' := fun (first : List V) (f : Value) (vs : List Value) (Xs : List V) (firstv : List Value) (s2 : σ) (imm2 : Led) m2 g2 h2 tk2 (hf : Reps imm2 firstv first) (hv2 : CW I c M f (first ++ Xs) s2 K) (hr2 : Reps imm2 vs Xs) (hs2 : Sub imm1 imm2) (C2 : Cf I c s2 M imm2 h2 m2 g2) => hv2.run h2 imm2 m2 g2 gs dr tk2 os Q E (firstv ++ vs) (hf.app hr2) C2 fun v X s3 imm3 m3 g3 h3 tk3 hK hr3 hs3 C3 => k v X s3 imm3 m3 g3 h3 tk3 hK hr3 ((hs1.trans hs2).trans hs3) C3
          have hv1 : GOb I c v mt fun f first => vEs (vE I sc gl c M n false) (e :: es) s1 fun Xs s' => CW I c M f (first ++ Xs) s' K := hv1
          cases hv1 with
          | fn hG hf hv1 =>
            refine hG s1 M h1 imm1 m1 g1 gs dr tk1 os _ _ E C1 fun tk2 => ?_
            exact callWith_K ok.X hf (vEs_ok iE _ s1 _ hp1 hv1 h1 imm1 m1 g1 gs dr tk2 os _ _ E ⟨C1.F, C1.N, C1.i, C1.d, C1.r⟩ fun vs Xs s2 imm2 m2 g2 h2 tk2 hl2 hv2 hr2 hs2 C2 => ⟨fun a o e => C2.F.keep a o (ok.X a o e), hk' [.raw v] _ vs Xs [v] s2 imm2 m2 g2 h2 tk2 (.cons .raw .nil) hv2 hr2 hs2 C2⟩) he ha
          | own hG hf hv1 =>
            refine hG s1 M h1 imm1 m1 g1 gs dr tk1 os _ _ E C1 fun tk2 => ?_
            exact callWith_K ok.X hf (vEs_ok iE _ s1 _ hp1 hv1 h1 imm1 m1 g1 gs dr tk2 os _ _ E ⟨C1.F, C1.N, C1.i, C1.d, C1.r⟩ fun vs Xs s2 imm2 m2 g2 h2 tk2 hl2 hv2 hr2 hs2 C2 => ⟨fun a o e => C2.F.keep a o (ok.X a o e), hk' [] _ vs Xs [] s2 imm2 m2 g2 h2 tk2 .nil hv2 hr2 hs2 C2⟩) he ha
        | _ => exact hv1.elim
      · exact hv.run
    have hMeth2 : ∀ {x xp at' ap0 mt ap es p s K}, (if plain es && Nat.ble es.length 20 && ap.endLine == p.line then vE I sc gl c M n false (.Name x xp) s fun X s1 => (match X with
      | .raw r => P2Ob I c r at' mt fun b a => vEs (vE I sc gl c M n false) es s1 fun Xs s' => CW I c M (.builtin b) (.raw (.ref a) :: Xs) s' K
      | _ => False) else EW I c M (.Call (.Attribute (.Attribute (.Name x xp) at' ap0) mt ap) es [] p) s K) → EOb I c M (.Call (.Attribute (.Attribute (.Name x xp) at' ap0) mt ap) es [] p) s K := by
      intro x xp at' ap0 mt ap es p s K hv
      split at hv
      · rename_i hp
        simp only [plain, Bool.and_eq_true, beq_iff_eq] at hp
        obtain ⟨⟨⟨hp1, _⟩, hp2⟩, hp3⟩ := hp
        have hp2 := Nat.le_of_ble_eq_true hp2
        have ha := starEach_any (env := c.env) (pos := p) (es := es) hp1
        intro h imm m g gs dr tk os Q E C k
        refine PyProof.Rows.MethodCall_ (Attribute_Name_ (iE _ s _ hv h imm m g gs dr tk os _ E C fun v X s1 imm1 m1 g1 h1 tk1 hv1 hr1 hs1 C1 => ?_) (by rfl)) (meth_eq2 hp1 (by omega) hp3)
        cases X with
        | raw r =>
          have e := hr1.raw_inv
          subst e
          have hv1 : P2Ob I c v at' mt fun b a => vEs (vE I sc gl c M n false) es s1 fun Xs s' => CW I c M (.builtin b) (.raw (.ref a) :: Xs) s' K := hv1
          cases hv1 with
          | @mk b a hG hv1 =>
            refine hG s1 M h1 imm1 m1 g1 gs dr tk1 os _ _ E C1 fun tk2 => ?_
            have hsp := vEs_ok iE _ s1 _ hp1 hv1 h1 imm1 m1 g1 gs dr tk2 os p (fun vs s' => wpAny (model PR c.g.w) c.A (call (.builtin b) ([.ref a] ++ vs)) Q E s') E ⟨C1.F, C1.N, C1.i, C1.d, C1.r⟩ fun vs Xs s2 imm2 m2 g2 h2 tk2 hl2 hv2 hr2 hs2 C2 => hv2.run h2 imm2 m2 g2 gs dr tk2 os Q E (.ref a :: vs) (.cons .raw hr2) C2 fun v X s3 imm3 m3 g3 h3 tk3 hK hr3 hs3 C3 => k v X s3 imm3 m3 g3 h3 tk3 hK hr3 ((hs1.trans hs2).trans hs3) C3
            refine Calls.callWith_builtin ha ?_
            cases es with
            | nil => exact evalArgs_nil3 ((show CW I c M (.builtin b) [.raw (.ref a)] s1 K from hv1).run h1 imm1 m1 g1 gs dr tk2 os Q E [.ref a] (.cons .raw .nil) ⟨C1.F, C1.N, C1.i, C1.d, C1.r⟩ fun v X s3 imm3 m3 g3 h3 tk3 hK hr3 hs3 C3 => k v X s3 imm3 m3 g3 h3 tk3 hK hr3 (hs1.trans hs3) C3)
            | cons e es =>
              rw [starEach_c (by simp only [List.all_cons, Bool.and_eq_true, Bool.not_eq_true'] at hp1; exact hp1.1)] at hsp ⊢
              exact Calls.evalArgs_plain hsp
        | _ => exact hv1.elim
      · exact hv.run
    have hIf : ∀ {t a b p s K}, (vE I sc gl c M n true t s fun X s' => BK (vE I sc gl c M n false a s' K) (vE I sc gl c M n false b s' K) X) → EOb I c M (.IfExp t a b p) s K := by
      intro t a b p s K hv h imm m g gs dr tk os Q E C k
      refine wpAny_IfExp (iT _ s _ hv h imm m g gs dr tk os _ E C fun r s1 imm1 m1 g1 h1 tk1 hv1 hs1 C1 => ?_)
      have k' := fun v X s2 imm2 m2 g2 h2 tk2 hK hr2 (hs2 : Sub imm1 imm2) C2 => k v X s2 imm2 m2 g2 h2 tk2 hK hr2 (hs1.trans hs2) C2
      rcases hv1.inv with ⟨e, hK⟩ | ⟨e, hK⟩ <;> cases e
      · simp only [if_true]; exact iE _ _ _ hK h1 imm1 m1 g1 gs dr tk1 os Q E C1 k'
      · simp only [Bool.false_eq_true, if_false]; exact iE _ _ _ hK h1 imm1 m1 g1 gs dr tk1 os Q E C1 k'
    have hCmp : ∀ {a op b p s K}, (if behindInMarks op b then EW I c M (.Compare a [op] [b] p) s K else vE I sc gl c M n false a s fun X s1 => vE I sc gl c M n false b s1 fun Y s2 => (match cmpV op X Y with
          | some r => K (.bool r) s2
          | Option.none => QW I c M op X Y s2 K)) → EOb I c M (.Compare a [op] [b] p) s K := by
      intro a op b p s K hv
      split at hv
      · exact hv.run
      · rename_i hm
        have hm : behindInMarks op b = false := by simpa using hm
        exact fun h imm m g gs dr tk os Q E C k => wpAny_Compare1 (cmpE (p := p) hm hv h imm m g gs dr tk os Q E C fun r s' imm' m' g' h' tk' hK hs C' => k _ _ s' imm' m' g' h' tk' hK .bool hs C') hm
    refine ⟨fun e s K hv => ?_, fun e s K hv => ?_⟩
    · cases e with
      | Name x p => exact name_ok ok hsc hgl hdb hv
      | Constant v k p =>
        cases v with
        | str x => exact fun h imm m g gs dr tk os Q E C k => Constant_str (k _ _ s imm m g h _ (show K (.str x) s from hv) .str sub_rfl C)
        | int x => exact fun h imm m g gs dr tk os Q E C k => wpAny_Constant_int (k _ _ s imm m g h _ (show K (.int x) s from hv) .int sub_rfl C)
        | none => exact fun h imm m g gs dr tk os Q E C k => wpAny_Constant_none (k _ _ s imm m g h _ (show K .none s from hv) .none sub_rfl C)
        | bool b => exact fun h imm m g gs dr tk os Q E C k => wpAny_Constant_bool (k _ _ s imm m g h _ (show K (.bool b) s from hv) .bool sub_rfl C)
        | _ => exact hv.run
      | Tuple es k p => exact hTuple hv
      | List es p => exact hList hv
      | BinOp a op b p => cases op with
        | Add => exact hAdd hv
        | Sub => exact hSubI hv
        | _ => exact hv.run
      | IfExp t a b p => exact hIf hv
      | Subscript e i q => exact hSub hv
      | Call f es ks p =>
        cases f with
        | Name f fp =>
          cases es with
          | nil => exact hv.run
          | cons e es =>
            cases ks with
            | nil => exact hCall hv
            | cons _ _ => exact hv.run
        | Attribute o mt ap =>
          cases o with
          | Name x xp =>
            cases es with
            | nil => exact hv.run
            | cons e es =>
              cases ks with
              | nil => exact hMeth hv
              | cons _ _ => exact hv.run
          | Attribute o2 at' ap0 =>
            cases o2 with
            | Name x xp =>
              cases ks with
              | nil => exact hMeth2 hv
              | cons _ _ => exact hv.run
            | _ => exact hv.run
          | _ => exact hv.run
        | _ => exact hv.run
      | Compare a ops bs p =>
        cases ops with
        | nil => exact hv.run
        | cons op ops =>
          cases ops with
          | cons _ _ => exact hv.run
          | nil =>
            cases bs with
            | nil => exact hv.run
            | cons b bs =>
              cases bs with
              | cons _ _ => exact hv.run
              | nil => exact hCmp hv
      | _ => exact hv.run
    · have tCmp : ∀ {a op b p s K}, (if behindInMarks op b then TW I c M (.Compare a [op] [b] p) s K else vE I sc gl c M n false a s fun X s1 => vE I sc gl c M n false b s1 fun Y s2 => (match cmpV op X Y with
          | some r => K (.bool r) s2
          | Option.none => QW I c M op X Y s2 K)) → TOb I c M (.Compare a [op] [b] p) s K := by
        intro a op b p s K hv
        split at hv
        · exact hv.run
        · rename_i hm
          have hm : behindInMarks op b = false := by simpa using hm
          intro h imm m g gs dr tk os Q E C k
          refine wpAny_isTrue_Compare1 ?_ hm
          exact cmpE (p := p) hm hv h imm m g gs dr tk os _ E C fun r s' imm' m' g' h' tk' hK hs C' => wpAny_truthy_bool (k r s' imm' m' g' h' tk' hK hs C')
      have tAnd : ∀ {e es p s K}, (vE I sc gl c M n true e s fun X s' => BK (vE I sc gl c M n true (.BoolOp .And es p) s' K) (K (.bool false) s') X) → TOb I c M (.BoolOp .And (e :: es) p) s K := by
        intro e es p s K hv h imm m g gs dr tk os Q E C k
        refine PyProof.Rows.isTrue_and (iT e s _ hv h imm m g gs dr tk os _ E C fun r s1 imm1 m1 g1 h1 tk1 hv1 hs1 C1 => ?_)
        rcases hv1.inv with ⟨e, hK⟩ | ⟨e, hK⟩ <;> cases e
        · simp only [if_true]; rw [isTrue_whole _ (eval (.BoolOp .And es p) c.env)]; exact iT _ _ _ hK h1 imm1 m1 g1 gs dr tk1 os Q E C1 fun b s2 imm2 m2 g2 h2 tk2 hK2 hs2 C2 => k b s2 imm2 m2 g2 h2 tk2 hK2 (hs1.trans hs2) C2
        · simp only [Bool.false_eq_true, if_false]; exact k _ _ _ _ _ _ _ hK hs1 C1
      have tOr : ∀ {e es p s K}, (vE I sc gl c M n true e s fun X s' => BK (K (.bool true) s') (vE I sc gl c M n true (.BoolOp .Or es p) s' K) X) → TOb I c M (.BoolOp .Or (e :: es) p) s K := by
        intro e es p s K hv h imm m g gs dr tk os Q E C k
        refine PyProof.Rows.isTrue_or (iT e s _ hv h imm m g gs dr tk os _ E C fun r s1 imm1 m1 g1 h1 tk1 hv1 hs1 C1 => ?_)
        rcases hv1.inv with ⟨e, hK⟩ | ⟨e, hK⟩ <;> cases e
        · simp only [if_true]; exact k _ _ _ _ _ _ _ hK hs1 C1
        · simp only [Bool.false_eq_true, if_false]; rw [isTrue_whole _ (eval (.BoolOp .Or es p) c.env)]; exact iT _ _ _ hK h1 imm1 m1 g1 gs dr tk1 os Q E C1 fun b s2 imm2 m2 g2 h2 tk2 hK2 hs2 C2 => k b s2 imm2 m2 g2 h2 tk2 hK2 (hs1.trans hs2) C2
      have tNot : ∀ {e p s K}, (vE I sc gl c M n true e s fun X s' => (match X with | .bool b => K (.bool (!b)) s' | _ => False)) → TOb I c M (.UnaryOp .Not e p) s K := by
        intro e p s K hv h imm m g gs dr tk os Q E C k
        exact PyProof.Rows.isTrue_not (iT e s _ hv h imm m g gs dr tk os _ E C fun r s1 imm1 m1 g1 h1 tk1 hv1 hs1 C1 => k _ _ _ _ _ _ _ hv1 hs1 C1)
      have tName : ∀ {x p s K}, (vE I sc gl c M n false (.Name x p) s fun X s' => (match X with | .bool b => K (.bool b) s' | _ => False)) → TOb I c M (.Name x p) s K := by
        intro x p s K hv h imm m g gs dr tk os Q E C k
        refine PyProof.Rows.isTrue_plain (iE _ s _ hv h imm m g gs dr tk os _ E C fun v X s1 imm1 m1 g1 h1 tk1 hv1 hr1 hs1 C1 => ?_) (by rfl)
        split at hv1
        · cases hr1; exact wpAny_truthy_bool (k _ _ _ _ _ _ _ hv1 hs1 C1)
        · exact hv1.elim
      have tPlain : ∀ {e s K}, (∀ env w, PySem.isTrue e env w = (do let v ← w; standAt e.pos; holding [v] (truthy v))) → (vE I sc gl c M n false e s fun X s' => (match X with | .bool b => K (.bool b) s' | _ => False)) → TOb I c M e s K := by
        intro e s K he hv h imm m g gs dr tk os Q E C k
        refine PyProof.Rows.isTrue_plain (iE _ s _ hv h imm m g gs dr tk os _ E C fun v X s1 imm1 m1 g1 h1 tk1 hv1 hr1 hs1 C1 => ?_) (he _ _)
        cases X with
        | bool b => cases hr1.bool_inv; exact wpAny_truthy_bool (k _ _ _ _ _ _ _ hv1 hs1 C1)
        | _ => exact hv1.elim
      cases e with
      | Name x p => exact tName hv
      | Call f es ks p => exact tPlain (fun _ _ => by rfl) hv
      | Subscript e i p => exact tPlain (fun _ _ => by rfl) hv
      | Compare a ops bs p =>
        cases ops with
        | nil => exact hv.run
        | cons op ops =>
          cases ops with
          | cons _ _ => exact hv.run
          | nil =>
            cases bs with
            | nil => exact hv.run
            | cons b bs =>
              cases bs with
              | cons _ _ => exact hv.run
              | nil => exact tCmp hv
      | BoolOp op es p =>
        cases op with
        | And =>
          cases es with
          | nil => exact fun h imm m g gs dr tk os Q E C k => PyProof.Rows.isTrue_and_nil (k _ _ _ _ _ _ _ hv sub_rfl C)
          | cons e es => exact tAnd hv
        | Or =>
          cases es with
          | nil => exact fun h imm m g gs dr tk os Q E C k => PyProof.Rows.isTrue_or_nil (k _ _ _ _ _ _ _ hv sub_rfl C)
          | cons e es => exact tOr hv
      | UnaryOp op e p =>
        cases op with
        | Not => exact tNot hv
        | _ => exact hv.run
      | _ => exact hv.run
end
noncomputable def vAsgs (f : Expr → V → MV → (MV → Prop) → Prop) : List Expr → List V → MV → (MV → Prop) → Prop
  | [], [], M, K => K M
  | t :: ts, X :: Xs, M, K => f t X M fun M' => vAsgs f ts Xs M' K
  | _, _, _, _ => False
noncomputable def vAsg (sc : Scope) : Nat → Expr → V → MV → (MV → Prop) → Prop
  | 0, _, _, _, _ => False
  | _ + 1, .Name x _, X, M, K => (match sc.names.lookup x with | some .local => K (updV M x X) | _ => False)
  | n + 1, .Tuple ts _ _, X, M, K => if plain ts then (match X with | .tup Xs => Xs.length = ts.length ∧ vAsgs (vAsg sc n) ts Xs M K | _ => False) else False
  | _ + 1, _, _, _, _ => False
noncomputable def vBinds (sc : Scope) : List Str → List V → MV → (MV → Prop) → Prop
  | [], [], M, K => K M
  | x :: ts, X :: Xs, M, K => (match sc.names.lookup x with | some .local => vBinds sc ts Xs (updV M x X) K | _ => False)
  | _, _, _, _ => False
noncomputable def isComp : Expr → Bool
  | .ListComp .. | .SetComp .. | .DictComp .. => true
  | _ => false
noncomputable def isSetE : Expr → Bool
  | .Set .. => true
  | _ => false
inductive SwOb (c : Cx) (sc : Scope) (t v : Expr) (K : Option (List Str) → Prop) : Prop
  | none : swappedStores [t] v (envX c.cn sc c.L c.a c.ccd c.cl) = pure Option.none → K Option.none → SwOb c sc t v K
  | two {a b : Str} : swappedStores [t] v (envX c.cn sc c.L c.a c.ccd c.cl) = pure (some [a, b]) → K (some [a, b]) → SwOb c sc t v K
  | three {a b d : Str} : swappedStores [t] v (envX c.cn sc c.L c.a c.ccd c.cl) = pure (some [a, b, d]) → K (some [a, b, d]) → SwOb c sc t v K
theorem SwOb.inv {c : Cx} {sc : Scope} {t v : Expr} {K : Option (List Str) → Prop} (h : SwOb c sc t v K) : ∃ r, swappedStores [t] v (envX c.cn sc c.L c.a c.ccd c.cl) = pure r ∧ K r := by
  cases h with
  | none h k => exact ⟨_, h, k⟩
  | two h k => exact ⟨_, h, k⟩
  | three h k => exact ⟨_, h, k⟩
noncomputable def vB {σ : Type} (vs : Stmt → MV → σ → KS σ → Prop) : List Stmt → MV → σ → KS σ → Prop
  | [], M, s, K => K .next M s
  | st :: r, M, s, K => vs st M s fun f M' s' => (match f with | .next => vB vs r M' s' K | .ret X => K (.ret X) M' s')
noncomputable def vFor {σ : Type} (asg : V → MV → (MV → Prop) → Prop) (body : MV → σ → KS σ → Prop) : List V → MV → σ → KS σ → Prop
  | [], M, s, K => K .next M s
  | X :: Xs, M, s, K => asg X M fun M' => body M' s fun f M'' s' => (match f with | .next => vFor asg body Xs M'' s' K | .ret Y => K (.ret Y) M'' s')
noncomputable def itemsV : V → Option (List V)
  | .tup Xs => some Xs
  | .list Xs => some Xs
  | _ => Option.none
noncomputable def isRangeV : Option Value → Bool
  | some (.type T) => T == "range"
  | _ => false
noncomputable def rangeArg : Expr → Option (Str × Expr)
  | .Call (.Name f _) [e] [] _ => some (f, e)
  | _ => Option.none
theorem rangeArg_eq {it : Expr} {f : Str} {e : Expr} (h : rangeArg it = some (f, e)) : ∃ fp cp, it = .Call (.Name f fp) [e] [] cp := by
  cases it with
  | Call g es ks p =>
    cases g with
    | Name g gp =>
      cases es with
      | nil => cases (show (Option.none : Option (Str × Expr)) = some (f, e) from h)
      | cons a es =>
        cases es with
        | cons _ _ => cases (show (Option.none : Option (Str × Expr)) = some (f, e) from h)
        | nil =>
          cases ks with
          | cons _ _ => cases (show (Option.none : Option (Str × Expr)) = some (f, e) from h)
          | nil =>
            have h2 : some (g, a) = some (f, e) := h
            cases h2
            exact ⟨_, _, rfl⟩
    | _ => cases (show (Option.none : Option (Str × Expr)) = some (f, e) from h)
  | _ => cases (show (Option.none : Option (Str × Expr)) = some (f, e) from h)
noncomputable def vS {σ : Type} (I : II σ) (sc : Scope) (gl : List (Str × Value)) (c : Cx) : Nat → Stmt → MV → σ → KS σ → Prop
  | 0, _, _, _, _ => False
  | _ + 1, .Assign [.Name x xp] e p, M, s, K => if isComp e then SW I c M (.Assign [.Name x xp] e p) s K else (match sc.names.lookup x with
    | some .local => vE I sc gl c M 40 false e s fun X s' => K .next (updV M x X) s'
    | _ => SW I c M (.Assign [.Name x xp] e p) s K)
  | _ + 1, .Assign [.Tuple ts k tp] (.Tuple vs kk vp) _, M, s, K => SwOb c sc (.Tuple ts k tp) (.Tuple vs kk vp) fun r => vE I sc gl c M 40 false (.Tuple vs kk vp) s fun X s' => (match r with
    | some names => (match X with | .tup Xs => Xs.length = names.length ∧ vBinds sc names.reverse Xs.reverse M fun M' => K .next M' s' | _ => False)
    | Option.none => vAsg sc 5 (.Tuple ts k tp) X M fun M' => K .next M' s')
  | _ + 1, .Assign [.Tuple ts k tp] e p, M, s, K => if isComp e then SW I c M (.Assign [.Tuple ts k tp] e p) s K else vE I sc gl c M 40 false e s fun X s' => vAsg sc 5 (.Tuple ts k tp) X M fun M' => K .next M' s'
  | _ + 1, .Return (some e) _, M, s, K => vE I sc gl c M 40 false e s fun X s' => K (.ret X) M s'
  | n + 1, .If t b o _, M, s, K => vE I sc gl c M 40 true t s fun X s' => BK (vB (vS I sc gl c n) b M s' K) (vB (vS I sc gl c n) o M s' K) X
  | _ + 1, .Expr e p, M, s, K => if isComp e then SW I c M (.Expr e p) s K else vE I sc gl c M 40 false e s fun _ s' => K .next M s'
  | n + 1, .For t it b [] _, M, s, K => (match rangeArg it with
    | some (f, e) => if isRangeV (gl.lookup f) && sc.names.lookup f == some .globalImplicit && !isStar e then vE I sc gl c M 40 false e s fun X s' => (match X with
      | .int (.ofNat k) => if Nat.ble k 100 then vFor (fun X M K => vAsg sc 5 t X M K) (fun M s K => vB (vS I sc gl c n) b M s K) ((List.range k).map fun i => V.int (Int.ofNat i)) M s' K else False
      | _ => False) else (if isSetE it then False else vE I sc gl c M 40 false it s fun X s' => (match itemsV X with | some Xs => vFor (fun X M K => vAsg sc 5 t X M K) (fun M s K => vB (vS I sc gl c n) b M s K) Xs M s' K | Option.none => False))
    | Option.none => (if isSetE it then False else vE I sc gl c M 40 false it s fun X s' => (match itemsV X with | some Xs => vFor (fun X M K => vAsg sc 5 t X M K) (fun M s K => vB (vS I sc gl c n) b M s K) Xs M s' K | Option.none => False)))
  | _ + 1, st, M, s, K => SW I c M st s K
noncomputable def AOb {σ : Type} (I : II σ) (c : Cx) (t : Value → Sem Unit) (M : MV) (X : V) (s : σ) (K : MV → Prop) : Prop := ∀ (h : Heap) imm m g gs dr tk os (Q : Unit → Shared → Prop) (E : Value → Shared → Prop) v, Rep imm v X → Cf I c s M imm h m g → (∀ M' m' h' tk', K M' → Cf I c s M' imm h' m' g → Q () ⟨h', gs, dr, tk', os⟩) → wpAny (model PR c.g.w) c.A (t v) Q E ⟨h, gs, dr, tk, os⟩
theorem assignEach_c {env : Env} : ∀ {ts : List Expr}, (ts.all fun e => !isStar e) = true → assignEach ts env = ts.map fun t => (false, assign t env)
  | [], _ => rfl
  | t :: ts, h => by
    simp only [List.all_cons, Bool.and_eq_true, Bool.not_eq_true'] at h
    rw [List.map_cons, ← assignEach_c h.2]
    have h1 := h.1
    cases t <;> first | rfl | (exact Bool.noConfusion (show true = false from h1))
theorem swaps_c {e : Expr} {t : Option Expr} {n : Nat} {env : Env} (h : isComp e = false) : swapsWith e t n env = pure false := by
  cases e <;> first | rfl | (exact Bool.noConfusion (show true = false from h))
theorem swaps1_c {e t : Expr} {n : Nat} {env : Env} (h : isComp e = false) : swapsWithSole [t] e n env = pure false := swaps_c h
theorem stores_c {ts : List Expr} {k : Nat} {tp : Pos} {e : Expr} {env : Env} (h : ∀ vs kk vp, e ≠ .Tuple vs kk vp) : swappedStores [.Tuple ts k tp] e env = pure none := by
  cases e <;> first | rfl | exact absurd rfl (h _ _ _)
theorem folded_c {e : Expr} {env : Env} (h : isSetE e = false) (x : Value) : foldedSetIterable e env x = pure x := by
  cases e <;> first | rfl | (exact Bool.noConfusion (show true = false from h))
theorem allObj_of : ∀ {ws : List (Addr × String)} {k : Led → Prop}, (∀ its, Objs ws its → k its) → AllObj ws k
  | [], _, h => h [] trivial
  | w :: ws, _, h => fun o e => allObj_of fun its hi => h ((w.1, o) :: its) ⟨⟨rfl, e⟩, hi⟩
theorem objs_ws : ∀ {ws : List (Addr × String)} {its : Led}, Objs ws its → ∀ p ∈ its, ∃ w ∈ ws, p.1 = w.1 ∧ p.2.cls = .type w.2
  | [], [], _, p, hp => nomatch hp
  | [], _ :: _, h, _, _ => (show False from h).elim
  | _ :: _, [], h, _, _ => (show False from h).elim
  | w :: ws, q :: its, h, p, hp => by
    rcases List.mem_cons.mp hp with rfl | hp
    · exact ⟨w, .head _, h.1⟩
    · obtain ⟨w', hw, e⟩ := objs_ws h.2 p hp
      exact ⟨w', .tail _ hw, e⟩
theorem ws_objs : ∀ {ws : List (Addr × String)} {its : Led}, Objs ws its → ∀ w ∈ ws, ∃ p ∈ its, p.1 = w.1 ∧ p.2.cls = .type w.2
  | [], _, _, w, hw => nomatch hw
  | _ :: _, [], h, _, _ => (show False from h).elim
  | w :: ws, q :: its, h, w', hw => by
    rcases List.mem_cons.mp hw with rfl | hw
    · exact ⟨q, .head _, h.1⟩
    · obtain ⟨p, hp, e⟩ := ws_objs h.2 w' hw
      exact ⟨p, .tail _ hp, e⟩
theorem subl_of : ∀ {l all : Led}, (∀ p ∈ l, p ∈ all) → SubL l all
  | [], _, _ => trivial
  | p :: r, _, h => ⟨h p (.head _), subl_of fun q hq => h q (.tail _ hq)⟩
/-- what a loop hands out stands for pure values -/
inductive ItR (imm : Led) : Itm → V → Prop
  | val {v : Value} {X : V} : Rep imm v X → ItR imm (.val v) X
  | int {i : Int} : ItR imm (.tok fun t => .int i t) (.int i)
inductive ItsR (imm : Led) : List Itm → List V → Prop
  | nil : ItsR imm [] []
  | cons {x : Itm} {X : V} {xs : List Itm} {Xs : List V} : ItR imm x X → ItsR imm xs Xs → ItsR imm (x :: xs) (X :: Xs)
theorem ItsR.gr {l l' : Led} (k : Gr l l') {xs : List Itm} {Xs : List V} (h : ItsR l xs Xs) : ItsR l' xs Xs := by
  induction h with
  | nil => exact .nil
  | cons h _ ih =>
    refine .cons ?_ ih
    cases h with
    | val h => exact .val (h.gr k)
    | int => exact .int
theorem ItsR.of {l : Led} {vs : List Value} {Xs : List V} (h : Reps l vs Xs) : ItsR l (vs.map .val) Xs := by
  induction h with
  | nil => exact .nil
  | cons h _ ih => exact .cons (.val h) ih
theorem Gr.trans {a b d : Led} (h : Gr a b) (k : Gr b d) : Gr a d := ⟨fun _ _ x => k.t _ _ (h.t _ _ x), fun _ _ _ x => k.l _ _ _ (h.l _ _ _ x)⟩
section
variable {σ : Type} {I : II σ} {c : Cx} {sc : Scope} {gl : List (Str × Value)}
theorem items_ok [IMono I] {t : Expr} {body : List Stmt} {asg : V → MV → (MV → Prop) → Prop} {bd : MV → σ → KS σ → Prop} (hA : ∀ X M s K, asg X M K → AOb I c (assign t c.env) M X s K) (hB : ∀ M s K, bd M s K → BOb I c M body s K)
    {K : KS σ} {ws : List (Addr × String)} (hws : ∀ w ∈ ws, w.2 ≠ "tuple" ∧ w.2 ≠ "list") {imm₀ keep : Led} (hk : ∀ p ∈ keep, p ∈ imm₀) (h0 : ∀ p ∈ imm₀, ∀ w ∈ ws, p.1 ≠ w.1) {h1 : Heap} {gs dr tk1 os} {Q : Flow → Shared → Prop} {E : Value → Shared → Prop} (hE : PassesOwn (model PR c.g.w) c.A c.env E)
    (ret : ∀ f f' M' s' imm' m' g' h' tk', K f' M' s' → RF imm' f f' → Sub imm₀ imm' → Cf I c s' M' imm' h' m' g' → Q f ⟨h', gs, dr, tk', os⟩) :
    ∀ (xs : List Itm) (Xs : List V) (M : MV) (s : σ) (imm : Led) (m : MM) (g : Led), ItsR imm xs Xs → vFor asg bd Xs M s K → I s imm g → (∀ p ∈ g, ∀ q ∈ imm, p.1 ≠ q.1) → (∀ x X, M x = some X → ∃ v, m x = some v ∧ Rep imm v X) → (∀ p ∈ g ++ imm, ∀ w ∈ ws, p.1 ≠ w.1) → Sub imm₀ imm →
      ItemsRest PR c.g.w c.A E c.h₀ c.env t body Q ⟨h1, gs, dr, tk1, os⟩ ws keep xs m (g ++ imm) := by
  intro xs
  induction xs with
  | nil =>
    intro Xs M s imm m g hx hv hI hd hr ho hs
    cases hx
    exact ItemsRest.zero fun h tk F N => ret _ _ _ _ _ _ _ _ _ hv .next hs ⟨F, N, hI, hd, hr⟩
  | cons x xs ih =>
    intro Xs M s imm m g hx hv hI hd hr ho hs
    cases hx with
    | @cons _ X _ Xs hX hXs =>
      intro v h tk hiv F
      have hrv : Rep imm v X := by
        cases hX with
        | val h => have e : v = _ := hiv; subst e; exact h
        | int => obtain ⟨t, e⟩ := hiv; subst e; exact .int
      refine allObj_of fun its hO N => ?_
      have S1 : Sub imm (its ++ imm) := fun p hp => List.mem_append.mpr (.inr hp)
      have C1 : Cf I c s M (its ++ imm) h m g := ⟨F, News.subl N fun p hp => by
        rcases List.mem_append.mp hp with hp | hp
        · exact List.mem_append.mpr (.inr (List.mem_append.mpr (.inl hp)))
        · exact (List.mem_append.mp hp).elim (fun hp => List.mem_append.mpr (.inl hp)) fun hp => List.mem_append.mpr (.inr (List.mem_append.mpr (.inr hp))), IMono.mono hI (gr_of S1), fun p hp q hq => by
        rcases List.mem_append.mp hq with hq | hq
        · obtain ⟨w, hw, e, _⟩ := objs_ws hO q hq
          rw [e]; exact ho p (List.mem_append.mpr (.inl hp)) w hw
        · exact hd p hp q hq, fun x X e => let ⟨v, e1, e2⟩ := hr x X e; ⟨v, e1, e2.mono S1⟩⟩
      refine hA X M s _ hv h _ m g gs dr tk os _ E v (hrv.mono S1) C1 fun M1 m1 h2 tk2 hv2 C2 => ?_
      refine hB M1 s _ hv2 h2 _ m1 g gs dr tk2 os _ E hE C2 fun f f' M2 s2 imm2 m2 g2 h3 tk3 hK hRF hS C3 => ?_
      cases hRF with
      | @ret v Y hY => exact ret _ _ _ _ _ _ _ _ _ hK (.ret hY) ((hs.trans S1).trans hS) C3
      | next =>
        have hK : vFor asg bd Xs M2 s2 K := hK
        let off : Addr × Obj → Bool := fun p => ws.all fun w => decide (p.1 ≠ w.1)
        have hoff : ∀ p, off p = true ↔ ∀ w ∈ ws, p.1 ≠ w.1 := fun p => by simp [off, List.all_eq_true]
        have hSf : Sub (imm2.filter off) imm2 := fun p hp => (List.mem_filter.mp hp).1
        have key : ∀ p ∈ imm2, (∀ w ∈ ws, p.2.cls ≠ .type w.2) → p ∈ imm2.filter off := fun p hp hc => List.mem_filter.mpr ⟨hp, (hoff p).mpr fun w hw e => by
          obtain ⟨q, hq, e1, e2⟩ := ws_objs hO w hw
          have n1 := (C3.N p (List.mem_append.mpr (.inr hp))).1
          have n2 := (C3.N q (List.mem_append.mpr (.inr (hS q (List.mem_append.mpr (.inl hq)))))).1
          rw [e1, ← e, n1] at n2
          have := Option.some.inj n2
          exact hc w hw (by rw [this]; exact e2)⟩
        have hG : Gr imm2 (imm2.filter off) := ⟨fun a xs h => key _ h fun w hw e => (hws w hw).1 (Value.type.inj e).symm, fun a xs n h => key _ h fun w hw e => (hws w hw).2 (Value.type.inj e).symm⟩
        refine ⟨h3, tk3, m2, g2 ++ imm2.filter off, rfl, C3.F, ?_, ?_, ?_, ?_⟩
        · exact News.subl C3.N fun p hp => by
            rcases List.mem_append.mp hp with hp | hp
            · exact List.mem_append.mpr (.inr (hS p (List.mem_append.mpr (.inl hp))))
            · exact (List.mem_append.mp hp).elim (fun hp => List.mem_append.mpr (.inl hp)) fun hp => List.mem_append.mpr (.inr (hSf p hp))
        · intro p hp q hq
          obtain ⟨w, hw, e, _⟩ := objs_ws hO q hq
          rcases List.mem_append.mp hp with hp | hp
          · exact C3.d p hp q (hS q (List.mem_append.mpr (.inl hq)))
          · rw [e]; exact (hoff p).mp (List.mem_filter.mp hp).2 w hw
        · exact subl_of fun p hp => List.mem_append.mpr (.inr (List.mem_filter.mpr ⟨hS p (S1 p (hs p (hk p hp))), (hoff p).mpr (h0 p (hk p hp))⟩))
        · refine ih Xs M2 s2 (imm2.filter off) m2 g2 (hXs.gr ((gr_of (S1.trans hS)).trans hG)) hK (IMono.mono C3.i hG) (fun p hp q hq => C3.d p hp q (hSf q hq)) (fun x X e => let ⟨v, e1, e2⟩ := C3.r x X e; ⟨v, e1, e2.gr hG⟩) (fun p hp w hw => ?_) fun p hp => List.mem_filter.mpr ⟨hS p (S1 p (hs p hp)), (hoff p).mpr (h0 p hp)⟩
          rcases List.mem_append.mp hp with hp | hp
          · obtain ⟨q, hq, e1, _⟩ := ws_objs hO w hw
            rw [← e1]; exact C3.d p hp q (hS q (List.mem_append.mpr (.inl hq)))
          · exact (hoff p).mp (List.mem_filter.mp hp).2 w hw
theorem for_ok [IMono I] {t it : Expr} {body : List Stmt} {pos : Pos} {asg : V → MV → (MV → Prop) → Prop} {bd : MV → σ → KS σ → Prop} (hA : ∀ X M s K, asg X M K → AOb I c (assign t c.env) M X s K) (hB : ∀ M s K, bd M s K → BOb I c M body s K) (hit : isSetE it = false)
    {M : MV} {s : σ} {K : KS σ} (hv : EOb I c M it s fun X s' => (match itemsV X with | some Xs => vFor asg bd Xs M s' K | Option.none => False)) : SOb I c M (.For t it body [] pos) s K := by
  intro h imm m g gs dr tk os Q E hE C k
  refine For_turns C.F (hv h imm m g gs dr tk os _ E C fun v X s1 imm1 m1 g1 h1 tk1 hv1 hr1 hs1 C1 => ?_) (folded_c hit) hE
  have hv1 : (match itemsV X with | some Xs => vFor asg bd Xs M s1 K | Option.none => False) := hv1
  split at hv1
  case h_2 => exact hv1.elim
  rename_i Xs hX
  unfold itemsV at hX
  split at hX <;> first | cases hX | skip
  · obtain ⟨a, xs, rfl, hm, hq⟩ := hr1.tup_inv
    refine iter_tupTurns rfl C1.F C1.N (C1.tup hm) rfl rfl fun Ia lI => ?_
    exact items_ok hA hB (K := K) (imm₀ := imm1) (by simp) (fun p hp => by rw [List.mem_singleton.mp hp]; exact hm) (fun p hp w hw => by rw [List.mem_singleton.mp hw]; exact Nat.ne_of_lt (lI p (List.mem_append.mpr (.inr hp)))) hE
      (fun f f' M' s' imm' m' g' h' tk' a1 a2 a3 a4 => k f f' M' s' imm' m' g' h' tk' a1 a2 (hs1.trans a3) a4) _ _ M s1 imm1 m1 g1 (ItsR.of hq) hv1 C1.i C1.d C1.r (fun p hp w hw => by rw [List.mem_singleton.mp hw]; exact Nat.ne_of_lt (lI p hp)) sub_rfl
  · obtain ⟨a, xs, n, rfl, hm, hq⟩ := hr1.list_inv
    refine iter_listTurns rfl C1.F C1.N (C1.tup' hm) rfl rfl fun Ia lI => ?_
    exact items_ok hA hB (K := K) (imm₀ := imm1) (by simp) (fun p hp => by rw [List.mem_singleton.mp hp]; exact hm) (fun p hp w hw => by rw [List.mem_singleton.mp hw]; exact Nat.ne_of_lt (lI p (List.mem_append.mpr (.inr hp)))) hE
      (fun f f' M' s' imm' m' g' h' tk' a1 a2 a3 a4 => k f f' M' s' imm' m' g' h' tk' a1 a2 (hs1.trans a3) a4) _ _ M s1 imm1 m1 g1 (ItsR.of hq) hv1 C1.i C1.d C1.r (fun p hp w hw => by rw [List.mem_singleton.mp hw]; exact Nat.ne_of_lt (lI p hp)) sub_rfl
theorem letGo_range {prog : Program} {w : World} {A : Around} {E : Value → Shared → Prop} {target : Expr} {I : Addr} {x l st : Int} {v : Value} {Q' : Unit → Shared → Prop} {s' : Shared} (hit : IsRangeIter s'.heap I x l st) (h : Q' () s') :
    wpAny (model prog w) A (letOwnedTupleGo target (.ref I) v) Q' E s' := by
  have ho : s'.heap.get? I = some _ := hit
  unfold letOwnedTupleGo
  cases target <;> first
    | exact wpAny_pure h
    | (cases v <;> first
        | exact wpAny_pure h
        | (refine wpAny_bind (wpAny_load ho ?_)
           exact wpAny_pure h))
theorem range_items {imm : Led} : ∀ k : Nat, ItsR imm ((List.range k).map fun i => Itm.tok fun t => .int (Int.ofNat i) t) ((List.range k).map fun i => V.int (Int.ofNat i)) := by
  intro k
  have : ∀ l : List Nat, ItsR imm (l.map fun i => Itm.tok fun t => .int (Int.ofNat i) t) (l.map fun i => V.int (Int.ofNat i)) := by
    intro l
    induction l with
    | nil => exact .nil
    | cons a l ih => exact .cons .int ih
  exact this _
theorem iter_rangeTurns {prog : Program} {w : World} {A : Around} {E : Value → Shared → Prop} {s : Shared} {env : Env} {h₀ : Heap} {target : Expr} {body : List Stmt} {Q : Flow → Shared → Prop} {r : Addr} {k : Nat} {t₀ u₀ v₀ : Tok} {m₀ : Str → Option Value} {news : Led}
    (hh : A.handled = none) (hr : IsRange s.heap r 0 (k : Int) 1 t₀ u₀ v₀) (hk : k ≤ 100) (F : Fr h₀ env.locals s.heap m₀) (N : News h₀ env.locals s.heap news)
    (rest₀ : ∀ I : Addr, (∀ p ∈ news, p.1 < I) → ItemsRest prog w A E h₀ env target body Q s [(I, "range_iterator")] [] ((List.range k).map fun i => Itm.tok fun t => .int (Int.ofNat i) t) m₀ news) :
    wpAny (model prog w) A (pyIter (.ref r)) (fun it s₂ => TurnsAt prog w A h₀ env target body Q E it s₂) E s := by
  have hn : Builtin.Range.rangeSize 0 (k : Int) 1 = (k : Int) := by
    unfold Builtin.Range.rangeSize
    simp; try omega
  refine wpAny_pyIter_range hr ((show ∀ k, k ≤ 100 → Builtin.Range.small 0 ((k : Nat) : Int) 1 = true by decide +kernel) k hk) ?_
  rw [hn]
  refine ktu_core (tk0 := s.toks) (keep := []) (n := k) (KTurns.ofWalks (Walks.range hh s.heap.objs.size 0 1 k).bound fun i v s Q E st q => letGo_range st q) (by simp) (fun i v h hp => ?_) (fun i h st => ?_) (fun b hb => ?_) (fun b hb => by simpa using hb) (fun b hb => ?_) ?_ (fun p hp hI => ?_) ?_ (F.push _) (fun p hp => ⟨Heap.get?_push_of_some _ (N p hp).1, (N p hp).2⟩) trivial (rest₀ _ fun p hp => Heap.lt_size (N p hp).1)
  · obtain ⟨hi, t, rfl⟩ := hp
    exact ⟨Itm.tok fun t => .int (Int.ofNat i) t, by rw [List.getElem?_map, List.getElem?_range hi]; rfl, t, by show Value.int _ t = Value.int _ t; congr 1; simp⟩
  · exact ⟨[(s.heap.objs.size, _)], ⟨⟨rfl, rfl⟩, trivial⟩, fun p hp => by rw [List.mem_singleton.mp hp]; exact st⟩
  · have hb' : b = s.heap.objs.size := by simpa using hb
    rw [hb']
    exact ⟨List.mem_cons_self .., next_is_new F⟩
  · exact .inl (by simpa using hb)
  · intro hI
    exact absurd F.ns.lt ((List.mem_singleton.mp hI) ▸ Nat.lt_irrefl _)
  · exact absurd (Heap.lt_size (N p hp).1) ((List.mem_singleton.mp hI) ▸ Nat.lt_irrefl _)
  · show IsRangeIter _ _ _ _ _
    simpa using Heap.get?_push_size _ rfl
theorem forr_ok [IMono I] {t e : Expr} {f : Str} {fp cp : Pos} {body : List Stmt} {pos : Pos} {asg : V → MV → (MV → Prop) → Prop} {bd : MV → σ → KS σ → Prop} (hA : ∀ X M s K, asg X M K → AOb I c (assign t c.env) M X s K) (hB : ∀ M s K, bd M s K → BOb I c M body s K) (ok : c.Ok) (hx : c.cs.names.lookup f = some .globalImplicit) (hg : GlOne c (f, .type "range") ∧ (f == Str.ofString "__debug__") = false) (he : isStar e = false)
    {M : MV} {s : σ} {K : KS σ} (hv : EOb I c M e s fun X s' => (match X with
      | .int (.ofNat k) => if Nat.ble k 100 then vFor asg bd ((List.range k).map fun i => V.int (Int.ofNat i)) M s' K else False
      | _ => False)) : SOb I c M (.For t (.Call (.Name f fp) [e] [] cp) body [] pos) s K := by
  intro h imm m g gs dr tk os Q E hE C k
  obtain ⟨hg1, hg2⟩ := hg
  cases hg1 with
  | glob _ h2 => exact nomatch h2
  | typ h1 h2 h3 =>
    refine For_turns C.F (PyProof.Rows.Call_ (nameX_B C.F ok.X (topRead_of ok.T) h1 h2 h3 ?_ ok.hk hx hg2) (by rfl)) (folded_c rfl) hE
    refine Pv.callWith_type1 ?_ (starEach_c he) rfl
    refine args_cons (hv h imm m g gs dr tk os _ E C fun v X s1 imm1 m1 g1 h1 tk1 hv1 hr1 hs1 C1 => args_nil ?_) (starEach_c he)
    cases X with
    | int z =>
      cases z with
      | ofNat n =>
        have hv1 : (if Nat.ble n 100 then vFor asg bd ((List.range n).map fun i => V.int (Int.ofNat i)) M s1 K else False) := hv1
        split at hv1
        · rename_i hn
          have hn := Nat.le_of_ble_eq_true hn
          cases hr1
          refine range1_rows C1.F C1.N fun h2 tk2 t1 u1 v1 hR F2 N2 _ => ?_
          refine iter_rangeTurns rfl hR hn F2 N2 fun Ia lI => ?_
          exact items_ok hA hB (K := K) (imm₀ := imm1) (keep := []) (by simp) (fun p hp => nomatch hp) (fun p hp w hw => by rw [List.mem_singleton.mp hw]; exact Nat.ne_of_lt (lI p (List.mem_append.mpr (.inr hp)))) hE
            (fun f f' M' s' imm' m' g' h' tk' a1 a2 a3 a4 => k f f' M' s' imm' m' g' h' tk' a1 a2 (hs1.trans a3) a4) _ _ M s1 imm1 m1 g1 (range_items n) hv1 C1.i C1.d C1.r (fun p hp w hw => by rw [List.mem_singleton.mp hw]; exact Nat.ne_of_lt (lI p hp)) sub_rfl
        · exact hv1.elim
      | negSucc n => exact hv1.elim
    | _ => exact hv1.elim
theorem store_ok (ok : c.Ok) (hsc : c.cs = sc) {x : Str} {X : V} {M : MV} {s : σ} {K : MV → Prop} (hx : sc.names.lookup x = some .local) (hK : K (updV M x X)) : AOb I c (storeName c.env x) M X s K := by
  subst hsc
  exact fun h imm m g gs dr tk os Q E v hr C k => storeX_L C.F C.N (fun h' F' N' => k _ _ h' _ hK (C.upd hr F' N')) ok.hk hx
theorem asgs_ok {n : Nat} (ih : ∀ t X M s K, vAsg sc n t X M K → AOb I c (assign t c.env) M X s K) : ∀ {ts : List Expr} {Xs : List V} {M : MV} {s : σ} {K : MV → Prop}, vAsgs (vAsg sc n) ts Xs M K →
    ∀ (h : Heap) imm m g gs dr tk os (Q : Unit → Shared → Prop) (E : Value → Shared → Prop) xs, Reps imm xs Xs → Cf I c s M imm h m g → (∀ M' m' h' tk', K M' → Cf I c s M' imm h' m' g → Q () ⟨h', gs, dr, tk', os⟩) → wpAny (model PR c.g.w) c.A (assignInOrder (ts.map fun t => assign t c.env) xs) Q E ⟨h, gs, dr, tk, os⟩
  | [], [], M, s, K, hv => fun h imm m g gs dr tk os Q E xs hr C k => by cases hr; exact assignInOrder_nil (k M m h tk hv C)
  | t :: ts, [], M, s, K, hv => hv.elim
  | [], x :: xs, M, s, K, hv => hv.elim
  | t :: ts, X :: Xs, M, s, K, hv => fun h imm m g gs dr tk os Q E xs hr C k => by
    cases hr with
    | cons hx hr => exact assignInOrder_cons (ih t X M s _ hv h imm m g gs dr tk os _ E _ hx C fun M' m' h' tk' hK C' => asgs_ok ih hK h' imm m' g gs dr tk' os Q E _ hr C' k)
theorem binds_ok (ok : c.Ok) (hsc : c.cs = sc) : ∀ {ts : List Str} {Xs : List V} {M : MV} {s : σ} {K : MV → Prop}, vBinds sc ts Xs M K →
    ∀ (h : Heap) imm m g gs dr tk os (Q : Unit → Shared → Prop) (E : Value → Shared → Prop) xs, Reps imm xs Xs → Cf I c s M imm h m g → (∀ M' m' h' tk', K M' → Cf I c s M' imm h' m' g → Q () ⟨h', gs, dr, tk', os⟩) → wpAny (model PR c.g.w) c.A (assignInOrder (ts.map fun n => bindName c.env n) xs) Q E ⟨h, gs, dr, tk, os⟩
  | [], [], M, s, K, hv => fun h imm m g gs dr tk os Q E xs hr C k => by cases hr; exact assignInOrder_nil (k M m h tk hv C)
  | t :: ts, [], M, s, K, hv => hv.elim
  | [], x :: xs, M, s, K, hv => hv.elim
  | t :: ts, X :: Xs, M, s, K, hv => fun h imm m g gs dr tk os Q E xs hr C k => by
    unfold vBinds at hv
    split at hv
    · rename_i hl
      cases hr with
      | cons hx hr => exact assignInOrder_cons (bindName_ (store_ok ok hsc hl hv h imm m g gs dr tk os _ E _ hx C fun M' m' h' tk' hK C' => binds_ok ok hsc hK h' imm m' g gs dr tk' os Q E _ hr C' k))
    · exact hv.elim
theorem Reps.rev {l : Led} {vs : List Value} {Xs : List V} (h : Reps l vs Xs) : Reps l vs.reverse Xs.reverse := by
  induction h with
  | nil => exact .nil
  | cons h _ ih => rw [List.reverse_cons, List.reverse_cons]; exact ih.app (.cons h .nil)
theorem asg_ok (ok : c.Ok) (hsc : c.cs = sc) : ∀ n t X M s K, vAsg sc n t X M K → AOb I c (assign t c.env) M X s K := by
  intro n
  induction n with
  | zero => intro t X M s K hv; exact hv.elim
  | succ n ih =>
    intro t X M s K hv
    cases t with
    | Name x p =>
      have hv : (match sc.names.lookup x with | some .local => K (updV M x X) | _ => False) := hv
      split at hv
      · rename_i hl
        exact fun h imm m g gs dr tk os Q E v hr C k => PyProof.Rows.assign_Name (store_ok ok hsc hl hv h imm m g gs dr tk os Q E v hr C k)
      · exact hv.elim
    | Tuple ts k p =>
      have hv : (if plain ts then (match (generalizing := false) X with | .tup Xs => Xs.length = ts.length ∧ vAsgs (vAsg sc n) ts Xs M K | _ => False) else False) := hv
      split at hv
      · rename_i hp
        simp only [plain, Bool.and_eq_true] at hp
        split at hv
        · obtain ⟨hl, hv⟩ := hv
          intro h imm m g gs dr tk os Q E v hr C k
          obtain ⟨a, xs, rfl, hm, hq⟩ := hr.tup_inv
          have hl := hq.len.trans hl
          have e := assignEach_c (env := c.env) hp.1
          refine unpackN_ C.F C.N (News.isTup C.N (C.tup hm)) rfl (by rw [e]; simp [hl]) (by rw [e]; simp [List.findIdx?_eq_none_iff]) fun h' F' N' => ?_
          rw [e, List.map_map]
          exact asgs_ok ih hv h' imm m g gs dr tk os Q E _ hq (C.heap F' N') k
        · exact hv.elim
      · exact hv.elim
    | _ => exact hv.elim
theorem vB_ok {n : Nat} (ih : ∀ st M s K, vS I sc gl c n st M s K → SOb I c M st s K) : ∀ b M s K, vB (vS I sc gl c n) b M s K → BOb I c M b s K
  | [], M, s, K, hv => fun h imm m g gs dr tk os Q E hE C k => wpAny_execs_nil (k _ _ _ _ _ _ _ _ _ hv .next sub_rfl C)
  | st :: r, M, s, K, hv => fun h imm m g gs dr tk os Q E hE C k => wpAny_execs_cons (ih st M s _ hv h imm m g gs dr tk os _ E hE C fun f f' M' s' imm' m' g' h' tk' hK hRF hS C' => by
      cases hRF with
      | next => exact vB_ok ih r M' s' K hK h' imm' m' g' gs dr tk' os Q E hE C' fun f f' M2 s2 imm2 m2 g2 h2 tk2 a1 a2 a3 a4 => k f f' M2 s2 imm2 m2 g2 h2 tk2 a1 a2 (hS.trans a3) a4
      | ret hr => exact k _ _ _ _ _ _ _ _ _ hK (.ret hr) hS C')
theorem vS_ok [IMono I] (ok : c.Ok) (hsc : c.cs = sc) (hgl : GlOk c gl) (hdb : sc.names.lookup (Str.ofString "__debug__") = none) : ∀ n st M s K, vS I sc gl c n st M s K → SOb I c M st s K := by
  have iE : ∀ {M e s K}, vE I sc gl c M 40 false e s K → EOb I c M e s K := fun {M e s K} h => (vE_ok (M := M) ok hsc hgl hdb 40).1 e s K h
  have iT : ∀ {M e s K}, vE I sc gl c M 40 true e s K → TOb I c M e s K := fun {M e s K} h => (vE_ok (M := M) ok hsc hgl hdb 40).2 e s K h
  have hAN : ∀ {x xp e p M s K}, (if isComp e then SW I c M (.Assign [.Name x xp] e p) s K else (match sc.names.lookup x with
    | some .local => vE I sc gl c M 40 false e s fun X s' => K .next (updV M x X) s'
    | _ => SW I c M (.Assign [.Name x xp] e p) s K)) → SOb I c M (.Assign [.Name x xp] e p) s K := by
    intro x xp e p M s K hv
    split at hv
    · exact hv.run
    · rename_i hc
      split at hv
      · rename_i hl
        exact fun h imm m g gs dr tk os Q E hE C k => wpAny_Assign_Name (iE hv h imm m g gs dr tk os _ E C fun v X s1 imm1 m1 g1 h1 tk1 hK hr hs C1 => store_ok ok hsc (K := fun M' => K .next M' s1) hl hK h1 imm1 m1 g1 gs dr tk1 os _ E v hr C1 fun M' m2 h2 tk2 hK2 C2 => k _ _ _ _ _ _ _ _ _ hK2 .next hs C2) (swaps_c (by simpa using hc))
      · exact hv.run
  have hAT : ∀ {ts kk tp e p M s K}, (∀ vs a b, e ≠ .Tuple vs a b) → (if isComp e then SW I c M (.Assign [.Tuple ts kk tp] e p) s K else vE I sc gl c M 40 false e s fun X s' => vAsg sc 5 (.Tuple ts kk tp) X M fun M' => K .next M' s') → SOb I c M (.Assign [.Tuple ts kk tp] e p) s K := by
    intro ts kk tp e p M s K he hv
    split at hv
    · exact hv.run
    · rename_i hc
      exact fun h imm m g gs dr tk os Q E hE C k => Assign_Tuple (iE hv h imm m g gs dr tk os _ E C fun v X s1 imm1 m1 g1 h1 tk1 hK hr hs C1 => asg_ok ok hsc 5 _ X M s1 _ hK h1 imm1 m1 g1 gs dr tk1 os _ E v hr C1 fun M' m2 h2 tk2 hK2 C2 => k _ _ _ _ _ _ _ _ _ hK2 .next hs C2) (swaps1_c (by simpa using hc)) (stores_c he)
  have hAS : ∀ {ts kk tp vs kv vp p M s K}, (SwOb c sc (.Tuple ts kk tp) (.Tuple vs kv vp) fun r => vE I sc gl c M 40 false (.Tuple vs kv vp) s fun X s' => (match r with
    | some names => (match X with | .tup Xs => Xs.length = names.length ∧ vBinds sc names.reverse Xs.reverse M fun M' => K .next M' s' | _ => False)
    | Option.none => vAsg sc 5 (.Tuple ts kk tp) X M fun M' => K .next M' s')) → SOb I c M (.Assign [.Tuple ts kk tp] (.Tuple vs kv vp) p) s K := by
    intro ts kk tp vs kv vp p M s K hv
    obtain ⟨r, hs, hv⟩ := hv.inv
    rw [← hsc] at hs
    intro h imm m g gs dr tk os Q E hE C k
    cases r with
    | some names =>
      refine Assign_Tuple_swapped (names := names) (iE hv h imm m g gs dr tk os _ E C fun v X s1 imm1 m1 g1 h1 tk1 hK hr hs1 C1 => ?_) (swaps1_c rfl) hs
      have hK2 : (match (generalizing := false) X with | .tup Xs => Xs.length = names.length ∧ vBinds sc names.reverse Xs.reverse M fun M' => K .next M' s1 | _ => False) := hK
      clear hK
      split at hK2
      · obtain ⟨hl, hK⟩ := hK2
        obtain ⟨a, xs, rfl, hm, hq⟩ := hr.tup_inv
        refine unpackItemsN_ C1.F C1.N (News.isTup C1.N (C1.tup hm)) rfl (by simpa using (hq.len.trans hl).symm) fun h2 F2 N2 => ?_
        exact binds_ok ok hsc hK h2 imm1 m1 g1 gs dr tk1 os _ E _ hq.rev (C1.heap F2 N2) fun M' m3 h3 tk3 hK3 C3 => k _ _ _ _ _ _ _ _ _ hK3 .next hs1 C3
      · exact hK2.elim
    | none =>
      exact Assign_Tuple (iE hv h imm m g gs dr tk os _ E C fun v X s1 imm1 m1 g1 h1 tk1 hK hr hs C1 => asg_ok ok hsc 5 _ X M s1 _ hK h1 imm1 m1 g1 gs dr tk1 os _ E v hr C1 fun M' m2 h2 tk2 hK2 C2 => k _ _ _ _ _ _ _ _ _ hK2 .next hs C2) (swaps1_c rfl) hs
  intro n
  induction n with
  | zero => intro st M s K hv; exact hv.elim
  | succ n ih =>
    intro st M s K hv
    cases st with
    | Assign ts e p =>
      cases ts with
      | nil => exact hv.run
      | cons t ts =>
        cases ts with
        | cons _ _ => cases t <;> exact hv.run
        | nil =>
          cases t with
          | Name x xp => exact hAN hv
          | Tuple ts k tp =>
            cases e with
            | Tuple vs kk vp => exact hAS hv
            | _ => exact hAT (by intro _ _ _ h; cases h) hv
          | _ => exact hv.run
    | Return e p =>
      cases e with
      | none => exact hv.run
      | some e => exact fun h imm m g gs dr tk os Q E hE C k => wpAny_Return_some (iE (show vE I sc gl c M 40 false e s _ from hv) h imm m g gs dr tk os _ E C fun v X s1 imm1 m1 g1 h1 tk1 hK hr hs C1 => k _ _ _ _ _ _ _ _ _ hK (.ret hr) hs C1)
    | «If» t b o p =>
      have hv : vE I sc gl c M 40 true t s fun X s' => BK (vB (vS I sc gl c n) b M s' K) (vB (vS I sc gl c n) o M s' K) X := hv
      intro h imm m g gs dr tk os Q E hE C k
      refine wpAny_If (iT hv h imm m g gs dr tk os _ E C fun r s1 imm1 m1 g1 h1 tk1 hK hs C1 => ?_)
      have k' := fun f f' M2 s2 imm2 m2 g2 h2 tk2 a1 a2 (a3 : Sub imm1 imm2) a4 => k f f' M2 s2 imm2 m2 g2 h2 tk2 a1 a2 (hs.trans a3) a4
      rcases hK.inv with ⟨e, hK2⟩ | ⟨e, hK2⟩ <;> cases e
      · simp only [if_true]; exact vB_ok ih b M s1 K hK2 h1 imm1 m1 g1 gs dr tk1 os Q E hE C1 k'
      · simp only [Bool.false_eq_true, if_false]; exact vB_ok ih o M s1 K hK2 h1 imm1 m1 g1 gs dr tk1 os Q E hE C1 k'
    | Expr e p =>
      have hv : (if isComp e then SW I c M (.Expr e p) s K else vE I sc gl c M 40 false e s fun _ s' => K .next M s') := hv
      split at hv
      · exact hv.run
      · rename_i hc
        exact fun h imm m g gs dr tk os Q E hE C k => wpAny_Expr_any (iE hv h imm m g gs dr tk os _ E C fun v X s1 imm1 m1 g1 h1 tk1 hK hr hs C1 => k _ _ _ _ _ _ _ _ _ hK .next hs C1) (by unfold interactive; have := ok.hk; show ((c.cs.kind == .module) && _) = false; rw [this]; rfl) (swaps_c (by simpa using hc))
    | For t it b o p =>
      cases o with
      | nil =>
        have general : ∀ {it : Expr}, (if isSetE it then False else vE I sc gl c M 40 false it s fun X s' => (match itemsV X with | some Xs => vFor (fun X M K => vAsg sc 5 t X M K) (fun M s K => vB (vS I sc gl c n) b M s K) Xs M s' K | Option.none => False)) → SOb I c M (.For t it b [] p) s K := by
          intro it hv
          split at hv
          · exact hv.elim
          · rename_i hi
            exact for_ok (asg := fun X M K => vAsg sc 5 t X M K) (bd := fun M s K => vB (vS I sc gl c n) b M s K) (fun X M s K => asg_ok ok hsc 5 t X M s K) (fun M s K => vB_ok ih b M s K) (by simpa using hi) (iE hv)
        have hv : (match rangeArg it with
    | some (f, e) => if isRangeV (gl.lookup f) && sc.names.lookup f == some .globalImplicit && !isStar e then vE I sc gl c M 40 false e s fun X s' => (match X with
      | .int (.ofNat k) => if Nat.ble k 100 then vFor (fun X M K => vAsg sc 5 t X M K) (fun M s K => vB (vS I sc gl c n) b M s K) ((List.range k).map fun i => V.int (Int.ofNat i)) M s' K else False
      | _ => False) else (if isSetE it then False else vE I sc gl c M 40 false it s fun X s' => (match itemsV X with | some Xs => vFor (fun X M K => vAsg sc 5 t X M K) (fun M s K => vB (vS I sc gl c n) b M s K) Xs M s' K | Option.none => False))
    | Option.none => (if isSetE it then False else vE I sc gl c M 40 false it s fun X s' => (match itemsV X with | some Xs => vFor (fun X M K => vAsg sc 5 t X M K) (fun M s K => vB (vS I sc gl c n) b M s K) Xs M s' K | Option.none => False))) := hv
        split at hv
        · rename_i f e hr
          obtain ⟨fp, cp, rfl⟩ := rangeArg_eq hr
          split at hv
          · rename_i hc
            simp only [Bool.and_eq_true, beq_iff_eq, Bool.not_eq_true'] at hc
            obtain ⟨⟨h1, h2⟩, h3⟩ := hc
            unfold isRangeV at h1
            split at h1
            · rename_i T hT
              have h1 := eq_of_beq h1
              subst h1
              exact forr_ok (asg := fun X M K => vAsg sc 5 t X M K) (bd := fun M s K => vB (vS I sc gl c n) b M s K) (fun X M s K => asg_ok ok hsc 5 t X M s K) (fun M s K => vB_ok ih b M s K) ok (by subst hsc; exact h2) (hgl _ (lookup_mem hT)) h3 (iE hv)
            · cases h1
          · exact general hv
        · exact general hv
      | cons _ _ => exact hv.run
    | _ => exact hv.run
end
/-- frames and units that are left -/
structure Room (c : Cx) (D : Nat) : Prop where
  d : c.dp + D < recursionLimit
  u : c.un + 3 * D + 100 < cLine
theorem Room.le {c : Cx} {D D' : Nat} (h : Room c D) (e : D' ≤ D) : Room c D' := ⟨Nat.lt_of_le_of_lt (Nat.add_le_add_left e _) h.d, Nat.lt_of_le_of_lt (Nat.add_le_add_right (Nat.add_le_add_left (Nat.mul_le_mul_left 3 e) _) _) h.u⟩
/-- the contract of a call -/
noncomputable def CT {σ : Type} (I : II σ) (g : GX) (D : Nat) (f : Value) (Xs : List V) (s : σ) (Post : KV σ) : Prop := ∀ (c : Cx) (M : MV) (K : KV σ), c.Ok → c.g = g → Room c D → (∀ X s', Post X s' → K X s') → CW I c M f Xs s K
noncomputable def endK {σ : Type} (Post : KV σ) : KS σ := fun f _ s => match f with
  | .ret X => Post X s
  | .next => Post .none s
theorem lookup_app' {α β : Type} [BEq α] (l r : List (α × β)) (x : α) : (l ++ r).lookup x = (l.lookup x).or (r.lookup x) := by
  induction l with
  | nil => simp
  | cons p l ih =>
    rw [List.cons_append, List.lookup_cons, List.lookup_cons]
    cases x == p.1 <;> simp [ih]
theorem zip_none {imm : Led} : ∀ (names : List Str) {vs : List Value} {Xs : List V} {x : Str}, Reps imm vs Xs → (names.zip Xs).reverse.lookup x = none → (names.zip vs).reverse.lookup x = none := by
  intro names
  induction names with
  | nil => intro vs Xs x _ _; rfl
  | cons n ns ih =>
    intro vs Xs x h hn
    cases h with
    | nil => rfl
    | @cons v0 X0 vs0 Xs0 h0 h =>
      rw [List.zip_cons_cons, List.reverse_cons, lookup_app'] at hn ⊢
      cases e : (ns.zip Xs0).reverse.lookup x with
      | some _ => rw [e] at hn; simp at hn
      | none =>
        rw [e] at hn
        rw [ih h e]
        simp only [Option.or, List.lookup_cons, List.lookup_nil] at hn ⊢
        split at hn <;> simp_all
theorem zip_look {imm : Led} : ∀ (names : List Str) {vs : List Value} {Xs : List V}, Reps imm vs Xs → ∀ x X, (names.zip Xs).reverse.lookup x = some X → ∃ v, (names.zip vs).reverse.lookup x = some v ∧ Rep imm v X
  | [], _, _, _, x, X, h => by simp at h
  | n :: names, _, _, .nil, x, X, h => by simp at h
  | n :: names, _, _, .cons (x := v) (X := Y) (xs := vs) (Xs := Xs) hv hr, x, X, h => by
    rw [List.zip_cons_cons, List.reverse_cons, lookup_app'] at h
    rw [List.zip_cons_cons, List.reverse_cons, lookup_app']
    have len := @zip_none imm names
    cases e : (names.zip Xs).reverse.lookup x with
    | some Z =>
      rw [e] at h
      obtain ⟨v', h1, h2⟩ := zip_look names hr x Z e
      simp only [Option.or] at h
      cases h
      exact ⟨v', by rw [h1]; rfl, h2⟩
    | none =>
      rw [e] at h
      rw [len hr e]
      simp only [Option.or, List.lookup_cons, List.lookup_nil] at h ⊢
      split at h
      · cases h; exact ⟨v, by simp_all, hv⟩
      · cases h
section
variable {σ : Type} {I : II σ}
theorem def_vc2 [IMono I] {g : GX} {D : Nat} {fa : Addr} {Xs dX : List V} {dv : List Value} {s : σ} {Post : KV σ} (gl : List (Str × Value)) (names : List Str) {name qual : Str} {params : Arguments} {body : List Stmt} {scope : Scope} {dV kV doc pm cdv ct oc : Value} {an od : Option Addr} {osl : Array (Option Value)}
    (hf : List.lookup fa (hd.heap_39 g.w.params) = some { cls := oc, dict := od, data := .func (fnOf name qual params body scope dV kV doc pm an cdv ct), slots := osl }) (hc : codeIn (hd.heap_39 g.w.params) cdv qual = true)
    (hb : ∀ h vs, (hd.heap_39 g.w.params).In h → Reps [] dv dX → vs.length = Xs.length → ∀ gs dr tk os, BindsTo ⟨h, gs, dr, tk, os⟩ (fnOf name qual params body scope dV kV doc pm an cdv ct) ⟨vs, []⟩ (names.zip (vs ++ dv))) (hdv : Reps [] dv dX) (hl : (names.all fun x => decide (List.lookup x scope.names = some .local)) = true)
    (h1 : scope.isCoroutine = false) (h2 : scope.isGenerator = false) (h3 : scope.kind = .function) (h4 : (scope.names.all fun x => decide (x.2 ≠ .cell)) = true) (hdb : scope.names.lookup (Str.ofString "__debug__") = none)
    (hgl : ∀ c : Cx, c.g = g → GlOk c gl)
    (vc : ∀ c : Cx, c.Ok → c.g = g → c.cs = scope → Room c D → vB (vS I scope gl c 30) body (fun y => (names.zip (Xs ++ dX)).reverse.lookup y) s (endK Post)) : CT I g (D + 1) (.ref fa) Xs s Post := by
  intro c M K ok hg hr hK
  refine ⟨fun h imm m g0 gs dr tk os Q E vs hvs C k => ?_⟩
  subst hg
  refine wpAny_call ?_
  refine code_def ok.B C.F ok.X C.N ok.T rfl rfl ok.hk hf hc (Nat.lt_of_le_of_lt (Nat.le_add_right _ _) hr.d) (hb h vs (fun a o e => C.F.keep a o (ok.X a o e)) hdv hvs.len gs dr tk os) (fun y hy => of_decide_eq_true (List.all_eq_true.mp hl y.1 (List.of_mem_zip hy).1)) ?_ h1 h2 h3 (fun x hx => of_decide_eq_true (List.all_eq_true.mp h4 x hx))
  intro g' L' h' FG F' N' B' X' T'
  let c' : Cx := { g := c.g, dp := c.dp + 1, un := c.un + 3, gd := c.gd, cn := qual, cs := scope, L := L', a := fa, ccd := cdv, cl := [], outer := c.env :: c.outer, A₀ := c.A, base := c.base, h₀ := g' }
  have ok' : c'.Ok := ⟨B', X', T', h3, by have := hr.u; show c.un + 3 + 50 < _; omega⟩
  have hr' : Room c' D := ⟨by have := hr.d; show c.dp + 1 + D < _; omega, by have := hr.u; show c.un + 3 + 3 * D + 100 < _; omega⟩
  have hvs2 : Reps imm (vs ++ dv) (Xs ++ dX) := hvs.app (hdv.mono fun _ h => nomatch h)
  have C' : Cf I c' s (fun y => (names.zip (Xs ++ dX)).reverse.lookup y) imm h' (fun y => (names.zip (vs ++ dv)).reverse.lookup y) g0 := ⟨F', N', C.i, C.d, zip_look names hvs2⟩
  refine vB_ok (vS_ok ok' rfl (hgl c' rfl) hdb 30) body _ s _ (vc c' ok' rfl rfl hr') h' imm _ g0 gs dr _ os _ _ PassesOwn.leaving C' fun f f' M' s' imm' m' g1 h2 tk2 hf hRF hS C2 => ?_
  have fin : ∀ {h3 : Heap}, Fr c.h₀ c.L h3 m → News c.h₀ c.L h3 (g1 ++ imm') → Cf I c s' M imm' h3 m g1 := fun F3 N3 => ⟨F3, N3, C2.i, C2.d, fun x X e => let ⟨v, e1, e2⟩ := C.r x X e; ⟨v, e1, e2.mono hS⟩⟩
  cases hRF with
  | @ret v X hv => exact leaveK_ C2.F C2.N fun F3 N3 => k v X s' imm' m g1 _ tk2 (hK _ _ hf) hv hS (fin F3 N3)
  | next => exact leaveK_ C2.F C2.N fun F3 N3 => k .none .none s' imm' m g1 _ tk2 (hK _ _ hf) .none hS (fin F3 N3)
theorem def_vc [IMono I] {g : GX} {D : Nat} {fa : Addr} {Xs dX : List V} {dv : List Value} {s : σ} {Post : KV σ} (gl : List (Str × Value)) (names : List Str) {name qual : Str} {params : Arguments} {body : List Stmt} {scope : Scope} {dV kV doc pm cdv ct oc : Value} {an od : Option Addr} {osl : Array (Option Value)}
    (hf : List.lookup fa (hd.heap_39 g.w.params) = some { cls := oc, dict := od, data := .func (fnOf name qual params body scope dV kV doc pm an cdv ct), slots := osl }) (hc : codeIn (hd.heap_39 g.w.params) cdv qual = true)
    (hb : ∀ h vs, (hd.heap_39 g.w.params).In h → Reps [] dv dX → vs.length = Xs.length → ∀ gs dr tk os, BindsTo ⟨h, gs, dr, tk, os⟩ (fnOf name qual params body scope dV kV doc pm an cdv ct) ⟨vs, []⟩ (names.zip (vs ++ dv))) (hdv : Reps [] dv dX) (hl : (names.all fun x => decide (List.lookup x scope.names = some .local)) = true)
    (h1 : scope.isCoroutine = false) (h2 : scope.isGenerator = false) (h3 : scope.kind = .function) (h4 : (scope.names.all fun x => decide (x.2 ≠ .cell)) = true) (hdb : scope.names.lookup (Str.ofString "__debug__") = none)
    (hgl : ∀ c : Cx, c.g = g → GlOk c gl)
    (vc : ∀ c : Cx, c.Ok → c.g = g → Room c D → vB (vS I scope gl c 30) body (fun y => (names.zip (Xs ++ dX)).reverse.lookup y) s (endK Post)) : CT I g (D + 1) (.ref fa) Xs s Post :=
  def_vc2 gl names hf hc hb hdv hl h1 h2 h3 h4 hdb hgl fun c ok hg _ hr => vc c ok hg hr
end
theorem fm_lo (x : Int) : -(2 ^ 64) < x.fmod 2147483647 := by
  have := Int.fmod_nonneg_of_pos x (show (0 : Int) < 2147483647 by decide)
  omega
theorem fm_hi (x : Int) : x.fmod 2147483647 < 2 ^ 64 := by
  have := Int.fmod_lt_of_pos x (show (0 : Int) < 2147483647 by decide)
  omega
theorem mul_fm {prog : Program} {w : World} {A : Around} {E : Value → Shared → Prop} {s : Shared} {a b x : Int} {t u : Tok} {Q : Value → Shared → Prop} (e : a = x.fmod 2147483647) (h : Q (.int (a * b) s.toks) { s with toks := s.toks + 1 }) : wpAny (model prog w) A (binaryOp .Mult (.int a t) (.int b u)) Q E s :=
  mul_int h (IntMulOk.of_left (intBits_le_64 (e ▸ fm_lo x) (e ▸ fm_hi x)))
local macro_rules | `(tactic| walk_at "binaryOp Mult int int") => `(tactic| (k_here; k_dflt (refine mul_fm rfl ?_)))
theorem wound_c {w : World} {p : Program} {loose : List Str} {mean : ExcName → Option Value} {mg mb : Str → Option Value} :
  ∀ (ra : Addr) (many : Int) (tm : Tok) (rest : Led), 0 < many → many < 20 →
  GTri w p loose mean mg mb 10 100 (.ref 172) [.ref ra, .int many tm] ra rest (fun r tl => ∃ v t, r = .int v t ∧ 0 ≤ v ∧ v < many) := by
  unfold GTri Tri
  k_fill
  rintro ra many tm rest hm0 hm1 ⟨s0, x0, t1, t2, hs, hx0, hx1⟩ hra dp un gd cn cs a ccd cl outer A₀ base h₀ L m s Q E B F X N T0 hk hd hu ret
  dsimp only [reelO] at N
  ((refine wpAny_call ?_; refine' code_def ?k1 ?k2 ?k3 ?k4 ?k5 ?kA ?kF ?kK ?k6 ?k7 ?k8 ?k9 ?kB ?_ ?c2 ?c3 ?c4 ?c5; (case kA => exact rfl); (case kF => exact rfl); (case kK => first | exact rfl | assumption); (case k1 => k_asm); (case k2 => k_asm); (case k3 => k_asm); (case k4 => k_asm); (case k5 => k_asm); (case k6 => k_is); (case k7 => k_is); (case k8 => ktr_room); (case k9 => exact bz rfl); (case c5 => decide); (case kB => exact locs rfl); (case c2 => exact rfl); (case c3 => exact rfl); (case c4 => exact rfl); k_whole; intro g' L' h' FG' F' N' B' X' T'; (dsimp only [List.map, List.zip, List.zipWith, List.reverse, List.reverseAux] at F'); (try dsimp only); (try k_fold)))
  k_steps
  · exact gtri_end (q := ⟨_, _, _, _, Int.fdiv_nonneg hs (Int.le_of_lt hm0), hx0, hx1⟩) ret (by k_asm) (by k_asm) (Pk.head hra) (fun _ h => h) ⟨_, _, rfl, Int.fmod_nonneg_of_pos _ hm0, Int.fmod_lt_of_pos _ hm0⟩
  · exact gtri_end (q := ⟨_, _, _, _, hs, Int.fmod_nonneg_of_pos _ (by decide), Int.fmod_lt_of_pos _ (by decide)⟩) ret (by k_asm) (by k_asm) (Pk.head hra) (fun _ h => h) ⟨_, _, rfl, Int.fmod_nonneg_of_pos _ hm0, Int.fmod_lt_of_pos _ hm0⟩
/-- the writers' state: the reel -/
noncomputable def IR (ra : Addr) : II RS := fun q _ g => g = [(ra, reelO q)]
instance (ra : Addr) : IMono (IR ra) := ⟨fun h _ => h⟩
theorem ct_gtri {ra : Addr} {g : GX} {D dd du : Nat} {f : Value} {Xs : List V} {Post : V → Prop} (h : ∀ vs imm, Reps imm vs Xs → GTri g.w g.p g.loose g.mean g.mg g.mb dd du f vs ra imm (fun r tl => ∃ X, Post X ∧ Rep (tl ++ imm) r X)) (h1 : dd ≤ D) (h2 : du ≤ 3 * D + 100) (q : RS) : CT (IR ra) g D f Xs q (fun X _ => Post X) := by
  intro c M K ok hg hr hK
  refine ⟨fun hp imm m g0 gs dr tk os Q E vs hvs C k => ?_⟩
  subst hg
  have e : g0 = [(ra, reelO q)] := C.i
  subst e
  refine h vs imm hvs q (fun p hp => Ne.symm (C.d (ra, reelO q) (.head _) p hp)) c.dp c.un c.gd c.cn c.cs c.a c.ccd c.cl c.outer c.A₀ c.base c.h₀ c.L m ⟨hp, gs, dr, tk, os⟩ Q E ok.B C.F ok.X C.N ok.T ok.hk (Nat.lt_of_le_of_lt (Nat.add_le_add_left h1 _) hr.d) (by have := hr.u; omega) ?_
  rintro r _ h' tk' F' N' ⟨q', tl, rfl, ho, X, hP, hR⟩
  exact k r X q' (tl ++ imm) m [(ra, reelO q')] h' tk' (hK X q' hP) hR (fun p hp => List.mem_append.mpr (.inr hp)) ⟨F', N', rfl, fun p hp q2 hq2 => by
    rw [List.mem_singleton.mp hp]
    rcases List.mem_append.mp hq2 with hq2 | hq2
    · exact Ne.symm (ho q2 hq2)
    · exact C.d (ra, reelO q) (.head _) q2 hq2, fun x X e => let ⟨v, e1, e2⟩ := C.r x X e; ⟨v, e1, e2.mono fun p hp => List.mem_append.mpr (.inr hp)⟩⟩
theorem CT.use {σ : Type} {I : II σ} {g : GX} {D : Nat} {f : Value} {Xs : List V} {s : σ} {Post : KV σ} {c : Cx} {M : MV} {K : KV σ} (h : CT I g D f Xs s Post) (ok : c.Ok) (hg : c.g = g) (hr : Room c D) (k : ∀ X s', Post X s' → K X s') : CW I c M f Xs s K := h c M K ok hg hr k
section
variable {ra : Addr} {c : Cx} {M : MV} {K : KV RS} {q : RS}
theorem wound_u {many : Int} (ok : c.Ok) (hr : Room c 20) (h0 : 0 < many) (h1 : many < 20) (k : ∀ v q', 0 ≤ v → v < many → K (.int v) q') : CW (IR ra) c M (.ref 172) [.raw (.ref ra), .int many] q K := by
  refine (ct_gtri (Post := fun X => ∃ v, X = .int v ∧ 0 ≤ v ∧ v < many) (dd := 10) (du := 100) (D := 20) (fun vs imm hv => ?_) (by decide) (by decide) q).use ok rfl hr ?_
  · cases hv with
    | cons h hv => cases hv with
      | cons h' hv =>
        cases hv; cases h; cases h'
        intro q' hq
        exact fun dp un gd cn cs a ccd cl outer A₀ base h₀ L m s Q E B F X N T hk hd hu ret => wound_c ra many _ imm h0 h1 q' hq dp un gd cn cs a ccd cl outer A₀ base h₀ L m s Q E B F X N T hk hd hu fun r news' h' tk' F' N' hP => ret r news' h' tk' F' N' (by
          obtain ⟨q2, tl, e, ho, v, t, rfl, h2, h3⟩ := hP
          exact ⟨q2, tl, e, ho, .int v, ⟨v, rfl, h2, h3⟩, .int⟩)
  · rintro X q' ⟨v, rfl, h2, h3⟩
    exact k v q' h2 h3
end
section
variable {σ : Type} {I : II σ} {c : Cx} {M : MV} {K : KV σ} {s : σ}
theorem len_list_u {Xs : List V} (hz : Xs.length ≤ 1000) (k : K (.int Xs.length) s) : CW I c M (.builtin "len") [.list Xs] s K := by
  refine ⟨fun hp imm m g0 gs dr tk os Q E vs hvs C kk => ?_⟩
  cases hvs with
  | cons h hv =>
    cases hv
    obtain ⟨a, xs, n, rfl, hm, hq⟩ := h.list_inv
    exact kun_lenL (News.isList C.N (C.tup' hm)) (by simp [hq.len]) (by omega) (kk _ _ s imm m g0 hp _ k .int sub_rfl C)
theorem len_tup_u {Xs : List V} (hz : Xs.length ≤ 1000) (k : K (.int Xs.length) s) : CW I c M (.builtin "len") [.tup Xs] s K := by
  refine ⟨fun hp imm m g0 gs dr tk os Q E vs hvs C kk => ?_⟩
  cases hvs with
  | cons h hv =>
    cases hv
    obtain ⟨a, xs, rfl, hm, hq⟩ := h.tup_inv
    exact kun_lenT (News.isTup C.N (C.tup hm)) (by simp [hq.len]) (by omega) (kk _ _ s imm m g0 hp _ k .int sub_rfl C)
end
noncomputable def gl0 : List (Str × Value) := [(Str.ofString "_law_wound", .ref 172), (Str.ofString "_law_one", .ref 179), (Str.ofString "_law_name", .ref 186), (Str.ofString "_law_used", .ref 191), (Str.ofString "_law_type", .ref 198), (Str.ofString "_law_expr", .ref 205), (Str.ofString "_law_block", .ref 212), (Str.ofString "_law_cases", .ref 219), (Str.ofString "_law_plain_statement", .ref 226), (Str.ofString "_law_statement", .ref 233), (Str.ofString "NameFinder", .ref 147), (Str.ofString "has_plain_keys", .ref 158), (Str.ofString "len", .builtin "len"), (Str.ofString "isinstance", .builtin "isinstance"), (Str.ofString "range", .type "range"), (Str.ofString "tuple", .type "tuple"), (Str.ofString "list", .type "list"), (Str.ofString "str", .type "str"), (Str.ofString "int", .type "int")]
theorem gl0_ok (c : Cx) : GlOk c gl0 := by
  intro q hq
  simp only [gl0, List.mem_cons, List.not_mem_nil, or_false] at hq
  rcases hq with rfl | rfl | rfl | rfl | rfl | rfl | rfl | rfl | rfl | rfl | rfl | rfl | rfl | rfl | rfl | rfl | rfl | rfl | rfl
  iterate 12 exact ⟨.glob (by rfl) (by rfl), by decide +kernel⟩
  iterate 2 exact ⟨.bui (by rfl) (by decide +kernel) (by decide +kernel), by decide +kernel⟩
  iterate 5 exact ⟨.typ (by rfl) (by decide +kernel) (by decide +kernel), by decide +kernel⟩
theorem len1 {α : Type} {vs : List α} (h : vs.length = 1) : ∃ a, vs = [a] := by
  match vs, h with
  | [a], _ => exact ⟨a, rfl⟩
theorem len2 {α : Type} {vs : List α} (h : vs.length = 2) : ∃ a b, vs = [a, b] := by
  match vs, h with
  | [a, b], _ => exact ⟨a, b, rfl⟩
theorem len3 {α : Type} {vs : List α} (h : vs.length = 3) : ∃ a b d, vs = [a, b, d] := by
  match vs, h with
  | [a, b, d], _ => exact ⟨a, b, d, rfl⟩
theorem one_c (g : GX) (ra : Addr) (Xs : List V) (h0 : 0 < Xs.length) (h1 : Xs.length < 20) (q : RS) : CT (IR ra) g 25 (.ref 179) [.raw (.ref ra), .list Xs] q (fun X _ => X ∈ Xs) := by
  refine def_vc (dX := []) (dv := []) gl0 [Str.ofString "reel", Str.ofString "some"] (by rfl) (by rfl) (fun h vs _ _ hl gs dr tk os => ?_) .nil (by rfl) (by rfl) (by rfl) (by rfl) (by rfl) (by rfl) (fun c _ => gl0_ok c) fun c ok hg hr => ?_
  · obtain ⟨a, b, rfl⟩ := len2 hl
    exact BindsTo.of_eq rfl
  subst hg
  refine' len_list_u (by omega) _
  (first | (refine' SwOb.two (by with_unfolding_all rfl) ?_) | (refine' SwOb.none (by with_unfolding_all rfl) ?_) | (refine' SwOb.three (by with_unfolding_all rfl) ?_) | (refine' And.intro rfl ?_) | (refine' wound_u (by with_reducible assumption) (by (exact Room.le (by with_reducible assumption) (by first | decide | omega))) (by first | decide | omega) (by first | decide | omega) ?_; intro v' q' hv0' hv1'))
  exact .mk (by omega) (by omega) (by omega) fun X hX => hX
noncomputable def menu : List Str := [Str.ofString "a", Str.ofString "b", Str.ofString "c", Str.ofString "d", Str.ofString "p"]
theorem name_c (g : GX) (ra : Addr) (q : RS) : CT (IR ra) g 28 (.ref 186) [.raw (.ref ra)] q (fun X _ => ∃ x, X = .str x ∧ x ∈ menu) := by
  refine def_vc (dX := []) (dv := []) gl0 [Str.ofString "reel"] (by rfl) (by rfl) (fun h vs _ _ hl gs dr tk os => ?_) .nil (by rfl) (by rfl) (by rfl) (by rfl) (by rfl) (by rfl) (fun c _ => gl0_ok c) fun c ok hg hr => ?_
  · obtain ⟨a, rfl⟩ := len1 hl
    exact BindsTo.of_eq rfl
  subst hg
  refine (one_c c.g ra [.str (Str.ofString "a"), .str (Str.ofString "b"), .str (Str.ofString "c"), .str (Str.ofString "d"), .str (Str.ofString "p")] (by decide) (by decide) q).use ok rfl (by (exact Room.le (by with_reducible assumption) (by first | decide | omega))) ?_
  intro X s' hX
  simp only [List.mem_cons, List.not_mem_nil, or_false] at hX
  rcases hX with rfl | rfl | rfl | rfl | rfl <;> exact ⟨_, rfl, by simp [menu]⟩
theorem name_u {ra : Addr} {c : Cx} {M : MV} {K : KV RS} {q : RS} (ok : c.Ok) (hr : Room c 28) (k : ∀ x q', x ∈ menu → K (.str x) q') : CW (IR ra) c M (.ref 186) [.raw (.ref ra)] q K :=
  (name_c c.g ra q).use ok rfl hr (by rintro X q' ⟨x, rfl, hx⟩; exact k x q' hx)
noncomputable abbrev cN (s : String) : Str := Str.ofString s
/-- the trees that the law writes -/
inductive T where
  | none_ | name (x : Str) | plain (x : Str) | pkg (x : Str) | slice (t : T)
  | select (x : Str) | binary (x : Str) (o : T) | call (x : Str) (o : T) | lit (ty : T) (x : Str) | func (ty : T) (x : Str) (b : T)
  | expr (e : T) | define (x : Str) (e : T) | var (x : Str) (ty e : T) | typedecl (x : Str) (ty : T) | block (b : T)
  | ifs (h test b o : T) | step (e : T) | fors (h test b : T) | range (x : Str) (d : Bool) (e b : T)
  | switch (h s rows : T) | tswitch (x : Str) (e ty b : T) | choose (x : Str) (e other b1 b2 : T)
  | nil | cons (t ts : T) | rnil | rcons (e b rs : T)

noncomputable abbrev nmV (x : Str) : V := .tup [.str (cN "name"), .int 1, .str x]
/-- a tree as a value (first), or as a list of values (second) -/
noncomputable def tv : T → V × List V
  | .none_ => (.none, [])
  | .name x => (nmV x, [])
  | .plain x => (.tup [.str (cN "name"), .int 1, .none, .str x], [])
  | .pkg x => (.tup [.str (cN "name"), .int 1, .str x, .str (cN "X")], [])
  | .slice t => (.tup [.str (cN "slice"), .int 1, (tv t).1], [])
  | .select x => (.tup [.str (cN "select"), .int 1, nmV x, .str (cN "f")], [])
  | .binary x o => (.tup [.str (cN "binary"), .int 1, .str (cN "+"), nmV x, (tv o).1], [])
  | .call x o => (.tup [.str (cN "call"), .int 1, nmV x, .tup [(tv o).1], .bool false], [])
  | .lit ty x => (.tup [.str (cN "lit"), .int 1, (tv ty).1, .tup [.tup [.none, nmV x]]], [])
  | .func ty x b => (.tup [.str (cN "func"), .int 1, .tup [.str (cN "func"), .int 1, .tup [(tv ty).1], .tup [], .bool false], .tup [.str x], .tup [], .tup [.str (cN "block"), .int 1, .tup (tv b).2]], [])
  | .expr e => (.tup [.str (cN "expr"), .int 1, (tv e).1], [])
  | .define x e => (.tup [.str (cN "define"), .int 1, .tup [.str x], .tup [(tv e).1]], [])
  | .var x ty e => (.tup [.str (cN "var"), .int 1, .tup [.str x], (tv ty).1, .tup [(tv e).1]], [])
  | .typedecl x ty => (.tup [.str (cN "typedecl"), .int 1, .str x, (tv ty).1, .bool false], [])
  | .block b => (.tup [.str (cN "block"), .int 1, .tup (tv b).2], [])
  | .ifs h test b o => (.tup [.str (cN "if"), .int 1, (tv h).1, (tv test).1, (tv b).1, (tv o).1], [])
  | .step e => (.tup [.str (cN "step"), .int 1, (tv e).1, .str (cN "++")], [])
  | .fors h test b => (.tup [.str (cN "for"), .int 1, .none, (tv h).1, (tv test).1, .tup [.str (cN "step"), .int 1, (tv test).1, .str (cN "++")], (tv b).1], [])
  | .range x d e b => (.tup [.str (cN "range"), .int 1, .none, .tup [nmV x], .bool d, (tv e).1, (tv b).1], [])
  | .switch h s rows => (.tup [.str (cN "switch"), .int 1, .none, (tv h).1, (tv s).1, .tup (tv rows).2], [])
  | .tswitch x e ty b => (.tup [.str (cN "typeswitch"), .int 1, .none, .none, .str x, (tv e).1, .tup [.tup [.tup [(tv ty).1], .tup (tv b).2]]], [])
  | .choose x e other b1 b2 => (.tup [.str (cN "choose"), .int 1, .none, .tup [.tup [.tup [.str (cN "recv"), .int 1, .tup [nmV x], .bool true, (tv e).1], .tup (tv b1).2], .tup [.tup [.str (cN "send"), .int 1, (tv e).1, (tv other).1], .tup (tv b2).2]]], [])
  | .nil => (.none, [])
  | .cons t ts => (.none, (tv t).1 :: (tv ts).2)
  | .rnil => (.none, [])
  | .rcons e b rs => (.none, .tup [.tup [(tv e).1], .tup (tv b).2] :: (tv rs).2)
noncomputable abbrev Use := Str × Str
noncomputable def use (w : Str) (x : Str) (told : List Str) : List Use := if told.any (· == x) then [] else [(w, x)]
theorem use_yes {w x : Str} {told : List Str} (h : told.any (· == x) = true) : use w x told = [] := by rw [use, if_pos h]
theorem use_no {w x : Str} {told : List Str} (h : told.any (· == x) = false) : use w x told = [(w, x)] := by rw [use, h, if_neg Bool.false_ne_true]
noncomputable abbrev wF : Str := cN "found"
noncomputable abbrev wA : Str := cN "ahead"
noncomputable def tells : T → List Str
  | .define x _ => [x]
  | .var x _ _ => [x]
  | .typedecl x _ => [x]
  | _ => []
/-- what stands in a tree and is not told, in the law's own order -/
noncomputable def uses : T → List Str → List Use
  | .none_, _ => []
  | .name x, told => use wF x told
  | .plain x, told => use wF x told
  | .pkg x, told => use wA x told
  | .slice t, told => uses t told
  | .select x, told => use wF x told ++ use wA x told
  | .binary x o, told => use wF x told ++ uses o told
  | .call x o, told => use wF x told ++ uses o told
  | .lit ty x, told => use wF x told ++ uses ty told
  | .func ty x b, told => uses ty told ++ uses b (told ++ [x])
  | .expr e, told => uses e told
  | .define _ e, told => uses e told
  | .var _ ty e, told => uses ty told ++ uses e told
  | .typedecl x ty, told => uses ty (told ++ [x])
  | .block b, told => uses b told
  | .ifs h test b o, told => uses h told ++ uses test (told ++ tells h) ++ uses b (told ++ tells h) ++ uses o (told ++ tells h)
  | .step e, told => uses e told
  | .fors h test b, told => uses h told ++ uses test (told ++ tells h) ++ uses b (told ++ tells h)
  | .range x d e b, told => uses e told ++ (if d then [] else use wF x told) ++ uses b (if d then told ++ [x] else told)
  | .switch h _ rows, told => uses h told ++ uses rows (told ++ tells h)
  | .tswitch x e ty b, told => uses e told ++ uses ty told ++ uses b (told ++ [x])
  | .choose x e other b1 b2, told => uses e told ++ uses b1 (told ++ [x]) ++ uses e told ++ uses other told ++ uses b2 told
  | .nil, _ => []
  | .cons t ts, told => uses t told ++ uses ts (told ++ tells t)
  | .rnil, _ => []
  | .rcons e b rs, told => uses e told ++ uses b told ++ uses rs told

noncomputable def useV (u : Use) : V := .tup [.str u.1, .str u.2]
noncomputable def strV (x : Str) : V := .str x
noncomputable def isT : T → Bool
  | .none_ | .nil | .cons .. | .rnil | .rcons .. => false
  | _ => true
/-- trees that tell nothing -/
noncomputable def isE : T → Bool
  | .none_ | .nil | .cons .. | .rnil | .rcons .. | .define .. | .var .. | .typedecl .. => false
  | _ => true
noncomputable def isL : T → Bool
  | .nil | .cons .. => true
  | _ => false
noncomputable def isR : T → Bool
  | .rnil | .rcons .. => true
  | _ => false
noncomputable def isTy : T → Bool
  | .plain _ | .pkg _ => true
  | .slice (.plain _) => true
  | _ => false
noncomputable def len : T → Nat
  | .cons _ ts => len ts + 1
  | .rcons _ _ rs => len rs + 1
  | _ => 0
/-- names of the menu; trees where trees stand; short lists -/
noncomputable def Ok : T → Prop
  | .none_ => True
  | .name x => x ∈ menu
  | .plain x => x ∈ menu
  | .pkg x => x ∈ menu
  | .slice t => isE t = true ∧ Ok t
  | .select x => x ∈ menu
  | .binary x o => x ∈ menu ∧ isE o = true ∧ Ok o
  | .call x o => x ∈ menu ∧ isE o = true ∧ Ok o
  | .lit ty x => isTy ty = true ∧ Ok ty ∧ x ∈ menu
  | .func ty x b => isTy ty = true ∧ Ok ty ∧ x ∈ menu ∧ isL b = true ∧ Ok b ∧ len b ≤ 10
  | .expr e => isE e = true ∧ Ok e
  | .define x e => x ∈ menu ∧ isE e = true ∧ Ok e
  | .var x ty e => x ∈ menu ∧ isTy ty = true ∧ Ok ty ∧ isE e = true ∧ Ok e
  | .typedecl x ty => x ∈ menu ∧ isTy ty = true ∧ Ok ty
  | .block b => isL b = true ∧ Ok b ∧ len b ≤ 10
  | .ifs h test b o => isT h = true ∧ Ok h ∧ isE test = true ∧ Ok test ∧ isE b = true ∧ Ok b ∧ isE o = true ∧ Ok o
  | .step e => isE e = true ∧ Ok e
  | .fors h test b => isT h = true ∧ Ok h ∧ isE test = true ∧ Ok test ∧ isE b = true ∧ Ok b
  | .range x _ e b => x ∈ menu ∧ isE e = true ∧ Ok e ∧ isE b = true ∧ Ok b
  | .switch h s rows => isT h = true ∧ Ok h ∧ isE s = true ∧ Ok s ∧ (∀ told, uses s (told ++ tells h) = []) ∧ isR rows = true ∧ Ok rows ∧ len rows ≤ 10
  | .tswitch x e ty b => x ∈ menu ∧ isE e = true ∧ Ok e ∧ isTy ty = true ∧ Ok ty ∧ isL b = true ∧ Ok b ∧ len b ≤ 10
  | .choose x e other b1 b2 => x ∈ menu ∧ isE e = true ∧ Ok e ∧ isE other = true ∧ Ok other ∧ isL b1 = true ∧ Ok b1 ∧ len b1 ≤ 10 ∧ isL b2 = true ∧ Ok b2 ∧ len b2 ≤ 10
  | .nil => True
  | .cons t ts => isT t = true ∧ Ok t ∧ isL ts = true ∧ Ok ts
  | .rnil => True
  | .rcons e b rs => isE e = true ∧ Ok e ∧ isL b = true ∧ Ok b ∧ len b ≤ 10 ∧ isR rs = true ∧ Ok rs
/-- frames that the finder needs -/
noncomputable def dep : T → Nat
  | .none_ => 0
  | .name _ | .plain _ | .pkg _ | .select _ => 10
  | .slice t => 10 + dep t
  | .binary _ o | .call _ o => 10 + dep o
  | .lit ty _ => 10 + dep ty
  | .func ty _ b => 20 + max (dep ty) (dep b)
  | .expr e | .define _ e | .step e => 10 + dep e
  | .var _ ty e => 10 + max (dep ty) (dep e)
  | .typedecl _ ty => 10 + dep ty
  | .block b => 10 + dep b
  | .ifs h test b o => 10 + max (max (dep h) (dep test)) (max (dep b) (dep o))
  | .fors h test b => 20 + max (dep h) (max (dep test) (dep b))
  | .range _ _ e b => 20 + max (dep e) (dep b)
  | .switch h s rows => 10 + max (dep h) (max (dep s) (dep rows))
  | .tswitch _ e ty b => 10 + max (dep e) (max (dep ty) (dep b))
  | .choose _ e other b1 b2 => 10 + max (max (dep e) (dep other)) (max (dep b1) (dep b2))
  | .nil => 0
  | .cons t ts => max (dep t) (dep ts)
  | .rnil => 0
  | .rcons e b rs => max (dep e) (max (dep b) (dep rs))
/-- a bound for what is noted -/
noncomputable def wt : T → Nat
  | .none_ => 0
  | .name _ | .plain _ | .pkg _ => 1
  | .select _ => 2
  | .slice t => 1 + wt t
  | .binary _ o | .call _ o => 1 + wt o
  | .lit ty _ => wt ty + 1
  | .func ty _ b => wt ty + (1 + wt b)
  | .expr e | .step e => wt e
  | .define _ e => wt e + 1
  | .var _ ty e => wt ty + (wt e + 1)
  | .typedecl _ ty => 1 + wt ty
  | .block b => wt b
  | .ifs h test b o => wt h + (wt test + (wt b + wt o))
  | .fors h test b => wt h + (wt test + (wt test + wt b))
  | .range _ _ e b => wt e + (1 + wt b)
  | .switch h s rows => wt h + (wt s + wt rows)
  | .tswitch _ e ty b => wt e + (wt ty + (1 + wt b))
  | .choose _ e other b1 b2 => wt e + (1 + (wt b1 + (wt e + (wt other + wt b2))))
  | .nil => 0
  | .cons t ts => wt t + wt ts
  | .rnil => 0
  | .rcons e b rs => wt e + (wt b + wt rs)

theorem use_len (w x : Str) (told : List Str) : (use w x told).length ≤ 1 := by
  unfold use; split <;> simp
theorem uses_len : ∀ (t : T) (told : List Str), (uses t told).length ≤ wt t := by
  intro t
  induction t with
  | name x => intro told; exact use_len wF x told
  | plain x => intro told; exact use_len wF x told
  | pkg x => intro told; exact use_len wA x told
  | select x => intro told; have := use_len wF x told; have := use_len wA x told; simp only [uses, wt, List.length_append]; omega
  | binary x o i1 => intro told; have := use_len wF x told; have := i1 told; simp only [uses, wt, List.length_append]; omega
  | call x o i1 => intro told; have := use_len wF x told; have := i1 told; simp only [uses, wt, List.length_append]; omega
  | lit ty x i1 => intro told; have := use_len wF x told; have := i1 told; simp only [uses, wt, List.length_append]; omega
  | func ty x b i1 i2 => intro told; have := i1 told; have := i2 (told ++ [x]); simp only [uses, wt, List.length_append]; omega
  | slice t i1 => intro told; have := i1 told; simp only [uses, wt]; omega
  | expr e i1 => intro told; exact i1 told
  | step e i1 => intro told; exact i1 told
  | define x e i1 => intro told; have := i1 told; simp only [uses, wt]; omega
  | var x ty e i1 i2 => intro told; have := i1 told; have := i2 told; simp only [uses, wt, List.length_append]; omega
  | typedecl x ty i1 => intro told; have := i1 (told ++ [x]); simp only [uses, wt]; omega
  | block b i1 => intro told; exact i1 told
  | ifs h test b o i1 i2 i3 i4 => intro told; have := i1 told; have := i2 (told ++ tells h); have := i3 (told ++ tells h); have := i4 (told ++ tells h); simp only [uses, wt, List.length_append]; omega
  | fors h test b i1 i2 i3 => intro told; have := i1 told; have := i2 (told ++ tells h); have := i3 (told ++ tells h); simp only [uses, wt, List.length_append]; omega
  | range x d e b i1 i2 => intro told; have := use_len wF x told; have := i1 told; have := i2 told; have := i2 (told ++ [x]); cases d <;> simp only [uses, wt, List.length_append, if_true, if_false, Bool.false_eq_true, List.length_nil] <;> omega
  | switch h s rows i1 i2 i3 => intro told; have := i1 told; have := i3 (told ++ tells h); simp only [uses, wt, List.length_append]; omega
  | tswitch x e ty b i1 i2 i3 => intro told; have := i1 told; have := i2 told; have := i3 (told ++ [x]); simp only [uses, wt, List.length_append]; omega
  | choose x e other b1 b2 i1 i2 i3 i4 => intro told; have := i1 told; have := i2 told; have := i3 (told ++ [x]); have := i4 told; simp only [uses, wt, List.length_append]; omega
  | cons t ts i1 i2 => intro told; have := i1 told; have := i2 (told ++ tells t); simp only [uses, wt, List.length_append]; omega
  | rcons e b rs i1 i2 i3 => intro told; have := i1 told; have := i2 told; have := i3 told; simp only [uses, wt, List.length_append]; omega
  | none_ => intro told; exact Nat.le_refl _
  | nil => intro told; exact Nat.le_refl _
  | rnil => intro told; exact Nat.le_refl _

/-- what a writer of trees hands back: the tree and its uses -/
noncomputable def GP (told : List Str) (good : T → Prop) : KV RS := fun X _ => ∃ t us, X = .tup [(tv t).1, .list us] ∧ us = (uses t told).map useV ∧ good t
theorem strs_of {imm : Led} : ∀ {told : List Str} {vs : List Value}, Reps imm vs (told.map strV) → StrsAre vs told
  | [], _, h => by cases h; exact .nil
  | x :: r, _, h => by
    cases h with
    | cons h hr => cases h; exact .cons _ _ (strs_of hr)
local macro_rules | `(tactic| walk_at "m_pk") => `(tactic| first | ((with_reducible refine' Pk.head ?pkH); (case pkH => walk_at "m_off")) | (refine' Pk.tail ?pkA ?pkB; (case pkB => walk_at "m_pk"); (case pkA => k_ne)))
local macro_rules | `(tactic| walk_at "m_sub2") => `(tactic| first | exact fun _ h => h | (refine sub_app2 ?_; walk_at "m_sub2") | (refine sub_cons2 ?_; walk_at "m_sub2") | (refine sub_cons ?_; walk_at "m_sub2") | (refine sub_app ?_; walk_at "m_sub2"))
local macro_rules | `(tactic| walk_at "m_off") => `(tactic| first | with_reducible assumption | (refine off_sub (by with_reducible assumption) ?_; walk_at "m_sub2"))
local macro_rules | `(tactic| walk_at "m_sub") => `(tactic| first | exact fun _ h => h | exact sub_l | (refine sub_cons ?_; walk_at "m_sub") | (refine sub_app ?_; walk_at "m_sub"))
inductive Pk3 (I C D : Addr) (oI oC oD : Obj) : Led → Led → Prop
  | head {r : Led} : LCg.Off3 I C D r → Pk3 I C D oI oC oD ((I, oI) :: (C, oC) :: (D, oD) :: r) r
  | tail {p : Addr × Obj} {r r' : Led} : p.1 ≠ I → p.1 ≠ C → p.1 ≠ D → Pk3 I C D oI oC oD r r' → Pk3 I C D oI oC oD (p :: r) (p :: r')
theorem Pk3.off {I C D : Addr} {oI oC oD : Obj} {l r : Led} (P : Pk3 I C D oI oC oD l r) : LCg.Off3 I C D r := by
  induction P with
  | head h => exact h
  | tail h1 h2 h3 _ ih => exact ⟨⟨h1, h2, h3⟩, ih⟩
theorem Pk3.sub {I C D : Addr} {oI oC oD : Obj} {l r : Led} (P : Pk3 I C D oI oC oD l r) : ∀ p ∈ (I, oI) :: (C, oC) :: (D, oD) :: r, p ∈ l := by
  induction P with
  | head h => exact fun _ h => h
  | @tail x r r' h1 h2 h3 _ ih =>
    intro p hp
    have ih1 := ih (I, oI) (.head _)
    have ih2 := ih (C, oC) (.tail _ (.head _))
    have ih3 := ih (D, oD) (.tail _ (.tail _ (.head _)))
    rcases List.mem_cons.mp hp with rfl | hp
    · exact .tail _ ih1
    · rcases List.mem_cons.mp hp with rfl | hp
      · exact .tail _ ih2
      · rcases List.mem_cons.mp hp with rfl | hp
        · exact .tail _ ih3
        · rcases List.mem_cons.mp hp with rfl | hp
          · exact .head _
          · exact .tail _ (ih p (.tail _ (.tail _ (.tail _ hp))))
theorem compEnd_pk {h₀ : Heap} {L I C D : Addr} {m : Str → Option Value} {s₁ : Shared} {oI oC oD : Obj} {S : List (Addr × Obj) → Prop} {rest : Value → List (Addr × Obj) → Prop} {y : Value} {h' : Heap} {tk : Nat} {all news' : Led}
    (F : Fr h₀ L h' m) (N : News h₀ L h' all) (P : Pk3 I C D oI oC oD all news') (hS : S news') (r : rest y news') : LCg.CompEnd h₀ L m s₁ I oI C oC D oD S rest y { s₁ with heap := h', toks := tk } :=
  LCg.CompEnd.intro F N news' P.sub P.off hS r
local macro_rules | `(tactic| walk_at "m_pk3") => `(tactic| first | ((with_reducible refine' Pk3.head ?pkH); (case pkH => ((try simp only [LCg.Off3, and_true]); assumption))) | (refine' Pk3.tail ?pkA ?pkC ?pkD ?pkB; (case pkA => k_ne); (case pkC => k_ne); (case pkD => k_ne); (case pkB => walk_at "m_pk3")))
local macro_rules | `(tactic| walk_at "CompEnd") => `(tactic| (k_here; k_dflt (refine' compEnd_pk ?F ?N ?P ?S ?_; (case F => k_asm); (case N => k_asm); (case P => walk_at "m_pk3"); (case S => lcg_src); k_whole; (try dsimp only))))
local macro_rules | `(tactic| walk_at "compareOp In str ref") => `(tactic| (k_here; (with_reducible show wpAny _ _ (compareOp CmpOp.In (Value.str _ _) (Value.ref _)) _ _ _); k_dflt (refine' in_list_strs (News.isList ?N ?hm) ?hi ?_; (case N => k_asm); (case hm => k_mem); (case hi => assumption); k_whole)))
theorem used_c {w : World} {p : Program} {loose : List Str} {mean : ExcName → Option Value} {mg mb : Str → Option Value} :
  ∀ (ra ta wa : Addr) (rest : Led) (vs : List Value) (n k : Nat) (told : List Str) (x wd : Str) (tx tw : Tok),
  (ta, listOf vs.toArray n) ∈ rest → StrsAre vs told → (wa, listOf #[.str wd tw] k) ∈ rest →
  GTri w p loose mean mg mb 20 120 (.ref 191) [.ref ta, .str x tx, .ref wa] ra rest (fun r tl => ∃ X, X = .list ((use wd x told).map useV) ∧ Rep (tl ++ rest) r X) := by
  unfold GTri Tri
  k_fill
  rintro ra ta wa rest vs n k told x wd tx tw hT hS hW q hra dp un gd cn cs a ccd cl outer A₀ base h₀ L m s Q E B F X N T0 hk hd hu ret
  ((refine wpAny_call ?_; refine' code_defC ?k1 ?k2 ?k3 ?k4 ?k5 ?kA ?kF ?kK ?k6 ?k7 ?k8 ?k9 ?kB ?kD ?_ ?c2 ?c3 ?c4; (case kA => exact rfl); (case kF => exact rfl); (case kK => first | exact rfl | assumption); (case k1 => k_asm); (case k2 => k_asm); (case k3 => k_asm); (case k4 => k_asm); (case k5 => k_asm); (case k6 => k_is); (case k7 => k_is); (case k8 => ktr_room); (case k9 => exact bz rfl); (case kB => exact rfl); (case kD => decide +kernel); (case c2 => exact rfl); (case c3 => exact rfl); (case c4 => exact rfl); k_whole; intro g' L' h' tk' cells' FG' F' N' Y' B' X' T' l1; (try k_lt l1); k_cells Y'; (try simp only [List.cons_append, List.nil_append] at N'); (try dsimp only [List.map, List.zip, List.zipWith] at F'); (try dsimp only); (try k_fold)))
  k_steps
  · exact gtri_end ret (by k_asm) (by k_asm) (by walk_at "m_pk") (by walk_at "m_sub") ⟨_, rfl, .of_list (xs := []) (mem_l (by k_mem)) (by rw [use_yes (by assumption)]; exact .nil)⟩
  · exact gtri_end ret (by k_asm) (by k_asm) (by walk_at "m_pk") (by walk_at "m_sub") ⟨_, rfl, .of_list (xs := [_]) (mem_l (by k_mem)) (by rw [use_no (by assumption)]; exact .cons (.of_tup (xs := [_, _]) (mem_l (by k_mem)) (.cons .str (.cons .str .nil))) .nil)⟩
theorem used_u {ra : Addr} {c : Cx} {M : MV} {K : KV RS} {q : RS} {told : List Str} {tl : List V} {x wd : Str} (ok : c.Ok) (hr : Room c 20) (ht : tl = told.map strV) (k : ∀ us q', us = (use wd x told).map useV → us.length ≤ 1 → K (.list us) q') : CW (IR ra) c M (.ref 191) [.list tl, .str x, .list [.str wd]] q K := by
  subst ht
  refine (ct_gtri (Post := fun X => X = .list ((use wd x told).map useV)) (dd := 20) (du := 120) (D := 20) (fun vs imm hv => ?_) (by decide) (by decide) q).use ok rfl hr ?_
  · cases hv with
    | cons h hv => cases hv with
      | cons h2 hv => cases hv with
        | cons h3 hv =>
          cases hv; cases h2
          obtain ⟨ta, vs, n, rfl, hm, hq⟩ := h.list_inv
          obtain ⟨wa, ws, kk, rfl, hm3, hq3⟩ := h3.list_inv
          cases hq3 with
          | cons h4 h5 =>
            cases h4; cases h5
            exact used_c ra ta wa imm vs n kk told x wd _ _ hm (strs_of hq) hm3
  · rintro X q' rfl
    exact k _ q' rfl (by rw [List.length_map]; exact use_len wd x told)
theorem told_snoc {tl : List V} {told : List Str} {x : Str} (h : tl = told.map strV) : tl ++ [.str x] = (told ++ [x]).map strV := by rw [h, List.map_append]; rfl
theorem uv_app {us vs : List V} {a b : List Use} (h : us = a.map useV) (k : vs = b.map useV) : us ++ vs = (a ++ b).map useV := by rw [h, k, List.map_append]
theorem gp_of {told : List Str} {good : T → Prop} {us : List V} (t : T) (hu : us = (uses t told).map useV) (hg : good t) : ∃ t' us', V.tup [(tv t).1, .list us] = .tup [(tv t').1, .list us'] ∧ us' = (uses t' told).map useV ∧ good t' := ⟨t, us, rfl, hu, hg⟩
theorem type_c (g : GX) (ra : Addr) (tl : List V) (told : List Str) (ht : tl = told.map strV) (q : RS) : CT (IR ra) g 30 (.ref 198) [.raw (.ref ra), .list tl] q (GP told fun t => isTy t = true ∧ Ok t ∧ dep t ≤ 20 ∧ wt t ≤ 2) := by
  refine def_vc (dX := []) (dv := []) gl0 [Str.ofString "reel", Str.ofString "told"] (by rfl) (by rfl) (fun h vs _ _ hl gs dr tk os => ?_) .nil (by rfl) (by rfl) (by rfl) (by rfl) (by rfl) (by rfl) (fun c _ => gl0_ok c) fun c ok hg hr => ?_
  · obtain ⟨a, b, rfl⟩ := len2 hl
    exact BindsTo.of_eq rfl
  subst hg
  repeat' (first | first | (refine' BK.s ?_ ?_ <;> intro hb') | (refine' used_u (by with_reducible assumption) (by (exact Room.le (by with_reducible assumption) (by first | decide | omega))) (by (first | with_reducible assumption | exact told_snoc (by (first | with_reducible assumption | exact told_snoc (by (first | with_reducible assumption | exact told_snoc (by (first | with_reducible assumption | exact told_snoc (by (first | with_reducible assumption | exact told_snoc (by (first | with_reducible assumption | exact told_snoc (by (first | with_reducible assumption | exact told_snoc (by fail))))))))))))))) ?_; intro us' q' hu' hl') | (refine' name_u (by with_reducible assumption) (by (exact Room.le (by with_reducible assumption) (by first | decide | omega))) ?_; intro x' q' hx') | first | (refine' SwOb.two (by with_unfolding_all rfl) ?_) | (refine' SwOb.none (by with_unfolding_all rfl) ?_) | (refine' SwOb.three (by with_unfolding_all rfl) ?_) | (refine' And.intro rfl ?_) | (refine' wound_u (by with_reducible assumption) (by (exact Room.le (by with_reducible assumption) (by first | decide | omega))) (by first | decide | omega) (by first | decide | omega) ?_; intro v' q' hv0' hv1'))
  · refine gp_of (.pkg _) (by assumption) ⟨rfl, by assumption, Nat.le_of_ble_eq_true rfl, Nat.le_of_ble_eq_true rfl⟩
  · refine gp_of (.slice (.plain _)) (by assumption) ⟨rfl, ⟨rfl, by assumption⟩, Nat.le_of_ble_eq_true rfl, Nat.le_of_ble_eq_true rfl⟩
  · refine gp_of (.plain _) (by assumption) ⟨rfl, by assumption, Nat.le_of_ble_eq_true rfl, Nat.le_of_ble_eq_true rfl⟩
theorem us_len {us : List V} {t : T} {told : List Str} (h : us = (uses t told).map useV) (k : wt t ≤ 1000) : us.length ≤ 1000 := by
  rw [h, List.length_map]; exact Nat.le_trans (uses_len t told) k
theorem type_u {ra : Addr} {c : Cx} {M : MV} {K : KV RS} {q : RS} {told : List Str} {tl : List V} (ok : c.Ok) (hr : Room c 30) (ht : tl = told.map strV) (k : ∀ t us q', us = (uses t told).map useV → us.length ≤ 1000 → isTy t = true → Ok t → dep t ≤ 20 → wt t ≤ 2 → K (.tup [(tv t).1, .list us]) q') : CW (IR ra) c M (.ref 198) [.raw (.ref ra), .list tl] q K :=
  (type_c c.g ra tl told ht q).use ok rfl hr (by rintro X q' ⟨t, us, rfl, hu, h1, h2, h3, h4⟩; exact k t us q' hu (us_len hu (Nat.le_trans h4 (by decide))) h1 h2 h3 h4)
noncomputable abbrev EG (d : Nat) (t : T) : Prop := isE t = true ∧ Ok t ∧ dep t ≤ 20 + 30 * d ∧ wt t ≤ 3 * 6 ^ d
noncomputable abbrev SG (d : Nat) (t : T) : Prop := isT t = true ∧ Ok t ∧ dep t ≤ 30 + 30 * d ∧ wt t ≤ 6 * 6 ^ d
noncomputable abbrev BG (d : Nat) (t : T) : Prop := ∃ b, t = .block b ∧ isL b = true ∧ Ok b ∧ len b ≤ 10 ∧ dep b ≤ 30 + 30 * d ∧ wt b ≤ 12 * 6 ^ d
noncomputable def EC (g : GX) (d : Nat) : Prop := ∀ (ra : Addr) (tl : List V) (told : List Str) (k : Int) (q : RS), k = (d : Int) → tl = told.map strV → tl.length + 10 * d ≤ 100 → CT (IR ra) g (10 * d + 40) (.ref 205) [.raw (.ref ra), .list tl, .int k] q (GP told (EG d))
noncomputable def BC (g : GX) (d : Nat) : Prop := ∀ (ra : Addr) (tl : List V) (told : List Str) (k : Int) (q : RS), k = (d : Int) → tl = told.map strV → tl.length + 10 * d ≤ 95 → CT (IR ra) g (10 * d + 44) (.ref 212) [.raw (.ref ra), .list tl, .int k] q (GP told (BG d))
theorem pow6 (d : Nat) : 6 ^ (d + 1) = 6 * 6 ^ d := by rw [Nat.pow_succ, Nat.mul_comm]
theorem pow6_pos (d : Nat) : 1 ≤ 6 ^ d := Nat.one_le_pow _ _ (by decide)
theorem pow6_le {d : Nat} (h : d ≤ 2) : 6 ^ d ≤ 36 := by
  have : 6 ^ d ≤ 6 ^ 2 := Nat.pow_le_pow_right (by decide) h
  omega
section
variable {ra : Addr} {c : Cx} {M : MV} {K : KV RS} {q : RS} {told : List Str} {tl : List V} {d : Nat} {n : Int}
theorem expr_u (h : EC c.g d) (ok : c.Ok) (hd : d ≤ 2) (hr : Room c (10 * d + 40)) (hn : n = (d : Int)) (ht : tl = told.map strV) (hl : tl.length + 10 * d ≤ 100) (k : ∀ t us q', us = (uses t told).map useV → us.length ≤ 1000 → isE t = true → Ok t → dep t ≤ 20 + 30 * d → wt t ≤ 3 * 6 ^ d → K (.tup [(tv t).1, .list us]) q') : CW (IR ra) c M (.ref 205) [.raw (.ref ra), .list tl, .int n] q K :=
  (h ra tl told n q hn ht hl).use ok rfl hr (by rintro X q' ⟨t, us, rfl, hu, h1, h2, h3, h4⟩; exact k t us q' hu (us_len hu (by have := pow6_le hd; omega)) h1 h2 h3 h4)
theorem block_u (h : BC c.g d) (ok : c.Ok) (hd : d ≤ 2) (hr : Room c (10 * d + 44)) (hn : n = (d : Int)) (ht : tl = told.map strV) (hl : tl.length + 10 * d ≤ 95) (k : ∀ b us q', us = (uses b told).map useV → us.length ≤ 1000 → isL b = true → Ok b → len b ≤ 10 → dep b ≤ 30 + 30 * d → wt b ≤ 12 * 6 ^ d → K (.tup [(tv (.block b)).1, .list us]) q') : CW (IR ra) c M (.ref 212) [.raw (.ref ra), .list tl, .int n] q K :=
  (h ra tl told n q hn ht hl).use ok rfl hr (by rintro X q' ⟨t, us, rfl, hu, b, rfl, h1, h2, h3, h4, h5⟩; exact k b us q' hu (us_len hu (show wt b ≤ 1000 by have := pow6_le hd; omega)) h1 h2 h3 h4 h5)
end
theorem BK.eqT {P Q : Prop} {a b : Int} (h : a = b) (k : P) : BK P Q (.bool (a == b)) := by rw [beq_iff_eq.mpr h]; exact .t k
theorem BK.eqF {P Q : Prop} {a b : Int} (h : a ≠ b) (k : Q) : BK P Q (.bool (a == b)) := by rw [beq_eq_false_iff_ne.mpr h]; exact .f k
theorem BK.eqS {P Q : Prop} {a b : Int} (h : a = b → P) (k : a ≠ b → Q) : BK P Q (.bool (a == b)) := .s (fun e => h (beq_iff_eq.mp e)) fun e => k (beq_eq_false_iff_ne.mp e)
theorem BK.ltT {P Q : Prop} {a b : Int} (h : a < b) (k : P) : BK P Q (.bool (decide (a < b))) := by rw [decide_eq_true h]; exact .t k
theorem BK.ltF {P Q : Prop} {a b : Int} (h : ¬ a < b) (k : Q) : BK P Q (.bool (decide (a < b))) := by rw [decide_eq_false h]; exact .f k
theorem BK.ltS {P Q : Prop} {a b : Int} (h : a < b → P) (k : ¬ a < b → Q) : BK P Q (.bool (decide (a < b))) := .s (fun e => h (of_decide_eq_true e)) fun e => k (of_decide_eq_false e)
theorem expr0_c (g : GX) : EC g 0 := by
  intro ra tl told k q hk ht hl
  subst hk
  refine def_vc (dX := []) (dv := []) gl0 [Str.ofString "reel", Str.ofString "told", Str.ofString "deep"] (by rfl) (by rfl) (fun h vs _ _ hl gs dr tk os => ?_) .nil (by rfl) (by rfl) (by rfl) (by rfl) (by rfl) (by rfl) (fun c _ => gl0_ok c) fun c ok hg hr => ?_
  · obtain ⟨a, b, d, rfl⟩ := len3 hl
    exact BindsTo.of_eq rfl
  subst hg
  repeat' (first | first | (refine' expr_u (by with_reducible assumption) (by with_reducible assumption) (by omega) (by (exact Room.le (by with_reducible assumption) (by first | decide | omega))) (by omega) (by (first | with_reducible assumption | exact told_snoc (by (first | with_reducible assumption | exact told_snoc (by (first | with_reducible assumption | exact told_snoc (by (first | with_reducible assumption | exact told_snoc (by (first | with_reducible assumption | exact told_snoc (by (first | with_reducible assumption | exact told_snoc (by (first | with_reducible assumption | exact told_snoc (by fail))))))))))))))) (by first | omega | (((simp only [List.length_append, List.length_cons, List.length_nil, List.length_map]); omega))) ?_; intro t' us' q' hu' hl' hg1' hg2' hg3' hg4') | (refine' block_u (by with_reducible assumption) (by with_reducible assumption) (by omega) (by (exact Room.le (by with_reducible assumption) (by first | decide | omega))) (by omega) (by (first | with_reducible assumption | exact told_snoc (by (first | with_reducible assumption | exact told_snoc (by (first | with_reducible assumption | exact told_snoc (by (first | with_reducible assumption | exact told_snoc (by (first | with_reducible assumption | exact told_snoc (by (first | with_reducible assumption | exact told_snoc (by (first | with_reducible assumption | exact told_snoc (by fail))))))))))))))) (by first | omega | (((simp only [List.length_append, List.length_cons, List.length_nil, List.length_map]); omega))) ?_; intro b' us' q' hu' hl' hg1' hg2' hg3' hg4' hg5') | (refine' AddOb.ll (by first | omega | (((simp only [List.length_append, List.length_cons, List.length_nil, List.length_map]); omega))) ?_) | (refine' AddOb.tt (by first | decide | (((simp only [List.length_append, List.length_cons, List.length_nil, List.length_map]); omega))) ?_) | (refine' BK.eqT (by omega) ?_) | (refine' BK.eqF (by omega) ?_) | (refine' BK.eqS ?_ ?_ <;> intro hb') | (refine' BK.ltT (by omega) ?_) | (refine' BK.ltF (by omega) ?_) | (refine' BK.ltS ?_ ?_ <;> intro hb') | (refine' BK.t ?_) | (refine' BK.f ?_) | (refine' BK.s ?_ ?_ <;> intro hb') | (refine' type_u (by with_reducible assumption) (by (exact Room.le (by with_reducible assumption) (by first | decide | omega))) (by (first | with_reducible assumption | exact told_snoc (by (first | with_reducible assumption | exact told_snoc (by (first | with_reducible assumption | exact told_snoc (by (first | with_reducible assumption | exact told_snoc (by (first | with_reducible assumption | exact told_snoc (by (first | with_reducible assumption | exact told_snoc (by (first | with_reducible assumption | exact told_snoc (by fail))))))))))))))) ?_; intro t' us' q' hu' hl' hg1' hg2' hg3' hg4') | first | (refine' BK.s ?_ ?_ <;> intro hb') | (refine' used_u (by with_reducible assumption) (by (exact Room.le (by with_reducible assumption) (by first | decide | omega))) (by (first | with_reducible assumption | exact told_snoc (by (first | with_reducible assumption | exact told_snoc (by (first | with_reducible assumption | exact told_snoc (by (first | with_reducible assumption | exact told_snoc (by (first | with_reducible assumption | exact told_snoc (by (first | with_reducible assumption | exact told_snoc (by (first | with_reducible assumption | exact told_snoc (by fail))))))))))))))) ?_; intro us' q' hu' hl') | (refine' name_u (by with_reducible assumption) (by (exact Room.le (by with_reducible assumption) (by first | decide | omega))) ?_; intro x' q' hx') | first | (refine' SwOb.two (by with_unfolding_all rfl) ?_) | (refine' SwOb.none (by with_unfolding_all rfl) ?_) | (refine' SwOb.three (by with_unfolding_all rfl) ?_) | (refine' And.intro rfl ?_) | (refine' wound_u (by with_reducible assumption) (by (exact Room.le (by with_reducible assumption) (by first | decide | omega))) (by first | decide | omega) (by first | decide | omega) ?_; intro v' q' hv0' hv1'))
  · exact gp_of (.name _) (by assumption) ⟨rfl, by assumption, Nat.le_of_ble_eq_true rfl, Nat.le_of_ble_eq_true rfl⟩
  · exact gp_of (.select _) (uv_app (by assumption) (by assumption)) ⟨rfl, by assumption, Nat.le_of_ble_eq_true rfl, Nat.le_of_ble_eq_true rfl⟩
theorem exprS_c (g : GX) (d : Nat) (hd2 : d + 1 ≤ 2) (hE : EC g d) (hB : BC g d) : EC g (d + 1) := by
  intro ra tl told k q hk ht hl
  have h61 := pow6 d
  have h62 := pow6_pos d
  refine def_vc (dX := []) (dv := []) gl0 [Str.ofString "reel", Str.ofString "told", Str.ofString "deep"] (by rfl) (by rfl) (fun h vs _ _ hl gs dr tk os => ?_) .nil (by rfl) (by rfl) (by rfl) (by rfl) (by rfl) (by rfl) (fun c _ => gl0_ok c) fun c ok hg hr => ?_
  · obtain ⟨a, b, d, rfl⟩ := len3 hl
    exact BindsTo.of_eq rfl
  subst hg
  repeat' (first | first | (refine' expr_u (by with_reducible assumption) (by with_reducible assumption) (by omega) (by (exact Room.le (by with_reducible assumption) (by first | decide | omega))) (by omega) (by (first | with_reducible assumption | exact told_snoc (by (first | with_reducible assumption | exact told_snoc (by (first | with_reducible assumption | exact told_snoc (by (first | with_reducible assumption | exact told_snoc (by (first | with_reducible assumption | exact told_snoc (by (first | with_reducible assumption | exact told_snoc (by (first | with_reducible assumption | exact told_snoc (by fail))))))))))))))) (by first | omega | (((simp only [List.length_append, List.length_cons, List.length_nil, List.length_map]); omega))) ?_; intro t' us' q' hu' hl' hg1' hg2' hg3' hg4') | (refine' block_u (by with_reducible assumption) (by with_reducible assumption) (by omega) (by (exact Room.le (by with_reducible assumption) (by first | decide | omega))) (by omega) (by (first | with_reducible assumption | exact told_snoc (by (first | with_reducible assumption | exact told_snoc (by (first | with_reducible assumption | exact told_snoc (by (first | with_reducible assumption | exact told_snoc (by (first | with_reducible assumption | exact told_snoc (by (first | with_reducible assumption | exact told_snoc (by (first | with_reducible assumption | exact told_snoc (by fail))))))))))))))) (by first | omega | (((simp only [List.length_append, List.length_cons, List.length_nil, List.length_map]); omega))) ?_; intro b' us' q' hu' hl' hg1' hg2' hg3' hg4' hg5') | (refine' AddOb.ll (by first | omega | (((simp only [List.length_append, List.length_cons, List.length_nil, List.length_map]); omega))) ?_) | (refine' AddOb.tt (by first | decide | (((simp only [List.length_append, List.length_cons, List.length_nil, List.length_map]); omega))) ?_) | (refine' BK.eqT (by omega) ?_) | (refine' BK.eqF (by omega) ?_) | (refine' BK.eqS ?_ ?_ <;> intro hb') | (refine' BK.ltT (by omega) ?_) | (refine' BK.ltF (by omega) ?_) | (refine' BK.ltS ?_ ?_ <;> intro hb') | (refine' BK.t ?_) | (refine' BK.f ?_) | (refine' BK.s ?_ ?_ <;> intro hb') | (refine' type_u (by with_reducible assumption) (by (exact Room.le (by with_reducible assumption) (by first | decide | omega))) (by (first | with_reducible assumption | exact told_snoc (by (first | with_reducible assumption | exact told_snoc (by (first | with_reducible assumption | exact told_snoc (by (first | with_reducible assumption | exact told_snoc (by (first | with_reducible assumption | exact told_snoc (by (first | with_reducible assumption | exact told_snoc (by (first | with_reducible assumption | exact told_snoc (by fail))))))))))))))) ?_; intro t' us' q' hu' hl' hg1' hg2' hg3' hg4') | first | (refine' BK.s ?_ ?_ <;> intro hb') | (refine' used_u (by with_reducible assumption) (by (exact Room.le (by with_reducible assumption) (by first | decide | omega))) (by (first | with_reducible assumption | exact told_snoc (by (first | with_reducible assumption | exact told_snoc (by (first | with_reducible assumption | exact told_snoc (by (first | with_reducible assumption | exact told_snoc (by (first | with_reducible assumption | exact told_snoc (by (first | with_reducible assumption | exact told_snoc (by (first | with_reducible assumption | exact told_snoc (by fail))))))))))))))) ?_; intro us' q' hu' hl') | (refine' name_u (by with_reducible assumption) (by (exact Room.le (by with_reducible assumption) (by first | decide | omega))) ?_; intro x' q' hx') | first | (refine' SwOb.two (by with_unfolding_all rfl) ?_) | (refine' SwOb.none (by with_unfolding_all rfl) ?_) | (refine' SwOb.three (by with_unfolding_all rfl) ?_) | (refine' And.intro rfl ?_) | (refine' wound_u (by with_reducible assumption) (by (exact Room.le (by with_reducible assumption) (by first | decide | omega))) (by first | decide | omega) (by first | decide | omega) ?_; intro v' q' hv0' hv1'))
  · exact gp_of (.name _) (by assumption) ⟨rfl, by assumption, by ((first | ((try simp only [dep, wt]); omega) | rfl)), by ((first | ((try simp only [dep, wt]); omega) | rfl))⟩
  · exact gp_of (.name _) (by assumption) ⟨rfl, by assumption, by ((first | ((try simp only [dep, wt]); omega) | rfl)), by ((first | ((try simp only [dep, wt]); omega) | rfl))⟩
  · exact gp_of (.select _) (uv_app (by assumption) (by assumption)) ⟨rfl, by assumption, by ((first | ((try simp only [dep, wt]); omega) | rfl)), by ((first | ((try simp only [dep, wt]); omega) | rfl))⟩
  · exact gp_of (.binary _ _) (uv_app (by assumption) (by assumption)) ⟨rfl, ⟨by assumption, by assumption, by assumption⟩, by ((first | ((try simp only [dep, wt]); omega) | rfl)), by ((first | ((try simp only [dep, wt]); omega) | rfl))⟩
  · exact gp_of (.call _ _) (uv_app (by assumption) (by assumption)) ⟨rfl, ⟨by assumption, by assumption, by assumption⟩, by ((first | ((try simp only [dep, wt]); omega) | rfl)), by ((first | ((try simp only [dep, wt]); omega) | rfl))⟩
  · exact gp_of (.lit _ _) (uv_app (by assumption) (by assumption)) ⟨rfl, ⟨by assumption, by assumption, by assumption⟩, by ((first | ((try simp only [dep, wt]); omega) | rfl)), by ((first | ((try simp only [dep, wt]); omega) | rfl))⟩
  · exact gp_of (.func _ _ _) (uv_app (by assumption) (by assumption)) ⟨rfl, ⟨by assumption, by assumption, by assumption, by assumption, by assumption, by assumption⟩, by ((first | ((try simp only [dep, wt]); omega) | rfl)), by ((first | ((try simp only [dep, wt]); omega) | rfl))⟩
noncomputable def SP (told : List Str) (good : T → Prop) : KV RS := fun X _ => ∃ t us ts, X = .tup [(tv t).1, .list us, .list ts] ∧ us = (uses t told).map useV ∧ ts = (told ++ tells t).map strV ∧ good t
theorem sp_of {told : List Str} {good : T → Prop} {us ts : List V} (t : T) (hu : us = (uses t told).map useV) (ht : ts = (told ++ tells t).map strV) (hg : good t) : ∃ t' us' ts', V.tup [(tv t).1, .list us, .list ts] = .tup [(tv t').1, .list us', .list ts'] ∧ us' = (uses t' told).map useV ∧ ts' = (told ++ tells t').map strV ∧ good t' := ⟨t, us, ts, rfl, hu, ht, hg⟩
theorem tells_len (t : T) : (tells t).length ≤ 1 := by cases t <;> first | exact Nat.zero_le _ | exact Nat.le_refl _
theorem told_nil {tl : List V} {told : List Str} (h : tl = told.map strV) : tl = (told ++ []).map strV := by rw [h, List.append_nil]
noncomputable def PC (g : GX) (d : Nat) : Prop := ∀ (ra : Addr) (tl : List V) (told : List Str) (k : Int) (q : RS), k = (d : Int) → tl = told.map strV → tl.length + 10 * d ≤ 100 → CT (IR ra) g (10 * d + 42) (.ref 226) [.raw (.ref ra), .list tl, .int k] q (SP told (SG d))
noncomputable def SC (g : GX) (d : Nat) : Prop := ∀ (ra : Addr) (tl : List V) (told : List Str) (k : Int) (q : RS), k = (d : Int) → tl = told.map strV → tl.length + 10 * d ≤ 97 → CT (IR ra) g (10 * d + 43) (.ref 233) [.raw (.ref ra), .list tl, .int k] q (SP told (SG d))
section
variable {ra : Addr} {c : Cx} {M : MV} {K : KV RS} {q : RS} {told : List Str} {tl : List V} {d : Nat} {n : Int}
theorem ts_len {ts : List V} {t : T} (h : ts = (told ++ tells t).map strV) (ht : tl = told.map strV) : ts.length ≤ tl.length + 1 := by
  have := tells_len t
  rw [h, ht]; simp only [List.length_map, List.length_append]; omega
theorem plain_u (h : PC c.g d) (ok : c.Ok) (hd : d ≤ 2) (hr : Room c (10 * d + 42)) (hn : n = (d : Int)) (ht : tl = told.map strV) (hl : tl.length + 10 * d ≤ 100) (k : ∀ t us ts q', us = (uses t told).map useV → us.length ≤ 1000 → ts = (told ++ tells t).map strV → ts.length ≤ tl.length + 1 → isT t = true → Ok t → dep t ≤ 30 + 30 * d → wt t ≤ 6 * 6 ^ d → K (.tup [(tv t).1, .list us, .list ts]) q') : CW (IR ra) c M (.ref 226) [.raw (.ref ra), .list tl, .int n] q K :=
  (h ra tl told n q hn ht hl).use ok rfl hr (by rintro X q' ⟨t, us, ts, rfl, hu, hts, h1, h2, h3, h4⟩; exact k t us ts q' hu (us_len hu (by have := pow6_le hd; omega)) hts (ts_len hts ht) h1 h2 h3 h4)
theorem stat_u (h : SC c.g d) (ok : c.Ok) (hd : d ≤ 2) (hr : Room c (10 * d + 43)) (hn : n = (d : Int)) (ht : tl = told.map strV) (hl : tl.length + 10 * d ≤ 97) (k : ∀ t us ts q', us = (uses t told).map useV → us.length ≤ 1000 → ts = (told ++ tells t).map strV → ts.length ≤ tl.length + 1 → isT t = true → Ok t → dep t ≤ 30 + 30 * d → wt t ≤ 6 * 6 ^ d → K (.tup [(tv t).1, .list us, .list ts]) q') : CW (IR ra) c M (.ref 233) [.raw (.ref ra), .list tl, .int n] q K :=
  (h ra tl told n q hn ht hl).use ok rfl hr (by rintro X q' ⟨t, us, ts, rfl, hu, hts, h1, h2, h3, h4⟩; exact k t us ts q' hu (us_len hu (by have := pow6_le hd; omega)) hts (ts_len hts ht) h1 h2 h3 h4)
end
theorem plain_c (g : GX) (d : Nat) (hd2 : d ≤ 2) (hE : EC g d) : PC g d := by
  intro ra tl told k q hk ht hl
  have h62 := pow6_pos d
  refine def_vc (dX := []) (dv := []) gl0 [Str.ofString "reel", Str.ofString "told", Str.ofString "deep"] (by rfl) (by rfl) (fun h vs _ _ hl gs dr tk os => ?_) .nil (by rfl) (by rfl) (by rfl) (by rfl) (by rfl) (by rfl) (fun c _ => gl0_ok c) fun c ok hg hr => ?_
  · obtain ⟨a, b, d, rfl⟩ := len3 hl
    exact BindsTo.of_eq rfl
  subst hg
  repeat' (first | first | (refine' plain_u (by with_reducible assumption) (by with_reducible assumption) (by omega) (by (exact Room.le (by with_reducible assumption) (by first | decide | omega))) (by omega) (by (first | with_reducible assumption | exact told_snoc (by (first | with_reducible assumption | exact told_snoc (by (first | with_reducible assumption | exact told_snoc (by (first | with_reducible assumption | exact told_snoc (by (first | with_reducible assumption | exact told_snoc (by (first | with_reducible assumption | exact told_snoc (by (first | with_reducible assumption | exact told_snoc (by fail))))))))))))))) (by first | omega | (((simp only [List.length_append, List.length_cons, List.length_nil, List.length_map]); omega))) ?_; intro t' us' ts' q' hu' hl' hts' hl2' hg1' hg2' hg3' hg4') | (refine' stat_u (by with_reducible assumption) (by with_reducible assumption) (by omega) (by (exact Room.le (by with_reducible assumption) (by first | decide | omega))) (by omega) (by (first | with_reducible assumption | exact told_snoc (by (first | with_reducible assumption | exact told_snoc (by (first | with_reducible assumption | exact told_snoc (by (first | with_reducible assumption | exact told_snoc (by (first | with_reducible assumption | exact told_snoc (by (first | with_reducible assumption | exact told_snoc (by (first | with_reducible assumption | exact told_snoc (by fail))))))))))))))) (by first | omega | (((simp only [List.length_append, List.length_cons, List.length_nil, List.length_map]); omega))) ?_; intro t' us' ts' q' hu' hl' hts' hl2' hg1' hg2' hg3' hg4') | first | (refine' expr_u (by with_reducible assumption) (by with_reducible assumption) (by omega) (by (exact Room.le (by with_reducible assumption) (by first | decide | omega))) (by omega) (by (first | with_reducible assumption | exact told_snoc (by (first | with_reducible assumption | exact told_snoc (by (first | with_reducible assumption | exact told_snoc (by (first | with_reducible assumption | exact told_snoc (by (first | with_reducible assumption | exact told_snoc (by (first | with_reducible assumption | exact told_snoc (by (first | with_reducible assumption | exact told_snoc (by fail))))))))))))))) (by first | omega | (((simp only [List.length_append, List.length_cons, List.length_nil, List.length_map]); omega))) ?_; intro t' us' q' hu' hl' hg1' hg2' hg3' hg4') | (refine' block_u (by with_reducible assumption) (by with_reducible assumption) (by omega) (by (exact Room.le (by with_reducible assumption) (by first | decide | omega))) (by omega) (by (first | with_reducible assumption | exact told_snoc (by (first | with_reducible assumption | exact told_snoc (by (first | with_reducible assumption | exact told_snoc (by (first | with_reducible assumption | exact told_snoc (by (first | with_reducible assumption | exact told_snoc (by (first | with_reducible assumption | exact told_snoc (by (first | with_reducible assumption | exact told_snoc (by fail))))))))))))))) (by first | omega | (((simp only [List.length_append, List.length_cons, List.length_nil, List.length_map]); omega))) ?_; intro b' us' q' hu' hl' hg1' hg2' hg3' hg4' hg5') | (refine' AddOb.ll (by first | omega | (((simp only [List.length_append, List.length_cons, List.length_nil, List.length_map]); omega))) ?_) | (refine' AddOb.tt (by first | decide | (((simp only [List.length_append, List.length_cons, List.length_nil, List.length_map]); omega))) ?_) | (refine' BK.eqT (by omega) ?_) | (refine' BK.eqF (by omega) ?_) | (refine' BK.eqS ?_ ?_ <;> intro hb') | (refine' BK.ltT (by omega) ?_) | (refine' BK.ltF (by omega) ?_) | (refine' BK.ltS ?_ ?_ <;> intro hb') | (refine' BK.t ?_) | (refine' BK.f ?_) | (refine' BK.s ?_ ?_ <;> intro hb') | (refine' type_u (by with_reducible assumption) (by (exact Room.le (by with_reducible assumption) (by first | decide | omega))) (by (first | with_reducible assumption | exact told_snoc (by (first | with_reducible assumption | exact told_snoc (by (first | with_reducible assumption | exact told_snoc (by (first | with_reducible assumption | exact told_snoc (by (first | with_reducible assumption | exact told_snoc (by (first | with_reducible assumption | exact told_snoc (by (first | with_reducible assumption | exact told_snoc (by fail))))))))))))))) ?_; intro t' us' q' hu' hl' hg1' hg2' hg3' hg4') | first | (refine' BK.s ?_ ?_ <;> intro hb') | (refine' used_u (by with_reducible assumption) (by (exact Room.le (by with_reducible assumption) (by first | decide | omega))) (by (first | with_reducible assumption | exact told_snoc (by (first | with_reducible assumption | exact told_snoc (by (first | with_reducible assumption | exact told_snoc (by (first | with_reducible assumption | exact told_snoc (by (first | with_reducible assumption | exact told_snoc (by (first | with_reducible assumption | exact told_snoc (by (first | with_reducible assumption | exact told_snoc (by fail))))))))))))))) ?_; intro us' q' hu' hl') | (refine' name_u (by with_reducible assumption) (by (exact Room.le (by with_reducible assumption) (by first | decide | omega))) ?_; intro x' q' hx') | first | (refine' SwOb.two (by with_unfolding_all rfl) ?_) | (refine' SwOb.none (by with_unfolding_all rfl) ?_) | (refine' SwOb.three (by with_unfolding_all rfl) ?_) | (refine' And.intro rfl ?_) | (refine' wound_u (by with_reducible assumption) (by (exact Room.le (by with_reducible assumption) (by first | decide | omega))) (by first | decide | omega) (by first | decide | omega) ?_; intro v' q' hv0' hv1'))
  · exact sp_of (.typedecl _ _) (by assumption) (told_snoc (by assumption)) ⟨rfl, ⟨by assumption, by assumption, by assumption⟩, by ((first | ((try simp only [dep, wt]); omega) | rfl)), by ((first | ((try simp only [dep, wt]); omega) | rfl))⟩
  · exact sp_of (.expr _) (by assumption) (told_nil (by assumption)) ⟨rfl, ⟨by assumption, by assumption⟩, by ((first | ((try simp only [dep, wt]); omega) | rfl)), by ((first | ((try simp only [dep, wt]); omega) | rfl))⟩
  · exact sp_of (.define _ _) (by assumption) (told_snoc (by assumption)) ⟨rfl, ⟨by assumption, by assumption, by assumption⟩, by ((first | ((try simp only [dep, wt]); omega) | rfl)), by ((first | ((try simp only [dep, wt]); omega) | rfl))⟩
  · exact sp_of (.var _ _ _) (uv_app (by assumption) (by assumption)) (told_snoc (by assumption)) ⟨rfl, ⟨by assumption, by assumption, by assumption, by assumption, by assumption⟩, by ((first | ((try simp only [dep, wt]); omega) | rfl)), by ((first | ((try simp only [dep, wt]); omega) | rfl))⟩
section
variable {σ : Type} {I : II σ} {c : Cx} {M : MV} {K : KV σ} {s : σ}
theorem tuple_list_u [IMono I] {Xs : List V} (hz : Xs.length ≤ 1000) (k : K (.tup Xs) s) : CW I c M (.type "tuple") [.list Xs] s K := by
  refine ⟨fun hp imm m g0 gs dr tk os Q E vs hvs C kk => ?_⟩
  cases hvs with
  | cons h hv =>
    cases hv
    obtain ⟨a, xs, n, rfl, hm, hq⟩ := h.list_inv
    refine kde_tupleOf (zs := xs) C.F C.N (News.isList C.N (C.tup' hm)) (by have := hq.len; simp only [List.size_toArray]; omega) rfl fun D h' F' N' l' => ?_
    exact kk _ _ s ((D, tupO xs) :: imm) m g0 h' _ k (.of_tup (.head _) (hq.mono (sub_cons sub_rfl))) (sub_cons sub_rfl) (C.new F' N' l')
theorem tuple_tup_u {Xs : List V} (k : K (.tup Xs) s) : CW I c M (.type "tuple") [.tup Xs] s K := by
  refine ⟨fun hp imm m g0 gs dr tk os Q E vs hvs C kk => ?_⟩
  cases hvs with
  | cons h hv =>
    cases hv
    have h2 := h
    obtain ⟨a, xs, rfl, hm, hq⟩ := h.tup_inv
    exact call_tuple_tup (News.isTup C.N (C.tup hm)) (kk _ _ s imm m g0 hp tk k h2 sub_rfl C)
theorem list_tup_u [IMono I] {Xs : List V} (hz : Xs.length ≤ 1000) (k : K (.list Xs) s) : CW I c M (.type "list") [.tup Xs] s K := by
  refine ⟨fun hp imm m g0 gs dr tk os Q E vs hvs C kk => ?_⟩
  cases hvs with
  | cons h hv =>
    cases hv
    obtain ⟨a, xs, rfl, hm, hq⟩ := h.tup_inv
    refine kup_listOfT (zs := xs) C.F C.N (C.tup hm) rfl (fun D n h' F' N' l' => ?_) (by have := hq.len; rw [sizeLine_eq]; show xs.length ≤ _; omega)
    exact kk _ _ s ((D, listOf xs.toArray n) :: imm) m g0 h' _ k (.of_list (.head _) (hq.mono (sub_cons sub_rfl))) (sub_cons sub_rfl) (C.new F' N' l')
theorem list_list_u [IMono I] {Xs : List V} (hz : Xs.length ≤ 1000) (k : K (.list Xs) s) : CW I c M (.type "list") [.list Xs] s K := by
  refine ⟨fun hp imm m g0 gs dr tk os Q E vs hvs C kk => ?_⟩
  cases hvs with
  | cons h hv =>
    cases hv
    obtain ⟨a, xs, n, rfl, hm, hq⟩ := h.list_inv
    refine kup_listOf (zs := xs) C.F C.N (C.tup' hm) rfl (fun D n h' F' N' l' => ?_) (by have := hq.len; rw [sizeLine_eq]; show xs.length ≤ _; omega)
    exact kk _ _ s ((D, listOf xs.toArray n) :: imm) m g0 h' _ k (.of_list (.head _) (hq.mono (sub_cons sub_rfl))) (sub_cons sub_rfl) (C.new F' N' l')
end
theorem one3_u {ra : Addr} {c : Cx} {M : MV} {K : KV RS} {q : RS} {a b d : V} (ok : c.Ok) (hr : Room c 25) (k1 : ∀ q', K a q') (k2 : ∀ q', K b q') (k3 : ∀ q', K d q') : CW (IR ra) c M (.ref 179) [.raw (.ref ra), .list [a, b, d]] q K :=
  (one_c c.g ra [a, b, d] (by simp) (by simp) q).use ok rfl hr (by
    intro X q' hX
    simp only [List.mem_cons, List.not_mem_nil, or_false] at hX
    rcases hX with rfl | rfl | rfl
    · exact k1 q'
    · exact k2 q'
    · exact k3 q')
theorem gp_of2 {told : List Str} {good : T → Prop} {us : List V} {U : List Use} (t : T) (hu : us = U.map useV) (e : U = uses t told) (hg : good t) : ∃ t' us', V.tup [(tv t).1, .list us] = .tup [(tv t').1, .list us'] ∧ us' = (uses t' told).map useV ∧ good t' := by subst e; exact ⟨t, us, rfl, hu, hg⟩
theorem uv_nil : ([] : List V) = ([] : List Use).map useV := rfl
theorem block_c (g : GX) (d : Nat) (hd2 : d ≤ 2) (hE : SC g d) : BC g d := by
  intro ra tl told k q hk ht hl
  have h62 := pow6_pos d
  refine def_vc (dX := []) (dv := []) gl0 [Str.ofString "reel", Str.ofString "told", Str.ofString "deep"] (by rfl) (by rfl) (fun h vs _ _ hl gs dr tk os => ?_) .nil (by rfl) (by rfl) (by rfl) (by rfl) (by rfl) (by rfl) (fun c _ => gl0_ok c) fun c ok hg hr => ?_
  · obtain ⟨a, b, d, rfl⟩ := len3 hl
    exact BindsTo.of_eq rfl
  subst hg
  repeat' (first | first | (refine' one3_u ?_ ?_ ?_ ?_ ?_ <;> first | (with_reducible assumption) | ((exact Room.le (by with_reducible assumption) (by first | decide | omega))) | intro q') | (refine' tuple_list_u (by first | omega | (((simp only [List.length_append, List.length_cons, List.length_nil, List.length_map]); omega))) ?_) | first | (refine' plain_u (by with_reducible assumption) (by with_reducible assumption) (by omega) (by (exact Room.le (by with_reducible assumption) (by first | decide | omega))) (by omega) (by (first | with_reducible assumption | exact told_snoc (by (first | with_reducible assumption | exact told_snoc (by (first | with_reducible assumption | exact told_snoc (by (first | with_reducible assumption | exact told_snoc (by (first | with_reducible assumption | exact told_snoc (by (first | with_reducible assumption | exact told_snoc (by (first | with_reducible assumption | exact told_snoc (by fail))))))))))))))) (by first | omega | (((simp only [List.length_append, List.length_cons, List.length_nil, List.length_map]); omega))) ?_; intro t' us' ts' q' hu' hl' hts' hl2' hg1' hg2' hg3' hg4') | (refine' stat_u (by with_reducible assumption) (by with_reducible assumption) (by omega) (by (exact Room.le (by with_reducible assumption) (by first | decide | omega))) (by omega) (by (first | with_reducible assumption | exact told_snoc (by (first | with_reducible assumption | exact told_snoc (by (first | with_reducible assumption | exact told_snoc (by (first | with_reducible assumption | exact told_snoc (by (first | with_reducible assumption | exact told_snoc (by (first | with_reducible assumption | exact told_snoc (by (first | with_reducible assumption | exact told_snoc (by fail))))))))))))))) (by first | omega | (((simp only [List.length_append, List.length_cons, List.length_nil, List.length_map]); omega))) ?_; intro t' us' ts' q' hu' hl' hts' hl2' hg1' hg2' hg3' hg4') | first | (refine' expr_u (by with_reducible assumption) (by with_reducible assumption) (by omega) (by (exact Room.le (by with_reducible assumption) (by first | decide | omega))) (by omega) (by (first | with_reducible assumption | exact told_snoc (by (first | with_reducible assumption | exact told_snoc (by (first | with_reducible assumption | exact told_snoc (by (first | with_reducible assumption | exact told_snoc (by (first | with_reducible assumption | exact told_snoc (by (first | with_reducible assumption | exact told_snoc (by (first | with_reducible assumption | exact told_snoc (by fail))))))))))))))) (by first | omega | (((simp only [List.length_append, List.length_cons, List.length_nil, List.length_map]); omega))) ?_; intro t' us' q' hu' hl' hg1' hg2' hg3' hg4') | (refine' block_u (by with_reducible assumption) (by with_reducible assumption) (by omega) (by (exact Room.le (by with_reducible assumption) (by first | decide | omega))) (by omega) (by (first | with_reducible assumption | exact told_snoc (by (first | with_reducible assumption | exact told_snoc (by (first | with_reducible assumption | exact told_snoc (by (first | with_reducible assumption | exact told_snoc (by (first | with_reducible assumption | exact told_snoc (by (first | with_reducible assumption | exact told_snoc (by (first | with_reducible assumption | exact told_snoc (by fail))))))))))))))) (by first | omega | (((simp only [List.length_append, List.length_cons, List.length_nil, List.length_map]); omega))) ?_; intro b' us' q' hu' hl' hg1' hg2' hg3' hg4' hg5') | (refine' AddOb.ll (by first | omega | (((simp only [List.length_append, List.length_cons, List.length_nil, List.length_map]); omega))) ?_) | (refine' AddOb.tt (by first | decide | (((simp only [List.length_append, List.length_cons, List.length_nil, List.length_map]); omega))) ?_) | (refine' BK.eqT (by omega) ?_) | (refine' BK.eqF (by omega) ?_) | (refine' BK.eqS ?_ ?_ <;> intro hb') | (refine' BK.ltT (by omega) ?_) | (refine' BK.ltF (by omega) ?_) | (refine' BK.ltS ?_ ?_ <;> intro hb') | (refine' BK.t ?_) | (refine' BK.f ?_) | (refine' BK.s ?_ ?_ <;> intro hb') | (refine' type_u (by with_reducible assumption) (by (exact Room.le (by with_reducible assumption) (by first | decide | omega))) (by (first | with_reducible assumption | exact told_snoc (by (first | with_reducible assumption | exact told_snoc (by (first | with_reducible assumption | exact told_snoc (by (first | with_reducible assumption | exact told_snoc (by (first | with_reducible assumption | exact told_snoc (by (first | with_reducible assumption | exact told_snoc (by (first | with_reducible assumption | exact told_snoc (by fail))))))))))))))) ?_; intro t' us' q' hu' hl' hg1' hg2' hg3' hg4') | first | (refine' BK.s ?_ ?_ <;> intro hb') | (refine' used_u (by with_reducible assumption) (by (exact Room.le (by with_reducible assumption) (by first | decide | omega))) (by (first | with_reducible assumption | exact told_snoc (by (first | with_reducible assumption | exact told_snoc (by (first | with_reducible assumption | exact told_snoc (by (first | with_reducible assumption | exact told_snoc (by (first | with_reducible assumption | exact told_snoc (by (first | with_reducible assumption | exact told_snoc (by (first | with_reducible assumption | exact told_snoc (by fail))))))))))))))) ?_; intro us' q' hu' hl') | (refine' name_u (by with_reducible assumption) (by (exact Room.le (by with_reducible assumption) (by first | decide | omega))) ?_; intro x' q' hx') | first | (refine' SwOb.two (by with_unfolding_all rfl) ?_) | (refine' SwOb.none (by with_unfolding_all rfl) ?_) | (refine' SwOb.three (by with_unfolding_all rfl) ?_) | (refine' And.intro rfl ?_) | (refine' wound_u (by with_reducible assumption) (by (exact Room.le (by with_reducible assumption) (by first | decide | omega))) (by first | decide | omega) (by first | decide | omega) ?_; intro v' q' hv0' hv1'))
  · exact gp_of2 (.block (.cons _ .nil)) (uv_app uv_nil (by assumption)) (by simp [uses]) ⟨_, rfl, rfl, ⟨by assumption, by assumption, rfl, trivial⟩, Nat.le_of_ble_eq_true rfl, by ((first | ((try simp only [dep, wt]); omega) | rfl)), by ((first | ((try simp only [dep, wt]); omega) | rfl))⟩
  · exact gp_of2 (.block (.cons _ (.cons _ .nil))) (uv_app (uv_app uv_nil (by assumption)) (by assumption)) (by simp [uses]) ⟨_, rfl, rfl, ⟨by assumption, by assumption, rfl, by assumption, by assumption, rfl, trivial⟩, Nat.le_of_ble_eq_true rfl, by ((first | ((try simp only [dep, wt]); omega) | rfl)), by ((first | ((try simp only [dep, wt]); omega) | rfl))⟩
  · exact gp_of2 (.block .nil) uv_nil rfl ⟨_, rfl, rfl, trivial, Nat.le_of_ble_eq_true rfl, by ((first | ((try simp only [dep, wt]); omega) | rfl)), by ((first | ((try simp only [dep, wt]); omega) | rfl))⟩
theorem wound3_u {ra : Addr} {c : Cx} {M : MV} {K : KV RS} {q : RS} (ok : c.Ok) (hr : Room c 20) (k0 : ∀ q', K (.int 0) q') (k1 : ∀ q', K (.int 1) q') (k2 : ∀ q', K (.int 2) q') : CW (IR ra) c M (.ref 172) [.raw (.ref ra), .int 3] q K :=
  wound_u ok hr (by decide) (by decide) fun v q' h0 h1 => by
    have : v = 0 ∨ v = 1 ∨ v = 2 := by omega
    rcases this with rfl | rfl | rfl
    · exact k0 q'
    · exact k1 q'
    · exact k2 q'
noncomputable def CP (told : List Str) (good : T → Prop) : KV RS := fun X _ => ∃ t us, X = .tup [.tup (tv t).2, .list us] ∧ us = (uses t told).map useV ∧ good t
theorem cp_of2 {told : List Str} {good : T → Prop} {us : List V} {U : List Use} (t : T) (hu : us = U.map useV) (e : U = uses t told) (hg : good t) : ∃ t' us', V.tup [.tup (tv t).2, .list us] = .tup [.tup (tv t').2, .list us'] ∧ us' = (uses t' told).map useV ∧ good t' := by subst e; exact ⟨t, us, rfl, hu, hg⟩
noncomputable abbrev CG (d : Nat) (t : T) : Prop := isR t = true ∧ Ok t ∧ len t ≤ 10 ∧ dep t ≤ 30 + 30 * d ∧ wt t ≤ 6 + 24 * 6 ^ d
noncomputable def CC (g : GX) (d : Nat) : Prop := ∀ (ra : Addr) (tl : List V) (told : List Str) (k : Int) (q : RS), k = (d : Int) → tl = told.map strV → tl.length + 10 * d ≤ 95 → CT (IR ra) g (10 * d + 45) (.ref 219) [.raw (.ref ra), .list tl, .int k] q (CP told (CG d))
theorem cases_u {ra : Addr} {c : Cx} {M : MV} {K : KV RS} {q : RS} {told : List Str} {tl : List V} {d : Nat} {n : Int} (h : CC c.g d) (ok : c.Ok) (hd : d ≤ 1) (hr : Room c (10 * d + 45)) (hn : n = (d : Int)) (ht : tl = told.map strV) (hl : tl.length + 10 * d ≤ 95) (k : ∀ t us q', us = (uses t told).map useV → us.length ≤ 1000 → isR t = true → Ok t → len t ≤ 10 → dep t ≤ 30 + 30 * d → wt t ≤ 6 + 24 * 6 ^ d → K (.tup [.tup (tv t).2, .list us]) q') : CW (IR ra) c M (.ref 219) [.raw (.ref ra), .list tl, .int n] q K :=
  (h ra tl told n q hn ht hl).use ok rfl hr (by rintro X q' ⟨t, us, rfl, hu, h1, h2, h3, h4, h5⟩; exact k t us q' hu (us_len hu (by have := pow6_le (d := d) (by omega); omega)) h1 h2 h3 h4 h5)
theorem cases_c (g : GX) (d : Nat) (hd2 : d ≤ 1) (hE : EC g 0) (hB : BC g d) : CC g d := by
  intro ra tl told k q hk ht hl
  have h62 := pow6_pos d
  refine def_vc (dX := []) (dv := []) gl0 [Str.ofString "reel", Str.ofString "told", Str.ofString "deep"] (by rfl) (by rfl) (fun h vs _ _ hl gs dr tk os => ?_) .nil (by rfl) (by rfl) (by rfl) (by rfl) (by rfl) (by rfl) (fun c _ => gl0_ok c) fun c ok hg hr => ?_
  · obtain ⟨a, b, d, rfl⟩ := len3 hl
    exact BindsTo.of_eq rfl
  subst hg
  repeat' (first | first | (refine' wound3_u ?_ ?_ ?_ ?_ ?_ <;> first | (with_reducible assumption) | ((exact Room.le (by with_reducible assumption) (by first | decide | omega))) | intro q') | (refine' cases_u (by with_reducible assumption) (by with_reducible assumption) (by omega) (by (exact Room.le (by with_reducible assumption) (by first | decide | omega))) (by omega) (by (first | with_reducible assumption | exact told_snoc (by (first | with_reducible assumption | exact told_snoc (by (first | with_reducible assumption | exact told_snoc (by (first | with_reducible assumption | exact told_snoc (by (first | with_reducible assumption | exact told_snoc (by (first | with_reducible assumption | exact told_snoc (by (first | with_reducible assumption | exact told_snoc (by fail))))))))))))))) (by first | omega | (((simp only [List.length_append, List.length_cons, List.length_nil, List.length_map]); omega))) ?_; intro t' us' q' hu' hl' hg1' hg2' hg3' hg4' hg5') | first | (refine' one3_u ?_ ?_ ?_ ?_ ?_ <;> first | (with_reducible assumption) | ((exact Room.le (by with_reducible assumption) (by first | decide | omega))) | intro q') | (refine' tuple_list_u (by first | omega | (((simp only [List.length_append, List.length_cons, List.length_nil, List.length_map]); omega))) ?_) | first | (refine' plain_u (by with_reducible assumption) (by with_reducible assumption) (by omega) (by (exact Room.le (by with_reducible assumption) (by first | decide | omega))) (by omega) (by (first | with_reducible assumption | exact told_snoc (by (first | with_reducible assumption | exact told_snoc (by (first | with_reducible assumption | exact told_snoc (by (first | with_reducible assumption | exact told_snoc (by (first | with_reducible assumption | exact told_snoc (by (first | with_reducible assumption | exact told_snoc (by (first | with_reducible assumption | exact told_snoc (by fail))))))))))))))) (by first | omega | (((simp only [List.length_append, List.length_cons, List.length_nil, List.length_map]); omega))) ?_; intro t' us' ts' q' hu' hl' hts' hl2' hg1' hg2' hg3' hg4') | (refine' stat_u (by with_reducible assumption) (by with_reducible assumption) (by omega) (by (exact Room.le (by with_reducible assumption) (by first | decide | omega))) (by omega) (by (first | with_reducible assumption | exact told_snoc (by (first | with_reducible assumption | exact told_snoc (by (first | with_reducible assumption | exact told_snoc (by (first | with_reducible assumption | exact told_snoc (by (first | with_reducible assumption | exact told_snoc (by (first | with_reducible assumption | exact told_snoc (by (first | with_reducible assumption | exact told_snoc (by fail))))))))))))))) (by first | omega | (((simp only [List.length_append, List.length_cons, List.length_nil, List.length_map]); omega))) ?_; intro t' us' ts' q' hu' hl' hts' hl2' hg1' hg2' hg3' hg4') | first | (refine' expr_u (by with_reducible assumption) (by with_reducible assumption) (by omega) (by (exact Room.le (by with_reducible assumption) (by first | decide | omega))) (by omega) (by (first | with_reducible assumption | exact told_snoc (by (first | with_reducible assumption | exact told_snoc (by (first | with_reducible assumption | exact told_snoc (by (first | with_reducible assumption | exact told_snoc (by (first | with_reducible assumption | exact told_snoc (by (first | with_reducible assumption | exact told_snoc (by (first | with_reducible assumption | exact told_snoc (by fail))))))))))))))) (by first | omega | (((simp only [List.length_append, List.length_cons, List.length_nil, List.length_map]); omega))) ?_; intro t' us' q' hu' hl' hg1' hg2' hg3' hg4') | (refine' block_u (by with_reducible assumption) (by with_reducible assumption) (by omega) (by (exact Room.le (by with_reducible assumption) (by first | decide | omega))) (by omega) (by (first | with_reducible assumption | exact told_snoc (by (first | with_reducible assumption | exact told_snoc (by (first | with_reducible assumption | exact told_snoc (by (first | with_reducible assumption | exact told_snoc (by (first | with_reducible assumption | exact told_snoc (by (first | with_reducible assumption | exact told_snoc (by (first | with_reducible assumption | exact told_snoc (by fail))))))))))))))) (by first | omega | (((simp only [List.length_append, List.length_cons, List.length_nil, List.length_map]); omega))) ?_; intro b' us' q' hu' hl' hg1' hg2' hg3' hg4' hg5') | (refine' AddOb.ll (by first | omega | (((simp only [List.length_append, List.length_cons, List.length_nil, List.length_map]); omega))) ?_) | (refine' AddOb.tt (by first | decide | (((simp only [List.length_append, List.length_cons, List.length_nil, List.length_map]); omega))) ?_) | (refine' BK.eqT (by omega) ?_) | (refine' BK.eqF (by omega) ?_) | (refine' BK.eqS ?_ ?_ <;> intro hb') | (refine' BK.ltT (by omega) ?_) | (refine' BK.ltF (by omega) ?_) | (refine' BK.ltS ?_ ?_ <;> intro hb') | (refine' BK.t ?_) | (refine' BK.f ?_) | (refine' BK.s ?_ ?_ <;> intro hb') | (refine' type_u (by with_reducible assumption) (by (exact Room.le (by with_reducible assumption) (by first | decide | omega))) (by (first | with_reducible assumption | exact told_snoc (by (first | with_reducible assumption | exact told_snoc (by (first | with_reducible assumption | exact told_snoc (by (first | with_reducible assumption | exact told_snoc (by (first | with_reducible assumption | exact told_snoc (by (first | with_reducible assumption | exact told_snoc (by (first | with_reducible assumption | exact told_snoc (by fail))))))))))))))) ?_; intro t' us' q' hu' hl' hg1' hg2' hg3' hg4') | first | (refine' BK.s ?_ ?_ <;> intro hb') | (refine' used_u (by with_reducible assumption) (by (exact Room.le (by with_reducible assumption) (by first | decide | omega))) (by (first | with_reducible assumption | exact told_snoc (by (first | with_reducible assumption | exact told_snoc (by (first | with_reducible assumption | exact told_snoc (by (first | with_reducible assumption | exact told_snoc (by (first | with_reducible assumption | exact told_snoc (by (first | with_reducible assumption | exact told_snoc (by (first | with_reducible assumption | exact told_snoc (by fail))))))))))))))) ?_; intro us' q' hu' hl') | (refine' name_u (by with_reducible assumption) (by (exact Room.le (by with_reducible assumption) (by first | decide | omega))) ?_; intro x' q' hx') | first | (refine' SwOb.two (by with_unfolding_all rfl) ?_) | (refine' SwOb.none (by with_unfolding_all rfl) ?_) | (refine' SwOb.three (by with_unfolding_all rfl) ?_) | (refine' And.intro rfl ?_) | (refine' wound_u (by with_reducible assumption) (by (exact Room.le (by with_reducible assumption) (by first | decide | omega))) (by first | decide | omega) (by first | decide | omega) ?_; intro v' q' hv0' hv1'))
  · exact cp_of2 .rnil uv_nil rfl ⟨rfl, trivial, Nat.le_of_ble_eq_true rfl, by ((first | ((try simp only [dep, wt]); omega) | rfl)), by ((first | ((try simp only [dep, wt]); omega) | rfl))⟩
  · exact cp_of2 (.rcons _ _ .rnil) (uv_app (uv_app uv_nil (by assumption)) (by assumption)) (by simp [uses]) ⟨rfl, ⟨by assumption, by assumption, by assumption, by assumption, by assumption, rfl, trivial⟩, Nat.le_of_ble_eq_true rfl, by ((first | ((try simp only [dep, wt]); omega) | rfl)), by ((first | ((try simp only [dep, wt]); omega) | rfl))⟩
  · exact cp_of2 (.rcons _ _ (.rcons _ _ .rnil)) (uv_app (uv_app (uv_app (uv_app uv_nil (by assumption)) (by assumption)) (by assumption)) (by assumption)) (by simp [uses]) ⟨rfl, ⟨by assumption, by assumption, by assumption, by assumption, by assumption, rfl, by assumption, by assumption, by assumption, by assumption, by assumption, rfl, trivial⟩, Nat.le_of_ble_eq_true rfl, by ((first | ((try simp only [dep, wt]); omega) | rfl)), by ((first | ((try simp only [dep, wt]); omega) | rfl))⟩
theorem wound2_u {ra : Addr} {c : Cx} {M : MV} {K : KV RS} {q : RS} (ok : c.Ok) (hr : Room c 20) (k0 : ∀ q', K (.int 0) q') (k1 : ∀ q', K (.int 1) q') : CW (IR ra) c M (.ref 172) [.raw (.ref ra), .int 2] q K :=
  wound_u ok hr (by decide) (by decide) fun v q' h0 h1 => by
    have : v = 0 ∨ v = 1 := by omega
    rcases this with rfl | rfl
    · exact k0 q'
    · exact k1 q'
theorem sp_of2 {told : List Str} {good : T → Prop} {us ts : List V} {U : List Use} (t : T) (hu : us = U.map useV) (e : U = uses t told) (ht : ts = (told ++ tells t).map strV) (hg : good t) : ∃ t' us' ts', V.tup [(tv t).1, .list us, .list ts] = .tup [(tv t').1, .list us', .list ts'] ∧ us' = (uses t' told).map useV ∧ ts' = (told ++ tells t').map strV ∧ good t' := by subst e; exact ⟨t, us, ts, rfl, hu, ht, hg⟩
theorem bg_len {d b : Nat} (h : b ≤ 12 * 6 ^ d) : b ≤ 12 * 6 ^ d := h
theorem stat0_c (g : GX) (hP : PC g 0) : SC g 0 := by
  intro ra tl told k q hk ht hl
  refine def_vc (dX := []) (dv := []) gl0 [Str.ofString "reel", Str.ofString "told", Str.ofString "deep"] (by rfl) (by rfl) (fun h vs _ _ hl gs dr tk os => ?_) .nil (by rfl) (by rfl) (by rfl) (by rfl) (by rfl) (by rfl) (fun c _ => gl0_ok c) fun c ok hg hr => ?_
  · obtain ⟨a, b, d, rfl⟩ := len3 hl
    exact BindsTo.of_eq rfl
  subst hg
  repeat' (first | first | (refine' wound3_u ?_ ?_ ?_ ?_ ?_ <;> first | (with_reducible assumption) | ((exact Room.le (by with_reducible assumption) (by first | decide | omega))) | intro q') | (refine' cases_u (by with_reducible assumption) (by with_reducible assumption) (by omega) (by (exact Room.le (by with_reducible assumption) (by first | decide | omega))) (by omega) (by (first | with_reducible assumption | exact told_snoc (by (first | with_reducible assumption | exact told_snoc (by (first | with_reducible assumption | exact told_snoc (by (first | with_reducible assumption | exact told_snoc (by (first | with_reducible assumption | exact told_snoc (by (first | with_reducible assumption | exact told_snoc (by (first | with_reducible assumption | exact told_snoc (by fail))))))))))))))) (by first | omega | (((simp only [List.length_append, List.length_cons, List.length_nil, List.length_map]); omega))) ?_; intro t' us' q' hu' hl' hg1' hg2' hg3' hg4' hg5') | first | (refine' one3_u ?_ ?_ ?_ ?_ ?_ <;> first | (with_reducible assumption) | ((exact Room.le (by with_reducible assumption) (by first | decide | omega))) | intro q') | (refine' tuple_list_u (by first | omega | (((simp only [List.length_append, List.length_cons, List.length_nil, List.length_map]); omega))) ?_) | first | (refine' plain_u (by with_reducible assumption) (by with_reducible assumption) (by omega) (by (exact Room.le (by with_reducible assumption) (by first | decide | omega))) (by omega) (by (first | with_reducible assumption | exact told_snoc (by (first | with_reducible assumption | exact told_snoc (by (first | with_reducible assumption | exact told_snoc (by (first | with_reducible assumption | exact told_snoc (by (first | with_reducible assumption | exact told_snoc (by (first | with_reducible assumption | exact told_snoc (by (first | with_reducible assumption | exact told_snoc (by fail))))))))))))))) (by first | omega | (((simp only [List.length_append, List.length_cons, List.length_nil, List.length_map]); omega))) ?_; intro t' us' ts' q' hu' hl' hts' hl2' hg1' hg2' hg3' hg4') | (refine' stat_u (by with_reducible assumption) (by with_reducible assumption) (by omega) (by (exact Room.le (by with_reducible assumption) (by first | decide | omega))) (by omega) (by (first | with_reducible assumption | exact told_snoc (by (first | with_reducible assumption | exact told_snoc (by (first | with_reducible assumption | exact told_snoc (by (first | with_reducible assumption | exact told_snoc (by (first | with_reducible assumption | exact told_snoc (by (first | with_reducible assumption | exact told_snoc (by (first | with_reducible assumption | exact told_snoc (by fail))))))))))))))) (by first | omega | (((simp only [List.length_append, List.length_cons, List.length_nil, List.length_map]); omega))) ?_; intro t' us' ts' q' hu' hl' hts' hl2' hg1' hg2' hg3' hg4') | first | (refine' expr_u (by with_reducible assumption) (by with_reducible assumption) (by omega) (by (exact Room.le (by with_reducible assumption) (by first | decide | omega))) (by omega) (by (first | with_reducible assumption | exact told_snoc (by (first | with_reducible assumption | exact told_snoc (by (first | with_reducible assumption | exact told_snoc (by (first | with_reducible assumption | exact told_snoc (by (first | with_reducible assumption | exact told_snoc (by (first | with_reducible assumption | exact told_snoc (by (first | with_reducible assumption | exact told_snoc (by fail))))))))))))))) (by first | omega | (((simp only [List.length_append, List.length_cons, List.length_nil, List.length_map]); omega))) ?_; intro t' us' q' hu' hl' hg1' hg2' hg3' hg4') | (refine' block_u (by with_reducible assumption) (by with_reducible assumption) (by omega) (by (exact Room.le (by with_reducible assumption) (by first | decide | omega))) (by omega) (by (first | with_reducible assumption | exact told_snoc (by (first | with_reducible assumption | exact told_snoc (by (first | with_reducible assumption | exact told_snoc (by (first | with_reducible assumption | exact told_snoc (by (first | with_reducible assumption | exact told_snoc (by (first | with_reducible assumption | exact told_snoc (by (first | with_reducible assumption | exact told_snoc (by fail))))))))))))))) (by first | omega | (((simp only [List.length_append, List.length_cons, List.length_nil, List.length_map]); omega))) ?_; intro b' us' q' hu' hl' hg1' hg2' hg3' hg4' hg5') | (refine' AddOb.ll (by first | omega | (((simp only [List.length_append, List.length_cons, List.length_nil, List.length_map]); omega))) ?_) | (refine' AddOb.tt (by first | decide | (((simp only [List.length_append, List.length_cons, List.length_nil, List.length_map]); omega))) ?_) | (refine' BK.eqT (by omega) ?_) | (refine' BK.eqF (by omega) ?_) | (refine' BK.eqS ?_ ?_ <;> intro hb') | (refine' BK.ltT (by omega) ?_) | (refine' BK.ltF (by omega) ?_) | (refine' BK.ltS ?_ ?_ <;> intro hb') | (refine' BK.t ?_) | (refine' BK.f ?_) | (refine' BK.s ?_ ?_ <;> intro hb') | (refine' type_u (by with_reducible assumption) (by (exact Room.le (by with_reducible assumption) (by first | decide | omega))) (by (first | with_reducible assumption | exact told_snoc (by (first | with_reducible assumption | exact told_snoc (by (first | with_reducible assumption | exact told_snoc (by (first | with_reducible assumption | exact told_snoc (by (first | with_reducible assumption | exact told_snoc (by (first | with_reducible assumption | exact told_snoc (by (first | with_reducible assumption | exact told_snoc (by fail))))))))))))))) ?_; intro t' us' q' hu' hl' hg1' hg2' hg3' hg4') | first | (refine' BK.s ?_ ?_ <;> intro hb') | (refine' used_u (by with_reducible assumption) (by (exact Room.le (by with_reducible assumption) (by first | decide | omega))) (by (first | with_reducible assumption | exact told_snoc (by (first | with_reducible assumption | exact told_snoc (by (first | with_reducible assumption | exact told_snoc (by (first | with_reducible assumption | exact told_snoc (by (first | with_reducible assumption | exact told_snoc (by (first | with_reducible assumption | exact told_snoc (by (first | with_reducible assumption | exact told_snoc (by fail))))))))))))))) ?_; intro us' q' hu' hl') | (refine' name_u (by with_reducible assumption) (by (exact Room.le (by with_reducible assumption) (by first | decide | omega))) ?_; intro x' q' hx') | first | (refine' SwOb.two (by with_unfolding_all rfl) ?_) | (refine' SwOb.none (by with_unfolding_all rfl) ?_) | (refine' SwOb.three (by with_unfolding_all rfl) ?_) | (refine' And.intro rfl ?_) | (refine' wound_u (by with_reducible assumption) (by (exact Room.le (by with_reducible assumption) (by first | decide | omega))) (by first | decide | omega) (by first | decide | omega) ?_; intro v' q' hv0' hv1'))
  · exact sp_of _ (by assumption) (by assumption) ⟨by assumption, by assumption, by assumption, by assumption⟩
theorem statS_c (g : GX) (d : Nat) (hd2 : d + 1 ≤ 2) (hE : EC g 0) (hB : BC g d) (hC : CC g d) (hP : PC g (d + 1)) : SC g (d + 1) := by
  intro ra tl told k q hk ht hl
  have h61 := pow6 d
  have h62 := pow6_pos d
  refine def_vc (dX := []) (dv := []) gl0 [Str.ofString "reel", Str.ofString "told", Str.ofString "deep"] (by rfl) (by rfl) (fun h vs _ _ hl gs dr tk os => ?_) .nil (by rfl) (by rfl) (by rfl) (by rfl) (by rfl) (by rfl) (fun c _ => gl0_ok c) fun c ok hg hr => ?_
  · obtain ⟨a, b, d, rfl⟩ := len3 hl
    exact BindsTo.of_eq rfl
  subst hg
  repeat' (first | first | (refine' wound2_u ?_ ?_ ?_ ?_ <;> first | (with_reducible assumption) | ((exact Room.le (by with_reducible assumption) (by first | decide | omega))) | intro q') | first | (refine' wound3_u ?_ ?_ ?_ ?_ ?_ <;> first | (with_reducible assumption) | ((exact Room.le (by with_reducible assumption) (by first | decide | omega))) | intro q') | (refine' cases_u (by with_reducible assumption) (by with_reducible assumption) (by omega) (by (exact Room.le (by with_reducible assumption) (by first | decide | omega))) (by omega) (by (first | with_reducible assumption | exact told_snoc (by (first | with_reducible assumption | exact told_snoc (by (first | with_reducible assumption | exact told_snoc (by (first | with_reducible assumption | exact told_snoc (by (first | with_reducible assumption | exact told_snoc (by (first | with_reducible assumption | exact told_snoc (by (first | with_reducible assumption | exact told_snoc (by fail))))))))))))))) (by first | omega | (((simp only [List.length_append, List.length_cons, List.length_nil, List.length_map]); omega))) ?_; intro t' us' q' hu' hl' hg1' hg2' hg3' hg4' hg5') | first | (refine' one3_u ?_ ?_ ?_ ?_ ?_ <;> first | (with_reducible assumption) | ((exact Room.le (by with_reducible assumption) (by first | decide | omega))) | intro q') | (refine' tuple_list_u (by first | omega | (((simp only [List.length_append, List.length_cons, List.length_nil, List.length_map]); omega))) ?_) | first | (refine' plain_u (by with_reducible assumption) (by with_reducible assumption) (by omega) (by (exact Room.le (by with_reducible assumption) (by first | decide | omega))) (by omega) (by (first | with_reducible assumption | exact told_snoc (by (first | with_reducible assumption | exact told_snoc (by (first | with_reducible assumption | exact told_snoc (by (first | with_reducible assumption | exact told_snoc (by (first | with_reducible assumption | exact told_snoc (by (first | with_reducible assumption | exact told_snoc (by (first | with_reducible assumption | exact told_snoc (by fail))))))))))))))) (by first | omega | (((simp only [List.length_append, List.length_cons, List.length_nil, List.length_map]); omega))) ?_; intro t' us' ts' q' hu' hl' hts' hl2' hg1' hg2' hg3' hg4') | (refine' stat_u (by with_reducible assumption) (by with_reducible assumption) (by omega) (by (exact Room.le (by with_reducible assumption) (by first | decide | omega))) (by omega) (by (first | with_reducible assumption | exact told_snoc (by (first | with_reducible assumption | exact told_snoc (by (first | with_reducible assumption | exact told_snoc (by (first | with_reducible assumption | exact told_snoc (by (first | with_reducible assumption | exact told_snoc (by (first | with_reducible assumption | exact told_snoc (by (first | with_reducible assumption | exact told_snoc (by fail))))))))))))))) (by first | omega | (((simp only [List.length_append, List.length_cons, List.length_nil, List.length_map]); omega))) ?_; intro t' us' ts' q' hu' hl' hts' hl2' hg1' hg2' hg3' hg4') | first | (refine' expr_u (by with_reducible assumption) (by with_reducible assumption) (by omega) (by (exact Room.le (by with_reducible assumption) (by first | decide | omega))) (by omega) (by (first | with_reducible assumption | exact told_snoc (by (first | with_reducible assumption | exact told_snoc (by (first | with_reducible assumption | exact told_snoc (by (first | with_reducible assumption | exact told_snoc (by (first | with_reducible assumption | exact told_snoc (by (first | with_reducible assumption | exact told_snoc (by (first | with_reducible assumption | exact told_snoc (by fail))))))))))))))) (by first | omega | (((simp only [List.length_append, List.length_cons, List.length_nil, List.length_map]); omega))) ?_; intro t' us' q' hu' hl' hg1' hg2' hg3' hg4') | (refine' block_u (by with_reducible assumption) (by with_reducible assumption) (by omega) (by (exact Room.le (by with_reducible assumption) (by first | decide | omega))) (by omega) (by (first | with_reducible assumption | exact told_snoc (by (first | with_reducible assumption | exact told_snoc (by (first | with_reducible assumption | exact told_snoc (by (first | with_reducible assumption | exact told_snoc (by (first | with_reducible assumption | exact told_snoc (by (first | with_reducible assumption | exact told_snoc (by (first | with_reducible assumption | exact told_snoc (by fail))))))))))))))) (by first | omega | (((simp only [List.length_append, List.length_cons, List.length_nil, List.length_map]); omega))) ?_; intro b' us' q' hu' hl' hg1' hg2' hg3' hg4' hg5') | (refine' AddOb.ll (by first | omega | (((simp only [List.length_append, List.length_cons, List.length_nil, List.length_map]); omega))) ?_) | (refine' AddOb.tt (by first | decide | (((simp only [List.length_append, List.length_cons, List.length_nil, List.length_map]); omega))) ?_) | (refine' BK.eqT (by omega) ?_) | (refine' BK.eqF (by omega) ?_) | (refine' BK.eqS ?_ ?_ <;> intro hb') | (refine' BK.ltT (by omega) ?_) | (refine' BK.ltF (by omega) ?_) | (refine' BK.ltS ?_ ?_ <;> intro hb') | (refine' BK.t ?_) | (refine' BK.f ?_) | (refine' BK.s ?_ ?_ <;> intro hb') | (refine' type_u (by with_reducible assumption) (by (exact Room.le (by with_reducible assumption) (by first | decide | omega))) (by (first | with_reducible assumption | exact told_snoc (by (first | with_reducible assumption | exact told_snoc (by (first | with_reducible assumption | exact told_snoc (by (first | with_reducible assumption | exact told_snoc (by (first | with_reducible assumption | exact told_snoc (by (first | with_reducible assumption | exact told_snoc (by (first | with_reducible assumption | exact told_snoc (by fail))))))))))))))) ?_; intro t' us' q' hu' hl' hg1' hg2' hg3' hg4') | first | (refine' BK.s ?_ ?_ <;> intro hb') | (refine' used_u (by with_reducible assumption) (by (exact Room.le (by with_reducible assumption) (by first | decide | omega))) (by (first | with_reducible assumption | exact told_snoc (by (first | with_reducible assumption | exact told_snoc (by (first | with_reducible assumption | exact told_snoc (by (first | with_reducible assumption | exact told_snoc (by (first | with_reducible assumption | exact told_snoc (by (first | with_reducible assumption | exact told_snoc (by (first | with_reducible assumption | exact told_snoc (by fail))))))))))))))) ?_; intro us' q' hu' hl') | (refine' name_u (by with_reducible assumption) (by (exact Room.le (by with_reducible assumption) (by first | decide | omega))) ?_; intro x' q' hx') | first | (refine' SwOb.two (by with_unfolding_all rfl) ?_) | (refine' SwOb.none (by with_unfolding_all rfl) ?_) | (refine' SwOb.three (by with_unfolding_all rfl) ?_) | (refine' And.intro rfl ?_) | (refine' wound_u (by with_reducible assumption) (by (exact Room.le (by with_reducible assumption) (by first | decide | omega))) (by first | decide | omega) (by first | decide | omega) ?_; intro v' q' hv0' hv1'))
  · exact sp_of _ (by assumption) (by assumption) ⟨by assumption, by assumption, by assumption, by assumption⟩
  · exact sp_of2 (.block _) (by assumption) (by rfl) (told_nil (by assumption)) ⟨rfl, ⟨by assumption, by assumption, by assumption⟩, by ((first | ((try simp only [dep, wt]); omega) | rfl)), by ((first | ((try simp only [dep, wt]); omega) | rfl))⟩
  · exact sp_of2 (.ifs (.define _ _) _ (.block _) (.block _)) (uv_app (uv_app (uv_app (by assumption) (by assumption)) (by assumption)) (by assumption)) (by rfl) (told_nil (by assumption)) ⟨rfl, ⟨rfl, ⟨by assumption, by assumption, by assumption⟩, by assumption, by assumption, rfl, ⟨by assumption, by assumption, by assumption⟩, rfl, ⟨by assumption, by assumption, by assumption⟩⟩, by ((first | ((try simp only [dep, wt]); omega) | rfl)), by ((first | ((try simp only [dep, wt]); omega) | rfl))⟩
  · exact sp_of2 (.fors (.define _ _) _ (.block _)) (uv_app (uv_app (by assumption) (by assumption)) (by assumption)) (by rfl) (told_nil (by assumption)) ⟨rfl, ⟨rfl, ⟨by assumption, by assumption, by assumption⟩, by assumption, by assumption, rfl, ⟨by assumption, by assumption, by assumption⟩⟩, by ((first | ((try simp only [dep, wt]); omega) | rfl)), by ((first | ((try simp only [dep, wt]); omega) | rfl))⟩
  · exact sp_of2 (.range _ true _ (.block _)) (uv_app (uv_app (by assumption) uv_nil) (by assumption)) (by rfl) (told_nil (by assumption)) ⟨rfl, ⟨by assumption, by assumption, by assumption, rfl, ⟨by assumption, by assumption, by assumption⟩⟩, by ((first | ((try simp only [dep, wt]); omega) | rfl)), by ((first | ((try simp only [dep, wt]); omega) | rfl))⟩
  · exact sp_of2 (.range _ false _ (.block _)) (uv_app (uv_app (by assumption) (by assumption)) (by assumption)) (by rfl) (told_nil (by assumption)) ⟨rfl, ⟨by assumption, by assumption, by assumption, rfl, ⟨by assumption, by assumption, by assumption⟩⟩, by ((first | ((try simp only [dep, wt]); omega) | rfl)), by ((first | ((try simp only [dep, wt]); omega) | rfl))⟩
  · exact sp_of2 (.switch (.define _ _) (.name _) _) (uv_app (by assumption) (by assumption)) (by rfl) (told_nil (by assumption)) ⟨rfl, ⟨rfl, ⟨by assumption, by assumption, by assumption⟩, rfl, by assumption, fun _ => use_yes (by simp [tells]), by assumption, by assumption, by assumption⟩, by ((first | ((try simp only [dep, wt]); omega) | rfl)), by ((first | ((try simp only [dep, wt]); omega) | rfl))⟩
  · exact sp_of2 (.tswitch _ _ _ _) (uv_app (uv_app (by assumption) (by assumption)) (by assumption)) (by rfl) (told_nil (by assumption)) ⟨rfl, ⟨by assumption, by assumption, by assumption, by assumption, by assumption, by assumption, by assumption, by assumption⟩, by ((first | ((try simp only [dep, wt]); omega) | rfl)), by ((first | ((try simp only [dep, wt]); omega) | rfl))⟩
  · exact sp_of2 (.choose _ _ _ _ _) (uv_app (uv_app (uv_app (uv_app (by assumption) (by assumption)) (by assumption)) (by assumption)) (by assumption)) (by rfl) (told_nil (by assumption)) ⟨rfl, ⟨by assumption, by assumption, by assumption, by assumption, by assumption, by assumption, by assumption, by assumption, by assumption, by assumption, by assumption⟩, by ((first | ((try simp only [dep, wt]); omega) | rfl)), by ((first | ((try simp only [dep, wt]); omega) | rfl))⟩
theorem gen_c (g : GX) : BC g 2 := by
  have E0 : EC g 0 := expr0_c g
  have B0 : BC g 0 := block_c g 0 (by decide) (stat0_c g (plain_c g 0 (by decide) E0))
  have E1 : EC g 1 := exprS_c g 0 (by decide) E0 B0
  have B1 : BC g 1 := block_c g 1 (by decide) (statS_c g 0 (by decide) E0 B0 (cases_c g 0 (by decide) E0 B0) (plain_c g 1 (by decide) E1))
  have E2 : EC g 2 := exprS_c g 1 (by decide) E1 B1
  exact block_c g 2 (by decide) (statS_c g 1 (by decide) E0 B1 (cases_c g 1 (by decide) E0 B1) (plain_c g 2 (by decide) E2))
/-- the finder's own dict -/
structure FK where
  k1 : Tok
  k2 : Tok
  k3 : Tok
  k4 : Tok
  k5 : Tok
  k6 : Tok
  k7 : Tok
  oa : Addr
  fa : Addr
  ba : Addr
  aa : Addr
  da : Addr
  /-- keys of doubtful -/
  dk : List Str
  /-- other dicts that are at hand -/
  ex : Led
noncomputable abbrev finD (w : World) (c : FK) : Obj := dictOf [⟨PyData.keyHash w.params (Str.ofString "has_keys"), .str (Str.ofString "has_keys") c.k1, .ref 158⟩, ⟨PyData.keyHash w.params (Str.ofString "packages"), .str (Str.ofString "packages") c.k2, .ref 29⟩, ⟨PyData.keyHash w.params (Str.ofString "own"), .str (Str.ofString "own") c.k3, .ref c.oa⟩, ⟨PyData.keyHash w.params (Str.ofString "found"), .str (Str.ofString "found") c.k4, .ref c.fa⟩, ⟨PyData.keyHash w.params (Str.ofString "behind"), .str (Str.ofString "behind") c.k5, .ref c.ba⟩, ⟨PyData.keyHash w.params (Str.ofString "ahead"), .str (Str.ofString "ahead") c.k6, .ref c.aa⟩, ⟨PyData.keyHash w.params (Str.ofString "doubtful"), .str (Str.ofString "doubtful") c.k7, .ref c.da⟩] 7
/-- rows of names: refs to lists of texts -/
inductive RowsIn (l : Led) : List Value → List (List Str) → Prop
  | nil : RowsIn l [] []
  | cons {a : Addr} {n : Nat} {vs : List Value} {row : List Str} {rs : List Value} {rows : List (List Str)} : (a, listOf vs.toArray n) ∈ l → StrsAre vs row → RowsIn l rs rows → RowsIn l (.ref a :: rs) (row :: rows)
theorem RowsIn.get {l : Led} {rs : List Value} {rows : List (List Str)} (h : RowsIn l rs rows) : ∀ (i : Nat) (v : Value), rs[i]? = some v → ∃ a n vs row, v = .ref a ∧ (a, listOf vs.toArray n) ∈ l ∧ StrsAre vs row ∧ rows[i]? = some row := by
  induction h with
  | nil => intro i v hv; simp at hv
  | cons hm hs _ ih =>
    intro i v hv
    cases i with
    | zero => simp at hv; exact ⟨_, _, _, _, hv.symm, hm, hs, rfl⟩
    | succ i => simp at hv; simpa using ih i v hv
theorem RowsIn.len {l : Led} {rs : List Value} {rows : List (List Str)} (h : RowsIn l rs rows) : rs.length = rows.length := by
  induction h with
  | nil => rfl
  | cons _ _ _ ih => simp [ih]
theorem comp_rows {prog : Program} {w : World} {A : Around} {s : Shared} {h₀ : Heap} {L : Addr} {m : Str → Option Value} {env : Env} {elt : Expr} {x : Str} {scope : Scope} {cl : List (Str × Addr)} {S : List (Addr × Obj) → Prop} {Fin : List Value → List (Addr × Obj) → Prop} {its : Array Value} {news : Led} (vals : List Value) (hlen : vals.length = its.size) (hS : S news)
    (turn : ∀ (i : Nat) (v : Value) (I : Addr) (oI : Obj) (C : Addr) (oC : Obj) (D : Addr) (m₂ : Str → Option Value) (h : Heap) (tk : Nat) (E' : Value → Shared → Prop) (ys : List Value), its[i]? = some v → LCg.NsObj oC m₂ → m₂ x = some v → Fr h₀ L h m → News h₀ L h ((I, oI) :: (C, oC) :: (D, LCg.lst ys) :: news) → LCg.Off3 I C D news → ((@Ne Nat I C) ∧ (@Ne Nat I D) ∧ (@Ne Nat C D)) →
      wpAny (model prog w) A (eval elt (compEnvC scope cl C env)) (fun y s₂ => ∃ h' tk', s₂ = { s with heap := h', toks := tk' } ∧ Fr h₀ L h' m ∧ News h₀ L h' ((I, oI) :: (C, oC) :: (D, LCg.lst ys) :: news) ∧ vals[i]? = some y) E' { s with heap := h, toks := tk })
    (fin : Fin vals news) : LCg.CompRest prog w A h₀ L m env elt x scope cl s S (fun i v => its[i]? = some v) Fin its.size 0 [] news := by
  have all : ∀ k i ys, i + k = its.size → ys = vals.take i → LCg.CompRest prog w A h₀ L m env elt x scope cl s S (fun i v => its[i]? = some v) Fin k i ys news := by
    intro k
    induction k with
    | zero =>
      intro i ys hi hy
      subst hy
      have : vals.take i = vals := List.take_of_length_le (by omega)
      rw [this]
      exact LCg.CompRest.zero fin
    | succ k ih =>
      intro i ys hi hy
      refine LCg.CompRest.succ fun v I oI C oC D m₂ h tk E' hv hC hx F N off ne => ?_
      refine wpAny_mono (turn i v I oI C oC D m₂ h tk E' ys hv hC hx F N off ne) (fun y s₂ hy2 => ?_) fun _ _ e => e
      obtain ⟨h', tk', rfl, F', N', hvi⟩ := hy2
      refine ⟨h', tk', news, rfl, F', N', off, hS, ih (i + 1) (ys ++ [y]) (by omega) ?_⟩
      subst hy
      rw [List.take_add_one, hvi]; rfl
  exact all its.size 0 [] (by omega) rfl
theorem bools_map {α : Type} (f : α → Bool) : ∀ l : List α, LSm.BoolsAre (l.map fun a => Value.bool (f a)) (l.map f)
  | [] => .nil
  | _ :: r => .cons _ (bools_map f r)
theorem any_rows (rows : List (List Str)) (x : Str) : (rows.map fun row => row.any (· == x)).any id = rows.flatten.any (· == x) := by
  induction rows with
  | nil => rfl
  | cons r rs ih => simp [List.any_append] at ih ⊢; try rw [ih]
local macro_rules | `(tactic| walk_at "call builtin:any") => `(tactic| (k_here; k_dflt (refine' LSm.any_bools ?F ?N ?hh (News.isList ?N2 ?hm) (bools_map _ _) ?_; (case F => k_asm); (case N => k_asm); (case hh => rfl); (case N2 => k_asm); (case hm => k_mem); k_whole; intro h' tk' F' N'; (try k_sweep))))
local macro_rules | `(tactic| walk_at "eval ListComp") => `(tactic| (k_here; (with_reducible show wpAny _ _ (eval (Expr.ListComp (Expr.Compare _ _ _ _) _ _ _) _) _ _ _); k_dflt (refine LCg.ListComp_U (F₀ := by k_asm) (by rfl) (by decide) (by rfl) (by decide) (by rfl) ?_)))
local macro_rules | `(tactic| walk_at "CompSrc") => `(tactic| (k_here; k_dflt (refine LCg.CompSrc.ledger (by rfl) (by k_asm) (by k_asm) (by k_mem) (by (simp only [List.size_toArray]; rw [sizeLine_eq]; omega)) ?_; intro g')))
theorem told_c {w : World} {p : Program} {loose : List Str} {mean : ExcName → Option Value} {mg mb : Str → Option Value} :
  ∀ (sa dx : Addr) (c : FK) (news : Led) (rs : List Value) (n : Nat) (rows : List (List Str)) (x : Str) (tx : Tok),
  (sa, instObj 147 dx) ∈ news → (dx, finD w c) ∈ news → (c.oa, listOf rs.toArray n) ∈ news → RowsIn news rs rows → rs.length ≤ 1000 →
  Tri w p loose mean mg mb 8 60 (.ref 42) [.ref sa, .str x tx] news (fun r l => l = news ∧ r = .bool (rows.flatten.any (· == x))) := by
  unfold Tri
  k_fill
  rintro sa dx c news rs n rows x tx hs hdx ho hR hl dp un gd cn cs a ccd cl outer A₀ base h₀ L m s Q E B F X N T0 hk hd hu ret
  ((refine wpAny_call ?_; refine' code_defC ?k1 ?k2 ?k3 ?k4 ?k5 ?kA ?kF ?kK ?k6 ?k7 ?k8 ?k9 ?kB ?kD ?_ ?c2 ?c3 ?c4; (case kA => exact rfl); (case kF => exact rfl); (case kK => first | exact rfl | assumption); (case k1 => k_asm); (case k2 => k_asm); (case k3 => k_asm); (case k4 => k_asm); (case k5 => k_asm); (case k6 => k_is); (case k7 => k_is); (case k8 => ktr_room); (case k9 => exact bz rfl); (case kB => exact rfl); (case kD => decide +kernel); (case c2 => exact rfl); (case c3 => exact rfl); (case c4 => exact rfl); k_whole; intro g' L' h' tk' cells' FG' F' N' Y' B' X' T' l1; (try k_lt l1); k_cells Y'; (try simp only [List.cons_append, List.nil_append] at N'); (try dsimp only [List.map, List.zip, List.zipWith] at F'); (try dsimp only); (try k_fold)))
  k_steps
  refine comp_rows (rows.map fun row => Value.bool (row.any (· == x))) (by simp [hR.len]) (by lcg_src) ?_ ?_
  · intro i v I oI C oC D m₂ h tk E' ys hv hC hx F' N' off ne
    have hv' : rs[i]? = some v := by simpa using hv
    obtain ⟨a', n', vs', row', rfl, hm', hs', hr'⟩ := hR.get i v hv'
    k_steps
    all_goals first | assumption | simp [hr']
  · k_steps
    exact ret _ _ _ _ (by k_asm) (News.subl (by k_asm) (by walk_at "m_sub")) ⟨rfl, by rw [any_rows]⟩
noncomputable def ins (ks : List Str) (x : Str) : List Str := if ks.any (fun k => decide (k = x)) then ks else ks ++ [x]
theorem mem_ins {ks : List Str} {x y : Str} : y ∈ ins ks x ↔ y ∈ ks ∨ y = x := by
  unfold ins
  split
  · rename_i h
    obtain ⟨k, hk, e⟩ := List.any_eq_true.mp h
    have e := of_decide_eq_true e
    subst e
    constructor
    · exact .inl
    · rintro (h | rfl)
      · exact h
      · exact hk
  · simp
theorem ins_len (ks : List Str) (x : Str) : (ins ks x).length ≤ ks.length + 1 := by
  unfold ins; split <;> simp
noncomputable def DK (prog : Program) (w : World) (o : Obj) (ks : List Str) : Prop := o.IsDictOf (strKind prog w) (ks.map fun k => (k, Value.bool true))
theorem stored_ins (ks : List Str) (x : Str) : PySem.stored (ks.map fun k => (k, Value.bool true)) x (.bool true) = (ins ks x).map fun k => (k, Value.bool true) := by
  unfold PySem.stored ins
  have e : (ks.map fun k => (k, Value.bool true)).any (fun kv => decide (kv.1 = x)) = ks.any (fun k => decide (k = x)) := by
    rw [List.any_map]; rfl
  rw [e]
  split
  · rw [List.map_map]
    apply List.map_congr_left
    intro k _
    show (if k = x then (k, Value.bool true) else (k, Value.bool true)) = (k, Value.bool true)
    split <;> rfl
  · simp
theorem flat_keys : ∀ ks : List Str, PyProof.V.FlatPairs PyData.str (ks.map fun k => (k, Value.bool true)) (ks.map fun k => (PyData.str k, PyData.bool true))
  | [] => .nil
  | _ :: r => .cons (PyProof.V.Flat.bool true) (flat_keys r)
theorem set_key {prog : Program} {w : World} {A : Around} {E : Value → Shared → Prop} {s : Shared} {h₀ : Heap} {L : Addr} {m : Str → Option Value} {news : Led} {g : Obj → Led} {d : Addr} {o : Obj} {ks : List Str} {x : Str} {t : Tok} {Q : Unit → Shared → Prop}
    (F : Fr h₀ L s.heap m) (N : News h₀ L s.heap news) (U : UpdF d o news g) (hd : DK prog w o ks) (hl : ks.length ≤ 100000)
    (h : ∀ h' o', Fr h₀ L h' m → News h₀ L h' (g o') → DK prog w o' (ins ks x) → Q () { s with heap := h', toks := s.toks + 1 }) : wpAny (model prog w) A (setItem (.ref d) (.str x t) (.bool true)) Q E s :=
  setItem_K PyProof.V.same_str (strKind_is _ _ _ _) (PyProof.V.Flat.bool true) F N U hd (flat_keys ks) (fun h' o' F' N' hd' _ => h h' o' F' N' (by unfold DK; rw [← stored_ins]; exact hd')) (by rw [List.length_map, sizeLine_eq]; omega)
theorem RowsIn.mono2 {l l' : Led} {rs : List Value} {rows : List (List Str)} (h : RowsIn l rs rows) (hs : ∀ p ∈ l, p ∈ l') : RowsIn l' rs rows := by
  induction h with
  | nil => exact .nil
  | cons hm hv _ ih => exact .cons (hs _ hm) hv ih
theorem tri_ro {w : World} {p : Program} {loose : List Str} {mean : ExcName → Option Value} {mg mb : Str → Option Value} {dd du : Nat} {f : Value} {vs : List Value} {news : Led} {v0 : Value}
    {dp un : Nat} {gd : Option (List Code)} {cn : Str} {cs : Scope} {a : Addr} {ccd : Value} {cl : List (Str × Addr)} {outer : List Env} {A₀ : Around} {base h₀ : Heap} {L : Addr} {m : Str → Option Value} {s : Shared} {Q E : Value → Shared → Prop}
    (B : Below A₀ base outer h₀) (F : Fr h₀ L s.heap m) (X : (hd.heap_39 w.params).In h₀) (N : News h₀ L s.heap news) (T0 : Top p loose mean mg mb h₀) (hk : cs.kind = .function)
    (C : Tri w p loose mean mg mb dd du f vs news (fun r l => l = news ∧ r = v0)) (hd : dp + dd < recursionLimit) (hu : un + du < cLine)
    (ret : ∀ h' tk', Fr h₀ L h' m → News h₀ L h' news → Q v0 { s with heap := h', toks := tk' }) :
    wpAny (model PySem.Challenge.rw_xm0172_01.row.prog w) (ktrTop dp un gd cn cs L a ccd cl outer) (call f vs) Q E s :=
  C _ _ _ _ _ _ _ _ _ _ _ _ _ _ _ _ _ B F X N T0 hk hd hu (by rintro r _ h' tk' F' N' ⟨rfl, rfl⟩; exact ret h' tk' F' N')
local macro_rules | `(tactic| walk_at "m_rows") => `(tactic| first | with_reducible assumption | exact RowsIn.mono2 (by with_reducible assumption) (by walk_at "m_sub2"))
local macro_rules | `(tactic| walk_at "call ref") => `(tactic| (k_here; (with_reducible show wpAny _ _ (call (Value.ref 42) _) _ _ _); k_dflt (refine' tri_ro ?B ?F ?X ?N ?T ?hk (told_c _ _ _ _ _ _ _ _ _ ?c1 ?c2 ?c3 ?c4 ?c5) ?hd ?hu ?_; (case B => k_asm); (case F => k_asm); (case X => k_asm); (case N => k_asm); (case T => k_asm); (case hk => first | exact rfl | assumption); (case c1 => k_mem); (case c2 => k_mem); (case c3 => k_mem); (case c4 => walk_at "m_rows"); (case c5 => assumption); (case hd => ktr_room); (case hu => ktr_units); k_whole; intro h' tk' F' N'; (try dsimp only); (try k_sweep); (try k_fold))))
local macro_rules | `(tactic| walk_at "m_upF") => `(tactic| first | ((with_reducible refine' UpdF.head ?pkH); (case pkH => walk_at "m_off")) | (refine' UpdF.tail ?pkA ?pkB; (case pkB => walk_at "m_upF"); (case pkA => k_ne)))
local macro_rules | `(tactic| walk_at "setItem ref str") => `(tactic| (k_here; (with_reducible show wpAny _ _ (setItem (Value.ref _) (Value.str _ _) (Value.bool true)) _ _ _); k_dflt (refine' set_key ?F ?N ?U ?d ?l ?_; (case F => k_asm); (case N => k_asm); (case U => walk_at "m_upF"); (case d => with_reducible assumption); (case l => omega); k_whole; intro h' o' F' N' hd'; (try dsimp only at N'); (try k_sweep))))
/-- a name is noted, unless it is told -/
noncomputable def insU (told : List Str) (ks : List Str) (x : Str) : List Str := if told.any (· == x) then ks else ins ks x
theorem note_c {w : World} {p : Program} {loose : List Str} {mean : ExcName → Option Value} {mg mb : Str → Option Value} :
  ∀ (sa dx : Addr) (c : FK) (rest : Led) (oF : Obj) (ks : List Str) (rs : List Value) (n : Nat) (rows : List (List Str)) (x : Str) (tx : Tok),
  (sa, instObj 147 dx) ∈ rest → (dx, finD w c) ∈ rest → (c.oa, listOf rs.toArray n) ∈ rest → RowsIn rest rs rows → rs.length ≤ 1000 → (∀ p ∈ rest, p.1 ≠ c.fa) → DK PySem.Challenge.rw_xm0172_01.row.prog w oF ks → ks.length ≤ 100000 →
  Tri w p loose mean mg mb 12 100 (.ref 57) [.ref sa, .str x tx] ((c.fa, oF) :: rest) (fun r l => r = .none ∧ ∃ oF', l = (c.fa, oF') :: rest ∧ DK PySem.Challenge.rw_xm0172_01.row.prog w oF' (insU rows.flatten ks x)) := by
  unfold Tri
  k_fill
  rintro sa dx c rest oF ks rs n rows x tx hs hdx ho hR hl hoff hF hFl dp un gd cn cs a ccd cl outer A₀ base h₀ L m s Q E B F X N T0 hk hd hu ret
  ((refine wpAny_call ?_; refine' code_def ?k1 ?k2 ?k3 ?k4 ?k5 ?kA ?kF ?kK ?k6 ?k7 ?k8 ?k9 ?kB ?_ ?c2 ?c3 ?c4 ?c5; (case kA => exact rfl); (case kF => exact rfl); (case kK => first | exact rfl | assumption); (case k1 => k_asm); (case k2 => k_asm); (case k3 => k_asm); (case k4 => k_asm); (case k5 => k_asm); (case k6 => k_is); (case k7 => k_is); (case k8 => ktr_room); (case k9 => first | exact BindsTo.of_eq rfl | exact binds_K (by k_in) rfl (by k_is) rfl rfl rfl); (case c5 => decide); (case kB => exact locs rfl); (case c2 => exact rfl); (case c3 => exact rfl); (case c4 => exact rfl); k_whole; intro g' L' h' FG' F' N' B' X' T'; (try dsimp only); (try k_fold)))
  k_steps
  · exact ret _ _ _ _ (by k_asm) (by k_asm) ⟨rfl, _, rfl, by rw [insU, if_pos (by assumption)]; assumption⟩
  · exact ret _ _ _ _ (by k_asm) (by k_asm) ⟨rfl, _, rfl, by rw [insU, if_neg (by simp only [Bool.not_eq_true]; assumption)]; assumption⟩
theorem ahead_c {w : World} {p : Program} {loose : List Str} {mean : ExcName → Option Value} {mg mb : Str → Option Value} :
  ∀ (sa dx : Addr) (c : FK) (rest : Led) (oF : Obj) (ks : List Str) (rs : List Value) (n : Nat) (rows : List (List Str)) (x : Str) (tx : Tok),
  (sa, instObj 147 dx) ∈ rest → (dx, finD w c) ∈ rest → (c.oa, listOf rs.toArray n) ∈ rest → RowsIn rest rs rows → rs.length ≤ 1000 → (∀ p ∈ rest, p.1 ≠ c.aa) → DK PySem.Challenge.rw_xm0172_01.row.prog w oF ks → ks.length ≤ 100000 →
  Tri w p loose mean mg mb 12 100 (.ref 64) [.ref sa, .str x tx] ((c.aa, oF) :: rest) (fun r l => r = .none ∧ ∃ oF', l = (c.aa, oF') :: rest ∧ DK PySem.Challenge.rw_xm0172_01.row.prog w oF' (insU rows.flatten ks x)) := by
  unfold Tri
  k_fill
  rintro sa dx c rest oF ks rs n rows x tx hs hdx ho hR hl hoff hF hFl dp un gd cn cs a ccd cl outer A₀ base h₀ L m s Q E B F X N T0 hk hd hu ret
  ((refine wpAny_call ?_; refine' code_def ?k1 ?k2 ?k3 ?k4 ?k5 ?kA ?kF ?kK ?k6 ?k7 ?k8 ?k9 ?kB ?_ ?c2 ?c3 ?c4 ?c5; (case kA => exact rfl); (case kF => exact rfl); (case kK => first | exact rfl | assumption); (case k1 => k_asm); (case k2 => k_asm); (case k3 => k_asm); (case k4 => k_asm); (case k5 => k_asm); (case k6 => k_is); (case k7 => k_is); (case k8 => ktr_room); (case k9 => exact bz rfl); (case c5 => decide); (case kB => exact locs rfl); (case c2 => exact rfl); (case c3 => exact rfl); (case c4 => exact rfl); k_whole; intro g' L' h' FG' F' N' B' X' T'; (dsimp only [List.map, List.zip, List.zipWith, List.reverse, List.reverseAux] at F'); (try dsimp only); (try k_fold)))
  k_steps
  · exact ret _ _ _ _ (by k_asm) (by k_asm) ⟨rfl, _, rfl, by rw [insU, if_pos (by assumption)]; assumption⟩
  · exact ret _ _ _ _ (by k_asm) (by k_asm) ⟨rfl, _, rfl, by rw [insU, if_neg (by simp only [Bool.not_eq_true]; assumption)]; assumption⟩
/-- the finder's four cells: own, found, ahead, behind -/
noncomputable def Off4 (c : FK) (l : Led) : Prop := ∀ p ∈ l, p.1 ≠ c.oa ∧ p.1 ≠ c.fa ∧ p.1 ≠ c.aa ∧ p.1 ≠ c.ba
structure D4 (c : FK) : Prop where
  of : c.oa ≠ c.fa
  oa : c.oa ≠ c.aa
  ob : c.oa ≠ c.ba
  fa : c.fa ≠ c.aa
  fb : c.fa ≠ c.ba
  ab : c.aa ≠ c.ba
theorem Off4.sub {c : FK} {a b : Led} (h : Off4 c b) (k : ∀ p ∈ a, p ∈ b) : Off4 c a := fun p hp => h p (k p hp)
theorem Off4.app {c : FK} {a b : Led} (h : Off4 c a) (k : Off4 c b) : Off4 c (a ++ b) := fun p hp => (List.mem_append.mp hp).elim (h p) (k p)
noncomputable abbrev cells (c : FK) (rs : List Value) (n : Nat) (oF oA oB : Obj) (r : Led) : Led := (c.oa, listOf rs.toArray n) :: (c.fa, oF) :: (c.aa, oA) :: (c.ba, oB) :: r
theorem mem_mv {α : Type} {p x : α} : ∀ (l : List α) {r : List α}, p ∈ x :: (l ++ r) → p ∈ l ++ x :: r
  | [], _, h => h
  | a :: l, r, h => by
    rcases List.mem_cons.mp h with h | h
    · exact .tail _ (mem_mv l (h ▸ .head _))
    · rcases List.mem_cons.mp h with h | h
      · exact h ▸ .head _
      · exact .tail _ (mem_mv l (.tail _ h))
theorem mem_mv' {α : Type} {p x : α} : ∀ (l : List α) {r : List α}, p ∈ l ++ x :: r → p ∈ x :: (l ++ r)
  | [], _, h => h
  | a :: l, r, h => by
    rcases List.mem_cons.mp h with h | h
    · exact .tail _ (h ▸ .head _)
    · rcases List.mem_cons.mp (mem_mv' l h) with h | h
      · exact h ▸ .head _
      · exact .tail _ (.tail _ h)
/-- the four cells stand somewhere in the ledger -/
inductive Cs (c : FK) (rs : List Value) (n : Nat) (oF oA oB : Obj) : Led → Led → Prop
  | here {r : Led} : Off4 c r → Cs c rs n oF oA oB ((c.oa, listOf rs.toArray n) :: (c.fa, oF) :: (c.aa, oA) :: (c.ba, oB) :: r) r
  | skip {p : Addr × Obj} {l r : Led} : p.1 ≠ c.oa → p.1 ≠ c.fa → p.1 ≠ c.aa → p.1 ≠ c.ba → Cs c rs n oF oA oB l r → Cs c rs n oF oA oB (p :: l) (p :: r)
theorem Cs.off {c : FK} {rs : List Value} {n : Nat} {oF oA oB : Obj} {l r : Led} (h : Cs c rs n oF oA oB l r) : Off4 c r := by
  induction h with
  | here h => exact h
  | skip h1 h2 h3 h4 _ ih =>
    intro p hp
    rcases List.mem_cons.mp hp with rfl | hp
    · exact ⟨h1, h2, h3, h4⟩
    · exact ih p hp
theorem Cs.sub {c : FK} {rs : List Value} {n : Nat} {oF oA oB : Obj} {l r : Led} (h : Cs c rs n oF oA oB l r) : ∀ p ∈ cells c rs n oF oA oB r, p ∈ l := by
  induction h with
  | here h => exact fun _ h => h
  | skip _ _ _ _ _ ih =>
    intro p hp
    simp only [cells, List.mem_cons] at hp ih ⊢
    rcases hp with h | h | h | h | h | h
    · exact .inr (ih p (.inl h))
    · exact .inr (ih p (.inr (.inl h)))
    · exact .inr (ih p (.inr (.inr (.inl h))))
    · exact .inr (ih p (.inr (.inr (.inr (.inl h)))))
    · exact .inl h
    · exact .inr (ih p (.inr (.inr (.inr (.inr h)))))
theorem Cs.sub2 {c : FK} {rs : List Value} {n : Nat} {oF oA oB : Obj} {l r : Led} (h : Cs c rs n oF oA oB l r) : ∀ p ∈ r, p ∈ l := fun p hp => h.sub p (.tail _ (.tail _ (.tail _ (.tail _ hp))))
theorem off_o {c : FK} (d : D4 c) {oF oA oB : Obj} {r : Led} (h : Off4 c r) : ∀ p ∈ (c.fa, oF) :: (c.aa, oA) :: (c.ba, oB) :: r, p.1 ≠ c.oa := by
  intro p hp
  rcases List.mem_cons.mp hp with rfl | hp
  · exact Ne.symm d.of
  rcases List.mem_cons.mp hp with rfl | hp
  · exact Ne.symm d.oa
  rcases List.mem_cons.mp hp with rfl | hp
  · exact Ne.symm d.ob
  exact (h p hp).1
theorem off_f {c : FK} (d : D4 c) {rs : List Value} {n : Nat} {oA oB : Obj} {r : Led} (h : Off4 c r) : ∀ p ∈ (c.oa, listOf rs.toArray n) :: (c.aa, oA) :: (c.ba, oB) :: r, p.1 ≠ c.fa := by
  intro p hp
  rcases List.mem_cons.mp hp with rfl | hp
  · exact d.of
  rcases List.mem_cons.mp hp with rfl | hp
  · exact Ne.symm d.fa
  rcases List.mem_cons.mp hp with rfl | hp
  · exact Ne.symm d.fb
  exact (h p hp).2.1
theorem off_a {c : FK} (d : D4 c) {rs : List Value} {n : Nat} {oF oB : Obj} {r : Led} (h : Off4 c r) : ∀ p ∈ (c.oa, listOf rs.toArray n) :: (c.fa, oF) :: (c.ba, oB) :: r, p.1 ≠ c.aa := by
  intro p hp
  rcases List.mem_cons.mp hp with rfl | hp
  · exact d.oa
  rcases List.mem_cons.mp hp with rfl | hp
  · exact d.fa
  rcases List.mem_cons.mp hp with rfl | hp
  · exact Ne.symm d.ab
  exact (h p hp).2.2.1
theorem off_b {c : FK} (d : D4 c) {rs : List Value} {n : Nat} {oF oA : Obj} {r : Led} (h : Off4 c r) : ∀ p ∈ (c.oa, listOf rs.toArray n) :: (c.fa, oF) :: (c.aa, oA) :: r, p.1 ≠ c.ba := by
  intro p hp
  rcases List.mem_cons.mp hp with rfl | hp
  · exact d.ob
  rcases List.mem_cons.mp hp with rfl | hp
  · exact d.fb
  rcases List.mem_cons.mp hp with rfl | hp
  · exact d.ab
  exact (h p hp).2.2.2

noncomputable def BOk (B : List Str) : Prop := B = [] ∨ B = [cN "f"]
theorem BOk.len {B : List Str} (h : BOk B) : B.length ≤ 1 := by rcases h with rfl | rfl <;> simp
theorem BOk.ins {B : List Str} (h : BOk B) : BOk (Mine.ins B (cN "f")) := by
  rcases h with rfl | rfl
  · exact .inr rfl
  · exact .inr (by unfold Mine.ins; simp)
theorem Tri.perm {w : World} {p : Program} {loose : List Str} {mean : ExcName → Option Value} {mg mb : Str → Option Value} {dd du : Nat} {f : Value} {vs : List Value} {l l2 : Led} {P P2 : Value → Led → Prop}
    (C : Tri w p loose mean mg mb dd du f vs l P) (h : ∀ q ∈ l, q ∈ l2) (k : ∀ r k, P r k → ∃ k2, (∀ q ∈ k2, q ∈ k) ∧ P2 r k2) : Tri w p loose mean mg mb dd du f vs l2 P2 := by
  intro dp un gd cn cs a ccd cl outer A₀ base h₀ L m s Q E B F X N T0 hk hd hu ret
  refine C dp un gd cn cs a ccd cl outer A₀ base h₀ L m s Q E B F X (News.subl N h) T0 hk hd hu ?_
  intro r news' h' tk' F' N' hP
  obtain ⟨k2, hk2, hP2⟩ := k r news' hP
  exact ret r k2 h' tk' F' (News.subl N' hk2) hP2

section
variable {prog : Program} {w : World} {A : Around} {E : Value → Shared → Prop} {s : Shared} {h₀ : Heap} {L : Addr} {m : Str → Option Value} {big r : Led} {c : FK} {rs : List Value} {n : Nat} {oF oA oB : Obj}
theorem RowsIn.snoc {l : Led} {rs : List Value} {rows : List (List Str)} {a : Addr} {k : Nat} {vs : List Value} {row : List Str} (h : RowsIn l rs rows) (hm : (a, listOf vs.toArray k) ∈ l) (hv : StrsAre vs row) : RowsIn l (rs ++ [.ref a]) (rows ++ [row]) := by
  induction h with
  | nil => exact .cons hm hv .nil
  | cons h1 h2 _ ih => exact .cons h1 h2 ih
theorem RowsIn.unsnoc {l : Led} : ∀ {rs : List Value} {R : List (List Str)} {row : List Str}, RowsIn l rs (R ++ [row]) → ∃ rs1 a k vs, rs = rs1 ++ [.ref a] ∧ (a, listOf vs.toArray k) ∈ l ∧ StrsAre vs row ∧ RowsIn l rs1 R := by
  intro rs R
  induction R generalizing rs with
  | nil =>
    intro row h
    cases h with
    | cons hm hs h2 => cases h2; exact ⟨[], _, _, _, rfl, hm, hs, .nil⟩
  | cons x R ih =>
    intro row h
    cases h with
    | cons hm hs h2 =>
      obtain ⟨rs1, a, k, vs, rfl, h3, h4, h5⟩ := ih h2
      exact ⟨_ :: rs1, a, k, vs, rfl, h3, h4, .cons hm hs h5⟩
theorem kl_last_snoc (p : List Value) (y : Value) : kl_last (p ++ [y]) = some (p, y) := by
  induction p with
  | nil => rfl
  | cons x p ih => rw [List.cons_append]; unfold kl_last; rw [ih]
theorem ki_set_snoc (p : List Value) (y v : Value) : ki_setL (p ++ [y]) p.length v = some (p ++ [v]) := by
  induction p with
  | nil => rfl
  | cons x p ih => rw [List.cons_append, List.length_cons]; unfold ki_setL; rw [ih]; rfl
theorem own_push {v : Value} {Q : Value → Shared → Prop} (F : Fr h₀ L s.heap m) (N : News h₀ L s.heap big) (d : D4 c) (P : Cs c rs n oF oA oB big r) (hl : rs.length ≤ 1000)
    (h : ∀ h', Fr h₀ L h' m → News h₀ L h' ((c.oa, listOf (rs ++ [v]).toArray (n + 1)) :: (c.fa, oF) :: (c.aa, oA) :: (c.ba, oB) :: r) → Off4 c r → Q .none { s with heap := h' }) : wpAny (model prog w) A (call (.builtin "list.append") [.ref c.oa, v]) Q E s :=
  append_K F (News.subl N P.sub) (Upd.head (off_o d P.off)) (fun h' F' N' => h h' F' (by rw [List.push_toArray] at N'; exact N') P.off) (by rw [List.size_toArray, sizeLine_eq]; omega)
theorem own_pop {R : List (List Str)} {row : List Str} {Q : Value → Shared → Prop} (F : Fr h₀ L s.heap m) (N : News h₀ L s.heap big) (d : D4 c) (P : Cs c rs n oF oA oB big r) (hR : RowsIn r rs (R ++ [row])) (hl : R.length ≤ 1000)
    (h : ∀ rs1 v h', Fr h₀ L h' m → News h₀ L h' ((c.oa, listOf rs1.toArray (n + 1)) :: (c.fa, oF) :: (c.aa, oA) :: (c.ba, oB) :: r) → Off4 c r → RowsIn r rs1 R → Q v { s with heap := h' }) : wpAny (model prog w) A (call (.builtin "list.pop") [.ref c.oa]) Q E s := by
  obtain ⟨rs1, a, k, vs, rfl, hm, hv, hR1⟩ := hR.unsnoc
  have := hR1.len
  exact kl_pop F (News.subl N P.sub) (kl_last_snoc rs1 (.ref a)) (Upd.head (off_o d P.off)) (by simp only [List.length_append, List.length_cons, List.length_nil]; rw [sizeLine_eq]; omega) (fun h' F' N' => h rs1 _ h' F' N' P.off hR1)
theorem own_last {value slice : PySem.Expr} {R : List (List Str)} {row : List Str} {t : Tok} {Q : Value → Shared → Prop} (N : News h₀ L s.heap big) (P : Cs c rs n oF oA oB big r) (hR : RowsIn r rs (R ++ [row])) (hl : R.length ≤ 1000)
    (h : ∀ a k vs, (a, listOf vs.toArray k) ∈ r → (a, listOf vs.toArray k) ∈ big → StrsAre vs row → Q (.ref a) s)
    (hs : subscripted slice false (.ref c.oa) (.int (-1) t) = operate [.ref c.oa, .int (-1) t] (getItem (.ref c.oa) (.int (-1) t)) := by with_unfolding_all rfl) :
    wpAny (model prog w) A (subscriptTail value slice (.ref c.oa) (.int (-1) t)) Q E s := by
  obtain ⟨rs1, a, k, vs, rfl, hm, hv, hR1⟩ := hR.unsnoc
  have hlen := hR1.len
  have hI := PySem.IsL.isList (n := n) (N _ (P.sub _ (.head _))).1
  refine tail_any hI.typeIs slot_list_getitem.lookup (wpAny_getItem_list_neg hI (by decide) (by simp only [List.size_toArray, List.length_append, List.length_cons, List.length_nil]; omega) (by decide) ?_ (h a k vs hm (P.sub2 _ hm) hv)) hs
  have e : ((-1 : Int) + ((rs1 ++ [Value.ref a]).toArray.size : Int)).toNat = rs1.length := by
    simp only [List.size_toArray, List.length_append, List.length_cons, List.length_nil]; omega
  rw [e]; simp
theorem own_set {R : List (List Str)} {row row' : List Str} {t : Tok} {a : Addr} {k : Nat} {vs : List Value} {Q : Unit → Shared → Prop} (F : Fr h₀ L s.heap m) (N : News h₀ L s.heap big) (d : D4 c) (P : Cs c rs n oF oA oB big r) (hR : RowsIn r rs (R ++ [row])) (hl : R.length ≤ 1000) (hm : (a, listOf vs.toArray k) ∈ r) (hv : StrsAre vs row')
    (h : ∀ rs1 h', Fr h₀ L h' m → News h₀ L h' ((c.oa, listOf rs1.toArray n) :: (c.fa, oF) :: (c.aa, oA) :: (c.ba, oB) :: r) → Off4 c r → RowsIn r rs1 (R ++ [row']) → Q () { s with heap := h' }) : wpAny (model prog w) A (setItem (.ref c.oa) (.int (-1) t) (.ref a)) Q E s := by
  obtain ⟨rs1, a1, k1, vs1, rfl, hm1, hv1, hR1⟩ := hR.unsnoc
  have hlen := hR1.len
  refine ki_setNeg F (News.subl N P.sub) (by decide) (by decide) (j := rs1.length) ?_ (ki_set_snoc rs1 (.ref a1) (.ref a)) (Upd.head (off_o d P.off)) (fun h' F' N' => h _ h' F' N' P.off (hR1.snoc hm hv))
  rw [PySem.seqIndex_neg (by decide) (by simp only [List.size_toArray, List.length_append, List.length_cons, List.length_nil]; omega)]
  congr 1
  simp only [List.size_toArray, List.length_append, List.length_cons, List.length_nil]; omega
theorem behind_set {ks : List Str} {t : Tok} {Q : Unit → Shared → Prop} (F : Fr h₀ L s.heap m) (N : News h₀ L s.heap big) (d : D4 c) (P : Cs c rs n oF oA oB big r) (hd : DK prog w oB ks) (hl : BOk ks)
    (h : ∀ h' oB' B', Fr h₀ L h' m → News h₀ L h' ((c.oa, listOf rs.toArray n) :: (c.fa, oF) :: (c.aa, oA) :: (c.ba, oB') :: r) → Off4 c r → DK prog w oB' B' → BOk B' → Q () { s with heap := h', toks := s.toks + 1 }) : wpAny (model prog w) A (setItem (.ref c.ba) (.str (cN "f") t) (.bool true)) Q E s :=
  set_key F (News.subl N P.sub) (.tail d.ob (.tail d.fb (.tail d.ab (.head fun p hp => (P.off p hp).2.2.2)))) hd (by have := hl.len; omega) (fun h' o' F' N' hd' => h h' o' _ F' N' P.off hd' hl.ins)
end
/-- the finder's state: the row on top, the rows below (the nearest first), what was noted -/
structure FS where
  row : List Str
  R : List (List Str)
  log : List Use
noncomputable def FS.rows (s : FS) : List (List Str) := s.R.reverse ++ [s.row]
noncomputable def FS.told (s : FS) : List Str := s.rows.flatten
noncomputable def FS.note (w x : Str) (s : FS) : FS := ⟨s.row, s.R, s.log ++ use w x s.told⟩
noncomputable def FS.tell (ns : List Str) (s : FS) : FS := ⟨s.row ++ ns, s.R, s.log⟩
noncomputable def FS.push (ns : List Str) (s : FS) : FS := ⟨ns, s.row :: s.R, s.log⟩
noncomputable def FS.pop (s : FS) : FS := match s.R with
  | r :: R => ⟨r, R, s.log⟩
  | [] => ⟨[], [], s.log⟩
structure Keys (log : List Use) (w : Str) (ks : List Str) : Prop where
  m : ∀ x, x ∈ ks ↔ (w, x) ∈ log
  l : ks.length ≤ log.length
noncomputable abbrev tail3 (w : World) (c : FK) (sa dx : Addr) (oD : Obj) : Led := (c.da, oD) :: (sa, instObj 147 dx) :: (dx, finD w c) :: c.ex
structure DX (w : World) (c : FK) (oD : Obj) : Prop where
  d : DK PR w oD c.dk
  x : ∀ p ∈ c.ex, ∀ xs n, p.2 ≠ listOf xs n
inductive IF (w : World) (c : FK) (sa dx : Addr) : II FS
  | mk {s : FS} {imm : Led} {rs : List Value} {n : Nat} {oF oA oB oD : Obj} {Fl Al Bl : List Str} : D4 c → Off4 c (tail3 w c sa dx oD) → RowsIn imm rs s.rows → DK PR w oF Fl → DK PR w oA Al → DK PR w oB Bl → DX w c oD → Keys s.log wF Fl → Keys s.log wA Al → BOk Bl →
      IF w c sa dx s imm (cells c rs n oF oA oB (tail3 w c sa dx oD))
theorem RowsIn.gr {l l' : Led} {rs : List Value} {rows : List (List Str)} (h : RowsIn l rs rows) (k : Gr l l') : RowsIn l' rs rows := by
  induction h with
  | nil => exact .nil
  | cons hm hs _ ih => exact .cons (k.l _ _ _ hm) hs ih
instance (w : World) (c : FK) (sa dx : Addr) : IMono (IF w c sa dx) := ⟨fun h k => by
  cases h with
  | mk h1 h2 h3 h4 h5 h6 h7 h8 h9 h10 => exact .mk h1 h2 (h3.gr k) h4 h5 h6 h7 h8 h9 h10⟩
theorem wA_ne : wA ≠ wF := by decide
theorem keys_same {log : List Use} {w x : Str} {told ks : List Str} (h : Keys log w ks) : Keys (log ++ use w x told) w (insU told ks x) := by
  unfold use insU
  split
  · simpa using h
  · refine ⟨fun y => ?_, by have := ins_len ks x; have := h.l; simp only [List.length_append, List.length_cons, List.length_nil]; omega⟩
    rw [mem_ins, h.m]; simp
theorem keys_other {log : List Use} {w v x : Str} {told ks : List Str} (n : v ≠ w) (h : Keys log v ks) : Keys (log ++ use w x told) v ks := by
  unfold use
  split
  · simpa using h
  · refine ⟨fun y => ?_, by have := h.l; simp only [List.length_append, List.length_cons, List.length_nil]; omega⟩
    rw [h.m]; simp [n]
theorem rows_len (s : FS) : s.rows.length = s.R.length + 1 := by simp [FS.rows]
section
variable {w : World} {fk : FK} {sa dx : Addr} {c : Cx} {M : MV} {K : KV FS} {s : FS} {x : Str}
theorem Off4.imm {c : Cx} {s : FS} {M : MV} {imm : Led} {h : Heap} {m : MM} {rs : List Value} {n : Nat} {oF oA oB oD : Obj} (C : Cf (IF w fk sa dx) c s M imm h m (cells fk rs n oF oA oB (tail3 w fk sa dx oD))) (ho : Off4 fk (tail3 w fk sa dx oD)) : Off4 fk (tail3 w fk sa dx oD ++ imm) :=
  ho.app fun p hp => ⟨Ne.symm (C.d (fk.oa, _) (.head _) p hp), Ne.symm (C.d (fk.fa, _) (.tail _ (.head _)) p hp), Ne.symm (C.d (fk.aa, _) (.tail _ (.tail _ (.head _))) p hp), Ne.symm (C.d (fk.ba, _) (.tail _ (.tail _ (.tail _ (.head _)))) p hp)⟩
theorem note_u (ok : c.Ok) (hw : c.g.w = w) (hr : Room c 40) (h1 : s.R.length ≤ 900) (h2 : s.log.length ≤ 90000) (k : K .none (s.note wF x)) : CW (IF w fk sa dx) c M (.ref 57) [.raw (.ref sa), .str x] s K := by
  subst hw
  refine ⟨fun h imm m g gs dr tk os Q E vs hvs C kk => ?_⟩
  cases hvs with
  | cons a1 hvs => cases hvs with
    | cons a2 hvs =>
      cases hvs
      cases a1.raw_inv
      obtain ⟨t, rfl⟩ := a2.str_inv
      have hi := C.i
      cases hi with
      | @mk _ _ rs n oF oA oB oD Fl Al Bl d4 ho hR hF hA hB hD kF kA kB =>
        have hoI := Off4.imm C ho
        have hl := hR.len
        rw [rows_len] at hl
        refine note_c sa dx fk ((fk.oa, listOf rs.toArray n) :: (fk.aa, oA) :: (fk.ba, oB) :: (tail3 c.g.w fk sa dx oD ++ imm)) oF Fl rs n s.rows x t (by simp) (by simp) (by simp) (hR.mono2 fun p hp => by simp [hp]) (by omega) (off_f d4 hoI) hF (by have := kF.l; omega) c.dp c.un c.gd c.cn c.cs c.a c.ccd c.cl c.outer c.A₀ c.base c.h₀ c.L m ⟨h, gs, dr, tk, os⟩ Q E ok.B C.F ok.X (News.subl C.N fun p hp => mem_mv [(fk.oa, _)] hp) ok.T ok.hk (by have := hr.d; omega) (by have := hr.u; omega) ?_
        rintro r l h' tk' F' N' ⟨rfl, oF', rfl, hd'⟩
        refine kk .none .none (s.note wF x) imm m (cells fk rs n oF' oA oB (tail3 c.g.w fk sa dx oD)) h' tk' k .none sub_rfl ⟨F', News.subl N' fun p hp => mem_mv' [(fk.oa, _)] hp, .mk d4 ho hR hd' hA hB hD (keys_same kF) (keys_other wA_ne kA) kB, fun p hp => ?_, C.r⟩
        have hp' : p.1 ∈ (cells fk rs n oF oA oB (tail3 c.g.w fk sa dx oD)).map (·.1) := by
          have : p.1 ∈ (cells fk rs n oF' oA oB (tail3 c.g.w fk sa dx oD)).map (·.1) := List.mem_map.mpr ⟨p, hp, rfl⟩
          exact this
        obtain ⟨p', hp1, hp2⟩ := List.mem_map.mp hp'
        rw [← hp2]; exact C.d p' hp1
theorem ahead_u (ok : c.Ok) (hw : c.g.w = w) (hr : Room c 40) (h1 : s.R.length ≤ 900) (h2 : s.log.length ≤ 90000) (k : K .none (s.note wA x)) : CW (IF w fk sa dx) c M (.ref 64) [.raw (.ref sa), .str x] s K := by
  subst hw
  refine ⟨fun h imm m g gs dr tk os Q E vs hvs C kk => ?_⟩
  cases hvs with
  | cons a1 hvs => cases hvs with
    | cons a2 hvs =>
      cases hvs
      cases a1.raw_inv
      obtain ⟨t, rfl⟩ := a2.str_inv
      have hi := C.i
      cases hi with
      | @mk _ _ rs n oF oA oB oD Fl Al Bl d4 ho hR hF hA hB hD kF kA kB =>
        have hoI := Off4.imm C ho
        have hl := hR.len
        rw [rows_len] at hl
        refine ahead_c sa dx fk ((fk.oa, listOf rs.toArray n) :: (fk.fa, oF) :: (fk.ba, oB) :: (tail3 c.g.w fk sa dx oD ++ imm)) oA Al rs n s.rows x t (by simp) (by simp) (by simp) (hR.mono2 fun p hp => by simp [hp]) (by omega) (off_a d4 hoI) hA (by have := kA.l; omega) c.dp c.un c.gd c.cn c.cs c.a c.ccd c.cl c.outer c.A₀ c.base c.h₀ c.L m ⟨h, gs, dr, tk, os⟩ Q E ok.B C.F ok.X (News.subl C.N fun p hp => mem_mv [(fk.oa, _), (fk.fa, _)] hp) ok.T ok.hk (by have := hr.d; omega) (by have := hr.u; omega) ?_
        rintro r l h' tk' F' N' ⟨rfl, oA', rfl, hd'⟩
        refine kk .none .none (s.note wA x) imm m (cells fk rs n oF oA' oB (tail3 c.g.w fk sa dx oD)) h' tk' k .none sub_rfl ⟨F', News.subl N' fun p hp => mem_mv' [(fk.oa, _), (fk.fa, _)] hp, .mk d4 ho hR hF hd' hB hD (keys_other (Ne.symm wA_ne) kF) (keys_same kA) kB, fun p hp => ?_, C.r⟩
        have hp' : p.1 ∈ (cells fk rs n oF oA oB (tail3 c.g.w fk sa dx oD)).map (·.1) := by
          have : p.1 ∈ (cells fk rs n oF oA' oB (tail3 c.g.w fk sa dx oD)).map (·.1) := List.mem_map.mpr ⟨p, hp, rfl⟩
          exact this
        obtain ⟨p', hp1, hp2⟩ := List.mem_map.mp hp'
        rw [← hp2]; exact C.d p' hp1
theorem told_u (ok : c.Ok) (hw : c.g.w = w) (hr : Room c 40) (h1 : s.R.length ≤ 900) (k : K (.bool (s.told.any (· == x))) s) : CW (IF w fk sa dx) c M (.ref 42) [.raw (.ref sa), .str x] s K := by
  subst hw
  refine ⟨fun h imm m g gs dr tk os Q E vs hvs C kk => ?_⟩
  cases hvs with
  | cons a1 hvs => cases hvs with
    | cons a2 hvs =>
      cases hvs
      cases a1.raw_inv
      obtain ⟨t, rfl⟩ := a2.str_inv
      have hi := C.i
      cases hi with
      | @mk _ _ rs n oF oA oB oD Fl Al Bl d4 ho hR hF hA hB hD kF kA kB =>
        have hl := hR.len
        rw [rows_len] at hl
        refine told_c sa dx fk (cells fk rs n oF oA oB (tail3 c.g.w fk sa dx oD) ++ imm) rs n s.rows x t (by simp) (by simp) (by simp) (hR.mono2 fun p hp => by simp [hp]) (by omega) c.dp c.un c.gd c.cn c.cs c.a c.ccd c.cl c.outer c.A₀ c.base c.h₀ c.L m ⟨h, gs, dr, tk, os⟩ Q E ok.B C.F ok.X C.N ok.T ok.hk (by have := hr.d; omega) (by have := hr.u; omega) ?_
        rintro r l h' tk' F' N' ⟨rfl, rfl⟩
        exact kk _ _ s imm m _ h' tk' k .bool sub_rfl ⟨F', N', C.i, C.d, C.r⟩
end
/-- the finder's methods are found -/
theorem gm {w : World} {fk : FK} {sa dx : Addr} {c : Cx} {mt : Str} {f : Addr} (ok : c.Ok) (hw : c.g.w = w) (hg : plainGet c.K 147 mt = true) (hf : findIn c.K (.ref 147) mt = some (some (.ref f))) (ht : isFn c.K (.ref f) = true) (hl : ∀ w : World, lookIn mt (finD w fk) = some none) : GetM (IF w fk sa dx) c (.ref sa) mt (.ref f) [.ref sa] := by
  subst hw
  intro s M h imm m g gs dr tk os pl Q E C k
  have hi := C.i
  cases hi with
  | @mk _ _ rs n oF oA oB oD Fl Al Bl d4 ho hR hF hA hB hD kF kA kB =>
    have I : InstAt h sa (instObj 147 dx) 147 (some (finD c.g.w fk)) := InstAt.of_news C.N (by simp) (by simp)
    exact method_inst C.F ok.X I hg hf ht (by have := hl c.g.w; rw [lookIn_dict] at this; exact this) (k tk)
example {w : World} {fk : FK} {sa dx : Addr} {c : Cx} (ok : c.Ok) (hw : c.g.w = w) : GetM (IF w fk sa dx) c (.ref sa) (Str.ofString "note") (.ref 57) [.ref sa] := by
  refine gm ok hw ?_ ?_ ?_ ?_
  · rfl
  · rfl
  · rfl
  · intro w; rfl
noncomputable def TR (w : World) (fk : FK) (sa dx : Addr) (g : GX) (D : Nat) (X : V) (s s1 : FS) : Prop := CT (IF w fk sa dx) g D (.ref 92) [.raw (.ref sa), X] s (fun Y s' => Y = .none ∧ s' = s1)
inductive AllT (P : V → FS → FS → Prop) : List V → FS → FS → Prop
  | nil {s : FS} : AllT P [] s s
  | none {Xs : List V} {s s' : FS} : AllT P Xs s s' → AllT P (.none :: Xs) s s'
  | tree {ys Xs : List V} {s s1 s' : FS} : P (.tup ys) s s1 → AllT P Xs s1 s' → AllT P (.tup ys :: Xs) s s'
theorem updV_eq {M M0 : MV} {x : Str} {X : V} (h : ∀ y, y ≠ x → M y = M0 y) : updV M x X = updV M0 x X := by
  funext y
  by_cases hy : y = x
  · rw [updV, updV, if_pos hy, if_pos hy]
  · rw [updV, updV, if_neg hy, if_neg hy, h y hy]
theorem vFor_ind {σ : Type} {asg : V → MV → (MV → Prop) → Prop} {bd : MV → σ → KS σ → Prop} {K : KS σ} (Inv : List V → MV → σ → Prop) (fin : ∀ M s, Inv [] M s → K .next M s)
    (step : ∀ X Xs M s, Inv (X :: Xs) M s → (∀ M'' s', Inv Xs M'' s' → vFor asg bd Xs M'' s' K) → asg X M fun M' => bd M' s fun f M'' s' => (match f with | .next => vFor asg bd Xs M'' s' K | .ret Y => K (.ret Y) M'' s')) : ∀ Xs M s, Inv Xs M s → vFor asg bd Xs M s K
  | [], M, s, h => fin M s h
  | X :: Xs, M, s, h => step X Xs M s h fun M'' s' h' => vFor_ind Inv fin step Xs M'' s' h'
theorem all_c {w : World} {fk : FK} {sa dx : Addr} {g : GX} {D : Nat} {Xs : List V} {s s' : FS} (hw : g.w = w) (h : AllT (TR w fk sa dx g D) Xs s s') : CT (IF w fk sa dx) g (D + 1) (.ref 78) [.raw (.ref sa), .tup Xs] s (fun Y s2 => Y = .none ∧ s2 = s') := by
  refine def_vc (dX := []) (dv := []) gl0 [Str.ofString "self", Str.ofString "trees"] (by rfl) (by rfl) (fun h vs _ _ hl gs dr tk os => ?_) .nil (by rfl) (by rfl) (by rfl) (by rfl) (by rfl) (by rfl) (fun c _ => gl0_ok c) fun c ok hg hr => ?_
  · obtain ⟨a, b, rfl⟩ := len2 hl
    exact BindsTo.of_eq rfl
  subst hg
  refine vFor_ind (fun Ys M t => AllT (TR w fk sa dx c.g D) Ys t s' ∧ ∀ y, y ≠ Str.ofString "tree" → M y = (([Str.ofString "self", Str.ofString "trees"].zip [V.raw (.ref sa), .tup Xs]).reverse.lookup y)) ?_ ?_ _ _ _ ⟨h, fun _ _ => rfl⟩
  · rintro M t ⟨ha, _⟩
    cases ha
    exact ⟨rfl, rfl⟩
  · rintro X Ys M t ⟨ha, hM⟩ ih
    show vB _ _ (updV M (Str.ofString "tree") X) t _
    rw [updV_eq hM]
    cases ha with
    | none ha =>
      refine BK.f ?_
      exact ih _ _ ⟨ha, fun y hy => if_neg hy⟩
    | tree hP ha =>
      refine BK.t ?_
      refine GOb.fn (f := .ref 92) (gm ok hw (by rfl) (by rfl) (by rfl) (fun w => by rfl)) (by rfl) ?_
      refine hP.use ok rfl hr ?_
      rintro Y t' ⟨rfl, rfl⟩
      exact ih _ _ ⟨ha, fun y hy => if_neg hy⟩
theorem all_cL {w : World} {fk : FK} {sa dx : Addr} {g : GX} {D : Nat} {Xs : List V} {s s' : FS} (hw : g.w = w) (h : AllT (TR w fk sa dx g D) Xs s s') : CT (IF w fk sa dx) g (D + 1) (.ref 78) [.raw (.ref sa), .list Xs] s (fun Y s2 => Y = .none ∧ s2 = s') := by
  refine def_vc (dX := []) (dv := []) gl0 [Str.ofString "self", Str.ofString "trees"] (by rfl) (by rfl) (fun h vs _ _ hl gs dr tk os => ?_) .nil (by rfl) (by rfl) (by rfl) (by rfl) (by rfl) (by rfl) (fun c _ => gl0_ok c) fun c ok hg hr => ?_
  · obtain ⟨a, b, rfl⟩ := len2 hl
    exact BindsTo.of_eq rfl
  subst hg
  refine vFor_ind (fun Ys M t => AllT (TR w fk sa dx c.g D) Ys t s' ∧ ∀ y, y ≠ Str.ofString "tree" → M y = (([Str.ofString "self", Str.ofString "trees"].zip [V.raw (.ref sa), .list Xs]).reverse.lookup y)) ?_ ?_ _ _ _ ⟨h, fun _ _ => rfl⟩
  · rintro M t ⟨ha, _⟩
    cases ha
    exact ⟨rfl, rfl⟩
  · rintro X Ys M t ⟨ha, hM⟩ ih
    show vB _ _ (updV M (Str.ofString "tree") X) t _
    rw [updV_eq hM]
    cases ha with
    | none ha =>
      refine BK.f ?_
      exact ih _ _ ⟨ha, fun y hy => if_neg hy⟩
    | tree hP ha =>
      refine BK.t ?_
      refine GOb.fn (f := .ref 92) (gm ok hw (by rfl) (by rfl) (by rfl) (fun w => by rfl)) (by rfl) ?_
      refine hP.use ok rfl hr ?_
      rintro Y t' ⟨rfl, rfl⟩
      exact ih _ _ ⟨ha, fun y hy => if_neg hy⟩
theorem all_u {w : World} {fk : FK} {sa dx : Addr} {c : Cx} {M : MV} {K : KV FS} {D : Nat} {Xs : List V} {s s' : FS} (h : AllT (TR w fk sa dx c.g D) Xs s s') (ok : c.Ok) (hw : c.g.w = w) (hr : Room c (D + 1)) (k : K .none s') : CW (IF w fk sa dx) c M (.ref 78) [.raw (.ref sa), .tup Xs] s K :=
  (all_c hw h).use ok rfl hr (by rintro Y t ⟨rfl, rfl⟩; exact k)
theorem allL_u {w : World} {fk : FK} {sa dx : Addr} {c : Cx} {M : MV} {K : KV FS} {D : Nat} {Xs : List V} {s s' : FS} (h : AllT (TR w fk sa dx c.g D) Xs s s') (ok : c.Ok) (hw : c.g.w = w) (hr : Room c (D + 1)) (k : K .none s') : CW (IF w fk sa dx) c M (.ref 78) [.raw (.ref sa), .list Xs] s K :=
  (all_cL hw h).use ok rfl hr (by rintro Y t ⟨rfl, rfl⟩; exact k)
local macro_rules | `(tactic| walk_at "m_cs") => `(tactic| first | ((with_reducible refine' Cs.here ?csH); (case csH => with_reducible assumption)) | (refine' Cs.skip ?cs1 ?cs2 ?cs3 ?cs4 ?csT; (case csT => walk_at "m_cs"); (case cs1 => k_ne); (case cs2 => k_ne); (case cs3 => k_ne); (case cs4 => k_ne)))
local macro_rules | `(tactic| walk_at "m_bnd") => `(tactic| ((try simp only [dep, wt, List.length_append, List.length_cons, List.length_nil]); omega))
local macro_rules | `(tactic| walk_at "m_strs2") => `(tactic| first | with_reducible assumption | exact StrsAre.nil | exact StrsAre.cons _ _ .nil | (refine' StrsAre.append' ?ap1 ?ap2; (case ap1 => walk_at "m_strs2"); (case ap2 => walk_at "m_strs2")))
local macro_rules | `(tactic| walk_at "subscriptTail") => `(tactic| (k_here; (with_reducible show wpAny _ _ (subscriptTail _ _ (Value.ref (FK.oa _)) (Value.int _ _)) _ _ _); k_dflt (refine' own_last ?N ?P ?hR ?hl ?_; (case N => k_asm); (case P => walk_at "m_cs"); (case hR => walk_at "m_rows"); (case hl => walk_at "m_bnd"); k_whole; intro a' k' vs' hm' hm2' hs'; have hsl' := StrsAre.len_eq hs')))
local macro_rules | `(tactic| walk_at "setItem ref int") => `(tactic| (k_here; (with_reducible show wpAny _ _ (setItem (Value.ref (FK.oa _)) (Value.int _ _) (Value.ref _)) _ _ _); k_dflt (refine' own_set ?F ?N ?d ?P ?hR ?hl ?hm ?hv ?_; (case F => k_asm); (case N => k_asm); (case d => with_reducible assumption); (case P => walk_at "m_cs"); (case hR => walk_at "m_rows"); (case hl => walk_at "m_bnd"); (case hm => k_mem); (case hv => walk_at "m_strs2"); k_whole; intro rs' h' F' N' ho' hrows'; (try k_sweep))))
local macro_rules | `(tactic| walk_at "m_size") => `(tactic| ((try simp only [List.length_append, List.length_cons, List.length_nil]); rw [sizeLine_eq]; omega))
local macro_rules | `(tactic| walk_at "binaryOp Add ref ref") => `(tactic| (k_here; (with_reducible show wpAny _ _ (binaryOp _ (Value.ref _) (Value.ref _)) _ _ _); k_dflt (refine' add_ls ?F ?N ?ha ?hb ?hz ?_; (case F => k_asm); (case N => k_asm); (case ha => walk_at "m_memR"); (case hb => walk_at "m_memR"); (case hz => walk_at "m_size"); k_whole; intro d' h' F' N' l1; (try k_lt l1); (try k_sweep); (try dsimp only))))
theorem tellL_c {w : World} {p : Program} {loose : List Str} {mean : ExcName → Option Value} {mg mb : Str → Option Value} :
  ∀ (c : FK) (sa dx : Addr) (rest : Led) (na : Addr) (k : Nat) (x : Str) (tx : Tok) (rs : List Value) (n : Nat) (R : List (List Str)) (row : List Str) (oF oA oB : Obj), (na, listOf [.str x tx].toArray k) ∈ rest → (sa, instObj 147 dx) ∈ rest → (dx, finD w c) ∈ rest → D4 c → Off4 c rest → RowsIn rest rs (R ++ [row]) → R.length ≤ 900 → row.length ≤ 90000 →
  Tri w p loose mean mg mb 10 150 (.ref 71) [.ref sa, .ref na] (cells c rs n oF oA oB rest) (fun r l => r = .none ∧ ∃ rs' n' d1 o1 d2 o2, (∀ p ∈ cells c rs' n' oF oA oB ((d1, o1) :: (d2, o2) :: rest), p ∈ l) ∧ Off4 c ((d1, o1) :: (d2, o2) :: rest) ∧ AllLt d1 rest ∧ AllLt d2 rest ∧ RowsIn ((d1, o1) :: (d2, o2) :: rest) rs' (R ++ [row ++ [x]])) := by
  unfold Tri
  k_fill
  rintro c sa dx rest na k x tx rs n R row oF oA oB hna hinst hdict d4 ho hrows hbD hbR dp un gd cn cs a ccd cl outer A₀ base h₀ L m s Q E B F X N T0 hk hd hu ret
  ((refine wpAny_call ?_; refine' code_def ?k1 ?k2 ?k3 ?k4 ?k5 ?kA ?kF ?kK ?k6 ?k7 ?k8 ?k9 ?kB ?_ ?c2 ?c3 ?c4 ?c5; (case kA => exact rfl); (case kF => exact rfl); (case kK => first | exact rfl | assumption); (case k1 => k_asm); (case k2 => k_asm); (case k3 => k_asm); (case k4 => k_asm); (case k5 => k_asm); (case k6 => k_is); (case k7 => k_is); (case k8 => ktr_room); (case k9 => exact bz rfl); (case c5 => decide); (case kB => exact locs rfl); (case c2 => exact rfl); (case c3 => exact rfl); (case c4 => exact rfl); k_whole; intro g' L' h' FG' F' N' B' X' T'; (dsimp only [List.map, List.zip, List.zipWith, List.reverse, List.reverseAux] at F'); (try dsimp only); (try k_fold)))
  k_steps
  refine' ret _ _ _ _ ?e1 ?e2 ⟨rfl, _, n, _, _, _, _, ?e3, ?e4, ?e5, ?e7, ?e6⟩
  case e1 => k_asm
  case e2 => k_asm
  case e4 => with_reducible assumption
  case e6 => with_reducible assumption
  case e3 => exact fun _ h => h
  case e5 => exact And.right (And.right (And.right (And.right (And.right (by with_reducible assumption)))))
  case e7 => exact And.right (And.right (And.right (And.right (by with_reducible assumption))))
theorem tellT_c {w : World} {p : Program} {loose : List Str} {mean : ExcName → Option Value} {mg mb : Str → Option Value} :
  ∀ (c : FK) (sa dx : Addr) (rest : Led) (na : Addr) (k : Nat) (x : Str) (tx : Tok) (rs : List Value) (n : Nat) (R : List (List Str)) (row : List Str) (oF oA oB : Obj), (na, tupO [.str x tx]) ∈ rest → (sa, instObj 147 dx) ∈ rest → (dx, finD w c) ∈ rest → D4 c → Off4 c rest → RowsIn rest rs (R ++ [row]) → R.length ≤ 900 → row.length ≤ 90000 →
  Tri w p loose mean mg mb 10 150 (.ref 71) [.ref sa, .ref na] (cells c rs n oF oA oB rest) (fun r l => r = .none ∧ ∃ rs' n' d1 o1 d2 o2, (∀ p ∈ cells c rs' n' oF oA oB ((d1, o1) :: (d2, o2) :: rest), p ∈ l) ∧ Off4 c ((d1, o1) :: (d2, o2) :: rest) ∧ AllLt d1 rest ∧ AllLt d2 rest ∧ RowsIn ((d1, o1) :: (d2, o2) :: rest) rs' (R ++ [row ++ [x]])) := by
  unfold Tri
  k_fill
  rintro c sa dx rest na k x tx rs n R row oF oA oB hna hinst hdict d4 ho hrows hbD hbR dp un gd cn cs a ccd cl outer A₀ base h₀ L m s Q E B F X N T0 hk hd hu ret
  ((refine wpAny_call ?_; refine' code_def ?k1 ?k2 ?k3 ?k4 ?k5 ?kA ?kF ?kK ?k6 ?k7 ?k8 ?k9 ?kB ?_ ?c2 ?c3 ?c4 ?c5; (case kA => exact rfl); (case kF => exact rfl); (case kK => first | exact rfl | assumption); (case k1 => k_asm); (case k2 => k_asm); (case k3 => k_asm); (case k4 => k_asm); (case k5 => k_asm); (case k6 => k_is); (case k7 => k_is); (case k8 => ktr_room); (case k9 => exact bz rfl); (case c5 => decide); (case kB => exact locs rfl); (case c2 => exact rfl); (case c3 => exact rfl); (case c4 => exact rfl); k_whole; intro g' L' h' FG' F' N' B' X' T'; (dsimp only [List.map, List.zip, List.zipWith, List.reverse, List.reverseAux] at F'); (try dsimp only); (try k_fold)))
  k_steps
  refine' ret _ _ _ _ ?e1 ?e2 ⟨rfl, _, n, _, _, _, _, ?e3, ?e4, ?e5, ?e7, ?e6⟩
  case e1 => k_asm
  case e2 => k_asm
  case e4 => with_reducible assumption
  case e6 => with_reducible assumption
  case e3 => exact fun _ h => h
  case e5 => exact And.right (And.right (And.right (And.right (And.right (by with_reducible assumption)))))
  case e7 => exact And.right (And.right (And.right (And.right (by with_reducible assumption))))
theorem RowsIn.gl {l l' : Led} {rs : List Value} {rows : List (List Str)} (h : RowsIn l rs rows) (k : ∀ a xs n, (a, listOf xs n) ∈ l → (a, listOf xs n) ∈ l') : RowsIn l' rs rows := by
  induction h with
  | nil => exact .nil
  | cons hm hs _ ih => exact .cons (k _ _ _ hm) hs ih
theorem dk_nl {w : World} {o : Obj} {ks : List Str} (h : DK PR w o ks) {xs : Array Value} {n : Nat} (e : o = listOf xs n) : False := by
  obtain ⟨es, ep, _, hd, _⟩ := h
  rw [e] at hd; cases hd
theorem not3 {w : World} {fk : FK} {sa dx : Addr} {oD : Obj} (hD : DX w fk oD) {a : Addr} {xs : Array Value} {n : Nat} (h : (a, listOf xs n) ∈ tail3 w fk sa dx oD) : False := by
  simp only [tail3, List.mem_cons, Prod.mk.injEq] at h
  rcases h with ⟨_, h⟩ | ⟨_, h⟩ | ⟨_, h⟩ | h
  · exact dk_nl hD.d h.symm
  · cases h
  · exact absurd (Value.type.inj (congrArg Obj.cls h)) (by decide)
  · exact hD.x _ h _ _ rfl
section
variable {w : World} {fk : FK} {sa dx : Addr} {c : Cx} {M : MV} {K : KV FS} {s : FS} {x : Str}
theorem tell_end {imm : Led} {h h' : Heap} {m : MM} {rs rs' : List Value} {n n' : Nat} {oF oA oB oD o1 o2 : Obj} {Fl Al Bl : List Str} {d1 d2 : Addr} {l : Led} (C : Cf (IF w fk sa dx) c s M imm h m (cells fk rs n oF oA oB (tail3 w fk sa dx oD))) (hw : c.g.w = w)
    (d4 : D4 fk) (ho : Off4 fk (tail3 w fk sa dx oD)) (hF : DK PR w oF Fl) (hA : DK PR w oA Al) (hB : DK PR w oB Bl) (hD : DX w fk oD) (kF : Keys s.log wF Fl) (kA : Keys s.log wA Al) (kB : BOk Bl)
    (F' : Fr c.h₀ c.L h' m) (N' : News c.h₀ c.L h' l) (hsub : ∀ p ∈ cells fk rs' n' oF oA oB ((d1, o1) :: (d2, o2) :: (tail3 w fk sa dx oD ++ imm)), p ∈ l) (hof : Off4 fk ((d1, o1) :: (d2, o2) :: (tail3 w fk sa dx oD ++ imm))) (l1 : AllLt d1 (tail3 w fk sa dx oD ++ imm)) (l2 : AllLt d2 (tail3 w fk sa dx oD ++ imm))
    (hR' : RowsIn ((d1, o1) :: (d2, o2) :: (tail3 w fk sa dx oD ++ imm)) rs' (s.R.reverse ++ [s.row ++ [x]])) : Cf (IF w fk sa dx) c (s.tell [x]) M ((d1, o1) :: (d2, o2) :: imm) h' m (cells fk rs' n' oF oA oB (tail3 w fk sa dx oD)) := by
  subst hw
  have L1 := ktn_ltOf l1
  have L2 := ktn_ltOf l2
  have hN : ∀ p ∈ cells fk rs' n' oF oA oB (tail3 c.g.w fk sa dx oD) ++ ((d1, o1) :: (d2, o2) :: imm), p ∈ l := fun p hp => hsub p (sub_cons2 (sub_cons2 (sub_cons2 (sub_cons2 fun p hp => sub_cons2 (fun p => mem_mv' (tail3 c.g.w fk sa dx oD)) p (mem_mv' (tail3 c.g.w fk sa dx oD) hp)))) p hp)
  refine ⟨F', News.subl N' hN, .mk d4 ho ?_ hF hA hB hD kF kA kB, ?_, fun y Y e => let ⟨v, e1, e2⟩ := C.r y Y e; ⟨v, e1, e2.mono (sub_cons (sub_cons sub_rfl))⟩⟩
  · have e : (s.tell [x]).rows = s.R.reverse ++ [s.row ++ [x]] := rfl
    rw [e]
    refine hR'.gl fun a xs n hm => ?_
    rcases List.mem_cons.mp hm with e | hm
    · rw [e]; exact .head _
    rcases List.mem_cons.mp hm with e | hm
    · rw [e]; exact .tail _ (.head _)
    rcases List.mem_append.mp hm with hm | hm
    · exact (not3 hD hm).elim
    · exact .tail _ (.tail _ hm)
  · intro p hp q hq
    have hp' : p.1 ∈ (cells fk rs n oF oA oB (tail3 c.g.w fk sa dx oD)).map (·.1) := by
      have : p.1 ∈ (cells fk rs' n' oF oA oB (tail3 c.g.w fk sa dx oD)).map (·.1) := List.mem_map.mpr ⟨p, hp, rfl⟩
      exact this
    have far : ∀ d, (∃ o, (d, o) ∈ (d1, o1) :: (d2, o2) :: (tail3 c.g.w fk sa dx oD ++ imm)) → (∀ p ∈ tail3 c.g.w fk sa dx oD ++ imm, p.1 < d) → p.1 ≠ d := by
      rintro d ⟨o, hm⟩ hl
      have h4 := hof _ hm
      simp only [cells, tail3, List.mem_cons] at hp
      rcases hp with e | e | e | e | e | e | e | e
      · rw [e]; exact Ne.symm h4.1
      · rw [e]; exact Ne.symm h4.2.1
      · rw [e]; exact Ne.symm h4.2.2.1
      · rw [e]; exact Ne.symm h4.2.2.2
      · exact Nat.ne_of_lt (hl p (by rw [e]; simp))
      · exact Nat.ne_of_lt (hl p (by rw [e]; simp))
      · exact Nat.ne_of_lt (hl p (by rw [e]; simp))
      · exact Nat.ne_of_lt (hl p (List.mem_append.mpr (.inl (.tail _ (.tail _ (.tail _ e))))))
    rcases List.mem_cons.mp hq with e | hq
    · rw [e]; exact far d1 ⟨o1, .head _⟩ L1
    rcases List.mem_cons.mp hq with e | hq
    · rw [e]; exact far d2 ⟨o2, .tail _ (.head _)⟩ L2
    obtain ⟨p', hp1, hp2⟩ := List.mem_map.mp hp'
    rw [← hp2]; exact C.d p' hp1 q hq
theorem tellL_u (ok : c.Ok) (hw : c.g.w = w) (hr : Room c 40) (h1 : s.R.length ≤ 900) (h2 : s.row.length ≤ 90000) (k : K .none (s.tell [x])) : CW (IF w fk sa dx) c M (.ref 71) [.raw (.ref sa), .list [.str x]] s K := by
  subst hw
  refine ⟨fun h imm m g gs dr tk os Q E vs hvs C kk => ?_⟩
  cases hvs with
  | cons a1 hvs => cases hvs with
    | cons a2 hvs =>
      cases hvs
      cases a1.raw_inv
      obtain ⟨na, xs, n1, rfl, hm, hq⟩ := a2.list_inv
      cases hq with
      | cons a3 hq =>
        cases hq
        obtain ⟨t, rfl⟩ := a3.str_inv
        have hi := C.i
        cases hi with
        | @mk _ _ rs n oF oA oB oD Fl Al Bl d4 ho hR hF hA hB hD kF kA kB =>
          have hoI := Off4.imm C ho
          refine tellL_c fk sa dx (tail3 c.g.w fk sa dx oD ++ imm) na n1 x t rs n s.R.reverse s.row oF oA oB (List.mem_append.mpr (.inr hm)) (by simp) (by simp) d4 hoI (hR.mono2 fun p hp => List.mem_append.mpr (.inr hp)) (by simpa using h1) h2 c.dp c.un c.gd c.cn c.cs c.a c.ccd c.cl c.outer c.A₀ c.base c.h₀ c.L m ⟨h, gs, dr, tk, os⟩ Q E ok.B C.F ok.X C.N ok.T ok.hk (by have := hr.d; omega) (by have := hr.u; omega) ?_
          rintro r l h' tk' F' N' ⟨rfl, rs', n', d1, o1, d2, o2, hsub, hof, l1, l2, hR'⟩
          exact kk .none .none (s.tell [x]) ((d1, o1) :: (d2, o2) :: imm) m (cells fk rs' n' oF oA oB (tail3 c.g.w fk sa dx oD)) h' tk' k .none (sub_cons (sub_cons sub_rfl)) (tell_end C rfl d4 ho hF hA hB hD kF kA kB F' N' hsub hof l1 l2 hR')
theorem tellT_u (ok : c.Ok) (hw : c.g.w = w) (hr : Room c 40) (h1 : s.R.length ≤ 900) (h2 : s.row.length ≤ 90000) (k : K .none (s.tell [x])) : CW (IF w fk sa dx) c M (.ref 71) [.raw (.ref sa), .tup [.str x]] s K := by
  subst hw
  refine ⟨fun h imm m g gs dr tk os Q E vs hvs C kk => ?_⟩
  cases hvs with
  | cons a1 hvs => cases hvs with
    | cons a2 hvs =>
      cases hvs
      cases a1.raw_inv
      obtain ⟨na, xs, rfl, hm, hq⟩ := a2.tup_inv
      cases hq with
      | cons a3 hq =>
        cases hq
        obtain ⟨t, rfl⟩ := a3.str_inv
        have hi := C.i
        cases hi with
        | @mk _ _ rs n oF oA oB oD Fl Al Bl d4 ho hR hF hA hB hD kF kA kB =>
          have hoI := Off4.imm C ho
          refine tellT_c fk sa dx (tail3 c.g.w fk sa dx oD ++ imm) na 0 x t rs n s.R.reverse s.row oF oA oB (List.mem_append.mpr (.inr hm)) (by simp) (by simp) d4 hoI (hR.mono2 fun p hp => List.mem_append.mpr (.inr hp)) (by simpa using h1) h2 c.dp c.un c.gd c.cn c.cs c.a c.ccd c.cl c.outer c.A₀ c.base c.h₀ c.L m ⟨h, gs, dr, tk, os⟩ Q E ok.B C.F ok.X C.N ok.T ok.hk (by have := hr.d; omega) (by have := hr.u; omega) ?_
          rintro r l h' tk' F' N' ⟨rfl, rs', n', d1, o1, d2, o2, hsub, hof, l1, l2, hR'⟩
          exact kk .none .none (s.tell [x]) ((d1, o1) :: (d2, o2) :: imm) m (cells fk rs' n' oF oA oB (tail3 c.g.w fk sa dx oD)) h' tk' k .none (sub_cons (sub_cons sub_rfl)) (tell_end C rfl d4 ho hF hA hB hD kF kA kB F' N' hsub hof l1 l2 hR')
end
theorem reps_strs {imm : Led} : ∀ {row : List Str} {vs : List Value}, Reps imm vs (row.map strV) → StrsAre vs row
  | [], _, h => by cases h; exact .nil
  | x :: row, _, h => by
    cases h with
    | cons h h2 =>
      obtain ⟨t, rfl⟩ := h.str_inv
      exact .cons _ _ (reps_strs h2)
section
variable {w : World} {fk : FK} {sa dx : Addr} {c : Cx} {M : MV} {K : KV FS} {s : FS}
theorem gp {mt : Str} {id : String} (ok : c.Ok) (hw : c.g.w = w) (slot : Slot "list" mt id) (hty : typeOf (.builtin id) = pure (.type "method_descriptor")) : GetP (IF w fk sa dx) c (.ref sa) (Str.ofString "own") mt id fk.oa := by
  subst hw
  intro s M h imm m g gs dr tk os pl Q E C k
  have hi := C.i
  cases hi with
  | @mk _ _ rs n oF oA oB oD Fl Al Bl d4 ho hR hF hA hB hD kF kA kB =>
    have I : InstAt h sa (instObj 147 dx) 147 (some (finD c.g.w fk)) := InstAt.of_news C.N (by simp) (by simp)
    exact get_own (v := .ref fk.oa) (attr := none) C.F ok.X I (by rfl) (by rfl) (by rfl) (by rfl) (by rfl) (by rfl) (listMethod_K (s := ⟨h, gs, dr, tk + 1, os⟩) C.N (List.mem_append.mpr (.inl (.head _))) slot hty (k _))
theorem gm_own (ok : c.Ok) (hw : c.g.w = w) : GetM (IF w fk sa dx) c (.ref sa) (Str.ofString "has_keys") (.ref 158) [] := by
  subst hw
  intro s M h imm m g gs dr tk os pl Q E C k
  have hi := C.i
  cases hi with
  | @mk _ _ rs n oF oA oB oD Fl Al Bl d4 ho hR hF hA hB hD kF kA kB =>
    have I : InstAt h sa (instObj 147 dx) 147 (some (finD c.g.w fk)) := InstAt.of_news C.N (by simp) (by simp)
    have hg : plainGet (hd.heap_39 c.g.w.params) 147 (Str.ofString "has_keys") = true := by rfl
    exact method_usual (r := none) (ok.X.keeps C.F.keep) I (plainGet_of hg).1 (plainGet_of hg).2 (by rfl) rfl (get_own (v := .ref 158) (attr := none) C.F ok.X I hg (by rfl) (by rfl) (by rfl) (by rfl) (by rfl) (k _))
theorem imm_d {imm : Led} {h : Heap} {m : MM} {rs rs' : List Value} {n n' : Nat} {oF oA oB oD oF' oA' oB' : Obj} (C : Cf (IF w fk sa dx) c s M imm h m (cells fk rs n oF oA oB (tail3 w fk sa dx oD))) : ∀ p ∈ cells fk rs' n' oF' oA' oB' (tail3 w fk sa dx oD), ∀ q ∈ imm, p.1 ≠ q.1 := fun p hp => by
  have hp' : p.1 ∈ (cells fk rs n oF oA oB (tail3 w fk sa dx oD)).map (·.1) := by
    have : p.1 ∈ (cells fk rs' n' oF' oA' oB' (tail3 w fk sa dx oD)).map (·.1) := List.mem_map.mpr ⟨p, hp, rfl⟩
    exact this
  obtain ⟨p', hp1, hp2⟩ := List.mem_map.mp hp'
  rw [← hp2]; exact C.d p' hp1
theorem push_u {row : List Str} (hw : c.g.w = w) (h1 : s.R.length ≤ 900) (k : K .none (s.push row)) : CW (IF w fk sa dx) c M (.builtin "list.append") [.raw (.ref fk.oa), .list (row.map strV)] s K := by
  subst hw
  refine ⟨fun h imm m g gs dr tk os Q E vs hvs C kk => ?_⟩
  cases hvs with
  | cons a1 hvs => cases hvs with
    | cons a2 hvs =>
      cases hvs
      cases a1.raw_inv
      obtain ⟨na, xs, n1, rfl, hm, hq⟩ := a2.list_inv
      have hi := C.i
      cases hi with
      | @mk _ _ rs n oF oA oB oD Fl Al Bl d4 ho hR hF hA hB hD kF kA kB =>
        have hoI := Off4.imm C ho
        have hl := hR.len
        rw [rows_len] at hl
        refine own_push (s := ⟨h, gs, dr, tk, os⟩) C.F C.N d4 (.here hoI) (by omega) fun h' F' N' _ => ?_
        have e : (s.push row).rows = s.rows ++ [row] := by simp [FS.rows, FS.push]
        exact kk .none .none (s.push row) imm m (cells fk (rs ++ [Value.ref na]) (n + 1) oF oA oB (tail3 c.g.w fk sa dx oD)) h' tk k .none sub_rfl ⟨F', N', .mk d4 ho (e ▸ hR.snoc hm (reps_strs hq)) hF hA hB hD kF kA kB, imm_d C, C.r⟩
theorem pop_u {r : List Str} {R : List (List Str)} (hw : c.g.w = w) (h1 : R.length ≤ 900) (hs : s.R = r :: R) (k : ∀ X, K X s.pop) : CW (IF w fk sa dx) c M (.builtin "list.pop") [.raw (.ref fk.oa)] s K := by
  subst hw
  refine ⟨fun h imm m g gs dr tk os Q E vs hvs C kk => ?_⟩
  cases hvs with
  | cons a1 hvs =>
    cases hvs
    cases a1.raw_inv
    have hi := C.i
    cases hi with
    | @mk _ _ rs n oF oA oB oD Fl Al Bl d4 ho hR hF hA hB hD kF kA kB =>
      have hoI := Off4.imm C ho
      have e : s.pop.rows ++ [s.row] = s.rows := by simp [FS.rows, FS.pop, hs]
      have el : s.pop.rows.length ≤ 901 := by simp only [FS.rows, FS.pop, hs, List.length_append, List.length_reverse, List.length_cons, List.length_nil]; omega
      have e2 : s.pop.log = s.log := by simp [FS.pop, hs]
      rw [← e] at hR
      refine own_pop (s := ⟨h, gs, dr, tk, os⟩) C.F C.N d4 (.here hoI) (hR.mono2 fun p hp => List.mem_append.mpr (.inr hp)) (by omega) fun rs1 v h' F' N' _ hR1 => ?_
      refine kk v (.raw v) s.pop imm m (cells fk rs1 (n + 1) oF oA oB (tail3 c.g.w fk sa dx oD)) h' tk (k _) .raw sub_rfl ⟨F', N', .mk d4 ho ?_ hF hA hB hD (e2 ▸ kF) (e2 ▸ kA) kB, imm_d C, C.r⟩
      refine hR1.gl fun a xs n hm => ?_
      rcases List.mem_append.mp hm with hm | hm
      · exact (not3 hD hm).elim
      · exact hm
end
theorem in29 {prog : Program} {w : World} {A : Around} {E : Value → Shared → Prop} {s : Shared} {g : Heap} {L : Addr} {m : Str → Option Value} {x : Value} {Q : Value → Shared → Prop} (F : Fr g L s.heap m) (X : (hd.heap_39 w.params).In g) (h : Q (.bool false) s) : wpAny (model prog w) A (compareOp .In x (.ref 29)) Q E s :=
  PySem.SeqAt.in_tupleAt (items := #[]) (fun _ => false) ⟨_, F.keep 29 _ (X 29 _ rfl), rfl, _, rfl⟩ (fun y hy => absurd hy (by simp)) (by simpa using h)
theorem pkg_c {w : World} {p : Program} {loose : List Str} {mean : ExcName → Option Value} {mg mb : Str → Option Value} :
  ∀ (sa dx : Addr) (c : FK) (news : Led) (a x : Addr) (tx t1 : Tok) (i : Int) (y : Str) (t2 : Tok), (sa, instObj 147 dx) ∈ news → (dx, finD w c) ∈ news → (x, tupO [.str (cN "name") tx, .int i t1, .str y t2]) ∈ news →
  Tri w p loose mean mg mb 8 60 (.ref 49) [.ref sa, .ref x] news (fun r l => l = news ∧ r = .bool false) := by
  unfold Tri
  k_fill
  rintro sa dx c news a0 x tx t1 i y t2 hs hdx hm dp un gd cn cs a ccd cl outer A₀ base h₀ L m s Q E B F X N T0 hk hd hu ret
  ((refine wpAny_call ?_; refine' code_def ?k1 ?k2 ?k3 ?k4 ?k5 ?kA ?kF ?kK ?k6 ?k7 ?k8 ?k9 ?kB ?_ ?c2 ?c3 ?c4 ?c5; (case kA => exact rfl); (case kF => exact rfl); (case kK => first | exact rfl | assumption); (case k1 => k_asm); (case k2 => k_asm); (case k3 => k_asm); (case k4 => k_asm); (case k5 => k_asm); (case k6 => k_is); (case k7 => k_is); (case k8 => ktr_room); (case k9 => exact bz rfl); (case c5 => decide); (case kB => exact locs rfl); (case c2 => exact rfl); (case c3 => exact rfl); (case c4 => exact rfl); k_whole; intro g' L' h' FG' F' N' B' X' T'; (dsimp only [List.map, List.zip, List.zipWith, List.reverse, List.reverseAux] at F'); (try dsimp only); (try k_fold)))
  k_steps
  refine in29 (by k_asm) (by k_in) ?_
  k_steps
  exact ret _ _ _ _ (by k_asm) (by k_asm) ⟨rfl, rfl⟩
section
variable {w : World} {fk : FK} {sa dx : Addr} {c : Cx} {M : MV} {K : KV FS} {s : FS} {x : Str}
theorem pkg_u (ok : c.Ok) (hw : c.g.w = w) (hr : Room c 40) (k : K (.bool false) s) : CW (IF w fk sa dx) c M (.ref 49) [.raw (.ref sa), nmV x] s K := by
  subst hw
  refine ⟨fun h imm m g gs dr tk os Q E vs hvs C kk => ?_⟩
  cases hvs with
  | cons a1 hvs => cases hvs with
    | cons a2 hvs =>
      cases hvs
      cases a1.raw_inv
      obtain ⟨xa, xs, rfl, hm, hq⟩ := a2.tup_inv
      cases hq with
      | cons b1 hq => cases hq with
        | cons b2 hq => cases hq with
          | cons b3 hq =>
            cases hq
            obtain ⟨t1, rfl⟩ := b1.str_inv
            obtain ⟨t2, rfl⟩ := b2.int_inv
            obtain ⟨t3, rfl⟩ := b3.str_inv
            have hi := C.i
            cases hi with
            | @mk _ _ rs n oF oA oB oD Fl Al Bl d4 ho hR hF hA hB hD kF kA kB =>
              refine pkg_c sa dx fk (cells fk rs n oF oA oB (tail3 c.g.w fk sa dx oD) ++ imm) xa xa t1 t2 1 x t3 (by simp) (by simp) (List.mem_append.mpr (.inr hm)) c.dp c.un c.gd c.cn c.cs c.a c.ccd c.cl c.outer c.A₀ c.base c.h₀ c.L m ⟨h, gs, dr, tk, os⟩ Q E ok.B C.F ok.X C.N ok.T ok.hk (by have := hr.d; omega) (by have := hr.u; omega) ?_
              rintro r l h' tk' F' N' ⟨rfl, rfl⟩
              exact kk _ _ s imm m _ h' tk' k .bool sub_rfl ⟨F', N', C.i, C.d, C.r⟩
end
inductive Isi : V → String → Bool → Prop
  | st {x : Str} : Isi (.str x) "tuple" false
  | ss {x : Str} : Isi (.str x) "str" true
  | tt {xs : List V} : Isi (.tup xs) "tuple" true
  | ts {xs : List V} : Isi (.tup xs) "str" false
  | bt {b : Bool} : Isi (.bool b) "tuple" false
  | ii {i : Int} : Isi (.int i) "int" true
theorem isi_u {σ : Type} {I : II σ} {c : Cx} {M : MV} {K : KV σ} {s : σ} {X : V} {T : String} {b : Bool} (h : Isi X T b) (k : K (.bool b) s) : CW I c M (.builtin "isinstance") [X, .raw (.type T)] s K := by
  refine ⟨fun hp imm m g0 gs dr tk os Q E vs hvs C kk => ?_⟩
  cases hvs with
  | cons a1 hvs => cases hvs with
    | cons a2 hvs =>
      cases hvs
      cases a2.raw_inv
      have kk' := fun tk' => kk _ _ s imm m g0 hp tk' k .bool sub_rfl C
      cases h with
      | st => obtain ⟨t, rfl⟩ := a1.str_inv; exact IsiPair.str_tuple (kk' _)
      | ss => obtain ⟨t, rfl⟩ := a1.str_inv; exact IsiPair.str_str (kk' _)
      | tt => obtain ⟨a, xs, rfl, hm, hq⟩ := a1.tup_inv; exact IsiPair.tuple_tuple (C.N _ (C.tup hm)).1 rfl (kk' _)
      | ts => obtain ⟨a, xs, rfl, hm, hq⟩ := a1.tup_inv; exact IsiPair.tuple_str (C.N _ (C.tup hm)).1 rfl (kk' _)
      | bt => cases a1.bool_inv; exact IsiPair.bool_tuple (kk' _)
      | ii => obtain ⟨t, rfl⟩ := a1.int_inv; exact IsiPair.int_int (kk' _)
section
variable {w : World} {fk : FK} {sa dx : Addr} {c : Cx} {M : MV} {K : KS FS} {s : FS}
theorem behind_u {sc : Scope} {gl : List (Str × Value)} {x : Str} {xp ap sp cp p : Pos} {i : Expr} {kk0 : Nat} (ok : c.Ok) (hw : c.g.w = w) (hcs : c.cs = sc) (hgl : GlOk c gl) (hdb : sc.names.lookup (Str.ofString "__debug__") = none)
    (hO : vE (IF w fk sa dx) sc gl c M 40 false (.Name x xp) s fun X s1 => X = .raw (.ref sa) ∧ s1 = s) (hI : vE (IF w fk sa dx) sc gl c M 40 false i s fun X s1 => X = .str (cN "f") ∧ s1 = s) (k : K .next M s) :
    SW (IF w fk sa dx) c M (.Assign [.Subscript (.Attribute (.Name x xp) (Str.ofString "behind") ap) i sp] (.Constant (.bool true) kk0 cp) p) s K := by
  subst hw
  refine ⟨fun h imm m g gs dr tk os Q E hE C kk => ?_⟩
  refine wpAny_Assign_Subscript (wpAny_Constant_bool ?_) (by rfl)
  refine Attribute_Name_ ((vE_ok ok hcs hgl hdb 40).1 _ s _ hO h imm m g gs dr _ os _ E C fun v X s1 imm1 m1 g1 h1 tk1 e1 hr1 hs1 C1 => ?_) (by rfl)
  obtain ⟨rfl, rfl⟩ := e1
  cases hr1.raw_inv
  have hi := C1.i
  cases hi with
  | @mk _ _ rs n oF oA oB oD Fl Al Bl d4 ho hR hF hA hB hD kF kA kB =>
    have I : InstAt h1 sa (instObj 147 dx) 147 (some (finD c.g.w fk)) := InstAt.of_news C1.N (by simp) (by simp)
    refine get_own (v := .ref fk.ba) (attr := none) C1.F ok.X I (by rfl) (by rfl) (by rfl) (by rfl) (by rfl) (by rfl) ?_
    refine (vE_ok ok hcs hgl hdb 40).1 _ s1 _ hI h1 imm1 m1 (cells fk rs n oF oA oB (tail3 c.g.w fk sa dx oD)) gs dr _ os _ E C1 fun v X s2 imm2 m2 g2 h2 tk2 e2 hr2 hs2 C2 => ?_
    obtain ⟨rfl, rfl⟩ := e2
    obtain ⟨t, rfl⟩ := hr2.str_inv
    have hi2 := C2.i
    cases hi2 with
    | @mk _ _ rs n oF oA oB oD Fl Al Bl d4 ho hR hF hA hB hD kF kA kB =>
      have hoI := Off4.imm C2 ho
      refine behind_set (s := ⟨h2, gs, dr, tk2, os⟩) C2.F C2.N d4 (.here hoI) hB kB fun h' oB' B' F' N' _ hd' hb' => ?_
      exact kk .next .next M s2 imm2 m2 (cells fk rs n oF oA oB' (tail3 c.g.w fk sa dx oD)) h' _ k .next (hs1.trans hs2) ⟨F', N', .mk d4 ho hR hF hA hd' hD kF kA hb', imm_d C2, C2.r⟩
end
noncomputable def OneEnd (h₀ : Heap) (L : Addr) (m : Str → Option Value) (s₁ : Shared) (I : Addr) (oI : Obj) (C : Addr) (oC : Obj) (D : Addr) (news : Led) (y : Value) (y' : Value) (s₂ : Shared) : Prop :=
  y' = y ∧ ∃ h' tk', s₂ = { s₁ with heap := h', toks := tk' } ∧ Fr h₀ L h' m ∧ News h₀ L h' ((I, oI) :: (C, oC) :: (D, LCg.lst []) :: news)
noncomputable def SrcOne (prog : Program) (w : World) (A : Around) (h₀ : Heap) (L : Addr) (env : Env) (ct elt : Expr) (x : Str) (scope : Scope) (cl : List (Str × Addr)) (Q : Value → Shared → Prop) (xv : Value) (s₁ : Shared) : Prop :=
  ∃ m ax n k i y news, xv = .ref ax ∧ A.handled = none ∧ Fr h₀ L s₁.heap m ∧ News h₀ L s₁.heap news ∧ (ax, tupO [.ref n]) ∈ news ∧ (n, tupO [k, i, y]) ∈ news ∧
    (∀ I oI C oC D m₂ h tk (E' : Value → Shared → Prop), LCg.NsObj oC m₂ → m₂ x = some (.ref n) → Fr h₀ L h m → News h₀ L h ((I, oI) :: (C, oC) :: (D, LCg.lst []) :: news) →
      wpAny (model prog w) A (isTrue ct (compEnvC scope cl C env) (eval ct (compEnvC scope cl C env))) (fun ok s' => if ok = true then wpAny (model prog w) A (eval elt (compEnvC scope cl C env)) (OneEnd h₀ L m s₁ I oI C oC D news y) E' s' else False) E' { s₁ with heap := h, toks := tk }) ∧
    ∀ D h tk, Fr h₀ L h m → News h₀ L h ((D, listOf [y].toArray 1) :: news) → (∀ p ∈ news, p.1 ≠ D) → Q (.ref D) { s₁ with heap := h, toks := tk }
theorem tup_st {ax I : Addr} {its : Array Value} {L : Addr} {h₀ : Heap} {vs : List Value} (e : its = vs.toArray) : ∀ i (h h' : Heap) (o : Obj) (nw : Led), (h.IsTupleIter I ax i ∧ h.IsTuple ax its) → h.get? I = some o → h'.get? I = some o → (∀ b o, h₀.get? b = some o → h'.get? b = some o) → News h₀ L h' nw → ((ax, tupO vs) ∈ nw) → (h'.IsTupleIter I ax i ∧ h'.IsTuple ax its) := by
  subst e
  rintro i h h' o nw ⟨⟨o1, h1, h2, h3⟩, _⟩ hI hI' _ N hm
  refine ⟨⟨o1, ?_, h2, h3⟩, ⟨_, (N _ hm).1, rfl, _, rfl⟩⟩
  rw [hI']; rw [hI] at h1; exact h1
theorem off1_all {D : Addr} : ∀ {l : Led}, LCg.Off1 D l → ∀ p ∈ l, p.1 ≠ D
  | [], _, _, h => nomatch h
  | _ :: _, x, p, h => by
    rcases List.mem_cons.mp h with rfl | h
    · exact x.1
    · exact off1_all x.2 p h
theorem comp_one {prog : Program} {w : World} {A : Around} {E : Value → Shared → Prop} {s : Shared} {h₀ : Heap} {L : Addr} {env : Env} {ct elt iter : Expr} {x : Str} {px : Pos} {scope : Scope} {cl : List (Str × Addr)} {pos : Pos} {Q : Value → Shared → Prop}
    (hclos : closureFor scope env = pure cl) (hcell : ∀ y ∈ scope.names, y.2 ≠ .cell) (hkind : scope.kind = .function)
    (hnames : ∀ y ∈ scope.names, y.2 = .local → scope.names.lookup y.1 = some .local) (hx : scope.names.lookup x = some .local)
    (h : wpAny (model prog w) A (eval iter env) (SrcOne prog w A h₀ L env ct elt x scope cl Q) E s)
    (hs : ∀ x, foldedSetIterable iter env x = pure x := by intro _; rfl) :
    wpAny (model prog w) A (eval (.ListComp elt [⟨.Name x px, iter, [ct], 0⟩] scope pos) env) Q E s := by
  rw [eval_ListComp]
  refine wpAny_comprehension_free (use := none) rfl hs hclos hkind hnames (wpAny_mono h (fun xv s₁ h₁ => ?_) fun _ _ e => e)
  obtain ⟨m, ax, n, k, i, y, news, rfl, hh, F, N, hm, hm2, turn, fin⟩ := h₁
  have hl : s₁.heap.IsTuple ax [Value.ref n].toArray := ⟨_, (N _ hm).1, rfl, _, rfl⟩
  have hlt : ax < s₁.heap.objs.size := Heap.lt_size (N _ hm).1
  refine wpAny_pyIter_tuple hl ?_
  have up : ∀ b o, s₁.heap.get? b = some o → (s₁.heap.push { cls := .type "tuple_iterator", data := .fields #[.ref ax, .int 0 0] }).get? b = some o := fun b o e => Heap.get?_push_of_some _ e
  refine LCt.block_T (S := fun nw => (ax, tupO [Value.ref n]) ∈ nw) (Fin := fun ys nw => ys = [y] ∧ nw = news) (Walks.tuple hh s₁.heap.objs.size ax (Nat.ne_of_lt hlt) [Value.ref n].toArray) (by rw [sizeLine_eq]; simp) (fun i h st => by obtain ⟨o, e, _⟩ := st.1; exact ⟨o, e⟩) (tup_st rfl) hcell hkind hx ⟨⟨_, Heap.get?_push_size _ rfl, rfl, rfl⟩, hl.push _⟩ (fun b hb => ?_)
    (F.keeps up) (N.grown up) (Nat.ne_of_lt F.ns.lt) (next_is_new F) (fun p hp => Nat.ne_of_lt (Heap.lt_size (N p hp).1)) hm ?_ ?_
  · rw [Heap.size_push]
    rcases List.mem_cons.mp hb with rfl | hb
    · exact Nat.lt_succ_self _
    · rw [List.mem_singleton.mp hb]; exact Nat.lt_succ_of_lt hlt
  · refine LCt.CompRestT.succ fun v I oI C oC D m₂ h tk E' hv hC hx' F' N' off ne => ?_
    have ev : v = Value.ref n := by simpa using hv.symm
    subst ev
    refine wpAny_mono (turn I oI C oC D m₂ h tk E' hC hx' F' N') (fun ok s' h' => ?_) fun _ _ e => e
    cases ok with
    | false => exact h'.elim
    | true =>
      refine wpAny_mono h' (fun y' s₂ hy => ?_) fun _ _ e => e
      obtain ⟨rfl, h'', tk', rfl, F'', N''⟩ := hy
      exact ⟨h'', tk', news, rfl, F'', N'', off, hm, LCt.CompRestT.zero ⟨rfl, rfl⟩⟩
  · rintro D C h tk m' ys news' F' N' o1 hn hC₀ hD₀ hCL hDL hCD offC ⟨rfl, rfl⟩
    refine ⟨m', hn, fun h'' hs'' => fin D h'' tk (F'.change hs'' hCL hC₀) (fun p hp => ?_) ?_⟩
    · refine ⟨hs''.extBut _ _ ?_ (N' p hp).1, (N' p hp).2⟩
      rcases List.mem_cons.mp hp with rfl | hp
      · exact Ne.symm hCD
      · exact offC p hp
    · exact off1_all o1
noncomputable abbrev scOne : Scope := { kind := .function, names := [(Str.ofString ".0", .local), (Str.ofString "one", .local)], isGenerator := false, isCoroutine := false, more := [] }
theorem comp_u {σ : Type} {I : II σ} [IMono I] {c : Cx} {M : MV} {K : KV σ} {s : σ} {sc : Scope} {gl : List (Str × Value)} {y : Str} {p1 p2 p3 p4 p5 p6 p7 p8 px pos : Pos} {k2 k5 k7 : Nat} {iter : Expr} (ok : c.Ok) (hcs : c.cs = sc) (hgl : GlOk c gl) (hdb : sc.names.lookup (Str.ofString "__debug__") = none)
    (hI : vE I sc gl c M 40 false iter s fun X s1 => X = .tup [nmV y] ∧ s1 = s) (k : K (.list [.str y]) s) (hs : ∀ x, foldedSetIterable iter c.env x = pure x) :
    EW I c M (.ListComp (.Subscript (.Name (Str.ofString "one") p1) (.Constant (.int 2) k2 p2) p3) [⟨.Name (Str.ofString "one") px, iter, [.Compare (.Subscript (.Name (Str.ofString "one") p4) (.Constant (.int 0) k5 p5) p6) [.Eq] [.Constant (.str (Str.ofString "name")) k7 p7] p8], 0⟩] scOne pos) s K := by
  refine ⟨fun h imm m g gs dr tk os Q E C kk => ?_⟩
  refine comp_one (h₀ := c.h₀) (L := c.L) (cl := []) (by rfl) (by decide) (by rfl) (by decide) (by rfl) ?_ hs
  refine (vE_ok ok hcs hgl hdb 40).1 iter s _ hI h imm m g gs dr tk os _ E C fun v X s1 imm1 m1 g1 h1 tk1 e1 hr1 hs1 C1 => ?_
  obtain ⟨rfl, rfl⟩ := e1
  obtain ⟨ax, xs, rfl, hm, hq⟩ := hr1.tup_inv
  cases hq with
  | cons a1 hq =>
    cases hq
    obtain ⟨n, xs2, rfl, hm2, hq2⟩ := a1.tup_inv
    cases hq2 with
    | cons b1 hq2 => cases hq2 with
      | cons b2 hq2 => cases hq2 with
        | cons b3 hq2 =>
          cases hq2
          obtain ⟨t1, rfl⟩ := b1.str_inv
          obtain ⟨t2, rfl⟩ := b2.int_inv
          obtain ⟨t3, rfl⟩ := b3.str_inv
          refine ⟨m1, ax, n, _, _, _, g1 ++ imm1, rfl, rfl, C1.F, C1.N, C1.tup hm, C1.tup hm2, ?_, ?_⟩
          · intro I' oI C' oC D m₂ h tk E' hC hx F' N'
            have F := F'
            have N := N'
            have hmm := C1.tup hm2
            have T0 := ok.T
            have X := ok.X
            have B := ok.B
            k_steps
            exact ⟨rfl, _, _, rfl, by k_asm, by k_asm⟩
          · intro D h' tk' F' N' off
            refine kk (.ref D) (.list [.str y]) s1 ((D, listOf [Value.str y t3].toArray 1) :: imm1) m1 g1 h' tk' k (.of_list (.head _) (.cons .str .nil)) (hs1.trans (sub_cons sub_rfl)) ⟨F', News.subl N' fun p hp => ?_, IMono.mono C1.i (gr_of fun _ hp => .tail _ hp), fun p hp q hq => ?_, fun y Y e => let ⟨v, e1, e2⟩ := C1.r y Y e; ⟨v, e1, e2.mono (sub_cons sub_rfl)⟩⟩
            · rcases List.mem_append.mp hp with hp | hp
              · exact .tail _ (List.mem_append.mpr (.inl hp))
              · rcases List.mem_cons.mp hp with rfl | hp
                · exact .head _
                · exact .tail _ (List.mem_append.mpr (.inr hp))
            · rcases List.mem_cons.mp hq with rfl | hq
              · exact off p (List.mem_append.mpr (.inl hp))
              · exact C1.d p hp q hq
/-- what the finder does at a tree -/
noncomputable def run : T → FS → FS
  | .none_, s => s
  | .name x, s => s.note wF x
  | .plain x, s => s.note wF x
  | .pkg x, s => s.note wA x
  | .slice t, s => run t s
  | .select x, s => (s.note wA x).note wF x
  | .binary x o, s => run o (s.note wF x)
  | .call x o, s => run o (s.note wF x)
  | .lit ty x, s => (run ty s).note wF x
  | .func ty x b, s => (run b (((run ty s).push [x]).push [])).pop.pop
  | .expr e, s => run e s
  | .define x e, s => (run e s).tell [x]
  | .var x ty e, s => (run e (run ty s)).tell [x]
  | .typedecl x ty, s => run ty (s.tell [x])
  | .block b, s => (run b (s.push [])).pop
  | .ifs h t b o, s => (run o (run b (run t (run h (s.push []))))).pop
  | .step e, s => run e s
  | .fors h t b, s => (run b (run t (run t (run h (s.push []))))).pop
  | .range x d e b, s => (run b (if d then (run e (s.push [])).tell [x] else (run e (s.push [])).note wF x)).pop
  | .switch h v rows, s => (run rows (run v (run h (s.push [])))).pop
  | .tswitch x e ty b, s => (run b ((run ty (run e (s.push []))).push [x])).pop.pop
  | .choose x e other b1 b2, s => (run b2 (run other (run e ((run b1 ((run e ((s.push []).push [])).tell [x])).pop.push [])))).pop.pop
  | .nil, s => s
  | .cons t ts, s => run ts (run t s)
  | .rnil, s => s
  | .rcons e b rs, s => run rs (run b ((run e s).push [])).pop
/-- room in the finder's state: frames, notes, the row -/
structure Bd (s : FS) (d k : Nat) : Prop where
  R : s.R.length + d ≤ 900
  l : s.log.length + k ≤ 90000
  r : s.row.length + k ≤ 90000
theorem Bd.le {s : FS} {d d' k k' : Nat} (h : Bd s d k) (e : d' ≤ d) (e2 : k' ≤ k) : Bd s d' k' := ⟨Nat.le_trans (Nat.add_le_add_left e _) h.R, Nat.le_trans (Nat.add_le_add_left e2 _) h.l, Nat.le_trans (Nat.add_le_add_left e2 _) h.r⟩
theorem Bd.note {s : FS} {d k : Nat} {w x : Str} (h : Bd s d (1 + k)) : Bd (s.note w x) d k := ⟨h.R, by have := h.l; have := use_len w x s.told; simp only [FS.note, List.length_append]; omega, by have := h.r; show s.row.length + k ≤ _; omega⟩
theorem Bd.tell {s : FS} {d k : Nat} {x : Str} (h : Bd s d (1 + k)) : Bd (s.tell [x]) d k := ⟨h.R, by have := h.l; show s.log.length + k ≤ _; omega, by have := h.r; simp only [FS.tell, List.length_append, List.length_cons, List.length_nil]; omega⟩
theorem Bd.push0 {s : FS} {d k : Nat} (h : Bd s (1 + d) k) : Bd (s.push []) d k := ⟨by have := h.R; simp only [FS.push, List.length_cons]; omega, h.l, by have := h.l; simp only [FS.push, List.length_nil]; omega⟩
theorem Bd.push1 {s : FS} {d k : Nat} {x : Str} (h : Bd s (1 + d) (1 + k)) : Bd (s.push [x]) d k := ⟨by have := h.R; simp only [FS.push, List.length_cons]; omega, by have := h.l; show s.log.length + k ≤ _; omega, by have := h.l; simp only [FS.push, List.length_cons, List.length_nil]; omega⟩
/-- from s to s': the rows below stay, row and log grow by k at most -/
structure Gw (s s' : FS) (k : Nat) : Prop where
  R : s'.R = s.R
  l : s'.log.length ≤ s.log.length + k
  r : s'.row.length ≤ s.row.length + k
theorem Gw.rfl {s : FS} : Gw s s 0 := ⟨_root_.rfl, Nat.le_refl _, Nat.le_refl _⟩
theorem Gw.trans {a b c : FS} {i j : Nat} (h : Gw a b i) (k : Gw b c j) : Gw a c (i + j) := ⟨k.R.trans h.R, by have := h.l; have := k.l; omega, by have := h.r; have := k.r; omega⟩
theorem Gw.le {a b : FS} {i j : Nat} (h : Gw a b i) (e : i ≤ j) : Gw a b j := ⟨h.R, Nat.le_trans h.l (Nat.add_le_add_left e _), Nat.le_trans h.r (Nat.add_le_add_left e _)⟩
theorem Gw.note {s : FS} {w x : Str} : Gw s (s.note w x) 1 := ⟨_root_.rfl, by have := use_len w x s.told; simp only [FS.note, List.length_append]; omega, Nat.le_add_right _ _⟩
theorem Gw.tell {s : FS} {x : Str} : Gw s (s.tell [x]) 1 := ⟨_root_.rfl, Nat.le_add_right _ _, by simp [FS.tell]⟩
theorem FS.pop_eq {s s' : FS} {r : List Str} {R : List (List Str)} (h : s'.R = r :: R) : s'.pop = ⟨r, R, s'.log⟩ := by unfold FS.pop; rw [h]
/-- a row is laid, things are done, it is taken away -/
theorem Gw.in {s s' : FS} {row : List Str} {k : Nat} (h : Gw (s.push row) s' k) : Gw s s'.pop k := by
  rw [FS.pop_eq (s := s) h.R]
  exact ⟨_root_.rfl, h.l, Nat.le_add_right _ _⟩
theorem Bd.gw {s s' : FS} {d i k : Nat} (h : Bd s d (i + k)) (g : Gw s s' i) : Bd s' d k := ⟨by rw [g.R]; exact h.R, by have := h.l; have := g.l; omega, by have := h.r; have := g.r; omega⟩
/-- what is laid on top is told, done and taken away: a name counts -/
theorem Gw.in1 {s s' : FS} {row : List Str} {k : Nat} (h : Gw (s.push row) s' k) : Gw s s'.pop (1 + k) := h.in.le (Nat.le_add_left _ _)
theorem run_gw : ∀ (t : T) (s : FS), Gw s (run t s) (wt t) := by
  intro t
  induction t with
  | none_ => intro s; exact .rfl
  | name x => intro s; exact .note
  | plain x => intro s; exact .note
  | pkg x => intro s; exact .note
  | slice t i1 => intro s; exact (i1 s).le (Nat.le_add_left _ _)
  | select x => intro s; exact Gw.note.trans .note
  | binary x o i1 => intro s; exact Gw.note.trans (i1 _)
  | call x o i1 => intro s; exact Gw.note.trans (i1 _)
  | lit ty x i1 => intro s; exact (i1 s).trans .note
  | func ty x b i1 i2 => intro s; exact (i1 s).trans (i2 _).in.in1
  | expr e i1 => intro s; exact i1 s
  | define x e i1 => intro s; exact (i1 s).trans .tell
  | var x ty e i1 i2 => intro s; exact (i1 s).trans ((i2 _).trans .tell)
  | typedecl x ty i1 => intro s; exact Gw.tell.trans (i1 _)
  | block b i1 => intro s; exact (i1 _).in
  | ifs h t b o i1 i2 i3 i4 => intro s; exact Gw.in ((i1 _).trans ((i2 _).trans ((i3 _).trans (i4 _))))
  | step e i1 => intro s; exact i1 s
  | fors h t b i1 i2 i3 => intro s; exact Gw.in ((i1 _).trans ((i2 _).trans ((i2 _).trans (i3 _))))
  | range x d e b i1 i2 =>
    intro s
    cases d with
    | true => exact Gw.in ((i1 _).trans (Gw.tell.trans (i2 _)))
    | false => exact Gw.in ((i1 _).trans (Gw.note.trans (i2 _)))
  | switch h v rows i1 i2 i3 => intro s; exact Gw.in ((i1 _).trans ((i2 _).trans (i3 _)))
  | tswitch x e ty b i1 i2 i3 => intro s; exact Gw.in ((i1 _).trans ((i2 _).trans (i3 _).in1))
  | choose x e other b1 b2 i1 i2 i3 i4 => intro s; exact (Gw.in ((Gw.in ((i1 _).trans (Gw.tell.trans (i3 _)))).trans (Gw.in ((i1 _).trans ((i2 _).trans (i4 _)))))).le (by simp only [wt]; omega)
  | nil => intro s; exact .rfl
  | cons t ts i1 i2 => intro s; exact (i1 _).trans (i2 _)
  | rnil => intro s; exact .rfl
  | rcons e b rs i1 i2 i3 => intro s; exact (i1 _).trans ((Gw.in (i2 _)).trans (i3 _))
theorem Bd.run {t : T} {s : FS} {d k : Nat} (h : Bd s d (wt t + k)) : Bd (run t s) d k := h.gw (run_gw t s)
theorem run_R (t : T) (s : FS) : (run t s).R = s.R := (run_gw t s).R
theorem BK.dT {P Q : Prop} {b : Bool} (h : b = true) (k : P) : BK P Q (.bool b) := by rw [h]; exact .t k
theorem BK.dF {P Q : Prop} {b : Bool} (h : b = false) (k : Q) : BK P Q (.bool b) := by rw [h]; exact .f k
theorem CT.le {σ : Type} {I : II σ} {g : GX} {D D' : Nat} {f : Value} {Xs : List V} {s : σ} {Post : KV σ} (h : CT I g D f Xs s Post) (e : D ≤ D') : CT I g D' f Xs s Post := fun c M K ok hg hr hK => h c M K ok hg (hr.le e) hK
/-- a call that hands back None and leaves the state s' -/
noncomputable abbrev NP (s' : FS) : KV FS := fun Y s1 => Y = .none ∧ s1 = s'
section
variable {w : World} {fk : FK} {sa dx : Addr} {g : GX} {c : Cx} {M : MV} {K : KV FS} {D : Nat} {s s' : FS}
theorem np_use {D' : Nat} {f : Value} {Xs : List V} (h : CT (IF w fk sa dx) g D' f Xs s (NP s')) (ok : c.Ok) (hg : c.g = g) (hr : Room c D) (e : D' ≤ D) (k : K .none s') : CW (IF w fk sa dx) c M f Xs s K :=
  h.use ok hg (hr.le e) (by rintro Y t ⟨rfl, rfl⟩; exact k)
theorem meth {mt : Str} {f : Addr} {K : Value → List V → Prop} (ok : c.Ok) (hw : c.g.w = w) (hf : (plainGet c.K 147 mt && findIn c.K (.ref 147) mt == some (some (.ref f)) && isFn c.K (.ref f) && keepIn c.K (.ref f)) = true) (hl : ∀ w : World, lookIn mt (finD w fk) = some none) (k : K (.ref f) [.raw (.ref sa)]) : GOb (IF w fk sa dx) c (.ref sa) mt K := by
  simp only [Bool.and_eq_true, beq_iff_eq] at hf
  exact .fn (gm ok hw hf.1.1.1 hf.1.1.2 hf.1.2 hl) hf.2 k
theorem pushO {K : String → Addr → Prop} (ok : c.Ok) (hw : c.g.w = w) (k : K "list.append" fk.oa) : P2Ob (IF w fk sa dx) c (.ref sa) (Str.ofString "own") (Str.ofString "append") K := .mk (gp ok hw PySem.F.slot_list_append PySem.F.type_list_append) k
theorem popO {K : String → Addr → Prop} (ok : c.Ok) (hw : c.g.w = w) (k : K "list.pop" fk.oa) : P2Ob (IF w fk sa dx) c (.ref sa) (Str.ofString "own") (Str.ofString "pop") K := .mk (gp ok hw PySem.F.slot_list_pop PySem.F.type_list_pop) k
theorem within_c {names : List Str} {tX : V} {r : List Str} {R : List (List Str)} (hw : g.w = w) (h : CT (IF w fk sa dx) g D (.ref 78) [.raw (.ref sa), tX] (s.push names) (NP s')) (h1 : s.R.length ≤ 900) (h2 : names.length ≤ 900) (hR : s'.R = r :: R) (h3 : R.length ≤ 900) :
    CT (IF w fk sa dx) g (D + 1) (.ref 85) [.raw (.ref sa), .list (names.map strV), tX] s (NP s'.pop) := by
  refine def_vc (dX := []) (dv := []) gl0 [Str.ofString "self", Str.ofString "names", Str.ofString "trees"] (by rfl) (by rfl) (fun h vs _ _ hl gs dr tk os => ?_) .nil (by rfl) (by rfl) (by rfl) (by rfl) (by rfl) (by rfl) (fun c _ => gl0_ok c) fun c ok hg hr => ?_
  · obtain ⟨a, b, d, rfl⟩ := len3 hl
    exact BindsTo.of_eq rfl
  subst hg
  refine pushO ok hw ?_
  refine list_list_u (by simp only [List.length_map]; omega) ?_
  refine push_u hw h1 ?_
  refine meth (f := 78) ok hw (by rfl) (fun w => by rfl) ?_
  refine np_use h ok rfl hr (by omega) ?_
  refine popO ok hw ?_
  exact pop_u hw h3 hR fun _ => ⟨rfl, rfl⟩
end
section
variable {w : World} {fk : FK} {sa dx : Addr} {g : GX} {c : Cx} {M : MV} {K : KV FS} {s s' : FS}
theorem push0_u (hw : c.g.w = w) (h1 : s.R.length ≤ 900) (k : K .none (s.push [])) : CW (IF w fk sa dx) c M (.builtin "list.append") [.raw (.ref fk.oa), .list []] s K := push_u (row := []) hw h1 k
theorem g_note {K : Value → List V → Prop} (ok : c.Ok) (hw : c.g.w = w) (k : K (.ref 57) [.raw (.ref sa)]) : GOb (IF w fk sa dx) c (.ref sa) (Str.ofString "note") K := meth ok hw (by rfl) (fun w => by rfl) k
theorem g_ahead {K : Value → List V → Prop} (ok : c.Ok) (hw : c.g.w = w) (k : K (.ref 64) [.raw (.ref sa)]) : GOb (IF w fk sa dx) c (.ref sa) (Str.ofString "note_ahead") K := meth ok hw (by rfl) (fun w => by rfl) k
theorem g_told {K : Value → List V → Prop} (ok : c.Ok) (hw : c.g.w = w) (k : K (.ref 42) [.raw (.ref sa)]) : GOb (IF w fk sa dx) c (.ref sa) (Str.ofString "is_told") K := meth ok hw (by rfl) (fun w => by rfl) k
theorem g_pkg {K : Value → List V → Prop} (ok : c.Ok) (hw : c.g.w = w) (k : K (.ref 49) [.raw (.ref sa)]) : GOb (IF w fk sa dx) c (.ref sa) (Str.ofString "is_package") K := meth ok hw (by rfl) (fun w => by rfl) k
theorem g_tell {K : Value → List V → Prop} (ok : c.Ok) (hw : c.g.w = w) (k : K (.ref 71) [.raw (.ref sa)]) : GOb (IF w fk sa dx) c (.ref sa) (Str.ofString "tell") K := meth ok hw (by rfl) (fun w => by rfl) k
theorem g_all {K : Value → List V → Prop} (ok : c.Ok) (hw : c.g.w = w) (k : K (.ref 78) [.raw (.ref sa)]) : GOb (IF w fk sa dx) c (.ref sa) (Str.ofString "all") K := meth ok hw (by rfl) (fun w => by rfl) k
theorem g_within {K : Value → List V → Prop} (ok : c.Ok) (hw : c.g.w = w) (k : K (.ref 85) [.raw (.ref sa)]) : GOb (IF w fk sa dx) c (.ref sa) (Str.ofString "within") K := meth ok hw (by rfl) (fun w => by rfl) k
theorem g_tree {K : Value → List V → Prop} (ok : c.Ok) (hw : c.g.w = w) (k : K (.ref 92) [.raw (.ref sa)]) : GOb (IF w fk sa dx) c (.ref sa) (Str.ofString "tree") K := meth ok hw (by rfl) (fun w => by rfl) k
theorem g_parts {K : Value → List V → Prop} (ok : c.Ok) (hw : c.g.w = w) (k : K (.ref 99) [.raw (.ref sa)]) : GOb (IF w fk sa dx) c (.ref sa) (Str.ofString "parts") K := meth ok hw (by rfl) (fun w => by rfl) k
theorem g_func {K : Value → List V → Prop} (ok : c.Ok) (hw : c.g.w = w) (k : K (.ref 106) [.raw (.ref sa)]) : GOb (IF w fk sa dx) c (.ref sa) (Str.ofString "function") K := meth ok hw (by rfl) (fun w => by rfl) k
theorem g_lit {K : Value → List V → Prop} (ok : c.Ok) (hw : c.g.w = w) (k : K (.ref 120) [.raw (.ref sa)]) : GOb (IF w fk sa dx) c (.ref sa) (Str.ofString "literal") K := meth ok hw (by rfl) (fun w => by rfl) k
theorem g_decl {K : Value → List V → Prop} (ok : c.Ok) (hw : c.g.w = w) (k : K (.ref 127) [.raw (.ref sa)]) : GOb (IF w fk sa dx) c (.ref sa) (Str.ofString "declaration") K := meth ok hw (by rfl) (fun w => by rfl) k
theorem g_nested {K : Value → List V → Prop} (ok : c.Ok) (hw : c.g.w = w) (k : K (.ref 132) [.raw (.ref sa)]) : GOb (IF w fk sa dx) c (.ref sa) (Str.ofString "nested") K := meth ok hw (by rfl) (fun w => by rfl) k
theorem g_cases {K : Value → List V → Prop} (ok : c.Ok) (hw : c.g.w = w) (k : K (.ref 139) [.raw (.ref sa)]) : GOb (IF w fk sa dx) c (.ref sa) (Str.ofString "cases") K := meth ok hw (by rfl) (fun w => by rfl) k
theorem g_case {K : Value → List V → Prop} (ok : c.Ok) (hw : c.g.w = w) (k : K (.ref 144) [.raw (.ref sa)]) : GOb (IF w fk sa dx) c (.ref sa) (Str.ofString "case_of_choose") K := meth ok hw (by rfl) (fun w => by rfl) k
theorem g_keys {K : Value → List V → Prop} (ok : c.Ok) (hw : c.g.w = w) (k : K (.ref 158) []) : GOb (IF w fk sa dx) c (.ref sa) (Str.ofString "has_keys") K := .own (gm_own ok hw) (by rfl) k
theorem tr_use {D : Nat} {X : V} (h : TR w fk sa dx g D X s s') (ok : c.Ok) (hg : c.g = g) (hr : Room c D) (k : K .none s') : CW (IF w fk sa dx) c M (.ref 92) [.raw (.ref sa), X] s K := np_use h ok hg hr (Nat.le_refl _) k
theorem TR.le {D D' : Nat} {X : V} (h : TR w fk sa dx g D X s s') (e : D ≤ D') : TR w fk sa dx g D' X s s' := CT.le h e
end
theorem Bd.R0 {s : FS} {d k : Nat} (h : Bd s d k) : s.R.length ≤ 900 := by have := h.R; omega
theorem Bd.l0 {s : FS} {d k : Nat} (h : Bd s d k) : s.log.length ≤ 90000 := by have := h.l; omega
theorem Bd.r0 {s : FS} {d k : Nat} (h : Bd s d k) : s.row.length ≤ 90000 := by have := h.r; omega
section
variable {w : World} {fk : FK} {sa dx : Addr} {g : GX} {D : Nat} {s s' : FS}
theorem t_name {x : Str} (hw : g.w = w) (hb : Bd s 0 1) : TR w fk sa dx g 60 (nmV x) s (s.note wF x) := by
  refine def_vc (dX := []) (dv := []) gl0 [Str.ofString "self", Str.ofString "tree"] (by rfl) (by rfl) (fun h vs _ _ hl gs dr tk os => ?_) .nil (by rfl) (by rfl) (by rfl) (by rfl) (by rfl) (by rfl) (fun c _ => gl0_ok c) fun c ok hg hr => ?_
  · obtain ⟨a, b, rfl⟩ := len2 hl
    exact BindsTo.of_eq rfl
  subst hg
  repeat' (first | (refine' BK.dT (by decide +kernel) ?_) | (refine' BK.dF (by decide +kernel) ?_) | (refine' BK.dT (by exact rfl) ?_) | (refine' BK.dF (by exact rfl) ?_) | (refine' SwOb.two (by with_unfolding_all rfl) ?_) | (refine' SwOb.none (by with_unfolding_all rfl) ?_) | (refine' note_u (by (with_reducible assumption)) (by (with_reducible assumption)) (by (exact Room.le (by with_reducible assumption) (by first | decide | omega))) (by (first | (with_reducible assumption) | exact Bd.R0 (by with_reducible assumption) | exact Bd.l0 (by with_reducible assumption) | exact Bd.r0 (by with_reducible assumption))) (by (first | (with_reducible assumption) | exact Bd.R0 (by with_reducible assumption) | exact Bd.l0 (by with_reducible assumption) | exact Bd.r0 (by with_reducible assumption))) ?_) | (refine' ahead_u (by (with_reducible assumption)) (by (with_reducible assumption)) (by (exact Room.le (by with_reducible assumption) (by first | decide | omega))) (by (first | (with_reducible assumption) | exact Bd.R0 (by with_reducible assumption) | exact Bd.l0 (by with_reducible assumption) | exact Bd.r0 (by with_reducible assumption))) (by (first | (with_reducible assumption) | exact Bd.R0 (by with_reducible assumption) | exact Bd.l0 (by with_reducible assumption) | exact Bd.r0 (by with_reducible assumption))) ?_) | (refine' tellT_u (by (with_reducible assumption)) (by (with_reducible assumption)) (by (exact Room.le (by with_reducible assumption) (by first | decide | omega))) (by (first | (with_reducible assumption) | exact Bd.R0 (by with_reducible assumption) | exact Bd.l0 (by with_reducible assumption) | exact Bd.r0 (by with_reducible assumption))) (by (first | (with_reducible assumption) | exact Bd.R0 (by with_reducible assumption) | exact Bd.l0 (by with_reducible assumption) | exact Bd.r0 (by with_reducible assumption))) ?_) | (refine' tellL_u (by (with_reducible assumption)) (by (with_reducible assumption)) (by (exact Room.le (by with_reducible assumption) (by first | decide | omega))) (by (first | (with_reducible assumption) | exact Bd.R0 (by with_reducible assumption) | exact Bd.l0 (by with_reducible assumption) | exact Bd.r0 (by with_reducible assumption))) (by (first | (with_reducible assumption) | exact Bd.R0 (by with_reducible assumption) | exact Bd.l0 (by with_reducible assumption) | exact Bd.r0 (by with_reducible assumption))) ?_) | (refine' tr_use (by (first | (with_reducible assumption) | assumption)) (by (with_reducible assumption)) rfl (by (exact Room.le (by with_reducible assumption) (by first | decide | omega))) ?_) | (refine' all_u (by (first | (with_reducible assumption) | assumption | exact AllT.nil | (refine' AllT.tree (by (first | (with_reducible assumption) | assumption)) (by (first | (with_reducible assumption) | assumption | exact AllT.nil | (refine' AllT.tree (by (first | (with_reducible assumption) | assumption)) (by (first | (with_reducible assumption) | assumption | exact AllT.nil | (refine' AllT.tree (by (first | (with_reducible assumption) | assumption)) (by (first | (with_reducible assumption) | assumption | exact AllT.nil | (refine' AllT.tree (by (first | (with_reducible assumption) | assumption)) (by (first | (with_reducible assumption) | assumption | exact AllT.nil | (refine' AllT.tree (by (first | (with_reducible assumption) | assumption)) (by (first | (with_reducible assumption) | assumption | exact AllT.nil | (refine' AllT.tree (by (first | (with_reducible assumption) | assumption)) (by (first | (with_reducible assumption) | assumption | exact AllT.nil | (refine' AllT.tree (by fail) (by fail)))))))))))))))))))))) (by (with_reducible assumption)) (by (with_reducible assumption)) (by (exact Room.le (by with_reducible assumption) (by first | decide | omega))) ?_) | (refine' allL_u (by (first | (with_reducible assumption) | assumption | exact AllT.nil | (refine' AllT.tree (by (first | (with_reducible assumption) | assumption)) (by (first | (with_reducible assumption) | assumption | exact AllT.nil | (refine' AllT.tree (by (first | (with_reducible assumption) | assumption)) (by (first | (with_reducible assumption) | assumption | exact AllT.nil | (refine' AllT.tree (by (first | (with_reducible assumption) | assumption)) (by (first | (with_reducible assumption) | assumption | exact AllT.nil | (refine' AllT.tree (by (first | (with_reducible assumption) | assumption)) (by (first | (with_reducible assumption) | assumption | exact AllT.nil | (refine' AllT.tree (by (first | (with_reducible assumption) | assumption)) (by (first | (with_reducible assumption) | assumption | exact AllT.nil | (refine' AllT.tree (by (first | (with_reducible assumption) | assumption)) (by (first | (with_reducible assumption) | assumption | exact AllT.nil | (refine' AllT.tree (by fail) (by fail)))))))))))))))))))))) (by (with_reducible assumption)) (by (with_reducible assumption)) (by (exact Room.le (by with_reducible assumption) (by first | decide | omega))) ?_) | (refine' np_use (by (with_reducible assumption)) (by (with_reducible assumption)) rfl (by (with_reducible assumption)) (by omega) ?_) | (refine' isi_u (by constructor) ?_) | (refine' len_tup_u (by exact Nat.le_of_ble_eq_true rfl) ?_) | (refine' pkg_u (by (with_reducible assumption)) (by (with_reducible assumption)) (by (exact Room.le (by with_reducible assumption) (by first | decide | omega))) ?_) | (refine' told_u (by (with_reducible assumption)) (by (with_reducible assumption)) (by (exact Room.le (by with_reducible assumption) (by first | decide | omega))) (by (first | (with_reducible assumption) | exact Bd.R0 (by with_reducible assumption) | exact Bd.l0 (by with_reducible assumption) | exact Bd.r0 (by with_reducible assumption))) ?_) | (refine' g_note (by (with_reducible assumption)) (by (with_reducible assumption)) ?_) | (refine' g_ahead (by (with_reducible assumption)) (by (with_reducible assumption)) ?_) | (refine' g_told (by (with_reducible assumption)) (by (with_reducible assumption)) ?_) | (refine' g_pkg (by (with_reducible assumption)) (by (with_reducible assumption)) ?_) | (refine' g_tell (by (with_reducible assumption)) (by (with_reducible assumption)) ?_) | (refine' g_all (by (with_reducible assumption)) (by (with_reducible assumption)) ?_) | (refine' g_within (by (with_reducible assumption)) (by (with_reducible assumption)) ?_) | (refine' g_tree (by (with_reducible assumption)) (by (with_reducible assumption)) ?_) | (refine' g_parts (by (with_reducible assumption)) (by (with_reducible assumption)) ?_) | (refine' g_func (by (with_reducible assumption)) (by (with_reducible assumption)) ?_) | (refine' g_lit (by (with_reducible assumption)) (by (with_reducible assumption)) ?_) | (refine' g_decl (by (with_reducible assumption)) (by (with_reducible assumption)) ?_) | (refine' g_nested (by (with_reducible assumption)) (by (with_reducible assumption)) ?_) | (refine' g_cases (by (with_reducible assumption)) (by (with_reducible assumption)) ?_) | (refine' g_case (by (with_reducible assumption)) (by (with_reducible assumption)) ?_) | (refine' g_keys (by (with_reducible assumption)) (by (with_reducible assumption)) ?_) | (refine' pushO (by (with_reducible assumption)) (by (with_reducible assumption)) ?_) | (refine' popO (by (with_reducible assumption)) (by (with_reducible assumption)) ?_) | (refine' push0_u (by (with_reducible assumption)) (by (first | (with_reducible assumption) | exact Bd.R0 (by with_reducible assumption) | exact Bd.l0 (by with_reducible assumption) | exact Bd.r0 (by with_reducible assumption))) ?_) | (refine' tuple_tup_u ?_) | (refine' list_tup_u (by exact Nat.le_of_ble_eq_true rfl) ?_) | (refine' list_list_u (by exact Nat.le_of_ble_eq_true rfl) ?_) | (refine' pop_u (by (with_reducible assumption)) (by (with_reducible assumption)) (by (with_reducible assumption)) ?_; intro _) | (exact ⟨rfl, rfl⟩) | (refine' And.intro rfl ?_))
theorem t_plain {x : Str} (hw : g.w = w) (hb : Bd s 0 1) : TR w fk sa dx g 60 (tv (.plain x)).1 s (s.note wF x) := by
  refine def_vc (dX := []) (dv := []) gl0 [Str.ofString "self", Str.ofString "tree"] (by rfl) (by rfl) (fun h vs _ _ hl gs dr tk os => ?_) .nil (by rfl) (by rfl) (by rfl) (by rfl) (by rfl) (by rfl) (fun c _ => gl0_ok c) fun c ok hg hr => ?_
  · obtain ⟨a, b, rfl⟩ := len2 hl
    exact BindsTo.of_eq rfl
  subst hg
  repeat' (first | (refine' BK.dT (by decide +kernel) ?_) | (refine' BK.dF (by decide +kernel) ?_) | (refine' BK.dT (by exact rfl) ?_) | (refine' BK.dF (by exact rfl) ?_) | (refine' SwOb.two (by with_unfolding_all rfl) ?_) | (refine' SwOb.none (by with_unfolding_all rfl) ?_) | (refine' note_u (by (with_reducible assumption)) (by (with_reducible assumption)) (by (exact Room.le (by with_reducible assumption) (by first | decide | omega))) (by (first | (with_reducible assumption) | exact Bd.R0 (by with_reducible assumption) | exact Bd.l0 (by with_reducible assumption) | exact Bd.r0 (by with_reducible assumption))) (by (first | (with_reducible assumption) | exact Bd.R0 (by with_reducible assumption) | exact Bd.l0 (by with_reducible assumption) | exact Bd.r0 (by with_reducible assumption))) ?_) | (refine' ahead_u (by (with_reducible assumption)) (by (with_reducible assumption)) (by (exact Room.le (by with_reducible assumption) (by first | decide | omega))) (by (first | (with_reducible assumption) | exact Bd.R0 (by with_reducible assumption) | exact Bd.l0 (by with_reducible assumption) | exact Bd.r0 (by with_reducible assumption))) (by (first | (with_reducible assumption) | exact Bd.R0 (by with_reducible assumption) | exact Bd.l0 (by with_reducible assumption) | exact Bd.r0 (by with_reducible assumption))) ?_) | (refine' tellT_u (by (with_reducible assumption)) (by (with_reducible assumption)) (by (exact Room.le (by with_reducible assumption) (by first | decide | omega))) (by (first | (with_reducible assumption) | exact Bd.R0 (by with_reducible assumption) | exact Bd.l0 (by with_reducible assumption) | exact Bd.r0 (by with_reducible assumption))) (by (first | (with_reducible assumption) | exact Bd.R0 (by with_reducible assumption) | exact Bd.l0 (by with_reducible assumption) | exact Bd.r0 (by with_reducible assumption))) ?_) | (refine' tellL_u (by (with_reducible assumption)) (by (with_reducible assumption)) (by (exact Room.le (by with_reducible assumption) (by first | decide | omega))) (by (first | (with_reducible assumption) | exact Bd.R0 (by with_reducible assumption) | exact Bd.l0 (by with_reducible assumption) | exact Bd.r0 (by with_reducible assumption))) (by (first | (with_reducible assumption) | exact Bd.R0 (by with_reducible assumption) | exact Bd.l0 (by with_reducible assumption) | exact Bd.r0 (by with_reducible assumption))) ?_) | (refine' tr_use (by (first | (with_reducible assumption) | assumption)) (by (with_reducible assumption)) rfl (by (exact Room.le (by with_reducible assumption) (by first | decide | omega))) ?_) | (refine' all_u (by (first | (with_reducible assumption) | assumption | exact AllT.nil | (refine' AllT.tree (by (first | (with_reducible assumption) | assumption)) (by (first | (with_reducible assumption) | assumption | exact AllT.nil | (refine' AllT.tree (by (first | (with_reducible assumption) | assumption)) (by (first | (with_reducible assumption) | assumption | exact AllT.nil | (refine' AllT.tree (by (first | (with_reducible assumption) | assumption)) (by (first | (with_reducible assumption) | assumption | exact AllT.nil | (refine' AllT.tree (by (first | (with_reducible assumption) | assumption)) (by (first | (with_reducible assumption) | assumption | exact AllT.nil | (refine' AllT.tree (by (first | (with_reducible assumption) | assumption)) (by (first | (with_reducible assumption) | assumption | exact AllT.nil | (refine' AllT.tree (by (first | (with_reducible assumption) | assumption)) (by (first | (with_reducible assumption) | assumption | exact AllT.nil | (refine' AllT.tree (by fail) (by fail)))))))))))))))))))))) (by (with_reducible assumption)) (by (with_reducible assumption)) (by (exact Room.le (by with_reducible assumption) (by first | decide | omega))) ?_) | (refine' allL_u (by (first | (with_reducible assumption) | assumption | exact AllT.nil | (refine' AllT.tree (by (first | (with_reducible assumption) | assumption)) (by (first | (with_reducible assumption) | assumption | exact AllT.nil | (refine' AllT.tree (by (first | (with_reducible assumption) | assumption)) (by (first | (with_reducible assumption) | assumption | exact AllT.nil | (refine' AllT.tree (by (first | (with_reducible assumption) | assumption)) (by (first | (with_reducible assumption) | assumption | exact AllT.nil | (refine' AllT.tree (by (first | (with_reducible assumption) | assumption)) (by (first | (with_reducible assumption) | assumption | exact AllT.nil | (refine' AllT.tree (by (first | (with_reducible assumption) | assumption)) (by (first | (with_reducible assumption) | assumption | exact AllT.nil | (refine' AllT.tree (by (first | (with_reducible assumption) | assumption)) (by (first | (with_reducible assumption) | assumption | exact AllT.nil | (refine' AllT.tree (by fail) (by fail)))))))))))))))))))))) (by (with_reducible assumption)) (by (with_reducible assumption)) (by (exact Room.le (by with_reducible assumption) (by first | decide | omega))) ?_) | (refine' np_use (by (with_reducible assumption)) (by (with_reducible assumption)) rfl (by (with_reducible assumption)) (by omega) ?_) | (refine' isi_u (by constructor) ?_) | (refine' len_tup_u (by exact Nat.le_of_ble_eq_true rfl) ?_) | (refine' pkg_u (by (with_reducible assumption)) (by (with_reducible assumption)) (by (exact Room.le (by with_reducible assumption) (by first | decide | omega))) ?_) | (refine' told_u (by (with_reducible assumption)) (by (with_reducible assumption)) (by (exact Room.le (by with_reducible assumption) (by first | decide | omega))) (by (first | (with_reducible assumption) | exact Bd.R0 (by with_reducible assumption) | exact Bd.l0 (by with_reducible assumption) | exact Bd.r0 (by with_reducible assumption))) ?_) | (refine' g_note (by (with_reducible assumption)) (by (with_reducible assumption)) ?_) | (refine' g_ahead (by (with_reducible assumption)) (by (with_reducible assumption)) ?_) | (refine' g_told (by (with_reducible assumption)) (by (with_reducible assumption)) ?_) | (refine' g_pkg (by (with_reducible assumption)) (by (with_reducible assumption)) ?_) | (refine' g_tell (by (with_reducible assumption)) (by (with_reducible assumption)) ?_) | (refine' g_all (by (with_reducible assumption)) (by (with_reducible assumption)) ?_) | (refine' g_within (by (with_reducible assumption)) (by (with_reducible assumption)) ?_) | (refine' g_tree (by (with_reducible assumption)) (by (with_reducible assumption)) ?_) | (refine' g_parts (by (with_reducible assumption)) (by (with_reducible assumption)) ?_) | (refine' g_func (by (with_reducible assumption)) (by (with_reducible assumption)) ?_) | (refine' g_lit (by (with_reducible assumption)) (by (with_reducible assumption)) ?_) | (refine' g_decl (by (with_reducible assumption)) (by (with_reducible assumption)) ?_) | (refine' g_nested (by (with_reducible assumption)) (by (with_reducible assumption)) ?_) | (refine' g_cases (by (with_reducible assumption)) (by (with_reducible assumption)) ?_) | (refine' g_case (by (with_reducible assumption)) (by (with_reducible assumption)) ?_) | (refine' g_keys (by (with_reducible assumption)) (by (with_reducible assumption)) ?_) | (refine' pushO (by (with_reducible assumption)) (by (with_reducible assumption)) ?_) | (refine' popO (by (with_reducible assumption)) (by (with_reducible assumption)) ?_) | (refine' push0_u (by (with_reducible assumption)) (by (first | (with_reducible assumption) | exact Bd.R0 (by with_reducible assumption) | exact Bd.l0 (by with_reducible assumption) | exact Bd.r0 (by with_reducible assumption))) ?_) | (refine' tuple_tup_u ?_) | (refine' list_tup_u (by exact Nat.le_of_ble_eq_true rfl) ?_) | (refine' list_list_u (by exact Nat.le_of_ble_eq_true rfl) ?_) | (refine' pop_u (by (with_reducible assumption)) (by (with_reducible assumption)) (by (with_reducible assumption)) ?_; intro _) | (exact ⟨rfl, rfl⟩) | (refine' And.intro rfl ?_))
theorem t_pkg {x : Str} (hw : g.w = w) (hb : Bd s 0 1) : TR w fk sa dx g 60 (tv (.pkg x)).1 s (s.note wA x) := by
  refine def_vc (dX := []) (dv := []) gl0 [Str.ofString "self", Str.ofString "tree"] (by rfl) (by rfl) (fun h vs _ _ hl gs dr tk os => ?_) .nil (by rfl) (by rfl) (by rfl) (by rfl) (by rfl) (by rfl) (fun c _ => gl0_ok c) fun c ok hg hr => ?_
  · obtain ⟨a, b, rfl⟩ := len2 hl
    exact BindsTo.of_eq rfl
  subst hg
  repeat' (first | (refine' BK.dT (by decide +kernel) ?_) | (refine' BK.dF (by decide +kernel) ?_) | (refine' BK.dT (by exact rfl) ?_) | (refine' BK.dF (by exact rfl) ?_) | (refine' SwOb.two (by with_unfolding_all rfl) ?_) | (refine' SwOb.none (by with_unfolding_all rfl) ?_) | (refine' note_u (by (with_reducible assumption)) (by (with_reducible assumption)) (by (exact Room.le (by with_reducible assumption) (by first | decide | omega))) (by (first | (with_reducible assumption) | exact Bd.R0 (by with_reducible assumption) | exact Bd.l0 (by with_reducible assumption) | exact Bd.r0 (by with_reducible assumption))) (by (first | (with_reducible assumption) | exact Bd.R0 (by with_reducible assumption) | exact Bd.l0 (by with_reducible assumption) | exact Bd.r0 (by with_reducible assumption))) ?_) | (refine' ahead_u (by (with_reducible assumption)) (by (with_reducible assumption)) (by (exact Room.le (by with_reducible assumption) (by first | decide | omega))) (by (first | (with_reducible assumption) | exact Bd.R0 (by with_reducible assumption) | exact Bd.l0 (by with_reducible assumption) | exact Bd.r0 (by with_reducible assumption))) (by (first | (with_reducible assumption) | exact Bd.R0 (by with_reducible assumption) | exact Bd.l0 (by with_reducible assumption) | exact Bd.r0 (by with_reducible assumption))) ?_) | (refine' tellT_u (by (with_reducible assumption)) (by (with_reducible assumption)) (by (exact Room.le (by with_reducible assumption) (by first | decide | omega))) (by (first | (with_reducible assumption) | exact Bd.R0 (by with_reducible assumption) | exact Bd.l0 (by with_reducible assumption) | exact Bd.r0 (by with_reducible assumption))) (by (first | (with_reducible assumption) | exact Bd.R0 (by with_reducible assumption) | exact Bd.l0 (by with_reducible assumption) | exact Bd.r0 (by with_reducible assumption))) ?_) | (refine' tellL_u (by (with_reducible assumption)) (by (with_reducible assumption)) (by (exact Room.le (by with_reducible assumption) (by first | decide | omega))) (by (first | (with_reducible assumption) | exact Bd.R0 (by with_reducible assumption) | exact Bd.l0 (by with_reducible assumption) | exact Bd.r0 (by with_reducible assumption))) (by (first | (with_reducible assumption) | exact Bd.R0 (by with_reducible assumption) | exact Bd.l0 (by with_reducible assumption) | exact Bd.r0 (by with_reducible assumption))) ?_) | (refine' tr_use (by (first | (with_reducible assumption) | assumption)) (by (with_reducible assumption)) rfl (by (exact Room.le (by with_reducible assumption) (by first | decide | omega))) ?_) | (refine' all_u (by (first | (with_reducible assumption) | assumption | exact AllT.nil | (refine' AllT.tree (by (first | (with_reducible assumption) | assumption)) (by (first | (with_reducible assumption) | assumption | exact AllT.nil | (refine' AllT.tree (by (first | (with_reducible assumption) | assumption)) (by (first | (with_reducible assumption) | assumption | exact AllT.nil | (refine' AllT.tree (by (first | (with_reducible assumption) | assumption)) (by (first | (with_reducible assumption) | assumption | exact AllT.nil | (refine' AllT.tree (by (first | (with_reducible assumption) | assumption)) (by (first | (with_reducible assumption) | assumption | exact AllT.nil | (refine' AllT.tree (by (first | (with_reducible assumption) | assumption)) (by (first | (with_reducible assumption) | assumption | exact AllT.nil | (refine' AllT.tree (by (first | (with_reducible assumption) | assumption)) (by (first | (with_reducible assumption) | assumption | exact AllT.nil | (refine' AllT.tree (by fail) (by fail)))))))))))))))))))))) (by (with_reducible assumption)) (by (with_reducible assumption)) (by (exact Room.le (by with_reducible assumption) (by first | decide | omega))) ?_) | (refine' allL_u (by (first | (with_reducible assumption) | assumption | exact AllT.nil | (refine' AllT.tree (by (first | (with_reducible assumption) | assumption)) (by (first | (with_reducible assumption) | assumption | exact AllT.nil | (refine' AllT.tree (by (first | (with_reducible assumption) | assumption)) (by (first | (with_reducible assumption) | assumption | exact AllT.nil | (refine' AllT.tree (by (first | (with_reducible assumption) | assumption)) (by (first | (with_reducible assumption) | assumption | exact AllT.nil | (refine' AllT.tree (by (first | (with_reducible assumption) | assumption)) (by (first | (with_reducible assumption) | assumption | exact AllT.nil | (refine' AllT.tree (by (first | (with_reducible assumption) | assumption)) (by (first | (with_reducible assumption) | assumption | exact AllT.nil | (refine' AllT.tree (by (first | (with_reducible assumption) | assumption)) (by (first | (with_reducible assumption) | assumption | exact AllT.nil | (refine' AllT.tree (by fail) (by fail)))))))))))))))))))))) (by (with_reducible assumption)) (by (with_reducible assumption)) (by (exact Room.le (by with_reducible assumption) (by first | decide | omega))) ?_) | (refine' np_use (by (with_reducible assumption)) (by (with_reducible assumption)) rfl (by (with_reducible assumption)) (by omega) ?_) | (refine' isi_u (by constructor) ?_) | (refine' len_tup_u (by exact Nat.le_of_ble_eq_true rfl) ?_) | (refine' pkg_u (by (with_reducible assumption)) (by (with_reducible assumption)) (by (exact Room.le (by with_reducible assumption) (by first | decide | omega))) ?_) | (refine' told_u (by (with_reducible assumption)) (by (with_reducible assumption)) (by (exact Room.le (by with_reducible assumption) (by first | decide | omega))) (by (first | (with_reducible assumption) | exact Bd.R0 (by with_reducible assumption) | exact Bd.l0 (by with_reducible assumption) | exact Bd.r0 (by with_reducible assumption))) ?_) | (refine' g_note (by (with_reducible assumption)) (by (with_reducible assumption)) ?_) | (refine' g_ahead (by (with_reducible assumption)) (by (with_reducible assumption)) ?_) | (refine' g_told (by (with_reducible assumption)) (by (with_reducible assumption)) ?_) | (refine' g_pkg (by (with_reducible assumption)) (by (with_reducible assumption)) ?_) | (refine' g_tell (by (with_reducible assumption)) (by (with_reducible assumption)) ?_) | (refine' g_all (by (with_reducible assumption)) (by (with_reducible assumption)) ?_) | (refine' g_within (by (with_reducible assumption)) (by (with_reducible assumption)) ?_) | (refine' g_tree (by (with_reducible assumption)) (by (with_reducible assumption)) ?_) | (refine' g_parts (by (with_reducible assumption)) (by (with_reducible assumption)) ?_) | (refine' g_func (by (with_reducible assumption)) (by (with_reducible assumption)) ?_) | (refine' g_lit (by (with_reducible assumption)) (by (with_reducible assumption)) ?_) | (refine' g_decl (by (with_reducible assumption)) (by (with_reducible assumption)) ?_) | (refine' g_nested (by (with_reducible assumption)) (by (with_reducible assumption)) ?_) | (refine' g_cases (by (with_reducible assumption)) (by (with_reducible assumption)) ?_) | (refine' g_case (by (with_reducible assumption)) (by (with_reducible assumption)) ?_) | (refine' g_keys (by (with_reducible assumption)) (by (with_reducible assumption)) ?_) | (refine' pushO (by (with_reducible assumption)) (by (with_reducible assumption)) ?_) | (refine' popO (by (with_reducible assumption)) (by (with_reducible assumption)) ?_) | (refine' push0_u (by (with_reducible assumption)) (by (first | (with_reducible assumption) | exact Bd.R0 (by with_reducible assumption) | exact Bd.l0 (by with_reducible assumption) | exact Bd.r0 (by with_reducible assumption))) ?_) | (refine' tuple_tup_u ?_) | (refine' list_tup_u (by exact Nat.le_of_ble_eq_true rfl) ?_) | (refine' list_list_u (by exact Nat.le_of_ble_eq_true rfl) ?_) | (refine' pop_u (by (with_reducible assumption)) (by (with_reducible assumption)) (by (with_reducible assumption)) ?_; intro _) | (exact ⟨rfl, rfl⟩) | (refine' And.intro rfl ?_))
theorem t_select {x : Str} (hw : g.w = w) (hb : Bd s 0 2) : TR w fk sa dx g 70 (tv (.select x)).1 s ((s.note wA x).note wF x) := by
  have hn : TR w fk sa dx g 60 (nmV x) (s.note wA x) ((s.note wA x).note wF x) := t_name hw hb.note
  refine def_vc2 (dX := []) (dv := []) gl0 [Str.ofString "self", Str.ofString "tree"] (by rfl) (by rfl) (fun h vs _ _ hl gs dr tk os => ?_) .nil (by rfl) (by rfl) (by rfl) (by rfl) (by rfl) (by rfl) (fun c _ => gl0_ok c) fun c ok hg hcs hr => ?_
  · obtain ⟨a, b, rfl⟩ := len2 hl
    exact BindsTo.of_eq rfl
  subst hg
  repeat' (first | (refine' BK.dT (by decide +kernel) ?_) | (refine' BK.dF (by decide +kernel) ?_) | (refine' BK.dT (by exact rfl) ?_) | (refine' BK.dF (by exact rfl) ?_) | (refine' SwOb.two (by with_unfolding_all rfl) ?_) | (refine' SwOb.none (by with_unfolding_all rfl) ?_) | (refine' note_u (by (with_reducible assumption)) (by (with_reducible assumption)) (by (exact Room.le (by with_reducible assumption) (by first | decide | omega))) (by (first | (with_reducible assumption) | exact Bd.R0 (by with_reducible assumption) | exact Bd.l0 (by with_reducible assumption) | exact Bd.r0 (by with_reducible assumption))) (by (first | (with_reducible assumption) | exact Bd.R0 (by with_reducible assumption) | exact Bd.l0 (by with_reducible assumption) | exact Bd.r0 (by with_reducible assumption))) ?_) | (refine' ahead_u (by (with_reducible assumption)) (by (with_reducible assumption)) (by (exact Room.le (by with_reducible assumption) (by first | decide | omega))) (by (first | (with_reducible assumption) | exact Bd.R0 (by with_reducible assumption) | exact Bd.l0 (by with_reducible assumption) | exact Bd.r0 (by with_reducible assumption))) (by (first | (with_reducible assumption) | exact Bd.R0 (by with_reducible assumption) | exact Bd.l0 (by with_reducible assumption) | exact Bd.r0 (by with_reducible assumption))) ?_) | (refine' tellT_u (by (with_reducible assumption)) (by (with_reducible assumption)) (by (exact Room.le (by with_reducible assumption) (by first | decide | omega))) (by (first | (with_reducible assumption) | exact Bd.R0 (by with_reducible assumption) | exact Bd.l0 (by with_reducible assumption) | exact Bd.r0 (by with_reducible assumption))) (by (first | (with_reducible assumption) | exact Bd.R0 (by with_reducible assumption) | exact Bd.l0 (by with_reducible assumption) | exact Bd.r0 (by with_reducible assumption))) ?_) | (refine' tellL_u (by (with_reducible assumption)) (by (with_reducible assumption)) (by (exact Room.le (by with_reducible assumption) (by first | decide | omega))) (by (first | (with_reducible assumption) | exact Bd.R0 (by with_reducible assumption) | exact Bd.l0 (by with_reducible assumption) | exact Bd.r0 (by with_reducible assumption))) (by (first | (with_reducible assumption) | exact Bd.R0 (by with_reducible assumption) | exact Bd.l0 (by with_reducible assumption) | exact Bd.r0 (by with_reducible assumption))) ?_) | (refine' tr_use (by (first | (with_reducible assumption) | assumption)) (by (with_reducible assumption)) rfl (by (exact Room.le (by with_reducible assumption) (by first | decide | omega))) ?_) | (refine' all_u (by (first | (with_reducible assumption) | assumption | exact AllT.nil | (refine' AllT.tree (by (first | (with_reducible assumption) | assumption)) (by (first | (with_reducible assumption) | assumption | exact AllT.nil | (refine' AllT.tree (by (first | (with_reducible assumption) | assumption)) (by (first | (with_reducible assumption) | assumption | exact AllT.nil | (refine' AllT.tree (by (first | (with_reducible assumption) | assumption)) (by (first | (with_reducible assumption) | assumption | exact AllT.nil | (refine' AllT.tree (by (first | (with_reducible assumption) | assumption)) (by (first | (with_reducible assumption) | assumption | exact AllT.nil | (refine' AllT.tree (by (first | (with_reducible assumption) | assumption)) (by (first | (with_reducible assumption) | assumption | exact AllT.nil | (refine' AllT.tree (by (first | (with_reducible assumption) | assumption)) (by (first | (with_reducible assumption) | assumption | exact AllT.nil | (refine' AllT.tree (by fail) (by fail)))))))))))))))))))))) (by (with_reducible assumption)) (by (with_reducible assumption)) (by (exact Room.le (by with_reducible assumption) (by first | decide | omega))) ?_) | (refine' allL_u (by (first | (with_reducible assumption) | assumption | exact AllT.nil | (refine' AllT.tree (by (first | (with_reducible assumption) | assumption)) (by (first | (with_reducible assumption) | assumption | exact AllT.nil | (refine' AllT.tree (by (first | (with_reducible assumption) | assumption)) (by (first | (with_reducible assumption) | assumption | exact AllT.nil | (refine' AllT.tree (by (first | (with_reducible assumption) | assumption)) (by (first | (with_reducible assumption) | assumption | exact AllT.nil | (refine' AllT.tree (by (first | (with_reducible assumption) | assumption)) (by (first | (with_reducible assumption) | assumption | exact AllT.nil | (refine' AllT.tree (by (first | (with_reducible assumption) | assumption)) (by (first | (with_reducible assumption) | assumption | exact AllT.nil | (refine' AllT.tree (by (first | (with_reducible assumption) | assumption)) (by (first | (with_reducible assumption) | assumption | exact AllT.nil | (refine' AllT.tree (by fail) (by fail)))))))))))))))))))))) (by (with_reducible assumption)) (by (with_reducible assumption)) (by (exact Room.le (by with_reducible assumption) (by first | decide | omega))) ?_) | (refine' np_use (by (with_reducible assumption)) (by (with_reducible assumption)) rfl (by (with_reducible assumption)) (by omega) ?_) | (refine' isi_u (by constructor) ?_) | (refine' len_tup_u (by exact Nat.le_of_ble_eq_true rfl) ?_) | (refine' pkg_u (by (with_reducible assumption)) (by (with_reducible assumption)) (by (exact Room.le (by with_reducible assumption) (by first | decide | omega))) ?_) | (refine' told_u (by (with_reducible assumption)) (by (with_reducible assumption)) (by (exact Room.le (by with_reducible assumption) (by first | decide | omega))) (by (first | (with_reducible assumption) | exact Bd.R0 (by with_reducible assumption) | exact Bd.l0 (by with_reducible assumption) | exact Bd.r0 (by with_reducible assumption))) ?_) | (refine' g_note (by (with_reducible assumption)) (by (with_reducible assumption)) ?_) | (refine' g_ahead (by (with_reducible assumption)) (by (with_reducible assumption)) ?_) | (refine' g_told (by (with_reducible assumption)) (by (with_reducible assumption)) ?_) | (refine' g_pkg (by (with_reducible assumption)) (by (with_reducible assumption)) ?_) | (refine' g_tell (by (with_reducible assumption)) (by (with_reducible assumption)) ?_) | (refine' g_all (by (with_reducible assumption)) (by (with_reducible assumption)) ?_) | (refine' g_within (by (with_reducible assumption)) (by (with_reducible assumption)) ?_) | (refine' g_tree (by (with_reducible assumption)) (by (with_reducible assumption)) ?_) | (refine' g_parts (by (with_reducible assumption)) (by (with_reducible assumption)) ?_) | (refine' g_func (by (with_reducible assumption)) (by (with_reducible assumption)) ?_) | (refine' g_lit (by (with_reducible assumption)) (by (with_reducible assumption)) ?_) | (refine' g_decl (by (with_reducible assumption)) (by (with_reducible assumption)) ?_) | (refine' g_nested (by (with_reducible assumption)) (by (with_reducible assumption)) ?_) | (refine' g_cases (by (with_reducible assumption)) (by (with_reducible assumption)) ?_) | (refine' g_case (by (with_reducible assumption)) (by (with_reducible assumption)) ?_) | (refine' g_keys (by (with_reducible assumption)) (by (with_reducible assumption)) ?_) | (refine' pushO (by (with_reducible assumption)) (by (with_reducible assumption)) ?_) | (refine' popO (by (with_reducible assumption)) (by (with_reducible assumption)) ?_) | (refine' push0_u (by (with_reducible assumption)) (by (first | (with_reducible assumption) | exact Bd.R0 (by with_reducible assumption) | exact Bd.l0 (by with_reducible assumption) | exact Bd.r0 (by with_reducible assumption))) ?_) | (refine' tuple_tup_u ?_) | (refine' list_tup_u (by exact Nat.le_of_ble_eq_true rfl) ?_) | (refine' list_list_u (by exact Nat.le_of_ble_eq_true rfl) ?_) | (refine' pop_u (by (with_reducible assumption)) (by (with_reducible assumption)) (by (with_reducible assumption)) ?_; intro _) | (exact ⟨rfl, rfl⟩) | (refine' And.intro rfl ?_))
  refine behind_u ok hw hcs (gl0_ok c) (by rfl) ⟨rfl, rfl⟩ ⟨rfl, rfl⟩ ?_
  repeat' (first | (refine' BK.dT (by decide +kernel) ?_) | (refine' BK.dF (by decide +kernel) ?_) | (refine' BK.dT (by exact rfl) ?_) | (refine' BK.dF (by exact rfl) ?_) | (refine' SwOb.two (by with_unfolding_all rfl) ?_) | (refine' SwOb.none (by with_unfolding_all rfl) ?_) | (refine' note_u (by (with_reducible assumption)) (by (with_reducible assumption)) (by (exact Room.le (by with_reducible assumption) (by first | decide | omega))) (by (first | (with_reducible assumption) | exact Bd.R0 (by with_reducible assumption) | exact Bd.l0 (by with_reducible assumption) | exact Bd.r0 (by with_reducible assumption))) (by (first | (with_reducible assumption) | exact Bd.R0 (by with_reducible assumption) | exact Bd.l0 (by with_reducible assumption) | exact Bd.r0 (by with_reducible assumption))) ?_) | (refine' ahead_u (by (with_reducible assumption)) (by (with_reducible assumption)) (by (exact Room.le (by with_reducible assumption) (by first | decide | omega))) (by (first | (with_reducible assumption) | exact Bd.R0 (by with_reducible assumption) | exact Bd.l0 (by with_reducible assumption) | exact Bd.r0 (by with_reducible assumption))) (by (first | (with_reducible assumption) | exact Bd.R0 (by with_reducible assumption) | exact Bd.l0 (by with_reducible assumption) | exact Bd.r0 (by with_reducible assumption))) ?_) | (refine' tellT_u (by (with_reducible assumption)) (by (with_reducible assumption)) (by (exact Room.le (by with_reducible assumption) (by first | decide | omega))) (by (first | (with_reducible assumption) | exact Bd.R0 (by with_reducible assumption) | exact Bd.l0 (by with_reducible assumption) | exact Bd.r0 (by with_reducible assumption))) (by (first | (with_reducible assumption) | exact Bd.R0 (by with_reducible assumption) | exact Bd.l0 (by with_reducible assumption) | exact Bd.r0 (by with_reducible assumption))) ?_) | (refine' tellL_u (by (with_reducible assumption)) (by (with_reducible assumption)) (by (exact Room.le (by with_reducible assumption) (by first | decide | omega))) (by (first | (with_reducible assumption) | exact Bd.R0 (by with_reducible assumption) | exact Bd.l0 (by with_reducible assumption) | exact Bd.r0 (by with_reducible assumption))) (by (first | (with_reducible assumption) | exact Bd.R0 (by with_reducible assumption) | exact Bd.l0 (by with_reducible assumption) | exact Bd.r0 (by with_reducible assumption))) ?_) | (refine' tr_use (by (first | (with_reducible assumption) | assumption)) (by (with_reducible assumption)) rfl (by (exact Room.le (by with_reducible assumption) (by first | decide | omega))) ?_) | (refine' all_u (by (first | (with_reducible assumption) | assumption | exact AllT.nil | (refine' AllT.tree (by (first | (with_reducible assumption) | assumption)) (by (first | (with_reducible assumption) | assumption | exact AllT.nil | (refine' AllT.tree (by (first | (with_reducible assumption) | assumption)) (by (first | (with_reducible assumption) | assumption | exact AllT.nil | (refine' AllT.tree (by (first | (with_reducible assumption) | assumption)) (by (first | (with_reducible assumption) | assumption | exact AllT.nil | (refine' AllT.tree (by (first | (with_reducible assumption) | assumption)) (by (first | (with_reducible assumption) | assumption | exact AllT.nil | (refine' AllT.tree (by (first | (with_reducible assumption) | assumption)) (by (first | (with_reducible assumption) | assumption | exact AllT.nil | (refine' AllT.tree (by (first | (with_reducible assumption) | assumption)) (by (first | (with_reducible assumption) | assumption | exact AllT.nil | (refine' AllT.tree (by fail) (by fail)))))))))))))))))))))) (by (with_reducible assumption)) (by (with_reducible assumption)) (by (exact Room.le (by with_reducible assumption) (by first | decide | omega))) ?_) | (refine' allL_u (by (first | (with_reducible assumption) | assumption | exact AllT.nil | (refine' AllT.tree (by (first | (with_reducible assumption) | assumption)) (by (first | (with_reducible assumption) | assumption | exact AllT.nil | (refine' AllT.tree (by (first | (with_reducible assumption) | assumption)) (by (first | (with_reducible assumption) | assumption | exact AllT.nil | (refine' AllT.tree (by (first | (with_reducible assumption) | assumption)) (by (first | (with_reducible assumption) | assumption | exact AllT.nil | (refine' AllT.tree (by (first | (with_reducible assumption) | assumption)) (by (first | (with_reducible assumption) | assumption | exact AllT.nil | (refine' AllT.tree (by (first | (with_reducible assumption) | assumption)) (by (first | (with_reducible assumption) | assumption | exact AllT.nil | (refine' AllT.tree (by (first | (with_reducible assumption) | assumption)) (by (first | (with_reducible assumption) | assumption | exact AllT.nil | (refine' AllT.tree (by fail) (by fail)))))))))))))))))))))) (by (with_reducible assumption)) (by (with_reducible assumption)) (by (exact Room.le (by with_reducible assumption) (by first | decide | omega))) ?_) | (refine' np_use (by (with_reducible assumption)) (by (with_reducible assumption)) rfl (by (with_reducible assumption)) (by omega) ?_) | (refine' isi_u (by constructor) ?_) | (refine' len_tup_u (by exact Nat.le_of_ble_eq_true rfl) ?_) | (refine' pkg_u (by (with_reducible assumption)) (by (with_reducible assumption)) (by (exact Room.le (by with_reducible assumption) (by first | decide | omega))) ?_) | (refine' told_u (by (with_reducible assumption)) (by (with_reducible assumption)) (by (exact Room.le (by with_reducible assumption) (by first | decide | omega))) (by (first | (with_reducible assumption) | exact Bd.R0 (by with_reducible assumption) | exact Bd.l0 (by with_reducible assumption) | exact Bd.r0 (by with_reducible assumption))) ?_) | (refine' g_note (by (with_reducible assumption)) (by (with_reducible assumption)) ?_) | (refine' g_ahead (by (with_reducible assumption)) (by (with_reducible assumption)) ?_) | (refine' g_told (by (with_reducible assumption)) (by (with_reducible assumption)) ?_) | (refine' g_pkg (by (with_reducible assumption)) (by (with_reducible assumption)) ?_) | (refine' g_tell (by (with_reducible assumption)) (by (with_reducible assumption)) ?_) | (refine' g_all (by (with_reducible assumption)) (by (with_reducible assumption)) ?_) | (refine' g_within (by (with_reducible assumption)) (by (with_reducible assumption)) ?_) | (refine' g_tree (by (with_reducible assumption)) (by (with_reducible assumption)) ?_) | (refine' g_parts (by (with_reducible assumption)) (by (with_reducible assumption)) ?_) | (refine' g_func (by (with_reducible assumption)) (by (with_reducible assumption)) ?_) | (refine' g_lit (by (with_reducible assumption)) (by (with_reducible assumption)) ?_) | (refine' g_decl (by (with_reducible assumption)) (by (with_reducible assumption)) ?_) | (refine' g_nested (by (with_reducible assumption)) (by (with_reducible assumption)) ?_) | (refine' g_cases (by (with_reducible assumption)) (by (with_reducible assumption)) ?_) | (refine' g_case (by (with_reducible assumption)) (by (with_reducible assumption)) ?_) | (refine' g_keys (by (with_reducible assumption)) (by (with_reducible assumption)) ?_) | (refine' pushO (by (with_reducible assumption)) (by (with_reducible assumption)) ?_) | (refine' popO (by (with_reducible assumption)) (by (with_reducible assumption)) ?_) | (refine' push0_u (by (with_reducible assumption)) (by (first | (with_reducible assumption) | exact Bd.R0 (by with_reducible assumption) | exact Bd.l0 (by with_reducible assumption) | exact Bd.r0 (by with_reducible assumption))) ?_) | (refine' tuple_tup_u ?_) | (refine' list_tup_u (by exact Nat.le_of_ble_eq_true rfl) ?_) | (refine' list_list_u (by exact Nat.le_of_ble_eq_true rfl) ?_) | (refine' pop_u (by (with_reducible assumption)) (by (with_reducible assumption)) (by (with_reducible assumption)) ?_; intro _) | (exact ⟨rfl, rfl⟩) | (refine' And.intro rfl ?_))
end
noncomputable def PTR (w : World) (fk : FK) (sa dx : Addr) (g : GX) (D : Nat) (X : V) (s s1 : FS) : Prop := CT (IF w fk sa dx) g D (.ref 99) [.raw (.ref sa), X] s (NP s1)
inductive PtT (P Pr : V → FS → FS → Prop) : List V → FS → FS → Prop
  | nil {s : FS} : PtT P Pr [] s s
  | str {x : Str} {Xs : List V} {s s' : FS} : PtT P Pr Xs s s' → PtT P Pr (.str x :: Xs) s s'
  | bool {b : Bool} {Xs : List V} {s s' : FS} : PtT P Pr Xs s s' → PtT P Pr (.bool b :: Xs) s s'
  | empty {Xs : List V} {s s' : FS} : PtT P Pr Xs s s' → PtT P Pr (.tup [] :: Xs) s s'
  | tree {k : Str} {i : Int} {ys Xs : List V} {s s1 s' : FS} : ys.length ≤ 900 → P (.tup (.str k :: .int i :: ys)) s s1 → PtT P Pr Xs s1 s' → PtT P Pr (.tup (.str k :: .int i :: ys) :: Xs) s s'
  | sub {zs ys Xs : List V} {s s1 s' : FS} : Pr (.tup (.tup zs :: ys)) s s1 → PtT P Pr Xs s1 s' → PtT P Pr (.tup (.tup zs :: ys) :: Xs) s s'
theorem parts_c {w : World} {fk : FK} {sa dx : Addr} {g : GX} {D : Nat} {Xs : List V} {s s' : FS} (hw : g.w = w) (h : PtT (TR w fk sa dx g D) (PTR w fk sa dx g D) Xs s s') : PTR w fk sa dx g (D + 1) (.tup Xs) s s' := by
  refine def_vc (dX := []) (dv := []) gl0 [Str.ofString "self", Str.ofString "parts"] (by rfl) (by rfl) (fun h vs _ _ hl gs dr tk os => ?_) .nil (by rfl) (by rfl) (by rfl) (by rfl) (by rfl) (by rfl) (fun c _ => gl0_ok c) fun c ok hg hr => ?_
  · obtain ⟨a, b, rfl⟩ := len2 hl
    exact BindsTo.of_eq rfl
  subst hg
  refine vFor_ind (fun Ys M t => PtT (TR w fk sa dx c.g D) (PTR w fk sa dx c.g D) Ys t s' ∧ ∀ y, y ≠ Str.ofString "part" → M y = (([Str.ofString "self", Str.ofString "parts"].zip [V.raw (.ref sa), .tup Xs]).reverse.lookup y)) ?_ ?_ _ _ _ ⟨h, fun _ _ => rfl⟩
  · rintro M t ⟨ha, _⟩
    cases ha
    exact ⟨rfl, rfl⟩
  · rintro X Ys M t ⟨ha, hM⟩ ih
    show vB _ _ (updV M (Str.ofString "part") X) t _
    rw [updV_eq hM]
    cases ha with
    | str ha =>
      refine isi_u .st (.f (.f ?_))
      exact ih _ _ ⟨ha, fun y hy => if_neg hy⟩
    | bool ha =>
      refine isi_u .bt (.f (.f ?_))
      exact ih _ _ ⟨ha, fun y hy => if_neg hy⟩
    | empty ha =>
      refine isi_u .tt (.t ?_)
      refine BK.f (.f ?_)
      exact ih _ _ ⟨ha, fun y hy => if_neg hy⟩
    | tree hl hP ha =>
      refine isi_u .tt (.t ?_)
      refine BK.t (.t ?_)
      refine isi_u .ss (.t ?_)
      refine len_tup_u (by simp only [List.length_cons]; omega) ?_
      refine BK.ltT (by simp only [List.length_cons]; omega) ?_
      refine isi_u .ii (.t (.t ?_))
      refine g_tree ok hw ?_
      refine tr_use hP ok rfl hr ?_
      exact ih _ _ ⟨ha, fun y hy => if_neg hy⟩
    | sub hP ha =>
      refine isi_u .tt (.t ?_)
      refine BK.t (.t ?_)
      refine isi_u .ts (.f (.f ?_))
      refine g_parts ok hw ?_
      refine np_use hP ok rfl hr (Nat.le_refl _) ?_
      exact ih _ _ ⟨ha, fun y hy => if_neg hy⟩
section
variable {w : World} {fk : FK} {sa dx : Addr} {g : GX} {D : Nat} {s s' : FS}
theorem t_else {k : Str} {i : Int} {ys : List V} (hw : g.w = w) (h1 : (k == cN "name") = false) (h2 : (k == cN "select") = false) (h3 : (k == cN "func") = false ∨ ys.length = 3) (h4 : (k == cN "lit") = false)
    (h5 : ([cN "define", cN "var", cN "const", cN "typedecl"].any (· == k)) = false) (h6 : ([cN "block", cN "if", cN "for", cN "range", cN "switch", cN "typeswitch", cN "choose"].any (· == k)) = false) (hl : ys.length ≤ 900)
    (hP : PtT (TR w fk sa dx g D) (PTR w fk sa dx g D) ys s s') : TR w fk sa dx g (D + 9) (.tup (.str k :: .int i :: ys)) s s' := by
  refine def_vc (dX := []) (dv := []) gl0 [Str.ofString "self", Str.ofString "tree"] (by rfl) (by rfl) (fun h vs _ _ hl gs dr tk os => ?_) .nil (by rfl) (by rfl) (by rfl) (by rfl) (by rfl) (by rfl) (fun c _ => gl0_ok c) fun c ok hg hr => ?_
  · obtain ⟨a, b, rfl⟩ := len2 hl
    exact BindsTo.of_eq rfl
  subst hg
  refine BK.dF h1 ?_
  refine BK.dF h2 ?_
  refine BK.s (fun hb => ?_) (fun _ => ?_)
  · refine len_tup_u (by simp only [List.length_cons]; omega) ?_
    refine BK.eqF (by rcases h3 with e | e; (rw [e] at hb; cases hb); (simp only [List.length_cons, e]; decide)) ?_
    refine BK.f ?_
    refine BK.dF h4 ?_
    refine BK.dF h5 ?_
    refine BK.dF h6 ?_
    refine g_parts ok hw ?_
    refine ⟨by simp only [List.length_cons, Bool.and_eq_true]; exact ⟨⟨rfl, Nat.ble_eq_true_of_le (by omega)⟩, Nat.ble_eq_true_of_le (by omega)⟩, ?_⟩
    refine np_use (parts_c hw hP) ok rfl hr (by omega) ?_
    exact ⟨rfl, rfl⟩
  · refine BK.f ?_
    refine BK.dF h4 ?_
    refine BK.dF h5 ?_
    refine BK.dF h6 ?_
    refine g_parts ok hw ?_
    refine ⟨by simp only [List.length_cons, Bool.and_eq_true]; exact ⟨⟨rfl, Nat.ble_eq_true_of_le (by omega)⟩, Nat.ble_eq_true_of_le (by omega)⟩, ?_⟩
    refine np_use (parts_c hw hP) ok rfl hr (by omega) ?_
    exact ⟨rfl, rfl⟩
theorem t_slice {x : T} (hw : g.w = w) (h : ∃ k i ys, (tv x).1 = .tup (.str k :: .int i :: ys) ∧ ys.length ≤ 900) (hx : TR w fk sa dx g D (tv x).1 s s') : TR w fk sa dx g (D + 9) (tv (.slice x)).1 s s' := by
  obtain ⟨k, i, ys, e, hl⟩ := h
  refine t_else (k := cN "slice") hw (by decide +kernel) (by decide +kernel) (.inl (by decide +kernel)) (by decide +kernel) (by decide +kernel) (by decide +kernel) (Nat.le_of_ble_eq_true rfl) ?_
  show PtT _ _ [(tv x).1] _ _
  rw [e] at hx ⊢
  exact .tree hl hx .nil
theorem t_expr {x : T} (hw : g.w = w) (h : ∃ k i ys, (tv x).1 = .tup (.str k :: .int i :: ys) ∧ ys.length ≤ 900) (hx : TR w fk sa dx g D (tv x).1 s s') : TR w fk sa dx g (D + 9) (tv (.expr x)).1 s s' := by
  obtain ⟨k, i, ys, e, hl⟩ := h
  refine t_else (k := cN "expr") hw (by decide +kernel) (by decide +kernel) (.inl (by decide +kernel)) (by decide +kernel) (by decide +kernel) (by decide +kernel) (Nat.le_of_ble_eq_true rfl) ?_
  show PtT _ _ [(tv x).1] _ _
  rw [e] at hx ⊢
  exact .tree hl hx .nil
theorem t_step {x : T} (hw : g.w = w) (h : ∃ k i ys, (tv x).1 = .tup (.str k :: .int i :: ys) ∧ ys.length ≤ 900) (hx : TR w fk sa dx g D (tv x).1 s s') : TR w fk sa dx g (D + 9) (tv (.step x)).1 s s' := by
  obtain ⟨k, i, ys, e, hl⟩ := h
  refine t_else (k := cN "step") hw (by decide +kernel) (by decide +kernel) (.inl (by decide +kernel)) (by decide +kernel) (by decide +kernel) (by decide +kernel) (Nat.le_of_ble_eq_true rfl) ?_
  show PtT _ _ [(tv x).1, _] _ _
  rw [e] at hx ⊢
  exact .tree hl hx (.str .nil)
theorem t_binary {x : T} {nm : Str} (hw : g.w = w) (hD : 60 ≤ D) (hb : Bd s 0 1) (h : ∃ k i ys, (tv x).1 = .tup (.str k :: .int i :: ys) ∧ ys.length ≤ 900) (hx : TR w fk sa dx g D (tv x).1 (s.note wF nm) s') : TR w fk sa dx g (D + 9) (tv (.binary nm x)).1 s s' := by
  obtain ⟨k, i, ys, e, hl⟩ := h
  refine t_else (k := cN "binary") hw (by decide +kernel) (by decide +kernel) (.inl (by decide +kernel)) (by decide +kernel) (by decide +kernel) (by decide +kernel) (Nat.le_of_ble_eq_true rfl) ?_
  show PtT _ _ [_, nmV nm, (tv x).1] _ _
  rw [e] at hx ⊢
  exact .str (.tree (Nat.le_of_ble_eq_true rfl) ((t_name hw hb).le hD) (.tree hl hx .nil))
theorem t_call {x : T} {nm : Str} (hw : g.w = w) (hD : 60 ≤ D) (hb : Bd s 0 1) (h : ∃ k i ys, (tv x).1 = .tup (.str k :: .int i :: ys) ∧ ys.length ≤ 900) (hx : TR w fk sa dx g D (tv x).1 (s.note wF nm) s') : TR w fk sa dx g (D + 10) (tv (.call nm x)).1 s s' := by
  obtain ⟨k, i, ys, e, hl⟩ := h
  refine t_else (D := D + 1) (k := cN "call") hw (by decide +kernel) (by decide +kernel) (.inl (by decide +kernel)) (by decide +kernel) (by decide +kernel) (by decide +kernel) (Nat.le_of_ble_eq_true rfl) ?_
  show PtT _ _ [nmV nm, .tup [(tv x).1], .bool false] _ _
  rw [e] at hx ⊢
  exact .tree (Nat.le_of_ble_eq_true rfl) ((t_name hw hb).le (by omega)) (.sub (parts_c hw (.tree hl hx .nil)) (.bool .nil))
/-- the type of a func literal -/
theorem t_fty {x : T} (hw : g.w = w) (h : ∃ k i ys, (tv x).1 = .tup (.str k :: .int i :: ys) ∧ ys.length ≤ 900) (hx : TR w fk sa dx g D (tv x).1 s s') : TR w fk sa dx g (D + 10) (.tup [.str (cN "func"), .int 1, .tup [(tv x).1], .tup [], .bool false]) s s' := by
  obtain ⟨k, i, ys, e, hl⟩ := h
  refine t_else (D := D + 1) (k := cN "func") hw (by decide +kernel) (by decide +kernel) (.inr rfl) (by decide +kernel) (by decide +kernel) (by decide +kernel) (Nat.le_of_ble_eq_true rfl) ?_
  rw [e] at hx ⊢
  exact .sub (parts_c hw (.tree hl hx .nil)) (.empty (.bool .nil))
end
theorem len5 {α : Type} {vs : List α} (h : vs.length = 5) : ∃ a b d e f, vs = [a, b, d, e, f] := by
  match vs, h with
  | [a, b, d, e, f], _ => exact ⟨a, b, d, e, f, rfl⟩
theorem keys_c {σ : Type} {I : II σ} [IMono I] {g : GX} {k : Str} {ys : List V} {s : σ} : CT I g 20 (.ref 158) [.tup (.str k :: ys)] s (fun _ s' => s' = s) := by
  refine def_vc (dX := []) (dv := []) gl0 [Str.ofString "typex"] (by rfl) (by rfl) (fun h vs _ _ hl gs dr tk os => ?_) .nil (by rfl) (by rfl) (by rfl) (by rfl) (by rfl) (by rfl) (fun c _ => gl0_ok c) fun c ok hg hr => ?_
  · obtain ⟨a, rfl⟩ := len1 hl
    exact BindsTo.of_eq rfl
  refine BK.s (fun _ => rfl) (fun _ => ?_)
  exact BK.s (fun _ => rfl) (fun _ => rfl)
theorem keys_u {σ : Type} {I : II σ} [IMono I] {c : Cx} {M : MV} {K : KV σ} {k : Str} {ys : List V} {s : σ} (ok : c.Ok) (hr : Room c 20) (h : ∀ Y, K Y s) : CW I c M (.ref 158) [.tup (.str k :: ys)] s K :=
  keys_c.use ok rfl hr (by rintro Y t rfl; exact h Y)
section
variable {w : World} {fk : FK} {sa dx : Addr} {g : GX} {D : Nat} {s s1 s2 : FS}
theorem func_c {x : Str} {fy bys : List V} {r : List Str} {R : List (List Str)} (hw : g.w = w) (hT : TR w fk sa dx g D (.tup fy) s s1) (hB : TR w fk sa dx g D (.tup bys) (s1.push [x]) s2) (h1 : s1.R.length ≤ 900) (hR : s2.R = r :: R) (h3 : R.length ≤ 900) :
    CT (IF w fk sa dx) g (D + 4) (.ref 106) [.raw (.ref sa), .tup fy, .tup [.str x], .tup [], .tup bys] s (NP s2.pop) := by
  refine def_vc (dX := []) (dv := []) gl0 [Str.ofString "self", Str.ofString "typex", Str.ofString "params", Str.ofString "results", Str.ofString "block"] (by rfl) (by rfl) (fun h vs _ _ hl gs dr tk os => ?_) .nil (by rfl) (by rfl) (by rfl) (by rfl) (by rfl) (by rfl) (fun c _ => gl0_ok c) fun c ok hg hr => ?_
  · obtain ⟨a, b, d, e, f, rfl⟩ := len5 hl
    exact BindsTo.of_eq rfl
  subst hg
  refine g_tree ok hw ?_
  refine tr_use hT ok rfl (hr.le (by omega)) ?_
  refine g_within ok hw ?_
  refine list_tup_u (Nat.le_of_ble_eq_true rfl) ?_
  refine list_tup_u (Nat.le_of_ble_eq_true rfl) ?_
  refine .ll (Nat.le_of_ble_eq_true rfl) ?_
  refine np_use (within_c (names := [x]) (tX := .list [.tup bys]) hw (all_cL hw (.tree hB .nil)) h1 (by simp) hR h3) ok rfl hr (by omega) ?_
  exact ⟨rfl, rfl⟩
theorem t_func {x : Str} {ty b : T} {r : List Str} {R : List (List Str)} (hw : g.w = w) (hT : TR w fk sa dx g D (.tup [.str (cN "func"), .int 1, .tup [(tv ty).1], .tup [], .bool false]) s s1) (hB : TR w fk sa dx g D (tv (.block b)).1 (s1.push [x]) s2) (h1 : s1.R.length ≤ 900) (hR : s2.R = r :: R) (h3 : R.length ≤ 900) :
    TR w fk sa dx g (D + 10) (tv (.func ty x b)).1 s s2.pop := by
  refine def_vc (dX := []) (dv := []) gl0 [Str.ofString "self", Str.ofString "tree"] (by rfl) (by rfl) (fun h vs _ _ hl gs dr tk os => ?_) .nil (by rfl) (by rfl) (by rfl) (by rfl) (by rfl) (by rfl) (fun c _ => gl0_ok c) fun c ok hg hr => ?_
  · obtain ⟨a, b, rfl⟩ := len2 hl
    exact BindsTo.of_eq rfl
  subst hg
  repeat' (first | (refine' BK.dT (by decide +kernel) ?_) | (refine' BK.dF (by decide +kernel) ?_) | (refine' BK.dT (by exact rfl) ?_) | (refine' BK.dF (by exact rfl) ?_) | (refine' SwOb.two (by with_unfolding_all rfl) ?_) | (refine' SwOb.none (by with_unfolding_all rfl) ?_) | (refine' note_u (by (with_reducible assumption)) (by (with_reducible assumption)) (by (exact Room.le (by with_reducible assumption) (by first | decide | omega))) (by (first | (with_reducible assumption) | exact Bd.R0 (by with_reducible assumption) | exact Bd.l0 (by with_reducible assumption) | exact Bd.r0 (by with_reducible assumption))) (by (first | (with_reducible assumption) | exact Bd.R0 (by with_reducible assumption) | exact Bd.l0 (by with_reducible assumption) | exact Bd.r0 (by with_reducible assumption))) ?_) | (refine' ahead_u (by (with_reducible assumption)) (by (with_reducible assumption)) (by (exact Room.le (by with_reducible assumption) (by first | decide | omega))) (by (first | (with_reducible assumption) | exact Bd.R0 (by with_reducible assumption) | exact Bd.l0 (by with_reducible assumption) | exact Bd.r0 (by with_reducible assumption))) (by (first | (with_reducible assumption) | exact Bd.R0 (by with_reducible assumption) | exact Bd.l0 (by with_reducible assumption) | exact Bd.r0 (by with_reducible assumption))) ?_) | (refine' tellT_u (by (with_reducible assumption)) (by (with_reducible assumption)) (by (exact Room.le (by with_reducible assumption) (by first | decide | omega))) (by (first | (with_reducible assumption) | exact Bd.R0 (by with_reducible assumption) | exact Bd.l0 (by with_reducible assumption) | exact Bd.r0 (by with_reducible assumption))) (by (first | (with_reducible assumption) | exact Bd.R0 (by with_reducible assumption) | exact Bd.l0 (by with_reducible assumption) | exact Bd.r0 (by with_reducible assumption))) ?_) | (refine' tellL_u (by (with_reducible assumption)) (by (with_reducible assumption)) (by (exact Room.le (by with_reducible assumption) (by first | decide | omega))) (by (first | (with_reducible assumption) | exact Bd.R0 (by with_reducible assumption) | exact Bd.l0 (by with_reducible assumption) | exact Bd.r0 (by with_reducible assumption))) (by (first | (with_reducible assumption) | exact Bd.R0 (by with_reducible assumption) | exact Bd.l0 (by with_reducible assumption) | exact Bd.r0 (by with_reducible assumption))) ?_) | (refine' tr_use (by (first | (with_reducible assumption) | assumption)) (by (with_reducible assumption)) rfl (by (exact Room.le (by with_reducible assumption) (by first | decide | omega))) ?_) | (refine' all_u (by (first | (with_reducible assumption) | assumption | exact AllT.nil | (refine' AllT.tree (by (first | (with_reducible assumption) | assumption)) (by (first | (with_reducible assumption) | assumption | exact AllT.nil | (refine' AllT.tree (by (first | (with_reducible assumption) | assumption)) (by (first | (with_reducible assumption) | assumption | exact AllT.nil | (refine' AllT.tree (by (first | (with_reducible assumption) | assumption)) (by (first | (with_reducible assumption) | assumption | exact AllT.nil | (refine' AllT.tree (by (first | (with_reducible assumption) | assumption)) (by (first | (with_reducible assumption) | assumption | exact AllT.nil | (refine' AllT.tree (by (first | (with_reducible assumption) | assumption)) (by (first | (with_reducible assumption) | assumption | exact AllT.nil | (refine' AllT.tree (by (first | (with_reducible assumption) | assumption)) (by (first | (with_reducible assumption) | assumption | exact AllT.nil | (refine' AllT.tree (by fail) (by fail)))))))))))))))))))))) (by (with_reducible assumption)) (by (with_reducible assumption)) (by (exact Room.le (by with_reducible assumption) (by first | decide | omega))) ?_) | (refine' allL_u (by (first | (with_reducible assumption) | assumption | exact AllT.nil | (refine' AllT.tree (by (first | (with_reducible assumption) | assumption)) (by (first | (with_reducible assumption) | assumption | exact AllT.nil | (refine' AllT.tree (by (first | (with_reducible assumption) | assumption)) (by (first | (with_reducible assumption) | assumption | exact AllT.nil | (refine' AllT.tree (by (first | (with_reducible assumption) | assumption)) (by (first | (with_reducible assumption) | assumption | exact AllT.nil | (refine' AllT.tree (by (first | (with_reducible assumption) | assumption)) (by (first | (with_reducible assumption) | assumption | exact AllT.nil | (refine' AllT.tree (by (first | (with_reducible assumption) | assumption)) (by (first | (with_reducible assumption) | assumption | exact AllT.nil | (refine' AllT.tree (by (first | (with_reducible assumption) | assumption)) (by (first | (with_reducible assumption) | assumption | exact AllT.nil | (refine' AllT.tree (by fail) (by fail)))))))))))))))))))))) (by (with_reducible assumption)) (by (with_reducible assumption)) (by (exact Room.le (by with_reducible assumption) (by first | decide | omega))) ?_) | (refine' np_use (by (with_reducible assumption)) (by (with_reducible assumption)) rfl (by (with_reducible assumption)) (by omega) ?_) | (refine' isi_u (by constructor) ?_) | (refine' len_tup_u (by exact Nat.le_of_ble_eq_true rfl) ?_) | (refine' pkg_u (by (with_reducible assumption)) (by (with_reducible assumption)) (by (exact Room.le (by with_reducible assumption) (by first | decide | omega))) ?_) | (refine' told_u (by (with_reducible assumption)) (by (with_reducible assumption)) (by (exact Room.le (by with_reducible assumption) (by first | decide | omega))) (by (first | (with_reducible assumption) | exact Bd.R0 (by with_reducible assumption) | exact Bd.l0 (by with_reducible assumption) | exact Bd.r0 (by with_reducible assumption))) ?_) | (refine' g_note (by (with_reducible assumption)) (by (with_reducible assumption)) ?_) | (refine' g_ahead (by (with_reducible assumption)) (by (with_reducible assumption)) ?_) | (refine' g_told (by (with_reducible assumption)) (by (with_reducible assumption)) ?_) | (refine' g_pkg (by (with_reducible assumption)) (by (with_reducible assumption)) ?_) | (refine' g_tell (by (with_reducible assumption)) (by (with_reducible assumption)) ?_) | (refine' g_all (by (with_reducible assumption)) (by (with_reducible assumption)) ?_) | (refine' g_within (by (with_reducible assumption)) (by (with_reducible assumption)) ?_) | (refine' g_tree (by (with_reducible assumption)) (by (with_reducible assumption)) ?_) | (refine' g_parts (by (with_reducible assumption)) (by (with_reducible assumption)) ?_) | (refine' g_func (by (with_reducible assumption)) (by (with_reducible assumption)) ?_) | (refine' g_lit (by (with_reducible assumption)) (by (with_reducible assumption)) ?_) | (refine' g_decl (by (with_reducible assumption)) (by (with_reducible assumption)) ?_) | (refine' g_nested (by (with_reducible assumption)) (by (with_reducible assumption)) ?_) | (refine' g_cases (by (with_reducible assumption)) (by (with_reducible assumption)) ?_) | (refine' g_case (by (with_reducible assumption)) (by (with_reducible assumption)) ?_) | (refine' g_keys (by (with_reducible assumption)) (by (with_reducible assumption)) ?_) | (refine' pushO (by (with_reducible assumption)) (by (with_reducible assumption)) ?_) | (refine' popO (by (with_reducible assumption)) (by (with_reducible assumption)) ?_) | (refine' push0_u (by (with_reducible assumption)) (by (first | (with_reducible assumption) | exact Bd.R0 (by with_reducible assumption) | exact Bd.l0 (by with_reducible assumption) | exact Bd.r0 (by with_reducible assumption))) ?_) | (refine' tuple_tup_u ?_) | (refine' list_tup_u (by exact Nat.le_of_ble_eq_true rfl) ?_) | (refine' list_list_u (by exact Nat.le_of_ble_eq_true rfl) ?_) | (refine' pop_u (by (with_reducible assumption)) (by (with_reducible assumption)) (by (with_reducible assumption)) ?_; intro _) | (exact ⟨rfl, rfl⟩) | (refine' And.intro rfl ?_))
  refine np_use (func_c (x := x) hw hT hB h1 hR h3) ok rfl hr (by omega) ?_
  exact ⟨rfl, rfl⟩
end
section
variable {w : World} {fk : FK} {sa dx : Addr} {g : GX} {D : Nat} {s s1 s2 : FS}
theorem lit_plain {x z : Str} (hw : g.w = w) (hD : 45 ≤ D) (hT : TR w fk sa dx g D (V.tup [.str (cN "name"), .int 1, .none, .str z]) s s1) (hX : TR w fk sa dx g D (nmV x) s1 s2) (h1 : s1.R.length ≤ 900) :
    CT (IF w fk sa dx) g (D + 1) (.ref 120) [.raw (.ref sa), .tup [.str (cN "lit"), .int 1, V.tup [.str (cN "name"), .int 1, .none, .str z], .tup [.tup [.none, nmV x]]]] s (NP s2) := by
  refine def_vc (dX := []) (dv := []) gl0 [Str.ofString "self", Str.ofString "tree"] (by rfl) (by rfl) (fun h vs _ _ hl gs dr tk os => ?_) .nil (by rfl) (by rfl) (by rfl) (by rfl) (by rfl) (by rfl) (fun c _ => gl0_ok c) fun c ok hg hr => ?_
  · obtain ⟨a, b, rfl⟩ := len2 hl
    exact BindsTo.of_eq rfl
  subst hg
  repeat' (first | (refine' BK.dT (by decide +kernel) ?_) | (refine' BK.dF (by decide +kernel) ?_) | (refine' BK.dT (by exact rfl) ?_) | (refine' BK.dF (by exact rfl) ?_) | (refine' SwOb.two (by with_unfolding_all rfl) ?_) | (refine' SwOb.none (by with_unfolding_all rfl) ?_) | (refine' note_u (by (with_reducible assumption)) (by (with_reducible assumption)) (by (exact Room.le (by with_reducible assumption) (by first | decide | omega))) (by (first | (with_reducible assumption) | exact Bd.R0 (by with_reducible assumption) | exact Bd.l0 (by with_reducible assumption) | exact Bd.r0 (by with_reducible assumption))) (by (first | (with_reducible assumption) | exact Bd.R0 (by with_reducible assumption) | exact Bd.l0 (by with_reducible assumption) | exact Bd.r0 (by with_reducible assumption))) ?_) | (refine' ahead_u (by (with_reducible assumption)) (by (with_reducible assumption)) (by (exact Room.le (by with_reducible assumption) (by first | decide | omega))) (by (first | (with_reducible assumption) | exact Bd.R0 (by with_reducible assumption) | exact Bd.l0 (by with_reducible assumption) | exact Bd.r0 (by with_reducible assumption))) (by (first | (with_reducible assumption) | exact Bd.R0 (by with_reducible assumption) | exact Bd.l0 (by with_reducible assumption) | exact Bd.r0 (by with_reducible assumption))) ?_) | (refine' tellT_u (by (with_reducible assumption)) (by (with_reducible assumption)) (by (exact Room.le (by with_reducible assumption) (by first | decide | omega))) (by (first | (with_reducible assumption) | exact Bd.R0 (by with_reducible assumption) | exact Bd.l0 (by with_reducible assumption) | exact Bd.r0 (by with_reducible assumption))) (by (first | (with_reducible assumption) | exact Bd.R0 (by with_reducible assumption) | exact Bd.l0 (by with_reducible assumption) | exact Bd.r0 (by with_reducible assumption))) ?_) | (refine' tellL_u (by (with_reducible assumption)) (by (with_reducible assumption)) (by (exact Room.le (by with_reducible assumption) (by first | decide | omega))) (by (first | (with_reducible assumption) | exact Bd.R0 (by with_reducible assumption) | exact Bd.l0 (by with_reducible assumption) | exact Bd.r0 (by with_reducible assumption))) (by (first | (with_reducible assumption) | exact Bd.R0 (by with_reducible assumption) | exact Bd.l0 (by with_reducible assumption) | exact Bd.r0 (by with_reducible assumption))) ?_) | (refine' tr_use (by (first | (with_reducible assumption) | assumption)) (by (with_reducible assumption)) rfl (by (exact Room.le (by with_reducible assumption) (by first | decide | omega))) ?_) | (refine' all_u (by (first | (with_reducible assumption) | assumption | exact AllT.nil | (refine' AllT.tree (by (first | (with_reducible assumption) | assumption)) (by (first | (with_reducible assumption) | assumption | exact AllT.nil | (refine' AllT.tree (by (first | (with_reducible assumption) | assumption)) (by (first | (with_reducible assumption) | assumption | exact AllT.nil | (refine' AllT.tree (by (first | (with_reducible assumption) | assumption)) (by (first | (with_reducible assumption) | assumption | exact AllT.nil | (refine' AllT.tree (by (first | (with_reducible assumption) | assumption)) (by (first | (with_reducible assumption) | assumption | exact AllT.nil | (refine' AllT.tree (by (first | (with_reducible assumption) | assumption)) (by (first | (with_reducible assumption) | assumption | exact AllT.nil | (refine' AllT.tree (by (first | (with_reducible assumption) | assumption)) (by (first | (with_reducible assumption) | assumption | exact AllT.nil | (refine' AllT.tree (by fail) (by fail)))))))))))))))))))))) (by (with_reducible assumption)) (by (with_reducible assumption)) (by (exact Room.le (by with_reducible assumption) (by first | decide | omega))) ?_) | (refine' allL_u (by (first | (with_reducible assumption) | assumption | exact AllT.nil | (refine' AllT.tree (by (first | (with_reducible assumption) | assumption)) (by (first | (with_reducible assumption) | assumption | exact AllT.nil | (refine' AllT.tree (by (first | (with_reducible assumption) | assumption)) (by (first | (with_reducible assumption) | assumption | exact AllT.nil | (refine' AllT.tree (by (first | (with_reducible assumption) | assumption)) (by (first | (with_reducible assumption) | assumption | exact AllT.nil | (refine' AllT.tree (by (first | (with_reducible assumption) | assumption)) (by (first | (with_reducible assumption) | assumption | exact AllT.nil | (refine' AllT.tree (by (first | (with_reducible assumption) | assumption)) (by (first | (with_reducible assumption) | assumption | exact AllT.nil | (refine' AllT.tree (by (first | (with_reducible assumption) | assumption)) (by (first | (with_reducible assumption) | assumption | exact AllT.nil | (refine' AllT.tree (by fail) (by fail)))))))))))))))))))))) (by (with_reducible assumption)) (by (with_reducible assumption)) (by (exact Room.le (by with_reducible assumption) (by first | decide | omega))) ?_) | (refine' np_use (by (with_reducible assumption)) (by (with_reducible assumption)) rfl (by (with_reducible assumption)) (by omega) ?_) | (refine' isi_u (by constructor) ?_) | (refine' len_tup_u (by exact Nat.le_of_ble_eq_true rfl) ?_) | (refine' pkg_u (by (with_reducible assumption)) (by (with_reducible assumption)) (by (exact Room.le (by with_reducible assumption) (by first | decide | omega))) ?_) | (refine' told_u (by (with_reducible assumption)) (by (with_reducible assumption)) (by (exact Room.le (by with_reducible assumption) (by first | decide | omega))) (by (first | (with_reducible assumption) | exact Bd.R0 (by with_reducible assumption) | exact Bd.l0 (by with_reducible assumption) | exact Bd.r0 (by with_reducible assumption))) ?_) | (refine' g_note (by (with_reducible assumption)) (by (with_reducible assumption)) ?_) | (refine' g_ahead (by (with_reducible assumption)) (by (with_reducible assumption)) ?_) | (refine' g_told (by (with_reducible assumption)) (by (with_reducible assumption)) ?_) | (refine' g_pkg (by (with_reducible assumption)) (by (with_reducible assumption)) ?_) | (refine' g_tell (by (with_reducible assumption)) (by (with_reducible assumption)) ?_) | (refine' g_all (by (with_reducible assumption)) (by (with_reducible assumption)) ?_) | (refine' g_within (by (with_reducible assumption)) (by (with_reducible assumption)) ?_) | (refine' g_tree (by (with_reducible assumption)) (by (with_reducible assumption)) ?_) | (refine' g_parts (by (with_reducible assumption)) (by (with_reducible assumption)) ?_) | (refine' g_func (by (with_reducible assumption)) (by (with_reducible assumption)) ?_) | (refine' g_lit (by (with_reducible assumption)) (by (with_reducible assumption)) ?_) | (refine' g_decl (by (with_reducible assumption)) (by (with_reducible assumption)) ?_) | (refine' g_nested (by (with_reducible assumption)) (by (with_reducible assumption)) ?_) | (refine' g_cases (by (with_reducible assumption)) (by (with_reducible assumption)) ?_) | (refine' g_case (by (with_reducible assumption)) (by (with_reducible assumption)) ?_) | (refine' g_keys (by (with_reducible assumption)) (by (with_reducible assumption)) ?_) | (refine' pushO (by (with_reducible assumption)) (by (with_reducible assumption)) ?_) | (refine' popO (by (with_reducible assumption)) (by (with_reducible assumption)) ?_) | (refine' push0_u (by (with_reducible assumption)) (by (first | (with_reducible assumption) | exact Bd.R0 (by with_reducible assumption) | exact Bd.l0 (by with_reducible assumption) | exact Bd.r0 (by with_reducible assumption))) ?_) | (refine' tuple_tup_u ?_) | (refine' list_tup_u (by exact Nat.le_of_ble_eq_true rfl) ?_) | (refine' list_list_u (by exact Nat.le_of_ble_eq_true rfl) ?_) | (refine' pop_u (by (with_reducible assumption)) (by (with_reducible assumption)) (by (with_reducible assumption)) ?_; intro _) | (exact ⟨rfl, rfl⟩) | (refine' And.intro rfl ?_))
  refine BK.s (fun _ => ?_) (fun _ => ?_)
  · repeat' (first | (refine' BK.dT (by decide +kernel) ?_) | (refine' BK.dF (by decide +kernel) ?_) | (refine' BK.dT (by exact rfl) ?_) | (refine' BK.dF (by exact rfl) ?_) | (refine' SwOb.two (by with_unfolding_all rfl) ?_) | (refine' SwOb.none (by with_unfolding_all rfl) ?_) | (refine' note_u (by (with_reducible assumption)) (by (with_reducible assumption)) (by (exact Room.le (by with_reducible assumption) (by first | decide | omega))) (by (first | (with_reducible assumption) | exact Bd.R0 (by with_reducible assumption) | exact Bd.l0 (by with_reducible assumption) | exact Bd.r0 (by with_reducible assumption))) (by (first | (with_reducible assumption) | exact Bd.R0 (by with_reducible assumption) | exact Bd.l0 (by with_reducible assumption) | exact Bd.r0 (by with_reducible assumption))) ?_) | (refine' ahead_u (by (with_reducible assumption)) (by (with_reducible assumption)) (by (exact Room.le (by with_reducible assumption) (by first | decide | omega))) (by (first | (with_reducible assumption) | exact Bd.R0 (by with_reducible assumption) | exact Bd.l0 (by with_reducible assumption) | exact Bd.r0 (by with_reducible assumption))) (by (first | (with_reducible assumption) | exact Bd.R0 (by with_reducible assumption) | exact Bd.l0 (by with_reducible assumption) | exact Bd.r0 (by with_reducible assumption))) ?_) | (refine' tellT_u (by (with_reducible assumption)) (by (with_reducible assumption)) (by (exact Room.le (by with_reducible assumption) (by first | decide | omega))) (by (first | (with_reducible assumption) | exact Bd.R0 (by with_reducible assumption) | exact Bd.l0 (by with_reducible assumption) | exact Bd.r0 (by with_reducible assumption))) (by (first | (with_reducible assumption) | exact Bd.R0 (by with_reducible assumption) | exact Bd.l0 (by with_reducible assumption) | exact Bd.r0 (by with_reducible assumption))) ?_) | (refine' tellL_u (by (with_reducible assumption)) (by (with_reducible assumption)) (by (exact Room.le (by with_reducible assumption) (by first | decide | omega))) (by (first | (with_reducible assumption) | exact Bd.R0 (by with_reducible assumption) | exact Bd.l0 (by with_reducible assumption) | exact Bd.r0 (by with_reducible assumption))) (by (first | (with_reducible assumption) | exact Bd.R0 (by with_reducible assumption) | exact Bd.l0 (by with_reducible assumption) | exact Bd.r0 (by with_reducible assumption))) ?_) | (refine' tr_use (by (first | (with_reducible assumption) | assumption)) (by (with_reducible assumption)) rfl (by (exact Room.le (by with_reducible assumption) (by first | decide | omega))) ?_) | (refine' all_u (by (first | (with_reducible assumption) | assumption | exact AllT.nil | (refine' AllT.tree (by (first | (with_reducible assumption) | assumption)) (by (first | (with_reducible assumption) | assumption | exact AllT.nil | (refine' AllT.tree (by (first | (with_reducible assumption) | assumption)) (by (first | (with_reducible assumption) | assumption | exact AllT.nil | (refine' AllT.tree (by (first | (with_reducible assumption) | assumption)) (by (first | (with_reducible assumption) | assumption | exact AllT.nil | (refine' AllT.tree (by (first | (with_reducible assumption) | assumption)) (by (first | (with_reducible assumption) | assumption | exact AllT.nil | (refine' AllT.tree (by (first | (with_reducible assumption) | assumption)) (by (first | (with_reducible assumption) | assumption | exact AllT.nil | (refine' AllT.tree (by (first | (with_reducible assumption) | assumption)) (by (first | (with_reducible assumption) | assumption | exact AllT.nil | (refine' AllT.tree (by fail) (by fail)))))))))))))))))))))) (by (with_reducible assumption)) (by (with_reducible assumption)) (by (exact Room.le (by with_reducible assumption) (by first | decide | omega))) ?_) | (refine' allL_u (by (first | (with_reducible assumption) | assumption | exact AllT.nil | (refine' AllT.tree (by (first | (with_reducible assumption) | assumption)) (by (first | (with_reducible assumption) | assumption | exact AllT.nil | (refine' AllT.tree (by (first | (with_reducible assumption) | assumption)) (by (first | (with_reducible assumption) | assumption | exact AllT.nil | (refine' AllT.tree (by (first | (with_reducible assumption) | assumption)) (by (first | (with_reducible assumption) | assumption | exact AllT.nil | (refine' AllT.tree (by (first | (with_reducible assumption) | assumption)) (by (first | (with_reducible assumption) | assumption | exact AllT.nil | (refine' AllT.tree (by (first | (with_reducible assumption) | assumption)) (by (first | (with_reducible assumption) | assumption | exact AllT.nil | (refine' AllT.tree (by (first | (with_reducible assumption) | assumption)) (by (first | (with_reducible assumption) | assumption | exact AllT.nil | (refine' AllT.tree (by fail) (by fail)))))))))))))))))))))) (by (with_reducible assumption)) (by (with_reducible assumption)) (by (exact Room.le (by with_reducible assumption) (by first | decide | omega))) ?_) | (refine' np_use (by (with_reducible assumption)) (by (with_reducible assumption)) rfl (by (with_reducible assumption)) (by omega) ?_) | (refine' isi_u (by constructor) ?_) | (refine' len_tup_u (by exact Nat.le_of_ble_eq_true rfl) ?_) | (refine' pkg_u (by (with_reducible assumption)) (by (with_reducible assumption)) (by (exact Room.le (by with_reducible assumption) (by first | decide | omega))) ?_) | (refine' told_u (by (with_reducible assumption)) (by (with_reducible assumption)) (by (exact Room.le (by with_reducible assumption) (by first | decide | omega))) (by (first | (with_reducible assumption) | exact Bd.R0 (by with_reducible assumption) | exact Bd.l0 (by with_reducible assumption) | exact Bd.r0 (by with_reducible assumption))) ?_) | (refine' g_note (by (with_reducible assumption)) (by (with_reducible assumption)) ?_) | (refine' g_ahead (by (with_reducible assumption)) (by (with_reducible assumption)) ?_) | (refine' g_told (by (with_reducible assumption)) (by (with_reducible assumption)) ?_) | (refine' g_pkg (by (with_reducible assumption)) (by (with_reducible assumption)) ?_) | (refine' g_tell (by (with_reducible assumption)) (by (with_reducible assumption)) ?_) | (refine' g_all (by (with_reducible assumption)) (by (with_reducible assumption)) ?_) | (refine' g_within (by (with_reducible assumption)) (by (with_reducible assumption)) ?_) | (refine' g_tree (by (with_reducible assumption)) (by (with_reducible assumption)) ?_) | (refine' g_parts (by (with_reducible assumption)) (by (with_reducible assumption)) ?_) | (refine' g_func (by (with_reducible assumption)) (by (with_reducible assumption)) ?_) | (refine' g_lit (by (with_reducible assumption)) (by (with_reducible assumption)) ?_) | (refine' g_decl (by (with_reducible assumption)) (by (with_reducible assumption)) ?_) | (refine' g_nested (by (with_reducible assumption)) (by (with_reducible assumption)) ?_) | (refine' g_cases (by (with_reducible assumption)) (by (with_reducible assumption)) ?_) | (refine' g_case (by (with_reducible assumption)) (by (with_reducible assumption)) ?_) | (refine' g_keys (by (with_reducible assumption)) (by (with_reducible assumption)) ?_) | (refine' pushO (by (with_reducible assumption)) (by (with_reducible assumption)) ?_) | (refine' popO (by (with_reducible assumption)) (by (with_reducible assumption)) ?_) | (refine' push0_u (by (with_reducible assumption)) (by (first | (with_reducible assumption) | exact Bd.R0 (by with_reducible assumption) | exact Bd.l0 (by with_reducible assumption) | exact Bd.r0 (by with_reducible assumption))) ?_) | (refine' tuple_tup_u ?_) | (refine' list_tup_u (by exact Nat.le_of_ble_eq_true rfl) ?_) | (refine' list_list_u (by exact Nat.le_of_ble_eq_true rfl) ?_) | (refine' pop_u (by (with_reducible assumption)) (by (with_reducible assumption)) (by (with_reducible assumption)) ?_; intro _) | (exact ⟨rfl, rfl⟩) | (refine' And.intro rfl ?_))
    refine keys_u (I := IF w fk sa dx) ok (by (exact Room.le (by with_reducible assumption) (by first | decide | omega))) fun Y => ?_
    repeat' (first | (refine' BK.dT (by decide +kernel) ?_) | (refine' BK.dF (by decide +kernel) ?_) | (refine' BK.dT (by exact rfl) ?_) | (refine' BK.dF (by exact rfl) ?_) | (refine' SwOb.two (by with_unfolding_all rfl) ?_) | (refine' SwOb.none (by with_unfolding_all rfl) ?_) | (refine' note_u (by (with_reducible assumption)) (by (with_reducible assumption)) (by (exact Room.le (by with_reducible assumption) (by first | decide | omega))) (by (first | (with_reducible assumption) | exact Bd.R0 (by with_reducible assumption) | exact Bd.l0 (by with_reducible assumption) | exact Bd.r0 (by with_reducible assumption))) (by (first | (with_reducible assumption) | exact Bd.R0 (by with_reducible assumption) | exact Bd.l0 (by with_reducible assumption) | exact Bd.r0 (by with_reducible assumption))) ?_) | (refine' ahead_u (by (with_reducible assumption)) (by (with_reducible assumption)) (by (exact Room.le (by with_reducible assumption) (by first | decide | omega))) (by (first | (with_reducible assumption) | exact Bd.R0 (by with_reducible assumption) | exact Bd.l0 (by with_reducible assumption) | exact Bd.r0 (by with_reducible assumption))) (by (first | (with_reducible assumption) | exact Bd.R0 (by with_reducible assumption) | exact Bd.l0 (by with_reducible assumption) | exact Bd.r0 (by with_reducible assumption))) ?_) | (refine' tellT_u (by (with_reducible assumption)) (by (with_reducible assumption)) (by (exact Room.le (by with_reducible assumption) (by first | decide | omega))) (by (first | (with_reducible assumption) | exact Bd.R0 (by with_reducible assumption) | exact Bd.l0 (by with_reducible assumption) | exact Bd.r0 (by with_reducible assumption))) (by (first | (with_reducible assumption) | exact Bd.R0 (by with_reducible assumption) | exact Bd.l0 (by with_reducible assumption) | exact Bd.r0 (by with_reducible assumption))) ?_) | (refine' tellL_u (by (with_reducible assumption)) (by (with_reducible assumption)) (by (exact Room.le (by with_reducible assumption) (by first | decide | omega))) (by (first | (with_reducible assumption) | exact Bd.R0 (by with_reducible assumption) | exact Bd.l0 (by with_reducible assumption) | exact Bd.r0 (by with_reducible assumption))) (by (first | (with_reducible assumption) | exact Bd.R0 (by with_reducible assumption) | exact Bd.l0 (by with_reducible assumption) | exact Bd.r0 (by with_reducible assumption))) ?_) | (refine' tr_use (by (first | (with_reducible assumption) | assumption)) (by (with_reducible assumption)) rfl (by (exact Room.le (by with_reducible assumption) (by first | decide | omega))) ?_) | (refine' all_u (by (first | (with_reducible assumption) | assumption | exact AllT.nil | (refine' AllT.tree (by (first | (with_reducible assumption) | assumption)) (by (first | (with_reducible assumption) | assumption | exact AllT.nil | (refine' AllT.tree (by (first | (with_reducible assumption) | assumption)) (by (first | (with_reducible assumption) | assumption | exact AllT.nil | (refine' AllT.tree (by (first | (with_reducible assumption) | assumption)) (by (first | (with_reducible assumption) | assumption | exact AllT.nil | (refine' AllT.tree (by (first | (with_reducible assumption) | assumption)) (by (first | (with_reducible assumption) | assumption | exact AllT.nil | (refine' AllT.tree (by (first | (with_reducible assumption) | assumption)) (by (first | (with_reducible assumption) | assumption | exact AllT.nil | (refine' AllT.tree (by (first | (with_reducible assumption) | assumption)) (by (first | (with_reducible assumption) | assumption | exact AllT.nil | (refine' AllT.tree (by fail) (by fail)))))))))))))))))))))) (by (with_reducible assumption)) (by (with_reducible assumption)) (by (exact Room.le (by with_reducible assumption) (by first | decide | omega))) ?_) | (refine' allL_u (by (first | (with_reducible assumption) | assumption | exact AllT.nil | (refine' AllT.tree (by (first | (with_reducible assumption) | assumption)) (by (first | (with_reducible assumption) | assumption | exact AllT.nil | (refine' AllT.tree (by (first | (with_reducible assumption) | assumption)) (by (first | (with_reducible assumption) | assumption | exact AllT.nil | (refine' AllT.tree (by (first | (with_reducible assumption) | assumption)) (by (first | (with_reducible assumption) | assumption | exact AllT.nil | (refine' AllT.tree (by (first | (with_reducible assumption) | assumption)) (by (first | (with_reducible assumption) | assumption | exact AllT.nil | (refine' AllT.tree (by (first | (with_reducible assumption) | assumption)) (by (first | (with_reducible assumption) | assumption | exact AllT.nil | (refine' AllT.tree (by (first | (with_reducible assumption) | assumption)) (by (first | (with_reducible assumption) | assumption | exact AllT.nil | (refine' AllT.tree (by fail) (by fail)))))))))))))))))))))) (by (with_reducible assumption)) (by (with_reducible assumption)) (by (exact Room.le (by with_reducible assumption) (by first | decide | omega))) ?_) | (refine' np_use (by (with_reducible assumption)) (by (with_reducible assumption)) rfl (by (with_reducible assumption)) (by omega) ?_) | (refine' isi_u (by constructor) ?_) | (refine' len_tup_u (by exact Nat.le_of_ble_eq_true rfl) ?_) | (refine' pkg_u (by (with_reducible assumption)) (by (with_reducible assumption)) (by (exact Room.le (by with_reducible assumption) (by first | decide | omega))) ?_) | (refine' told_u (by (with_reducible assumption)) (by (with_reducible assumption)) (by (exact Room.le (by with_reducible assumption) (by first | decide | omega))) (by (first | (with_reducible assumption) | exact Bd.R0 (by with_reducible assumption) | exact Bd.l0 (by with_reducible assumption) | exact Bd.r0 (by with_reducible assumption))) ?_) | (refine' g_note (by (with_reducible assumption)) (by (with_reducible assumption)) ?_) | (refine' g_ahead (by (with_reducible assumption)) (by (with_reducible assumption)) ?_) | (refine' g_told (by (with_reducible assumption)) (by (with_reducible assumption)) ?_) | (refine' g_pkg (by (with_reducible assumption)) (by (with_reducible assumption)) ?_) | (refine' g_tell (by (with_reducible assumption)) (by (with_reducible assumption)) ?_) | (refine' g_all (by (with_reducible assumption)) (by (with_reducible assumption)) ?_) | (refine' g_within (by (with_reducible assumption)) (by (with_reducible assumption)) ?_) | (refine' g_tree (by (with_reducible assumption)) (by (with_reducible assumption)) ?_) | (refine' g_parts (by (with_reducible assumption)) (by (with_reducible assumption)) ?_) | (refine' g_func (by (with_reducible assumption)) (by (with_reducible assumption)) ?_) | (refine' g_lit (by (with_reducible assumption)) (by (with_reducible assumption)) ?_) | (refine' g_decl (by (with_reducible assumption)) (by (with_reducible assumption)) ?_) | (refine' g_nested (by (with_reducible assumption)) (by (with_reducible assumption)) ?_) | (refine' g_cases (by (with_reducible assumption)) (by (with_reducible assumption)) ?_) | (refine' g_case (by (with_reducible assumption)) (by (with_reducible assumption)) ?_) | (refine' g_keys (by (with_reducible assumption)) (by (with_reducible assumption)) ?_) | (refine' pushO (by (with_reducible assumption)) (by (with_reducible assumption)) ?_) | (refine' popO (by (with_reducible assumption)) (by (with_reducible assumption)) ?_) | (refine' push0_u (by (with_reducible assumption)) (by (first | (with_reducible assumption) | exact Bd.R0 (by with_reducible assumption) | exact Bd.l0 (by with_reducible assumption) | exact Bd.r0 (by with_reducible assumption))) ?_) | (refine' tuple_tup_u ?_) | (refine' list_tup_u (by exact Nat.le_of_ble_eq_true rfl) ?_) | (refine' list_list_u (by exact Nat.le_of_ble_eq_true rfl) ?_) | (refine' pop_u (by (with_reducible assumption)) (by (with_reducible assumption)) (by (with_reducible assumption)) ?_; intro _) | (exact ⟨rfl, rfl⟩) | (refine' And.intro rfl ?_))
  · repeat' (first | (refine' BK.dT (by decide +kernel) ?_) | (refine' BK.dF (by decide +kernel) ?_) | (refine' BK.dT (by exact rfl) ?_) | (refine' BK.dF (by exact rfl) ?_) | (refine' SwOb.two (by with_unfolding_all rfl) ?_) | (refine' SwOb.none (by with_unfolding_all rfl) ?_) | (refine' note_u (by (with_reducible assumption)) (by (with_reducible assumption)) (by (exact Room.le (by with_reducible assumption) (by first | decide | omega))) (by (first | (with_reducible assumption) | exact Bd.R0 (by with_reducible assumption) | exact Bd.l0 (by with_reducible assumption) | exact Bd.r0 (by with_reducible assumption))) (by (first | (with_reducible assumption) | exact Bd.R0 (by with_reducible assumption) | exact Bd.l0 (by with_reducible assumption) | exact Bd.r0 (by with_reducible assumption))) ?_) | (refine' ahead_u (by (with_reducible assumption)) (by (with_reducible assumption)) (by (exact Room.le (by with_reducible assumption) (by first | decide | omega))) (by (first | (with_reducible assumption) | exact Bd.R0 (by with_reducible assumption) | exact Bd.l0 (by with_reducible assumption) | exact Bd.r0 (by with_reducible assumption))) (by (first | (with_reducible assumption) | exact Bd.R0 (by with_reducible assumption) | exact Bd.l0 (by with_reducible assumption) | exact Bd.r0 (by with_reducible assumption))) ?_) | (refine' tellT_u (by (with_reducible assumption)) (by (with_reducible assumption)) (by (exact Room.le (by with_reducible assumption) (by first | decide | omega))) (by (first | (with_reducible assumption) | exact Bd.R0 (by with_reducible assumption) | exact Bd.l0 (by with_reducible assumption) | exact Bd.r0 (by with_reducible assumption))) (by (first | (with_reducible assumption) | exact Bd.R0 (by with_reducible assumption) | exact Bd.l0 (by with_reducible assumption) | exact Bd.r0 (by with_reducible assumption))) ?_) | (refine' tellL_u (by (with_reducible assumption)) (by (with_reducible assumption)) (by (exact Room.le (by with_reducible assumption) (by first | decide | omega))) (by (first | (with_reducible assumption) | exact Bd.R0 (by with_reducible assumption) | exact Bd.l0 (by with_reducible assumption) | exact Bd.r0 (by with_reducible assumption))) (by (first | (with_reducible assumption) | exact Bd.R0 (by with_reducible assumption) | exact Bd.l0 (by with_reducible assumption) | exact Bd.r0 (by with_reducible assumption))) ?_) | (refine' tr_use (by (first | (with_reducible assumption) | assumption)) (by (with_reducible assumption)) rfl (by (exact Room.le (by with_reducible assumption) (by first | decide | omega))) ?_) | (refine' all_u (by (first | (with_reducible assumption) | assumption | exact AllT.nil | (refine' AllT.tree (by (first | (with_reducible assumption) | assumption)) (by (first | (with_reducible assumption) | assumption | exact AllT.nil | (refine' AllT.tree (by (first | (with_reducible assumption) | assumption)) (by (first | (with_reducible assumption) | assumption | exact AllT.nil | (refine' AllT.tree (by (first | (with_reducible assumption) | assumption)) (by (first | (with_reducible assumption) | assumption | exact AllT.nil | (refine' AllT.tree (by (first | (with_reducible assumption) | assumption)) (by (first | (with_reducible assumption) | assumption | exact AllT.nil | (refine' AllT.tree (by (first | (with_reducible assumption) | assumption)) (by (first | (with_reducible assumption) | assumption | exact AllT.nil | (refine' AllT.tree (by (first | (with_reducible assumption) | assumption)) (by (first | (with_reducible assumption) | assumption | exact AllT.nil | (refine' AllT.tree (by fail) (by fail)))))))))))))))))))))) (by (with_reducible assumption)) (by (with_reducible assumption)) (by (exact Room.le (by with_reducible assumption) (by first | decide | omega))) ?_) | (refine' allL_u (by (first | (with_reducible assumption) | assumption | exact AllT.nil | (refine' AllT.tree (by (first | (with_reducible assumption) | assumption)) (by (first | (with_reducible assumption) | assumption | exact AllT.nil | (refine' AllT.tree (by (first | (with_reducible assumption) | assumption)) (by (first | (with_reducible assumption) | assumption | exact AllT.nil | (refine' AllT.tree (by (first | (with_reducible assumption) | assumption)) (by (first | (with_reducible assumption) | assumption | exact AllT.nil | (refine' AllT.tree (by (first | (with_reducible assumption) | assumption)) (by (first | (with_reducible assumption) | assumption | exact AllT.nil | (refine' AllT.tree (by (first | (with_reducible assumption) | assumption)) (by (first | (with_reducible assumption) | assumption | exact AllT.nil | (refine' AllT.tree (by (first | (with_reducible assumption) | assumption)) (by (first | (with_reducible assumption) | assumption | exact AllT.nil | (refine' AllT.tree (by fail) (by fail)))))))))))))))))))))) (by (with_reducible assumption)) (by (with_reducible assumption)) (by (exact Room.le (by with_reducible assumption) (by first | decide | omega))) ?_) | (refine' np_use (by (with_reducible assumption)) (by (with_reducible assumption)) rfl (by (with_reducible assumption)) (by omega) ?_) | (refine' isi_u (by constructor) ?_) | (refine' len_tup_u (by exact Nat.le_of_ble_eq_true rfl) ?_) | (refine' pkg_u (by (with_reducible assumption)) (by (with_reducible assumption)) (by (exact Room.le (by with_reducible assumption) (by first | decide | omega))) ?_) | (refine' told_u (by (with_reducible assumption)) (by (with_reducible assumption)) (by (exact Room.le (by with_reducible assumption) (by first | decide | omega))) (by (first | (with_reducible assumption) | exact Bd.R0 (by with_reducible assumption) | exact Bd.l0 (by with_reducible assumption) | exact Bd.r0 (by with_reducible assumption))) ?_) | (refine' g_note (by (with_reducible assumption)) (by (with_reducible assumption)) ?_) | (refine' g_ahead (by (with_reducible assumption)) (by (with_reducible assumption)) ?_) | (refine' g_told (by (with_reducible assumption)) (by (with_reducible assumption)) ?_) | (refine' g_pkg (by (with_reducible assumption)) (by (with_reducible assumption)) ?_) | (refine' g_tell (by (with_reducible assumption)) (by (with_reducible assumption)) ?_) | (refine' g_all (by (with_reducible assumption)) (by (with_reducible assumption)) ?_) | (refine' g_within (by (with_reducible assumption)) (by (with_reducible assumption)) ?_) | (refine' g_tree (by (with_reducible assumption)) (by (with_reducible assumption)) ?_) | (refine' g_parts (by (with_reducible assumption)) (by (with_reducible assumption)) ?_) | (refine' g_func (by (with_reducible assumption)) (by (with_reducible assumption)) ?_) | (refine' g_lit (by (with_reducible assumption)) (by (with_reducible assumption)) ?_) | (refine' g_decl (by (with_reducible assumption)) (by (with_reducible assumption)) ?_) | (refine' g_nested (by (with_reducible assumption)) (by (with_reducible assumption)) ?_) | (refine' g_cases (by (with_reducible assumption)) (by (with_reducible assumption)) ?_) | (refine' g_case (by (with_reducible assumption)) (by (with_reducible assumption)) ?_) | (refine' g_keys (by (with_reducible assumption)) (by (with_reducible assumption)) ?_) | (refine' pushO (by (with_reducible assumption)) (by (with_reducible assumption)) ?_) | (refine' popO (by (with_reducible assumption)) (by (with_reducible assumption)) ?_) | (refine' push0_u (by (with_reducible assumption)) (by (first | (with_reducible assumption) | exact Bd.R0 (by with_reducible assumption) | exact Bd.l0 (by with_reducible assumption) | exact Bd.r0 (by with_reducible assumption))) ?_) | (refine' tuple_tup_u ?_) | (refine' list_tup_u (by exact Nat.le_of_ble_eq_true rfl) ?_) | (refine' list_list_u (by exact Nat.le_of_ble_eq_true rfl) ?_) | (refine' pop_u (by (with_reducible assumption)) (by (with_reducible assumption)) (by (with_reducible assumption)) ?_; intro _) | (exact ⟨rfl, rfl⟩) | (refine' And.intro rfl ?_))
theorem lit_pkg {x z : Str} (hw : g.w = w) (hD : 45 ≤ D) (hT : TR w fk sa dx g D (V.tup [.str (cN "name"), .int 1, .str z, .str (cN "X")]) s s1) (hX : TR w fk sa dx g D (nmV x) s1 s2) (h1 : s1.R.length ≤ 900) :
    CT (IF w fk sa dx) g (D + 1) (.ref 120) [.raw (.ref sa), .tup [.str (cN "lit"), .int 1, V.tup [.str (cN "name"), .int 1, .str z, .str (cN "X")], .tup [.tup [.none, nmV x]]]] s (NP s2) := by
  refine def_vc (dX := []) (dv := []) gl0 [Str.ofString "self", Str.ofString "tree"] (by rfl) (by rfl) (fun h vs _ _ hl gs dr tk os => ?_) .nil (by rfl) (by rfl) (by rfl) (by rfl) (by rfl) (by rfl) (fun c _ => gl0_ok c) fun c ok hg hr => ?_
  · obtain ⟨a, b, rfl⟩ := len2 hl
    exact BindsTo.of_eq rfl
  subst hg
  repeat' (first | (refine' BK.dT (by decide +kernel) ?_) | (refine' BK.dF (by decide +kernel) ?_) | (refine' BK.dT (by exact rfl) ?_) | (refine' BK.dF (by exact rfl) ?_) | (refine' SwOb.two (by with_unfolding_all rfl) ?_) | (refine' SwOb.none (by with_unfolding_all rfl) ?_) | (refine' note_u (by (with_reducible assumption)) (by (with_reducible assumption)) (by (exact Room.le (by with_reducible assumption) (by first | decide | omega))) (by (first | (with_reducible assumption) | exact Bd.R0 (by with_reducible assumption) | exact Bd.l0 (by with_reducible assumption) | exact Bd.r0 (by with_reducible assumption))) (by (first | (with_reducible assumption) | exact Bd.R0 (by with_reducible assumption) | exact Bd.l0 (by with_reducible assumption) | exact Bd.r0 (by with_reducible assumption))) ?_) | (refine' ahead_u (by (with_reducible assumption)) (by (with_reducible assumption)) (by (exact Room.le (by with_reducible assumption) (by first | decide | omega))) (by (first | (with_reducible assumption) | exact Bd.R0 (by with_reducible assumption) | exact Bd.l0 (by with_reducible assumption) | exact Bd.r0 (by with_reducible assumption))) (by (first | (with_reducible assumption) | exact Bd.R0 (by with_reducible assumption) | exact Bd.l0 (by with_reducible assumption) | exact Bd.r0 (by with_reducible assumption))) ?_) | (refine' tellT_u (by (with_reducible assumption)) (by (with_reducible assumption)) (by (exact Room.le (by with_reducible assumption) (by first | decide | omega))) (by (first | (with_reducible assumption) | exact Bd.R0 (by with_reducible assumption) | exact Bd.l0 (by with_reducible assumption) | exact Bd.r0 (by with_reducible assumption))) (by (first | (with_reducible assumption) | exact Bd.R0 (by with_reducible assumption) | exact Bd.l0 (by with_reducible assumption) | exact Bd.r0 (by with_reducible assumption))) ?_) | (refine' tellL_u (by (with_reducible assumption)) (by (with_reducible assumption)) (by (exact Room.le (by with_reducible assumption) (by first | decide | omega))) (by (first | (with_reducible assumption) | exact Bd.R0 (by with_reducible assumption) | exact Bd.l0 (by with_reducible assumption) | exact Bd.r0 (by with_reducible assumption))) (by (first | (with_reducible assumption) | exact Bd.R0 (by with_reducible assumption) | exact Bd.l0 (by with_reducible assumption) | exact Bd.r0 (by with_reducible assumption))) ?_) | (refine' tr_use (by (first | (with_reducible assumption) | assumption)) (by (with_reducible assumption)) rfl (by (exact Room.le (by with_reducible assumption) (by first | decide | omega))) ?_) | (refine' all_u (by (first | (with_reducible assumption) | assumption | exact AllT.nil | (refine' AllT.tree (by (first | (with_reducible assumption) | assumption)) (by (first | (with_reducible assumption) | assumption | exact AllT.nil | (refine' AllT.tree (by (first | (with_reducible assumption) | assumption)) (by (first | (with_reducible assumption) | assumption | exact AllT.nil | (refine' AllT.tree (by (first | (with_reducible assumption) | assumption)) (by (first | (with_reducible assumption) | assumption | exact AllT.nil | (refine' AllT.tree (by (first | (with_reducible assumption) | assumption)) (by (first | (with_reducible assumption) | assumption | exact AllT.nil | (refine' AllT.tree (by (first | (with_reducible assumption) | assumption)) (by (first | (with_reducible assumption) | assumption | exact AllT.nil | (refine' AllT.tree (by (first | (with_reducible assumption) | assumption)) (by (first | (with_reducible assumption) | assumption | exact AllT.nil | (refine' AllT.tree (by fail) (by fail)))))))))))))))))))))) (by (with_reducible assumption)) (by (with_reducible assumption)) (by (exact Room.le (by with_reducible assumption) (by first | decide | omega))) ?_) | (refine' allL_u (by (first | (with_reducible assumption) | assumption | exact AllT.nil | (refine' AllT.tree (by (first | (with_reducible assumption) | assumption)) (by (first | (with_reducible assumption) | assumption | exact AllT.nil | (refine' AllT.tree (by (first | (with_reducible assumption) | assumption)) (by (first | (with_reducible assumption) | assumption | exact AllT.nil | (refine' AllT.tree (by (first | (with_reducible assumption) | assumption)) (by (first | (with_reducible assumption) | assumption | exact AllT.nil | (refine' AllT.tree (by (first | (with_reducible assumption) | assumption)) (by (first | (with_reducible assumption) | assumption | exact AllT.nil | (refine' AllT.tree (by (first | (with_reducible assumption) | assumption)) (by (first | (with_reducible assumption) | assumption | exact AllT.nil | (refine' AllT.tree (by (first | (with_reducible assumption) | assumption)) (by (first | (with_reducible assumption) | assumption | exact AllT.nil | (refine' AllT.tree (by fail) (by fail)))))))))))))))))))))) (by (with_reducible assumption)) (by (with_reducible assumption)) (by (exact Room.le (by with_reducible assumption) (by first | decide | omega))) ?_) | (refine' np_use (by (with_reducible assumption)) (by (with_reducible assumption)) rfl (by (with_reducible assumption)) (by omega) ?_) | (refine' isi_u (by constructor) ?_) | (refine' len_tup_u (by exact Nat.le_of_ble_eq_true rfl) ?_) | (refine' pkg_u (by (with_reducible assumption)) (by (with_reducible assumption)) (by (exact Room.le (by with_reducible assumption) (by first | decide | omega))) ?_) | (refine' told_u (by (with_reducible assumption)) (by (with_reducible assumption)) (by (exact Room.le (by with_reducible assumption) (by first | decide | omega))) (by (first | (with_reducible assumption) | exact Bd.R0 (by with_reducible assumption) | exact Bd.l0 (by with_reducible assumption) | exact Bd.r0 (by with_reducible assumption))) ?_) | (refine' g_note (by (with_reducible assumption)) (by (with_reducible assumption)) ?_) | (refine' g_ahead (by (with_reducible assumption)) (by (with_reducible assumption)) ?_) | (refine' g_told (by (with_reducible assumption)) (by (with_reducible assumption)) ?_) | (refine' g_pkg (by (with_reducible assumption)) (by (with_reducible assumption)) ?_) | (refine' g_tell (by (with_reducible assumption)) (by (with_reducible assumption)) ?_) | (refine' g_all (by (with_reducible assumption)) (by (with_reducible assumption)) ?_) | (refine' g_within (by (with_reducible assumption)) (by (with_reducible assumption)) ?_) | (refine' g_tree (by (with_reducible assumption)) (by (with_reducible assumption)) ?_) | (refine' g_parts (by (with_reducible assumption)) (by (with_reducible assumption)) ?_) | (refine' g_func (by (with_reducible assumption)) (by (with_reducible assumption)) ?_) | (refine' g_lit (by (with_reducible assumption)) (by (with_reducible assumption)) ?_) | (refine' g_decl (by (with_reducible assumption)) (by (with_reducible assumption)) ?_) | (refine' g_nested (by (with_reducible assumption)) (by (with_reducible assumption)) ?_) | (refine' g_cases (by (with_reducible assumption)) (by (with_reducible assumption)) ?_) | (refine' g_case (by (with_reducible assumption)) (by (with_reducible assumption)) ?_) | (refine' g_keys (by (with_reducible assumption)) (by (with_reducible assumption)) ?_) | (refine' pushO (by (with_reducible assumption)) (by (with_reducible assumption)) ?_) | (refine' popO (by (with_reducible assumption)) (by (with_reducible assumption)) ?_) | (refine' push0_u (by (with_reducible assumption)) (by (first | (with_reducible assumption) | exact Bd.R0 (by with_reducible assumption) | exact Bd.l0 (by with_reducible assumption) | exact Bd.r0 (by with_reducible assumption))) ?_) | (refine' tuple_tup_u ?_) | (refine' list_tup_u (by exact Nat.le_of_ble_eq_true rfl) ?_) | (refine' list_list_u (by exact Nat.le_of_ble_eq_true rfl) ?_) | (refine' pop_u (by (with_reducible assumption)) (by (with_reducible assumption)) (by (with_reducible assumption)) ?_; intro _) | (exact ⟨rfl, rfl⟩) | (refine' And.intro rfl ?_))
  refine keys_u (I := IF w fk sa dx) ok (by (exact Room.le (by with_reducible assumption) (by first | decide | omega))) fun Y => ?_
  repeat' (first | (refine' BK.dT (by decide +kernel) ?_) | (refine' BK.dF (by decide +kernel) ?_) | (refine' BK.dT (by exact rfl) ?_) | (refine' BK.dF (by exact rfl) ?_) | (refine' SwOb.two (by with_unfolding_all rfl) ?_) | (refine' SwOb.none (by with_unfolding_all rfl) ?_) | (refine' note_u (by (with_reducible assumption)) (by (with_reducible assumption)) (by (exact Room.le (by with_reducible assumption) (by first | decide | omega))) (by (first | (with_reducible assumption) | exact Bd.R0 (by with_reducible assumption) | exact Bd.l0 (by with_reducible assumption) | exact Bd.r0 (by with_reducible assumption))) (by (first | (with_reducible assumption) | exact Bd.R0 (by with_reducible assumption) | exact Bd.l0 (by with_reducible assumption) | exact Bd.r0 (by with_reducible assumption))) ?_) | (refine' ahead_u (by (with_reducible assumption)) (by (with_reducible assumption)) (by (exact Room.le (by with_reducible assumption) (by first | decide | omega))) (by (first | (with_reducible assumption) | exact Bd.R0 (by with_reducible assumption) | exact Bd.l0 (by with_reducible assumption) | exact Bd.r0 (by with_reducible assumption))) (by (first | (with_reducible assumption) | exact Bd.R0 (by with_reducible assumption) | exact Bd.l0 (by with_reducible assumption) | exact Bd.r0 (by with_reducible assumption))) ?_) | (refine' tellT_u (by (with_reducible assumption)) (by (with_reducible assumption)) (by (exact Room.le (by with_reducible assumption) (by first | decide | omega))) (by (first | (with_reducible assumption) | exact Bd.R0 (by with_reducible assumption) | exact Bd.l0 (by with_reducible assumption) | exact Bd.r0 (by with_reducible assumption))) (by (first | (with_reducible assumption) | exact Bd.R0 (by with_reducible assumption) | exact Bd.l0 (by with_reducible assumption) | exact Bd.r0 (by with_reducible assumption))) ?_) | (refine' tellL_u (by (with_reducible assumption)) (by (with_reducible assumption)) (by (exact Room.le (by with_reducible assumption) (by first | decide | omega))) (by (first | (with_reducible assumption) | exact Bd.R0 (by with_reducible assumption) | exact Bd.l0 (by with_reducible assumption) | exact Bd.r0 (by with_reducible assumption))) (by (first | (with_reducible assumption) | exact Bd.R0 (by with_reducible assumption) | exact Bd.l0 (by with_reducible assumption) | exact Bd.r0 (by with_reducible assumption))) ?_) | (refine' tr_use (by (first | (with_reducible assumption) | assumption)) (by (with_reducible assumption)) rfl (by (exact Room.le (by with_reducible assumption) (by first | decide | omega))) ?_) | (refine' all_u (by (first | (with_reducible assumption) | assumption | exact AllT.nil | (refine' AllT.tree (by (first | (with_reducible assumption) | assumption)) (by (first | (with_reducible assumption) | assumption | exact AllT.nil | (refine' AllT.tree (by (first | (with_reducible assumption) | assumption)) (by (first | (with_reducible assumption) | assumption | exact AllT.nil | (refine' AllT.tree (by (first | (with_reducible assumption) | assumption)) (by (first | (with_reducible assumption) | assumption | exact AllT.nil | (refine' AllT.tree (by (first | (with_reducible assumption) | assumption)) (by (first | (with_reducible assumption) | assumption | exact AllT.nil | (refine' AllT.tree (by (first | (with_reducible assumption) | assumption)) (by (first | (with_reducible assumption) | assumption | exact AllT.nil | (refine' AllT.tree (by (first | (with_reducible assumption) | assumption)) (by (first | (with_reducible assumption) | assumption | exact AllT.nil | (refine' AllT.tree (by fail) (by fail)))))))))))))))))))))) (by (with_reducible assumption)) (by (with_reducible assumption)) (by (exact Room.le (by with_reducible assumption) (by first | decide | omega))) ?_) | (refine' allL_u (by (first | (with_reducible assumption) | assumption | exact AllT.nil | (refine' AllT.tree (by (first | (with_reducible assumption) | assumption)) (by (first | (with_reducible assumption) | assumption | exact AllT.nil | (refine' AllT.tree (by (first | (with_reducible assumption) | assumption)) (by (first | (with_reducible assumption) | assumption | exact AllT.nil | (refine' AllT.tree (by (first | (with_reducible assumption) | assumption)) (by (first | (with_reducible assumption) | assumption | exact AllT.nil | (refine' AllT.tree (by (first | (with_reducible assumption) | assumption)) (by (first | (with_reducible assumption) | assumption | exact AllT.nil | (refine' AllT.tree (by (first | (with_reducible assumption) | assumption)) (by (first | (with_reducible assumption) | assumption | exact AllT.nil | (refine' AllT.tree (by (first | (with_reducible assumption) | assumption)) (by (first | (with_reducible assumption) | assumption | exact AllT.nil | (refine' AllT.tree (by fail) (by fail)))))))))))))))))))))) (by (with_reducible assumption)) (by (with_reducible assumption)) (by (exact Room.le (by with_reducible assumption) (by first | decide | omega))) ?_) | (refine' np_use (by (with_reducible assumption)) (by (with_reducible assumption)) rfl (by (with_reducible assumption)) (by omega) ?_) | (refine' isi_u (by constructor) ?_) | (refine' len_tup_u (by exact Nat.le_of_ble_eq_true rfl) ?_) | (refine' pkg_u (by (with_reducible assumption)) (by (with_reducible assumption)) (by (exact Room.le (by with_reducible assumption) (by first | decide | omega))) ?_) | (refine' told_u (by (with_reducible assumption)) (by (with_reducible assumption)) (by (exact Room.le (by with_reducible assumption) (by first | decide | omega))) (by (first | (with_reducible assumption) | exact Bd.R0 (by with_reducible assumption) | exact Bd.l0 (by with_reducible assumption) | exact Bd.r0 (by with_reducible assumption))) ?_) | (refine' g_note (by (with_reducible assumption)) (by (with_reducible assumption)) ?_) | (refine' g_ahead (by (with_reducible assumption)) (by (with_reducible assumption)) ?_) | (refine' g_told (by (with_reducible assumption)) (by (with_reducible assumption)) ?_) | (refine' g_pkg (by (with_reducible assumption)) (by (with_reducible assumption)) ?_) | (refine' g_tell (by (with_reducible assumption)) (by (with_reducible assumption)) ?_) | (refine' g_all (by (with_reducible assumption)) (by (with_reducible assumption)) ?_) | (refine' g_within (by (with_reducible assumption)) (by (with_reducible assumption)) ?_) | (refine' g_tree (by (with_reducible assumption)) (by (with_reducible assumption)) ?_) | (refine' g_parts (by (with_reducible assumption)) (by (with_reducible assumption)) ?_) | (refine' g_func (by (with_reducible assumption)) (by (with_reducible assumption)) ?_) | (refine' g_lit (by (with_reducible assumption)) (by (with_reducible assumption)) ?_) | (refine' g_decl (by (with_reducible assumption)) (by (with_reducible assumption)) ?_) | (refine' g_nested (by (with_reducible assumption)) (by (with_reducible assumption)) ?_) | (refine' g_cases (by (with_reducible assumption)) (by (with_reducible assumption)) ?_) | (refine' g_case (by (with_reducible assumption)) (by (with_reducible assumption)) ?_) | (refine' g_keys (by (with_reducible assumption)) (by (with_reducible assumption)) ?_) | (refine' pushO (by (with_reducible assumption)) (by (with_reducible assumption)) ?_) | (refine' popO (by (with_reducible assumption)) (by (with_reducible assumption)) ?_) | (refine' push0_u (by (with_reducible assumption)) (by (first | (with_reducible assumption) | exact Bd.R0 (by with_reducible assumption) | exact Bd.l0 (by with_reducible assumption) | exact Bd.r0 (by with_reducible assumption))) ?_) | (refine' tuple_tup_u ?_) | (refine' list_tup_u (by exact Nat.le_of_ble_eq_true rfl) ?_) | (refine' list_list_u (by exact Nat.le_of_ble_eq_true rfl) ?_) | (refine' pop_u (by (with_reducible assumption)) (by (with_reducible assumption)) (by (with_reducible assumption)) ?_; intro _) | (exact ⟨rfl, rfl⟩) | (refine' And.intro rfl ?_))
theorem lit_slice {x : Str} {tz : V} (hw : g.w = w) (hD : 45 ≤ D) (hT : TR w fk sa dx g D (V.tup [.str (cN "slice"), .int 1, tz]) s s1) (hX : TR w fk sa dx g D (nmV x) s1 s2) (h1 : s1.R.length ≤ 900) :
    CT (IF w fk sa dx) g (D + 1) (.ref 120) [.raw (.ref sa), .tup [.str (cN "lit"), .int 1, V.tup [.str (cN "slice"), .int 1, tz], .tup [.tup [.none, nmV x]]]] s (NP s2) := by
  refine def_vc (dX := []) (dv := []) gl0 [Str.ofString "self", Str.ofString "tree"] (by rfl) (by rfl) (fun h vs _ _ hl gs dr tk os => ?_) .nil (by rfl) (by rfl) (by rfl) (by rfl) (by rfl) (by rfl) (fun c _ => gl0_ok c) fun c ok hg hr => ?_
  · obtain ⟨a, b, rfl⟩ := len2 hl
    exact BindsTo.of_eq rfl
  subst hg
  repeat' (first | (refine' BK.dT (by decide +kernel) ?_) | (refine' BK.dF (by decide +kernel) ?_) | (refine' BK.dT (by exact rfl) ?_) | (refine' BK.dF (by exact rfl) ?_) | (refine' SwOb.two (by with_unfolding_all rfl) ?_) | (refine' SwOb.none (by with_unfolding_all rfl) ?_) | (refine' note_u (by (with_reducible assumption)) (by (with_reducible assumption)) (by (exact Room.le (by with_reducible assumption) (by first | decide | omega))) (by (first | (with_reducible assumption) | exact Bd.R0 (by with_reducible assumption) | exact Bd.l0 (by with_reducible assumption) | exact Bd.r0 (by with_reducible assumption))) (by (first | (with_reducible assumption) | exact Bd.R0 (by with_reducible assumption) | exact Bd.l0 (by with_reducible assumption) | exact Bd.r0 (by with_reducible assumption))) ?_) | (refine' ahead_u (by (with_reducible assumption)) (by (with_reducible assumption)) (by (exact Room.le (by with_reducible assumption) (by first | decide | omega))) (by (first | (with_reducible assumption) | exact Bd.R0 (by with_reducible assumption) | exact Bd.l0 (by with_reducible assumption) | exact Bd.r0 (by with_reducible assumption))) (by (first | (with_reducible assumption) | exact Bd.R0 (by with_reducible assumption) | exact Bd.l0 (by with_reducible assumption) | exact Bd.r0 (by with_reducible assumption))) ?_) | (refine' tellT_u (by (with_reducible assumption)) (by (with_reducible assumption)) (by (exact Room.le (by with_reducible assumption) (by first | decide | omega))) (by (first | (with_reducible assumption) | exact Bd.R0 (by with_reducible assumption) | exact Bd.l0 (by with_reducible assumption) | exact Bd.r0 (by with_reducible assumption))) (by (first | (with_reducible assumption) | exact Bd.R0 (by with_reducible assumption) | exact Bd.l0 (by with_reducible assumption) | exact Bd.r0 (by with_reducible assumption))) ?_) | (refine' tellL_u (by (with_reducible assumption)) (by (with_reducible assumption)) (by (exact Room.le (by with_reducible assumption) (by first | decide | omega))) (by (first | (with_reducible assumption) | exact Bd.R0 (by with_reducible assumption) | exact Bd.l0 (by with_reducible assumption) | exact Bd.r0 (by with_reducible assumption))) (by (first | (with_reducible assumption) | exact Bd.R0 (by with_reducible assumption) | exact Bd.l0 (by with_reducible assumption) | exact Bd.r0 (by with_reducible assumption))) ?_) | (refine' tr_use (by (first | (with_reducible assumption) | assumption)) (by (with_reducible assumption)) rfl (by (exact Room.le (by with_reducible assumption) (by first | decide | omega))) ?_) | (refine' all_u (by (first | (with_reducible assumption) | assumption | exact AllT.nil | (refine' AllT.tree (by (first | (with_reducible assumption) | assumption)) (by (first | (with_reducible assumption) | assumption | exact AllT.nil | (refine' AllT.tree (by (first | (with_reducible assumption) | assumption)) (by (first | (with_reducible assumption) | assumption | exact AllT.nil | (refine' AllT.tree (by (first | (with_reducible assumption) | assumption)) (by (first | (with_reducible assumption) | assumption | exact AllT.nil | (refine' AllT.tree (by (first | (with_reducible assumption) | assumption)) (by (first | (with_reducible assumption) | assumption | exact AllT.nil | (refine' AllT.tree (by (first | (with_reducible assumption) | assumption)) (by (first | (with_reducible assumption) | assumption | exact AllT.nil | (refine' AllT.tree (by (first | (with_reducible assumption) | assumption)) (by (first | (with_reducible assumption) | assumption | exact AllT.nil | (refine' AllT.tree (by fail) (by fail)))))))))))))))))))))) (by (with_reducible assumption)) (by (with_reducible assumption)) (by (exact Room.le (by with_reducible assumption) (by first | decide | omega))) ?_) | (refine' allL_u (by (first | (with_reducible assumption) | assumption | exact AllT.nil | (refine' AllT.tree (by (first | (with_reducible assumption) | assumption)) (by (first | (with_reducible assumption) | assumption | exact AllT.nil | (refine' AllT.tree (by (first | (with_reducible assumption) | assumption)) (by (first | (with_reducible assumption) | assumption | exact AllT.nil | (refine' AllT.tree (by (first | (with_reducible assumption) | assumption)) (by (first | (with_reducible assumption) | assumption | exact AllT.nil | (refine' AllT.tree (by (first | (with_reducible assumption) | assumption)) (by (first | (with_reducible assumption) | assumption | exact AllT.nil | (refine' AllT.tree (by (first | (with_reducible assumption) | assumption)) (by (first | (with_reducible assumption) | assumption | exact AllT.nil | (refine' AllT.tree (by (first | (with_reducible assumption) | assumption)) (by (first | (with_reducible assumption) | assumption | exact AllT.nil | (refine' AllT.tree (by fail) (by fail)))))))))))))))))))))) (by (with_reducible assumption)) (by (with_reducible assumption)) (by (exact Room.le (by with_reducible assumption) (by first | decide | omega))) ?_) | (refine' np_use (by (with_reducible assumption)) (by (with_reducible assumption)) rfl (by (with_reducible assumption)) (by omega) ?_) | (refine' isi_u (by constructor) ?_) | (refine' len_tup_u (by exact Nat.le_of_ble_eq_true rfl) ?_) | (refine' pkg_u (by (with_reducible assumption)) (by (with_reducible assumption)) (by (exact Room.le (by with_reducible assumption) (by first | decide | omega))) ?_) | (refine' told_u (by (with_reducible assumption)) (by (with_reducible assumption)) (by (exact Room.le (by with_reducible assumption) (by first | decide | omega))) (by (first | (with_reducible assumption) | exact Bd.R0 (by with_reducible assumption) | exact Bd.l0 (by with_reducible assumption) | exact Bd.r0 (by with_reducible assumption))) ?_) | (refine' g_note (by (with_reducible assumption)) (by (with_reducible assumption)) ?_) | (refine' g_ahead (by (with_reducible assumption)) (by (with_reducible assumption)) ?_) | (refine' g_told (by (with_reducible assumption)) (by (with_reducible assumption)) ?_) | (refine' g_pkg (by (with_reducible assumption)) (by (with_reducible assumption)) ?_) | (refine' g_tell (by (with_reducible assumption)) (by (with_reducible assumption)) ?_) | (refine' g_all (by (with_reducible assumption)) (by (with_reducible assumption)) ?_) | (refine' g_within (by (with_reducible assumption)) (by (with_reducible assumption)) ?_) | (refine' g_tree (by (with_reducible assumption)) (by (with_reducible assumption)) ?_) | (refine' g_parts (by (with_reducible assumption)) (by (with_reducible assumption)) ?_) | (refine' g_func (by (with_reducible assumption)) (by (with_reducible assumption)) ?_) | (refine' g_lit (by (with_reducible assumption)) (by (with_reducible assumption)) ?_) | (refine' g_decl (by (with_reducible assumption)) (by (with_reducible assumption)) ?_) | (refine' g_nested (by (with_reducible assumption)) (by (with_reducible assumption)) ?_) | (refine' g_cases (by (with_reducible assumption)) (by (with_reducible assumption)) ?_) | (refine' g_case (by (with_reducible assumption)) (by (with_reducible assumption)) ?_) | (refine' g_keys (by (with_reducible assumption)) (by (with_reducible assumption)) ?_) | (refine' pushO (by (with_reducible assumption)) (by (with_reducible assumption)) ?_) | (refine' popO (by (with_reducible assumption)) (by (with_reducible assumption)) ?_) | (refine' push0_u (by (with_reducible assumption)) (by (first | (with_reducible assumption) | exact Bd.R0 (by with_reducible assumption) | exact Bd.l0 (by with_reducible assumption) | exact Bd.r0 (by with_reducible assumption))) ?_) | (refine' tuple_tup_u ?_) | (refine' list_tup_u (by exact Nat.le_of_ble_eq_true rfl) ?_) | (refine' list_list_u (by exact Nat.le_of_ble_eq_true rfl) ?_) | (refine' pop_u (by (with_reducible assumption)) (by (with_reducible assumption)) (by (with_reducible assumption)) ?_; intro _) | (exact ⟨rfl, rfl⟩) | (refine' And.intro rfl ?_))
  refine keys_u (I := IF w fk sa dx) ok (by (exact Room.le (by with_reducible assumption) (by first | decide | omega))) fun Y => ?_
  repeat' (first | (refine' BK.dT (by decide +kernel) ?_) | (refine' BK.dF (by decide +kernel) ?_) | (refine' BK.dT (by exact rfl) ?_) | (refine' BK.dF (by exact rfl) ?_) | (refine' SwOb.two (by with_unfolding_all rfl) ?_) | (refine' SwOb.none (by with_unfolding_all rfl) ?_) | (refine' note_u (by (with_reducible assumption)) (by (with_reducible assumption)) (by (exact Room.le (by with_reducible assumption) (by first | decide | omega))) (by (first | (with_reducible assumption) | exact Bd.R0 (by with_reducible assumption) | exact Bd.l0 (by with_reducible assumption) | exact Bd.r0 (by with_reducible assumption))) (by (first | (with_reducible assumption) | exact Bd.R0 (by with_reducible assumption) | exact Bd.l0 (by with_reducible assumption) | exact Bd.r0 (by with_reducible assumption))) ?_) | (refine' ahead_u (by (with_reducible assumption)) (by (with_reducible assumption)) (by (exact Room.le (by with_reducible assumption) (by first | decide | omega))) (by (first | (with_reducible assumption) | exact Bd.R0 (by with_reducible assumption) | exact Bd.l0 (by with_reducible assumption) | exact Bd.r0 (by with_reducible assumption))) (by (first | (with_reducible assumption) | exact Bd.R0 (by with_reducible assumption) | exact Bd.l0 (by with_reducible assumption) | exact Bd.r0 (by with_reducible assumption))) ?_) | (refine' tellT_u (by (with_reducible assumption)) (by (with_reducible assumption)) (by (exact Room.le (by with_reducible assumption) (by first | decide | omega))) (by (first | (with_reducible assumption) | exact Bd.R0 (by with_reducible assumption) | exact Bd.l0 (by with_reducible assumption) | exact Bd.r0 (by with_reducible assumption))) (by (first | (with_reducible assumption) | exact Bd.R0 (by with_reducible assumption) | exact Bd.l0 (by with_reducible assumption) | exact Bd.r0 (by with_reducible assumption))) ?_) | (refine' tellL_u (by (with_reducible assumption)) (by (with_reducible assumption)) (by (exact Room.le (by with_reducible assumption) (by first | decide | omega))) (by (first | (with_reducible assumption) | exact Bd.R0 (by with_reducible assumption) | exact Bd.l0 (by with_reducible assumption) | exact Bd.r0 (by with_reducible assumption))) (by (first | (with_reducible assumption) | exact Bd.R0 (by with_reducible assumption) | exact Bd.l0 (by with_reducible assumption) | exact Bd.r0 (by with_reducible assumption))) ?_) | (refine' tr_use (by (first | (with_reducible assumption) | assumption)) (by (with_reducible assumption)) rfl (by (exact Room.le (by with_reducible assumption) (by first | decide | omega))) ?_) | (refine' all_u (by (first | (with_reducible assumption) | assumption | exact AllT.nil | (refine' AllT.tree (by (first | (with_reducible assumption) | assumption)) (by (first | (with_reducible assumption) | assumption | exact AllT.nil | (refine' AllT.tree (by (first | (with_reducible assumption) | assumption)) (by (first | (with_reducible assumption) | assumption | exact AllT.nil | (refine' AllT.tree (by (first | (with_reducible assumption) | assumption)) (by (first | (with_reducible assumption) | assumption | exact AllT.nil | (refine' AllT.tree (by (first | (with_reducible assumption) | assumption)) (by (first | (with_reducible assumption) | assumption | exact AllT.nil | (refine' AllT.tree (by (first | (with_reducible assumption) | assumption)) (by (first | (with_reducible assumption) | assumption | exact AllT.nil | (refine' AllT.tree (by (first | (with_reducible assumption) | assumption)) (by (first | (with_reducible assumption) | assumption | exact AllT.nil | (refine' AllT.tree (by fail) (by fail)))))))))))))))))))))) (by (with_reducible assumption)) (by (with_reducible assumption)) (by (exact Room.le (by with_reducible assumption) (by first | decide | omega))) ?_) | (refine' allL_u (by (first | (with_reducible assumption) | assumption | exact AllT.nil | (refine' AllT.tree (by (first | (with_reducible assumption) | assumption)) (by (first | (with_reducible assumption) | assumption | exact AllT.nil | (refine' AllT.tree (by (first | (with_reducible assumption) | assumption)) (by (first | (with_reducible assumption) | assumption | exact AllT.nil | (refine' AllT.tree (by (first | (with_reducible assumption) | assumption)) (by (first | (with_reducible assumption) | assumption | exact AllT.nil | (refine' AllT.tree (by (first | (with_reducible assumption) | assumption)) (by (first | (with_reducible assumption) | assumption | exact AllT.nil | (refine' AllT.tree (by (first | (with_reducible assumption) | assumption)) (by (first | (with_reducible assumption) | assumption | exact AllT.nil | (refine' AllT.tree (by (first | (with_reducible assumption) | assumption)) (by (first | (with_reducible assumption) | assumption | exact AllT.nil | (refine' AllT.tree (by fail) (by fail)))))))))))))))))))))) (by (with_reducible assumption)) (by (with_reducible assumption)) (by (exact Room.le (by with_reducible assumption) (by first | decide | omega))) ?_) | (refine' np_use (by (with_reducible assumption)) (by (with_reducible assumption)) rfl (by (with_reducible assumption)) (by omega) ?_) | (refine' isi_u (by constructor) ?_) | (refine' len_tup_u (by exact Nat.le_of_ble_eq_true rfl) ?_) | (refine' pkg_u (by (with_reducible assumption)) (by (with_reducible assumption)) (by (exact Room.le (by with_reducible assumption) (by first | decide | omega))) ?_) | (refine' told_u (by (with_reducible assumption)) (by (with_reducible assumption)) (by (exact Room.le (by with_reducible assumption) (by first | decide | omega))) (by (first | (with_reducible assumption) | exact Bd.R0 (by with_reducible assumption) | exact Bd.l0 (by with_reducible assumption) | exact Bd.r0 (by with_reducible assumption))) ?_) | (refine' g_note (by (with_reducible assumption)) (by (with_reducible assumption)) ?_) | (refine' g_ahead (by (with_reducible assumption)) (by (with_reducible assumption)) ?_) | (refine' g_told (by (with_reducible assumption)) (by (with_reducible assumption)) ?_) | (refine' g_pkg (by (with_reducible assumption)) (by (with_reducible assumption)) ?_) | (refine' g_tell (by (with_reducible assumption)) (by (with_reducible assumption)) ?_) | (refine' g_all (by (with_reducible assumption)) (by (with_reducible assumption)) ?_) | (refine' g_within (by (with_reducible assumption)) (by (with_reducible assumption)) ?_) | (refine' g_tree (by (with_reducible assumption)) (by (with_reducible assumption)) ?_) | (refine' g_parts (by (with_reducible assumption)) (by (with_reducible assumption)) ?_) | (refine' g_func (by (with_reducible assumption)) (by (with_reducible assumption)) ?_) | (refine' g_lit (by (with_reducible assumption)) (by (with_reducible assumption)) ?_) | (refine' g_decl (by (with_reducible assumption)) (by (with_reducible assumption)) ?_) | (refine' g_nested (by (with_reducible assumption)) (by (with_reducible assumption)) ?_) | (refine' g_cases (by (with_reducible assumption)) (by (with_reducible assumption)) ?_) | (refine' g_case (by (with_reducible assumption)) (by (with_reducible assumption)) ?_) | (refine' g_keys (by (with_reducible assumption)) (by (with_reducible assumption)) ?_) | (refine' pushO (by (with_reducible assumption)) (by (with_reducible assumption)) ?_) | (refine' popO (by (with_reducible assumption)) (by (with_reducible assumption)) ?_) | (refine' push0_u (by (with_reducible assumption)) (by (first | (with_reducible assumption) | exact Bd.R0 (by with_reducible assumption) | exact Bd.l0 (by with_reducible assumption) | exact Bd.r0 (by with_reducible assumption))) ?_) | (refine' tuple_tup_u ?_) | (refine' list_tup_u (by exact Nat.le_of_ble_eq_true rfl) ?_) | (refine' list_list_u (by exact Nat.le_of_ble_eq_true rfl) ?_) | (refine' pop_u (by (with_reducible assumption)) (by (with_reducible assumption)) (by (with_reducible assumption)) ?_; intro _) | (exact ⟨rfl, rfl⟩) | (refine' And.intro rfl ?_))
/-- a literal -/
theorem t_lit {x : Str} {tz : V} (hw : g.w = w) (h : CT (IF w fk sa dx) g (D + 1) (.ref 120) [.raw (.ref sa), .tup [.str (cN "lit"), .int 1, tz, .tup [.tup [.none, nmV x]]]] s (NP s2)) : TR w fk sa dx g (D + 10) (.tup [.str (cN "lit"), .int 1, tz, .tup [.tup [.none, nmV x]]]) s s2 := by
  refine def_vc (dX := []) (dv := []) gl0 [Str.ofString "self", Str.ofString "tree"] (by rfl) (by rfl) (fun h vs _ _ hl gs dr tk os => ?_) .nil (by rfl) (by rfl) (by rfl) (by rfl) (by rfl) (by rfl) (fun c _ => gl0_ok c) fun c ok hg hr => ?_
  · obtain ⟨a, b, rfl⟩ := len2 hl
    exact BindsTo.of_eq rfl
  subst hg
  repeat' (first | (refine' BK.dT (by decide +kernel) ?_) | (refine' BK.dF (by decide +kernel) ?_) | (refine' BK.dT (by exact rfl) ?_) | (refine' BK.dF (by exact rfl) ?_) | (refine' SwOb.two (by with_unfolding_all rfl) ?_) | (refine' SwOb.none (by with_unfolding_all rfl) ?_) | (refine' note_u (by (with_reducible assumption)) (by (with_reducible assumption)) (by (exact Room.le (by with_reducible assumption) (by first | decide | omega))) (by (first | (with_reducible assumption) | exact Bd.R0 (by with_reducible assumption) | exact Bd.l0 (by with_reducible assumption) | exact Bd.r0 (by with_reducible assumption))) (by (first | (with_reducible assumption) | exact Bd.R0 (by with_reducible assumption) | exact Bd.l0 (by with_reducible assumption) | exact Bd.r0 (by with_reducible assumption))) ?_) | (refine' ahead_u (by (with_reducible assumption)) (by (with_reducible assumption)) (by (exact Room.le (by with_reducible assumption) (by first | decide | omega))) (by (first | (with_reducible assumption) | exact Bd.R0 (by with_reducible assumption) | exact Bd.l0 (by with_reducible assumption) | exact Bd.r0 (by with_reducible assumption))) (by (first | (with_reducible assumption) | exact Bd.R0 (by with_reducible assumption) | exact Bd.l0 (by with_reducible assumption) | exact Bd.r0 (by with_reducible assumption))) ?_) | (refine' tellT_u (by (with_reducible assumption)) (by (with_reducible assumption)) (by (exact Room.le (by with_reducible assumption) (by first | decide | omega))) (by (first | (with_reducible assumption) | exact Bd.R0 (by with_reducible assumption) | exact Bd.l0 (by with_reducible assumption) | exact Bd.r0 (by with_reducible assumption))) (by (first | (with_reducible assumption) | exact Bd.R0 (by with_reducible assumption) | exact Bd.l0 (by with_reducible assumption) | exact Bd.r0 (by with_reducible assumption))) ?_) | (refine' tellL_u (by (with_reducible assumption)) (by (with_reducible assumption)) (by (exact Room.le (by with_reducible assumption) (by first | decide | omega))) (by (first | (with_reducible assumption) | exact Bd.R0 (by with_reducible assumption) | exact Bd.l0 (by with_reducible assumption) | exact Bd.r0 (by with_reducible assumption))) (by (first | (with_reducible assumption) | exact Bd.R0 (by with_reducible assumption) | exact Bd.l0 (by with_reducible assumption) | exact Bd.r0 (by with_reducible assumption))) ?_) | (refine' tr_use (by (first | (with_reducible assumption) | assumption)) (by (with_reducible assumption)) rfl (by (exact Room.le (by with_reducible assumption) (by first | decide | omega))) ?_) | (refine' all_u (by (first | (with_reducible assumption) | assumption | exact AllT.nil | (refine' AllT.tree (by (first | (with_reducible assumption) | assumption)) (by (first | (with_reducible assumption) | assumption | exact AllT.nil | (refine' AllT.tree (by (first | (with_reducible assumption) | assumption)) (by (first | (with_reducible assumption) | assumption | exact AllT.nil | (refine' AllT.tree (by (first | (with_reducible assumption) | assumption)) (by (first | (with_reducible assumption) | assumption | exact AllT.nil | (refine' AllT.tree (by (first | (with_reducible assumption) | assumption)) (by (first | (with_reducible assumption) | assumption | exact AllT.nil | (refine' AllT.tree (by (first | (with_reducible assumption) | assumption)) (by (first | (with_reducible assumption) | assumption | exact AllT.nil | (refine' AllT.tree (by (first | (with_reducible assumption) | assumption)) (by (first | (with_reducible assumption) | assumption | exact AllT.nil | (refine' AllT.tree (by fail) (by fail)))))))))))))))))))))) (by (with_reducible assumption)) (by (with_reducible assumption)) (by (exact Room.le (by with_reducible assumption) (by first | decide | omega))) ?_) | (refine' allL_u (by (first | (with_reducible assumption) | assumption | exact AllT.nil | (refine' AllT.tree (by (first | (with_reducible assumption) | assumption)) (by (first | (with_reducible assumption) | assumption | exact AllT.nil | (refine' AllT.tree (by (first | (with_reducible assumption) | assumption)) (by (first | (with_reducible assumption) | assumption | exact AllT.nil | (refine' AllT.tree (by (first | (with_reducible assumption) | assumption)) (by (first | (with_reducible assumption) | assumption | exact AllT.nil | (refine' AllT.tree (by (first | (with_reducible assumption) | assumption)) (by (first | (with_reducible assumption) | assumption | exact AllT.nil | (refine' AllT.tree (by (first | (with_reducible assumption) | assumption)) (by (first | (with_reducible assumption) | assumption | exact AllT.nil | (refine' AllT.tree (by (first | (with_reducible assumption) | assumption)) (by (first | (with_reducible assumption) | assumption | exact AllT.nil | (refine' AllT.tree (by fail) (by fail)))))))))))))))))))))) (by (with_reducible assumption)) (by (with_reducible assumption)) (by (exact Room.le (by with_reducible assumption) (by first | decide | omega))) ?_) | (refine' np_use (by (with_reducible assumption)) (by (with_reducible assumption)) rfl (by (with_reducible assumption)) (by omega) ?_) | (refine' isi_u (by constructor) ?_) | (refine' len_tup_u (by exact Nat.le_of_ble_eq_true rfl) ?_) | (refine' pkg_u (by (with_reducible assumption)) (by (with_reducible assumption)) (by (exact Room.le (by with_reducible assumption) (by first | decide | omega))) ?_) | (refine' told_u (by (with_reducible assumption)) (by (with_reducible assumption)) (by (exact Room.le (by with_reducible assumption) (by first | decide | omega))) (by (first | (with_reducible assumption) | exact Bd.R0 (by with_reducible assumption) | exact Bd.l0 (by with_reducible assumption) | exact Bd.r0 (by with_reducible assumption))) ?_) | (refine' g_note (by (with_reducible assumption)) (by (with_reducible assumption)) ?_) | (refine' g_ahead (by (with_reducible assumption)) (by (with_reducible assumption)) ?_) | (refine' g_told (by (with_reducible assumption)) (by (with_reducible assumption)) ?_) | (refine' g_pkg (by (with_reducible assumption)) (by (with_reducible assumption)) ?_) | (refine' g_tell (by (with_reducible assumption)) (by (with_reducible assumption)) ?_) | (refine' g_all (by (with_reducible assumption)) (by (with_reducible assumption)) ?_) | (refine' g_within (by (with_reducible assumption)) (by (with_reducible assumption)) ?_) | (refine' g_tree (by (with_reducible assumption)) (by (with_reducible assumption)) ?_) | (refine' g_parts (by (with_reducible assumption)) (by (with_reducible assumption)) ?_) | (refine' g_func (by (with_reducible assumption)) (by (with_reducible assumption)) ?_) | (refine' g_lit (by (with_reducible assumption)) (by (with_reducible assumption)) ?_) | (refine' g_decl (by (with_reducible assumption)) (by (with_reducible assumption)) ?_) | (refine' g_nested (by (with_reducible assumption)) (by (with_reducible assumption)) ?_) | (refine' g_cases (by (with_reducible assumption)) (by (with_reducible assumption)) ?_) | (refine' g_case (by (with_reducible assumption)) (by (with_reducible assumption)) ?_) | (refine' g_keys (by (with_reducible assumption)) (by (with_reducible assumption)) ?_) | (refine' pushO (by (with_reducible assumption)) (by (with_reducible assumption)) ?_) | (refine' popO (by (with_reducible assumption)) (by (with_reducible assumption)) ?_) | (refine' push0_u (by (with_reducible assumption)) (by (first | (with_reducible assumption) | exact Bd.R0 (by with_reducible assumption) | exact Bd.l0 (by with_reducible assumption) | exact Bd.r0 (by with_reducible assumption))) ?_) | (refine' tuple_tup_u ?_) | (refine' list_tup_u (by exact Nat.le_of_ble_eq_true rfl) ?_) | (refine' list_list_u (by exact Nat.le_of_ble_eq_true rfl) ?_) | (refine' pop_u (by (with_reducible assumption)) (by (with_reducible assumption)) (by (with_reducible assumption)) ?_; intro _) | (exact ⟨rfl, rfl⟩) | (refine' And.intro rfl ?_))
  refine np_use h ok rfl hr (by omega) ?_
  exact ⟨rfl, rfl⟩
/-- a declaration -/
theorem t_decl {k : Str} {i : Int} {ys : List V} (hw : g.w = w) (h1 : (k == cN "name") = false) (h2 : (k == cN "select") = false) (h3 : (k == cN "func") = false) (h4 : (k == cN "lit") = false)
    (h5 : ([cN "define", cN "var", cN "const", cN "typedecl"].any (· == k)) = true) (h : CT (IF w fk sa dx) g (D + 2) (.ref 127) [.raw (.ref sa), .tup (.str k :: .int i :: ys)] s (NP s2)) : TR w fk sa dx g (D + 10) (.tup (.str k :: .int i :: ys)) s s2 := by
  refine def_vc (dX := []) (dv := []) gl0 [Str.ofString "self", Str.ofString "tree"] (by rfl) (by rfl) (fun h vs _ _ hl gs dr tk os => ?_) .nil (by rfl) (by rfl) (by rfl) (by rfl) (by rfl) (by rfl) (fun c _ => gl0_ok c) fun c ok hg hr => ?_
  · obtain ⟨a, b, rfl⟩ := len2 hl
    exact BindsTo.of_eq rfl
  subst hg
  refine BK.dF h1 ?_
  refine BK.dF h2 ?_
  refine BK.dF h3 (.f ?_)
  refine BK.dF h4 ?_
  refine BK.dT h5 ?_
  refine g_decl ok hw ?_
  refine np_use h ok rfl hr (by omega) ?_
  exact ⟨rfl, rfl⟩
theorem define_c {x : Str} {ys : List V} (hw : g.w = w) (hD : 45 ≤ D) (hE : TR w fk sa dx g D (.tup ys) s s1) (b1 : s1.R.length ≤ 900) (b2 : s1.row.length ≤ 90000) : CT (IF w fk sa dx) g (D + 2) (.ref 127) [.raw (.ref sa), .tup [.str (cN "define"), .int 1, .tup [.str x], .tup [.tup ys]]] s (NP (s1.tell [x])) := by
  refine def_vc (dX := []) (dv := []) gl0 [Str.ofString "self", Str.ofString "tree"] (by rfl) (by rfl) (fun h vs _ _ hl gs dr tk os => ?_) .nil (by rfl) (by rfl) (by rfl) (by rfl) (by rfl) (by rfl) (fun c _ => gl0_ok c) fun c ok hg hr => ?_
  · obtain ⟨a, b, rfl⟩ := len2 hl
    exact BindsTo.of_eq rfl
  subst hg
  repeat' (first | (refine' BK.dT (by decide +kernel) ?_) | (refine' BK.dF (by decide +kernel) ?_) | (refine' BK.dT (by exact rfl) ?_) | (refine' BK.dF (by exact rfl) ?_) | (refine' SwOb.two (by with_unfolding_all rfl) ?_) | (refine' SwOb.none (by with_unfolding_all rfl) ?_) | (refine' note_u (by (with_reducible assumption)) (by (with_reducible assumption)) (by (exact Room.le (by with_reducible assumption) (by first | decide | omega))) (by (first | (with_reducible assumption) | exact Bd.R0 (by with_reducible assumption) | exact Bd.l0 (by with_reducible assumption) | exact Bd.r0 (by with_reducible assumption))) (by (first | (with_reducible assumption) | exact Bd.R0 (by with_reducible assumption) | exact Bd.l0 (by with_reducible assumption) | exact Bd.r0 (by with_reducible assumption))) ?_) | (refine' ahead_u (by (with_reducible assumption)) (by (with_reducible assumption)) (by (exact Room.le (by with_reducible assumption) (by first | decide | omega))) (by (first | (with_reducible assumption) | exact Bd.R0 (by with_reducible assumption) | exact Bd.l0 (by with_reducible assumption) | exact Bd.r0 (by with_reducible assumption))) (by (first | (with_reducible assumption) | exact Bd.R0 (by with_reducible assumption) | exact Bd.l0 (by with_reducible assumption) | exact Bd.r0 (by with_reducible assumption))) ?_) | (refine' tellT_u (by (with_reducible assumption)) (by (with_reducible assumption)) (by (exact Room.le (by with_reducible assumption) (by first | decide | omega))) (by (first | (with_reducible assumption) | exact Bd.R0 (by with_reducible assumption) | exact Bd.l0 (by with_reducible assumption) | exact Bd.r0 (by with_reducible assumption))) (by (first | (with_reducible assumption) | exact Bd.R0 (by with_reducible assumption) | exact Bd.l0 (by with_reducible assumption) | exact Bd.r0 (by with_reducible assumption))) ?_) | (refine' tellL_u (by (with_reducible assumption)) (by (with_reducible assumption)) (by (exact Room.le (by with_reducible assumption) (by first | decide | omega))) (by (first | (with_reducible assumption) | exact Bd.R0 (by with_reducible assumption) | exact Bd.l0 (by with_reducible assumption) | exact Bd.r0 (by with_reducible assumption))) (by (first | (with_reducible assumption) | exact Bd.R0 (by with_reducible assumption) | exact Bd.l0 (by with_reducible assumption) | exact Bd.r0 (by with_reducible assumption))) ?_) | (refine' tr_use (by (first | (with_reducible assumption) | assumption)) (by (with_reducible assumption)) rfl (by (exact Room.le (by with_reducible assumption) (by first | decide | omega))) ?_) | (refine' all_u (by (first | (with_reducible assumption) | assumption | exact AllT.nil | (refine' AllT.tree (by (first | (with_reducible assumption) | assumption)) (by (first | (with_reducible assumption) | assumption | exact AllT.nil | (refine' AllT.tree (by (first | (with_reducible assumption) | assumption)) (by (first | (with_reducible assumption) | assumption | exact AllT.nil | (refine' AllT.tree (by (first | (with_reducible assumption) | assumption)) (by (first | (with_reducible assumption) | assumption | exact AllT.nil | (refine' AllT.tree (by (first | (with_reducible assumption) | assumption)) (by (first | (with_reducible assumption) | assumption | exact AllT.nil | (refine' AllT.tree (by (first | (with_reducible assumption) | assumption)) (by (first | (with_reducible assumption) | assumption | exact AllT.nil | (refine' AllT.tree (by (first | (with_reducible assumption) | assumption)) (by (first | (with_reducible assumption) | assumption | exact AllT.nil | (refine' AllT.tree (by fail) (by fail)))))))))))))))))))))) (by (with_reducible assumption)) (by (with_reducible assumption)) (by (exact Room.le (by with_reducible assumption) (by first | decide | omega))) ?_) | (refine' allL_u (by (first | (with_reducible assumption) | assumption | exact AllT.nil | (refine' AllT.tree (by (first | (with_reducible assumption) | assumption)) (by (first | (with_reducible assumption) | assumption | exact AllT.nil | (refine' AllT.tree (by (first | (with_reducible assumption) | assumption)) (by (first | (with_reducible assumption) | assumption | exact AllT.nil | (refine' AllT.tree (by (first | (with_reducible assumption) | assumption)) (by (first | (with_reducible assumption) | assumption | exact AllT.nil | (refine' AllT.tree (by (first | (with_reducible assumption) | assumption)) (by (first | (with_reducible assumption) | assumption | exact AllT.nil | (refine' AllT.tree (by (first | (with_reducible assumption) | assumption)) (by (first | (with_reducible assumption) | assumption | exact AllT.nil | (refine' AllT.tree (by (first | (with_reducible assumption) | assumption)) (by (first | (with_reducible assumption) | assumption | exact AllT.nil | (refine' AllT.tree (by fail) (by fail)))))))))))))))))))))) (by (with_reducible assumption)) (by (with_reducible assumption)) (by (exact Room.le (by with_reducible assumption) (by first | decide | omega))) ?_) | (refine' np_use (by (with_reducible assumption)) (by (with_reducible assumption)) rfl (by (with_reducible assumption)) (by omega) ?_) | (refine' isi_u (by constructor) ?_) | (refine' len_tup_u (by exact Nat.le_of_ble_eq_true rfl) ?_) | (refine' pkg_u (by (with_reducible assumption)) (by (with_reducible assumption)) (by (exact Room.le (by with_reducible assumption) (by first | decide | omega))) ?_) | (refine' told_u (by (with_reducible assumption)) (by (with_reducible assumption)) (by (exact Room.le (by with_reducible assumption) (by first | decide | omega))) (by (first | (with_reducible assumption) | exact Bd.R0 (by with_reducible assumption) | exact Bd.l0 (by with_reducible assumption) | exact Bd.r0 (by with_reducible assumption))) ?_) | (refine' g_note (by (with_reducible assumption)) (by (with_reducible assumption)) ?_) | (refine' g_ahead (by (with_reducible assumption)) (by (with_reducible assumption)) ?_) | (refine' g_told (by (with_reducible assumption)) (by (with_reducible assumption)) ?_) | (refine' g_pkg (by (with_reducible assumption)) (by (with_reducible assumption)) ?_) | (refine' g_tell (by (with_reducible assumption)) (by (with_reducible assumption)) ?_) | (refine' g_all (by (with_reducible assumption)) (by (with_reducible assumption)) ?_) | (refine' g_within (by (with_reducible assumption)) (by (with_reducible assumption)) ?_) | (refine' g_tree (by (with_reducible assumption)) (by (with_reducible assumption)) ?_) | (refine' g_parts (by (with_reducible assumption)) (by (with_reducible assumption)) ?_) | (refine' g_func (by (with_reducible assumption)) (by (with_reducible assumption)) ?_) | (refine' g_lit (by (with_reducible assumption)) (by (with_reducible assumption)) ?_) | (refine' g_decl (by (with_reducible assumption)) (by (with_reducible assumption)) ?_) | (refine' g_nested (by (with_reducible assumption)) (by (with_reducible assumption)) ?_) | (refine' g_cases (by (with_reducible assumption)) (by (with_reducible assumption)) ?_) | (refine' g_case (by (with_reducible assumption)) (by (with_reducible assumption)) ?_) | (refine' g_keys (by (with_reducible assumption)) (by (with_reducible assumption)) ?_) | (refine' pushO (by (with_reducible assumption)) (by (with_reducible assumption)) ?_) | (refine' popO (by (with_reducible assumption)) (by (with_reducible assumption)) ?_) | (refine' push0_u (by (with_reducible assumption)) (by (first | (with_reducible assumption) | exact Bd.R0 (by with_reducible assumption) | exact Bd.l0 (by with_reducible assumption) | exact Bd.r0 (by with_reducible assumption))) ?_) | (refine' tuple_tup_u ?_) | (refine' list_tup_u (by exact Nat.le_of_ble_eq_true rfl) ?_) | (refine' list_list_u (by exact Nat.le_of_ble_eq_true rfl) ?_) | (refine' pop_u (by (with_reducible assumption)) (by (with_reducible assumption)) (by (with_reducible assumption)) ?_; intro _) | (exact ⟨rfl, rfl⟩) | (refine' And.intro rfl ?_))
theorem var_c {x : Str} {ys zs : List V} (hw : g.w = w) (hD : 45 ≤ D) (hT : TR w fk sa dx g D (.tup zs) s s1) (hE : TR w fk sa dx g D (.tup ys) s1 s2) (b1 : s2.R.length ≤ 900) (b2 : s2.row.length ≤ 90000) : CT (IF w fk sa dx) g (D + 2) (.ref 127) [.raw (.ref sa), .tup [.str (cN "var"), .int 1, .tup [.str x], .tup zs, .tup [.tup ys]]] s (NP (s2.tell [x])) := by
  refine def_vc (dX := []) (dv := []) gl0 [Str.ofString "self", Str.ofString "tree"] (by rfl) (by rfl) (fun h vs _ _ hl gs dr tk os => ?_) .nil (by rfl) (by rfl) (by rfl) (by rfl) (by rfl) (by rfl) (fun c _ => gl0_ok c) fun c ok hg hr => ?_
  · obtain ⟨a, b, rfl⟩ := len2 hl
    exact BindsTo.of_eq rfl
  subst hg
  repeat' (first | (refine' BK.dT (by decide +kernel) ?_) | (refine' BK.dF (by decide +kernel) ?_) | (refine' BK.dT (by exact rfl) ?_) | (refine' BK.dF (by exact rfl) ?_) | (refine' SwOb.two (by with_unfolding_all rfl) ?_) | (refine' SwOb.none (by with_unfolding_all rfl) ?_) | (refine' note_u (by (with_reducible assumption)) (by (with_reducible assumption)) (by (exact Room.le (by with_reducible assumption) (by first | decide | omega))) (by (first | (with_reducible assumption) | exact Bd.R0 (by with_reducible assumption) | exact Bd.l0 (by with_reducible assumption) | exact Bd.r0 (by with_reducible assumption))) (by (first | (with_reducible assumption) | exact Bd.R0 (by with_reducible assumption) | exact Bd.l0 (by with_reducible assumption) | exact Bd.r0 (by with_reducible assumption))) ?_) | (refine' ahead_u (by (with_reducible assumption)) (by (with_reducible assumption)) (by (exact Room.le (by with_reducible assumption) (by first | decide | omega))) (by (first | (with_reducible assumption) | exact Bd.R0 (by with_reducible assumption) | exact Bd.l0 (by with_reducible assumption) | exact Bd.r0 (by with_reducible assumption))) (by (first | (with_reducible assumption) | exact Bd.R0 (by with_reducible assumption) | exact Bd.l0 (by with_reducible assumption) | exact Bd.r0 (by with_reducible assumption))) ?_) | (refine' tellT_u (by (with_reducible assumption)) (by (with_reducible assumption)) (by (exact Room.le (by with_reducible assumption) (by first | decide | omega))) (by (first | (with_reducible assumption) | exact Bd.R0 (by with_reducible assumption) | exact Bd.l0 (by with_reducible assumption) | exact Bd.r0 (by with_reducible assumption))) (by (first | (with_reducible assumption) | exact Bd.R0 (by with_reducible assumption) | exact Bd.l0 (by with_reducible assumption) | exact Bd.r0 (by with_reducible assumption))) ?_) | (refine' tellL_u (by (with_reducible assumption)) (by (with_reducible assumption)) (by (exact Room.le (by with_reducible assumption) (by first | decide | omega))) (by (first | (with_reducible assumption) | exact Bd.R0 (by with_reducible assumption) | exact Bd.l0 (by with_reducible assumption) | exact Bd.r0 (by with_reducible assumption))) (by (first | (with_reducible assumption) | exact Bd.R0 (by with_reducible assumption) | exact Bd.l0 (by with_reducible assumption) | exact Bd.r0 (by with_reducible assumption))) ?_) | (refine' tr_use (by (first | (with_reducible assumption) | assumption)) (by (with_reducible assumption)) rfl (by (exact Room.le (by with_reducible assumption) (by first | decide | omega))) ?_) | (refine' all_u (by (first | (with_reducible assumption) | assumption | exact AllT.nil | (refine' AllT.tree (by (first | (with_reducible assumption) | assumption)) (by (first | (with_reducible assumption) | assumption | exact AllT.nil | (refine' AllT.tree (by (first | (with_reducible assumption) | assumption)) (by (first | (with_reducible assumption) | assumption | exact AllT.nil | (refine' AllT.tree (by (first | (with_reducible assumption) | assumption)) (by (first | (with_reducible assumption) | assumption | exact AllT.nil | (refine' AllT.tree (by (first | (with_reducible assumption) | assumption)) (by (first | (with_reducible assumption) | assumption | exact AllT.nil | (refine' AllT.tree (by (first | (with_reducible assumption) | assumption)) (by (first | (with_reducible assumption) | assumption | exact AllT.nil | (refine' AllT.tree (by (first | (with_reducible assumption) | assumption)) (by (first | (with_reducible assumption) | assumption | exact AllT.nil | (refine' AllT.tree (by fail) (by fail)))))))))))))))))))))) (by (with_reducible assumption)) (by (with_reducible assumption)) (by (exact Room.le (by with_reducible assumption) (by first | decide | omega))) ?_) | (refine' allL_u (by (first | (with_reducible assumption) | assumption | exact AllT.nil | (refine' AllT.tree (by (first | (with_reducible assumption) | assumption)) (by (first | (with_reducible assumption) | assumption | exact AllT.nil | (refine' AllT.tree (by (first | (with_reducible assumption) | assumption)) (by (first | (with_reducible assumption) | assumption | exact AllT.nil | (refine' AllT.tree (by (first | (with_reducible assumption) | assumption)) (by (first | (with_reducible assumption) | assumption | exact AllT.nil | (refine' AllT.tree (by (first | (with_reducible assumption) | assumption)) (by (first | (with_reducible assumption) | assumption | exact AllT.nil | (refine' AllT.tree (by (first | (with_reducible assumption) | assumption)) (by (first | (with_reducible assumption) | assumption | exact AllT.nil | (refine' AllT.tree (by (first | (with_reducible assumption) | assumption)) (by (first | (with_reducible assumption) | assumption | exact AllT.nil | (refine' AllT.tree (by fail) (by fail)))))))))))))))))))))) (by (with_reducible assumption)) (by (with_reducible assumption)) (by (exact Room.le (by with_reducible assumption) (by first | decide | omega))) ?_) | (refine' np_use (by (with_reducible assumption)) (by (with_reducible assumption)) rfl (by (with_reducible assumption)) (by omega) ?_) | (refine' isi_u (by constructor) ?_) | (refine' len_tup_u (by exact Nat.le_of_ble_eq_true rfl) ?_) | (refine' pkg_u (by (with_reducible assumption)) (by (with_reducible assumption)) (by (exact Room.le (by with_reducible assumption) (by first | decide | omega))) ?_) | (refine' told_u (by (with_reducible assumption)) (by (with_reducible assumption)) (by (exact Room.le (by with_reducible assumption) (by first | decide | omega))) (by (first | (with_reducible assumption) | exact Bd.R0 (by with_reducible assumption) | exact Bd.l0 (by with_reducible assumption) | exact Bd.r0 (by with_reducible assumption))) ?_) | (refine' g_note (by (with_reducible assumption)) (by (with_reducible assumption)) ?_) | (refine' g_ahead (by (with_reducible assumption)) (by (with_reducible assumption)) ?_) | (refine' g_told (by (with_reducible assumption)) (by (with_reducible assumption)) ?_) | (refine' g_pkg (by (with_reducible assumption)) (by (with_reducible assumption)) ?_) | (refine' g_tell (by (with_reducible assumption)) (by (with_reducible assumption)) ?_) | (refine' g_all (by (with_reducible assumption)) (by (with_reducible assumption)) ?_) | (refine' g_within (by (with_reducible assumption)) (by (with_reducible assumption)) ?_) | (refine' g_tree (by (with_reducible assumption)) (by (with_reducible assumption)) ?_) | (refine' g_parts (by (with_reducible assumption)) (by (with_reducible assumption)) ?_) | (refine' g_func (by (with_reducible assumption)) (by (with_reducible assumption)) ?_) | (refine' g_lit (by (with_reducible assumption)) (by (with_reducible assumption)) ?_) | (refine' g_decl (by (with_reducible assumption)) (by (with_reducible assumption)) ?_) | (refine' g_nested (by (with_reducible assumption)) (by (with_reducible assumption)) ?_) | (refine' g_cases (by (with_reducible assumption)) (by (with_reducible assumption)) ?_) | (refine' g_case (by (with_reducible assumption)) (by (with_reducible assumption)) ?_) | (refine' g_keys (by (with_reducible assumption)) (by (with_reducible assumption)) ?_) | (refine' pushO (by (with_reducible assumption)) (by (with_reducible assumption)) ?_) | (refine' popO (by (with_reducible assumption)) (by (with_reducible assumption)) ?_) | (refine' push0_u (by (with_reducible assumption)) (by (first | (with_reducible assumption) | exact Bd.R0 (by with_reducible assumption) | exact Bd.l0 (by with_reducible assumption) | exact Bd.r0 (by with_reducible assumption))) ?_) | (refine' tuple_tup_u ?_) | (refine' list_tup_u (by exact Nat.le_of_ble_eq_true rfl) ?_) | (refine' list_list_u (by exact Nat.le_of_ble_eq_true rfl) ?_) | (refine' pop_u (by (with_reducible assumption)) (by (with_reducible assumption)) (by (with_reducible assumption)) ?_; intro _) | (exact ⟨rfl, rfl⟩) | (refine' And.intro rfl ?_))
  refine .tt (Nat.le_of_ble_eq_true rfl) ?_
  repeat' (first | (refine' BK.dT (by decide +kernel) ?_) | (refine' BK.dF (by decide +kernel) ?_) | (refine' BK.dT (by exact rfl) ?_) | (refine' BK.dF (by exact rfl) ?_) | (refine' SwOb.two (by with_unfolding_all rfl) ?_) | (refine' SwOb.none (by with_unfolding_all rfl) ?_) | (refine' note_u (by (with_reducible assumption)) (by (with_reducible assumption)) (by (exact Room.le (by with_reducible assumption) (by first | decide | omega))) (by (first | (with_reducible assumption) | exact Bd.R0 (by with_reducible assumption) | exact Bd.l0 (by with_reducible assumption) | exact Bd.r0 (by with_reducible assumption))) (by (first | (with_reducible assumption) | exact Bd.R0 (by with_reducible assumption) | exact Bd.l0 (by with_reducible assumption) | exact Bd.r0 (by with_reducible assumption))) ?_) | (refine' ahead_u (by (with_reducible assumption)) (by (with_reducible assumption)) (by (exact Room.le (by with_reducible assumption) (by first | decide | omega))) (by (first | (with_reducible assumption) | exact Bd.R0 (by with_reducible assumption) | exact Bd.l0 (by with_reducible assumption) | exact Bd.r0 (by with_reducible assumption))) (by (first | (with_reducible assumption) | exact Bd.R0 (by with_reducible assumption) | exact Bd.l0 (by with_reducible assumption) | exact Bd.r0 (by with_reducible assumption))) ?_) | (refine' tellT_u (by (with_reducible assumption)) (by (with_reducible assumption)) (by (exact Room.le (by with_reducible assumption) (by first | decide | omega))) (by (first | (with_reducible assumption) | exact Bd.R0 (by with_reducible assumption) | exact Bd.l0 (by with_reducible assumption) | exact Bd.r0 (by with_reducible assumption))) (by (first | (with_reducible assumption) | exact Bd.R0 (by with_reducible assumption) | exact Bd.l0 (by with_reducible assumption) | exact Bd.r0 (by with_reducible assumption))) ?_) | (refine' tellL_u (by (with_reducible assumption)) (by (with_reducible assumption)) (by (exact Room.le (by with_reducible assumption) (by first | decide | omega))) (by (first | (with_reducible assumption) | exact Bd.R0 (by with_reducible assumption) | exact Bd.l0 (by with_reducible assumption) | exact Bd.r0 (by with_reducible assumption))) (by (first | (with_reducible assumption) | exact Bd.R0 (by with_reducible assumption) | exact Bd.l0 (by with_reducible assumption) | exact Bd.r0 (by with_reducible assumption))) ?_) | (refine' tr_use (by (first | (with_reducible assumption) | assumption)) (by (with_reducible assumption)) rfl (by (exact Room.le (by with_reducible assumption) (by first | decide | omega))) ?_) | (refine' all_u (by (first | (with_reducible assumption) | assumption | exact AllT.nil | (refine' AllT.tree (by (first | (with_reducible assumption) | assumption)) (by (first | (with_reducible assumption) | assumption | exact AllT.nil | (refine' AllT.tree (by (first | (with_reducible assumption) | assumption)) (by (first | (with_reducible assumption) | assumption | exact AllT.nil | (refine' AllT.tree (by (first | (with_reducible assumption) | assumption)) (by (first | (with_reducible assumption) | assumption | exact AllT.nil | (refine' AllT.tree (by (first | (with_reducible assumption) | assumption)) (by (first | (with_reducible assumption) | assumption | exact AllT.nil | (refine' AllT.tree (by (first | (with_reducible assumption) | assumption)) (by (first | (with_reducible assumption) | assumption | exact AllT.nil | (refine' AllT.tree (by (first | (with_reducible assumption) | assumption)) (by (first | (with_reducible assumption) | assumption | exact AllT.nil | (refine' AllT.tree (by fail) (by fail)))))))))))))))))))))) (by (with_reducible assumption)) (by (with_reducible assumption)) (by (exact Room.le (by with_reducible assumption) (by first | decide | omega))) ?_) | (refine' allL_u (by (first | (with_reducible assumption) | assumption | exact AllT.nil | (refine' AllT.tree (by (first | (with_reducible assumption) | assumption)) (by (first | (with_reducible assumption) | assumption | exact AllT.nil | (refine' AllT.tree (by (first | (with_reducible assumption) | assumption)) (by (first | (with_reducible assumption) | assumption | exact AllT.nil | (refine' AllT.tree (by (first | (with_reducible assumption) | assumption)) (by (first | (with_reducible assumption) | assumption | exact AllT.nil | (refine' AllT.tree (by (first | (with_reducible assumption) | assumption)) (by (first | (with_reducible assumption) | assumption | exact AllT.nil | (refine' AllT.tree (by (first | (with_reducible assumption) | assumption)) (by (first | (with_reducible assumption) | assumption | exact AllT.nil | (refine' AllT.tree (by (first | (with_reducible assumption) | assumption)) (by (first | (with_reducible assumption) | assumption | exact AllT.nil | (refine' AllT.tree (by fail) (by fail)))))))))))))))))))))) (by (with_reducible assumption)) (by (with_reducible assumption)) (by (exact Room.le (by with_reducible assumption) (by first | decide | omega))) ?_) | (refine' np_use (by (with_reducible assumption)) (by (with_reducible assumption)) rfl (by (with_reducible assumption)) (by omega) ?_) | (refine' isi_u (by constructor) ?_) | (refine' len_tup_u (by exact Nat.le_of_ble_eq_true rfl) ?_) | (refine' pkg_u (by (with_reducible assumption)) (by (with_reducible assumption)) (by (exact Room.le (by with_reducible assumption) (by first | decide | omega))) ?_) | (refine' told_u (by (with_reducible assumption)) (by (with_reducible assumption)) (by (exact Room.le (by with_reducible assumption) (by first | decide | omega))) (by (first | (with_reducible assumption) | exact Bd.R0 (by with_reducible assumption) | exact Bd.l0 (by with_reducible assumption) | exact Bd.r0 (by with_reducible assumption))) ?_) | (refine' g_note (by (with_reducible assumption)) (by (with_reducible assumption)) ?_) | (refine' g_ahead (by (with_reducible assumption)) (by (with_reducible assumption)) ?_) | (refine' g_told (by (with_reducible assumption)) (by (with_reducible assumption)) ?_) | (refine' g_pkg (by (with_reducible assumption)) (by (with_reducible assumption)) ?_) | (refine' g_tell (by (with_reducible assumption)) (by (with_reducible assumption)) ?_) | (refine' g_all (by (with_reducible assumption)) (by (with_reducible assumption)) ?_) | (refine' g_within (by (with_reducible assumption)) (by (with_reducible assumption)) ?_) | (refine' g_tree (by (with_reducible assumption)) (by (with_reducible assumption)) ?_) | (refine' g_parts (by (with_reducible assumption)) (by (with_reducible assumption)) ?_) | (refine' g_func (by (with_reducible assumption)) (by (with_reducible assumption)) ?_) | (refine' g_lit (by (with_reducible assumption)) (by (with_reducible assumption)) ?_) | (refine' g_decl (by (with_reducible assumption)) (by (with_reducible assumption)) ?_) | (refine' g_nested (by (with_reducible assumption)) (by (with_reducible assumption)) ?_) | (refine' g_cases (by (with_reducible assumption)) (by (with_reducible assumption)) ?_) | (refine' g_case (by (with_reducible assumption)) (by (with_reducible assumption)) ?_) | (refine' g_keys (by (with_reducible assumption)) (by (with_reducible assumption)) ?_) | (refine' pushO (by (with_reducible assumption)) (by (with_reducible assumption)) ?_) | (refine' popO (by (with_reducible assumption)) (by (with_reducible assumption)) ?_) | (refine' push0_u (by (with_reducible assumption)) (by (first | (with_reducible assumption) | exact Bd.R0 (by with_reducible assumption) | exact Bd.l0 (by with_reducible assumption) | exact Bd.r0 (by with_reducible assumption))) ?_) | (refine' tuple_tup_u ?_) | (refine' list_tup_u (by exact Nat.le_of_ble_eq_true rfl) ?_) | (refine' list_list_u (by exact Nat.le_of_ble_eq_true rfl) ?_) | (refine' pop_u (by (with_reducible assumption)) (by (with_reducible assumption)) (by (with_reducible assumption)) ?_; intro _) | (exact ⟨rfl, rfl⟩) | (refine' And.intro rfl ?_))
theorem typedecl_c {x : Str} {zs : List V} (hw : g.w = w) (hD : 45 ≤ D) (b1 : s.R.length ≤ 900) (b2 : s.row.length ≤ 90000) (hT : TR w fk sa dx g D (.tup zs) (s.tell [x]) s1) : CT (IF w fk sa dx) g (D + 2) (.ref 127) [.raw (.ref sa), .tup [.str (cN "typedecl"), .int 1, .str x, .tup zs, .bool false]] s (NP s1) := by
  refine def_vc (dX := []) (dv := []) gl0 [Str.ofString "self", Str.ofString "tree"] (by rfl) (by rfl) (fun h vs _ _ hl gs dr tk os => ?_) .nil (by rfl) (by rfl) (by rfl) (by rfl) (by rfl) (by rfl) (fun c _ => gl0_ok c) fun c ok hg hr => ?_
  · obtain ⟨a, b, rfl⟩ := len2 hl
    exact BindsTo.of_eq rfl
  subst hg
  repeat' (first | (refine' BK.dT (by decide +kernel) ?_) | (refine' BK.dF (by decide +kernel) ?_) | (refine' BK.dT (by exact rfl) ?_) | (refine' BK.dF (by exact rfl) ?_) | (refine' SwOb.two (by with_unfolding_all rfl) ?_) | (refine' SwOb.none (by with_unfolding_all rfl) ?_) | (refine' note_u (by (with_reducible assumption)) (by (with_reducible assumption)) (by (exact Room.le (by with_reducible assumption) (by first | decide | omega))) (by (first | (with_reducible assumption) | exact Bd.R0 (by with_reducible assumption) | exact Bd.l0 (by with_reducible assumption) | exact Bd.r0 (by with_reducible assumption))) (by (first | (with_reducible assumption) | exact Bd.R0 (by with_reducible assumption) | exact Bd.l0 (by with_reducible assumption) | exact Bd.r0 (by with_reducible assumption))) ?_) | (refine' ahead_u (by (with_reducible assumption)) (by (with_reducible assumption)) (by (exact Room.le (by with_reducible assumption) (by first | decide | omega))) (by (first | (with_reducible assumption) | exact Bd.R0 (by with_reducible assumption) | exact Bd.l0 (by with_reducible assumption) | exact Bd.r0 (by with_reducible assumption))) (by (first | (with_reducible assumption) | exact Bd.R0 (by with_reducible assumption) | exact Bd.l0 (by with_reducible assumption) | exact Bd.r0 (by with_reducible assumption))) ?_) | (refine' tellT_u (by (with_reducible assumption)) (by (with_reducible assumption)) (by (exact Room.le (by with_reducible assumption) (by first | decide | omega))) (by (first | (with_reducible assumption) | exact Bd.R0 (by with_reducible assumption) | exact Bd.l0 (by with_reducible assumption) | exact Bd.r0 (by with_reducible assumption))) (by (first | (with_reducible assumption) | exact Bd.R0 (by with_reducible assumption) | exact Bd.l0 (by with_reducible assumption) | exact Bd.r0 (by with_reducible assumption))) ?_) | (refine' tellL_u (by (with_reducible assumption)) (by (with_reducible assumption)) (by (exact Room.le (by with_reducible assumption) (by first | decide | omega))) (by (first | (with_reducible assumption) | exact Bd.R0 (by with_reducible assumption) | exact Bd.l0 (by with_reducible assumption) | exact Bd.r0 (by with_reducible assumption))) (by (first | (with_reducible assumption) | exact Bd.R0 (by with_reducible assumption) | exact Bd.l0 (by with_reducible assumption) | exact Bd.r0 (by with_reducible assumption))) ?_) | (refine' tr_use (by (first | (with_reducible assumption) | assumption)) (by (with_reducible assumption)) rfl (by (exact Room.le (by with_reducible assumption) (by first | decide | omega))) ?_) | (refine' all_u (by (first | (with_reducible assumption) | assumption | exact AllT.nil | (refine' AllT.tree (by (first | (with_reducible assumption) | assumption)) (by (first | (with_reducible assumption) | assumption | exact AllT.nil | (refine' AllT.tree (by (first | (with_reducible assumption) | assumption)) (by (first | (with_reducible assumption) | assumption | exact AllT.nil | (refine' AllT.tree (by (first | (with_reducible assumption) | assumption)) (by (first | (with_reducible assumption) | assumption | exact AllT.nil | (refine' AllT.tree (by (first | (with_reducible assumption) | assumption)) (by (first | (with_reducible assumption) | assumption | exact AllT.nil | (refine' AllT.tree (by (first | (with_reducible assumption) | assumption)) (by (first | (with_reducible assumption) | assumption | exact AllT.nil | (refine' AllT.tree (by (first | (with_reducible assumption) | assumption)) (by (first | (with_reducible assumption) | assumption | exact AllT.nil | (refine' AllT.tree (by fail) (by fail)))))))))))))))))))))) (by (with_reducible assumption)) (by (with_reducible assumption)) (by (exact Room.le (by with_reducible assumption) (by first | decide | omega))) ?_) | (refine' allL_u (by (first | (with_reducible assumption) | assumption | exact AllT.nil | (refine' AllT.tree (by (first | (with_reducible assumption) | assumption)) (by (first | (with_reducible assumption) | assumption | exact AllT.nil | (refine' AllT.tree (by (first | (with_reducible assumption) | assumption)) (by (first | (with_reducible assumption) | assumption | exact AllT.nil | (refine' AllT.tree (by (first | (with_reducible assumption) | assumption)) (by (first | (with_reducible assumption) | assumption | exact AllT.nil | (refine' AllT.tree (by (first | (with_reducible assumption) | assumption)) (by (first | (with_reducible assumption) | assumption | exact AllT.nil | (refine' AllT.tree (by (first | (with_reducible assumption) | assumption)) (by (first | (with_reducible assumption) | assumption | exact AllT.nil | (refine' AllT.tree (by (first | (with_reducible assumption) | assumption)) (by (first | (with_reducible assumption) | assumption | exact AllT.nil | (refine' AllT.tree (by fail) (by fail)))))))))))))))))))))) (by (with_reducible assumption)) (by (with_reducible assumption)) (by (exact Room.le (by with_reducible assumption) (by first | decide | omega))) ?_) | (refine' np_use (by (with_reducible assumption)) (by (with_reducible assumption)) rfl (by (with_reducible assumption)) (by omega) ?_) | (refine' isi_u (by constructor) ?_) | (refine' len_tup_u (by exact Nat.le_of_ble_eq_true rfl) ?_) | (refine' pkg_u (by (with_reducible assumption)) (by (with_reducible assumption)) (by (exact Room.le (by with_reducible assumption) (by first | decide | omega))) ?_) | (refine' told_u (by (with_reducible assumption)) (by (with_reducible assumption)) (by (exact Room.le (by with_reducible assumption) (by first | decide | omega))) (by (first | (with_reducible assumption) | exact Bd.R0 (by with_reducible assumption) | exact Bd.l0 (by with_reducible assumption) | exact Bd.r0 (by with_reducible assumption))) ?_) | (refine' g_note (by (with_reducible assumption)) (by (with_reducible assumption)) ?_) | (refine' g_ahead (by (with_reducible assumption)) (by (with_reducible assumption)) ?_) | (refine' g_told (by (with_reducible assumption)) (by (with_reducible assumption)) ?_) | (refine' g_pkg (by (with_reducible assumption)) (by (with_reducible assumption)) ?_) | (refine' g_tell (by (with_reducible assumption)) (by (with_reducible assumption)) ?_) | (refine' g_all (by (with_reducible assumption)) (by (with_reducible assumption)) ?_) | (refine' g_within (by (with_reducible assumption)) (by (with_reducible assumption)) ?_) | (refine' g_tree (by (with_reducible assumption)) (by (with_reducible assumption)) ?_) | (refine' g_parts (by (with_reducible assumption)) (by (with_reducible assumption)) ?_) | (refine' g_func (by (with_reducible assumption)) (by (with_reducible assumption)) ?_) | (refine' g_lit (by (with_reducible assumption)) (by (with_reducible assumption)) ?_) | (refine' g_decl (by (with_reducible assumption)) (by (with_reducible assumption)) ?_) | (refine' g_nested (by (with_reducible assumption)) (by (with_reducible assumption)) ?_) | (refine' g_cases (by (with_reducible assumption)) (by (with_reducible assumption)) ?_) | (refine' g_case (by (with_reducible assumption)) (by (with_reducible assumption)) ?_) | (refine' g_keys (by (with_reducible assumption)) (by (with_reducible assumption)) ?_) | (refine' pushO (by (with_reducible assumption)) (by (with_reducible assumption)) ?_) | (refine' popO (by (with_reducible assumption)) (by (with_reducible assumption)) ?_) | (refine' push0_u (by (with_reducible assumption)) (by (first | (with_reducible assumption) | exact Bd.R0 (by with_reducible assumption) | exact Bd.l0 (by with_reducible assumption) | exact Bd.r0 (by with_reducible assumption))) ?_) | (refine' tuple_tup_u ?_) | (refine' list_tup_u (by exact Nat.le_of_ble_eq_true rfl) ?_) | (refine' list_list_u (by exact Nat.le_of_ble_eq_true rfl) ?_) | (refine' pop_u (by (with_reducible assumption)) (by (with_reducible assumption)) (by (with_reducible assumption)) ?_; intro _) | (exact ⟨rfl, rfl⟩) | (refine' And.intro rfl ?_))
end
section
variable {w : World} {fk : FK} {sa dx : Addr} {g : GX} {D : Nat} {s s1 s2 s3 : FS} {r : List Str} {R : List (List Str)}
theorem t_nested {k : Str} {i : Int} {ys : List V} (hw : g.w = w) (h1 : (k == cN "name") = false) (h2 : (k == cN "select") = false) (h3 : (k == cN "func") = false) (h4 : (k == cN "lit") = false)
    (h5 : ([cN "define", cN "var", cN "const", cN "typedecl"].any (· == k)) = false) (h6 : ([cN "block", cN "if", cN "for", cN "range", cN "switch", cN "typeswitch", cN "choose"].any (· == k)) = true) (h : CT (IF w fk sa dx) g (D + 9) (.ref 132) [.raw (.ref sa), .tup (.str k :: .int i :: ys)] s (NP s2)) : TR w fk sa dx g (D + 10) (.tup (.str k :: .int i :: ys)) s s2 := by
  refine def_vc (dX := []) (dv := []) gl0 [Str.ofString "self", Str.ofString "tree"] (by rfl) (by rfl) (fun h vs _ _ hl gs dr tk os => ?_) .nil (by rfl) (by rfl) (by rfl) (by rfl) (by rfl) (by rfl) (fun c _ => gl0_ok c) fun c ok hg hr => ?_
  · obtain ⟨a, b, rfl⟩ := len2 hl
    exact BindsTo.of_eq rfl
  subst hg
  refine BK.dF h1 ?_
  refine BK.dF h2 ?_
  refine BK.dF h3 (.f ?_)
  refine BK.dF h4 ?_
  refine BK.dF h5 ?_
  refine BK.dT h6 ?_
  refine g_nested ok hw ?_
  refine np_use h ok rfl hr (by omega) ?_
  exact ⟨rfl, rfl⟩
theorem block_f {ys : List V} (hw : g.w = w) (hD : 45 ≤ D) (h : AllT (TR w fk sa dx g D) ys (s.push []) s1) (b1 : s.R.length ≤ 900) (hR : s1.R = r :: R) (h3 : R.length ≤ 900) : CT (IF w fk sa dx) g (D + 9) (.ref 132) [.raw (.ref sa), .tup [.str (cN "block"), .int 1, .tup ys]] s (NP s1.pop) := by
  refine def_vc (dX := []) (dv := []) gl0 [Str.ofString "self", Str.ofString "tree"] (by rfl) (by rfl) (fun h vs _ _ hl gs dr tk os => ?_) .nil (by rfl) (by rfl) (by rfl) (by rfl) (by rfl) (by rfl) (fun c _ => gl0_ok c) fun c ok hg hr => ?_
  · obtain ⟨a, b, rfl⟩ := len2 hl
    exact BindsTo.of_eq rfl
  subst hg
  repeat' (first | (refine' BK.dT (by decide +kernel) ?_) | (refine' BK.dF (by decide +kernel) ?_) | (refine' BK.dT (by exact rfl) ?_) | (refine' BK.dF (by exact rfl) ?_) | (refine' SwOb.two (by with_unfolding_all rfl) ?_) | (refine' SwOb.none (by with_unfolding_all rfl) ?_) | (refine' note_u (by (with_reducible assumption)) (by (with_reducible assumption)) (by (exact Room.le (by with_reducible assumption) (by first | decide | omega))) (by (first | (with_reducible assumption) | exact Bd.R0 (by with_reducible assumption) | exact Bd.l0 (by with_reducible assumption) | exact Bd.r0 (by with_reducible assumption))) (by (first | (with_reducible assumption) | exact Bd.R0 (by with_reducible assumption) | exact Bd.l0 (by with_reducible assumption) | exact Bd.r0 (by with_reducible assumption))) ?_) | (refine' ahead_u (by (with_reducible assumption)) (by (with_reducible assumption)) (by (exact Room.le (by with_reducible assumption) (by first | decide | omega))) (by (first | (with_reducible assumption) | exact Bd.R0 (by with_reducible assumption) | exact Bd.l0 (by with_reducible assumption) | exact Bd.r0 (by with_reducible assumption))) (by (first | (with_reducible assumption) | exact Bd.R0 (by with_reducible assumption) | exact Bd.l0 (by with_reducible assumption) | exact Bd.r0 (by with_reducible assumption))) ?_) | (refine' tellT_u (by (with_reducible assumption)) (by (with_reducible assumption)) (by (exact Room.le (by with_reducible assumption) (by first | decide | omega))) (by (first | (with_reducible assumption) | exact Bd.R0 (by with_reducible assumption) | exact Bd.l0 (by with_reducible assumption) | exact Bd.r0 (by with_reducible assumption))) (by (first | (with_reducible assumption) | exact Bd.R0 (by with_reducible assumption) | exact Bd.l0 (by with_reducible assumption) | exact Bd.r0 (by with_reducible assumption))) ?_) | (refine' tellL_u (by (with_reducible assumption)) (by (with_reducible assumption)) (by (exact Room.le (by with_reducible assumption) (by first | decide | omega))) (by (first | (with_reducible assumption) | exact Bd.R0 (by with_reducible assumption) | exact Bd.l0 (by with_reducible assumption) | exact Bd.r0 (by with_reducible assumption))) (by (first | (with_reducible assumption) | exact Bd.R0 (by with_reducible assumption) | exact Bd.l0 (by with_reducible assumption) | exact Bd.r0 (by with_reducible assumption))) ?_) | (refine' tr_use (by (first | (with_reducible assumption) | assumption)) (by (with_reducible assumption)) rfl (by (exact Room.le (by with_reducible assumption) (by first | decide | omega))) ?_) | (refine' all_u (by (first | (with_reducible assumption) | assumption | exact AllT.nil | (refine' AllT.tree (by (first | (with_reducible assumption) | assumption)) (by (first | (with_reducible assumption) | assumption | exact AllT.nil | (refine' AllT.tree (by (first | (with_reducible assumption) | assumption)) (by (first | (with_reducible assumption) | assumption | exact AllT.nil | (refine' AllT.tree (by (first | (with_reducible assumption) | assumption)) (by (first | (with_reducible assumption) | assumption | exact AllT.nil | (refine' AllT.tree (by (first | (with_reducible assumption) | assumption)) (by (first | (with_reducible assumption) | assumption | exact AllT.nil | (refine' AllT.tree (by (first | (with_reducible assumption) | assumption)) (by (first | (with_reducible assumption) | assumption | exact AllT.nil | (refine' AllT.tree (by (first | (with_reducible assumption) | assumption)) (by (first | (with_reducible assumption) | assumption | exact AllT.nil | (refine' AllT.tree (by fail) (by fail)))))))))))))))))))))) (by (with_reducible assumption)) (by (with_reducible assumption)) (by (exact Room.le (by with_reducible assumption) (by first | decide | omega))) ?_) | (refine' allL_u (by (first | (with_reducible assumption) | assumption | exact AllT.nil | (refine' AllT.tree (by (first | (with_reducible assumption) | assumption)) (by (first | (with_reducible assumption) | assumption | exact AllT.nil | (refine' AllT.tree (by (first | (with_reducible assumption) | assumption)) (by (first | (with_reducible assumption) | assumption | exact AllT.nil | (refine' AllT.tree (by (first | (with_reducible assumption) | assumption)) (by (first | (with_reducible assumption) | assumption | exact AllT.nil | (refine' AllT.tree (by (first | (with_reducible assumption) | assumption)) (by (first | (with_reducible assumption) | assumption | exact AllT.nil | (refine' AllT.tree (by (first | (with_reducible assumption) | assumption)) (by (first | (with_reducible assumption) | assumption | exact AllT.nil | (refine' AllT.tree (by (first | (with_reducible assumption) | assumption)) (by (first | (with_reducible assumption) | assumption | exact AllT.nil | (refine' AllT.tree (by fail) (by fail)))))))))))))))))))))) (by (with_reducible assumption)) (by (with_reducible assumption)) (by (exact Room.le (by with_reducible assumption) (by first | decide | omega))) ?_) | (refine' np_use (by (with_reducible assumption)) (by (with_reducible assumption)) rfl (by (with_reducible assumption)) (by omega) ?_) | (refine' isi_u (by constructor) ?_) | (refine' len_tup_u (by exact Nat.le_of_ble_eq_true rfl) ?_) | (refine' pkg_u (by (with_reducible assumption)) (by (with_reducible assumption)) (by (exact Room.le (by with_reducible assumption) (by first | decide | omega))) ?_) | (refine' told_u (by (with_reducible assumption)) (by (with_reducible assumption)) (by (exact Room.le (by with_reducible assumption) (by first | decide | omega))) (by (first | (with_reducible assumption) | exact Bd.R0 (by with_reducible assumption) | exact Bd.l0 (by with_reducible assumption) | exact Bd.r0 (by with_reducible assumption))) ?_) | (refine' g_note (by (with_reducible assumption)) (by (with_reducible assumption)) ?_) | (refine' g_ahead (by (with_reducible assumption)) (by (with_reducible assumption)) ?_) | (refine' g_told (by (with_reducible assumption)) (by (with_reducible assumption)) ?_) | (refine' g_pkg (by (with_reducible assumption)) (by (with_reducible assumption)) ?_) | (refine' g_tell (by (with_reducible assumption)) (by (with_reducible assumption)) ?_) | (refine' g_all (by (with_reducible assumption)) (by (with_reducible assumption)) ?_) | (refine' g_within (by (with_reducible assumption)) (by (with_reducible assumption)) ?_) | (refine' g_tree (by (with_reducible assumption)) (by (with_reducible assumption)) ?_) | (refine' g_parts (by (with_reducible assumption)) (by (with_reducible assumption)) ?_) | (refine' g_func (by (with_reducible assumption)) (by (with_reducible assumption)) ?_) | (refine' g_lit (by (with_reducible assumption)) (by (with_reducible assumption)) ?_) | (refine' g_decl (by (with_reducible assumption)) (by (with_reducible assumption)) ?_) | (refine' g_nested (by (with_reducible assumption)) (by (with_reducible assumption)) ?_) | (refine' g_cases (by (with_reducible assumption)) (by (with_reducible assumption)) ?_) | (refine' g_case (by (with_reducible assumption)) (by (with_reducible assumption)) ?_) | (refine' g_keys (by (with_reducible assumption)) (by (with_reducible assumption)) ?_) | (refine' pushO (by (with_reducible assumption)) (by (with_reducible assumption)) ?_) | (refine' popO (by (with_reducible assumption)) (by (with_reducible assumption)) ?_) | (refine' push0_u (by (with_reducible assumption)) (by (first | (with_reducible assumption) | exact Bd.R0 (by with_reducible assumption) | exact Bd.l0 (by with_reducible assumption) | exact Bd.r0 (by with_reducible assumption))) ?_) | (refine' tuple_tup_u ?_) | (refine' list_tup_u (by exact Nat.le_of_ble_eq_true rfl) ?_) | (refine' list_list_u (by exact Nat.le_of_ble_eq_true rfl) ?_) | (refine' pop_u (by (with_reducible assumption)) (by (with_reducible assumption)) (by (with_reducible assumption)) ?_; intro _) | (exact ⟨rfl, rfl⟩) | (refine' And.intro rfl ?_))
theorem if_f {x1 x2 x3 x4 : V} (hw : g.w = w) (hD : 45 ≤ D) (h : AllT (TR w fk sa dx g D) [x1, x2, x3, x4] (s.push []) s1) (b1 : s.R.length ≤ 900) (hR : s1.R = r :: R) (h3 : R.length ≤ 900) : CT (IF w fk sa dx) g (D + 9) (.ref 132) [.raw (.ref sa), .tup [.str (cN "if"), .int 1, x1, x2, x3, x4]] s (NP s1.pop) := by
  refine def_vc (dX := []) (dv := []) gl0 [Str.ofString "self", Str.ofString "tree"] (by rfl) (by rfl) (fun h vs _ _ hl gs dr tk os => ?_) .nil (by rfl) (by rfl) (by rfl) (by rfl) (by rfl) (by rfl) (fun c _ => gl0_ok c) fun c ok hg hr => ?_
  · obtain ⟨a, b, rfl⟩ := len2 hl
    exact BindsTo.of_eq rfl
  subst hg
  repeat' (first | (refine' BK.dT (by decide +kernel) ?_) | (refine' BK.dF (by decide +kernel) ?_) | (refine' BK.dT (by exact rfl) ?_) | (refine' BK.dF (by exact rfl) ?_) | (refine' SwOb.two (by with_unfolding_all rfl) ?_) | (refine' SwOb.none (by with_unfolding_all rfl) ?_) | (refine' note_u (by (with_reducible assumption)) (by (with_reducible assumption)) (by (exact Room.le (by with_reducible assumption) (by first | decide | omega))) (by (first | (with_reducible assumption) | exact Bd.R0 (by with_reducible assumption) | exact Bd.l0 (by with_reducible assumption) | exact Bd.r0 (by with_reducible assumption))) (by (first | (with_reducible assumption) | exact Bd.R0 (by with_reducible assumption) | exact Bd.l0 (by with_reducible assumption) | exact Bd.r0 (by with_reducible assumption))) ?_) | (refine' ahead_u (by (with_reducible assumption)) (by (with_reducible assumption)) (by (exact Room.le (by with_reducible assumption) (by first | decide | omega))) (by (first | (with_reducible assumption) | exact Bd.R0 (by with_reducible assumption) | exact Bd.l0 (by with_reducible assumption) | exact Bd.r0 (by with_reducible assumption))) (by (first | (with_reducible assumption) | exact Bd.R0 (by with_reducible assumption) | exact Bd.l0 (by with_reducible assumption) | exact Bd.r0 (by with_reducible assumption))) ?_) | (refine' tellT_u (by (with_reducible assumption)) (by (with_reducible assumption)) (by (exact Room.le (by with_reducible assumption) (by first | decide | omega))) (by (first | (with_reducible assumption) | exact Bd.R0 (by with_reducible assumption) | exact Bd.l0 (by with_reducible assumption) | exact Bd.r0 (by with_reducible assumption))) (by (first | (with_reducible assumption) | exact Bd.R0 (by with_reducible assumption) | exact Bd.l0 (by with_reducible assumption) | exact Bd.r0 (by with_reducible assumption))) ?_) | (refine' tellL_u (by (with_reducible assumption)) (by (with_reducible assumption)) (by (exact Room.le (by with_reducible assumption) (by first | decide | omega))) (by (first | (with_reducible assumption) | exact Bd.R0 (by with_reducible assumption) | exact Bd.l0 (by with_reducible assumption) | exact Bd.r0 (by with_reducible assumption))) (by (first | (with_reducible assumption) | exact Bd.R0 (by with_reducible assumption) | exact Bd.l0 (by with_reducible assumption) | exact Bd.r0 (by with_reducible assumption))) ?_) | (refine' tr_use (by (first | (with_reducible assumption) | assumption)) (by (with_reducible assumption)) rfl (by (exact Room.le (by with_reducible assumption) (by first | decide | omega))) ?_) | (refine' all_u (by (first | (with_reducible assumption) | assumption | exact AllT.nil | (refine' AllT.tree (by (first | (with_reducible assumption) | assumption)) (by (first | (with_reducible assumption) | assumption | exact AllT.nil | (refine' AllT.tree (by (first | (with_reducible assumption) | assumption)) (by (first | (with_reducible assumption) | assumption | exact AllT.nil | (refine' AllT.tree (by (first | (with_reducible assumption) | assumption)) (by (first | (with_reducible assumption) | assumption | exact AllT.nil | (refine' AllT.tree (by (first | (with_reducible assumption) | assumption)) (by (first | (with_reducible assumption) | assumption | exact AllT.nil | (refine' AllT.tree (by (first | (with_reducible assumption) | assumption)) (by (first | (with_reducible assumption) | assumption | exact AllT.nil | (refine' AllT.tree (by (first | (with_reducible assumption) | assumption)) (by (first | (with_reducible assumption) | assumption | exact AllT.nil | (refine' AllT.tree (by fail) (by fail)))))))))))))))))))))) (by (with_reducible assumption)) (by (with_reducible assumption)) (by (exact Room.le (by with_reducible assumption) (by first | decide | omega))) ?_) | (refine' allL_u (by (first | (with_reducible assumption) | assumption | exact AllT.nil | (refine' AllT.tree (by (first | (with_reducible assumption) | assumption)) (by (first | (with_reducible assumption) | assumption | exact AllT.nil | (refine' AllT.tree (by (first | (with_reducible assumption) | assumption)) (by (first | (with_reducible assumption) | assumption | exact AllT.nil | (refine' AllT.tree (by (first | (with_reducible assumption) | assumption)) (by (first | (with_reducible assumption) | assumption | exact AllT.nil | (refine' AllT.tree (by (first | (with_reducible assumption) | assumption)) (by (first | (with_reducible assumption) | assumption | exact AllT.nil | (refine' AllT.tree (by (first | (with_reducible assumption) | assumption)) (by (first | (with_reducible assumption) | assumption | exact AllT.nil | (refine' AllT.tree (by (first | (with_reducible assumption) | assumption)) (by (first | (with_reducible assumption) | assumption | exact AllT.nil | (refine' AllT.tree (by fail) (by fail)))))))))))))))))))))) (by (with_reducible assumption)) (by (with_reducible assumption)) (by (exact Room.le (by with_reducible assumption) (by first | decide | omega))) ?_) | (refine' np_use (by (with_reducible assumption)) (by (with_reducible assumption)) rfl (by (with_reducible assumption)) (by omega) ?_) | (refine' isi_u (by constructor) ?_) | (refine' len_tup_u (by exact Nat.le_of_ble_eq_true rfl) ?_) | (refine' pkg_u (by (with_reducible assumption)) (by (with_reducible assumption)) (by (exact Room.le (by with_reducible assumption) (by first | decide | omega))) ?_) | (refine' told_u (by (with_reducible assumption)) (by (with_reducible assumption)) (by (exact Room.le (by with_reducible assumption) (by first | decide | omega))) (by (first | (with_reducible assumption) | exact Bd.R0 (by with_reducible assumption) | exact Bd.l0 (by with_reducible assumption) | exact Bd.r0 (by with_reducible assumption))) ?_) | (refine' g_note (by (with_reducible assumption)) (by (with_reducible assumption)) ?_) | (refine' g_ahead (by (with_reducible assumption)) (by (with_reducible assumption)) ?_) | (refine' g_told (by (with_reducible assumption)) (by (with_reducible assumption)) ?_) | (refine' g_pkg (by (with_reducible assumption)) (by (with_reducible assumption)) ?_) | (refine' g_tell (by (with_reducible assumption)) (by (with_reducible assumption)) ?_) | (refine' g_all (by (with_reducible assumption)) (by (with_reducible assumption)) ?_) | (refine' g_within (by (with_reducible assumption)) (by (with_reducible assumption)) ?_) | (refine' g_tree (by (with_reducible assumption)) (by (with_reducible assumption)) ?_) | (refine' g_parts (by (with_reducible assumption)) (by (with_reducible assumption)) ?_) | (refine' g_func (by (with_reducible assumption)) (by (with_reducible assumption)) ?_) | (refine' g_lit (by (with_reducible assumption)) (by (with_reducible assumption)) ?_) | (refine' g_decl (by (with_reducible assumption)) (by (with_reducible assumption)) ?_) | (refine' g_nested (by (with_reducible assumption)) (by (with_reducible assumption)) ?_) | (refine' g_cases (by (with_reducible assumption)) (by (with_reducible assumption)) ?_) | (refine' g_case (by (with_reducible assumption)) (by (with_reducible assumption)) ?_) | (refine' g_keys (by (with_reducible assumption)) (by (with_reducible assumption)) ?_) | (refine' pushO (by (with_reducible assumption)) (by (with_reducible assumption)) ?_) | (refine' popO (by (with_reducible assumption)) (by (with_reducible assumption)) ?_) | (refine' push0_u (by (with_reducible assumption)) (by (first | (with_reducible assumption) | exact Bd.R0 (by with_reducible assumption) | exact Bd.l0 (by with_reducible assumption) | exact Bd.r0 (by with_reducible assumption))) ?_) | (refine' tuple_tup_u ?_) | (refine' list_tup_u (by exact Nat.le_of_ble_eq_true rfl) ?_) | (refine' list_list_u (by exact Nat.le_of_ble_eq_true rfl) ?_) | (refine' pop_u (by (with_reducible assumption)) (by (with_reducible assumption)) (by (with_reducible assumption)) ?_; intro _) | (exact ⟨rfl, rfl⟩) | (refine' And.intro rfl ?_))
theorem for_f {x1 x2 x3 x4 : V} (hw : g.w = w) (hD : 45 ≤ D) (h : AllT (TR w fk sa dx g D) [x1, x2, x3, x4] (s.push []) s1) (b1 : s.R.length ≤ 900) (hR : s1.R = r :: R) (h3 : R.length ≤ 900) : CT (IF w fk sa dx) g (D + 9) (.ref 132) [.raw (.ref sa), .tup [.str (cN "for"), .int 1, .none, x1, x2, x3, x4]] s (NP s1.pop) := by
  refine def_vc (dX := []) (dv := []) gl0 [Str.ofString "self", Str.ofString "tree"] (by rfl) (by rfl) (fun h vs _ _ hl gs dr tk os => ?_) .nil (by rfl) (by rfl) (by rfl) (by rfl) (by rfl) (by rfl) (fun c _ => gl0_ok c) fun c ok hg hr => ?_
  · obtain ⟨a, b, rfl⟩ := len2 hl
    exact BindsTo.of_eq rfl
  subst hg
  repeat' (first | (refine' BK.dT (by decide +kernel) ?_) | (refine' BK.dF (by decide +kernel) ?_) | (refine' BK.dT (by exact rfl) ?_) | (refine' BK.dF (by exact rfl) ?_) | (refine' SwOb.two (by with_unfolding_all rfl) ?_) | (refine' SwOb.none (by with_unfolding_all rfl) ?_) | (refine' note_u (by (with_reducible assumption)) (by (with_reducible assumption)) (by (exact Room.le (by with_reducible assumption) (by first | decide | omega))) (by (first | (with_reducible assumption) | exact Bd.R0 (by with_reducible assumption) | exact Bd.l0 (by with_reducible assumption) | exact Bd.r0 (by with_reducible assumption))) (by (first | (with_reducible assumption) | exact Bd.R0 (by with_reducible assumption) | exact Bd.l0 (by with_reducible assumption) | exact Bd.r0 (by with_reducible assumption))) ?_) | (refine' ahead_u (by (with_reducible assumption)) (by (with_reducible assumption)) (by (exact Room.le (by with_reducible assumption) (by first | decide | omega))) (by (first | (with_reducible assumption) | exact Bd.R0 (by with_reducible assumption) | exact Bd.l0 (by with_reducible assumption) | exact Bd.r0 (by with_reducible assumption))) (by (first | (with_reducible assumption) | exact Bd.R0 (by with_reducible assumption) | exact Bd.l0 (by with_reducible assumption) | exact Bd.r0 (by with_reducible assumption))) ?_) | (refine' tellT_u (by (with_reducible assumption)) (by (with_reducible assumption)) (by (exact Room.le (by with_reducible assumption) (by first | decide | omega))) (by (first | (with_reducible assumption) | exact Bd.R0 (by with_reducible assumption) | exact Bd.l0 (by with_reducible assumption) | exact Bd.r0 (by with_reducible assumption))) (by (first | (with_reducible assumption) | exact Bd.R0 (by with_reducible assumption) | exact Bd.l0 (by with_reducible assumption) | exact Bd.r0 (by with_reducible assumption))) ?_) | (refine' tellL_u (by (with_reducible assumption)) (by (with_reducible assumption)) (by (exact Room.le (by with_reducible assumption) (by first | decide | omega))) (by (first | (with_reducible assumption) | exact Bd.R0 (by with_reducible assumption) | exact Bd.l0 (by with_reducible assumption) | exact Bd.r0 (by with_reducible assumption))) (by (first | (with_reducible assumption) | exact Bd.R0 (by with_reducible assumption) | exact Bd.l0 (by with_reducible assumption) | exact Bd.r0 (by with_reducible assumption))) ?_) | (refine' tr_use (by (first | (with_reducible assumption) | assumption)) (by (with_reducible assumption)) rfl (by (exact Room.le (by with_reducible assumption) (by first | decide | omega))) ?_) | (refine' all_u (by (first | (with_reducible assumption) | assumption | exact AllT.nil | (refine' AllT.tree (by (first | (with_reducible assumption) | assumption)) (by (first | (with_reducible assumption) | assumption | exact AllT.nil | (refine' AllT.tree (by (first | (with_reducible assumption) | assumption)) (by (first | (with_reducible assumption) | assumption | exact AllT.nil | (refine' AllT.tree (by (first | (with_reducible assumption) | assumption)) (by (first | (with_reducible assumption) | assumption | exact AllT.nil | (refine' AllT.tree (by (first | (with_reducible assumption) | assumption)) (by (first | (with_reducible assumption) | assumption | exact AllT.nil | (refine' AllT.tree (by (first | (with_reducible assumption) | assumption)) (by (first | (with_reducible assumption) | assumption | exact AllT.nil | (refine' AllT.tree (by (first | (with_reducible assumption) | assumption)) (by (first | (with_reducible assumption) | assumption | exact AllT.nil | (refine' AllT.tree (by fail) (by fail)))))))))))))))))))))) (by (with_reducible assumption)) (by (with_reducible assumption)) (by (exact Room.le (by with_reducible assumption) (by first | decide | omega))) ?_) | (refine' allL_u (by (first | (with_reducible assumption) | assumption | exact AllT.nil | (refine' AllT.tree (by (first | (with_reducible assumption) | assumption)) (by (first | (with_reducible assumption) | assumption | exact AllT.nil | (refine' AllT.tree (by (first | (with_reducible assumption) | assumption)) (by (first | (with_reducible assumption) | assumption | exact AllT.nil | (refine' AllT.tree (by (first | (with_reducible assumption) | assumption)) (by (first | (with_reducible assumption) | assumption | exact AllT.nil | (refine' AllT.tree (by (first | (with_reducible assumption) | assumption)) (by (first | (with_reducible assumption) | assumption | exact AllT.nil | (refine' AllT.tree (by (first | (with_reducible assumption) | assumption)) (by (first | (with_reducible assumption) | assumption | exact AllT.nil | (refine' AllT.tree (by (first | (with_reducible assumption) | assumption)) (by (first | (with_reducible assumption) | assumption | exact AllT.nil | (refine' AllT.tree (by fail) (by fail)))))))))))))))))))))) (by (with_reducible assumption)) (by (with_reducible assumption)) (by (exact Room.le (by with_reducible assumption) (by first | decide | omega))) ?_) | (refine' np_use (by (with_reducible assumption)) (by (with_reducible assumption)) rfl (by (with_reducible assumption)) (by omega) ?_) | (refine' isi_u (by constructor) ?_) | (refine' len_tup_u (by exact Nat.le_of_ble_eq_true rfl) ?_) | (refine' pkg_u (by (with_reducible assumption)) (by (with_reducible assumption)) (by (exact Room.le (by with_reducible assumption) (by first | decide | omega))) ?_) | (refine' told_u (by (with_reducible assumption)) (by (with_reducible assumption)) (by (exact Room.le (by with_reducible assumption) (by first | decide | omega))) (by (first | (with_reducible assumption) | exact Bd.R0 (by with_reducible assumption) | exact Bd.l0 (by with_reducible assumption) | exact Bd.r0 (by with_reducible assumption))) ?_) | (refine' g_note (by (with_reducible assumption)) (by (with_reducible assumption)) ?_) | (refine' g_ahead (by (with_reducible assumption)) (by (with_reducible assumption)) ?_) | (refine' g_told (by (with_reducible assumption)) (by (with_reducible assumption)) ?_) | (refine' g_pkg (by (with_reducible assumption)) (by (with_reducible assumption)) ?_) | (refine' g_tell (by (with_reducible assumption)) (by (with_reducible assumption)) ?_) | (refine' g_all (by (with_reducible assumption)) (by (with_reducible assumption)) ?_) | (refine' g_within (by (with_reducible assumption)) (by (with_reducible assumption)) ?_) | (refine' g_tree (by (with_reducible assumption)) (by (with_reducible assumption)) ?_) | (refine' g_parts (by (with_reducible assumption)) (by (with_reducible assumption)) ?_) | (refine' g_func (by (with_reducible assumption)) (by (with_reducible assumption)) ?_) | (refine' g_lit (by (with_reducible assumption)) (by (with_reducible assumption)) ?_) | (refine' g_decl (by (with_reducible assumption)) (by (with_reducible assumption)) ?_) | (refine' g_nested (by (with_reducible assumption)) (by (with_reducible assumption)) ?_) | (refine' g_cases (by (with_reducible assumption)) (by (with_reducible assumption)) ?_) | (refine' g_case (by (with_reducible assumption)) (by (with_reducible assumption)) ?_) | (refine' g_keys (by (with_reducible assumption)) (by (with_reducible assumption)) ?_) | (refine' pushO (by (with_reducible assumption)) (by (with_reducible assumption)) ?_) | (refine' popO (by (with_reducible assumption)) (by (with_reducible assumption)) ?_) | (refine' push0_u (by (with_reducible assumption)) (by (first | (with_reducible assumption) | exact Bd.R0 (by with_reducible assumption) | exact Bd.l0 (by with_reducible assumption) | exact Bd.r0 (by with_reducible assumption))) ?_) | (refine' tuple_tup_u ?_) | (refine' list_tup_u (by exact Nat.le_of_ble_eq_true rfl) ?_) | (refine' list_list_u (by exact Nat.le_of_ble_eq_true rfl) ?_) | (refine' pop_u (by (with_reducible assumption)) (by (with_reducible assumption)) (by (with_reducible assumption)) ?_; intro _) | (exact ⟨rfl, rfl⟩) | (refine' And.intro rfl ?_))
end
section
variable {w : World} {fk : FK} {sa dx : Addr} {g : GX} {D : Nat} {s s1 s2 s3 : FS} {r : List Str} {R : List (List Str)}
theorem rangeT_f {x : Str} {es bs : List V} (hw : g.w = w) (hD : 45 ≤ D) (b1 : s.R.length ≤ 900) (hE : TR w fk sa dx g D (.tup es) (s.push []) s1) (b2 : s1.R.length ≤ 900) (b3 : s1.row.length ≤ 90000) (hB : TR w fk sa dx g D (.tup bs) (s1.tell [x]) s2) (hR : s2.R = r :: R) (h3 : R.length ≤ 900) : CT (IF w fk sa dx) g (D + 9) (.ref 132) [.raw (.ref sa), .tup [.str (cN "range"), .int 1, .none, .tup [nmV x], .bool true, .tup es, .tup bs]] s (NP s2.pop) := by
  refine def_vc2 (dX := []) (dv := []) gl0 [Str.ofString "self", Str.ofString "tree"] (by rfl) (by rfl) (fun h vs _ _ hl gs dr tk os => ?_) .nil (by rfl) (by rfl) (by rfl) (by rfl) (by rfl) (by rfl) (fun c _ => gl0_ok c) fun c ok hg hcs hr => ?_
  · obtain ⟨a, b, rfl⟩ := len2 hl
    exact BindsTo.of_eq rfl
  subst hg
  repeat' (first | (refine' BK.dT (by decide +kernel) ?_) | (refine' BK.dF (by decide +kernel) ?_) | (refine' BK.dT (by exact rfl) ?_) | (refine' BK.dF (by exact rfl) ?_) | (refine' SwOb.two (by with_unfolding_all rfl) ?_) | (refine' SwOb.none (by with_unfolding_all rfl) ?_) | (refine' note_u (by (with_reducible assumption)) (by (with_reducible assumption)) (by (exact Room.le (by with_reducible assumption) (by first | decide | omega))) (by (first | (with_reducible assumption) | exact Bd.R0 (by with_reducible assumption) | exact Bd.l0 (by with_reducible assumption) | exact Bd.r0 (by with_reducible assumption))) (by (first | (with_reducible assumption) | exact Bd.R0 (by with_reducible assumption) | exact Bd.l0 (by with_reducible assumption) | exact Bd.r0 (by with_reducible assumption))) ?_) | (refine' ahead_u (by (with_reducible assumption)) (by (with_reducible assumption)) (by (exact Room.le (by with_reducible assumption) (by first | decide | omega))) (by (first | (with_reducible assumption) | exact Bd.R0 (by with_reducible assumption) | exact Bd.l0 (by with_reducible assumption) | exact Bd.r0 (by with_reducible assumption))) (by (first | (with_reducible assumption) | exact Bd.R0 (by with_reducible assumption) | exact Bd.l0 (by with_reducible assumption) | exact Bd.r0 (by with_reducible assumption))) ?_) | (refine' tellT_u (by (with_reducible assumption)) (by (with_reducible assumption)) (by (exact Room.le (by with_reducible assumption) (by first | decide | omega))) (by (first | (with_reducible assumption) | exact Bd.R0 (by with_reducible assumption) | exact Bd.l0 (by with_reducible assumption) | exact Bd.r0 (by with_reducible assumption))) (by (first | (with_reducible assumption) | exact Bd.R0 (by with_reducible assumption) | exact Bd.l0 (by with_reducible assumption) | exact Bd.r0 (by with_reducible assumption))) ?_) | (refine' tellL_u (by (with_reducible assumption)) (by (with_reducible assumption)) (by (exact Room.le (by with_reducible assumption) (by first | decide | omega))) (by (first | (with_reducible assumption) | exact Bd.R0 (by with_reducible assumption) | exact Bd.l0 (by with_reducible assumption) | exact Bd.r0 (by with_reducible assumption))) (by (first | (with_reducible assumption) | exact Bd.R0 (by with_reducible assumption) | exact Bd.l0 (by with_reducible assumption) | exact Bd.r0 (by with_reducible assumption))) ?_) | (refine' tr_use (by (first | (with_reducible assumption) | assumption)) (by (with_reducible assumption)) rfl (by (exact Room.le (by with_reducible assumption) (by first | decide | omega))) ?_) | (refine' all_u (by (first | (with_reducible assumption) | assumption | exact AllT.nil | (refine' AllT.tree (by (first | (with_reducible assumption) | assumption)) (by (first | (with_reducible assumption) | assumption | exact AllT.nil | (refine' AllT.tree (by (first | (with_reducible assumption) | assumption)) (by (first | (with_reducible assumption) | assumption | exact AllT.nil | (refine' AllT.tree (by (first | (with_reducible assumption) | assumption)) (by (first | (with_reducible assumption) | assumption | exact AllT.nil | (refine' AllT.tree (by (first | (with_reducible assumption) | assumption)) (by (first | (with_reducible assumption) | assumption | exact AllT.nil | (refine' AllT.tree (by (first | (with_reducible assumption) | assumption)) (by (first | (with_reducible assumption) | assumption | exact AllT.nil | (refine' AllT.tree (by (first | (with_reducible assumption) | assumption)) (by (first | (with_reducible assumption) | assumption | exact AllT.nil | (refine' AllT.tree (by fail) (by fail)))))))))))))))))))))) (by (with_reducible assumption)) (by (with_reducible assumption)) (by (exact Room.le (by with_reducible assumption) (by first | decide | omega))) ?_) | (refine' allL_u (by (first | (with_reducible assumption) | assumption | exact AllT.nil | (refine' AllT.tree (by (first | (with_reducible assumption) | assumption)) (by (first | (with_reducible assumption) | assumption | exact AllT.nil | (refine' AllT.tree (by (first | (with_reducible assumption) | assumption)) (by (first | (with_reducible assumption) | assumption | exact AllT.nil | (refine' AllT.tree (by (first | (with_reducible assumption) | assumption)) (by (first | (with_reducible assumption) | assumption | exact AllT.nil | (refine' AllT.tree (by (first | (with_reducible assumption) | assumption)) (by (first | (with_reducible assumption) | assumption | exact AllT.nil | (refine' AllT.tree (by (first | (with_reducible assumption) | assumption)) (by (first | (with_reducible assumption) | assumption | exact AllT.nil | (refine' AllT.tree (by (first | (with_reducible assumption) | assumption)) (by (first | (with_reducible assumption) | assumption | exact AllT.nil | (refine' AllT.tree (by fail) (by fail)))))))))))))))))))))) (by (with_reducible assumption)) (by (with_reducible assumption)) (by (exact Room.le (by with_reducible assumption) (by first | decide | omega))) ?_) | (refine' np_use (by (with_reducible assumption)) (by (with_reducible assumption)) rfl (by (with_reducible assumption)) (by omega) ?_) | (refine' isi_u (by constructor) ?_) | (refine' len_tup_u (by exact Nat.le_of_ble_eq_true rfl) ?_) | (refine' pkg_u (by (with_reducible assumption)) (by (with_reducible assumption)) (by (exact Room.le (by with_reducible assumption) (by first | decide | omega))) ?_) | (refine' told_u (by (with_reducible assumption)) (by (with_reducible assumption)) (by (exact Room.le (by with_reducible assumption) (by first | decide | omega))) (by (first | (with_reducible assumption) | exact Bd.R0 (by with_reducible assumption) | exact Bd.l0 (by with_reducible assumption) | exact Bd.r0 (by with_reducible assumption))) ?_) | (refine' g_note (by (with_reducible assumption)) (by (with_reducible assumption)) ?_) | (refine' g_ahead (by (with_reducible assumption)) (by (with_reducible assumption)) ?_) | (refine' g_told (by (with_reducible assumption)) (by (with_reducible assumption)) ?_) | (refine' g_pkg (by (with_reducible assumption)) (by (with_reducible assumption)) ?_) | (refine' g_tell (by (with_reducible assumption)) (by (with_reducible assumption)) ?_) | (refine' g_all (by (with_reducible assumption)) (by (with_reducible assumption)) ?_) | (refine' g_within (by (with_reducible assumption)) (by (with_reducible assumption)) ?_) | (refine' g_tree (by (with_reducible assumption)) (by (with_reducible assumption)) ?_) | (refine' g_parts (by (with_reducible assumption)) (by (with_reducible assumption)) ?_) | (refine' g_func (by (with_reducible assumption)) (by (with_reducible assumption)) ?_) | (refine' g_lit (by (with_reducible assumption)) (by (with_reducible assumption)) ?_) | (refine' g_decl (by (with_reducible assumption)) (by (with_reducible assumption)) ?_) | (refine' g_nested (by (with_reducible assumption)) (by (with_reducible assumption)) ?_) | (refine' g_cases (by (with_reducible assumption)) (by (with_reducible assumption)) ?_) | (refine' g_case (by (with_reducible assumption)) (by (with_reducible assumption)) ?_) | (refine' g_keys (by (with_reducible assumption)) (by (with_reducible assumption)) ?_) | (refine' pushO (by (with_reducible assumption)) (by (with_reducible assumption)) ?_) | (refine' popO (by (with_reducible assumption)) (by (with_reducible assumption)) ?_) | (refine' push0_u (by (with_reducible assumption)) (by (first | (with_reducible assumption) | exact Bd.R0 (by with_reducible assumption) | exact Bd.l0 (by with_reducible assumption) | exact Bd.r0 (by with_reducible assumption))) ?_) | (refine' tuple_tup_u ?_) | (refine' list_tup_u (by exact Nat.le_of_ble_eq_true rfl) ?_) | (refine' list_list_u (by exact Nat.le_of_ble_eq_true rfl) ?_) | (refine' pop_u (by (with_reducible assumption)) (by (with_reducible assumption)) (by (with_reducible assumption)) ?_; intro _) | (exact ⟨rfl, rfl⟩) | (refine' And.intro rfl ?_))
  refine comp_u ok hcs (gl0_ok c) (by rfl) ⟨rfl, rfl⟩ ?_ (fun _ => rfl)
  repeat' (first | (refine' BK.dT (by decide +kernel) ?_) | (refine' BK.dF (by decide +kernel) ?_) | (refine' BK.dT (by exact rfl) ?_) | (refine' BK.dF (by exact rfl) ?_) | (refine' SwOb.two (by with_unfolding_all rfl) ?_) | (refine' SwOb.none (by with_unfolding_all rfl) ?_) | (refine' note_u (by (with_reducible assumption)) (by (with_reducible assumption)) (by (exact Room.le (by with_reducible assumption) (by first | decide | omega))) (by (first | (with_reducible assumption) | exact Bd.R0 (by with_reducible assumption) | exact Bd.l0 (by with_reducible assumption) | exact Bd.r0 (by with_reducible assumption))) (by (first | (with_reducible assumption) | exact Bd.R0 (by with_reducible assumption) | exact Bd.l0 (by with_reducible assumption) | exact Bd.r0 (by with_reducible assumption))) ?_) | (refine' ahead_u (by (with_reducible assumption)) (by (with_reducible assumption)) (by (exact Room.le (by with_reducible assumption) (by first | decide | omega))) (by (first | (with_reducible assumption) | exact Bd.R0 (by with_reducible assumption) | exact Bd.l0 (by with_reducible assumption) | exact Bd.r0 (by with_reducible assumption))) (by (first | (with_reducible assumption) | exact Bd.R0 (by with_reducible assumption) | exact Bd.l0 (by with_reducible assumption) | exact Bd.r0 (by with_reducible assumption))) ?_) | (refine' tellT_u (by (with_reducible assumption)) (by (with_reducible assumption)) (by (exact Room.le (by with_reducible assumption) (by first | decide | omega))) (by (first | (with_reducible assumption) | exact Bd.R0 (by with_reducible assumption) | exact Bd.l0 (by with_reducible assumption) | exact Bd.r0 (by with_reducible assumption))) (by (first | (with_reducible assumption) | exact Bd.R0 (by with_reducible assumption) | exact Bd.l0 (by with_reducible assumption) | exact Bd.r0 (by with_reducible assumption))) ?_) | (refine' tellL_u (by (with_reducible assumption)) (by (with_reducible assumption)) (by (exact Room.le (by with_reducible assumption) (by first | decide | omega))) (by (first | (with_reducible assumption) | exact Bd.R0 (by with_reducible assumption) | exact Bd.l0 (by with_reducible assumption) | exact Bd.r0 (by with_reducible assumption))) (by (first | (with_reducible assumption) | exact Bd.R0 (by with_reducible assumption) | exact Bd.l0 (by with_reducible assumption) | exact Bd.r0 (by with_reducible assumption))) ?_) | (refine' tr_use (by (first | (with_reducible assumption) | assumption)) (by (with_reducible assumption)) rfl (by (exact Room.le (by with_reducible assumption) (by first | decide | omega))) ?_) | (refine' all_u (by (first | (with_reducible assumption) | assumption | exact AllT.nil | (refine' AllT.tree (by (first | (with_reducible assumption) | assumption)) (by (first | (with_reducible assumption) | assumption | exact AllT.nil | (refine' AllT.tree (by (first | (with_reducible assumption) | assumption)) (by (first | (with_reducible assumption) | assumption | exact AllT.nil | (refine' AllT.tree (by (first | (with_reducible assumption) | assumption)) (by (first | (with_reducible assumption) | assumption | exact AllT.nil | (refine' AllT.tree (by (first | (with_reducible assumption) | assumption)) (by (first | (with_reducible assumption) | assumption | exact AllT.nil | (refine' AllT.tree (by (first | (with_reducible assumption) | assumption)) (by (first | (with_reducible assumption) | assumption | exact AllT.nil | (refine' AllT.tree (by (first | (with_reducible assumption) | assumption)) (by (first | (with_reducible assumption) | assumption | exact AllT.nil | (refine' AllT.tree (by fail) (by fail)))))))))))))))))))))) (by (with_reducible assumption)) (by (with_reducible assumption)) (by (exact Room.le (by with_reducible assumption) (by first | decide | omega))) ?_) | (refine' allL_u (by (first | (with_reducible assumption) | assumption | exact AllT.nil | (refine' AllT.tree (by (first | (with_reducible assumption) | assumption)) (by (first | (with_reducible assumption) | assumption | exact AllT.nil | (refine' AllT.tree (by (first | (with_reducible assumption) | assumption)) (by (first | (with_reducible assumption) | assumption | exact AllT.nil | (refine' AllT.tree (by (first | (with_reducible assumption) | assumption)) (by (first | (with_reducible assumption) | assumption | exact AllT.nil | (refine' AllT.tree (by (first | (with_reducible assumption) | assumption)) (by (first | (with_reducible assumption) | assumption | exact AllT.nil | (refine' AllT.tree (by (first | (with_reducible assumption) | assumption)) (by (first | (with_reducible assumption) | assumption | exact AllT.nil | (refine' AllT.tree (by (first | (with_reducible assumption) | assumption)) (by (first | (with_reducible assumption) | assumption | exact AllT.nil | (refine' AllT.tree (by fail) (by fail)))))))))))))))))))))) (by (with_reducible assumption)) (by (with_reducible assumption)) (by (exact Room.le (by with_reducible assumption) (by first | decide | omega))) ?_) | (refine' np_use (by (with_reducible assumption)) (by (with_reducible assumption)) rfl (by (with_reducible assumption)) (by omega) ?_) | (refine' isi_u (by constructor) ?_) | (refine' len_tup_u (by exact Nat.le_of_ble_eq_true rfl) ?_) | (refine' pkg_u (by (with_reducible assumption)) (by (with_reducible assumption)) (by (exact Room.le (by with_reducible assumption) (by first | decide | omega))) ?_) | (refine' told_u (by (with_reducible assumption)) (by (with_reducible assumption)) (by (exact Room.le (by with_reducible assumption) (by first | decide | omega))) (by (first | (with_reducible assumption) | exact Bd.R0 (by with_reducible assumption) | exact Bd.l0 (by with_reducible assumption) | exact Bd.r0 (by with_reducible assumption))) ?_) | (refine' g_note (by (with_reducible assumption)) (by (with_reducible assumption)) ?_) | (refine' g_ahead (by (with_reducible assumption)) (by (with_reducible assumption)) ?_) | (refine' g_told (by (with_reducible assumption)) (by (with_reducible assumption)) ?_) | (refine' g_pkg (by (with_reducible assumption)) (by (with_reducible assumption)) ?_) | (refine' g_tell (by (with_reducible assumption)) (by (with_reducible assumption)) ?_) | (refine' g_all (by (with_reducible assumption)) (by (with_reducible assumption)) ?_) | (refine' g_within (by (with_reducible assumption)) (by (with_reducible assumption)) ?_) | (refine' g_tree (by (with_reducible assumption)) (by (with_reducible assumption)) ?_) | (refine' g_parts (by (with_reducible assumption)) (by (with_reducible assumption)) ?_) | (refine' g_func (by (with_reducible assumption)) (by (with_reducible assumption)) ?_) | (refine' g_lit (by (with_reducible assumption)) (by (with_reducible assumption)) ?_) | (refine' g_decl (by (with_reducible assumption)) (by (with_reducible assumption)) ?_) | (refine' g_nested (by (with_reducible assumption)) (by (with_reducible assumption)) ?_) | (refine' g_cases (by (with_reducible assumption)) (by (with_reducible assumption)) ?_) | (refine' g_case (by (with_reducible assumption)) (by (with_reducible assumption)) ?_) | (refine' g_keys (by (with_reducible assumption)) (by (with_reducible assumption)) ?_) | (refine' pushO (by (with_reducible assumption)) (by (with_reducible assumption)) ?_) | (refine' popO (by (with_reducible assumption)) (by (with_reducible assumption)) ?_) | (refine' push0_u (by (with_reducible assumption)) (by (first | (with_reducible assumption) | exact Bd.R0 (by with_reducible assumption) | exact Bd.l0 (by with_reducible assumption) | exact Bd.r0 (by with_reducible assumption))) ?_) | (refine' tuple_tup_u ?_) | (refine' list_tup_u (by exact Nat.le_of_ble_eq_true rfl) ?_) | (refine' list_list_u (by exact Nat.le_of_ble_eq_true rfl) ?_) | (refine' pop_u (by (with_reducible assumption)) (by (with_reducible assumption)) (by (with_reducible assumption)) ?_; intro _) | (exact ⟨rfl, rfl⟩) | (refine' And.intro rfl ?_))
theorem rangeF_f {x : Str} {es bs : List V} (hw : g.w = w) (hD : 45 ≤ D) (b1 : s.R.length ≤ 900) (hE : TR w fk sa dx g D (.tup es) (s.push []) s1) (hX : TR w fk sa dx g D (nmV x) s1 s2) (hB : TR w fk sa dx g D (.tup bs) s2 s3) (hR : s3.R = r :: R) (h3 : R.length ≤ 900) : CT (IF w fk sa dx) g (D + 9) (.ref 132) [.raw (.ref sa), .tup [.str (cN "range"), .int 1, .none, .tup [nmV x], .bool false, .tup es, .tup bs]] s (NP s3.pop) := by
  refine def_vc (dX := []) (dv := []) gl0 [Str.ofString "self", Str.ofString "tree"] (by rfl) (by rfl) (fun h vs _ _ hl gs dr tk os => ?_) .nil (by rfl) (by rfl) (by rfl) (by rfl) (by rfl) (by rfl) (fun c _ => gl0_ok c) fun c ok hg hr => ?_
  · obtain ⟨a, b, rfl⟩ := len2 hl
    exact BindsTo.of_eq rfl
  subst hg
  repeat' (first | (refine' BK.dT (by decide +kernel) ?_) | (refine' BK.dF (by decide +kernel) ?_) | (refine' BK.dT (by exact rfl) ?_) | (refine' BK.dF (by exact rfl) ?_) | (refine' SwOb.two (by with_unfolding_all rfl) ?_) | (refine' SwOb.none (by with_unfolding_all rfl) ?_) | (refine' note_u (by (with_reducible assumption)) (by (with_reducible assumption)) (by (exact Room.le (by with_reducible assumption) (by first | decide | omega))) (by (first | (with_reducible assumption) | exact Bd.R0 (by with_reducible assumption) | exact Bd.l0 (by with_reducible assumption) | exact Bd.r0 (by with_reducible assumption))) (by (first | (with_reducible assumption) | exact Bd.R0 (by with_reducible assumption) | exact Bd.l0 (by with_reducible assumption) | exact Bd.r0 (by with_reducible assumption))) ?_) | (refine' ahead_u (by (with_reducible assumption)) (by (with_reducible assumption)) (by (exact Room.le (by with_reducible assumption) (by first | decide | omega))) (by (first | (with_reducible assumption) | exact Bd.R0 (by with_reducible assumption) | exact Bd.l0 (by with_reducible assumption) | exact Bd.r0 (by with_reducible assumption))) (by (first | (with_reducible assumption) | exact Bd.R0 (by with_reducible assumption) | exact Bd.l0 (by with_reducible assumption) | exact Bd.r0 (by with_reducible assumption))) ?_) | (refine' tellT_u (by (with_reducible assumption)) (by (with_reducible assumption)) (by (exact Room.le (by with_reducible assumption) (by first | decide | omega))) (by (first | (with_reducible assumption) | exact Bd.R0 (by with_reducible assumption) | exact Bd.l0 (by with_reducible assumption) | exact Bd.r0 (by with_reducible assumption))) (by (first | (with_reducible assumption) | exact Bd.R0 (by with_reducible assumption) | exact Bd.l0 (by with_reducible assumption) | exact Bd.r0 (by with_reducible assumption))) ?_) | (refine' tellL_u (by (with_reducible assumption)) (by (with_reducible assumption)) (by (exact Room.le (by with_reducible assumption) (by first | decide | omega))) (by (first | (with_reducible assumption) | exact Bd.R0 (by with_reducible assumption) | exact Bd.l0 (by with_reducible assumption) | exact Bd.r0 (by with_reducible assumption))) (by (first | (with_reducible assumption) | exact Bd.R0 (by with_reducible assumption) | exact Bd.l0 (by with_reducible assumption) | exact Bd.r0 (by with_reducible assumption))) ?_) | (refine' tr_use (by (first | (with_reducible assumption) | assumption)) (by (with_reducible assumption)) rfl (by (exact Room.le (by with_reducible assumption) (by first | decide | omega))) ?_) | (refine' all_u (by (first | (with_reducible assumption) | assumption | exact AllT.nil | (refine' AllT.tree (by (first | (with_reducible assumption) | assumption)) (by (first | (with_reducible assumption) | assumption | exact AllT.nil | (refine' AllT.tree (by (first | (with_reducible assumption) | assumption)) (by (first | (with_reducible assumption) | assumption | exact AllT.nil | (refine' AllT.tree (by (first | (with_reducible assumption) | assumption)) (by (first | (with_reducible assumption) | assumption | exact AllT.nil | (refine' AllT.tree (by (first | (with_reducible assumption) | assumption)) (by (first | (with_reducible assumption) | assumption | exact AllT.nil | (refine' AllT.tree (by (first | (with_reducible assumption) | assumption)) (by (first | (with_reducible assumption) | assumption | exact AllT.nil | (refine' AllT.tree (by (first | (with_reducible assumption) | assumption)) (by (first | (with_reducible assumption) | assumption | exact AllT.nil | (refine' AllT.tree (by fail) (by fail)))))))))))))))))))))) (by (with_reducible assumption)) (by (with_reducible assumption)) (by (exact Room.le (by with_reducible assumption) (by first | decide | omega))) ?_) | (refine' allL_u (by (first | (with_reducible assumption) | assumption | exact AllT.nil | (refine' AllT.tree (by (first | (with_reducible assumption) | assumption)) (by (first | (with_reducible assumption) | assumption | exact AllT.nil | (refine' AllT.tree (by (first | (with_reducible assumption) | assumption)) (by (first | (with_reducible assumption) | assumption | exact AllT.nil | (refine' AllT.tree (by (first | (with_reducible assumption) | assumption)) (by (first | (with_reducible assumption) | assumption | exact AllT.nil | (refine' AllT.tree (by (first | (with_reducible assumption) | assumption)) (by (first | (with_reducible assumption) | assumption | exact AllT.nil | (refine' AllT.tree (by (first | (with_reducible assumption) | assumption)) (by (first | (with_reducible assumption) | assumption | exact AllT.nil | (refine' AllT.tree (by (first | (with_reducible assumption) | assumption)) (by (first | (with_reducible assumption) | assumption | exact AllT.nil | (refine' AllT.tree (by fail) (by fail)))))))))))))))))))))) (by (with_reducible assumption)) (by (with_reducible assumption)) (by (exact Room.le (by with_reducible assumption) (by first | decide | omega))) ?_) | (refine' np_use (by (with_reducible assumption)) (by (with_reducible assumption)) rfl (by (with_reducible assumption)) (by omega) ?_) | (refine' isi_u (by constructor) ?_) | (refine' len_tup_u (by exact Nat.le_of_ble_eq_true rfl) ?_) | (refine' pkg_u (by (with_reducible assumption)) (by (with_reducible assumption)) (by (exact Room.le (by with_reducible assumption) (by first | decide | omega))) ?_) | (refine' told_u (by (with_reducible assumption)) (by (with_reducible assumption)) (by (exact Room.le (by with_reducible assumption) (by first | decide | omega))) (by (first | (with_reducible assumption) | exact Bd.R0 (by with_reducible assumption) | exact Bd.l0 (by with_reducible assumption) | exact Bd.r0 (by with_reducible assumption))) ?_) | (refine' g_note (by (with_reducible assumption)) (by (with_reducible assumption)) ?_) | (refine' g_ahead (by (with_reducible assumption)) (by (with_reducible assumption)) ?_) | (refine' g_told (by (with_reducible assumption)) (by (with_reducible assumption)) ?_) | (refine' g_pkg (by (with_reducible assumption)) (by (with_reducible assumption)) ?_) | (refine' g_tell (by (with_reducible assumption)) (by (with_reducible assumption)) ?_) | (refine' g_all (by (with_reducible assumption)) (by (with_reducible assumption)) ?_) | (refine' g_within (by (with_reducible assumption)) (by (with_reducible assumption)) ?_) | (refine' g_tree (by (with_reducible assumption)) (by (with_reducible assumption)) ?_) | (refine' g_parts (by (with_reducible assumption)) (by (with_reducible assumption)) ?_) | (refine' g_func (by (with_reducible assumption)) (by (with_reducible assumption)) ?_) | (refine' g_lit (by (with_reducible assumption)) (by (with_reducible assumption)) ?_) | (refine' g_decl (by (with_reducible assumption)) (by (with_reducible assumption)) ?_) | (refine' g_nested (by (with_reducible assumption)) (by (with_reducible assumption)) ?_) | (refine' g_cases (by (with_reducible assumption)) (by (with_reducible assumption)) ?_) | (refine' g_case (by (with_reducible assumption)) (by (with_reducible assumption)) ?_) | (refine' g_keys (by (with_reducible assumption)) (by (with_reducible assumption)) ?_) | (refine' pushO (by (with_reducible assumption)) (by (with_reducible assumption)) ?_) | (refine' popO (by (with_reducible assumption)) (by (with_reducible assumption)) ?_) | (refine' push0_u (by (with_reducible assumption)) (by (first | (with_reducible assumption) | exact Bd.R0 (by with_reducible assumption) | exact Bd.l0 (by with_reducible assumption) | exact Bd.r0 (by with_reducible assumption))) ?_) | (refine' tuple_tup_u ?_) | (refine' list_tup_u (by exact Nat.le_of_ble_eq_true rfl) ?_) | (refine' list_list_u (by exact Nat.le_of_ble_eq_true rfl) ?_) | (refine' pop_u (by (with_reducible assumption)) (by (with_reducible assumption)) (by (with_reducible assumption)) ?_; intro _) | (exact ⟨rfl, rfl⟩) | (refine' And.intro rfl ?_))
theorem cases_f {k : Str} {i : Int} {ys : List V} (hw : g.w = w) (h1 : (k == cN "block") = false) (h2 : (k == cN "if") = false) (h4 : (k == cN "for") = false) (h5 : (k == cN "range") = false) (h6 : (k == cN "choose") = false) (b1 : s.R.length ≤ 900) (h : CT (IF w fk sa dx) g (D + 5) (.ref 139) [.raw (.ref sa), .tup (.str k :: .int i :: ys)] (s.push []) (NP s1)) (hR : s1.R = r :: R) (h3 : R.length ≤ 900) :
    CT (IF w fk sa dx) g (D + 9) (.ref 132) [.raw (.ref sa), .tup (.str k :: .int i :: ys)] s (NP s1.pop) := by
  refine def_vc (dX := []) (dv := []) gl0 [Str.ofString "self", Str.ofString "tree"] (by rfl) (by rfl) (fun h vs _ _ hl gs dr tk os => ?_) .nil (by rfl) (by rfl) (by rfl) (by rfl) (by rfl) (by rfl) (fun c _ => gl0_ok c) fun c ok hg hr => ?_
  · obtain ⟨a, b, rfl⟩ := len2 hl
    exact BindsTo.of_eq rfl
  subst hg
  refine pushO ok hw ?_
  refine push0_u hw b1 ?_
  refine BK.dF h1 ?_
  refine BK.dF h2 ?_
  refine BK.dF h4 ?_
  refine BK.dF h5 ?_
  refine BK.dF h6 ?_
  refine g_cases ok hw ?_
  refine np_use h ok rfl hr (by omega) ?_
  repeat' (first | (refine' BK.dT (by decide +kernel) ?_) | (refine' BK.dF (by decide +kernel) ?_) | (refine' BK.dT (by exact rfl) ?_) | (refine' BK.dF (by exact rfl) ?_) | (refine' SwOb.two (by with_unfolding_all rfl) ?_) | (refine' SwOb.none (by with_unfolding_all rfl) ?_) | (refine' note_u (by (with_reducible assumption)) (by (with_reducible assumption)) (by (exact Room.le (by with_reducible assumption) (by first | decide | omega))) (by (first | (with_reducible assumption) | exact Bd.R0 (by with_reducible assumption) | exact Bd.l0 (by with_reducible assumption) | exact Bd.r0 (by with_reducible assumption))) (by (first | (with_reducible assumption) | exact Bd.R0 (by with_reducible assumption) | exact Bd.l0 (by with_reducible assumption) | exact Bd.r0 (by with_reducible assumption))) ?_) | (refine' ahead_u (by (with_reducible assumption)) (by (with_reducible assumption)) (by (exact Room.le (by with_reducible assumption) (by first | decide | omega))) (by (first | (with_reducible assumption) | exact Bd.R0 (by with_reducible assumption) | exact Bd.l0 (by with_reducible assumption) | exact Bd.r0 (by with_reducible assumption))) (by (first | (with_reducible assumption) | exact Bd.R0 (by with_reducible assumption) | exact Bd.l0 (by with_reducible assumption) | exact Bd.r0 (by with_reducible assumption))) ?_) | (refine' tellT_u (by (with_reducible assumption)) (by (with_reducible assumption)) (by (exact Room.le (by with_reducible assumption) (by first | decide | omega))) (by (first | (with_reducible assumption) | exact Bd.R0 (by with_reducible assumption) | exact Bd.l0 (by with_reducible assumption) | exact Bd.r0 (by with_reducible assumption))) (by (first | (with_reducible assumption) | exact Bd.R0 (by with_reducible assumption) | exact Bd.l0 (by with_reducible assumption) | exact Bd.r0 (by with_reducible assumption))) ?_) | (refine' tellL_u (by (with_reducible assumption)) (by (with_reducible assumption)) (by (exact Room.le (by with_reducible assumption) (by first | decide | omega))) (by (first | (with_reducible assumption) | exact Bd.R0 (by with_reducible assumption) | exact Bd.l0 (by with_reducible assumption) | exact Bd.r0 (by with_reducible assumption))) (by (first | (with_reducible assumption) | exact Bd.R0 (by with_reducible assumption) | exact Bd.l0 (by with_reducible assumption) | exact Bd.r0 (by with_reducible assumption))) ?_) | (refine' tr_use (by (first | (with_reducible assumption) | assumption)) (by (with_reducible assumption)) rfl (by (exact Room.le (by with_reducible assumption) (by first | decide | omega))) ?_) | (refine' all_u (by (first | (with_reducible assumption) | assumption | exact AllT.nil | (refine' AllT.tree (by (first | (with_reducible assumption) | assumption)) (by (first | (with_reducible assumption) | assumption | exact AllT.nil | (refine' AllT.tree (by (first | (with_reducible assumption) | assumption)) (by (first | (with_reducible assumption) | assumption | exact AllT.nil | (refine' AllT.tree (by (first | (with_reducible assumption) | assumption)) (by (first | (with_reducible assumption) | assumption | exact AllT.nil | (refine' AllT.tree (by (first | (with_reducible assumption) | assumption)) (by (first | (with_reducible assumption) | assumption | exact AllT.nil | (refine' AllT.tree (by (first | (with_reducible assumption) | assumption)) (by (first | (with_reducible assumption) | assumption | exact AllT.nil | (refine' AllT.tree (by (first | (with_reducible assumption) | assumption)) (by (first | (with_reducible assumption) | assumption | exact AllT.nil | (refine' AllT.tree (by fail) (by fail)))))))))))))))))))))) (by (with_reducible assumption)) (by (with_reducible assumption)) (by (exact Room.le (by with_reducible assumption) (by first | decide | omega))) ?_) | (refine' allL_u (by (first | (with_reducible assumption) | assumption | exact AllT.nil | (refine' AllT.tree (by (first | (with_reducible assumption) | assumption)) (by (first | (with_reducible assumption) | assumption | exact AllT.nil | (refine' AllT.tree (by (first | (with_reducible assumption) | assumption)) (by (first | (with_reducible assumption) | assumption | exact AllT.nil | (refine' AllT.tree (by (first | (with_reducible assumption) | assumption)) (by (first | (with_reducible assumption) | assumption | exact AllT.nil | (refine' AllT.tree (by (first | (with_reducible assumption) | assumption)) (by (first | (with_reducible assumption) | assumption | exact AllT.nil | (refine' AllT.tree (by (first | (with_reducible assumption) | assumption)) (by (first | (with_reducible assumption) | assumption | exact AllT.nil | (refine' AllT.tree (by (first | (with_reducible assumption) | assumption)) (by (first | (with_reducible assumption) | assumption | exact AllT.nil | (refine' AllT.tree (by fail) (by fail)))))))))))))))))))))) (by (with_reducible assumption)) (by (with_reducible assumption)) (by (exact Room.le (by with_reducible assumption) (by first | decide | omega))) ?_) | (refine' np_use (by (with_reducible assumption)) (by (with_reducible assumption)) rfl (by (with_reducible assumption)) (by omega) ?_) | (refine' isi_u (by constructor) ?_) | (refine' len_tup_u (by exact Nat.le_of_ble_eq_true rfl) ?_) | (refine' pkg_u (by (with_reducible assumption)) (by (with_reducible assumption)) (by (exact Room.le (by with_reducible assumption) (by first | decide | omega))) ?_) | (refine' told_u (by (with_reducible assumption)) (by (with_reducible assumption)) (by (exact Room.le (by with_reducible assumption) (by first | decide | omega))) (by (first | (with_reducible assumption) | exact Bd.R0 (by with_reducible assumption) | exact Bd.l0 (by with_reducible assumption) | exact Bd.r0 (by with_reducible assumption))) ?_) | (refine' g_note (by (with_reducible assumption)) (by (with_reducible assumption)) ?_) | (refine' g_ahead (by (with_reducible assumption)) (by (with_reducible assumption)) ?_) | (refine' g_told (by (with_reducible assumption)) (by (with_reducible assumption)) ?_) | (refine' g_pkg (by (with_reducible assumption)) (by (with_reducible assumption)) ?_) | (refine' g_tell (by (with_reducible assumption)) (by (with_reducible assumption)) ?_) | (refine' g_all (by (with_reducible assumption)) (by (with_reducible assumption)) ?_) | (refine' g_within (by (with_reducible assumption)) (by (with_reducible assumption)) ?_) | (refine' g_tree (by (with_reducible assumption)) (by (with_reducible assumption)) ?_) | (refine' g_parts (by (with_reducible assumption)) (by (with_reducible assumption)) ?_) | (refine' g_func (by (with_reducible assumption)) (by (with_reducible assumption)) ?_) | (refine' g_lit (by (with_reducible assumption)) (by (with_reducible assumption)) ?_) | (refine' g_decl (by (with_reducible assumption)) (by (with_reducible assumption)) ?_) | (refine' g_nested (by (with_reducible assumption)) (by (with_reducible assumption)) ?_) | (refine' g_cases (by (with_reducible assumption)) (by (with_reducible assumption)) ?_) | (refine' g_case (by (with_reducible assumption)) (by (with_reducible assumption)) ?_) | (refine' g_keys (by (with_reducible assumption)) (by (with_reducible assumption)) ?_) | (refine' pushO (by (with_reducible assumption)) (by (with_reducible assumption)) ?_) | (refine' popO (by (with_reducible assumption)) (by (with_reducible assumption)) ?_) | (refine' push0_u (by (with_reducible assumption)) (by (first | (with_reducible assumption) | exact Bd.R0 (by with_reducible assumption) | exact Bd.l0 (by with_reducible assumption) | exact Bd.r0 (by with_reducible assumption))) ?_) | (refine' tuple_tup_u ?_) | (refine' list_tup_u (by exact Nat.le_of_ble_eq_true rfl) ?_) | (refine' list_list_u (by exact Nat.le_of_ble_eq_true rfl) ?_) | (refine' pop_u (by (with_reducible assumption)) (by (with_reducible assumption)) (by (with_reducible assumption)) ?_; intro _) | (exact ⟨rfl, rfl⟩) | (refine' And.intro rfl ?_))
theorem choose_f {v1 v2 u1 u2 : V} (hw : g.w = w) (b1 : s.R.length ≤ 900) (hA : CT (IF w fk sa dx) g (D + 5) (.ref 144) [.raw (.ref sa), v1, u1] (s.push []) (NP s1)) (hB : CT (IF w fk sa dx) g (D + 5) (.ref 144) [.raw (.ref sa), v2, u2] s1 (NP s2)) (hR : s2.R = r :: R) (h3 : R.length ≤ 900) :
    CT (IF w fk sa dx) g (D + 9) (.ref 132) [.raw (.ref sa), .tup [.str (cN "choose"), .int 1, .none, .tup [.tup [v1, u1], .tup [v2, u2]]]] s (NP s2.pop) := by
  refine def_vc (dX := []) (dv := []) gl0 [Str.ofString "self", Str.ofString "tree"] (by rfl) (by rfl) (fun h vs _ _ hl gs dr tk os => ?_) .nil (by rfl) (by rfl) (by rfl) (by rfl) (by rfl) (by rfl) (fun c _ => gl0_ok c) fun c ok hg hr => ?_
  · obtain ⟨a, b, rfl⟩ := len2 hl
    exact BindsTo.of_eq rfl
  subst hg
  repeat' (first | (refine' BK.dT (by decide +kernel) ?_) | (refine' BK.dF (by decide +kernel) ?_) | (refine' BK.dT (by exact rfl) ?_) | (refine' BK.dF (by exact rfl) ?_) | (refine' SwOb.two (by with_unfolding_all rfl) ?_) | (refine' SwOb.none (by with_unfolding_all rfl) ?_) | (refine' note_u (by (with_reducible assumption)) (by (with_reducible assumption)) (by (exact Room.le (by with_reducible assumption) (by first | decide | omega))) (by (first | (with_reducible assumption) | exact Bd.R0 (by with_reducible assumption) | exact Bd.l0 (by with_reducible assumption) | exact Bd.r0 (by with_reducible assumption))) (by (first | (with_reducible assumption) | exact Bd.R0 (by with_reducible assumption) | exact Bd.l0 (by with_reducible assumption) | exact Bd.r0 (by with_reducible assumption))) ?_) | (refine' ahead_u (by (with_reducible assumption)) (by (with_reducible assumption)) (by (exact Room.le (by with_reducible assumption) (by first | decide | omega))) (by (first | (with_reducible assumption) | exact Bd.R0 (by with_reducible assumption) | exact Bd.l0 (by with_reducible assumption) | exact Bd.r0 (by with_reducible assumption))) (by (first | (with_reducible assumption) | exact Bd.R0 (by with_reducible assumption) | exact Bd.l0 (by with_reducible assumption) | exact Bd.r0 (by with_reducible assumption))) ?_) | (refine' tellT_u (by (with_reducible assumption)) (by (with_reducible assumption)) (by (exact Room.le (by with_reducible assumption) (by first | decide | omega))) (by (first | (with_reducible assumption) | exact Bd.R0 (by with_reducible assumption) | exact Bd.l0 (by with_reducible assumption) | exact Bd.r0 (by with_reducible assumption))) (by (first | (with_reducible assumption) | exact Bd.R0 (by with_reducible assumption) | exact Bd.l0 (by with_reducible assumption) | exact Bd.r0 (by with_reducible assumption))) ?_) | (refine' tellL_u (by (with_reducible assumption)) (by (with_reducible assumption)) (by (exact Room.le (by with_reducible assumption) (by first | decide | omega))) (by (first | (with_reducible assumption) | exact Bd.R0 (by with_reducible assumption) | exact Bd.l0 (by with_reducible assumption) | exact Bd.r0 (by with_reducible assumption))) (by (first | (with_reducible assumption) | exact Bd.R0 (by with_reducible assumption) | exact Bd.l0 (by with_reducible assumption) | exact Bd.r0 (by with_reducible assumption))) ?_) | (refine' tr_use (by (first | (with_reducible assumption) | assumption)) (by (with_reducible assumption)) rfl (by (exact Room.le (by with_reducible assumption) (by first | decide | omega))) ?_) | (refine' all_u (by (first | (with_reducible assumption) | assumption | exact AllT.nil | (refine' AllT.tree (by (first | (with_reducible assumption) | assumption)) (by (first | (with_reducible assumption) | assumption | exact AllT.nil | (refine' AllT.tree (by (first | (with_reducible assumption) | assumption)) (by (first | (with_reducible assumption) | assumption | exact AllT.nil | (refine' AllT.tree (by (first | (with_reducible assumption) | assumption)) (by (first | (with_reducible assumption) | assumption | exact AllT.nil | (refine' AllT.tree (by (first | (with_reducible assumption) | assumption)) (by (first | (with_reducible assumption) | assumption | exact AllT.nil | (refine' AllT.tree (by (first | (with_reducible assumption) | assumption)) (by (first | (with_reducible assumption) | assumption | exact AllT.nil | (refine' AllT.tree (by (first | (with_reducible assumption) | assumption)) (by (first | (with_reducible assumption) | assumption | exact AllT.nil | (refine' AllT.tree (by fail) (by fail)))))))))))))))))))))) (by (with_reducible assumption)) (by (with_reducible assumption)) (by (exact Room.le (by with_reducible assumption) (by first | decide | omega))) ?_) | (refine' allL_u (by (first | (with_reducible assumption) | assumption | exact AllT.nil | (refine' AllT.tree (by (first | (with_reducible assumption) | assumption)) (by (first | (with_reducible assumption) | assumption | exact AllT.nil | (refine' AllT.tree (by (first | (with_reducible assumption) | assumption)) (by (first | (with_reducible assumption) | assumption | exact AllT.nil | (refine' AllT.tree (by (first | (with_reducible assumption) | assumption)) (by (first | (with_reducible assumption) | assumption | exact AllT.nil | (refine' AllT.tree (by (first | (with_reducible assumption) | assumption)) (by (first | (with_reducible assumption) | assumption | exact AllT.nil | (refine' AllT.tree (by (first | (with_reducible assumption) | assumption)) (by (first | (with_reducible assumption) | assumption | exact AllT.nil | (refine' AllT.tree (by (first | (with_reducible assumption) | assumption)) (by (first | (with_reducible assumption) | assumption | exact AllT.nil | (refine' AllT.tree (by fail) (by fail)))))))))))))))))))))) (by (with_reducible assumption)) (by (with_reducible assumption)) (by (exact Room.le (by with_reducible assumption) (by first | decide | omega))) ?_) | (refine' np_use (by (with_reducible assumption)) (by (with_reducible assumption)) rfl (by (with_reducible assumption)) (by omega) ?_) | (refine' isi_u (by constructor) ?_) | (refine' len_tup_u (by exact Nat.le_of_ble_eq_true rfl) ?_) | (refine' pkg_u (by (with_reducible assumption)) (by (with_reducible assumption)) (by (exact Room.le (by with_reducible assumption) (by first | decide | omega))) ?_) | (refine' told_u (by (with_reducible assumption)) (by (with_reducible assumption)) (by (exact Room.le (by with_reducible assumption) (by first | decide | omega))) (by (first | (with_reducible assumption) | exact Bd.R0 (by with_reducible assumption) | exact Bd.l0 (by with_reducible assumption) | exact Bd.r0 (by with_reducible assumption))) ?_) | (refine' g_note (by (with_reducible assumption)) (by (with_reducible assumption)) ?_) | (refine' g_ahead (by (with_reducible assumption)) (by (with_reducible assumption)) ?_) | (refine' g_told (by (with_reducible assumption)) (by (with_reducible assumption)) ?_) | (refine' g_pkg (by (with_reducible assumption)) (by (with_reducible assumption)) ?_) | (refine' g_tell (by (with_reducible assumption)) (by (with_reducible assumption)) ?_) | (refine' g_all (by (with_reducible assumption)) (by (with_reducible assumption)) ?_) | (refine' g_within (by (with_reducible assumption)) (by (with_reducible assumption)) ?_) | (refine' g_tree (by (with_reducible assumption)) (by (with_reducible assumption)) ?_) | (refine' g_parts (by (with_reducible assumption)) (by (with_reducible assumption)) ?_) | (refine' g_func (by (with_reducible assumption)) (by (with_reducible assumption)) ?_) | (refine' g_lit (by (with_reducible assumption)) (by (with_reducible assumption)) ?_) | (refine' g_decl (by (with_reducible assumption)) (by (with_reducible assumption)) ?_) | (refine' g_nested (by (with_reducible assumption)) (by (with_reducible assumption)) ?_) | (refine' g_cases (by (with_reducible assumption)) (by (with_reducible assumption)) ?_) | (refine' g_case (by (with_reducible assumption)) (by (with_reducible assumption)) ?_) | (refine' g_keys (by (with_reducible assumption)) (by (with_reducible assumption)) ?_) | (refine' pushO (by (with_reducible assumption)) (by (with_reducible assumption)) ?_) | (refine' popO (by (with_reducible assumption)) (by (with_reducible assumption)) ?_) | (refine' push0_u (by (with_reducible assumption)) (by (first | (with_reducible assumption) | exact Bd.R0 (by with_reducible assumption) | exact Bd.l0 (by with_reducible assumption) | exact Bd.r0 (by with_reducible assumption))) ?_) | (refine' tuple_tup_u ?_) | (refine' list_tup_u (by exact Nat.le_of_ble_eq_true rfl) ?_) | (refine' list_list_u (by exact Nat.le_of_ble_eq_true rfl) ?_) | (refine' pop_u (by (with_reducible assumption)) (by (with_reducible assumption)) (by (with_reducible assumption)) ?_; intro _) | (exact ⟨rfl, rfl⟩) | (refine' And.intro rfl ?_))
  refine np_use hA ok rfl hr (by omega) ?_
  repeat' (first | (refine' BK.dT (by decide +kernel) ?_) | (refine' BK.dF (by decide +kernel) ?_) | (refine' BK.dT (by exact rfl) ?_) | (refine' BK.dF (by exact rfl) ?_) | (refine' SwOb.two (by with_unfolding_all rfl) ?_) | (refine' SwOb.none (by with_unfolding_all rfl) ?_) | (refine' note_u (by (with_reducible assumption)) (by (with_reducible assumption)) (by (exact Room.le (by with_reducible assumption) (by first | decide | omega))) (by (first | (with_reducible assumption) | exact Bd.R0 (by with_reducible assumption) | exact Bd.l0 (by with_reducible assumption) | exact Bd.r0 (by with_reducible assumption))) (by (first | (with_reducible assumption) | exact Bd.R0 (by with_reducible assumption) | exact Bd.l0 (by with_reducible assumption) | exact Bd.r0 (by with_reducible assumption))) ?_) | (refine' ahead_u (by (with_reducible assumption)) (by (with_reducible assumption)) (by (exact Room.le (by with_reducible assumption) (by first | decide | omega))) (by (first | (with_reducible assumption) | exact Bd.R0 (by with_reducible assumption) | exact Bd.l0 (by with_reducible assumption) | exact Bd.r0 (by with_reducible assumption))) (by (first | (with_reducible assumption) | exact Bd.R0 (by with_reducible assumption) | exact Bd.l0 (by with_reducible assumption) | exact Bd.r0 (by with_reducible assumption))) ?_) | (refine' tellT_u (by (with_reducible assumption)) (by (with_reducible assumption)) (by (exact Room.le (by with_reducible assumption) (by first | decide | omega))) (by (first | (with_reducible assumption) | exact Bd.R0 (by with_reducible assumption) | exact Bd.l0 (by with_reducible assumption) | exact Bd.r0 (by with_reducible assumption))) (by (first | (with_reducible assumption) | exact Bd.R0 (by with_reducible assumption) | exact Bd.l0 (by with_reducible assumption) | exact Bd.r0 (by with_reducible assumption))) ?_) | (refine' tellL_u (by (with_reducible assumption)) (by (with_reducible assumption)) (by (exact Room.le (by with_reducible assumption) (by first | decide | omega))) (by (first | (with_reducible assumption) | exact Bd.R0 (by with_reducible assumption) | exact Bd.l0 (by with_reducible assumption) | exact Bd.r0 (by with_reducible assumption))) (by (first | (with_reducible assumption) | exact Bd.R0 (by with_reducible assumption) | exact Bd.l0 (by with_reducible assumption) | exact Bd.r0 (by with_reducible assumption))) ?_) | (refine' tr_use (by (first | (with_reducible assumption) | assumption)) (by (with_reducible assumption)) rfl (by (exact Room.le (by with_reducible assumption) (by first | decide | omega))) ?_) | (refine' all_u (by (first | (with_reducible assumption) | assumption | exact AllT.nil | (refine' AllT.tree (by (first | (with_reducible assumption) | assumption)) (by (first | (with_reducible assumption) | assumption | exact AllT.nil | (refine' AllT.tree (by (first | (with_reducible assumption) | assumption)) (by (first | (with_reducible assumption) | assumption | exact AllT.nil | (refine' AllT.tree (by (first | (with_reducible assumption) | assumption)) (by (first | (with_reducible assumption) | assumption | exact AllT.nil | (refine' AllT.tree (by (first | (with_reducible assumption) | assumption)) (by (first | (with_reducible assumption) | assumption | exact AllT.nil | (refine' AllT.tree (by (first | (with_reducible assumption) | assumption)) (by (first | (with_reducible assumption) | assumption | exact AllT.nil | (refine' AllT.tree (by (first | (with_reducible assumption) | assumption)) (by (first | (with_reducible assumption) | assumption | exact AllT.nil | (refine' AllT.tree (by fail) (by fail)))))))))))))))))))))) (by (with_reducible assumption)) (by (with_reducible assumption)) (by (exact Room.le (by with_reducible assumption) (by first | decide | omega))) ?_) | (refine' allL_u (by (first | (with_reducible assumption) | assumption | exact AllT.nil | (refine' AllT.tree (by (first | (with_reducible assumption) | assumption)) (by (first | (with_reducible assumption) | assumption | exact AllT.nil | (refine' AllT.tree (by (first | (with_reducible assumption) | assumption)) (by (first | (with_reducible assumption) | assumption | exact AllT.nil | (refine' AllT.tree (by (first | (with_reducible assumption) | assumption)) (by (first | (with_reducible assumption) | assumption | exact AllT.nil | (refine' AllT.tree (by (first | (with_reducible assumption) | assumption)) (by (first | (with_reducible assumption) | assumption | exact AllT.nil | (refine' AllT.tree (by (first | (with_reducible assumption) | assumption)) (by (first | (with_reducible assumption) | assumption | exact AllT.nil | (refine' AllT.tree (by (first | (with_reducible assumption) | assumption)) (by (first | (with_reducible assumption) | assumption | exact AllT.nil | (refine' AllT.tree (by fail) (by fail)))))))))))))))))))))) (by (with_reducible assumption)) (by (with_reducible assumption)) (by (exact Room.le (by with_reducible assumption) (by first | decide | omega))) ?_) | (refine' np_use (by (with_reducible assumption)) (by (with_reducible assumption)) rfl (by (with_reducible assumption)) (by omega) ?_) | (refine' isi_u (by constructor) ?_) | (refine' len_tup_u (by exact Nat.le_of_ble_eq_true rfl) ?_) | (refine' pkg_u (by (with_reducible assumption)) (by (with_reducible assumption)) (by (exact Room.le (by with_reducible assumption) (by first | decide | omega))) ?_) | (refine' told_u (by (with_reducible assumption)) (by (with_reducible assumption)) (by (exact Room.le (by with_reducible assumption) (by first | decide | omega))) (by (first | (with_reducible assumption) | exact Bd.R0 (by with_reducible assumption) | exact Bd.l0 (by with_reducible assumption) | exact Bd.r0 (by with_reducible assumption))) ?_) | (refine' g_note (by (with_reducible assumption)) (by (with_reducible assumption)) ?_) | (refine' g_ahead (by (with_reducible assumption)) (by (with_reducible assumption)) ?_) | (refine' g_told (by (with_reducible assumption)) (by (with_reducible assumption)) ?_) | (refine' g_pkg (by (with_reducible assumption)) (by (with_reducible assumption)) ?_) | (refine' g_tell (by (with_reducible assumption)) (by (with_reducible assumption)) ?_) | (refine' g_all (by (with_reducible assumption)) (by (with_reducible assumption)) ?_) | (refine' g_within (by (with_reducible assumption)) (by (with_reducible assumption)) ?_) | (refine' g_tree (by (with_reducible assumption)) (by (with_reducible assumption)) ?_) | (refine' g_parts (by (with_reducible assumption)) (by (with_reducible assumption)) ?_) | (refine' g_func (by (with_reducible assumption)) (by (with_reducible assumption)) ?_) | (refine' g_lit (by (with_reducible assumption)) (by (with_reducible assumption)) ?_) | (refine' g_decl (by (with_reducible assumption)) (by (with_reducible assumption)) ?_) | (refine' g_nested (by (with_reducible assumption)) (by (with_reducible assumption)) ?_) | (refine' g_cases (by (with_reducible assumption)) (by (with_reducible assumption)) ?_) | (refine' g_case (by (with_reducible assumption)) (by (with_reducible assumption)) ?_) | (refine' g_keys (by (with_reducible assumption)) (by (with_reducible assumption)) ?_) | (refine' pushO (by (with_reducible assumption)) (by (with_reducible assumption)) ?_) | (refine' popO (by (with_reducible assumption)) (by (with_reducible assumption)) ?_) | (refine' push0_u (by (with_reducible assumption)) (by (first | (with_reducible assumption) | exact Bd.R0 (by with_reducible assumption) | exact Bd.l0 (by with_reducible assumption) | exact Bd.r0 (by with_reducible assumption))) ?_) | (refine' tuple_tup_u ?_) | (refine' list_tup_u (by exact Nat.le_of_ble_eq_true rfl) ?_) | (refine' list_list_u (by exact Nat.le_of_ble_eq_true rfl) ?_) | (refine' pop_u (by (with_reducible assumption)) (by (with_reducible assumption)) (by (with_reducible assumption)) ?_; intro _) | (exact ⟨rfl, rfl⟩) | (refine' And.intro rfl ?_))
  refine np_use hB ok rfl hr (by omega) ?_
  repeat' (first | (refine' BK.dT (by decide +kernel) ?_) | (refine' BK.dF (by decide +kernel) ?_) | (refine' BK.dT (by exact rfl) ?_) | (refine' BK.dF (by exact rfl) ?_) | (refine' SwOb.two (by with_unfolding_all rfl) ?_) | (refine' SwOb.none (by with_unfolding_all rfl) ?_) | (refine' note_u (by (with_reducible assumption)) (by (with_reducible assumption)) (by (exact Room.le (by with_reducible assumption) (by first | decide | omega))) (by (first | (with_reducible assumption) | exact Bd.R0 (by with_reducible assumption) | exact Bd.l0 (by with_reducible assumption) | exact Bd.r0 (by with_reducible assumption))) (by (first | (with_reducible assumption) | exact Bd.R0 (by with_reducible assumption) | exact Bd.l0 (by with_reducible assumption) | exact Bd.r0 (by with_reducible assumption))) ?_) | (refine' ahead_u (by (with_reducible assumption)) (by (with_reducible assumption)) (by (exact Room.le (by with_reducible assumption) (by first | decide | omega))) (by (first | (with_reducible assumption) | exact Bd.R0 (by with_reducible assumption) | exact Bd.l0 (by with_reducible assumption) | exact Bd.r0 (by with_reducible assumption))) (by (first | (with_reducible assumption) | exact Bd.R0 (by with_reducible assumption) | exact Bd.l0 (by with_reducible assumption) | exact Bd.r0 (by with_reducible assumption))) ?_) | (refine' tellT_u (by (with_reducible assumption)) (by (with_reducible assumption)) (by (exact Room.le (by with_reducible assumption) (by first | decide | omega))) (by (first | (with_reducible assumption) | exact Bd.R0 (by with_reducible assumption) | exact Bd.l0 (by with_reducible assumption) | exact Bd.r0 (by with_reducible assumption))) (by (first | (with_reducible assumption) | exact Bd.R0 (by with_reducible assumption) | exact Bd.l0 (by with_reducible assumption) | exact Bd.r0 (by with_reducible assumption))) ?_) | (refine' tellL_u (by (with_reducible assumption)) (by (with_reducible assumption)) (by (exact Room.le (by with_reducible assumption) (by first | decide | omega))) (by (first | (with_reducible assumption) | exact Bd.R0 (by with_reducible assumption) | exact Bd.l0 (by with_reducible assumption) | exact Bd.r0 (by with_reducible assumption))) (by (first | (with_reducible assumption) | exact Bd.R0 (by with_reducible assumption) | exact Bd.l0 (by with_reducible assumption) | exact Bd.r0 (by with_reducible assumption))) ?_) | (refine' tr_use (by (first | (with_reducible assumption) | assumption)) (by (with_reducible assumption)) rfl (by (exact Room.le (by with_reducible assumption) (by first | decide | omega))) ?_) | (refine' all_u (by (first | (with_reducible assumption) | assumption | exact AllT.nil | (refine' AllT.tree (by (first | (with_reducible assumption) | assumption)) (by (first | (with_reducible assumption) | assumption | exact AllT.nil | (refine' AllT.tree (by (first | (with_reducible assumption) | assumption)) (by (first | (with_reducible assumption) | assumption | exact AllT.nil | (refine' AllT.tree (by (first | (with_reducible assumption) | assumption)) (by (first | (with_reducible assumption) | assumption | exact AllT.nil | (refine' AllT.tree (by (first | (with_reducible assumption) | assumption)) (by (first | (with_reducible assumption) | assumption | exact AllT.nil | (refine' AllT.tree (by (first | (with_reducible assumption) | assumption)) (by (first | (with_reducible assumption) | assumption | exact AllT.nil | (refine' AllT.tree (by (first | (with_reducible assumption) | assumption)) (by (first | (with_reducible assumption) | assumption | exact AllT.nil | (refine' AllT.tree (by fail) (by fail)))))))))))))))))))))) (by (with_reducible assumption)) (by (with_reducible assumption)) (by (exact Room.le (by with_reducible assumption) (by first | decide | omega))) ?_) | (refine' allL_u (by (first | (with_reducible assumption) | assumption | exact AllT.nil | (refine' AllT.tree (by (first | (with_reducible assumption) | assumption)) (by (first | (with_reducible assumption) | assumption | exact AllT.nil | (refine' AllT.tree (by (first | (with_reducible assumption) | assumption)) (by (first | (with_reducible assumption) | assumption | exact AllT.nil | (refine' AllT.tree (by (first | (with_reducible assumption) | assumption)) (by (first | (with_reducible assumption) | assumption | exact AllT.nil | (refine' AllT.tree (by (first | (with_reducible assumption) | assumption)) (by (first | (with_reducible assumption) | assumption | exact AllT.nil | (refine' AllT.tree (by (first | (with_reducible assumption) | assumption)) (by (first | (with_reducible assumption) | assumption | exact AllT.nil | (refine' AllT.tree (by (first | (with_reducible assumption) | assumption)) (by (first | (with_reducible assumption) | assumption | exact AllT.nil | (refine' AllT.tree (by fail) (by fail)))))))))))))))))))))) (by (with_reducible assumption)) (by (with_reducible assumption)) (by (exact Room.le (by with_reducible assumption) (by first | decide | omega))) ?_) | (refine' np_use (by (with_reducible assumption)) (by (with_reducible assumption)) rfl (by (with_reducible assumption)) (by omega) ?_) | (refine' isi_u (by constructor) ?_) | (refine' len_tup_u (by exact Nat.le_of_ble_eq_true rfl) ?_) | (refine' pkg_u (by (with_reducible assumption)) (by (with_reducible assumption)) (by (exact Room.le (by with_reducible assumption) (by first | decide | omega))) ?_) | (refine' told_u (by (with_reducible assumption)) (by (with_reducible assumption)) (by (exact Room.le (by with_reducible assumption) (by first | decide | omega))) (by (first | (with_reducible assumption) | exact Bd.R0 (by with_reducible assumption) | exact Bd.l0 (by with_reducible assumption) | exact Bd.r0 (by with_reducible assumption))) ?_) | (refine' g_note (by (with_reducible assumption)) (by (with_reducible assumption)) ?_) | (refine' g_ahead (by (with_reducible assumption)) (by (with_reducible assumption)) ?_) | (refine' g_told (by (with_reducible assumption)) (by (with_reducible assumption)) ?_) | (refine' g_pkg (by (with_reducible assumption)) (by (with_reducible assumption)) ?_) | (refine' g_tell (by (with_reducible assumption)) (by (with_reducible assumption)) ?_) | (refine' g_all (by (with_reducible assumption)) (by (with_reducible assumption)) ?_) | (refine' g_within (by (with_reducible assumption)) (by (with_reducible assumption)) ?_) | (refine' g_tree (by (with_reducible assumption)) (by (with_reducible assumption)) ?_) | (refine' g_parts (by (with_reducible assumption)) (by (with_reducible assumption)) ?_) | (refine' g_func (by (with_reducible assumption)) (by (with_reducible assumption)) ?_) | (refine' g_lit (by (with_reducible assumption)) (by (with_reducible assumption)) ?_) | (refine' g_decl (by (with_reducible assumption)) (by (with_reducible assumption)) ?_) | (refine' g_nested (by (with_reducible assumption)) (by (with_reducible assumption)) ?_) | (refine' g_cases (by (with_reducible assumption)) (by (with_reducible assumption)) ?_) | (refine' g_case (by (with_reducible assumption)) (by (with_reducible assumption)) ?_) | (refine' g_keys (by (with_reducible assumption)) (by (with_reducible assumption)) ?_) | (refine' pushO (by (with_reducible assumption)) (by (with_reducible assumption)) ?_) | (refine' popO (by (with_reducible assumption)) (by (with_reducible assumption)) ?_) | (refine' push0_u (by (with_reducible assumption)) (by (first | (with_reducible assumption) | exact Bd.R0 (by with_reducible assumption) | exact Bd.l0 (by with_reducible assumption) | exact Bd.r0 (by with_reducible assumption))) ?_) | (refine' tuple_tup_u ?_) | (refine' list_tup_u (by exact Nat.le_of_ble_eq_true rfl) ?_) | (refine' list_list_u (by exact Nat.le_of_ble_eq_true rfl) ?_) | (refine' pop_u (by (with_reducible assumption)) (by (with_reducible assumption)) (by (with_reducible assumption)) ?_; intro _) | (exact ⟨rfl, rfl⟩) | (refine' And.intro rfl ?_))
theorem recv_c {x : Str} {es bs : List V} (hw : g.w = w) (hD : 45 ≤ D) (b1 : s.R.length ≤ 900) (hE : TR w fk sa dx g D (.tup es) (s.push []) s1) (b2 : s1.R.length ≤ 900) (b3 : s1.row.length ≤ 90000) (hB : AllT (TR w fk sa dx g D) bs (s1.tell [x]) s2) (hR : s2.R = r :: R) (h3 : R.length ≤ 900) :
    CT (IF w fk sa dx) g (D + 5) (.ref 144) [.raw (.ref sa), .tup [.str (cN "recv"), .int 1, .tup [nmV x], .bool true, .tup es], .tup bs] s (NP s2.pop) := by
  refine def_vc2 (dX := []) (dv := []) gl0 [Str.ofString "self", Str.ofString "told", Str.ofString "statements"] (by rfl) (by rfl) (fun h vs _ _ hl gs dr tk os => ?_) .nil (by rfl) (by rfl) (by rfl) (by rfl) (by rfl) (by rfl) (fun c _ => gl0_ok c) fun c ok hg hcs hr => ?_
  · obtain ⟨a, b, d, rfl⟩ := len3 hl
    exact BindsTo.of_eq rfl
  subst hg
  repeat' (first | (refine' BK.dT (by decide +kernel) ?_) | (refine' BK.dF (by decide +kernel) ?_) | (refine' BK.dT (by exact rfl) ?_) | (refine' BK.dF (by exact rfl) ?_) | (refine' SwOb.two (by with_unfolding_all rfl) ?_) | (refine' SwOb.none (by with_unfolding_all rfl) ?_) | (refine' note_u (by (with_reducible assumption)) (by (with_reducible assumption)) (by (exact Room.le (by with_reducible assumption) (by first | decide | omega))) (by (first | (with_reducible assumption) | exact Bd.R0 (by with_reducible assumption) | exact Bd.l0 (by with_reducible assumption) | exact Bd.r0 (by with_reducible assumption))) (by (first | (with_reducible assumption) | exact Bd.R0 (by with_reducible assumption) | exact Bd.l0 (by with_reducible assumption) | exact Bd.r0 (by with_reducible assumption))) ?_) | (refine' ahead_u (by (with_reducible assumption)) (by (with_reducible assumption)) (by (exact Room.le (by with_reducible assumption) (by first | decide | omega))) (by (first | (with_reducible assumption) | exact Bd.R0 (by with_reducible assumption) | exact Bd.l0 (by with_reducible assumption) | exact Bd.r0 (by with_reducible assumption))) (by (first | (with_reducible assumption) | exact Bd.R0 (by with_reducible assumption) | exact Bd.l0 (by with_reducible assumption) | exact Bd.r0 (by with_reducible assumption))) ?_) | (refine' tellT_u (by (with_reducible assumption)) (by (with_reducible assumption)) (by (exact Room.le (by with_reducible assumption) (by first | decide | omega))) (by (first | (with_reducible assumption) | exact Bd.R0 (by with_reducible assumption) | exact Bd.l0 (by with_reducible assumption) | exact Bd.r0 (by with_reducible assumption))) (by (first | (with_reducible assumption) | exact Bd.R0 (by with_reducible assumption) | exact Bd.l0 (by with_reducible assumption) | exact Bd.r0 (by with_reducible assumption))) ?_) | (refine' tellL_u (by (with_reducible assumption)) (by (with_reducible assumption)) (by (exact Room.le (by with_reducible assumption) (by first | decide | omega))) (by (first | (with_reducible assumption) | exact Bd.R0 (by with_reducible assumption) | exact Bd.l0 (by with_reducible assumption) | exact Bd.r0 (by with_reducible assumption))) (by (first | (with_reducible assumption) | exact Bd.R0 (by with_reducible assumption) | exact Bd.l0 (by with_reducible assumption) | exact Bd.r0 (by with_reducible assumption))) ?_) | (refine' tr_use (by (first | (with_reducible assumption) | assumption)) (by (with_reducible assumption)) rfl (by (exact Room.le (by with_reducible assumption) (by first | decide | omega))) ?_) | (refine' all_u (by (first | (with_reducible assumption) | assumption | exact AllT.nil | (refine' AllT.tree (by (first | (with_reducible assumption) | assumption)) (by (first | (with_reducible assumption) | assumption | exact AllT.nil | (refine' AllT.tree (by (first | (with_reducible assumption) | assumption)) (by (first | (with_reducible assumption) | assumption | exact AllT.nil | (refine' AllT.tree (by (first | (with_reducible assumption) | assumption)) (by (first | (with_reducible assumption) | assumption | exact AllT.nil | (refine' AllT.tree (by (first | (with_reducible assumption) | assumption)) (by (first | (with_reducible assumption) | assumption | exact AllT.nil | (refine' AllT.tree (by (first | (with_reducible assumption) | assumption)) (by (first | (with_reducible assumption) | assumption | exact AllT.nil | (refine' AllT.tree (by (first | (with_reducible assumption) | assumption)) (by (first | (with_reducible assumption) | assumption | exact AllT.nil | (refine' AllT.tree (by fail) (by fail)))))))))))))))))))))) (by (with_reducible assumption)) (by (with_reducible assumption)) (by (exact Room.le (by with_reducible assumption) (by first | decide | omega))) ?_) | (refine' allL_u (by (first | (with_reducible assumption) | assumption | exact AllT.nil | (refine' AllT.tree (by (first | (with_reducible assumption) | assumption)) (by (first | (with_reducible assumption) | assumption | exact AllT.nil | (refine' AllT.tree (by (first | (with_reducible assumption) | assumption)) (by (first | (with_reducible assumption) | assumption | exact AllT.nil | (refine' AllT.tree (by (first | (with_reducible assumption) | assumption)) (by (first | (with_reducible assumption) | assumption | exact AllT.nil | (refine' AllT.tree (by (first | (with_reducible assumption) | assumption)) (by (first | (with_reducible assumption) | assumption | exact AllT.nil | (refine' AllT.tree (by (first | (with_reducible assumption) | assumption)) (by (first | (with_reducible assumption) | assumption | exact AllT.nil | (refine' AllT.tree (by (first | (with_reducible assumption) | assumption)) (by (first | (with_reducible assumption) | assumption | exact AllT.nil | (refine' AllT.tree (by fail) (by fail)))))))))))))))))))))) (by (with_reducible assumption)) (by (with_reducible assumption)) (by (exact Room.le (by with_reducible assumption) (by first | decide | omega))) ?_) | (refine' np_use (by (with_reducible assumption)) (by (with_reducible assumption)) rfl (by (with_reducible assumption)) (by omega) ?_) | (refine' isi_u (by constructor) ?_) | (refine' len_tup_u (by exact Nat.le_of_ble_eq_true rfl) ?_) | (refine' pkg_u (by (with_reducible assumption)) (by (with_reducible assumption)) (by (exact Room.le (by with_reducible assumption) (by first | decide | omega))) ?_) | (refine' told_u (by (with_reducible assumption)) (by (with_reducible assumption)) (by (exact Room.le (by with_reducible assumption) (by first | decide | omega))) (by (first | (with_reducible assumption) | exact Bd.R0 (by with_reducible assumption) | exact Bd.l0 (by with_reducible assumption) | exact Bd.r0 (by with_reducible assumption))) ?_) | (refine' g_note (by (with_reducible assumption)) (by (with_reducible assumption)) ?_) | (refine' g_ahead (by (with_reducible assumption)) (by (with_reducible assumption)) ?_) | (refine' g_told (by (with_reducible assumption)) (by (with_reducible assumption)) ?_) | (refine' g_pkg (by (with_reducible assumption)) (by (with_reducible assumption)) ?_) | (refine' g_tell (by (with_reducible assumption)) (by (with_reducible assumption)) ?_) | (refine' g_all (by (with_reducible assumption)) (by (with_reducible assumption)) ?_) | (refine' g_within (by (with_reducible assumption)) (by (with_reducible assumption)) ?_) | (refine' g_tree (by (with_reducible assumption)) (by (with_reducible assumption)) ?_) | (refine' g_parts (by (with_reducible assumption)) (by (with_reducible assumption)) ?_) | (refine' g_func (by (with_reducible assumption)) (by (with_reducible assumption)) ?_) | (refine' g_lit (by (with_reducible assumption)) (by (with_reducible assumption)) ?_) | (refine' g_decl (by (with_reducible assumption)) (by (with_reducible assumption)) ?_) | (refine' g_nested (by (with_reducible assumption)) (by (with_reducible assumption)) ?_) | (refine' g_cases (by (with_reducible assumption)) (by (with_reducible assumption)) ?_) | (refine' g_case (by (with_reducible assumption)) (by (with_reducible assumption)) ?_) | (refine' g_keys (by (with_reducible assumption)) (by (with_reducible assumption)) ?_) | (refine' pushO (by (with_reducible assumption)) (by (with_reducible assumption)) ?_) | (refine' popO (by (with_reducible assumption)) (by (with_reducible assumption)) ?_) | (refine' push0_u (by (with_reducible assumption)) (by (first | (with_reducible assumption) | exact Bd.R0 (by with_reducible assumption) | exact Bd.l0 (by with_reducible assumption) | exact Bd.r0 (by with_reducible assumption))) ?_) | (refine' tuple_tup_u ?_) | (refine' list_tup_u (by exact Nat.le_of_ble_eq_true rfl) ?_) | (refine' list_list_u (by exact Nat.le_of_ble_eq_true rfl) ?_) | (refine' pop_u (by (with_reducible assumption)) (by (with_reducible assumption)) (by (with_reducible assumption)) ?_; intro _) | (exact ⟨rfl, rfl⟩) | (refine' And.intro rfl ?_))
  refine comp_u ok hcs (gl0_ok c) (by rfl) ⟨rfl, rfl⟩ ?_ (fun _ => rfl)
  repeat' (first | (refine' BK.dT (by decide +kernel) ?_) | (refine' BK.dF (by decide +kernel) ?_) | (refine' BK.dT (by exact rfl) ?_) | (refine' BK.dF (by exact rfl) ?_) | (refine' SwOb.two (by with_unfolding_all rfl) ?_) | (refine' SwOb.none (by with_unfolding_all rfl) ?_) | (refine' note_u (by (with_reducible assumption)) (by (with_reducible assumption)) (by (exact Room.le (by with_reducible assumption) (by first | decide | omega))) (by (first | (with_reducible assumption) | exact Bd.R0 (by with_reducible assumption) | exact Bd.l0 (by with_reducible assumption) | exact Bd.r0 (by with_reducible assumption))) (by (first | (with_reducible assumption) | exact Bd.R0 (by with_reducible assumption) | exact Bd.l0 (by with_reducible assumption) | exact Bd.r0 (by with_reducible assumption))) ?_) | (refine' ahead_u (by (with_reducible assumption)) (by (with_reducible assumption)) (by (exact Room.le (by with_reducible assumption) (by first | decide | omega))) (by (first | (with_reducible assumption) | exact Bd.R0 (by with_reducible assumption) | exact Bd.l0 (by with_reducible assumption) | exact Bd.r0 (by with_reducible assumption))) (by (first | (with_reducible assumption) | exact Bd.R0 (by with_reducible assumption) | exact Bd.l0 (by with_reducible assumption) | exact Bd.r0 (by with_reducible assumption))) ?_) | (refine' tellT_u (by (with_reducible assumption)) (by (with_reducible assumption)) (by (exact Room.le (by with_reducible assumption) (by first | decide | omega))) (by (first | (with_reducible assumption) | exact Bd.R0 (by with_reducible assumption) | exact Bd.l0 (by with_reducible assumption) | exact Bd.r0 (by with_reducible assumption))) (by (first | (with_reducible assumption) | exact Bd.R0 (by with_reducible assumption) | exact Bd.l0 (by with_reducible assumption) | exact Bd.r0 (by with_reducible assumption))) ?_) | (refine' tellL_u (by (with_reducible assumption)) (by (with_reducible assumption)) (by (exact Room.le (by with_reducible assumption) (by first | decide | omega))) (by (first | (with_reducible assumption) | exact Bd.R0 (by with_reducible assumption) | exact Bd.l0 (by with_reducible assumption) | exact Bd.r0 (by with_reducible assumption))) (by (first | (with_reducible assumption) | exact Bd.R0 (by with_reducible assumption) | exact Bd.l0 (by with_reducible assumption) | exact Bd.r0 (by with_reducible assumption))) ?_) | (refine' tr_use (by (first | (with_reducible assumption) | assumption)) (by (with_reducible assumption)) rfl (by (exact Room.le (by with_reducible assumption) (by first | decide | omega))) ?_) | (refine' all_u (by (first | (with_reducible assumption) | assumption | exact AllT.nil | (refine' AllT.tree (by (first | (with_reducible assumption) | assumption)) (by (first | (with_reducible assumption) | assumption | exact AllT.nil | (refine' AllT.tree (by (first | (with_reducible assumption) | assumption)) (by (first | (with_reducible assumption) | assumption | exact AllT.nil | (refine' AllT.tree (by (first | (with_reducible assumption) | assumption)) (by (first | (with_reducible assumption) | assumption | exact AllT.nil | (refine' AllT.tree (by (first | (with_reducible assumption) | assumption)) (by (first | (with_reducible assumption) | assumption | exact AllT.nil | (refine' AllT.tree (by (first | (with_reducible assumption) | assumption)) (by (first | (with_reducible assumption) | assumption | exact AllT.nil | (refine' AllT.tree (by (first | (with_reducible assumption) | assumption)) (by (first | (with_reducible assumption) | assumption | exact AllT.nil | (refine' AllT.tree (by fail) (by fail)))))))))))))))))))))) (by (with_reducible assumption)) (by (with_reducible assumption)) (by (exact Room.le (by with_reducible assumption) (by first | decide | omega))) ?_) | (refine' allL_u (by (first | (with_reducible assumption) | assumption | exact AllT.nil | (refine' AllT.tree (by (first | (with_reducible assumption) | assumption)) (by (first | (with_reducible assumption) | assumption | exact AllT.nil | (refine' AllT.tree (by (first | (with_reducible assumption) | assumption)) (by (first | (with_reducible assumption) | assumption | exact AllT.nil | (refine' AllT.tree (by (first | (with_reducible assumption) | assumption)) (by (first | (with_reducible assumption) | assumption | exact AllT.nil | (refine' AllT.tree (by (first | (with_reducible assumption) | assumption)) (by (first | (with_reducible assumption) | assumption | exact AllT.nil | (refine' AllT.tree (by (first | (with_reducible assumption) | assumption)) (by (first | (with_reducible assumption) | assumption | exact AllT.nil | (refine' AllT.tree (by (first | (with_reducible assumption) | assumption)) (by (first | (with_reducible assumption) | assumption | exact AllT.nil | (refine' AllT.tree (by fail) (by fail)))))))))))))))))))))) (by (with_reducible assumption)) (by (with_reducible assumption)) (by (exact Room.le (by with_reducible assumption) (by first | decide | omega))) ?_) | (refine' np_use (by (with_reducible assumption)) (by (with_reducible assumption)) rfl (by (with_reducible assumption)) (by omega) ?_) | (refine' isi_u (by constructor) ?_) | (refine' len_tup_u (by exact Nat.le_of_ble_eq_true rfl) ?_) | (refine' pkg_u (by (with_reducible assumption)) (by (with_reducible assumption)) (by (exact Room.le (by with_reducible assumption) (by first | decide | omega))) ?_) | (refine' told_u (by (with_reducible assumption)) (by (with_reducible assumption)) (by (exact Room.le (by with_reducible assumption) (by first | decide | omega))) (by (first | (with_reducible assumption) | exact Bd.R0 (by with_reducible assumption) | exact Bd.l0 (by with_reducible assumption) | exact Bd.r0 (by with_reducible assumption))) ?_) | (refine' g_note (by (with_reducible assumption)) (by (with_reducible assumption)) ?_) | (refine' g_ahead (by (with_reducible assumption)) (by (with_reducible assumption)) ?_) | (refine' g_told (by (with_reducible assumption)) (by (with_reducible assumption)) ?_) | (refine' g_pkg (by (with_reducible assumption)) (by (with_reducible assumption)) ?_) | (refine' g_tell (by (with_reducible assumption)) (by (with_reducible assumption)) ?_) | (refine' g_all (by (with_reducible assumption)) (by (with_reducible assumption)) ?_) | (refine' g_within (by (with_reducible assumption)) (by (with_reducible assumption)) ?_) | (refine' g_tree (by (with_reducible assumption)) (by (with_reducible assumption)) ?_) | (refine' g_parts (by (with_reducible assumption)) (by (with_reducible assumption)) ?_) | (refine' g_func (by (with_reducible assumption)) (by (with_reducible assumption)) ?_) | (refine' g_lit (by (with_reducible assumption)) (by (with_reducible assumption)) ?_) | (refine' g_decl (by (with_reducible assumption)) (by (with_reducible assumption)) ?_) | (refine' g_nested (by (with_reducible assumption)) (by (with_reducible assumption)) ?_) | (refine' g_cases (by (with_reducible assumption)) (by (with_reducible assumption)) ?_) | (refine' g_case (by (with_reducible assumption)) (by (with_reducible assumption)) ?_) | (refine' g_keys (by (with_reducible assumption)) (by (with_reducible assumption)) ?_) | (refine' pushO (by (with_reducible assumption)) (by (with_reducible assumption)) ?_) | (refine' popO (by (with_reducible assumption)) (by (with_reducible assumption)) ?_) | (refine' push0_u (by (with_reducible assumption)) (by (first | (with_reducible assumption) | exact Bd.R0 (by with_reducible assumption) | exact Bd.l0 (by with_reducible assumption) | exact Bd.r0 (by with_reducible assumption))) ?_) | (refine' tuple_tup_u ?_) | (refine' list_tup_u (by exact Nat.le_of_ble_eq_true rfl) ?_) | (refine' list_list_u (by exact Nat.le_of_ble_eq_true rfl) ?_) | (refine' pop_u (by (with_reducible assumption)) (by (with_reducible assumption)) (by (with_reducible assumption)) ?_; intro _) | (exact ⟨rfl, rfl⟩) | (refine' And.intro rfl ?_))
theorem send_c {es os bs : List V} (hw : g.w = w) (hD : 45 ≤ D) (b1 : s.R.length ≤ 900) (hE : AllT (TR w fk sa dx g D) [.tup es, .tup os] (s.push []) s1) (hB : AllT (TR w fk sa dx g D) bs s1 s2) (hR : s2.R = r :: R) (h3 : R.length ≤ 900) :
    CT (IF w fk sa dx) g (D + 5) (.ref 144) [.raw (.ref sa), .tup [.str (cN "send"), .int 1, .tup es, .tup os], .tup bs] s (NP s2.pop) := by
  refine def_vc (dX := []) (dv := []) gl0 [Str.ofString "self", Str.ofString "told", Str.ofString "statements"] (by rfl) (by rfl) (fun h vs _ _ hl gs dr tk os => ?_) .nil (by rfl) (by rfl) (by rfl) (by rfl) (by rfl) (by rfl) (fun c _ => gl0_ok c) fun c ok hg hr => ?_
  · obtain ⟨a, b, d, rfl⟩ := len3 hl
    exact BindsTo.of_eq rfl
  subst hg
  repeat' (first | (refine' BK.dT (by decide +kernel) ?_) | (refine' BK.dF (by decide +kernel) ?_) | (refine' BK.dT (by exact rfl) ?_) | (refine' BK.dF (by exact rfl) ?_) | (refine' SwOb.two (by with_unfolding_all rfl) ?_) | (refine' SwOb.none (by with_unfolding_all rfl) ?_) | (refine' note_u (by (with_reducible assumption)) (by (with_reducible assumption)) (by (exact Room.le (by with_reducible assumption) (by first | decide | omega))) (by (first | (with_reducible assumption) | exact Bd.R0 (by with_reducible assumption) | exact Bd.l0 (by with_reducible assumption) | exact Bd.r0 (by with_reducible assumption))) (by (first | (with_reducible assumption) | exact Bd.R0 (by with_reducible assumption) | exact Bd.l0 (by with_reducible assumption) | exact Bd.r0 (by with_reducible assumption))) ?_) | (refine' ahead_u (by (with_reducible assumption)) (by (with_reducible assumption)) (by (exact Room.le (by with_reducible assumption) (by first | decide | omega))) (by (first | (with_reducible assumption) | exact Bd.R0 (by with_reducible assumption) | exact Bd.l0 (by with_reducible assumption) | exact Bd.r0 (by with_reducible assumption))) (by (first | (with_reducible assumption) | exact Bd.R0 (by with_reducible assumption) | exact Bd.l0 (by with_reducible assumption) | exact Bd.r0 (by with_reducible assumption))) ?_) | (refine' tellT_u (by (with_reducible assumption)) (by (with_reducible assumption)) (by (exact Room.le (by with_reducible assumption) (by first | decide | omega))) (by (first | (with_reducible assumption) | exact Bd.R0 (by with_reducible assumption) | exact Bd.l0 (by with_reducible assumption) | exact Bd.r0 (by with_reducible assumption))) (by (first | (with_reducible assumption) | exact Bd.R0 (by with_reducible assumption) | exact Bd.l0 (by with_reducible assumption) | exact Bd.r0 (by with_reducible assumption))) ?_) | (refine' tellL_u (by (with_reducible assumption)) (by (with_reducible assumption)) (by (exact Room.le (by with_reducible assumption) (by first | decide | omega))) (by (first | (with_reducible assumption) | exact Bd.R0 (by with_reducible assumption) | exact Bd.l0 (by with_reducible assumption) | exact Bd.r0 (by with_reducible assumption))) (by (first | (with_reducible assumption) | exact Bd.R0 (by with_reducible assumption) | exact Bd.l0 (by with_reducible assumption) | exact Bd.r0 (by with_reducible assumption))) ?_) | (refine' tr_use (by (first | (with_reducible assumption) | assumption)) (by (with_reducible assumption)) rfl (by (exact Room.le (by with_reducible assumption) (by first | decide | omega))) ?_) | (refine' all_u (by (first | (with_reducible assumption) | assumption | exact AllT.nil | (refine' AllT.tree (by (first | (with_reducible assumption) | assumption)) (by (first | (with_reducible assumption) | assumption | exact AllT.nil | (refine' AllT.tree (by (first | (with_reducible assumption) | assumption)) (by (first | (with_reducible assumption) | assumption | exact AllT.nil | (refine' AllT.tree (by (first | (with_reducible assumption) | assumption)) (by (first | (with_reducible assumption) | assumption | exact AllT.nil | (refine' AllT.tree (by (first | (with_reducible assumption) | assumption)) (by (first | (with_reducible assumption) | assumption | exact AllT.nil | (refine' AllT.tree (by (first | (with_reducible assumption) | assumption)) (by (first | (with_reducible assumption) | assumption | exact AllT.nil | (refine' AllT.tree (by (first | (with_reducible assumption) | assumption)) (by (first | (with_reducible assumption) | assumption | exact AllT.nil | (refine' AllT.tree (by fail) (by fail)))))))))))))))))))))) (by (with_reducible assumption)) (by (with_reducible assumption)) (by (exact Room.le (by with_reducible assumption) (by first | decide | omega))) ?_) | (refine' allL_u (by (first | (with_reducible assumption) | assumption | exact AllT.nil | (refine' AllT.tree (by (first | (with_reducible assumption) | assumption)) (by (first | (with_reducible assumption) | assumption | exact AllT.nil | (refine' AllT.tree (by (first | (with_reducible assumption) | assumption)) (by (first | (with_reducible assumption) | assumption | exact AllT.nil | (refine' AllT.tree (by (first | (with_reducible assumption) | assumption)) (by (first | (with_reducible assumption) | assumption | exact AllT.nil | (refine' AllT.tree (by (first | (with_reducible assumption) | assumption)) (by (first | (with_reducible assumption) | assumption | exact AllT.nil | (refine' AllT.tree (by (first | (with_reducible assumption) | assumption)) (by (first | (with_reducible assumption) | assumption | exact AllT.nil | (refine' AllT.tree (by (first | (with_reducible assumption) | assumption)) (by (first | (with_reducible assumption) | assumption | exact AllT.nil | (refine' AllT.tree (by fail) (by fail)))))))))))))))))))))) (by (with_reducible assumption)) (by (with_reducible assumption)) (by (exact Room.le (by with_reducible assumption) (by first | decide | omega))) ?_) | (refine' np_use (by (with_reducible assumption)) (by (with_reducible assumption)) rfl (by (with_reducible assumption)) (by omega) ?_) | (refine' isi_u (by constructor) ?_) | (refine' len_tup_u (by exact Nat.le_of_ble_eq_true rfl) ?_) | (refine' pkg_u (by (with_reducible assumption)) (by (with_reducible assumption)) (by (exact Room.le (by with_reducible assumption) (by first | decide | omega))) ?_) | (refine' told_u (by (with_reducible assumption)) (by (with_reducible assumption)) (by (exact Room.le (by with_reducible assumption) (by first | decide | omega))) (by (first | (with_reducible assumption) | exact Bd.R0 (by with_reducible assumption) | exact Bd.l0 (by with_reducible assumption) | exact Bd.r0 (by with_reducible assumption))) ?_) | (refine' g_note (by (with_reducible assumption)) (by (with_reducible assumption)) ?_) | (refine' g_ahead (by (with_reducible assumption)) (by (with_reducible assumption)) ?_) | (refine' g_told (by (with_reducible assumption)) (by (with_reducible assumption)) ?_) | (refine' g_pkg (by (with_reducible assumption)) (by (with_reducible assumption)) ?_) | (refine' g_tell (by (with_reducible assumption)) (by (with_reducible assumption)) ?_) | (refine' g_all (by (with_reducible assumption)) (by (with_reducible assumption)) ?_) | (refine' g_within (by (with_reducible assumption)) (by (with_reducible assumption)) ?_) | (refine' g_tree (by (with_reducible assumption)) (by (with_reducible assumption)) ?_) | (refine' g_parts (by (with_reducible assumption)) (by (with_reducible assumption)) ?_) | (refine' g_func (by (with_reducible assumption)) (by (with_reducible assumption)) ?_) | (refine' g_lit (by (with_reducible assumption)) (by (with_reducible assumption)) ?_) | (refine' g_decl (by (with_reducible assumption)) (by (with_reducible assumption)) ?_) | (refine' g_nested (by (with_reducible assumption)) (by (with_reducible assumption)) ?_) | (refine' g_cases (by (with_reducible assumption)) (by (with_reducible assumption)) ?_) | (refine' g_case (by (with_reducible assumption)) (by (with_reducible assumption)) ?_) | (refine' g_keys (by (with_reducible assumption)) (by (with_reducible assumption)) ?_) | (refine' pushO (by (with_reducible assumption)) (by (with_reducible assumption)) ?_) | (refine' popO (by (with_reducible assumption)) (by (with_reducible assumption)) ?_) | (refine' push0_u (by (with_reducible assumption)) (by (first | (with_reducible assumption) | exact Bd.R0 (by with_reducible assumption) | exact Bd.l0 (by with_reducible assumption) | exact Bd.r0 (by with_reducible assumption))) ?_) | (refine' tuple_tup_u ?_) | (refine' list_tup_u (by exact Nat.le_of_ble_eq_true rfl) ?_) | (refine' list_list_u (by exact Nat.le_of_ble_eq_true rfl) ?_) | (refine' pop_u (by (with_reducible assumption)) (by (with_reducible assumption)) (by (with_reducible assumption)) ?_; intro _) | (exact ⟨rfl, rfl⟩) | (refine' And.intro rfl ?_))
end
theorem updV_eq2 {M M0 : MV} {x y : Str} {X Y : V} (h : ∀ z, z ≠ x → z ≠ y → M z = M0 z) : updV (updV M x X) y Y = updV (updV M0 x X) y Y := by
  funext z
  show (if z = y then some Y else if z = x then some X else M z) = if z = y then some Y else if z = x then some X else M0 z
  split
  · rfl
  · split
    · rfl
    · rename_i hy hx; exact h z hx hy
inductive AllR (P : V → FS → FS → Prop) : List V → FS → FS → Prop
  | nil {s : FS} : AllR P [] s s
  | cons {es bs rest : List V} {s s1 s2 s' : FS} {r : List Str} {R : List (List Str)} : P (.tup es) s s1 → s1.R.length ≤ 900 → AllT P bs (s1.push []) s2 → s2.R = r :: R → R.length ≤ 900 → AllR P rest s2.pop s' → AllR P (.tup [.tup [.tup es], .tup bs] :: rest) s s'
section
variable {w : World} {fk : FK} {sa dx : Addr} {g : GX} {D : Nat} {s s1 s2 s3 : FS} {r : List Str} {R : List (List Str)}
theorem switch_c {x1 x2 : V} {rows : List V} (hw : g.w = w) (hD : 45 ≤ D) (hA : AllT (TR w fk sa dx g D) [x1, x2] s s1) (hB : AllR (TR w fk sa dx g D) rows s1 s2) :
    CT (IF w fk sa dx) g (D + 5) (.ref 139) [.raw (.ref sa), .tup [.str (cN "switch"), .int 1, .none, x1, x2, .tup rows]] s (NP s2) := by
  refine def_vc (dX := []) (dv := []) gl0 [Str.ofString "self", Str.ofString "tree"] (by rfl) (by rfl) (fun h vs _ _ hl gs dr tk os => ?_) .nil (by rfl) (by rfl) (by rfl) (by rfl) (by rfl) (by rfl) (fun c _ => gl0_ok c) fun c ok hg hr => ?_
  · obtain ⟨a, b, rfl⟩ := len2 hl
    exact BindsTo.of_eq rfl
  subst hg
  repeat' (first | (refine' BK.dT (by decide +kernel) ?_) | (refine' BK.dF (by decide +kernel) ?_) | (refine' BK.dT (by exact rfl) ?_) | (refine' BK.dF (by exact rfl) ?_) | (refine' SwOb.two (by with_unfolding_all rfl) ?_) | (refine' SwOb.none (by with_unfolding_all rfl) ?_) | (refine' note_u (by (with_reducible assumption)) (by (with_reducible assumption)) (by (exact Room.le (by with_reducible assumption) (by first | decide | omega))) (by (first | (with_reducible assumption) | exact Bd.R0 (by with_reducible assumption) | exact Bd.l0 (by with_reducible assumption) | exact Bd.r0 (by with_reducible assumption))) (by (first | (with_reducible assumption) | exact Bd.R0 (by with_reducible assumption) | exact Bd.l0 (by with_reducible assumption) | exact Bd.r0 (by with_reducible assumption))) ?_) | (refine' ahead_u (by (with_reducible assumption)) (by (with_reducible assumption)) (by (exact Room.le (by with_reducible assumption) (by first | decide | omega))) (by (first | (with_reducible assumption) | exact Bd.R0 (by with_reducible assumption) | exact Bd.l0 (by with_reducible assumption) | exact Bd.r0 (by with_reducible assumption))) (by (first | (with_reducible assumption) | exact Bd.R0 (by with_reducible assumption) | exact Bd.l0 (by with_reducible assumption) | exact Bd.r0 (by with_reducible assumption))) ?_) | (refine' tellT_u (by (with_reducible assumption)) (by (with_reducible assumption)) (by (exact Room.le (by with_reducible assumption) (by first | decide | omega))) (by (first | (with_reducible assumption) | exact Bd.R0 (by with_reducible assumption) | exact Bd.l0 (by with_reducible assumption) | exact Bd.r0 (by with_reducible assumption))) (by (first | (with_reducible assumption) | exact Bd.R0 (by with_reducible assumption) | exact Bd.l0 (by with_reducible assumption) | exact Bd.r0 (by with_reducible assumption))) ?_) | (refine' tellL_u (by (with_reducible assumption)) (by (with_reducible assumption)) (by (exact Room.le (by with_reducible assumption) (by first | decide | omega))) (by (first | (with_reducible assumption) | exact Bd.R0 (by with_reducible assumption) | exact Bd.l0 (by with_reducible assumption) | exact Bd.r0 (by with_reducible assumption))) (by (first | (with_reducible assumption) | exact Bd.R0 (by with_reducible assumption) | exact Bd.l0 (by with_reducible assumption) | exact Bd.r0 (by with_reducible assumption))) ?_) | (refine' tr_use (by (first | (with_reducible assumption) | assumption)) (by (with_reducible assumption)) rfl (by (exact Room.le (by with_reducible assumption) (by first | decide | omega))) ?_) | (refine' all_u (by (first | (with_reducible assumption) | assumption | exact AllT.nil | (refine' AllT.tree (by (first | (with_reducible assumption) | assumption)) (by (first | (with_reducible assumption) | assumption | exact AllT.nil | (refine' AllT.tree (by (first | (with_reducible assumption) | assumption)) (by (first | (with_reducible assumption) | assumption | exact AllT.nil | (refine' AllT.tree (by (first | (with_reducible assumption) | assumption)) (by (first | (with_reducible assumption) | assumption | exact AllT.nil | (refine' AllT.tree (by (first | (with_reducible assumption) | assumption)) (by (first | (with_reducible assumption) | assumption | exact AllT.nil | (refine' AllT.tree (by (first | (with_reducible assumption) | assumption)) (by (first | (with_reducible assumption) | assumption | exact AllT.nil | (refine' AllT.tree (by (first | (with_reducible assumption) | assumption)) (by (first | (with_reducible assumption) | assumption | exact AllT.nil | (refine' AllT.tree (by fail) (by fail)))))))))))))))))))))) (by (with_reducible assumption)) (by (with_reducible assumption)) (by (exact Room.le (by with_reducible assumption) (by first | decide | omega))) ?_) | (refine' allL_u (by (first | (with_reducible assumption) | assumption | exact AllT.nil | (refine' AllT.tree (by (first | (with_reducible assumption) | assumption)) (by (first | (with_reducible assumption) | assumption | exact AllT.nil | (refine' AllT.tree (by (first | (with_reducible assumption) | assumption)) (by (first | (with_reducible assumption) | assumption | exact AllT.nil | (refine' AllT.tree (by (first | (with_reducible assumption) | assumption)) (by (first | (with_reducible assumption) | assumption | exact AllT.nil | (refine' AllT.tree (by (first | (with_reducible assumption) | assumption)) (by (first | (with_reducible assumption) | assumption | exact AllT.nil | (refine' AllT.tree (by (first | (with_reducible assumption) | assumption)) (by (first | (with_reducible assumption) | assumption | exact AllT.nil | (refine' AllT.tree (by (first | (with_reducible assumption) | assumption)) (by (first | (with_reducible assumption) | assumption | exact AllT.nil | (refine' AllT.tree (by fail) (by fail)))))))))))))))))))))) (by (with_reducible assumption)) (by (with_reducible assumption)) (by (exact Room.le (by with_reducible assumption) (by first | decide | omega))) ?_) | (refine' np_use (by (with_reducible assumption)) (by (with_reducible assumption)) rfl (by (with_reducible assumption)) (by omega) ?_) | (refine' isi_u (by constructor) ?_) | (refine' len_tup_u (by exact Nat.le_of_ble_eq_true rfl) ?_) | (refine' pkg_u (by (with_reducible assumption)) (by (with_reducible assumption)) (by (exact Room.le (by with_reducible assumption) (by first | decide | omega))) ?_) | (refine' told_u (by (with_reducible assumption)) (by (with_reducible assumption)) (by (exact Room.le (by with_reducible assumption) (by first | decide | omega))) (by (first | (with_reducible assumption) | exact Bd.R0 (by with_reducible assumption) | exact Bd.l0 (by with_reducible assumption) | exact Bd.r0 (by with_reducible assumption))) ?_) | (refine' g_note (by (with_reducible assumption)) (by (with_reducible assumption)) ?_) | (refine' g_ahead (by (with_reducible assumption)) (by (with_reducible assumption)) ?_) | (refine' g_told (by (with_reducible assumption)) (by (with_reducible assumption)) ?_) | (refine' g_pkg (by (with_reducible assumption)) (by (with_reducible assumption)) ?_) | (refine' g_tell (by (with_reducible assumption)) (by (with_reducible assumption)) ?_) | (refine' g_all (by (with_reducible assumption)) (by (with_reducible assumption)) ?_) | (refine' g_within (by (with_reducible assumption)) (by (with_reducible assumption)) ?_) | (refine' g_tree (by (with_reducible assumption)) (by (with_reducible assumption)) ?_) | (refine' g_parts (by (with_reducible assumption)) (by (with_reducible assumption)) ?_) | (refine' g_func (by (with_reducible assumption)) (by (with_reducible assumption)) ?_) | (refine' g_lit (by (with_reducible assumption)) (by (with_reducible assumption)) ?_) | (refine' g_decl (by (with_reducible assumption)) (by (with_reducible assumption)) ?_) | (refine' g_nested (by (with_reducible assumption)) (by (with_reducible assumption)) ?_) | (refine' g_cases (by (with_reducible assumption)) (by (with_reducible assumption)) ?_) | (refine' g_case (by (with_reducible assumption)) (by (with_reducible assumption)) ?_) | (refine' g_keys (by (with_reducible assumption)) (by (with_reducible assumption)) ?_) | (refine' pushO (by (with_reducible assumption)) (by (with_reducible assumption)) ?_) | (refine' popO (by (with_reducible assumption)) (by (with_reducible assumption)) ?_) | (refine' push0_u (by (with_reducible assumption)) (by (first | (with_reducible assumption) | exact Bd.R0 (by with_reducible assumption) | exact Bd.l0 (by with_reducible assumption) | exact Bd.r0 (by with_reducible assumption))) ?_) | (refine' tuple_tup_u ?_) | (refine' list_tup_u (by exact Nat.le_of_ble_eq_true rfl) ?_) | (refine' list_list_u (by exact Nat.le_of_ble_eq_true rfl) ?_) | (refine' pop_u (by (with_reducible assumption)) (by (with_reducible assumption)) (by (with_reducible assumption)) ?_; intro _) | (exact ⟨rfl, rfl⟩) | (refine' And.intro rfl ?_))
  refine vFor_ind (fun Ys M t => AllR (TR w fk sa dx c.g D) Ys t s2 ∧ ∀ y, y ≠ Str.ofString "told" → y ≠ Str.ofString "statements" → M y = updV (updV (fun y => ([Str.ofString "self", Str.ofString "tree"].zip [V.raw (.ref sa), .tup [.str (cN "switch"), .int 1, .none, x1, x2, .tup rows]]).reverse.lookup y) (Str.ofString "names") (.list [])) (Str.ofString "rows") (.tup rows) y) ?_ ?_ _ _ _ ⟨hB, fun _ _ _ => rfl⟩
  · rintro M t ⟨ha, _⟩
    cases ha
    exact ⟨rfl, rfl⟩
  · rintro X Ys M t ⟨ha, hM⟩ ih
    cases ha with
    | @cons es bs _ _ t1 t2 _ r R hE b1 hL hR h3 ha =>
      refine ⟨rfl, ?_⟩
      show vB _ _ (updV (updV M (Str.ofString "told") (.tup [.tup es])) (Str.ofString "statements") (.tup bs)) t _
      rw [updV_eq2 hM]
      repeat' (first | (refine' BK.dT (by decide +kernel) ?_) | (refine' BK.dF (by decide +kernel) ?_) | (refine' BK.dT (by exact rfl) ?_) | (refine' BK.dF (by exact rfl) ?_) | (refine' SwOb.two (by with_unfolding_all rfl) ?_) | (refine' SwOb.none (by with_unfolding_all rfl) ?_) | (refine' note_u (by (with_reducible assumption)) (by (with_reducible assumption)) (by (exact Room.le (by with_reducible assumption) (by first | decide | omega))) (by (first | (with_reducible assumption) | exact Bd.R0 (by with_reducible assumption) | exact Bd.l0 (by with_reducible assumption) | exact Bd.r0 (by with_reducible assumption))) (by (first | (with_reducible assumption) | exact Bd.R0 (by with_reducible assumption) | exact Bd.l0 (by with_reducible assumption) | exact Bd.r0 (by with_reducible assumption))) ?_) | (refine' ahead_u (by (with_reducible assumption)) (by (with_reducible assumption)) (by (exact Room.le (by with_reducible assumption) (by first | decide | omega))) (by (first | (with_reducible assumption) | exact Bd.R0 (by with_reducible assumption) | exact Bd.l0 (by with_reducible assumption) | exact Bd.r0 (by with_reducible assumption))) (by (first | (with_reducible assumption) | exact Bd.R0 (by with_reducible assumption) | exact Bd.l0 (by with_reducible assumption) | exact Bd.r0 (by with_reducible assumption))) ?_) | (refine' tellT_u (by (with_reducible assumption)) (by (with_reducible assumption)) (by (exact Room.le (by with_reducible assumption) (by first | decide | omega))) (by (first | (with_reducible assumption) | exact Bd.R0 (by with_reducible assumption) | exact Bd.l0 (by with_reducible assumption) | exact Bd.r0 (by with_reducible assumption))) (by (first | (with_reducible assumption) | exact Bd.R0 (by with_reducible assumption) | exact Bd.l0 (by with_reducible assumption) | exact Bd.r0 (by with_reducible assumption))) ?_) | (refine' tellL_u (by (with_reducible assumption)) (by (with_reducible assumption)) (by (exact Room.le (by with_reducible assumption) (by first | decide | omega))) (by (first | (with_reducible assumption) | exact Bd.R0 (by with_reducible assumption) | exact Bd.l0 (by with_reducible assumption) | exact Bd.r0 (by with_reducible assumption))) (by (first | (with_reducible assumption) | exact Bd.R0 (by with_reducible assumption) | exact Bd.l0 (by with_reducible assumption) | exact Bd.r0 (by with_reducible assumption))) ?_) | (refine' tr_use (by (first | (with_reducible assumption) | assumption)) (by (with_reducible assumption)) rfl (by (exact Room.le (by with_reducible assumption) (by first | decide | omega))) ?_) | (refine' all_u (by (first | (with_reducible assumption) | assumption | exact AllT.nil | (refine' AllT.tree (by (first | (with_reducible assumption) | assumption)) (by (first | (with_reducible assumption) | assumption | exact AllT.nil | (refine' AllT.tree (by (first | (with_reducible assumption) | assumption)) (by (first | (with_reducible assumption) | assumption | exact AllT.nil | (refine' AllT.tree (by (first | (with_reducible assumption) | assumption)) (by (first | (with_reducible assumption) | assumption | exact AllT.nil | (refine' AllT.tree (by (first | (with_reducible assumption) | assumption)) (by (first | (with_reducible assumption) | assumption | exact AllT.nil | (refine' AllT.tree (by (first | (with_reducible assumption) | assumption)) (by (first | (with_reducible assumption) | assumption | exact AllT.nil | (refine' AllT.tree (by (first | (with_reducible assumption) | assumption)) (by (first | (with_reducible assumption) | assumption | exact AllT.nil | (refine' AllT.tree (by fail) (by fail)))))))))))))))))))))) (by (with_reducible assumption)) (by (with_reducible assumption)) (by (exact Room.le (by with_reducible assumption) (by first | decide | omega))) ?_) | (refine' allL_u (by (first | (with_reducible assumption) | assumption | exact AllT.nil | (refine' AllT.tree (by (first | (with_reducible assumption) | assumption)) (by (first | (with_reducible assumption) | assumption | exact AllT.nil | (refine' AllT.tree (by (first | (with_reducible assumption) | assumption)) (by (first | (with_reducible assumption) | assumption | exact AllT.nil | (refine' AllT.tree (by (first | (with_reducible assumption) | assumption)) (by (first | (with_reducible assumption) | assumption | exact AllT.nil | (refine' AllT.tree (by (first | (with_reducible assumption) | assumption)) (by (first | (with_reducible assumption) | assumption | exact AllT.nil | (refine' AllT.tree (by (first | (with_reducible assumption) | assumption)) (by (first | (with_reducible assumption) | assumption | exact AllT.nil | (refine' AllT.tree (by (first | (with_reducible assumption) | assumption)) (by (first | (with_reducible assumption) | assumption | exact AllT.nil | (refine' AllT.tree (by fail) (by fail)))))))))))))))))))))) (by (with_reducible assumption)) (by (with_reducible assumption)) (by (exact Room.le (by with_reducible assumption) (by first | decide | omega))) ?_) | (refine' np_use (by (with_reducible assumption)) (by (with_reducible assumption)) rfl (by (with_reducible assumption)) (by omega) ?_) | (refine' isi_u (by constructor) ?_) | (refine' len_tup_u (by exact Nat.le_of_ble_eq_true rfl) ?_) | (refine' pkg_u (by (with_reducible assumption)) (by (with_reducible assumption)) (by (exact Room.le (by with_reducible assumption) (by first | decide | omega))) ?_) | (refine' told_u (by (with_reducible assumption)) (by (with_reducible assumption)) (by (exact Room.le (by with_reducible assumption) (by first | decide | omega))) (by (first | (with_reducible assumption) | exact Bd.R0 (by with_reducible assumption) | exact Bd.l0 (by with_reducible assumption) | exact Bd.r0 (by with_reducible assumption))) ?_) | (refine' g_note (by (with_reducible assumption)) (by (with_reducible assumption)) ?_) | (refine' g_ahead (by (with_reducible assumption)) (by (with_reducible assumption)) ?_) | (refine' g_told (by (with_reducible assumption)) (by (with_reducible assumption)) ?_) | (refine' g_pkg (by (with_reducible assumption)) (by (with_reducible assumption)) ?_) | (refine' g_tell (by (with_reducible assumption)) (by (with_reducible assumption)) ?_) | (refine' g_all (by (with_reducible assumption)) (by (with_reducible assumption)) ?_) | (refine' g_within (by (with_reducible assumption)) (by (with_reducible assumption)) ?_) | (refine' g_tree (by (with_reducible assumption)) (by (with_reducible assumption)) ?_) | (refine' g_parts (by (with_reducible assumption)) (by (with_reducible assumption)) ?_) | (refine' g_func (by (with_reducible assumption)) (by (with_reducible assumption)) ?_) | (refine' g_lit (by (with_reducible assumption)) (by (with_reducible assumption)) ?_) | (refine' g_decl (by (with_reducible assumption)) (by (with_reducible assumption)) ?_) | (refine' g_nested (by (with_reducible assumption)) (by (with_reducible assumption)) ?_) | (refine' g_cases (by (with_reducible assumption)) (by (with_reducible assumption)) ?_) | (refine' g_case (by (with_reducible assumption)) (by (with_reducible assumption)) ?_) | (refine' g_keys (by (with_reducible assumption)) (by (with_reducible assumption)) ?_) | (refine' pushO (by (with_reducible assumption)) (by (with_reducible assumption)) ?_) | (refine' popO (by (with_reducible assumption)) (by (with_reducible assumption)) ?_) | (refine' push0_u (by (with_reducible assumption)) (by (first | (with_reducible assumption) | exact Bd.R0 (by with_reducible assumption) | exact Bd.l0 (by with_reducible assumption) | exact Bd.r0 (by with_reducible assumption))) ?_) | (refine' tuple_tup_u ?_) | (refine' list_tup_u (by exact Nat.le_of_ble_eq_true rfl) ?_) | (refine' list_list_u (by exact Nat.le_of_ble_eq_true rfl) ?_) | (refine' pop_u (by (with_reducible assumption)) (by (with_reducible assumption)) (by (with_reducible assumption)) ?_; intro _) | (exact ⟨rfl, rfl⟩) | (refine' And.intro rfl ?_))
      refine np_use (within_c (D := D + 1) (names := []) (tX := .tup bs) hw (all_c hw hL) b1 (by simp) hR h3) ok rfl hr (by omega) ?_
      exact ih _ _ ⟨ha, fun y hy hz => (if_neg hz).trans (if_neg hy)⟩
theorem tswitch_c {x : Str} {es ts bs : List V} (hw : g.w = w) (hD : 45 ≤ D) (hE : TR w fk sa dx g D (.tup es) s s1) (hT : TR w fk sa dx g D (.tup ts) s1 s2) (b1 : s2.R.length ≤ 900) (hB : AllT (TR w fk sa dx g D) bs (s2.push [x]) s3) (hR : s3.R = r :: R) (h3 : R.length ≤ 900) :
    CT (IF w fk sa dx) g (D + 5) (.ref 139) [.raw (.ref sa), .tup [.str (cN "typeswitch"), .int 1, .none, .none, .str x, .tup es, .tup [.tup [.tup [.tup ts], .tup bs]]]] s (NP s3.pop) := by
  refine def_vc (dX := []) (dv := []) gl0 [Str.ofString "self", Str.ofString "tree"] (by rfl) (by rfl) (fun h vs _ _ hl gs dr tk os => ?_) .nil (by rfl) (by rfl) (by rfl) (by rfl) (by rfl) (by rfl) (fun c _ => gl0_ok c) fun c ok hg hr => ?_
  · obtain ⟨a, b, rfl⟩ := len2 hl
    exact BindsTo.of_eq rfl
  subst hg
  repeat' (first | (refine' BK.dT (by decide +kernel) ?_) | (refine' BK.dF (by decide +kernel) ?_) | (refine' BK.dT (by exact rfl) ?_) | (refine' BK.dF (by exact rfl) ?_) | (refine' SwOb.two (by with_unfolding_all rfl) ?_) | (refine' SwOb.none (by with_unfolding_all rfl) ?_) | (refine' note_u (by (with_reducible assumption)) (by (with_reducible assumption)) (by (exact Room.le (by with_reducible assumption) (by first | decide | omega))) (by (first | (with_reducible assumption) | exact Bd.R0 (by with_reducible assumption) | exact Bd.l0 (by with_reducible assumption) | exact Bd.r0 (by with_reducible assumption))) (by (first | (with_reducible assumption) | exact Bd.R0 (by with_reducible assumption) | exact Bd.l0 (by with_reducible assumption) | exact Bd.r0 (by with_reducible assumption))) ?_) | (refine' ahead_u (by (with_reducible assumption)) (by (with_reducible assumption)) (by (exact Room.le (by with_reducible assumption) (by first | decide | omega))) (by (first | (with_reducible assumption) | exact Bd.R0 (by with_reducible assumption) | exact Bd.l0 (by with_reducible assumption) | exact Bd.r0 (by with_reducible assumption))) (by (first | (with_reducible assumption) | exact Bd.R0 (by with_reducible assumption) | exact Bd.l0 (by with_reducible assumption) | exact Bd.r0 (by with_reducible assumption))) ?_) | (refine' tellT_u (by (with_reducible assumption)) (by (with_reducible assumption)) (by (exact Room.le (by with_reducible assumption) (by first | decide | omega))) (by (first | (with_reducible assumption) | exact Bd.R0 (by with_reducible assumption) | exact Bd.l0 (by with_reducible assumption) | exact Bd.r0 (by with_reducible assumption))) (by (first | (with_reducible assumption) | exact Bd.R0 (by with_reducible assumption) | exact Bd.l0 (by with_reducible assumption) | exact Bd.r0 (by with_reducible assumption))) ?_) | (refine' tellL_u (by (with_reducible assumption)) (by (with_reducible assumption)) (by (exact Room.le (by with_reducible assumption) (by first | decide | omega))) (by (first | (with_reducible assumption) | exact Bd.R0 (by with_reducible assumption) | exact Bd.l0 (by with_reducible assumption) | exact Bd.r0 (by with_reducible assumption))) (by (first | (with_reducible assumption) | exact Bd.R0 (by with_reducible assumption) | exact Bd.l0 (by with_reducible assumption) | exact Bd.r0 (by with_reducible assumption))) ?_) | (refine' tr_use (by (first | (with_reducible assumption) | assumption)) (by (with_reducible assumption)) rfl (by (exact Room.le (by with_reducible assumption) (by first | decide | omega))) ?_) | (refine' all_u (by (first | (with_reducible assumption) | assumption | exact AllT.nil | (refine' AllT.tree (by (first | (with_reducible assumption) | assumption)) (by (first | (with_reducible assumption) | assumption | exact AllT.nil | (refine' AllT.tree (by (first | (with_reducible assumption) | assumption)) (by (first | (with_reducible assumption) | assumption | exact AllT.nil | (refine' AllT.tree (by (first | (with_reducible assumption) | assumption)) (by (first | (with_reducible assumption) | assumption | exact AllT.nil | (refine' AllT.tree (by (first | (with_reducible assumption) | assumption)) (by (first | (with_reducible assumption) | assumption | exact AllT.nil | (refine' AllT.tree (by (first | (with_reducible assumption) | assumption)) (by (first | (with_reducible assumption) | assumption | exact AllT.nil | (refine' AllT.tree (by (first | (with_reducible assumption) | assumption)) (by (first | (with_reducible assumption) | assumption | exact AllT.nil | (refine' AllT.tree (by fail) (by fail)))))))))))))))))))))) (by (with_reducible assumption)) (by (with_reducible assumption)) (by (exact Room.le (by with_reducible assumption) (by first | decide | omega))) ?_) | (refine' allL_u (by (first | (with_reducible assumption) | assumption | exact AllT.nil | (refine' AllT.tree (by (first | (with_reducible assumption) | assumption)) (by (first | (with_reducible assumption) | assumption | exact AllT.nil | (refine' AllT.tree (by (first | (with_reducible assumption) | assumption)) (by (first | (with_reducible assumption) | assumption | exact AllT.nil | (refine' AllT.tree (by (first | (with_reducible assumption) | assumption)) (by (first | (with_reducible assumption) | assumption | exact AllT.nil | (refine' AllT.tree (by (first | (with_reducible assumption) | assumption)) (by (first | (with_reducible assumption) | assumption | exact AllT.nil | (refine' AllT.tree (by (first | (with_reducible assumption) | assumption)) (by (first | (with_reducible assumption) | assumption | exact AllT.nil | (refine' AllT.tree (by (first | (with_reducible assumption) | assumption)) (by (first | (with_reducible assumption) | assumption | exact AllT.nil | (refine' AllT.tree (by fail) (by fail)))))))))))))))))))))) (by (with_reducible assumption)) (by (with_reducible assumption)) (by (exact Room.le (by with_reducible assumption) (by first | decide | omega))) ?_) | (refine' np_use (by (with_reducible assumption)) (by (with_reducible assumption)) rfl (by (with_reducible assumption)) (by omega) ?_) | (refine' isi_u (by constructor) ?_) | (refine' len_tup_u (by exact Nat.le_of_ble_eq_true rfl) ?_) | (refine' pkg_u (by (with_reducible assumption)) (by (with_reducible assumption)) (by (exact Room.le (by with_reducible assumption) (by first | decide | omega))) ?_) | (refine' told_u (by (with_reducible assumption)) (by (with_reducible assumption)) (by (exact Room.le (by with_reducible assumption) (by first | decide | omega))) (by (first | (with_reducible assumption) | exact Bd.R0 (by with_reducible assumption) | exact Bd.l0 (by with_reducible assumption) | exact Bd.r0 (by with_reducible assumption))) ?_) | (refine' g_note (by (with_reducible assumption)) (by (with_reducible assumption)) ?_) | (refine' g_ahead (by (with_reducible assumption)) (by (with_reducible assumption)) ?_) | (refine' g_told (by (with_reducible assumption)) (by (with_reducible assumption)) ?_) | (refine' g_pkg (by (with_reducible assumption)) (by (with_reducible assumption)) ?_) | (refine' g_tell (by (with_reducible assumption)) (by (with_reducible assumption)) ?_) | (refine' g_all (by (with_reducible assumption)) (by (with_reducible assumption)) ?_) | (refine' g_within (by (with_reducible assumption)) (by (with_reducible assumption)) ?_) | (refine' g_tree (by (with_reducible assumption)) (by (with_reducible assumption)) ?_) | (refine' g_parts (by (with_reducible assumption)) (by (with_reducible assumption)) ?_) | (refine' g_func (by (with_reducible assumption)) (by (with_reducible assumption)) ?_) | (refine' g_lit (by (with_reducible assumption)) (by (with_reducible assumption)) ?_) | (refine' g_decl (by (with_reducible assumption)) (by (with_reducible assumption)) ?_) | (refine' g_nested (by (with_reducible assumption)) (by (with_reducible assumption)) ?_) | (refine' g_cases (by (with_reducible assumption)) (by (with_reducible assumption)) ?_) | (refine' g_case (by (with_reducible assumption)) (by (with_reducible assumption)) ?_) | (refine' g_keys (by (with_reducible assumption)) (by (with_reducible assumption)) ?_) | (refine' pushO (by (with_reducible assumption)) (by (with_reducible assumption)) ?_) | (refine' popO (by (with_reducible assumption)) (by (with_reducible assumption)) ?_) | (refine' push0_u (by (with_reducible assumption)) (by (first | (with_reducible assumption) | exact Bd.R0 (by with_reducible assumption) | exact Bd.l0 (by with_reducible assumption) | exact Bd.r0 (by with_reducible assumption))) ?_) | (refine' tuple_tup_u ?_) | (refine' list_tup_u (by exact Nat.le_of_ble_eq_true rfl) ?_) | (refine' list_list_u (by exact Nat.le_of_ble_eq_true rfl) ?_) | (refine' pop_u (by (with_reducible assumption)) (by (with_reducible assumption)) (by (with_reducible assumption)) ?_; intro _) | (exact ⟨rfl, rfl⟩) | (refine' And.intro rfl ?_))
  refine allL_u (.none (.tree hE .nil)) ok hw (hr.le (by omega)) ?_
  repeat' (first | (refine' BK.dT (by decide +kernel) ?_) | (refine' BK.dF (by decide +kernel) ?_) | (refine' BK.dT (by exact rfl) ?_) | (refine' BK.dF (by exact rfl) ?_) | (refine' SwOb.two (by with_unfolding_all rfl) ?_) | (refine' SwOb.none (by with_unfolding_all rfl) ?_) | (refine' note_u (by (with_reducible assumption)) (by (with_reducible assumption)) (by (exact Room.le (by with_reducible assumption) (by first | decide | omega))) (by (first | (with_reducible assumption) | exact Bd.R0 (by with_reducible assumption) | exact Bd.l0 (by with_reducible assumption) | exact Bd.r0 (by with_reducible assumption))) (by (first | (with_reducible assumption) | exact Bd.R0 (by with_reducible assumption) | exact Bd.l0 (by with_reducible assumption) | exact Bd.r0 (by with_reducible assumption))) ?_) | (refine' ahead_u (by (with_reducible assumption)) (by (with_reducible assumption)) (by (exact Room.le (by with_reducible assumption) (by first | decide | omega))) (by (first | (with_reducible assumption) | exact Bd.R0 (by with_reducible assumption) | exact Bd.l0 (by with_reducible assumption) | exact Bd.r0 (by with_reducible assumption))) (by (first | (with_reducible assumption) | exact Bd.R0 (by with_reducible assumption) | exact Bd.l0 (by with_reducible assumption) | exact Bd.r0 (by with_reducible assumption))) ?_) | (refine' tellT_u (by (with_reducible assumption)) (by (with_reducible assumption)) (by (exact Room.le (by with_reducible assumption) (by first | decide | omega))) (by (first | (with_reducible assumption) | exact Bd.R0 (by with_reducible assumption) | exact Bd.l0 (by with_reducible assumption) | exact Bd.r0 (by with_reducible assumption))) (by (first | (with_reducible assumption) | exact Bd.R0 (by with_reducible assumption) | exact Bd.l0 (by with_reducible assumption) | exact Bd.r0 (by with_reducible assumption))) ?_) | (refine' tellL_u (by (with_reducible assumption)) (by (with_reducible assumption)) (by (exact Room.le (by with_reducible assumption) (by first | decide | omega))) (by (first | (with_reducible assumption) | exact Bd.R0 (by with_reducible assumption) | exact Bd.l0 (by with_reducible assumption) | exact Bd.r0 (by with_reducible assumption))) (by (first | (with_reducible assumption) | exact Bd.R0 (by with_reducible assumption) | exact Bd.l0 (by with_reducible assumption) | exact Bd.r0 (by with_reducible assumption))) ?_) | (refine' tr_use (by (first | (with_reducible assumption) | assumption)) (by (with_reducible assumption)) rfl (by (exact Room.le (by with_reducible assumption) (by first | decide | omega))) ?_) | (refine' all_u (by (first | (with_reducible assumption) | assumption | exact AllT.nil | (refine' AllT.tree (by (first | (with_reducible assumption) | assumption)) (by (first | (with_reducible assumption) | assumption | exact AllT.nil | (refine' AllT.tree (by (first | (with_reducible assumption) | assumption)) (by (first | (with_reducible assumption) | assumption | exact AllT.nil | (refine' AllT.tree (by (first | (with_reducible assumption) | assumption)) (by (first | (with_reducible assumption) | assumption | exact AllT.nil | (refine' AllT.tree (by (first | (with_reducible assumption) | assumption)) (by (first | (with_reducible assumption) | assumption | exact AllT.nil | (refine' AllT.tree (by (first | (with_reducible assumption) | assumption)) (by (first | (with_reducible assumption) | assumption | exact AllT.nil | (refine' AllT.tree (by (first | (with_reducible assumption) | assumption)) (by (first | (with_reducible assumption) | assumption | exact AllT.nil | (refine' AllT.tree (by fail) (by fail)))))))))))))))))))))) (by (with_reducible assumption)) (by (with_reducible assumption)) (by (exact Room.le (by with_reducible assumption) (by first | decide | omega))) ?_) | (refine' allL_u (by (first | (with_reducible assumption) | assumption | exact AllT.nil | (refine' AllT.tree (by (first | (with_reducible assumption) | assumption)) (by (first | (with_reducible assumption) | assumption | exact AllT.nil | (refine' AllT.tree (by (first | (with_reducible assumption) | assumption)) (by (first | (with_reducible assumption) | assumption | exact AllT.nil | (refine' AllT.tree (by (first | (with_reducible assumption) | assumption)) (by (first | (with_reducible assumption) | assumption | exact AllT.nil | (refine' AllT.tree (by (first | (with_reducible assumption) | assumption)) (by (first | (with_reducible assumption) | assumption | exact AllT.nil | (refine' AllT.tree (by (first | (with_reducible assumption) | assumption)) (by (first | (with_reducible assumption) | assumption | exact AllT.nil | (refine' AllT.tree (by (first | (with_reducible assumption) | assumption)) (by (first | (with_reducible assumption) | assumption | exact AllT.nil | (refine' AllT.tree (by fail) (by fail)))))))))))))))))))))) (by (with_reducible assumption)) (by (with_reducible assumption)) (by (exact Room.le (by with_reducible assumption) (by first | decide | omega))) ?_) | (refine' np_use (by (with_reducible assumption)) (by (with_reducible assumption)) rfl (by (with_reducible assumption)) (by omega) ?_) | (refine' isi_u (by constructor) ?_) | (refine' len_tup_u (by exact Nat.le_of_ble_eq_true rfl) ?_) | (refine' pkg_u (by (with_reducible assumption)) (by (with_reducible assumption)) (by (exact Room.le (by with_reducible assumption) (by first | decide | omega))) ?_) | (refine' told_u (by (with_reducible assumption)) (by (with_reducible assumption)) (by (exact Room.le (by with_reducible assumption) (by first | decide | omega))) (by (first | (with_reducible assumption) | exact Bd.R0 (by with_reducible assumption) | exact Bd.l0 (by with_reducible assumption) | exact Bd.r0 (by with_reducible assumption))) ?_) | (refine' g_note (by (with_reducible assumption)) (by (with_reducible assumption)) ?_) | (refine' g_ahead (by (with_reducible assumption)) (by (with_reducible assumption)) ?_) | (refine' g_told (by (with_reducible assumption)) (by (with_reducible assumption)) ?_) | (refine' g_pkg (by (with_reducible assumption)) (by (with_reducible assumption)) ?_) | (refine' g_tell (by (with_reducible assumption)) (by (with_reducible assumption)) ?_) | (refine' g_all (by (with_reducible assumption)) (by (with_reducible assumption)) ?_) | (refine' g_within (by (with_reducible assumption)) (by (with_reducible assumption)) ?_) | (refine' g_tree (by (with_reducible assumption)) (by (with_reducible assumption)) ?_) | (refine' g_parts (by (with_reducible assumption)) (by (with_reducible assumption)) ?_) | (refine' g_func (by (with_reducible assumption)) (by (with_reducible assumption)) ?_) | (refine' g_lit (by (with_reducible assumption)) (by (with_reducible assumption)) ?_) | (refine' g_decl (by (with_reducible assumption)) (by (with_reducible assumption)) ?_) | (refine' g_nested (by (with_reducible assumption)) (by (with_reducible assumption)) ?_) | (refine' g_cases (by (with_reducible assumption)) (by (with_reducible assumption)) ?_) | (refine' g_case (by (with_reducible assumption)) (by (with_reducible assumption)) ?_) | (refine' g_keys (by (with_reducible assumption)) (by (with_reducible assumption)) ?_) | (refine' pushO (by (with_reducible assumption)) (by (with_reducible assumption)) ?_) | (refine' popO (by (with_reducible assumption)) (by (with_reducible assumption)) ?_) | (refine' push0_u (by (with_reducible assumption)) (by (first | (with_reducible assumption) | exact Bd.R0 (by with_reducible assumption) | exact Bd.l0 (by with_reducible assumption) | exact Bd.r0 (by with_reducible assumption))) ?_) | (refine' tuple_tup_u ?_) | (refine' list_tup_u (by exact Nat.le_of_ble_eq_true rfl) ?_) | (refine' list_list_u (by exact Nat.le_of_ble_eq_true rfl) ?_) | (refine' pop_u (by (with_reducible assumption)) (by (with_reducible assumption)) (by (with_reducible assumption)) ?_; intro _) | (exact ⟨rfl, rfl⟩) | (refine' And.intro rfl ?_))
  refine' np_use ?h ok rfl hr ?e ?_
  case h => exact within_c (D := D + 1) (names := [x]) (tX := .tup bs) hw (all_c hw hB) b1 (by simp) hR h3
  case e => omega
  repeat' (first | (refine' BK.dT (by decide +kernel) ?_) | (refine' BK.dF (by decide +kernel) ?_) | (refine' BK.dT (by exact rfl) ?_) | (refine' BK.dF (by exact rfl) ?_) | (refine' SwOb.two (by with_unfolding_all rfl) ?_) | (refine' SwOb.none (by with_unfolding_all rfl) ?_) | (refine' note_u (by (with_reducible assumption)) (by (with_reducible assumption)) (by (exact Room.le (by with_reducible assumption) (by first | decide | omega))) (by (first | (with_reducible assumption) | exact Bd.R0 (by with_reducible assumption) | exact Bd.l0 (by with_reducible assumption) | exact Bd.r0 (by with_reducible assumption))) (by (first | (with_reducible assumption) | exact Bd.R0 (by with_reducible assumption) | exact Bd.l0 (by with_reducible assumption) | exact Bd.r0 (by with_reducible assumption))) ?_) | (refine' ahead_u (by (with_reducible assumption)) (by (with_reducible assumption)) (by (exact Room.le (by with_reducible assumption) (by first | decide | omega))) (by (first | (with_reducible assumption) | exact Bd.R0 (by with_reducible assumption) | exact Bd.l0 (by with_reducible assumption) | exact Bd.r0 (by with_reducible assumption))) (by (first | (with_reducible assumption) | exact Bd.R0 (by with_reducible assumption) | exact Bd.l0 (by with_reducible assumption) | exact Bd.r0 (by with_reducible assumption))) ?_) | (refine' tellT_u (by (with_reducible assumption)) (by (with_reducible assumption)) (by (exact Room.le (by with_reducible assumption) (by first | decide | omega))) (by (first | (with_reducible assumption) | exact Bd.R0 (by with_reducible assumption) | exact Bd.l0 (by with_reducible assumption) | exact Bd.r0 (by with_reducible assumption))) (by (first | (with_reducible assumption) | exact Bd.R0 (by with_reducible assumption) | exact Bd.l0 (by with_reducible assumption) | exact Bd.r0 (by with_reducible assumption))) ?_) | (refine' tellL_u (by (with_reducible assumption)) (by (with_reducible assumption)) (by (exact Room.le (by with_reducible assumption) (by first | decide | omega))) (by (first | (with_reducible assumption) | exact Bd.R0 (by with_reducible assumption) | exact Bd.l0 (by with_reducible assumption) | exact Bd.r0 (by with_reducible assumption))) (by (first | (with_reducible assumption) | exact Bd.R0 (by with_reducible assumption) | exact Bd.l0 (by with_reducible assumption) | exact Bd.r0 (by with_reducible assumption))) ?_) | (refine' tr_use (by (first | (with_reducible assumption) | assumption)) (by (with_reducible assumption)) rfl (by (exact Room.le (by with_reducible assumption) (by first | decide | omega))) ?_) | (refine' all_u (by (first | (with_reducible assumption) | assumption | exact AllT.nil | (refine' AllT.tree (by (first | (with_reducible assumption) | assumption)) (by (first | (with_reducible assumption) | assumption | exact AllT.nil | (refine' AllT.tree (by (first | (with_reducible assumption) | assumption)) (by (first | (with_reducible assumption) | assumption | exact AllT.nil | (refine' AllT.tree (by (first | (with_reducible assumption) | assumption)) (by (first | (with_reducible assumption) | assumption | exact AllT.nil | (refine' AllT.tree (by (first | (with_reducible assumption) | assumption)) (by (first | (with_reducible assumption) | assumption | exact AllT.nil | (refine' AllT.tree (by (first | (with_reducible assumption) | assumption)) (by (first | (with_reducible assumption) | assumption | exact AllT.nil | (refine' AllT.tree (by (first | (with_reducible assumption) | assumption)) (by (first | (with_reducible assumption) | assumption | exact AllT.nil | (refine' AllT.tree (by fail) (by fail)))))))))))))))))))))) (by (with_reducible assumption)) (by (with_reducible assumption)) (by (exact Room.le (by with_reducible assumption) (by first | decide | omega))) ?_) | (refine' allL_u (by (first | (with_reducible assumption) | assumption | exact AllT.nil | (refine' AllT.tree (by (first | (with_reducible assumption) | assumption)) (by (first | (with_reducible assumption) | assumption | exact AllT.nil | (refine' AllT.tree (by (first | (with_reducible assumption) | assumption)) (by (first | (with_reducible assumption) | assumption | exact AllT.nil | (refine' AllT.tree (by (first | (with_reducible assumption) | assumption)) (by (first | (with_reducible assumption) | assumption | exact AllT.nil | (refine' AllT.tree (by (first | (with_reducible assumption) | assumption)) (by (first | (with_reducible assumption) | assumption | exact AllT.nil | (refine' AllT.tree (by (first | (with_reducible assumption) | assumption)) (by (first | (with_reducible assumption) | assumption | exact AllT.nil | (refine' AllT.tree (by (first | (with_reducible assumption) | assumption)) (by (first | (with_reducible assumption) | assumption | exact AllT.nil | (refine' AllT.tree (by fail) (by fail)))))))))))))))))))))) (by (with_reducible assumption)) (by (with_reducible assumption)) (by (exact Room.le (by with_reducible assumption) (by first | decide | omega))) ?_) | (refine' np_use (by (with_reducible assumption)) (by (with_reducible assumption)) rfl (by (with_reducible assumption)) (by omega) ?_) | (refine' isi_u (by constructor) ?_) | (refine' len_tup_u (by exact Nat.le_of_ble_eq_true rfl) ?_) | (refine' pkg_u (by (with_reducible assumption)) (by (with_reducible assumption)) (by (exact Room.le (by with_reducible assumption) (by first | decide | omega))) ?_) | (refine' told_u (by (with_reducible assumption)) (by (with_reducible assumption)) (by (exact Room.le (by with_reducible assumption) (by first | decide | omega))) (by (first | (with_reducible assumption) | exact Bd.R0 (by with_reducible assumption) | exact Bd.l0 (by with_reducible assumption) | exact Bd.r0 (by with_reducible assumption))) ?_) | (refine' g_note (by (with_reducible assumption)) (by (with_reducible assumption)) ?_) | (refine' g_ahead (by (with_reducible assumption)) (by (with_reducible assumption)) ?_) | (refine' g_told (by (with_reducible assumption)) (by (with_reducible assumption)) ?_) | (refine' g_pkg (by (with_reducible assumption)) (by (with_reducible assumption)) ?_) | (refine' g_tell (by (with_reducible assumption)) (by (with_reducible assumption)) ?_) | (refine' g_all (by (with_reducible assumption)) (by (with_reducible assumption)) ?_) | (refine' g_within (by (with_reducible assumption)) (by (with_reducible assumption)) ?_) | (refine' g_tree (by (with_reducible assumption)) (by (with_reducible assumption)) ?_) | (refine' g_parts (by (with_reducible assumption)) (by (with_reducible assumption)) ?_) | (refine' g_func (by (with_reducible assumption)) (by (with_reducible assumption)) ?_) | (refine' g_lit (by (with_reducible assumption)) (by (with_reducible assumption)) ?_) | (refine' g_decl (by (with_reducible assumption)) (by (with_reducible assumption)) ?_) | (refine' g_nested (by (with_reducible assumption)) (by (with_reducible assumption)) ?_) | (refine' g_cases (by (with_reducible assumption)) (by (with_reducible assumption)) ?_) | (refine' g_case (by (with_reducible assumption)) (by (with_reducible assumption)) ?_) | (refine' g_keys (by (with_reducible assumption)) (by (with_reducible assumption)) ?_) | (refine' pushO (by (with_reducible assumption)) (by (with_reducible assumption)) ?_) | (refine' popO (by (with_reducible assumption)) (by (with_reducible assumption)) ?_) | (refine' push0_u (by (with_reducible assumption)) (by (first | (with_reducible assumption) | exact Bd.R0 (by with_reducible assumption) | exact Bd.l0 (by with_reducible assumption) | exact Bd.r0 (by with_reducible assumption))) ?_) | (refine' tuple_tup_u ?_) | (refine' list_tup_u (by exact Nat.le_of_ble_eq_true rfl) ?_) | (refine' list_list_u (by exact Nat.le_of_ble_eq_true rfl) ?_) | (refine' pop_u (by (with_reducible assumption)) (by (with_reducible assumption)) (by (with_reducible assumption)) ?_; intro _) | (exact ⟨rfl, rfl⟩) | (refine' And.intro rfl ?_))
end
theorem tv_tup {t : T} (h : isT t = true) : ∃ k i ys, (tv t).1 = .tup (.str k :: .int i :: ys) ∧ ys.length ≤ 900 := by
  cases t <;> first | (cases h; done) | exact ⟨_, _, _, rfl, Nat.le_of_ble_eq_true rfl⟩
theorem isE_T {t : T} (h : isE t = true) : isT t = true := by cases t <;> first | (cases h; done) | rfl
theorem isTy_T {t : T} (h : isTy t = true) : isT t = true := by cases t <;> first | (cases h; done) | rfl
structure Good (w : World) (fk : FK) (sa dx : Addr) (t : T) : Prop where
  gt : isT t = true → ∀ (g : GX) (s : FS) (D : Nat), g.w = w → 60 + dep t ≤ D → Bd s (dep t) (wt t) → TR w fk sa dx g D (tv t).1 s (run t s)
  gl : isL t = true → ∀ (g : GX) (s : FS) (D : Nat), g.w = w → 60 + dep t ≤ D → Bd s (dep t) (wt t) → AllT (TR w fk sa dx g D) (tv t).2 s (run t s)
  gr : isR t = true → ∀ (g : GX) (s : FS) (D : Nat), g.w = w → 60 + dep t ≤ D → Bd s (1 + dep t) (wt t) → AllR (TR w fk sa dx g D) (tv t).2 s (run t s)
section
variable {w : World} {fk : FK} {sa dx : Addr} {g : GX} {D : Nat} {s s1 s2 s3 : FS}
theorem Good.mk1 {t : T} (h2 : isL t = false) (h3 : isR t = false) (h : ∀ (g : GX) (s : FS) (D : Nat), g.w = w → 60 + dep t ≤ D → Bd s (dep t) (wt t) → TR w fk sa dx g D (tv t).1 s (run t s)) : Good w fk sa dx t :=
  ⟨fun _ => h, fun e => (by rw [h2] at e; cases e), fun e => (by rw [h3] at e; cases e)⟩
theorem Good.e {t : T} (h : Good w fk sa dx t) (hE : isT t = true) (hw : g.w = w) (e : 60 + dep t ≤ D) (hb : Bd s (dep t) (wt t)) : ∃ ys, (tv t).1 = .tup ys ∧ TR w fk sa dx g D (.tup ys) s (run t s) := by
  obtain ⟨k, i, ys, e1, _⟩ := tv_tup hE
  have := h.gt hE g s D hw e hb
  rw [e1] at this
  exact ⟨_, e1, this⟩
theorem lit_any {ty : T} {x : Str} (hty : isTy ty = true) (hw : g.w = w) (hD : 45 ≤ D) (hT : TR w fk sa dx g D (tv ty).1 s s1) (hX : TR w fk sa dx g D (nmV x) s1 s2) (h1 : s1.R.length ≤ 900) : CT (IF w fk sa dx) g (D + 1) (.ref 120) [.raw (.ref sa), .tup [.str (cN "lit"), .int 1, (tv ty).1, .tup [.tup [.none, nmV x]]]] s (NP s2) := by
  cases ty with
  | plain z => exact lit_plain hw hD hT hX h1
  | pkg z => exact lit_pkg hw hD hT hX h1
  | slice t => exact lit_slice hw hD hT hX h1
  | _ => cases hty
theorem bl {b : T} (hw : g.w = w) (hD : 45 ≤ D) (b1 : s.R.length ≤ 900) (h : AllT (TR w fk sa dx g D) (tv b).2 (s.push []) (run b (s.push []))) : TR w fk sa dx g (D + 10) (tv (.block b)).1 s (run (.block b) s) :=
  t_nested hw (by decide +kernel) (by decide +kernel) (by decide +kernel) (by decide +kernel) (by decide +kernel) (by decide +kernel) (block_f hw hD h b1 (run_R _ _) b1)
end
theorem Bd.p0 {s : FS} {d k : Nat} (h : Bd s (10 + d) k) : Bd (s.push []) (1 + (1 + d)) k := Bd.push0 (h.le (by omega) (Nat.le_refl _))
theorem Bd.d10 {s : FS} {d k : Nat} (h : Bd s (10 + d) k) : Bd s d k := h.le (Nat.le_add_left _ _) (Nat.le_refl _)
theorem Bd.d1 {s : FS} {d k : Nat} (h : Bd s (1 + d) k) : Bd s d k := h.le (Nat.le_add_left _ _) (Nat.le_refl _)
theorem Bd.d20 {s : FS} {d k : Nat} (h : Bd s (20 + d) k) : Bd s (10 + (1 + (1 + d))) k := h.le (by omega) (Nat.le_refl _)
theorem Bd.k0 {s : FS} {d i k : Nat} (h : Bd s d (i + k)) : Bd s d i := h.le (Nat.le_refl _) (Nat.le_add_right _ _)
theorem Bd.k1 {s : FS} {d i k : Nat} (h : Bd s d (i + k)) : Bd s d k := h.le (Nat.le_refl _) (Nat.le_add_left _ _)
theorem Bd.z {s : FS} {d i k : Nat} (h : Bd s d (i + k)) : Bd s 0 i := h.le (Nat.zero_le _) (Nat.le_add_right _ _)
theorem le10 {d D : Nat} (e : 60 + (10 + d) ≤ D) : 60 + d + 10 ≤ D := by omega
theorem le9 {d D : Nat} (e : 60 + (10 + d) ≤ D) : 60 + d + 9 ≤ D := by omega
theorem le20 {d D : Nat} (e : 60 + (20 + d) ≤ D) : 60 + d + 10 + 10 ≤ D := by omega
theorem le45 (d : Nat) : 45 ≤ 60 + d := by omega
theorem le60 (d : Nat) : 60 ≤ 60 + d := Nat.le_add_right _ _
section
variable {a b c d : Nat}
theorem x1 : a ≤ max a (max b c) := Nat.le_max_left _ _
theorem x2 : b ≤ max a (max b c) := Nat.le_trans (Nat.le_max_left _ _) (Nat.le_max_right _ _)
theorem x3 : c ≤ max a (max b c) := Nat.le_trans (Nat.le_max_right _ _) (Nat.le_max_right _ _)
theorem y1 : a ≤ max (max a b) (max c d) := Nat.le_trans (Nat.le_max_left _ _) (Nat.le_max_left _ _)
theorem y2 : b ≤ max (max a b) (max c d) := Nat.le_trans (Nat.le_max_right _ _) (Nat.le_max_left _ _)
theorem y3 : c ≤ max (max a b) (max c d) := Nat.le_trans (Nat.le_max_left _ _) (Nat.le_max_right _ _)
theorem y4 : d ≤ max (max a b) (max c d) := Nat.le_trans (Nat.le_max_right _ _) (Nat.le_max_right _ _)
end
section
variable {w : World} {fk : FK} {sa dx : Addr} {g : GX} {d k : Nat} {s s' : FS}
theorem Good.u {t : T} (h : Good w fk sa dx t) (hE : isT t = true) (hw : g.w = w) (e : dep t ≤ d) (hb : Bd s d (wt t + k)) : TR w fk sa dx g (60 + d) (tv t).1 s (run t s) := h.gt hE g s _ hw (Nat.add_le_add_left e _) (hb.le e (Nat.le_add_right _ _))
theorem Good.f {t : T} (h : Good w fk sa dx t) (hE : isT t = true) (hw : g.w = w) (e : dep t ≤ d) (hb : Bd s d (wt t + k)) : ∃ ys, (tv t).1 = .tup ys ∧ TR w fk sa dx g (60 + d) (.tup ys) s (run t s) := h.e hE hw (Nat.add_le_add_left e _) (hb.le e (Nat.le_add_right _ _))
theorem Good.li {t : T} (h : Good w fk sa dx t) (hE : isL t = true) (hw : g.w = w) (e : dep t ≤ d) (hb : Bd s d (wt t + k)) : AllT (TR w fk sa dx g (60 + d)) (tv t).2 s (run t s) := h.gl hE g s _ hw (Nat.add_le_add_left e _) (hb.le e (Nat.le_add_right _ _))
theorem Good.c {D : Nat} {t : T} {Xs : List V} (h : Good w fk sa dx t) (hE : isT t = true) (hw : g.w = w) (e : 60 + dep t ≤ D) (hb : Bd s (dep t) (wt t)) (k : AllT (TR w fk sa dx g D) Xs (run t s) s') : AllT (TR w fk sa dx g D) ((tv t).1 :: Xs) s s' := by
  obtain ⟨ys, e1, hT⟩ := h.e hE hw e hb
  rw [e1]
  exact .tree hT k
theorem Good.c' {t : T} {Xs : List V} (h : Good w fk sa dx t) (hE : isT t = true) (hw : g.w = w) (e : dep t ≤ d) (hb : Bd s d (wt t + k)) (r : AllT (TR w fk sa dx g (60 + d)) Xs (run t s) s') : AllT (TR w fk sa dx g (60 + d)) ((tv t).1 :: Xs) s s' := h.c hE hw (Nat.add_le_add_left e _) (hb.le e (Nat.le_add_right _ _)) r
theorem tree_g : ∀ (t : T), Ok t → Good w fk sa dx t := by
  intro t
  induction t with
  | none_ => intro _; exact ⟨nofun, nofun, nofun⟩
  | name x => intro _; exact .mk1 rfl rfl fun g s D hw e hb => (t_name hw (hb.le (Nat.zero_le _) (Nat.le_refl _))).le (Nat.le_trans (Nat.le_add_right _ _) e)
  | plain x => intro _; exact .mk1 rfl rfl fun g s D hw e hb => (t_plain hw (hb.le (Nat.zero_le _) (Nat.le_refl _))).le (Nat.le_trans (Nat.le_add_right _ _) e)
  | pkg x => intro _; exact .mk1 rfl rfl fun g s D hw e hb => (t_pkg hw (hb.le (Nat.zero_le _) (Nat.le_refl _))).le (Nat.le_trans (Nat.le_add_right _ _) e)
  | select x => intro _; exact .mk1 rfl rfl fun g s D hw e hb => (t_select hw (hb.le (Nat.zero_le _) (Nat.le_refl _))).le e
  | slice t i1 =>
    rintro ⟨h1, h2⟩
    exact .mk1 rfl rfl fun g s D hw e hb => (t_slice hw (tv_tup (isE_T h1)) ((i1 h2).u (k := 0) (isE_T h1) hw (Nat.le_refl _) hb.d10.k1)).le (le9 e)
  | expr t i1 =>
    rintro ⟨h1, h2⟩
    exact .mk1 rfl rfl fun g s D hw e hb => (t_expr hw (tv_tup (isE_T h1)) ((i1 h2).u (k := 0) (isE_T h1) hw (Nat.le_refl _) hb.d10)).le (le9 e)
  | step t i1 =>
    rintro ⟨h1, h2⟩
    exact .mk1 rfl rfl fun g s D hw e hb => (t_step hw (tv_tup (isE_T h1)) ((i1 h2).u (k := 0) (isE_T h1) hw (Nat.le_refl _) hb.d10)).le (le9 e)
  | binary x o i1 =>
    rintro ⟨_, h1, h2⟩
    exact .mk1 rfl rfl fun g s D hw e hb => (t_binary hw (le60 _) hb.z (tv_tup (isE_T h1)) ((i1 h2).u (k := 0) (isE_T h1) hw (Nat.le_refl _) (Bd.note hb.d10))).le (le9 e)
  | call x o i1 =>
    rintro ⟨_, h1, h2⟩
    exact .mk1 rfl rfl fun g s D hw e hb => (t_call hw (le60 _) hb.z (tv_tup (isE_T h1)) ((i1 h2).u (k := 0) (isE_T h1) hw (Nat.le_refl _) (Bd.note hb.d10))).le (le10 e)
  | lit ty x i1 =>
    rintro ⟨h1, h2, _⟩
    refine .mk1 rfl rfl fun g s D hw e hb => ?_
    have hb1 : Bd (run ty s) (dep ty) 1 := Bd.run (Bd.d10 hb)
    exact (t_lit hw (lit_any (D := 60 + dep ty) h1 hw (le45 _) ((i1 h2).u (k := 1) (isTy_T h1) hw (Nat.le_refl _) (Bd.d10 hb)) ((t_name hw (hb1.le (Nat.zero_le _) (Nat.le_refl _))).le (le60 _)) hb1.R0)).le (le10 e)
  | func ty x b i1 i2 =>
    rintro ⟨h1, h2, _, h3, h4, _⟩
    refine .mk1 rfl rfl fun g s D hw e hb => ?_
    have hb0 : Bd s (1 + (1 + max (dep ty) (dep b))) (wt ty + (1 + wt b)) := Bd.d10 (Bd.d20 hb)
    have hb1 := hb0.run
    have hb2 := hb1.push1 (x := x)
    have hT := t_fty hw (tv_tup (isTy_T h1)) ((i1 h2).u (isTy_T h1) hw (Nat.le_max_left _ (dep b)) hb0.d1.d1)
    have hB := bl hw (le45 _) hb2.R0 ((i2 h4).li (k := 0) h3 hw (Nat.le_max_right (dep ty) _) hb2.push0)
    exact (t_func hw hT hB hb1.R0 (run_R (.block b) _) hb1.R0).le (le20 e)
  | define x e' i1 =>
    rintro ⟨_, h1, h2⟩
    refine .mk1 rfl rfl fun g s D hw e hb => ?_
    have hb1 : Bd (run e' s) (dep e') 1 := Bd.run (Bd.d10 hb)
    obtain ⟨ys, e1, hE⟩ := (i1 h2).f (k := 1) (isE_T h1) hw (Nat.le_refl _) (Bd.d10 hb)
    have := (t_decl hw (by decide +kernel) (by decide +kernel) (by decide +kernel) (by decide +kernel) (by decide +kernel) (define_c (x := x) hw (le45 _) hE hb1.R0 hb1.r0)).le (le10 e)
    rw [← e1] at this
    exact this
  | var x ty e' i1 i2 =>
    rintro ⟨_, h1, h2, h3, h4⟩
    refine .mk1 rfl rfl fun g s D hw e hb => ?_
    have hb0 : Bd s (max (dep ty) (dep e')) (wt ty + (wt e' + 1)) := Bd.d10 hb
    have hb1 := hb0.run
    have hb2 := hb1.run
    obtain ⟨zs, e1, hT⟩ := (i1 h2).f (isTy_T h1) hw (Nat.le_max_left _ _) hb0
    obtain ⟨ys, e2, hE⟩ := (i2 h4).f (isE_T h3) hw (Nat.le_max_right _ _) hb1
    have := (t_decl hw (by decide +kernel) (by decide +kernel) (by decide +kernel) (by decide +kernel) (by decide +kernel) (var_c (x := x) hw (le45 _) hT hE hb2.R0 hb2.r0)).le (le10 e)
    rw [← e1, ← e2] at this
    exact this
  | typedecl x ty i1 =>
    rintro ⟨_, h1, h2⟩
    refine .mk1 rfl rfl fun g s D hw e hb => ?_
    obtain ⟨zs, e1, hT⟩ := (i1 h2).f (k := 0) (isTy_T h1) hw (Nat.le_refl _) (Bd.tell (x := x) (Bd.d10 hb))
    have := (t_decl hw (by decide +kernel) (by decide +kernel) (by decide +kernel) (by decide +kernel) (by decide +kernel) (typedecl_c (x := x) hw (le45 _) hb.R0 hb.r0 hT)).le (le10 e)
    rw [← e1] at this
    exact this
  | block b i1 =>
    rintro ⟨h1, h2, _⟩
    exact .mk1 rfl rfl fun g s D hw e hb => (bl hw (le45 _) hb.R0 ((i1 h2).li (k := 0) h1 hw (Nat.le_refl _) (Bd.p0 hb).d1.d1)).le (le10 e)
  | nil => intro _; exact ⟨nofun, fun _ _ _ _ _ _ _ => .nil, nofun⟩
  | cons t ts i1 i2 =>
    rintro ⟨h1, h2, h3, h4⟩
    refine ⟨nofun, fun _ g s D hw e hb => ?_, nofun⟩
    have hb0 : Bd s (max (dep t) (dep ts)) (wt t + wt ts) := hb
    have hb1 := hb0.run
    obtain ⟨ys, e1, hE⟩ := (i1 h2).e h1 (s := s) hw (Nat.le_trans (Nat.add_le_add_left (Nat.le_max_left _ _) _) e) (hb0.k0.le (Nat.le_max_left _ _) (Nat.le_refl _))
    have := AllT.tree hE ((i2 h4).gl h3 g _ D hw (Nat.le_trans (Nat.add_le_add_left (Nat.le_max_right _ _) _) e) (hb1.le (Nat.le_max_right _ _) (Nat.le_refl _)))
    rw [← e1] at this
    exact this
  | rnil => intro _; exact ⟨nofun, nofun, fun _ _ _ _ _ _ _ => .nil⟩
  | rcons e' b rs i1 i2 i3 =>
    rintro ⟨h1, h2, h3, h4, _, h5, h6⟩
    refine ⟨nofun, nofun, fun _ g s D hw e hb => ?_⟩
    have hb0 : Bd s (1 + max (dep e') (max (dep b) (dep rs))) (wt e' + (wt b + wt rs)) := hb
    have hb1 := hb0.run
    have hb3 : Bd (run b ((run e' s).push [])).pop (1 + max (dep e') (max (dep b) (dep rs))) (wt rs) := hb1.gw (Gw.in (run_gw b _))
    obtain ⟨ys, e1, hE⟩ := (i1 h2).e (isE_T h1) (s := s) hw (Nat.le_trans (Nat.add_le_add_left x1 _) e) (hb0.d1.k0.le x1 (Nat.le_refl _))
    have := AllR.cons hE hb1.R0 ((i2 h4).gl h3 g _ D hw (Nat.le_trans (Nat.add_le_add_left x2 _) e) (hb1.push0.k0.le x2 (Nat.le_refl _))) (run_R b _) hb1.R0 ((i3 h6).gr h5 g _ D hw (Nat.le_trans (Nat.add_le_add_left x3 _) e) (hb3.le (Nat.add_le_add_left x3 _) (Nat.le_refl _)))
    rw [← e1] at this
    exact this
  | ifs h t b o i1 i2 i3 i4 =>
    rintro ⟨h1, h2, h3, h4, h5, h6, h7, h8⟩
    refine .mk1 rfl rfl fun g s D hw e hb => ?_
    have hb0 := (Bd.p0 hb).d1.d1
    have hb1 := hb0.run (t := h)
    have hb2 := hb1.run
    have hb3 := hb2.run
    have hA := (i1 h2).c' h1 hw y1 hb0 ((i2 h4).c' (isE_T h3) hw y2 hb1 ((i3 h6).c' (isE_T h5) hw y3 hb2 ((i4 h8).c' (k := 0) (isE_T h7) hw y4 hb3 .nil)))
    exact (t_nested hw (by decide +kernel) (by decide +kernel) (by decide +kernel) (by decide +kernel) (by decide +kernel) (by decide +kernel) (if_f hw (le45 _) hA hb.R0 (((run_R _ _).trans (run_R _ _)).trans ((run_R _ _).trans (run_R _ _))) hb.R0)).le (le10 e)
  | fors h t b i1 i2 i3 =>
    rintro ⟨h1, h2, h3, h4, h5, h6⟩
    refine .mk1 rfl rfl fun g s D hw e hb => ?_
    have hb0 := (Bd.p0 (Bd.d20 hb)).d1.d1.d1.d1
    have hb1 := hb0.run (t := h)
    have hb2 := hb1.run
    have hb3 := hb2.run
    have hS := (t_step hw (tv_tup (isE_T h3)) ((i2 h4).u (isE_T h3) hw x2 hb2)).le (Nat.le_succ _)
    have hA := (i1 h2).c (D := 60 + max (dep h) (max (dep t) (dep b)) + 10) h1 hw (Nat.le_trans (Nat.add_le_add_left x1 _) (Nat.le_add_right _ _)) (hb0.k0.le x1 (Nat.le_refl _)) ((i2 h4).c (isE_T h3) hw (Nat.le_trans (Nat.add_le_add_left x2 _) (Nat.le_add_right _ _)) (hb1.k0.le x2 (Nat.le_refl _)) (.tree hS ((i3 h6).c (isE_T h5) hw (Nat.le_trans (Nat.add_le_add_left x3 _) (Nat.le_add_right _ _)) (hb3.le x3 (Nat.le_refl _)) .nil)))
    exact (t_nested hw (by decide +kernel) (by decide +kernel) (by decide +kernel) (by decide +kernel) (by decide +kernel) (by decide +kernel) (for_f hw (Nat.le_trans (le45 _) (Nat.le_add_right _ _)) hA hb.R0 (((run_R _ _).trans (run_R _ _)).trans ((run_R _ _).trans (run_R _ _))) hb.R0)).le (le20 e)
  | range x d e' b i1 i2 =>
    rintro ⟨_, h1, h2, h3, h4⟩
    refine .mk1 rfl rfl fun g s D hw e hb => ?_
    have hb0 := (Bd.p0 (Bd.d20 hb)).d1.d1.d1.d1
    have hb1 := hb0.run (t := e')
    have e9 := Nat.le_trans (Nat.le_add_right _ _) (le20 e)
    obtain ⟨ys, e1, hE⟩ := (i1 h2).f (isE_T h1) hw (Nat.le_max_left _ _) hb0
    cases d with
    | true =>
      obtain ⟨zs, e2, hB⟩ := (i2 h4).f (k := 0) (isE_T h3) hw (Nat.le_max_right (dep e') _) (Bd.tell (x := x) hb1)
      have := (t_nested hw (by decide +kernel) (by decide +kernel) (by decide +kernel) (by decide +kernel) (by decide +kernel) (by decide +kernel) (rangeT_f (x := x) hw (le45 _) hb.R0 hE hb1.R0 hb1.r0 hB ((run_R _ _).trans (run_R e' _)) hb.R0)).le e9
      rw [← e1, ← e2] at this
      exact this
    | false =>
      obtain ⟨zs, e2, hB⟩ := (i2 h4).f (k := 0) (isE_T h3) hw (Nat.le_max_right (dep e') _) (Bd.note (w := wF) (x := x) hb1)
      have := (t_nested hw (by decide +kernel) (by decide +kernel) (by decide +kernel) (by decide +kernel) (by decide +kernel) (by decide +kernel) (rangeF_f (x := x) hw (le45 _) hb.R0 hE ((t_name hw hb1.z).le (le60 _)) hB ((run_R _ _).trans (run_R e' _)) hb.R0)).le e9
      rw [← e1, ← e2] at this
      exact this
  | switch h v rows i1 i2 i3 =>
    rintro ⟨h1, h2, h3, h4, _, h5, h6, _⟩
    refine .mk1 rfl rfl fun g s D hw e hb => ?_
    have hb0 := (Bd.p0 hb).d1
    have hb1 := hb0.run (t := h)
    have hb2 := hb1.run
    have hA := (i1 h2).c' h1 hw x1 hb0.d1 ((i2 h4).c' (isE_T h3) hw x2 hb1.d1 .nil)
    have hB := (i3 h6).gr h5 g _ (60 + max (dep h) (max (dep v) (dep rows))) hw (Nat.add_le_add_left x3 60) (hb2.le (Nat.add_le_add_left x3 _) (Nat.le_refl _))
    exact (t_nested hw (by decide +kernel) (by decide +kernel) (by decide +kernel) (by decide +kernel) (by decide +kernel) (by decide +kernel) (cases_f hw (by decide +kernel) (by decide +kernel) (by decide +kernel) (by decide +kernel) (by decide +kernel) hb.R0 (switch_c hw (le45 _) hA hB) ((run_R _ _).trans ((run_R _ _).trans (run_R _ _))) hb.R0)).le (le10 e)
  | tswitch x e' ty b i1 i2 i3 =>
    rintro ⟨_, h1, h2, h3, h4, h5, h6, _⟩
    refine .mk1 rfl rfl fun g s D hw e hb => ?_
    have hb0 := (Bd.p0 hb).d1
    have hb1 := hb0.run (t := e')
    have hb2 := hb1.run
    obtain ⟨ys, e1, hE⟩ := (i1 h2).f (isE_T h1) hw x1 hb0.d1
    obtain ⟨zs, e2, hT⟩ := (i2 h4).f (isTy_T h3) hw x2 hb1.d1
    have hB := (i3 h6).li (k := 0) h5 hw x3 (Bd.push1 (x := x) hb2)
    have hR2 : ((run b ((run ty (run e' (s.push []))).push [x])).pop).R = s.row :: s.R := by
      rw [FS.pop_eq (s := s) (run_R _ _)]; exact (run_R _ _).trans (run_R _ _)
    have := (t_nested hw (by decide +kernel) (by decide +kernel) (by decide +kernel) (by decide +kernel) (by decide +kernel) (by decide +kernel) (cases_f hw (by decide +kernel) (by decide +kernel) (by decide +kernel) (by decide +kernel) (by decide +kernel) hb.R0 (tswitch_c (x := x) hw (le45 _) hE hT hb2.R0 hB (run_R _ _) hb2.R0) hR2 hb.R0)).le (le10 e)
    rw [← e1, ← e2] at this
    exact this
  | choose x e' other b1 b2 i1 i2 i3 i4 =>
    rintro ⟨_, h1, h2, h3, h4, h5, h6, _, h7, h8, _⟩
    refine .mk1 rfl rfl fun g s D hw e hb => ?_
    simp only [dep, wt] at e hb
    have hm : ∃ d, d = max (max (dep e') (dep other)) (max (dep b1) (dep b2)) := ⟨_, rfl⟩
    obtain ⟨d, hd⟩ := hm
    have d1 : dep e' ≤ d := by omega
    have d2 : dep other ≤ d := by omega
    have d3 : dep b1 ≤ d := by omega
    have d4 : dep b2 ≤ d := by omega
    rw [← hd] at e hb
    have hb0 : Bd (s.push []) (1 + d) (wt e' + (1 + (wt b1 + (wt e' + (wt other + wt b2))))) := Bd.push0 (hb.le (by omega) (by omega))
    have hb1 : Bd ((s.push []).push []) d (wt e' + (1 + (wt b1 + (wt e' + (wt other + wt b2))))) := hb0.push0
    have hb2 := hb1.run
    have hb3 := hb2.tell (x := x)
    have hb5 : Bd ((run b1 ((run e' ((s.push []).push [])).tell [x])).pop) (1 + d) (wt e' + (wt other + wt b2)) := (hb0.le (Nat.le_refl _) (by omega)).gw ((Gw.in (((run_gw e' _).trans .tell).trans (run_gw b1 _))))
    have hb6 := hb5.push0
    have hb7 := hb6.run
    have hb8 := hb7.run
    obtain ⟨ys, e1, hE⟩ := (i1 h2).e (isE_T h1) (g := g) (s := (s.push []).push []) (D := 60 + d) hw (by omega) (hb1.le d1 (by omega))
    obtain ⟨ys', e1', hE2⟩ := (i1 h2).e (isE_T h1) (g := g) (s := (run b1 ((run e' ((s.push []).push [])).tell [x])).pop.push []) (D := 60 + d) hw (by omega) (hb6.le d1 (by omega))
    obtain rfl : ys = ys' := V.tup.inj (e1.symm.trans e1')
    obtain ⟨zs, e2, hO⟩ := (i2 h4).e (isE_T h3) (g := g) (D := 60 + d) hw (by omega) (hb7.le d2 (by omega))
    have hB := (i3 h6).gl h5 g _ (60 + d) hw (by omega) (hb3.le d3 (by omega))
    have hB2 := (i4 h8).gl h7 g _ (60 + d) hw (by omega) (hb8.le d4 (Nat.le_refl _))
    have hR1 : (run b1 ((run e' ((s.push []).push [])).tell [x])).R = (s.push []).row :: (s.push []).R := (run_R _ _).trans (run_R e' _)
    have hP : ((run b1 ((run e' ((s.push []).push [])).tell [x])).pop).R = (s.push []).R := by rw [FS.pop_eq (s := s) hR1]
    have hR2 : (run b2 (run other (run e' ((run b1 ((run e' ((s.push []).push [])).tell [x])).pop.push [])))).R = ((run b1 ((run e' ((s.push []).push [])).tell [x])).pop).row :: ((run b1 ((run e' ((s.push []).push [])).tell [x])).pop).R := ((run_R _ _).trans (run_R _ _)).trans (run_R _ _)
    have hP2 : ((run b2 (run other (run e' ((run b1 ((run e' ((s.push []).push [])).tell [x])).pop.push [])))).pop).R = s.row :: s.R := by rw [FS.pop_eq (s := s) hR2]; exact hP
    have := (t_nested hw (by decide +kernel) (by decide +kernel) (by decide +kernel) (by decide +kernel) (by decide +kernel) (by decide +kernel) (choose_f hw hb.R0 (recv_c (x := x) hw (by omega) hb0.R0 hE hb2.R0 hb2.r0 hB hR1 hb0.R0) (send_c hw (by omega) hb5.R0 (.tree hE2 (.tree hO .nil)) hB2 hR2 hb5.R0) hP2 hb.R0)).le (D' := D) (by omega)
    rw [← e1, ← e2] at this
    exact this
end
noncomputable def tellsL : T → List Str
  | .cons t ts => tells t ++ tellsL ts
  | t => tells t
/-- what a piece of the finder's work does: what it tells in the row, what it notes -/
structure Rn (f : FS → FS) (ns : List Str) (us : List Str → List Use) : Prop where
  R : ∀ s, (f s).R = s.R
  row : ∀ s, (f s).row = s.row ++ ns
  m : ∀ s u, u ∈ (f s).log ↔ u ∈ s.log ∨ u ∈ us s.told
theorem Rn.told {f : FS → FS} {ns : List Str} {us : List Str → List Use} (h : Rn f ns us) (s : FS) : (f s).told = s.told ++ ns := by
  simp [FS.told, FS.rows, h.R, h.row]
theorem Rn.comp {f g : FS → FS} {ns ms : List Str} {us vs : List Str → List Use} (h : Rn f ns us) (k : Rn g ms vs) : Rn (fun s => g (f s)) (ns ++ ms) (fun told => us told ++ vs (told ++ ns)) :=
  ⟨fun s => (k.R _).trans (h.R s), fun s => by rw [k.row, h.row, List.append_assoc], fun s u => by rw [k.m, h.m, h.told, List.mem_append, or_assoc]⟩
theorem pop_log (s : FS) : s.pop.log = s.log := by
  unfold FS.pop; split <;> rfl
theorem Rn.in {f : FS → FS} {ns : List Str} {us : List Str → List Use} (r : List Str) (h : Rn f ns us) : Rn (fun s => (f (s.push r)).pop) [] (fun told => us (told ++ r)) := by
  have e : ∀ s : FS, (f (s.push r)).pop = ⟨s.row, s.R, (f (s.push r)).log⟩ := fun s => FS.pop_eq (s := s) (h.R _)
  refine ⟨fun s => ?_, fun s => ?_, fun s u => ?_⟩
  · rw [e]
  · rw [e]; simp
  · rw [e, show ((⟨s.row, s.R, (f (s.push r)).log⟩ : FS).log) = (f (s.push r)).log from rfl, h.m]
    have : (s.push r).told = s.told ++ r := by simp [FS.told, FS.rows, FS.push]
    rw [this]; rfl
theorem Rn.note (w x : Str) : Rn (FS.note w x) [] (use w x) := ⟨fun _ => rfl, fun s => by simp [FS.note], fun s u => by simp [FS.note]⟩
theorem Rn.tell (x : Str) : Rn (FS.tell [x]) [x] (fun _ => []) := ⟨fun _ => rfl, fun _ => rfl, fun s u => by simp [FS.tell]⟩
theorem Rn.id : Rn (fun s => s) [] (fun _ => []) := ⟨fun _ => rfl, fun s => by simp, fun s u => by simp⟩
theorem Rn.iff {f : FS → FS} {ns ns' : List Str} {us us' : List Str → List Use} (h : Rn f ns us) (e : ns = ns') (k : ∀ told u, u ∈ us told ↔ u ∈ us' told) : Rn f ns' us' := ⟨h.R, by subst e; exact h.row, fun s u => by rw [h.m, k]⟩
theorem isE_tells {t : T} (h : isE t = true) : tellsL t = [] := by cases t <;> first | (cases h; done) | rfl
theorem isTy_tells {t : T} (h : isTy t = true) : tellsL t = [] := by cases t <;> first | (cases h; done) | rfl
theorem isT_tells {t : T} (h : isT t = true) : tellsL t = tells t := by cases t <;> first | (cases h; done) | rfl
theorem run_rn : ∀ (t : T), Ok t → Rn (run t) (tellsL t) (uses t) := by
  intro t
  induction t with
  | none_ => intro _; exact .id
  | name x => intro _; exact .note wF x
  | plain x => intro _; exact .note wF x
  | pkg x => intro _; exact .note wA x
  | slice t i1 => rintro ⟨h1, h2⟩; exact (i1 h2).iff (isE_tells h1) fun _ _ => Iff.rfl
  | expr t i1 => rintro ⟨h1, h2⟩; exact (i1 h2).iff (isE_tells h1) fun _ _ => Iff.rfl
  | step t i1 => rintro ⟨h1, h2⟩; exact (i1 h2).iff (isE_tells h1) fun _ _ => Iff.rfl
  | select x => intro _; exact ((Rn.note wA x).comp (.note wF x)).iff rfl fun told u => by simp only [uses, List.append_nil, List.mem_append, or_comm]
  | binary x o i1 => rintro ⟨_, h1, h2⟩; exact ((Rn.note wF x).comp (i1 h2)).iff (isE_tells h1) fun told u => by simp only [uses, List.append_nil]
  | call x o i1 => rintro ⟨_, h1, h2⟩; exact ((Rn.note wF x).comp (i1 h2)).iff (isE_tells h1) fun told u => by simp only [uses, List.append_nil]
  | lit ty x i1 => rintro ⟨h1, h2, _⟩; exact ((i1 h2).comp (.note wF x)).iff (by rw [isTy_tells h1]; rfl) fun told u => by simp only [uses, isTy_tells h1, List.append_nil, List.mem_append, or_comm]
  | func ty x b i1 i2 => rintro ⟨h1, h2, _, h3, h4, _⟩; exact ((i1 h2).comp (Rn.in [x] (Rn.in [] (i2 h4)))).iff (by rw [isTy_tells h1]; rfl) fun told u => by simp only [uses, isTy_tells h1, List.append_nil]
  | define x e i1 => rintro ⟨_, h1, h2⟩; exact ((i1 h2).comp (.tell x)).iff (by rw [isE_tells h1]; rfl) fun told u => by simp only [uses, List.append_nil]
  | var x ty e i1 i2 => rintro ⟨_, h1, h2, h3, h4⟩; exact (((i1 h2).comp (i2 h4)).comp (.tell x)).iff (by rw [isTy_tells h1, isE_tells h3]; rfl) fun told u => by simp only [uses, isTy_tells h1, List.append_nil]
  | typedecl x ty i1 => rintro ⟨_, h1, h2⟩; exact ((Rn.tell x).comp (i1 h2)).iff (by rw [isTy_tells h1]; rfl) fun told u => by simp only [uses, List.nil_append]
  | block b i1 => rintro ⟨h1, h2, _⟩; exact (Rn.in [] (i1 h2)).iff rfl fun told u => by simp only [uses, List.append_nil]
  | ifs h t b o i1 i2 i3 i4 => rintro ⟨h1, h2, h3, h4, h5, h6, h7, h8⟩; exact (Rn.in [] ((((i1 h2).comp (i2 h4)).comp (i3 h6)).comp (i4 h8))).iff rfl fun told u => by simp only [uses, isT_tells h1, isE_tells h3, isE_tells h5, List.append_nil]
  | fors h t b i1 i2 i3 => rintro ⟨h1, h2, h3, h4, h5, h6⟩; exact (Rn.in [] ((((i1 h2).comp (i2 h4)).comp (i2 h4)).comp (i3 h6))).iff rfl fun told u => by simp only [uses, isT_tells h1, isE_tells h3, List.append_nil, List.mem_append, or_assoc, or_self_left]
  | range x d e b i1 i2 =>
    rintro ⟨_, h1, h2, h3, h4⟩
    cases d with
    | true => exact (Rn.in [] (((i1 h2).comp (.tell x)).comp (i2 h4))).iff rfl fun told u => by simp only [uses, isE_tells h1, List.append_nil, List.nil_append, if_true]
    | false => exact (Rn.in [] (((i1 h2).comp (.note wF x)).comp (i2 h4))).iff rfl fun told u => by simp only [uses, isE_tells h1, List.append_nil, List.nil_append, Bool.false_eq_true, if_false]
  | switch h v rows i1 i2 i3 => rintro ⟨h1, h2, h3, h4, h0, h5, h6, _⟩; exact (Rn.in [] (((i1 h2).comp (i2 h4)).comp (i3 h6))).iff rfl fun told u => by simp only [uses, isT_tells h1, isE_tells h3, List.append_nil, h0]
  | tswitch x e ty b i1 i2 i3 => rintro ⟨_, h1, h2, h3, h4, h5, h6, _⟩; exact (Rn.in [] (((i1 h2).comp (i2 h4)).comp (Rn.in [x] (i3 h6)))).iff rfl fun told u => by simp only [uses, isE_tells h1, isTy_tells h3, List.append_nil]
  | choose x e o b1 b2 i1 i2 i3 i4 => rintro ⟨_, h1, h2, h3, h4, h5, h6, _, h7, h8, _⟩; exact (Rn.in [] ((Rn.in [] (((i1 h2).comp (.tell x)).comp (i3 h6))).comp (Rn.in [] (((i1 h2).comp (i2 h4)).comp (i4 h8))))).iff rfl fun told u => by simp only [uses, isE_tells h1, isE_tells h3, List.append_nil, List.nil_append, List.append_assoc]
  | nil => intro _; exact .id
  | cons t ts i1 i2 => rintro ⟨h1, h2, h3, h4⟩; exact ((i1 h2).comp (i2 h4)).iff (by rw [isT_tells h1]; rfl) fun told u => by simp only [uses, isT_tells h1]
  | rnil => intro _; exact .id
  | rcons e b rs i1 i2 i3 => rintro ⟨h1, h2, h3, h4, _, h5, h6⟩; exact (((i1 h2).comp (Rn.in [] (i2 h4))).comp (i3 h6)).iff (by rw [isE_tells h1, show tellsL rs = [] from by cases rs <;> first | (cases h5; done) | rfl]; rfl) fun told u => by simp only [uses, isE_tells h1, List.append_nil]
noncomputable abbrev fkOf (k1 k2 k3 k4 k5 k6 k7 : Tok) (oa fa ba aa da : Addr) (ex0 : Led) : FK := ⟨k1, k2, k3, k4, k5, k6, k7, oa, fa, ba, aa, da, [], ex0⟩
theorem new_end {w : World} {h₀ h : Heap} {L : Addr} {m : Str → Option Value} {k1 k2 k3 k4 k5 k6 k7 : Tok} {oa fa aa ba da e x dx : Addr} {o0 o1 o2 o3 : Obj} {ex0 news nw : Led} {s : Shared} {tk : Nat} {Q : Value → Shared → Prop}
    (ret : ∀ (fk : FK) (sa dx e : Addr) (g : Led) h' tk', fk.dk = [] → fk.ex = ex0 → (fk.fa == sysModules) = false → (fk.aa == sysModules) = false → (fk.da == sysModules) = false → Fr h₀ L h' m → IF w fk sa dx ⟨[], [], []⟩ ((e, listOf #[] 0) :: news) g → News h₀ L h' (g ++ ((e, listOf #[] 0) :: news)) → (∀ p ∈ g, ∀ q ∈ (e, listOf #[] 0) :: news, p.1 ≠ q.1) → Q (.ref sa) { s with heap := h', toks := tk' })
    (F : Fr h₀ L h m)
    (N : News h₀ L h ((da, o0) :: (aa, o1) :: (ba, o2) :: (fa, o3) :: (oa, listOf #[Value.ref e] 0) :: (e, listOf #[] 0) :: (x, instObj 147 dx) :: (dx, finD w (fkOf k1 k2 k3 k4 k5 k6 k7 oa fa ba aa da ex0)) :: nw))
    (heq : nw = ex0 ++ news) (hdis : ∀ p ∈ ex0, ∀ q ∈ news, p.1 ≠ q.1) (hnl : ∀ p ∈ ex0, ∀ xs n, p.2 ≠ listOf xs n)
    (s0 : o0.IsDictOf (strKind PR w) []) (s1 : o1.IsDictOf (strKind PR w) []) (s2 : o2.IsDictOf (strKind PR w) []) (s3 : o3.IsDictOf (strKind PR w) []) (y0 : (da == sysModules) = false) (y1 : (aa == sysModules) = false) (y3 : (fa == sysModules) = false)
    (l0 : aa < da ∧ ba < da ∧ fa < da ∧ oa < da ∧ e < da ∧ x < da ∧ dx < da ∧ AllLt da nw) (l1 : ba < aa ∧ fa < aa ∧ oa < aa ∧ e < aa ∧ x < aa ∧ dx < aa ∧ AllLt aa nw) (l2 : fa < ba ∧ oa < ba ∧ e < ba ∧ x < ba ∧ dx < ba ∧ AllLt ba nw) (l3 : oa < fa ∧ e < fa ∧ x < fa ∧ dx < fa ∧ AllLt fa nw) (l4 : e < oa ∧ x < oa ∧ dx < oa ∧ AllLt oa nw) (l5 : x < e ∧ dx < e ∧ AllLt e nw) (l6 : dx < x) (l7 : ∀ p ∈ nw, p.1 < dx) : Q (.ref x) { s with heap := h, toks := tk } := by
  subst heq
  obtain ⟨a1, a2, a3, a4, a5, a6, a7, a8⟩ := l0
  obtain ⟨b1, b2, b3, b4, b5, b6, b7⟩ := l1
  obtain ⟨c1, c2, c3, c4, c5, c6⟩ := l2
  obtain ⟨d1, d2, d3, d4, d5⟩ := l3
  obtain ⟨e1, e2, e3, e4⟩ := l4
  obtain ⟨f1, f2, f3⟩ := l5
  have lt : ∀ {d : Addr}, AllLt d (ex0 ++ news) → ∀ q ∈ news, d ≠ q.1 := fun h q hq => Nat.ne_of_gt (ktn_ltOf h q (List.mem_append.mpr (.inr hq)))
  have lx : ∀ {d : Addr}, AllLt d (ex0 ++ news) → ∀ q ∈ ex0, q.1 ≠ d := fun h q hq => Nat.ne_of_lt (ktn_ltOf h q (List.mem_append.mpr (.inl hq)))
  have far : ∀ {d : Addr}, d ≠ e → (∀ q ∈ news, d ≠ q.1) → ∀ q ∈ (e, listOf #[] 0) :: news, d ≠ q.1 := by
    intro d h k q hq
    rcases List.mem_cons.mp hq with rfl | hq
    · exact h
    · exact k q hq
  have h7 : ∀ q ∈ news, dx ≠ q.1 := fun q hq => Nat.ne_of_gt (l7 q (List.mem_append.mpr (.inr hq)))
  have h8 : ∀ q ∈ news, x ≠ q.1 := fun q hq => Nat.ne_of_gt (Nat.lt_trans (l7 q (List.mem_append.mpr (.inr hq))) l6)
  have D : D4 (fkOf k1 k2 k3 k4 k5 k6 k7 oa fa ba aa da ex0) := ⟨Nat.ne_of_lt d1, Nat.ne_of_lt b3, Nat.ne_of_lt c2, Nat.ne_of_lt b2, Nat.ne_of_lt c1, Nat.ne_of_gt b1⟩
  refine ret (fkOf k1 k2 k3 k4 k5 k6 k7 oa fa ba aa da ex0) x dx e (cells (fkOf k1 k2 k3 k4 k5 k6 k7 oa fa ba aa da ex0) [.ref e] 0 o3 o1 o2 (tail3 w (fkOf k1 k2 k3 k4 k5 k6 k7 oa fa ba aa da ex0) x dx o0)) h tk rfl rfl y3 y1 y0 F (IF.mk (Fl := []) (Al := []) (Bl := []) D ?_ (.cons (.head _) .nil .nil) s3 s1 s2 ⟨s0, hnl⟩ ⟨by simp, Nat.le_refl _⟩ ⟨by simp, Nat.le_refl _⟩ (.inl rfl)) (News.subl N ?_) ?_
  · intro p hp
    simp only [tail3, List.mem_cons] at hp
    rcases hp with rfl | rfl | rfl | hp
    · exact ⟨Nat.ne_of_gt a4, Nat.ne_of_gt a3, Nat.ne_of_gt a1, Nat.ne_of_gt a2⟩
    · exact ⟨Nat.ne_of_lt e2, Nat.ne_of_lt d3, Nat.ne_of_lt b5, Nat.ne_of_lt c4⟩
    · exact ⟨Nat.ne_of_lt e3, Nat.ne_of_lt d4, Nat.ne_of_lt b6, Nat.ne_of_lt c5⟩
    · exact ⟨lx e4 p hp, lx d5 p hp, lx b7 p hp, lx c6 p hp⟩
  · intro p hp
    simp only [cells, tail3, List.mem_cons, List.cons_append, List.mem_append] at hp ⊢
    rcases hp with h | h | h | h | h | h | h | h | h | h <;> simp [h]
  · intro p hp
    simp only [cells, tail3, List.mem_cons] at hp
    rcases hp with rfl | rfl | rfl | rfl | rfl | rfl | rfl | hp
    · exact far (Nat.ne_of_gt e1) (lt e4)
    · exact far (Nat.ne_of_gt d2) (lt d5)
    · exact far (Nat.ne_of_gt b4) (lt b7)
    · exact far (Nat.ne_of_gt c3) (lt c6)
    · exact far (Nat.ne_of_gt a5) (lt a8)
    · exact far (Nat.ne_of_lt f1) h8
    · exact far (Nat.ne_of_lt f2) h7
    · intro q hq
      rcases List.mem_cons.mp hq with rfl | hq
      · exact lx f3 p hp
      · exact hdis p hp q hq
theorem new_c {w : World} {p : Program} {loose : List Str} {mean : ExcName → Option Value} {mg mb : Str → Option Value} : ∀ {ex0 news nw : Led}
    {dp un : Nat} {gd : Option (List Code)} {cn : Str} {cs : Scope} {a : Addr} {ccd : Value} {cl : List (Str × Addr)} {outer : List Env} {A₀ : Around} {base h₀ : Heap} {L : Addr} {m : Str → Option Value} {s : Shared} {Q E : Value → Shared → Prop},
    Below A₀ base outer h₀ → Fr h₀ L s.heap m → (hd.heap_39 w.params).In h₀ → News h₀ L s.heap nw → nw = ex0 ++ news → (∀ p ∈ ex0, ∀ q ∈ news, p.1 ≠ q.1) → (∀ p ∈ ex0, ∀ xs n, p.2 ≠ listOf xs n) → Top p loose mean mg mb h₀ → cs.kind = .function → dp + 20 < recursionLimit → un + 200 < cLine →
    (∀ (fk : FK) (sa dx e : Addr) (g : Led) h' tk', fk.dk = [] → fk.ex = ex0 → (fk.fa == sysModules) = false → (fk.aa == sysModules) = false → (fk.da == sysModules) = false → Fr h₀ L h' m → IF w fk sa dx ⟨[], [], []⟩ ((e, listOf #[] 0) :: news) g → News h₀ L h' (g ++ ((e, listOf #[] 0) :: news)) → (∀ p ∈ g, ∀ q ∈ (e, listOf #[] 0) :: news, p.1 ≠ q.1) → Q (.ref sa) { s with heap := h', toks := tk' }) →
    wpAny (model PySem.Challenge.rw_xm0172_01.row.prog w) (ktrTop dp un gd cn cs L a ccd cl outer) (call (.ref 147) [.ref 158]) Q E s := by
  k_fill
  intro ex0 news nw dp un gd cn cs a ccd cl outer A₀ base h₀ L m s Q E B F X N heq hdis hnl T0 hk hd hu ret
  refine' call_cls ?k1 ?k2 ?k3 ?k4 ?k5 ?k6 ?_
  case k1 => k_asm
  case k2 => k_asm
  case k3 => k_asm
  case k4 => k_is
  case k5 => k_is
  case k6 => k_is
  k_whole
  intro x' d' h' F' N' l1 l2
  (try k_lt l1); (try k_lt2 l2); (try k_sweep)
  refine' code_def ?k1 ?k2 ?k3 ?k4 ?k5 ?kA ?kF ?kK ?k6 ?k7 ?k8 ?k9 ?kB ?_ ?c2 ?c3 ?c4 ?c5; (case kA => exact rfl); (case kF => exact rfl); (case kK => first | exact rfl | assumption); (case k1 => k_asm); (case k2 => k_asm); (case k3 => k_asm); (case k4 => k_asm); (case k5 => k_asm); (case k6 => k_is); (case k7 => k_is); (case k8 => ktr_room); (case k9 => first | exact BindsTo.of_eq rfl | exact binds_K (by k_in) rfl (by k_is) rfl rfl rfl); (case c5 => decide); (case kB => exact locs rfl); (case c2 => exact rfl); (case c3 => exact rfl); (case c4 => exact rfl); k_whole; intro g' L' h' FG' F' N' B' X' T'; (try dsimp only); (try k_fold)
  k_steps
  refine' new_end ret ?F ?N ?q1 ?q2 ?q3 ?s0 ?s1 ?s2 ?s3 ?y0 ?y1 ?y3 ?l0 ?l1 ?l2 ?l3 ?l4 ?l5 ?l6 ?l7
  case F => k_asm
  case N => k_asm
  all_goals assumption
noncomputable abbrev sp0 : FS := ⟨[], [], []⟩
/-- the finder and its dicts, as a state -/
noncomputable def IS (w : World) (sa dx : Addr) (uv : Value) (UX : V) : II (FK × FS) := fun p imm g => IF w p.1 sa dx p.2 imm g ∧ Rep imm uv UX
instance (w : World) (sa dx : Addr) (uv : Value) (UX : V) : IMono (IS w sa dx uv UX) := ⟨fun {s imm imm' g} h k => ⟨IMono.mono (I := IF w s.1 sa dx) h.1 k, h.2.gr k⟩⟩
/-- before and after the finder is made -/
inductive I0 (w : World) (ex0 : Led) : II (Option (FK × Addr × Addr))
  | non {imm : Led} : I0 w ex0 Option.none imm ex0
  | mad {fk : FK} {sa dx : Addr} {imm g : Led} : IF w fk sa dx sp0 imm g → I0 w ex0 (Option.some (fk, sa, dx)) imm g
instance (w : World) (ex0 : Led) : IMono (I0 w ex0) := ⟨fun h k => by
  cases h with
  | non => exact .non
  | mad h => exact .mad (IMono.mono h k)⟩
theorem I0.inv {w : World} {ex0 : Led} {fk : FK} {sa dx : Addr} {imm g : Led} (h : I0 w ex0 (some (fk, sa, dx)) imm g) : IF w fk sa dx sp0 imm g := by
  cases h with
  | mad h => exact h
theorem lift_u {w : World} {fk : FK} {sa dx : Addr} {uv : Value} {UX : V} {c : Cx} {M : MV} {f : Value} {Xs : List V} {s : FS} {K : KV (FK × FS)} (h : CW (IF w fk sa dx) c M f Xs s fun Y s' => K Y (fk, s')) : CW (IS w sa dx uv UX) c M f Xs (fk, s) K :=
  ⟨fun hp imm m g gs dr tk os Q E vs hvs C kk => h.run hp imm m g gs dr tk os Q E vs hvs ⟨C.F, C.N, C.i.1, C.d, C.r⟩ fun v X s' imm' m' g' h' tk' hK hr hS C' => kk v X (fk, s') imm' m' g' h' tk' hK hr hS ⟨C'.F, C'.N, ⟨C'.i, C.i.2.mono hS⟩, C'.d, C'.r⟩⟩
structure NewF (ex0 : Led) (fk : FK) : Prop where
  dk : fk.dk = []
  ex : fk.ex = ex0
  f : (fk.fa == sysModules) = false
  a : (fk.aa == sysModules) = false
  d : (fk.da == sysModules) = false
theorem new_u {w : World} {ex0 : Led} {c : Cx} {M : MV} {K : KV (Option (FK × Addr × Addr))} (ok : c.Ok) (hw : c.g.w = w) (hr : Room c 40) (hnl : ∀ p ∈ ex0, ∀ xs n, p.2 ≠ listOf xs n) (k : ∀ fk sa dx, NewF ex0 fk → K (.raw (.ref sa)) (some (fk, sa, dx))) : CW (I0 w ex0) c M (.ref 147) [.raw (.ref 158)] none K := by
  subst hw
  refine ⟨fun h imm m g gs dr tk os Q E vs hvs C kk => ?_⟩
  cases hvs with
  | cons a1 hvs =>
    cases hvs
    cases a1.raw_inv
    have hi := C.i
    cases hi
    refine new_c ok.B C.F ok.X C.N rfl C.d hnl ok.T ok.hk (by have := hr.d; omega) (by have := hr.u; omega) fun fk sa dx e g' h' tk' h1 h2 h3 h4 h5 F' hI N' hd => ?_
    exact kk (.ref sa) (.raw (.ref sa)) (some (fk, sa, dx)) ((e, listOf #[] 0) :: imm) m g' h' tk' (k fk sa dx ⟨h1, h2, h3, h4, h5⟩) .raw (sub_cons sub_rfl) ⟨F', N', .mad hI, hd, fun x X e => let ⟨v, e1, e2⟩ := C.r x X e; ⟨v, e1, e2.mono (sub_cons sub_rfl)⟩⟩
noncomputable def NewK (ex0 : Led) (x : Str) (M : MV) : KS (Option (FK × Addr × Addr)) := fun f M' s' => (match f with | .next => True | .ret _ => False) ∧ ∃ fk sa dx, s' = some (fk, sa, dx) ∧ M' = updV M x (.raw (.ref sa)) ∧ NewF ex0 fk
/-- a body that makes a finder first and answers a truth value -/
theorem new_body {w : World} {c : Cx} {sc : Scope} {gl : List (Str × Value)} {st : Stmt} {body : List Stmt} {M : MV} {imm ex0 : Led} {h : Heap} {m : MM} {uv : Value} {UX : V} {x : Str} {b : Bool} {gs : Array GenState} {dr : Drawn} {tk : Nat} {os : OsState} {Q : Flow → Shared → Prop} {E : Value → Shared → Prop}
    (ok : c.Ok) (hw : c.g.w = w) (hsc : c.cs = sc) (hgl : GlOk c gl) (hdb : sc.names.lookup (Str.ofString "__debug__") = none) (C : Cf (I0 w ex0) c none M imm h m ex0) (hU : Rep imm uv UX) (vn : vS (I0 w ex0) sc gl c 30 st M none (NewK ex0 x M))
    (vc : ∀ fk sa dx, NewF ex0 fk → vB (vS (IS w sa dx uv UX) sc gl c 30) body (updV M x (.raw (.ref sa))) (fk, sp0) (endK fun Y _ => Y = .bool b)) (hE : PassesOwn (model PR c.g.w) c.A c.env E)
    (k : ∀ m2 news2 h2 tk2, Sub imm news2 → Fr c.h₀ c.L h2 m2 → News c.h₀ c.L h2 news2 → Q (.ret (.bool b)) ⟨h2, gs, dr, tk2, os⟩) : wpAny (model PR c.g.w) c.A (execs (st :: body) c.env) Q E ⟨h, gs, dr, tk, os⟩ := by
  refine wpAny_execs_cons (vS_ok ok hsc hgl hdb 30 st _ none _ vn h imm _ ex0 gs dr _ os _ _ hE C fun f f' M' s' imm' m' g1 h2 tk2 hn hRF hS C2 => ?_)
  obtain ⟨hf, fk, sa, dx, rfl, rfl, hN⟩ := hn
  cases hRF with
  | ret _ => exact hf.elim
  | next =>
    have C3 : Cf (IS w sa dx uv UX) c (fk, sp0) (updV M x (.raw (.ref sa))) imm' h2 m' g1 := ⟨C2.F, C2.N, ⟨C2.i.inv, hU.mono hS⟩, C2.d, C2.r⟩
    refine vB_ok (vS_ok ok hsc hgl hdb 30) body _ _ _ (vc fk sa dx hN) h2 imm' m' g1 gs dr _ os _ _ hE C3 fun f f' M' s' imm2 m2 g2 h3 tk3 hf hRF hS2 C4 => ?_
    cases hRF with
    | @ret v X hv =>
      have e : X = .bool b := hf
      subst e
      cases hv.bool_inv
      exact k m2 (g2 ++ imm2) h3 tk3 (fun p hp => List.mem_append.mpr (.inr (hS2 _ (hS _ hp)))) C4.F C4.N
    | next => exact absurd (show V.none = .bool b from hf) (by simp)
theorem str_lsort {prog : Program} {w : World} {A : Around} {E : Value → Shared → Prop} {s : Shared} {h₀ : Heap} {L D : Addr} {m : Str → Option Value} {rest : Led} {vs : List Value} {ss : List Str} {n : Nat} {Q : Value → Shared → Prop}
    (F : Fr h₀ L s.heap m) (N : News h₀ L s.heap ((D, listOf vs.toArray n) :: rest)) (lt : ∀ q ∈ rest, q.1 < D) (hS : StrsAre vs ss) (h64 : vs.length < 64)
    (h : ∀ vs' ss' c h', Fr h₀ L h' m → News h₀ L h' ((D, listOf (List.toArray vs') c) :: rest) → StrsAre vs' ss' → ss'.Perm ss → sortedS ss' = true → Q .none { s with heap := h' }) :
    wpAny (model prog w) A (call (.builtin "list.sort") [.ref D]) Q E s := by
  have z := N (D, listOf vs.toArray n) (.head _)
  have ho : s.heap.get? D = some (seqObj "list" vs.toArray n) := z.1
  refine wpAny_call_entry PyProof.Rows.slot_list_sort ⟨_, z.1, rfl⟩ PyProof.Rows.entry_list_sort (list_sort_treeK strKind_oneLt ho hS.keysOf (fun v₁ v₂ r e => keyKind_strs (by rw [← e]; exact hS)) h64 fun st' hp hs => ⟨.none, rfl, ?_⟩) (PyProof.Rows.args_list_sort _)
  obtain ⟨ss', h1, h2, h3⟩ := sorted_out_str hS hp hs
  obtain ⟨c, hc⟩ := sortedHeap_at (vs := vs) (out := (arrOf st').map (·.2)) ho
  have F4 : Fr h₀ L (sortedHeap s.heap D vs ((arrOf st').map (·.2))) m :=
    ksk_fr (((ksk_fr F (Heap.SameBut.update s.heap D (Obj.mapSeq fun _ => #[])) z.2.1 z.2.2).push (seqObj "tuple" vs.toArray 0)).push (seqObj "list" #[] 0)) (Heap.SameBut.update _ D (Obj.mapSeq fun _ => (arrOf st').map (·.2))) z.2.1 z.2.2
  refine h ((arrOf st').map (·.2)).toList ss' c _ F4 ?_ h1 h2 h3
  intro p hq
  rcases List.mem_cons.mp hq with rfl | hq
  · exact ⟨by rw [Array.toArray_toList]; exact hc, z.2⟩
  · have y := N p (.tail _ hq)
    exact ⟨(sortedHeap_old (Nat.ne_of_lt (lt p hq)) (Heap.lt_size y.1)).trans y.1, y.2⟩
theorem strs_of_keys {prog : Program} {w : World} : ∀ {ks : List Str} {vs : List Value}, vs.length = ks.length → (∀ (j : Nat) (v : Value), vs[j]? = some v → ∃ k x, (ks.map fun k => (k, Value.bool true))[j]? = some (k, x) ∧ (strKind prog w).is k v = true) → StrsAre vs ks
  | [], [], _, _ => .nil
  | [], _ :: _, e, _ => by simp at e
  | _ :: _, [], e, _ => by simp at e
  | k :: ks, v :: vs, e, h => by
    obtain ⟨k', x, h1, h2⟩ := h 0 v rfl
    simp only [List.map_cons, List.getElem?_cons_zero, Option.some.injEq, Prod.mk.injEq] at h1
    obtain ⟨rfl, _⟩ := h1
    obtain ⟨t, rfl⟩ := Value.isStrOf_shape h2
    exact .cons _ t (strs_of_keys (by simpa using e) fun j v hv => by
      have := h (j + 1) v (by simpa using hv)
      simpa using this)
theorem DK.nodup {prog : Program} {w : World} {o : Obj} {ks : List Str} (h : DK prog w o ks) : ks.Nodup := by
  obtain ⟨_, _, _, _, _, _, hn⟩ := h
  simpa [Function.comp_def] using hn
/-- sorted(d) of a dict whose keys are texts -/
theorem sort_dict {prog : Program} {w : World} {A : Around} {E : Value → Shared → Prop} {s : Shared} {h₀ : Heap} {L d : Addr} {m : Str → Option Value} {news : Led} {o : Obj} {ks : List Str} {Q : Value → Shared → Prop}
    (hh : A.handled = none) (F : Fr h₀ L s.heap m) (N : News h₀ L s.heap news) (hp : (d, o) ∈ news) (hd : DK prog w o ks) (lo : (d == sysModules) = false) (hn : ks.length < 64)
    (h : ∀ (D : Addr) h' tk vs ss n, Fr h₀ L h' m → News h₀ L h' ((D, listOf vs.toArray n) :: news) → (∀ p ∈ news, p.1 < D) → StrsAre vs ss → ss.Perm ks → sortedS ss = true → Q (.ref D) { s with heap := h', toks := tk }) :
    wpAny (model prog w) A (call (.builtin "sorted") [.ref d]) Q E s := by
  obtain ⟨ep, hat⟩ := (kda_dict N hp hd).dictAt
  refine kdu_sorted (kdl_dict (knd := strKind prog w) (kvs := ks.map fun k => (k, Value.bool true)) (ep := ep) lo) hh F N hat (by rw [List.length_map, sizeLine_eq]; omega) fun D h' tk vs F' N' l1 hl hv => ?_
  rw [List.length_map] at hl
  have hS : StrsAre vs ks := strs_of_keys hl hv
  exact str_lsort F' N' l1 hS (by omega) fun vs' ss' c h'' F'' N'' h1 h2 h3 => h D h'' tk vs' ss' c F'' N'' l1 h1 h2 h3
inductive UsesIn (l : Led) : List Value → List Use → Prop
  | nil : UsesIn l [] []
  | cons {a : Addr} {w x : Str} {t1 t2 : Tok} {vs : List Value} {us : List Use} : (a, tupO [.str w t1, .str x t2]) ∈ l → UsesIn l vs us → UsesIn l (.ref a :: vs) ((w, x) :: us)
theorem uses_of {l : Led} : ∀ {U : List Use} {vs : List Value}, Reps l vs (U.map useV) → UsesIn l vs U
  | [], _, h => by cases h; exact .nil
  | (a, b) :: U, _, h => by
    cases h with
    | cons h1 h2 =>
      obtain ⟨p, xs, rfl, hm, hq⟩ := h1.tup_inv
      cases hq with
      | cons b1 hq => cases hq with
        | cons b2 hq =>
          cases hq
          obtain ⟨t1, rfl⟩ := b1.str_inv
          obtain ⟨t2, rfl⟩ := b2.str_inv
          exact .cons hm (uses_of h2)
/-- (w, x) in a list of such pairs -/
theorem in_uses {prog : Program} {w : World} {A : Around} {E : Value → Shared → Prop} {s : Shared} {h₀ : Heap} {L ua p : Addr} {news big : Led} {us : List Value} {n : Nat} {U : List Use} {a b : Str} {t1 t2 : Tok} {Q : Value → Shared → Prop}
    (N : News h₀ L s.heap big) (hs : ∀ q ∈ news, q ∈ big) (hu : (ua, listOf us.toArray n) ∈ big) (hU : UsesIn news us U) (hp : (p, tupO [.str a t1, .str b t2]) ∈ big) (hc : A.units + 10 < cLine)
    (h : Q (.bool (U.any fun u => u.1 == a && u.2 == b)) s) : wpAny (model prog w) A (compareOp .In (.ref p) (.ref ua)) Q E s := by
  have main : ∀ {vs : List Value} {V : List Use}, UsesIn news vs V → ∃ e : Value → Bool, (∀ y, y ∈ vs.toArray → PySem.SeqAt.EqAt A.in1 s y (.ref p) (e y)) ∧ vs.toArray.any e = V.any fun u => u.1 == a && u.2 == b := by
    intro vs V k
    refine ⟨fun y => match y with | .ref q => (match s.heap.get? q with | some o => (match o.data with | .seq xs _ => (match xs.toList with | [.str a' _, .str b' _] => a' == a && b' == b | _ => false) | _ => false) | _ => false) | _ => false, ?_, ?_⟩
    · induction k with
      | nil => intro y hy; simp at hy
      | @cons q a' b' t3 t4 vs' us' hm _ ih =>
        intro y hy
        simp only [List.mem_toArray, List.mem_cons] at hy
        rcases hy with rfl | hy
        · have e1 := (N _ (hs _ hm)).1
          simp only at e1
          have e2 : s.heap.IsTuple q [Value.str a' t3, .str b' t4].toArray := ⟨_, e1, rfl, _, rfl⟩
          simp only [e1]
          by_cases hq : q = p
          · subst hq
            have e3 := (N _ hp).1
            simp only at e3
            rw [e1] at e3
            have e4 := Option.some.inj e3
            have e5 : [Value.str a' t3, .str b' t4] = [Value.str a t1, .str b t2] := by
              have := congrArg Obj.data e4
              simpa [tupO] using this
            simp only [List.cons.injEq, Value.str.injEq] at e5
            obtain ⟨⟨rfl, _⟩, ⟨rfl, _⟩, _⟩ := e5
            simpa using PySem.SeqAt.EqAt.same (A := A.in1) (s := s) (Value.ref q)
          · have e3 : s.heap.IsTuple p [Value.str a t1, .str b t2].toArray := ⟨_, (N _ hp).1, rfl, _, rfl⟩
            have := PySem.SeqAt.EqAt.of_refs hq (PySem.SeqAt.RcAt.tuples (A := A.in1) (e := fun j => if j = 0 then a' == a else b' == b) e2 e3 (by show A.units + 1 < cLine; omega) (by
              intro j h1 h2
              simp at h1 h2
              have hj : j = 0 ∨ j = 1 := by omega
              rcases hj with rfl | rfl
              · exact PySem.SeqAt.EqAt.str_str a' t3 a t1
              · exact PySem.SeqAt.EqAt.str_str b' t4 b t2))
            simpa [List.range_succ] using this
        · exact ih y (by simpa using hy)
    · rw [List.any_toArray]
      induction k with
      | nil => rfl
      | @cons q a' b' t3 t4 vs' us' hm _ ih =>
        have e1 := (N _ (hs _ hm)).1
        simp only at e1
        simp only [List.any_cons, e1, ih]
  obtain ⟨e, h1, h2⟩ := main hU
  exact PySem.SeqAt.in_listAt e ⟨_, (N _ hu).1, rfl, _, rfl⟩ h1 (by rw [h2]; exact h)
theorem strs_eqAt {A : Around} {s : Shared} {vs us : List Value} {ss : List Str} (k1 : StrsAre vs ss) : StrsAre us ss → ∀ (j : Nat) (h1 : j < vs.length) (h2 : j < us.length), PySem.SeqAt.EqAt A s vs[j] us[j] true := by
  induction k1 generalizing us with
  | nil => intro _ j h1; simp at h1
  | cons x t _ ih =>
    intro k2 j h1 h2
    cases k2 with
    | cons _ u k2 =>
      cases j with
      | zero => simpa using PySem.SeqAt.EqAt.str_str (A := A) (s := s) x t x u
      | succ j => exact ih k2 j (by simpa using h1) (by simpa using h2)
theorem all_true (n : Nat) : (List.range n).all (fun _ => true) = true := List.all_eq_true.mpr (fun _ _ => rfl)
/-- two equal lists of texts -/
theorem ne_strs {prog : Program} {w : World} {A : Around} {E : Value → Shared → Prop} {s : Shared} {h₀ : Heap} {L a b : Addr} {big : Led} {vs us : List Value} {n m : Nat} {ss : List Str} {Q : Value → Shared → Prop}
    (N : News h₀ L s.heap big) (ha : (a, listOf vs.toArray n) ∈ big) (hb : (b, listOf us.toArray m) ∈ big) (h1 : StrsAre vs ss) (h2 : StrsAre us ss) (hc : A.units + 10 < cLine) (h : Q (.bool false) s) : wpAny (model prog w) A (compareOp .NotEq (.ref a) (.ref b)) Q E s := by
  have l1 := StrsAre.len_eq h1
  have l2 := StrsAre.len_eq h2
  refine PySem.SeqAt.RcNeAt.lists (items := vs.toArray) (items2 := us.toArray) (e := fun _ => true) ⟨_, (N _ ha).1, rfl, _, rfl⟩ ⟨_, (N _ hb).1, rfl, _, rfl⟩ (by simp; omega) (by omega) ?_ prog w E Q (by rw [all_true]; exact h)
  intro j hj1 hj2
  simpa using strs_eqAt h1 h2 j (by simpa using hj1) (by simpa using hj2)
/-- the finder's rows against [[..]] -/
theorem eq_own {prog : Program} {w : World} {A : Around} {E : Value → Shared → Prop} {s : Shared} {h₀ : Heap} {L o b e : Addr} {big r : Led} {rs us : List Value} {n m k : Nat} {row : List Str} {rows : List (List Str)} {Q : Value → Shared → Prop}
    (N : News h₀ L s.heap big) (ho : (o, listOf rs.toArray n) ∈ big) (hR : RowsIn r rs rows) (hrw : rows = [row]) (hs : ∀ q ∈ r, q ∈ big) (hb : (b, listOf [Value.ref e].toArray m) ∈ big) (he : (e, listOf us.toArray k) ∈ big) (h2 : StrsAre us row) (hc : A.units + 10 < cLine) (h : Q (.bool true) s) : wpAny (model prog w) A (compareOp .Eq (.ref o) (.ref b)) Q E s := by
  subst hrw
  cases hR with
  | @cons a k' vs _ _ _ hm h1 h3 =>
    cases h3
    have l1 := StrsAre.len_eq h1
    have l2 := StrsAre.len_eq h2
    refine PySem.SeqAt.eq_listAt (items := [Value.ref a].toArray) (items2 := [Value.ref e].toArray) (e := fun _ => true) ⟨_, (N _ ho).1, rfl, _, rfl⟩ ⟨_, (N _ hb).1, rfl, _, rfl⟩ rfl (by omega) ?_ (by rw [all_true]; exact h)
    intro j hj1 hj2
    have hj : j = 0 := by simp at hj1; omega
    subst hj
    show PySem.SeqAt.EqAt A.in1 s (Value.ref a) (Value.ref e) true
    by_cases hae : a = e
    · subst hae
      exact PySem.SeqAt.EqAt.same _
    · refine PySem.SeqAt.EqAt.of_refs hae ?_
      have := PySem.SeqAt.RcAt.lists (A := A.in1) (s := s) (l := a) (b := e) (items := vs.toArray) (items2 := us.toArray) (e := fun _ => true) ⟨_, (N _ (hs _ hm)).1, rfl, _, rfl⟩ ⟨_, (N _ he).1, rfl, _, rfl⟩ (by simp; omega) (by show A.units + 1 < cLine; omega) (by
        intro j hj1 hj2
        simpa using strs_eqAt h1 h2 j (by simpa using hj1) (by simpa using hj2))
      rwa [all_true] at this
theorem strs_snoc {vs : List Value} {told : List Str} {x : Str} {t : Tok} (h : StrsAre vs told) : StrsAre (vs ++ [.str x t]) (told ++ [x]) := StrsAre.append' h (.cons _ _ .nil)
/-- what a test of a comprehension over a text leaves -/
noncomputable def TestEnd (h₀ : Heap) (L : Addr) (m : Str → Option Value) (s₁ : Shared) (I : Addr) (oI : Obj) (C : Addr) (oC : Obj) (D : Addr) (oD : Obj) (news : Led) (b ok : Bool) (s' : Shared) : Prop :=
  ok = b ∧ ∃ h' tk', s' = { s₁ with heap := h', toks := tk' } ∧ Fr h₀ L h' m ∧ News h₀ L h' ((I, oI) :: (C, oC) :: (D, oD) :: news)
theorem testEnd_of {h₀ : Heap} {L : Addr} {m : Str → Option Value} {s₁ : Shared} {I : Addr} {oI : Obj} {C : Addr} {oC : Obj} {D : Addr} {oD : Obj} {news big : Led} {b ok : Bool} {h' : Heap} {tk' : Nat} (F : Fr h₀ L h' m) (N : News h₀ L h' big) (hs : ∀ p ∈ (I, oI) :: (C, oC) :: (D, oD) :: news, p ∈ big) (e : ok = b) :
    TestEnd h₀ L m s₁ I oI C oC D oD news b ok { s₁ with heap := h', toks := tk' } := ⟨e, h', tk', rfl, F, News.subl N hs⟩
noncomputable def signs (z : Str) : List Str := z.cps.toList.map fun c => ⟨#[c]⟩
noncomputable def SrcStr (prog : Program) (w : World) (A : Around) (h₀ : Heap) (L : Addr) (m : Str → Option Value) (env : Env) (ct : Expr) (x : Str) (scope : Scope) (cl : List (Str × Addr)) (Q : Value → Shared → Prop) (xv : Value) (s₁ : Shared) : Prop :=
  ∃ (z : Str) (t : Tok) (news : Led) (q : Str → Bool), xv = .str z t ∧ A.handled = none ∧ Fr h₀ L s₁.heap m ∧ News h₀ L s₁.heap news ∧ z.cps.all (· < 128) = true ∧ z.cps.size ≤ 100 ∧
    (∀ c ∈ signs z, ∀ u ys I oI C oC D m₂ h tk (E' : Value → Shared → Prop), LCg.NsObj oC m₂ → m₂ x = some (.str c u) → Fr h₀ L h m → News h₀ L h ((I, oI) :: (C, oC) :: (D, LCg.lst ys) :: news) → LCg.Off3 I C D news → ((@Ne Nat I C) ∧ (@Ne Nat I D) ∧ (@Ne Nat C D)) →
      wpAny (model prog w) A (isTrue ct (compEnvC scope cl C env) (eval ct (compEnvC scope cl C env))) (TestEnd h₀ L m s₁ I oI C oC D (LCg.lst ys) news (q c)) E' { s₁ with heap := h, toks := tk }) ∧
    ∀ D h tk vs, Fr h₀ L h m → News h₀ L h ((D, listOf vs.toArray vs.length) :: news) → (∀ p ∈ news, p.1 ≠ D) → StrsAre vs ((signs z).filter q) → Q (.ref D) { s₁ with heap := h, toks := tk }
theorem comp_str {prog : Program} {w : World} {A : Around} {E : Value → Shared → Prop} {s : Shared} {h₀ : Heap} {L : Addr} {m : Str → Option Value} {env : Env} {ct iter : Expr} {x : Str} {px pe : Pos} {scope : Scope} {cl : List (Str × Addr)} {pos : Pos} {Q : Value → Shared → Prop} (F₀ : Fr h₀ L s.heap m)
    (hclos : closureFor scope env = pure cl) (hcell : ∀ y ∈ scope.names, y.2 ≠ .cell) (hkind : scope.kind = .function)
    (hnames : ∀ y ∈ scope.names, y.2 = .local → scope.names.lookup y.1 = some .local) (hx : scope.names.lookup x = some .local)
    (hk : ∀ C, (compEnvC scope cl C env).scope.kind = .function) (hl : ∀ C, (compEnvC scope cl C env).kindOf x = some .local) (hd : (x == ("__debug__" : Str)) = false)
    (h : wpAny (model prog w) A (eval iter env) (SrcStr prog w A h₀ L m env ct x scope cl Q) E s)
    (hs : ∀ x, foldedSetIterable iter env x = pure x := by intro _; rfl) :
    wpAny (model prog w) A (eval (.ListComp (.Name x pe) [⟨.Name x px, iter, [ct], 0⟩] scope pos) env) Q E s := by
  rw [eval_ListComp]
  refine wpAny_comprehension_free (use := none) rfl hs hclos hkind hnames (wpAny_mono h (fun xv s₁ h₁ => ?_) fun _ _ e => e)
  obtain ⟨z, t, news, q, rfl, hh, F, N, hz, hz2, turn, fin⟩ := h₁
  refine wpAny_pyIter_ascii hz ?_
  have up : ∀ b o, s₁.heap.get? b = some o → (s₁.heap.push { cls := .type "str_ascii_iterator", data := .fields #[.str z t, .int 0 0] }).get? b = some o := fun b o e => Heap.get?_push_of_some _ e
  refine LCt.block_T (S := fun _ => True) (Fin := fun ys nw => nw = news ∧ StrsAre ys ((signs z).filter q)) (Walks.strAscii hh s₁.heap.objs.size z t) (by rw [sizeLine_eq]; omega) (fun i h st => by obtain ⟨o, e, _⟩ := st; exact ⟨o, e⟩) ?_ hcell hkind hx ⟨_, Heap.get?_push_size _ rfl, rfl, rfl⟩ (fun b hb => ?_)
    (F.keeps up) (N.grown up) (Nat.ne_of_lt F.ns.lt) (next_is_new F) (fun p hp => Nat.ne_of_lt (Heap.lt_size (N p hp).1)) trivial ?_ ?_
  · rintro i h h' o nw ⟨o1, h1, h2, h3⟩ hI hI' _ _ _
    refine ⟨o1, ?_, h2, h3⟩
    rw [hI']; rw [hI] at h1; exact h1
  · rw [Heap.size_push, List.mem_singleton.mp hb]
    exact Nat.lt_succ_self _
  · have all : ∀ k i ys, i + k = z.cps.size → StrsAre ys (((signs z).take i).filter q) → LCt.CompRestT prog w A h₀ L m env ct (.Name x pe) x scope cl { s₁ with heap := s₁.heap.push { cls := .type "str_ascii_iterator", data := .fields #[.str z t, .int 0 0] } } (fun _ => True) (SignAt z) (fun ys nw => nw = news ∧ StrsAre ys ((signs z).filter q)) k i ys news := by
      intro k
      induction k with
      | zero =>
        intro i ys hi hy
        refine LCt.CompRestT.zero ⟨rfl, ?_⟩
        rwa [List.take_of_length_le (by simp [signs]; omega)] at hy
      | succ k ih =>
        intro i ys hi hy
        refine LCt.CompRestT.succ fun v I oI C oC D m₂ h tk E' hv hC hx' F' N' off ne => ?_
        obtain ⟨c, u, hc, rfl⟩ := hv
        have hi' : i < z.cps.size := by omega
        have hsg : (signs z)[i]? = some ⟨#[c]⟩ := by
          simp only [signs, List.getElem?_map, Array.getElem?_toList, hc, Option.map_some]
        have htk : (signs z).take (i + 1) = (signs z).take i ++ [⟨#[c]⟩] := by rw [List.take_add_one, hsg]; rfl
        refine wpAny_mono (turn ⟨#[c]⟩ (List.mem_of_getElem? hsg) u ys I oI C oC D m₂ h tk E' hC hx' F' N' off ne) (fun ok s' h' => ?_) fun _ _ e => e
        obtain ⟨rfl, h'', tk', rfl, F'', N''⟩ := h'
        cases hq : q ⟨#[c]⟩ with
        | true =>
          simp only [if_true]
          refine LCgL.ld_own N'' (.tail _ (.head _)) hC hx' ?_ (hk C) (hl C) hd
          refine ⟨h'', tk', news, rfl, F'', N'', off, trivial, ih (i + 1) _ (by omega) ?_⟩
          rw [htk, List.filter_append]
          simpa [hq] using strs_snoc hy
        | false =>
          simp only [Bool.false_eq_true, if_false]
          refine ⟨h'', tk', news, rfl, F'', N'', off, trivial, ih (i + 1) _ (by omega) ?_⟩
          rw [htk, List.filter_append]
          simpa [hq] using hy
    exact all z.cps.size 0 [] (by omega) .nil
  · rintro D C h tk m' ys news' F' N' o1 hn hC₀ hD₀ hCL hDL hCD offC ⟨rfl, hy⟩
    refine ⟨m', hn, fun h'' hs'' => fin D h'' tk ys (F'.change hs'' hCL hC₀) (fun p hp => ?_) ?_ hy⟩
    · refine ⟨hs''.extBut _ _ ?_ (N' p hp).1, (N' p hp).2⟩
      rcases List.mem_cons.mp hp with rfl | hp
      · exact Ne.symm hCD
      · exact offC p hp
    · exact off1_all o1
theorem hits_dk {A : Around} {s : Shared} {ks : List Str} (h : ks = [] ∨ ∃ x, ks = [x]) : KeqHits A s (ks.map fun k => (k, Value.bool true)) (ks.map fun k => (k, Value.bool true)) true := by
  rcases h with rfl | ⟨x, rfl⟩
  · exact .nil
  · exact KeqHits.hit (b := true) (by simp [valueAt]) (PySem.SeqAt.EqAt.bool_bool true true) .nil
theorem eq_dk {prog : Program} {w : World} {A : Around} {E : Value → Shared → Prop} {s : Shared} {h₀ : Heap} {L a b : Addr} {news : Led} {oa ob : Obj} {ks : List Str} {Q : Value → Shared → Prop} (N : News h₀ L s.heap news) (pa : (a, oa) ∈ news) (pb : (b, ob) ∈ news) (da : DK prog w oa ks) (db : DK prog w ob ks)
    (la : (a == sysModules) = false) (lb : (b == sysModules) = false) (hk : ks = [] ∨ ∃ x, ks = [x]) (hu : A.units < cLine) (h : Q (.bool true) s) : wpAny (model prog w) A (compareOp .Eq (.ref a) (.ref b)) Q E s :=
  keq_pairs (r := true) N pa pb da db la lb rfl hu (hits_dk hk) h
theorem ne_dk {prog : Program} {w : World} {A : Around} {E : Value → Shared → Prop} {s : Shared} {h₀ : Heap} {L a b : Addr} {news : Led} {oa ob : Obj} {ks : List Str} {Q : Value → Shared → Prop} (N : News h₀ L s.heap news) (pa : (a, oa) ∈ news) (pb : (b, ob) ∈ news) (da : DK prog w oa ks) (db : DK prog w ob ks)
    (la : (a == sysModules) = false) (lb : (b == sysModules) = false) (hk : ks = [] ∨ ∃ x, ks = [x]) (hu : A.units < cLine) (h : Q (.bool false) s) : wpAny (model prog w) A (compareOp .NotEq (.ref a) (.ref b)) Q E s :=
  kne_pairs (r := true) N pa pb da db la lb rfl hu (hits_dk hk) h
noncomputable abbrev abcd : List Str := [cN "a", cN "b", cN "c", cN "d"]
noncomputable def rk (x : Str) : Nat := if x = cN "a" then 0 else if x = cN "b" then 1 else if x = cN "c" then 2 else 3
theorem rk_lt : ∀ x ∈ abcd, ∀ y ∈ abcd, ltCps y.cps.toList x.cps.toList = false → rk x ≤ rk y := by decide
theorem rk_inj : ∀ x ∈ abcd, ∀ y ∈ abcd, rk x ≤ rk y → rk y ≤ rk x → x = y := by decide
theorem rk_all (q : Str → Bool) : (abcd.filter q).Pairwise (fun x y => rk x ≤ rk y) := by
  refine List.Pairwise.filter q ?_
  decide
theorem rising_rk : ∀ (l : List Str) (p : Str), p ∈ abcd → (∀ x ∈ l, x ∈ abcd) → risingS p l = true → (p :: l).Pairwise (fun x y => rk x ≤ rk y)
  | [], _, _, _, _ => List.pairwise_singleton _ _
  | x :: r, p, hp, hl, h => by
    have h' : (!ltCps x.cps.toList p.cps.toList && risingS x r) = true := h
    rw [Bool.and_eq_true, Bool.not_eq_true'] at h'
    have h1 := rk_lt p hp x (hl x (.head _)) h'.1
    have ih := rising_rk r x (hl x (.head _)) (fun y hy => hl y (.tail _ hy)) h'.2
    refine List.pairwise_cons.mpr ⟨fun y hy => ?_, ih⟩
    rcases List.mem_cons.mp hy with rfl | hy
    · exact h1
    · exact Nat.le_trans h1 ((List.pairwise_cons.mp ih).1 y hy)
theorem abcd_perm {ks : List Str} {q : Str → Bool} (hn : ks.Nodup) (hm : ∀ x ∈ ks, x ∈ abcd) (hk : ∀ x ∈ abcd, x ∈ ks ↔ q x = true) : ks.Perm (abcd.filter q) := by
  refine (List.perm_ext_iff_of_nodup hn (List.Pairwise.filter q (by decide : abcd.Nodup))).mpr fun x => ?_
  rw [List.mem_filter]
  exact ⟨fun h => ⟨hm x h, (hk x (hm x h)).mp h⟩, fun h => (hk x h.1).mpr h.2⟩
theorem abcd_len {ks : List Str} {q : Str → Bool} (hn : ks.Nodup) (hm : ∀ x ∈ ks, x ∈ abcd) (hk : ∀ x ∈ abcd, x ∈ ks ↔ q x = true) : ks.length ≤ 4 := by
  rw [(abcd_perm hn hm hk).length_eq]
  exact List.length_filter_le q abcd
theorem abcd_sorted {ks ss : List Str} {q : Str → Bool} (hn : ks.Nodup) (hm : ∀ x ∈ ks, x ∈ abcd) (hk : ∀ x ∈ abcd, x ∈ ks ↔ q x = true) (hp : ss.Perm ks) (hs : sortedS ss = true) : ss = abcd.filter q := by
  have hm2 : ∀ x ∈ ss, x ∈ abcd := fun x hx => hm x (hp.mem_iff.mp hx)
  have h1 : ss.Pairwise (fun x y => rk x ≤ rk y) := by
    cases ss with
    | nil => exact .nil
    | cons p l => exact rising_rk l p (hm2 p (.head _)) (fun x hx => hm2 x (.tail _ hx)) hs
  exact List.Perm.eq_of_pairwise (fun a b ha hb x y => rk_inj a (hm2 a ha) b (List.mem_filter.mp hb).1 x y) h1 (rk_all q) (hp.trans (abcd_perm hn hm hk))
noncomputable def inU (U : List Use) (a : Str) (x : Str) : Bool := U.any fun u => u.1 == a && u.2 == x
theorem inU_iff {U : List Use} {a x : Str} : inU U a x = true ↔ (a, x) ∈ U := by
  unfold inU
  rw [List.any_eq_true]
  constructor
  · rintro ⟨⟨u1, u2⟩, hu, h⟩
    simp only [Bool.and_eq_true, beq_iff_eq] at h
    obtain ⟨rfl, rfl⟩ := h
    exact hu
  · intro h
    exact ⟨_, h, by simp⟩
theorem menu_abcd : ∀ x ∈ menu, x ∉ [cN "p"] → x ∈ abcd := by decide
theorem sort_abcd {prog : Program} {w : World} {A : Around} {E : Value → Shared → Prop} {s : Shared} {h₀ : Heap} {L d : Addr} {m : Str → Option Value} {news : Led} {o : Obj} {ks : List Str} {q : Str → Bool} {Q : Value → Shared → Prop}
    (hh : A.handled = none) (F : Fr h₀ L s.heap m) (N : News h₀ L s.heap news) (hp : (d, o) ∈ news) (hd : DK prog w o ks) (lo : (d == sysModules) = false) (hk : (∀ x ∈ ks, x ∈ abcd) ∧ ∀ x ∈ abcd, x ∈ ks ↔ q x = true)
    (h : ∀ (D : Addr) h' tk vs n, Fr h₀ L h' m → News h₀ L h' ((D, listOf vs.toArray n) :: news) → (∀ p ∈ news, p.1 < D) → StrsAre vs (abcd.filter q) → Q (.ref D) { s with heap := h', toks := tk }) :
    wpAny (model prog w) A (call (.builtin "sorted") [.ref d]) Q E s :=
  sort_dict hh F N hp hd lo (Nat.lt_of_le_of_lt (abcd_len hd.nodup hk.1 hk.2) (by decide)) fun D h' tk vs ss n F' N' l1 hS hp' hs => h D h' tk vs n F' N' l1 (abcd_sorted hd.nodup hk.1 hk.2 hp' hs ▸ hS)
theorem signs_abcd : signs (cN "abcd") = abcd := by decide
theorem strs_reps {l : Led} : ∀ {vs : List Value} {ss : List Str}, StrsAre vs ss → Reps l vs (ss.map strV)
  | _, _, .nil => .nil
  | _, _, .cons _ _ h => .cons .str (strs_reps h)
/-- found or ahead -/
inductive Dc (fk : FK) : Addr → Str → Prop
  | f : Dc fk fk.fa wF
  | a : Dc fk fk.aa wA
theorem IF.dc {w : World} {fk : FK} {sa dx : Addr} {s : FS} {imm g : Led} {d : Addr} {v : Str} (h : IF w fk sa dx s imm g) (hd : Dc fk d v) : ∃ o ks, (d, o) ∈ g ∧ DK PR w o ks ∧ Keys s.log v ks := by
  cases h with
  | mk d4 ho hR hF hA hB hD kF kA kB =>
    cases hd with
    | f => exact ⟨_, _, .tail _ (.head _), hF, kF⟩
    | a => exact ⟨_, _, .tail _ (.tail _ (.head _)), hA, kA⟩
theorem IF.at {w : World} {fk : FK} {sa dx : Addr} {s : FS} {imm g : Led} (h : IF w fk sa dx s imm g) : (sa, instObj 147 dx) ∈ g ∧ (dx, finD w fk) ∈ g := by
  cases h with
  | mk d4 ho hR hF hA hB hD kF kA kB => exact ⟨by simp, by simp⟩
theorem neL_u {σ : Type} {I : II σ} {c : Cx} {M : MV} {s : σ} {K : KV σ} {ss : List Str} (ok : c.Ok) (k : K (.bool false) s) : QW I c M .NotEq (.list (ss.map strV)) (.list (ss.map strV)) s K := by
  refine ⟨fun h imm m g gs dr tk os Q E v u hv hu C kk => ?_⟩
  obtain ⟨a, xs, n, rfl, hm, hq⟩ := hv.list_inv
  obtain ⟨b, ys, n2, rfl, hm2, hq2⟩ := hu.list_inv
  exact ne_strs C.N (C.tup' hm) (C.tup' hm2) (reps_strs hq) (reps_strs hq2) (by have := ok.u; show c.un + 10 < _; omega) (kk _ s imm m g h tk k sub_rfl C)
/-- the truth of both -/
theorem and_u {σ : Type} {I : II σ} [IMono I] {c : Cx} {M : MV} {s : σ} {K : KV σ} {sc : Scope} {gl : List (Str × Value)} {a b : Expr} {p : Pos} (ok : c.Ok) (hcs : c.cs = sc) (hgl : GlOk c gl) (hdb : sc.names.lookup (Str.ofString "__debug__") = none)
    (h : vE I sc gl c M 40 false a s fun X s1 => X = .bool true ∧ vE I sc gl c M 40 false b s1 K) : EW I c M (.BoolOp .And [a, b] p) s K := by
  refine ⟨fun h0 imm m g gs dr tk os Q E C kk => ?_⟩
  refine BoolOp_and ((vE_ok ok hcs hgl hdb 40).1 a s _ h h0 imm m g gs dr tk os _ E C fun v X s1 imm1 m1 g1 h1 tk1 e1 hr1 hs1 C1 => ?_)
  obtain ⟨rfl, e2⟩ := e1
  cases hr1.bool_inv
  refine wpAny_truthy_bool ?_
  simp only [if_true]
  exact BoolOp_one ((vE_ok ok hcs hgl hdb 40).1 b s1 _ e2 h1 imm1 m1 g1 gs dr _ os _ E C1 fun v X s2 imm2 m2 g2 h2 tk2 hK hr2 hs2 C2 => kk v X s2 imm2 m2 g2 h2 tk2 hK hr2 (hs1.trans hs2) C2)
section
variable {w : World} {fk : FK} {sa dx : Addr} {uv : Value} {UX : V} {c : Cx} {M : MV} {K : KV (FK × FS)} {s : FS}
theorem attr_u {sc : Scope} {gl : List (Str × Value)} {x at' : Str} {xp ap : Pos} {v : Value} (ok : c.Ok) (hw : c.g.w = w) (hcs : c.cs = sc) (hgl : GlOk c gl) (hdb : sc.names.lookup (Str.ofString "__debug__") = none)
    (hO : vE (IS w sa dx uv UX) sc gl c M 40 false (.Name x xp) (fk, s) fun X s1 => X = .raw (.ref sa) ∧ s1 = (fk, s)) (hg : (plainGet c.K 147 at' && hasDictIn c.K 147 && findIn c.K (.ref 147) at' == some none) = true) (hl : ∀ w, lookIn at' (finD w fk) = some (some v)) (hv : handedIn v = true) (k : K (.raw v) (fk, s)) :
    EW (IS w sa dx uv UX) c M (.Attribute (.Name x xp) at' ap) (fk, s) K := by
  subst hw
  simp only [Bool.and_eq_true, beq_iff_eq] at hg
  refine ⟨fun h imm m g gs dr tk os Q E C kk => ?_⟩
  refine Attribute_Name_ ((vE_ok ok hcs hgl hdb 40).1 _ _ _ hO h imm m g gs dr tk os _ E C fun v' X s1 imm1 m1 g1 h1 tk1 e1 hr1 hs1 C1 => ?_) (by rfl)
  obtain ⟨rfl, rfl⟩ := e1
  cases hr1.raw_inv
  have hi : IF c.g.w fk sa dx s imm1 g1 := C1.i.1
  have I : InstAt h1 sa (instObj 147 dx) 147 (some (finD c.g.w fk)) := InstAt.of_news C1.N (List.mem_append.mpr (.inl hi.at.1)) (List.mem_append.mpr (.inl hi.at.2))
  exact get_own (attr := none) C1.F ok.X I hg.1.1 hg.1.2 hg.2 (by rfl) (by have := hl c.g.w; rw [lookIn_dict] at this; exact this) hv (kk v (.raw v) (fk, s) imm1 m1 g1 h1 _ k .raw hs1 C1)
theorem sorted_u {d : Addr} {v : Str} {q : Str → Bool} (hw : c.g.w = w) (hd : Dc fk d v) (lo : (d == sysModules) = false) (hq : ∀ x, (v, x) ∈ s.log ↔ x ∈ abcd ∧ q x = true) (k : K (.list ((abcd.filter q).map strV)) (fk, s)) : CW (IS w sa dx uv UX) c M (.builtin "sorted") [.raw (.ref d)] (fk, s) K := by
  subst hw
  refine ⟨fun h imm m g gs dr tk os Q E vs hvs C kk => ?_⟩
  cases hvs with
  | cons a1 hvs =>
    cases hvs
    cases a1.raw_inv
    have hi : IF c.g.w fk sa dx s imm g := C.i.1
    obtain ⟨o, ks, hm, hD, hK⟩ := hi.dc hd
    refine sort_abcd (q := q) rfl C.F C.N (List.mem_append.mpr (.inl hm)) hD lo ⟨fun x hx => ((hq x).mp ((hK.m x).mp hx)).1, fun x hx => (hK.m x).trans ((hq x).trans ⟨fun h => h.2, fun h => ⟨hx, h⟩⟩)⟩ fun D h' tk' vs' n F' N' l1 hS => ?_
    exact kk (.ref D) _ (fk, s) ((D, listOf vs'.toArray n) :: imm) m g h' tk' k (.of_list (.head _) (strs_reps hS)) (sub_cons sub_rfl) (C.new F' N' l1)
theorem ownE_u {row : List Str} (ok : c.Ok) (hr : s.rows = [row]) (k : K (.bool true) (fk, s)) : QW (IS w sa dx uv UX) c M .Eq (.raw (.ref fk.oa)) (.list [.list (row.map strV)]) (fk, s) K := by
  refine ⟨fun h imm m g gs dr tk os Q E v u hv hu C kk => ?_⟩
  cases hv.raw_inv
  obtain ⟨b, xs, n, rfl, hm, hq⟩ := hu.list_inv
  cases hq with
  | cons q1 hq =>
    cases hq
    obtain ⟨e, ys, n2, rfl, hm2, hq2⟩ := q1.list_inv
    have hi : IF w fk sa dx s imm g := C.i.1
    cases hi with
    | mk d4 ho hR hF hA hB hD kF kA kB =>
      exact eq_own C.N (List.mem_append.mpr (.inl (.head _))) hR hr (fun p hp => List.mem_append.mpr (.inr hp)) (C.tup' hm) (C.tup' hm2) (reps_strs hq2) (by have := ok.u; show c.un + 10 < _; omega) (kk _ (fk, s) imm m _ h tk k sub_rfl C)
end
theorem UsesIn.mono2 {l l' : Led} {vs : List Value} {us : List Use} (h : UsesIn l vs us) (hs : ∀ p ∈ l, p ∈ l') : UsesIn l' vs us := by
  induction h with
  | nil => exact .nil
  | cons h _ ih => exact .cons (hs _ h) ih
theorem in_usesI {prog : Program} {w : World} {A : Around} {E : Value → Shared → Prop} {s : Shared} {h₀ : Heap} {L ua p : Addr} {news big : Led} {us : List Value} {n : Nat} {U : List Use} {a b : Str} {t1 t2 : Tok} {Q : Value → Shared → Prop}
    (N : News h₀ L s.heap big) (hu : (ua, listOf us.toArray n) ∈ big) (hU : UsesIn news us U) (hs : ∀ q ∈ news, q ∈ big) (hp : (p, tupO [.str a t1, .str b t2]) ∈ big) (hc : A.units + 10 < cLine)
    (h : Q (.bool (inU U a b)) s) : wpAny (model prog w) A (compareOp .In (.ref p) (.ref ua)) Q E s := in_uses N hs hu hU hp hc h
noncomputable abbrev scU : Scope := { kind := .function, names := [(Str.ofString ".0", .local), (Str.ofString "name", .local), (Str.ofString "uses", .free)], isGenerator := false, isCoroutine := false, more := [] }
section
variable {w : World} {fk : FK} {sa dx : Addr} {uv : Value} {c : Cx} {M : MV} {K : KV (FK × FS)} {s : FS}
theorem compS_u {U : List Use} {a : Str} {ca : Addr} {o : Obj} {pe px pc p2 p3 p4 p5 p6 pos : Pos} {k1 k2 k4 : Nat} (ok : c.Ok) (hw : c.g.w = w) (hex : (ca, o) ∈ fk.ex) (ho : o.data = .cell (some uv)) (hclos : closureFor scU c.env = pure [(Str.ofString "uses", ca)]) (hkc : ∀ C, (compEnvC scU [(Str.ofString "uses", ca)] C c.env).kindOf (Str.ofString "uses") = some .cell)
    (k : K (.list ((abcd.filter (inU U a)).map strV)) (fk, s)) :
    EW (IS w sa dx uv (.list (U.map useV))) c M (.ListComp (.Name (Str.ofString "name") pe) [⟨.Name (Str.ofString "name") px, .Constant (.str (Str.ofString "abcd")) k1 pc, [.Compare (.Tuple [.Constant (.str a) k2 p2, .Name (Str.ofString "name") p3] k4 p4) [.In] [.Name (Str.ofString "uses") p5] p6], 0⟩] scU pos) (fk, s) K := by
  subst hw
  refine ⟨fun h imm m g gs dr tk os Q E C kk => ?_⟩
  have hi : IF c.g.w fk sa dx s imm g := C.i.1
  have hcm : (ca, o) ∈ g := by
    cases hi with
    | mk d4 ho hR hF hA hB hD kF kA kB => exact .tail _ (.tail _ (.tail _ (.tail _ (.tail _ (.tail _ (.tail _ hex))))))
  obtain ⟨ua, us, n, rfl, hm, hq⟩ := C.i.2.list_inv
  have hU := uses_of hq
  refine comp_str (F₀ := C.F) (cl := [(Str.ofString "uses", ca)]) hclos (by decide) (by rfl) (by decide) (by rfl) (fun _ => rfl) (fun _ => rfl) (by decide) ?_
  refine Constant_str ?_
  refine ⟨cN "abcd", _, g ++ imm, inU U a, rfl, rfl, C.F, C.N, by decide +kernel, by decide +kernel, ?_, ?_⟩
  · intro x hx u ys I' oI C' oC D m₂ h' tk' E' hC hx' F' N' off ne
    have hm1 := C.tup' hm
    have hm2 : (ca, o) ∈ g ++ imm := List.mem_append.mpr (.inl hcm)
    have T0 := ok.T
    have X := ok.X
    have B := ok.B
    have hcu : c.A.units + 10 < cLine := by have := ok.u; show c.un + 10 < _; omega
    obtain ⟨gi, hgi⟩ : ∃ gi, gi = g ++ imm := ⟨_, rfl⟩
    have hUg : UsesIn gi us U := by subst hgi; exact hU.mono2 fun p hp => List.mem_append.mpr (.inr hp)
    rw [← hgi] at N' hm1 hm2 ⊢
    clear hU hgi
    refine wpAny_isTrue_Compare1 ?_ (by rfl)
    refine Tuple_ (args_cons (Constant_str (args_cons (LCgL.ld_own N' (.tail _ (.head _)) hC hx' (args_nil ?_)))))
    refine kup_newTuple F' N' (fun T' h2 F2 N2 l2 => ?_) (by rw [sizeLine_eq]; simp)
    refine lcf_cell N2 (c := ca) (o := o) rfl (.tail _ (.tail _ (.tail _ (.tail _ hm2)))) ho ?_ (by rfl) (hkc _)
    refine in_usesI N2 (.tail _ (.tail _ (.tail _ (.tail _ hm1)))) hUg (fun p hp => .tail _ (.tail _ (.tail _ (.tail _ hp)))) (.head _) hcu ?_
    refine wpAny_truthy_bool ?_
    exact testEnd_of F2 N2 (fun p hp => .tail _ hp) rfl
  · intro D h' tk' vs F' N' off hS
    refine kk (.ref D) _ (fk, s) ((D, listOf vs.toArray vs.length) :: imm) m g h' tk' k (.of_list (.head _) (strs_reps (signs_abcd ▸ hS))) (sub_cons sub_rfl) ⟨F', News.subl N' fun p hp => ?_, IMono.mono C.i (gr_of fun _ hp => .tail _ hp), fun p hp q hq => ?_, fun y Y e => let ⟨v, e1, e2⟩ := C.r y Y e; ⟨v, e1, e2.mono (sub_cons sub_rfl)⟩⟩
    · rcases List.mem_append.mp hp with hp | hp
      · exact .tail _ (List.mem_append.mpr (.inl hp))
      · rcases List.mem_cons.mp hp with rfl | hp
        · exact .head _
        · exact .tail _ (List.mem_append.mpr (.inr hp))
    · rcases List.mem_cons.mp hq with rfl | hq
      · exact off p (List.mem_append.mpr (.inl hp))
      · exact C.d p hp q hq
end
section
variable {w : World} {fk : FK} {sa dx : Addr} {uv : Value} {UX : V} {c : Cx} {M : MV} {K : KV (FK × FS)} {s : FS}
noncomputable abbrev FK.add (fk : FK) (d : Addr) (o : Obj) : FK := { fk with ex := (d, o) :: fk.ex }
theorem dk_nl2 {w : World} {o : Obj} {ks : List Str} (h : DK PR w o ks) (xs : Array Value) (n : Nat) : o ≠ listOf xs n := fun e => dk_nl h e
/-- one more dict at hand -/
theorem IF.add {imm g : Led} {d : Addr} {o : Obj} (h : IF w fk sa dx s imm g) (l : ∀ p ∈ g ++ imm, p.1 < d) (hn : ∀ xs n, o ≠ listOf xs n) : ∃ g', IF w (fk.add d o) sa dx s imm g' ∧ (∀ p ∈ g', p = (d, o) ∨ p ∈ g) := by
  cases h with
  | @mk _ _ rs n oF oA oB oD Fl Al Bl d4 ho hR hF hA hB hD kF kA kB =>
    have lt : ∀ p ∈ cells fk rs n oF oA oB (tail3 w fk sa dx oD), d ≠ p.1 := fun p hp => Nat.ne_of_gt (l p (List.mem_append.mpr (.inl hp)))
    have hw : finD w (fk.add d o) = finD w fk := rfl
    refine ⟨cells (fk.add d o) rs n oF oA oB (tail3 w (fk.add d o) sa dx oD), .mk (c := fk.add d o) ⟨d4.of, d4.oa, d4.ob, d4.fa, d4.fb, d4.ab⟩ ?_ hR hF hA hB ⟨hD.d, ?_⟩ kF kA kB, ?_⟩
    · intro p hp
      simp only [tail3, List.mem_cons] at hp
      rcases hp with rfl | rfl | rfl | rfl | hp
      · exact ho _ (.head _)
      · exact ho _ (.tail _ (.head _))
      · exact ho _ (.tail _ (.tail _ (.head _)))
      · exact ⟨lt (fk.oa, _) (.head _), lt (fk.fa, _) (.tail _ (.head _)), lt (fk.aa, _) (.tail _ (.tail _ (.head _))), lt (fk.ba, _) (.tail _ (.tail _ (.tail _ (.head _))))⟩
      · exact ho _ (.tail _ (.tail _ (.tail _ hp)))
    · intro p hp
      rcases List.mem_cons.mp hp with rfl | hp
      · exact hn
      · exact hD.x p hp
    · intro p hp
      simp only [cells, tail3, List.mem_cons] at hp ⊢
      rcases hp with h | h | h | h | h | h | h | h | h <;> simp [h]
/-- a new dict is laid by -/
theorem Cf.add {imm g : Led} {h h' : Heap} {m : MM} {d : Addr} {o : Obj} (C : Cf (IS w sa dx uv UX) c (fk, s) M imm h m g) (F : Fr c.h₀ c.L h' m) (N : News c.h₀ c.L h' ((d, o) :: (g ++ imm))) (l : ∀ p ∈ g ++ imm, p.1 < d) (hn : ∀ xs n, o ≠ listOf xs n) : ∃ g', Cf (IS w sa dx uv UX) c (fk.add d o, s) M imm h' m g' := by
  have hi : IF w fk sa dx s imm g := C.i.1
  obtain ⟨g', h1, h2⟩ := hi.add l hn
  refine ⟨g', F, News.subl N fun p hp => ?_, ⟨h1, C.i.2⟩, fun p hp q hq => ?_, C.r⟩
  · rcases List.mem_append.mp hp with hp | hp
    · rcases h2 p hp with rfl | hp
      · exact .head _
      · exact .tail _ (List.mem_append.mpr (.inl hp))
    · exact .tail _ (List.mem_append.mpr (.inr hp))
  · rcases h2 p hp with rfl | hp
    · exact Nat.ne_of_gt (l q (List.mem_append.mpr (.inr hq)))
    · exact C.d p hp q hq
theorem dict0_u {p : Pos} (ok : c.Ok) (hw : c.g.w = w) (k : ∀ d o, DK PR w o [] → (d == sysModules) = false → K (.raw (.ref d)) (fk.add d o, s)) : EW (IS w sa dx uv UX) c M (.Dict [] [] p) (fk, s) K := by
  subst hw
  refine ⟨fun h imm m g gs dr tk os Q E C kk => ?_⟩
  refine newDict_K C.F C.N (topRead_of ok.T).nolimit fun d h' o F' N' l lo hs _ _ _ => ?_
  have hD : DK PR c.g.w o [] := hs
  obtain ⟨g', C'⟩ := C.add F' N' l (dk_nl2 hD)
  exact kk (.ref d) _ _ imm m g' h' tk (k d o hD lo) .raw sub_rfl C'
theorem dict1_u {x y : Str} {xp vp p : Pos} {k1 : Nat} (ok : c.Ok) (hw : c.g.w = w) (hM : M x = some (.str y)) (hx : c.cs.names.lookup x = some .local) (hd : (x == Str.ofString "__debug__") = false) (k : ∀ d o, DK PR w o [y] → (d == sysModules) = false → K (.raw (.ref d)) (fk.add d o, s)) :
    EW (IS w sa dx uv UX) c M (.Dict [some (.Name x xp)] [.Constant (.bool true) k1 vp] p) (fk, s) K := by
  subst hw
  refine ⟨fun h imm m g gs dr tk os Q E C kk => ?_⟩
  obtain ⟨v, hv1, hv2⟩ := C.r x _ hM
  obtain ⟨t, rfl⟩ := hv2.str_inv
  refine kdn_eval (knd := PySem.strKind _ _) C.F C.N (topRead_of ok.T).nolimit rfl rfl (List.cons_ne_nil _ _) (Nat.le_of_ble_eq_true rfl) fun d h' o F' N' l lo hs => ?_
  refine PySem.evalPairs_cons (nameX_L F' hv1 (wpAny_bind (wpAny_Constant_bool (wpAny_bind (wpAny_standAt (wpAny_pure (PySem.evalPairs_nil ?_)))))) ok.hk hx hd)
  refine kdn_made_str F' N' (.head fun p hp => Nat.ne_of_lt (l p hp)) hs rfl (List.pairwise_singleton _ _) fun h2 o' F2 N2 hs2 => ?_
  have hD : DK PR c.g.w o' [y] := hs2
  obtain ⟨g', C'⟩ := C.add F2 N2 l (dk_nl2 hD)
  exact kk (.ref d) _ _ imm m g' h2 _ (k d o' hD lo) .raw sub_rfl C'
theorem nodup_le1 {l G : List Str} (hn : l.Nodup) (hG : G = [] ∨ ∃ y, G = [y]) (h : ∀ z, z ∈ l ↔ z ∈ G) : l = G := by
  rcases hG with rfl | ⟨y, rfl⟩
  · exact List.eq_nil_iff_forall_not_mem.mpr fun z hz => by simpa using (h z).mp hz
  · have := (List.perm_ext_iff_of_nodup hn (List.pairwise_singleton _ y)).mpr h
    exact List.perm_singleton.mp this
/-- the keys of one of the finder's dicts -/
inductive Dd (fk : FK) (s : FS) : Addr → List Str → Prop
  | c {d : Addr} {v : Str} {G : List Str} : Dc fk d v → (∀ z, (v, z) ∈ s.log ↔ z ∈ G) → Dd fk s d G
  | d {G : List Str} : fk.dk = G → Dd fk s fk.da G
theorem IF.dd {imm g : Led} {a : Addr} {G : List Str} (h : IF w fk sa dx s imm g) (k : Dd fk s a G) (hG : G = [] ∨ ∃ y, G = [y]) : ∃ o, (a, o) ∈ g ∧ DK PR w o G := by
  cases k with
  | c hc hm =>
    obtain ⟨o, ks, h1, h2, h3⟩ := h.dc hc
    have e : ks = G := nodup_le1 h2.nodup hG fun z => (h3.m z).trans (hm z)
    exact ⟨o, h1, e ▸ h2⟩
  | d e =>
    subst e
    cases h with
    | mk d4 ho hR hF hA hB hD kF kA kB => exact ⟨_, .tail _ (.tail _ (.tail _ (.tail _ (.head _)))), hD.d⟩
theorem IF.exm {imm g : Led} {p : Addr × Obj} (h : IF w fk sa dx s imm g) (hp : p ∈ fk.ex) : p ∈ g := by
  cases h with
  | mk d4 ho hR hF hA hB hD kF kA kB => exact .tail _ (.tail _ (.tail _ (.tail _ (.tail _ (.tail _ (.tail _ hp))))))
theorem eqD_u {a d : Addr} {o : Obj} {G : List Str} (ok : c.Ok) (hw : c.g.w = w) (ha : Dd fk s a G) (hG : G = [] ∨ ∃ y, G = [y]) (hd : (d, o) ∈ fk.ex) (hD : DK PR w o G) (la : (a == sysModules) = false) (ld : (d == sysModules) = false) (k : K (.bool true) (fk, s)) : QW (IS w sa dx uv UX) c M .Eq (.raw (.ref a)) (.raw (.ref d)) (fk, s) K := by
  subst hw
  refine ⟨fun h imm m g gs dr tk os Q E v u hv hu C kk => ?_⟩
  cases hv.raw_inv
  cases hu.raw_inv
  have hi : IF c.g.w fk sa dx s imm g := C.i.1
  obtain ⟨oa, h1, h2⟩ := hi.dd ha hG
  exact eq_dk C.N (List.mem_append.mpr (.inl h1)) (List.mem_append.mpr (.inl (hi.exm hd))) h2 hD la ld hG (by have := ok.u; show c.un < _; omega) (kk _ (fk, s) imm m g h tk k sub_rfl C)
theorem neD_u {a d : Addr} {o : Obj} {G : List Str} (ok : c.Ok) (hw : c.g.w = w) (ha : Dd fk s a G) (hG : G = [] ∨ ∃ y, G = [y]) (hd : (d, o) ∈ fk.ex) (hD : DK PR w o G) (la : (a == sysModules) = false) (ld : (d == sysModules) = false) (k : K (.bool false) (fk, s)) : QW (IS w sa dx uv UX) c M .NotEq (.raw (.ref a)) (.raw (.ref d)) (fk, s) K := by
  subst hw
  refine ⟨fun h imm m g gs dr tk os Q E v u hv hu C kk => ?_⟩
  cases hv.raw_inv
  cases hu.raw_inv
  have hi : IF c.g.w fk sa dx s imm g := C.i.1
  obtain ⟨oa, h1, h2⟩ := hi.dd ha hG
  exact ne_dk C.N (List.mem_append.mpr (.inl h1)) (List.mem_append.mpr (.inl (hi.exm hd))) h2 hD la ld hG (by have := ok.u; show c.un < _; omega) (kk _ (fk, s) imm m g h tk k sub_rfl C)
end
theorem use_ok {w x : Str} {told : List Str} {u : Use} (hx : x ∈ menu) (h : u ∈ use w x told) : u.2 ∈ menu ∧ u.2 ∉ told := by
  unfold use at h
  split at h
  · cases h
  · rename_i hn
    have e := List.mem_singleton.mp h
    subst e
    refine ⟨hx, fun hm => hn ?_⟩
    exact List.any_eq_true.mpr ⟨x, hm, by simp⟩
theorem ok_snoc {u : Use} {told ns : List Str} (h : u.2 ∈ menu ∧ u.2 ∉ told ++ ns) : u.2 ∈ menu ∧ u.2 ∉ told := ⟨h.1, fun hm => h.2 (List.mem_append.mpr (.inl hm))⟩
theorem uses_ok : ∀ (t : T), Ok t → ∀ (told : List Str) (u : Use), u ∈ uses t told → u.2 ∈ menu ∧ u.2 ∉ told := by
  intro t
  induction t with
  | none_ => intro _ told u h; cases h
  | name x => intro o told u h; exact use_ok o h
  | plain x => intro o told u h; exact use_ok o h
  | pkg x => intro o told u h; exact use_ok o h
  | slice t ih => intro o told u h; exact ih o.2 told u h
  | select x => intro o told u h; rcases List.mem_append.mp h with h | h <;> exact use_ok o h
  | binary x e ih => intro o told u h; rcases List.mem_append.mp h with h | h; exact use_ok o.1 h; exact ih o.2.2 told u h
  | call x e ih => intro o told u h; rcases List.mem_append.mp h with h | h; exact use_ok o.1 h; exact ih o.2.2 told u h
  | lit ty x ih => intro o told u h; rcases List.mem_append.mp h with h | h; exact use_ok o.2.2 h; exact ih o.2.1 told u h
  | func ty x b i1 i2 => intro o told u h; rcases List.mem_append.mp h with h | h; exact i1 o.2.1 told u h; exact ok_snoc (i2 o.2.2.2.2.1 _ u h)
  | expr e ih => intro o told u h; exact ih o.2 told u h
  | step e ih => intro o told u h; exact ih o.2 told u h
  | define x e ih => intro o told u h; exact ih o.2.2 told u h
  | var x ty e i1 i2 => intro o told u h; rcases List.mem_append.mp h with h | h; exact i1 o.2.2.1 told u h; exact i2 o.2.2.2.2 told u h
  | typedecl x ty ih => intro o told u h; exact ok_snoc (ih o.2.2 _ u h)
  | block b ih => intro o told u h; exact ih o.2.1 told u h
  | ifs a b c d i1 i2 i3 i4 =>
    intro o told u h
    simp only [uses, List.mem_append] at h
    rcases h with ((h | h) | h) | h
    · exact i1 o.2.1 told u h
    · exact ok_snoc (i2 o.2.2.2.1 _ u h)
    · exact ok_snoc (i3 o.2.2.2.2.2.1 _ u h)
    · exact ok_snoc (i4 o.2.2.2.2.2.2.2 _ u h)
  | fors a b c i1 i2 i3 =>
    intro o told u h
    simp only [uses, List.mem_append] at h
    rcases h with (h | h) | h
    · exact i1 o.2.1 told u h
    · exact ok_snoc (i2 o.2.2.2.1 _ u h)
    · exact ok_snoc (i3 o.2.2.2.2.2 _ u h)
  | range x d e b i1 i2 =>
    intro o told u h
    simp only [uses, List.mem_append] at h
    rcases h with (h | h) | h
    · exact i1 o.2.2.1 told u h
    · cases d
      · exact use_ok o.1 h
      · cases h
    · cases d
      · exact i2 o.2.2.2.2 _ u h
      · exact ok_snoc (i2 o.2.2.2.2 _ u h)
  | switch a b c i1 i2 i3 =>
    intro o told u h
    simp only [uses, List.mem_append] at h
    rcases h with h | h
    · exact i1 o.2.1 told u h
    · exact ok_snoc (i3 o.2.2.2.2.2.2.1 _ u h)
  | tswitch x e ty b i1 i2 i3 =>
    intro o told u h
    simp only [uses, List.mem_append] at h
    rcases h with (h | h) | h
    · exact i1 o.2.2.1 told u h
    · exact i2 o.2.2.2.2.1 told u h
    · exact ok_snoc (i3 o.2.2.2.2.2.2.1 _ u h)
  | choose x e other b1 b2 i1 i2 i3 i4 =>
    intro o told u h
    simp only [uses, List.mem_append] at h
    rcases h with (((h | h) | h) | h) | h
    · exact i1 o.2.2.1 told u h
    · exact ok_snoc (i3 o.2.2.2.2.2.2.1 _ u h)
    · exact i1 o.2.2.1 told u h
    · exact i2 o.2.2.2.2.1 told u h
    · exact i4 o.2.2.2.2.2.2.2.2.2.1 told u h
  | nil => intro _ told u h; cases h
  | cons a b i1 i2 =>
    intro o told u h
    rcases List.mem_append.mp h with h | h
    · exact i1 o.2.1 told u h
    · exact ok_snoc (i2 o.2.2.2 _ u h)
  | rnil => intro _ told u h; cases h
  | rcons a b c i1 i2 i3 =>
    intro o told u h
    simp only [uses, List.mem_append] at h
    rcases h with (h | h) | h
    · exact i1 o.2.1 told u h
    · exact i2 o.2.2.2.1 told u h
    · exact i3 o.2.2.2.2.2.2 told u h
noncomputable def gl1 : List (Str × Value) := (Str.ofString "sorted", .builtin "sorted") :: gl0
theorem gl1_ok (c : Cx) : GlOk c gl1 := by
  intro q hq
  rcases List.mem_cons.mp hq with rfl | hq
  · exact ⟨.bui (by rfl) (by decide +kernel) (by decide +kernel), by decide +kernel⟩
  · exact gl0_ok c q hq
theorem methS {w : World} {sa dx : Addr} {uv : Value} {UX : V} {c : Cx} {mt : Str} {f : Addr} {K : Value → List V → Prop} (ok : c.Ok) (hw : c.g.w = w) (hf : (plainGet c.K 147 mt && findIn c.K (.ref 147) mt == some (some (.ref f)) && isFn c.K (.ref f) && keepIn c.K (.ref f)) = true) (hl : ∀ (fk : FK) (w : World), lookIn mt (finD w fk) = some none) (k : K (.ref f) [.raw (.ref sa)]) : GOb (IS w sa dx uv UX) c (.ref sa) mt K := by
  subst hw
  simp only [Bool.and_eq_true, beq_iff_eq] at hf
  refine .fn (fun s M h imm m g gs dr tk os pl Q E C kk => ?_) hf.2 k
  have hi : IF c.g.w s.1 sa dx s.2 imm g := C.i.1
  have I : InstAt h sa (instObj 147 dx) 147 (some (finD c.g.w s.1)) := InstAt.of_news C.N (List.mem_append.mpr (.inl hi.at.1)) (List.mem_append.mpr (.inl hi.at.2))
  exact method_inst C.F ok.X I hf.1.1.1 hf.1.1.2 hf.1.2 (by have := hl s.1 c.g.w; rw [lookIn_dict] at this; exact this) (kk tk)
/-- what the finder has found at a tree -/
theorem found_log {t : T} (ho : Ok t) {U : List Use} (hU : ∀ u, u ∈ U ↔ u ∈ uses t [cN "p"]) {s2 : FS} (hm : ∀ u, u ∈ s2.log ↔ u ∈ uses t [cN "p"]) (v x : Str) : (v, x) ∈ s2.log ↔ x ∈ abcd ∧ inU U v x = true := by
  rw [inU_iff, hm, hU]
  refine ⟨fun h => ⟨?_, h⟩, fun h => h.2⟩
  obtain ⟨h1, h2⟩ := uses_ok t ho _ _ h
  exact menu_abcd x h1 h2
noncomputable abbrev scF : Scope := { kind := .function, names := [(Str.ofString "tree", .local), (Str.ofString "uses", .cell), (Str.ofString "finder", .local), (Str.ofString "NameFinder", .globalImplicit), (Str.ofString "has_plain_keys", .globalImplicit), (Str.ofString "sorted", .globalImplicit)], isGenerator := false, isCoroutine := false, more := [(Str.ofString "fast", .str (Str.ofString "tree")), (Str.ofString "fast", .str (Str.ofString "uses")), (Str.ofString "fast", .str (Str.ofString "finder")), (Str.ofString "fast", .str (Str.ofString "name"))] }
theorem finds_c {σ : Type} {I : II σ} [IMono I] {g : GX} {t : T} {U : List Use} {s : σ} (hok : Ok t) (ht : isT t = true) (hU : ∀ u, u ∈ U ↔ u ∈ uses t [cN "p"]) (hd : dep t ≤ 200) (hwt : wt t ≤ 2000) : CT I g 301 (.ref 238) [(tv t).1, .list (U.map useV)] s (fun Y s' => Y = .bool true ∧ s' = s) := by
  intro c M K ok hg hr hK
  refine ⟨fun h imm m g0 gs dr tk os Q E vs hvs C k => ?_⟩
  subst hg
  cases hvs with
  | @cons v1 _ _ _ a1 hvs => cases hvs with
    | @cons v2 _ _ _ a2 hvs =>
      cases hvs
      refine wpAny_call ?_
      refine code_defC (binds := [(Str.ofString "tree", v1), (Str.ofString "uses", v2)]) ok.B C.F ok.X C.N ok.T rfl rfl ok.hk (by rfl) (by rfl) (Nat.lt_of_le_of_lt (Nat.le_add_right _ _) hr.d) (BindsTo.of_eq rfl) (by rfl) (by decide +kernel) ?_ (by rfl) (by rfl) (by rfl)
      intro g' L' h' tk' cells' FG F' N' Y B' X' T' lt
      have hY := CellsAre.one Y
      obtain ⟨o, hE, d1⟩ := hY
      subst hE
      have d2 : o.data = .cell (some v2) := d1
      let c' : Cx := ⟨c.g, c.dp + 1, c.un + 3, c.gd, Str.ofString "_law_finds", scF, L', 238, .ref 237, [(Str.ofString "uses", L' + 1)], c.env :: c.outer, c.A, c.base, g'⟩
      have ok' : c'.Ok := ⟨B', X', T', rfl, by have := hr.u; show c.un + 3 + 50 < _; omega⟩
      have hr' : Room c' 300 := ⟨by have := hr.d; show c.dp + 1 + 300 < _; omega, by have := hr.u; show c.un + 3 + 3 * 300 + 100 < _; omega⟩
      have hS : Sub imm (g0 ++ imm) := fun p hp => List.mem_append.mpr (.inr hp)
      have C' : Cf (I0 c.g.w [(L' + 1, o)]) c' none (updV (fun _ => none) (Str.ofString "tree") (tv t).1) (g0 ++ imm) h' _ [(L' + 1, o)] := ⟨F', N', .non, (fun p hp q hq => by
        rw [List.mem_singleton.mp hp]
        exact Nat.ne_of_gt (Nat.lt_succ_of_lt (lt q hq))), fun x X e => by
        simp only [updV] at e
        split at e
        · rename_i hx; subst hx; cases e; exact ⟨v1, rfl, a1.mono hS⟩
        · cases e⟩
      refine new_body (c := c') (sc := scF) (gl := gl1) (uv := v2) (UX := .list (U.map useV)) (x := Str.ofString "finder") (b := true) ok' rfl rfl (gl1_ok c') (by rfl) C' (a2.mono hS) ?vn ?vc PassesOwn.leaving fun m2 news2 h2 tk2 hs2 F2 N2 => ?_
      case vn =>
        refine new_u ok' rfl (hr'.le (by decide)) (fun p hp xs n e => ?_) fun fk sa dx hN => ⟨trivial, fk, sa, dx, rfl, rfl, hN⟩
        rw [List.mem_singleton.mp hp] at e
        have d3 := d2
        rw [show o = _ from e] at d3
        cases d3
      case vc =>
        intro fk sa dx hN
        have hb : Bd (sp0.push [cN "p"]) (dep t) (wt t) := ⟨by show 1 + dep t ≤ 900; omega, by show 0 + wt t ≤ _; omega, by show 1 + wt t ≤ _; omega⟩
        have hA : AllT (TR c.g.w fk sa dx c.g (60 + dep t)) [(tv t).1] (sp0.push [cN "p"]) (run t (sp0.push [cN "p"])) := (tree_g t hok).c ht rfl (Nat.le_refl _) hb .nil
        have hRn := Rn.in [cN "p"] (run_rn t hok)
        have hw1 := within_c (names := [cN "p"]) (tX := .list [(tv t).1]) rfl (all_cL rfl hA) (Nat.zero_le _) (by decide) (run_R t _) (Nat.zero_le _)
        have e1 : ((run t (sp0.push [cN "p"])).pop).R = [] := hRn.R sp0
        have e2 : ((run t (sp0.push [cN "p"])).pop).row = [] := hRn.row sp0
        have e3 : ∀ u, u ∈ ((run t (sp0.push [cN "p"])).pop).log ↔ u ∈ uses t [cN "p"] := fun u => (hRn.m sp0 u).trans ⟨fun h => h.elim (fun h => nomatch h) _root_.id, .inr⟩
        obtain ⟨s2, hs2⟩ : ∃ s2, s2 = (run t (sp0.push [cN "p"])).pop := ⟨_, rfl⟩
        rw [← hs2] at hw1 e1 e2 e3
        have hrow : s2.rows = [[]] := by rw [FS.rows, e1, e2]; rfl
        refine methS (f := 85) ok' rfl (by rfl) (fun _ _ => by rfl) ?_
        refine lift_u (np_use hw1 ok' rfl hr' (by omega) ?_)
        refine attr_u (v := .ref fk.fa) ok' rfl rfl (gl1_ok c') (by rfl) ⟨rfl, rfl⟩ (by rfl) (fun _ => by rfl) (by rfl) ?_
        refine sorted_u (q := inU U wF) rfl .f hN.f (found_log hok hU e3 wF) ?_
        refine compS_u (U := U) (ca := L' + 1) (o := o) ok' rfl (by rw [hN.ex]; exact .head _) d2 (by rfl) (fun _ => by rfl) ?_
        refine neL_u ok' ?_
        refine BK.f ?_
        refine attr_u (v := .ref fk.aa) ok' rfl rfl (gl1_ok c') (by rfl) ⟨rfl, rfl⟩ (by rfl) (fun _ => by rfl) (by rfl) ?_
        refine sorted_u (q := inU U wA) rfl .a hN.a (found_log hok hU e3 wA) ?_
        refine compS_u (U := U) (ca := L' + 1) (o := o) ok' rfl (by rw [hN.ex]; exact .head _) d2 (by rfl) (fun _ => by rfl) ?_
        refine neL_u ok' ?_
        refine BK.f ?_
        refine and_u ok' rfl (gl1_ok c') (by rfl) ?_
        refine attr_u (v := .ref fk.oa) ok' rfl rfl (gl1_ok c') (by rfl) ⟨rfl, rfl⟩ (by rfl) (fun _ => by rfl) (by rfl) ?_
        refine ownE_u (row := []) ok' hrow ⟨rfl, ?_⟩
        refine attr_u (v := .ref fk.da) ok' rfl rfl (gl1_ok c') (by rfl) ⟨rfl, rfl⟩ (by rfl) (fun _ => by rfl) (by rfl) ?_
        refine dict0_u ok' rfl fun d o2 hD lo => ?_
        exact eqD_u ok' rfl (.d hN.dk) (.inl rfl) (.head _) hD hN.d lo rfl
      exact leaveK_ F2 N2 fun F3 N3 => k _ _ s imm m g0 _ tk2 (hK _ _ ⟨rfl, rfl⟩) .bool sub_rfl ⟨F3, News.subl N3 fun p hp => hs2 _ hp, C.i, C.d, C.r⟩
/-- note(name, False) -/
theorem doubt_c {w : World} {p : Program} {loose : List Str} {mean : ExcName → Option Value} {mg mb : Str → Option Value} :
  ∀ (sa dx : Addr) (c : FK) (rest : Led) (oF : Obj) (ks : List Str) (rs : List Value) (n : Nat) (rows : List (List Str)) (x : Str) (tx : Tok),
  (sa, instObj 147 dx) ∈ rest → (dx, finD w c) ∈ rest → (c.oa, listOf rs.toArray n) ∈ rest → RowsIn rest rs rows → rs.length ≤ 1000 → (∀ p ∈ rest, p.1 ≠ c.da) → DK PR w oF ks → ks.length ≤ 100000 →
  Tri w p loose mean mg mb 12 100 (.ref 57) [.ref sa, .str x tx, .bool false] ((c.da, oF) :: rest) (fun r l => r = .none ∧ ∃ oF', l = (c.da, oF') :: rest ∧ DK PR w oF' (insU rows.flatten ks x)) := by
  unfold Tri
  k_fill
  rintro sa dx c rest oF ks rs n rows x tx hs hdx ho hR hl hoff hF hFl dp un gd cn cs a ccd cl outer A₀ base h₀ L m s Q E B F X N T0 hk hd hu ret
  ((refine wpAny_call ?_; refine' code_def ?k1 ?k2 ?k3 ?k4 ?k5 ?kA ?kF ?kK ?k6 ?k7 ?k8 ?k9 ?kB ?_ ?c2 ?c3 ?c4 ?c5; (case kA => exact rfl); (case kF => exact rfl); (case kK => first | exact rfl | assumption); (case k1 => k_asm); (case k2 => k_asm); (case k3 => k_asm); (case k4 => k_asm); (case k5 => k_asm); (case k6 => k_is); (case k7 => k_is); (case k8 => ktr_room); (case k9 => first | exact BindsTo.of_eq rfl | exact binds_K (by k_in) rfl (by k_is) rfl rfl rfl); (case c5 => decide); (case kB => exact locs rfl); (case c2 => exact rfl); (case c3 => exact rfl); (case c4 => exact rfl); k_whole; intro g' L' h' FG' F' N' B' X' T'; (try dsimp only); (try k_fold)))
  k_steps
  · exact ret _ _ _ _ (by k_asm) (by k_asm) ⟨rfl, _, rfl, by rw [insU, if_pos (by assumption)]; assumption⟩
  · exact ret _ _ _ _ (by k_asm) (by k_asm) ⟨rfl, _, rfl, by rw [insU, if_neg (by simp only [Bool.not_eq_true]; assumption)]; assumption⟩
theorem imm_d2 {w : World} {fk fk2 : FK} {sa dx : Addr} {uv : Value} {UX : V} {c : Cx} {M : MV} {p0 : FK × FS} {imm : Led} {h : Heap} {m : MM} {rs : List Value} {n : Nat} {oF oA oB oD oD' : Obj} (C : Cf (IS w sa dx uv UX) c p0 M imm h m (cells fk rs n oF oA oB (tail3 w fk sa dx oD))) (e : fk2.ex = fk.ex := by rfl) (ed : fk2.da = fk.da := by rfl) : ∀ p ∈ cells fk rs n oF oA oB (tail3 w fk2 sa dx oD'), ∀ q ∈ imm, p.1 ≠ q.1 := by
  intro p hp
  have hp' : p.1 ∈ (cells fk rs n oF oA oB (tail3 w fk sa dx oD)).map (·.1) := by
    have : p.1 ∈ (cells fk rs n oF oA oB (tail3 w fk2 sa dx oD')).map (·.1) := List.mem_map.mpr ⟨p, hp, rfl⟩
    simp only [cells, tail3, List.map_cons, e, ed] at this ⊢
    exact this
  obtain ⟨p', hp1, hp2⟩ := List.mem_map.mp hp'
  rw [← hp2]; exact C.d p' hp1
theorem not_fin {w : World} {c : FK} (h : DK PR w (finD w c) []) : False := by
  obtain ⟨es, ep, _, hd, _, hp, _⟩ := h
  cases hd
  cases hp
theorem not_inst {w : World} {a : Addr} {ks : List Str} (h : DK PR w (instObj 147 a) ks) : False := by
  obtain ⟨es, ep, hc, hd, _⟩ := h
  cases hd
section
variable {w : World} {fk : FK} {sa dx : Addr} {uv : Value} {UX : V} {c : Cx} {M : MV} {K : KV (FK × FS)} {s s' : FS} {x : Str}
theorem tellS (ok : c.Ok) (hw : c.g.w = w) (hr : Room c 40) (h1 : s.R.length ≤ 900) (h2 : s.row.length ≤ 90000) (e : s.tell [x] = s') (k : K .none (fk, s')) : CW (IS w sa dx uv UX) c M (.ref 71) [.raw (.ref sa), .list [.str x]] (fk, s) K := by subst e; exact lift_u (tellL_u ok hw hr h1 h2 k)
theorem noteS (ok : c.Ok) (hw : c.g.w = w) (hr : Room c 40) (h1 : s.R.length ≤ 900) (h2 : s.log.length ≤ 90000) (e : s.note wF x = s') (k : K .none (fk, s')) : CW (IS w sa dx uv UX) c M (.ref 57) [.raw (.ref sa), .str x] (fk, s) K := by subst e; exact lift_u (note_u ok hw hr h1 h2 k)
theorem aheadS (ok : c.Ok) (hw : c.g.w = w) (hr : Room c 40) (h1 : s.R.length ≤ 900) (h2 : s.log.length ≤ 90000) (e : s.note wA x = s') (k : K .none (fk, s')) : CW (IS w sa dx uv UX) c M (.ref 64) [.raw (.ref sa), .str x] (fk, s) K := by subst e; exact lift_u (ahead_u ok hw hr h1 h2 k)
theorem toldS {b : Bool} (ok : c.Ok) (hw : c.g.w = w) (hr : Room c 40) (h1 : s.R.length ≤ 900) (e : s.told.any (· == x) = b) (k : K (.bool b) (fk, s)) : CW (IS w sa dx uv UX) c M (.ref 42) [.raw (.ref sa), .str x] (fk, s) K := by subst e; exact lift_u (told_u ok hw hr h1 k)
theorem doubtS {G : List Str} (ok : c.Ok) (hw : c.g.w = w) (hr : Room c 40) (h1 : s.R.length ≤ 900) (hdk : fk.dk = []) (hex : fk.ex = []) (e : insU s.told fk.dk x = G) (k : K .none ({ fk with dk := G }, s)) : CW (IS w sa dx uv UX) c M (.ref 57) [.raw (.ref sa), .str x, .bool false] (fk, s) K := by
  subst hw
  subst e
  refine ⟨fun h imm m g gs dr tk os Q E vs hvs C kk => ?_⟩
  cases hvs with
  | cons a1 hvs => cases hvs with
    | cons a2 hvs => cases hvs with
      | cons a3 hvs =>
        cases hvs
        cases a1.raw_inv
        cases a3.bool_inv
        obtain ⟨t, rfl⟩ := a2.str_inv
        have hi : IF c.g.w fk sa dx s imm g := C.i.1
        cases hi with
        | @mk _ _ rs n oF oA oB oD Fl Al Bl d4 ho hR hF hA hB hD kF kA kB =>
          have hl := hR.len
          rw [rows_len] at hl
          have d0 := ho (fk.da, oD) (.head _)
          have nD : DK PR c.g.w oD [] := hdk ▸ hD.d
          have atD := (C.N (fk.da, oD) (List.mem_append.mpr (.inl (.tail _ (.tail _ (.tail _ (.tail _ (.head _)))))))).1
          have n1 : sa ≠ fk.da := fun e => by
            have := (C.N (sa, instObj 147 dx) (List.mem_append.mpr (.inl (.tail _ (.tail _ (.tail _ (.tail _ (.tail _ (.head _))))))))).1
            simp only at this atD
            rw [e, atD] at this
            cases this
            exact not_inst nD
          have n2 : dx ≠ fk.da := fun e => by
            have := (C.N (dx, finD c.g.w fk) (List.mem_append.mpr (.inl (.tail _ (.tail _ (.tail _ (.tail _ (.tail _ (.tail _ (.head _)))))))))).1
            simp only at this atD
            rw [e, atD] at this
            have e2 : oD = finD c.g.w fk := Option.some.inj this
            rw [e2] at nD
            exact not_fin nD
          have hoff : ∀ p ∈ (fk.oa, listOf rs.toArray n) :: (fk.fa, oF) :: (fk.aa, oA) :: (fk.ba, oB) :: (sa, instObj 147 dx) :: (dx, finD c.g.w fk) :: (fk.ex ++ imm), p.1 ≠ fk.da := by
            intro p hp
            simp only [List.mem_cons] at hp
            rcases hp with rfl | rfl | rfl | rfl | rfl | rfl | hp
            · exact Ne.symm d0.1
            · exact Ne.symm d0.2.1
            · exact Ne.symm d0.2.2.1
            · exact Ne.symm d0.2.2.2
            · exact n1
            · exact n2
            · rw [hex] at hp
              exact Ne.symm (C.d (fk.da, oD) (.tail _ (.tail _ (.tail _ (.tail _ (.head _))))) p hp)
          refine doubt_c sa dx fk _ oD fk.dk rs n s.rows x t (.tail _ (.tail _ (.tail _ (.tail _ (.head _))))) (.tail _ (.tail _ (.tail _ (.tail _ (.tail _ (.head _)))))) (.head _) (hR.mono2 fun p hp => .tail _ (.tail _ (.tail _ (.tail _ (.tail _ (.tail _ (List.mem_append.mpr (.inr hp)))))))) (by omega) hoff hD.d (by rw [hdk]; exact Nat.zero_le _) c.dp c.un c.gd c.cn c.cs c.a c.ccd c.cl c.outer c.A₀ c.base c.h₀ c.L m ⟨h, gs, dr, tk, os⟩ Q E ok.B C.F ok.X (News.subl C.N fun p hp => mem_mv [(fk.oa, _), (fk.fa, _), (fk.aa, _), (fk.ba, _)] hp) ok.T ok.hk (by have := hr.d; omega) (by have := hr.u; omega) ?_
          rintro r l h' tk' F' N' ⟨rfl, oD', rfl, hd'⟩
          refine kk .none .none _ imm m (cells fk rs n oF oA oB (tail3 c.g.w { fk with dk := insU s.told fk.dk x } sa dx oD')) h' tk' k .none sub_rfl ⟨F', News.subl N' fun p hp => mem_mv' [(fk.oa, _), (fk.fa, _), (fk.aa, _), (fk.ba, _)] hp, ⟨IF.mk (c := { fk with dk := insU s.told fk.dk x }) ⟨d4.of, d4.oa, d4.ob, d4.fa, d4.fb, d4.ab⟩ ?_ hR hF hA hB ⟨hd', hD.x⟩ kF kA kB, C.i.2⟩, imm_d2 C, C.r⟩
          · intro p hp
            simp only [tail3, List.mem_cons] at hp
            rcases hp with rfl | rfl | rfl | hp
            · exact d0
            · exact ho _ (.tail _ (.head _))
            · exact ho _ (.tail _ (.tail _ (.head _)))
            · exact ho _ (.tail _ (.tail _ (.tail _ hp)))
end
section
variable {σ : Type} {I : II σ}
theorem def_new [IMono I] {g : GX} {D : Nat} {fa : Addr} {Xs : List V} {s : σ} {b : Bool} {x : Str} (gl : List (Str × Value)) (names : List Str) {name qual : Str} {params : Arguments} {st : Stmt} {body : List Stmt} {scope : Scope} {dV kV doc pm cdv ct oc : Value} {an od : Option Addr} {osl : Array (Option Value)}
    (hf : List.lookup fa (hd.heap_39 g.w.params) = some { cls := oc, dict := od, data := .func (fnOf name qual params (st :: body) scope dV kV doc pm an cdv ct), slots := osl }) (hc : codeIn (hd.heap_39 g.w.params) cdv qual = true)
    (hb : ∀ h vs, (hd.heap_39 g.w.params).In h → vs.length = Xs.length → ∀ gs dr tk os, BindsTo ⟨h, gs, dr, tk, os⟩ (fnOf name qual params (st :: body) scope dV kV doc pm an cdv ct) ⟨vs, []⟩ (names.zip vs)) (hl : (names.all fun x => decide (List.lookup x scope.names = some .local)) = true)
    (h1 : scope.isCoroutine = false) (h2 : scope.isGenerator = false) (h3 : scope.kind = .function) (h4 : (scope.names.all fun x => decide (x.2 ≠ .cell)) = true) (hdb : scope.names.lookup (Str.ofString "__debug__") = none)
    (hgl : ∀ c : Cx, c.g = g → GlOk c gl)
    (vn : ∀ c : Cx, c.Ok → c.g = g → Room c D → vS (I0 g.w []) scope gl c 30 st (fun y => (names.zip Xs).reverse.lookup y) none (NewK [] x fun y => (names.zip Xs).reverse.lookup y))
    (vc : ∀ (c : Cx) (fk : FK) (sa dx : Addr), c.Ok → c.g = g → c.cs = scope → Room c D → NewF [] fk → vB (vS (IS g.w sa dx .none .none) scope gl c 30) body (updV (fun y => (names.zip Xs).reverse.lookup y) x (.raw (.ref sa))) (fk, sp0) (endK fun Y _ => Y = .bool b)) : CT I g (D + 1) (.ref fa) Xs s (fun Y s' => Y = .bool b ∧ s' = s) := by
  intro c M K ok hg hr hK
  refine ⟨fun h imm m g0 gs dr tk os Q E vs hvs C k => ?_⟩
  subst hg
  refine wpAny_call ?_
  refine code_def ok.B C.F ok.X C.N ok.T rfl rfl ok.hk hf hc (Nat.lt_of_le_of_lt (Nat.le_add_right _ _) hr.d) (hb h vs (fun a o e => C.F.keep a o (ok.X a o e)) hvs.len gs dr tk os) (fun y hy => of_decide_eq_true (List.all_eq_true.mp hl y.1 (List.of_mem_zip hy).1)) ?_ h1 h2 h3 (fun x hx => of_decide_eq_true (List.all_eq_true.mp h4 x hx))
  intro g' L' h' FG F' N' B' X' T'
  let c' : Cx := { g := c.g, dp := c.dp + 1, un := c.un + 3, gd := c.gd, cn := qual, cs := scope, L := L', a := fa, ccd := cdv, cl := [], outer := c.env :: c.outer, A₀ := c.A, base := c.base, h₀ := g' }
  have ok' : c'.Ok := ⟨B', X', T', h3, by have := hr.u; show c.un + 3 + 50 < _; omega⟩
  have hr' : Room c' D := ⟨by have := hr.d; show c.dp + 1 + D < _; omega, by have := hr.u; show c.un + 3 + 3 * D + 100 < _; omega⟩
  have hvs2 := hvs.mono (fun p hp => List.mem_append.mpr (.inr hp) : Sub imm (g0 ++ imm))
  have C' : Cf (I0 c.g.w []) c' none (fun y => (names.zip Xs).reverse.lookup y) (g0 ++ imm) h' (fun y => (names.zip vs).reverse.lookup y) [] := ⟨F', N', .non, (fun p hp => nomatch hp), zip_look names hvs2⟩
  refine new_body (c := c') (uv := .none) (UX := .none) ok' rfl rfl (hgl c' rfl) hdb C' .none (vn c' ok' rfl hr') (fun fk sa dx hN => vc c' fk sa dx ok' rfl rfl hr' hN) PassesOwn.leaving fun m2 news2 h2 tk2 hs2 F2 N2 => ?_
  exact leaveK_ F2 N2 fun F3 N3 => k _ _ s imm m g0 _ tk2 (hK _ _ ⟨rfl, rfl⟩) .bool sub_rfl ⟨F3, News.subl N3 fun p hp => hs2 _ hp, C.i, C.d, C.r⟩
end
theorem ne2_u {σ : Type} {I : II σ} {c : Cx} {M : MV} {s : σ} {K : KV σ} {a b : Bool} (ok : c.Ok) (k : K (.bool false) s) : QW I c M .NotEq (.list [.bool a, .bool b]) (.list [.bool a, .bool b]) s K := by
  refine ⟨fun h imm m g gs dr tk os Q E v u hv hu C kk => ?_⟩
  obtain ⟨p, xs, n, rfl, hm, hq⟩ := hv.list_inv
  obtain ⟨q, ys, n2, rfl, hm2, hq2⟩ := hu.list_inv
  have two : ∀ {xs : List Value}, Reps imm xs [.bool a, .bool b] → xs = [.bool a, .bool b] := fun hq => by
    cases hq with
    | cons h1 hq => cases hq with
      | cons h2 hq => cases hq; cases h1.bool_inv; cases h2.bool_inv; rfl
  rw [two hq] at hm
  rw [two hq2] at hm2
  refine PySem.SeqAt.RcNeAt.lists (items := [.bool a, .bool b].toArray) (items2 := [.bool a, .bool b].toArray) (e := fun _ => true) ⟨_, (C.N _ (C.tup' hm)).1, rfl, _, rfl⟩ ⟨_, (C.N _ (C.tup' hm2)).1, rfl, _, rfl⟩ rfl (by have := ok.u; show c.un < _; omega) ?_ PR c.g.w E Q (by rw [all_true]; exact kk _ s imm m g h tk k sub_rfl C)
  intro j hj1 hj2
  have hj : j = 0 ∨ j = 1 := by simp at hj1; omega
  rcases hj with rfl | rfl
  · exact PySem.SeqAt.EqAt.bool_bool a a |> (fun z => by simpa using z)
  · exact PySem.SeqAt.EqAt.bool_bool b b |> (fun z => by simpa using z)
theorem notes_c {σ : Type} {I : II σ} [IMono I] {g : GX} {x y : Str} {s : σ} : CT I g 101 (.ref 245) [.str x, .str y] s (fun Y s' => Y = .bool true ∧ s' = s) := by
  obtain ⟨G, hG, i1, i2, i3, i4⟩ : ∃ G : List Str, (G = [] ∨ ∃ y, G = [y]) ∧ insU [x] [] y = G ∧ (∀ w, use w y [x] = G.map fun z => (w, z)) ∧ ((x == y) = true → G = []) ∧ ((x == y) = false → G = [y]) := by
    by_cases h : x = y
    · subst h
      exact ⟨[], .inl rfl, by simp [insU], fun w => by simp [use], fun _ => rfl, fun h => by simp at h⟩
    · exact ⟨[y], .inr ⟨y, rfl⟩, by simp [insU, ins, h], fun w => by simp [use, h], fun e => absurd (eq_of_beq e) h, fun _ => rfl⟩
  have mm : ∀ (v v' z : Str), v ≠ v' → (v, z) ∉ G.map fun z => (v', z) := fun v v' z hv h => by
    obtain ⟨_, _, h⟩ := List.mem_map.mp h
    exact hv (Prod.mk.inj h).1.symm
  have ms : ∀ (v z : Str), (v, z) ∈ (G.map fun z => (v, z)) ↔ z ∈ G := fun v z => by
    rw [List.mem_map]
    exact ⟨fun ⟨_, h, e⟩ => (Prod.mk.inj e).2 ▸ h, fun h => ⟨z, h, rfl⟩⟩
  have e2 : (⟨[x], [], []⟩ : FS).note wF x = ⟨[x], [], []⟩ := by
    show FS.mk [x] [] ([] ++ use wF x [x]) = _
    rw [use_yes (by simp)]; rfl
  have e3 : (⟨[x], [], []⟩ : FS).note wA y = ⟨[x], [], G.map fun z => (wA, z)⟩ := by
    show FS.mk [x] [] ([] ++ use wA y [x]) = _
    rw [i2]; rfl
  have e4 : (⟨[x], [], G.map fun z => (wA, z)⟩ : FS).note wF y = ⟨[x], [], (G.map fun z => (wA, z)) ++ G.map fun z => (wF, z)⟩ := by
    show FS.mk [x] [] ((G.map fun z => (wA, z)) ++ use wF y [x]) = _
    rw [i2]
  have gl4 : G.length ≤ 1 := by rcases hG with rfl | ⟨y, rfl⟩ <;> simp
  refine def_new (x := Str.ofString "finder") gl0 [Str.ofString "name", Str.ofString "other"] (by rfl) (by rfl) (fun h vs _ hl gs dr tk os => ?_) (by rfl) (by rfl) (by rfl) (by rfl) (by rfl) (by rfl) (fun c _ => gl0_ok c) (fun c ok hg hr => ?vn) fun c fk sa dx ok hg hcs hr hN => ?vc
  · obtain ⟨a, b, rfl⟩ := len2 hl
    exact BindsTo.of_eq rfl
  case vn =>
    exact new_u ok (by rw [hg]) (hr.le (by decide)) (fun p hp => nomatch hp) fun fk sa dx hN => ⟨trivial, fk, sa, dx, rfl, rfl, hN⟩
  case vc =>
    have hr40 : Room c 40 := hr.le (by decide)
    subst hg
    refine methS (f := 71) ok rfl (by rfl) (fun _ _ => by rfl) ?_
    refine tellS (s' := ⟨[x], [], []⟩) ok rfl hr40 (Nat.zero_le _) (Nat.zero_le _) rfl ?_
    refine methS (f := 57) ok rfl (by rfl) (fun _ _ => by rfl) ?_
    refine noteS ok rfl hr40 (Nat.zero_le _) (Nat.zero_le _) e2 ?_
    refine methS (f := 57) ok rfl (by rfl) (fun _ _ => by rfl) ?_
    refine doubtS (G := G) ok rfl hr40 (Nat.zero_le _) hN.dk hN.ex (by rw [hN.dk]; exact i1) ?_
    refine methS (f := 64) ok rfl (by rfl) (fun _ _ => by rfl) ?_
    refine aheadS ok rfl hr40 (Nat.zero_le _) (Nat.zero_le _) e3 ?_
    refine methS (f := 42) ok rfl (by rfl) (fun _ _ => by rfl) ?_
    refine toldS (b := true) ok rfl hr40 (Nat.zero_le _) (by show [x].any (· == x) = true; simp) ?_
    refine methS (f := 42) ok rfl (by rfl) (fun _ _ => by rfl) ?_
    refine toldS (b := x == y) ok rfl hr40 (Nat.zero_le _) (by show [x].any (· == y) = _; simp) ?_
    refine ne2_u ok ?_
    refine BK.f ?_
    refine attr_u (v := .ref fk.fa) ok rfl hcs (gl0_ok c) (by rfl) ⟨rfl, rfl⟩ (by rfl) (fun _ => by rfl) (by rfl) ?_
    refine dict0_u ok rfl fun d0 o0 hD0 lo0 => ?_
    refine neD_u (G := []) ok rfl (.c .f fun z => ⟨fun h => absurd h (mm wF wA z (Ne.symm wA_ne)), fun h => nomatch h⟩) (.inl rfl) (.head _) hD0 hN.f lo0 ?_
    refine BK.f ?_
    refine BK.f ?_
    have mz : ∀ z, (wF, z) ∈ ((G.map fun z => (wA, z)) ++ G.map fun z => (wF, z)) ↔ z ∈ G := fun z => by
      rw [List.mem_append]
      exact ⟨fun h => h.elim (fun h => absurd h (mm wF wA z (Ne.symm wA_ne))) (ms wF z).mp, fun h => .inr ((ms wF z).mpr h)⟩
    refine BK.s (fun hb => ?_) fun hb => ?_
    · refine dict0_u ok rfl fun d o hD lo => ?_
      rw [← i3 hb] at hD
      refine attr_u (v := .ref fk.da) ok rfl hcs (gl0_ok c) (by rfl) ⟨rfl, rfl⟩ (by rfl) (fun _ => by rfl) (by rfl) ?_
      refine neD_u (G := G) ok rfl (.d rfl) hG (.head _) hD hN.d lo ?_
      refine BK.f ?_
      refine attr_u (v := .ref fk.aa) ok rfl hcs (gl0_ok c) (by rfl) ⟨rfl, rfl⟩ (by rfl) (fun _ => by rfl) (by rfl) ?_
      refine neD_u (G := G) ok rfl (.c .a fun z => ms wA z) hG (.head _) hD hN.a lo ?_
      refine BK.f ?_
      refine BK.f ?_
      refine methS (f := 57) ok rfl (by rfl) (fun _ _ => by rfl) ?_
      refine noteS ok rfl hr40 (Nat.zero_le _) (by show (G.map _).length ≤ _; rw [List.length_map]; omega) e4 ?_
      refine and_u ok hcs (gl0_ok c) (by rfl) ?_
      refine attr_u (v := .ref fk.fa) ok rfl hcs (gl0_ok c) (by rfl) ⟨rfl, rfl⟩ (by rfl) (fun _ => by rfl) (by rfl) ?_
      refine eqD_u (G := G) ok rfl (.c .f fun z => mz z) hG (.head _) hD hN.f lo ⟨rfl, ?_⟩
      refine attr_u (v := .ref fk.oa) ok rfl hcs (gl0_ok c) (by rfl) ⟨rfl, rfl⟩ (by rfl) (fun _ => by rfl) (by rfl) ?_
      refine ownE_u (fk := (({ fk with dk := G } : FK).add d0 o0).add d o) (s := ⟨[x], [], (G.map fun z => (wA, z)) ++ G.map fun z => (wF, z)⟩) (row := [x]) ok rfl ?_
      exact rfl
    · refine dict1_u ok rfl rfl (by rw [hcs]; rfl) (by decide) fun d o hD lo => ?_
      rw [← i4 hb] at hD
      refine attr_u (v := .ref fk.da) ok rfl hcs (gl0_ok c) (by rfl) ⟨rfl, rfl⟩ (by rfl) (fun _ => by rfl) (by rfl) ?_
      refine neD_u (G := G) ok rfl (.d rfl) hG (.head _) hD hN.d lo ?_
      refine BK.f ?_
      refine attr_u (v := .ref fk.aa) ok rfl hcs (gl0_ok c) (by rfl) ⟨rfl, rfl⟩ (by rfl) (fun _ => by rfl) (by rfl) ?_
      refine neD_u (G := G) ok rfl (.c .a fun z => ms wA z) hG (.head _) hD hN.a lo ?_
      refine BK.f ?_
      refine BK.f ?_
      refine methS (f := 57) ok rfl (by rfl) (fun _ _ => by rfl) ?_
      refine noteS ok rfl hr40 (Nat.zero_le _) (by show (G.map _).length ≤ _; rw [List.length_map]; omega) e4 ?_
      refine and_u ok hcs (gl0_ok c) (by rfl) ?_
      refine attr_u (v := .ref fk.fa) ok rfl hcs (gl0_ok c) (by rfl) ⟨rfl, rfl⟩ (by rfl) (fun _ => by rfl) (by rfl) ?_
      refine eqD_u (G := G) ok rfl (.c .f fun z => mz z) hG (.head _) hD hN.f lo ⟨rfl, ?_⟩
      refine attr_u (v := .ref fk.oa) ok rfl hcs (gl0_ok c) (by rfl) ⟨rfl, rfl⟩ (by rfl) (fun _ => by rfl) (by rfl) ?_
      refine ownE_u (fk := (({ fk with dk := G } : FK).add d0 o0).add d o) (s := ⟨[x], [], (G.map fun z => (wA, z)) ++ G.map fun z => (wF, z)⟩) (row := [x]) ok rfl ?_
      exact rfl
noncomputable abbrev loopT : T := .range (cN "a") true (.name (cN "a")) (.block .nil)
theorem a_menu : cN "a" ∈ menu := by decide
theorem loop_ok : Ok loopT := ⟨a_menu, rfl, a_menu, rfl, rfl, trivial, by decide⟩
theorem loop_uses : ∀ u : Use, u ∈ [(wF, cN "a")] ↔ u ∈ uses loopT [cN "p"] := by
  have e : uses loopT [cN "p"] = [(wF, cN "a")] := by decide
  intro u
  rw [e]
theorem reel_end {news : Led} {h₀ h : Heap} {L D : Addr} {m : Str → Option Value} {s : Shared} {tk : Nat} {Q : Value → Shared → Prop} {x y : Int} {t1 t2 : Tok}
    (ret : ∀ ra q h' tk', Fr h₀ L h' m → News h₀ L h' ((ra, reelO q) :: news) → (∀ p ∈ news, p.1 ≠ ra) → Q (.ref ra) { s with heap := h', toks := tk' })
    (F : Fr h₀ L h m) (N : News h₀ L h ((D, listOf #[.int x t1, .int y t2] 0) :: news)) (lt : ∀ p ∈ news, p.1 < D) (hs : 0 ≤ x) (hx : 0 ≤ y) (hx2 : y < 2147483647) : Q (.ref D) { s with heap := h, toks := tk } :=
  ret D ⟨_, _, _, _, hs, hx, hx2⟩ h tk F N fun p hp => Nat.ne_of_lt (lt p hp)
theorem reel_c {w : World} {p : Program} {loose : List Str} {mean : ExcName → Option Value} {mg mb : Str → Option Value} : ∀ {sx : Addr} {vs : List Value} {ns : List Int} {news : Led}
    {dp un : Nat} {gd : Option (List Code)} {cn : Str} {cs : Scope} {a : Addr} {ccd : Value} {cl : List (Str × Addr)} {outer : List Env} {A₀ : Around} {base h₀ : Heap} {L : Addr} {m : Str → Option Value} {s : Shared} {Q E : Value → Shared → Prop},
    h₀.IsList sx vs.toArray → IntsAre vs ns → ns.length ≤ 63 → Below A₀ base outer h₀ → Fr h₀ L s.heap m → (hd.heap_39 w.params).In h₀ → News h₀ L s.heap news → Top p loose mean mg mb h₀ → cs.kind = .function → dp + 10 < recursionLimit → un + 100 < cLine →
    (∀ ra q h' tk', Fr h₀ L h' m → News h₀ L h' ((ra, reelO q) :: news) → (∀ p ∈ news, p.1 ≠ ra) → Q (.ref ra) { s with heap := h', toks := tk' }) →
    wpAny (model PySem.Challenge.rw_xm0172_01.row.prog w) (ktrTop dp un gd cn cs L a ccd cl outer) (call (.ref 165) [.ref sx]) Q E s := by
  k_fill
  intro sx vs ns news dp un gd cn cs a ccd cl outer A₀ base h₀ L m s Q E hL hI hlen B F X N T0 hk hd hu ret
  ((refine wpAny_call ?_; refine' code_def ?k1 ?k2 ?k3 ?k4 ?k5 ?kA ?kF ?kK ?k6 ?k7 ?k8 ?k9 ?kB ?_ ?c2 ?c3 ?c4 ?c5; (case kA => exact rfl); (case kF => exact rfl); (case kK => first | exact rfl | assumption); (case k1 => k_asm); (case k2 => k_asm); (case k3 => k_asm); (case k4 => k_asm); (case k5 => k_asm); (case k6 => k_is); (case k7 => k_is); (case k8 => ktr_room); (case k9 => exact bz rfl); (case c5 => decide); (case kB => exact locs rfl); (case c2 => exact rfl); (case c3 => exact rfl); (case c4 => exact rfl); k_whole; intro g' L' h' FG' F' N' B' X' T'; (dsimp only [List.map, List.zip, List.zipWith, List.reverse, List.reverseAux] at F'); (try dsimp only); (try k_fold)))
  rename Fr h₀ L _ m => FG1
  have hL2 := (let ⟨o, ho, r⟩ := hL; (⟨o, FG1.keep _ _ ho, r⟩ : Heap.IsList _ sx vs.toArray))
  have hlv := hI.length
  k_steps
  all_goals
    refine' reel_end ret ?F ?N ?lt ?hs ?hx ?hx2
    (case F => k_asm)
    (case N => k_asm)
    (case lt => assumption)
    (case hx => exact Int.fmod_nonneg_of_pos _ (by decide))
    (case hx2 => exact Int.fmod_lt_of_pos _ (by decide))
    (case hs => first | decide | (rename _ ≤ ite _ _ _ => hle; exact Int.le_trans (by decide) hle))
noncomputable def gl2 : List (Str × Value) := (Str.ofString "_law_finds", .ref 238) :: (Str.ofString "_law_reel", .ref 165) :: (Str.ofString "_law_notes_right", .ref 245) :: gl0
theorem gl2_ok (c : Cx) : GlOk c gl2 := by
  intro q hq
  rcases List.mem_cons.mp hq with rfl | hq
  · exact ⟨.glob (by rfl) (by rfl), by decide +kernel⟩
  rcases List.mem_cons.mp hq with rfl | hq
  · exact ⟨.glob (by rfl) (by rfl), by decide +kernel⟩
  rcases List.mem_cons.mp hq with rfl | hq
  · exact ⟨.glob (by rfl) (by rfl), by decide +kernel⟩
  · exact gl0_ok c q hq
/-- the reel, once it is there -/
noncomputable def IL : II (Option (Addr × RS)) := fun o _ g => match o with
  | none => g = []
  | some p => g = [(p.1, reelO p.2)]
instance : IMono IL := ⟨fun h _ => h⟩
theorem liftL {ra : Addr} {c : Cx} {M : MV} {f : Value} {Xs : List V} {q : RS} {K : KV (Option (Addr × RS))} (h : CW (IR ra) c M f Xs q fun Y q' => K Y (some (ra, q'))) : CW IL c M f Xs (some (ra, q)) K :=
  ⟨fun hp imm m g gs dr tk os Q E vs hvs C kk => h.run hp imm m g gs dr tk os Q E vs hvs ⟨C.F, C.N, C.i, C.d, C.r⟩ fun v X s' imm' m' g' h' tk' hK hr hS C' => kk v X (some (ra, s')) imm' m' g' h' tk' hK hr hS ⟨C'.F, C'.N, C'.i, C'.d, C'.r⟩⟩
theorem reel_u {c : Cx} {M : MV} {sx : Addr} {vs : List Value} {ns : List Int} {K : KV (Option (Addr × RS))} (ok : c.Ok) (hL : c.h₀.IsList sx vs.toArray) (hI : IntsAre vs ns) (hl : ns.length ≤ 63) (hr : Room c 40) (k : ∀ ra q, K (.raw (.ref ra)) (some (ra, q))) : CW IL c M (.ref 165) [.raw (.ref sx)] none K := by
  refine ⟨fun h imm m g gs dr tk os Q E ws hvs C kk => ?_⟩
  cases hvs with
  | cons a1 hvs =>
    cases hvs
    cases a1.raw_inv
    have hg : g = [] := C.i
    subst hg
    refine reel_c hL hI hl ok.B C.F ok.X C.N ok.T ok.hk (by have := hr.d; omega) (by have := hr.u; omega) fun ra q h' tk' F' N' ho => ?_
    exact kk (.ref ra) (.raw (.ref ra)) (some (ra, q)) imm m [(ra, reelO q)] h' tk' (k ra q) .raw sub_rfl ⟨F', N', rfl, (fun p hp q hq => by rw [List.mem_singleton.mp hp]; exact Ne.symm (ho q hq)), C.r⟩
theorem top_u {w : World} {p : Program} {loose : List Str} {mean : ExcName → Option Value} {mg mb : Str → Option Value} {h₀ h : Heap} {L fa sx : Addr} {cd : Value} {name : Str} {sc : Scope} {body : List Stmt} {m : MM} {gs : Array GenState} {dr : Drawn} {tk : Nat} {os : OsState} {Q : Flow → Shared → Prop} {E : Value → Shared → Prop}
    (F : Fr h₀ L h m) (X : (hd.heap_39 w.params).In h₀) (N : News h₀ L h []) (T0 : Top p loose mean mg mb h₀) (hk : sc.kind = .function) (hdb : sc.names.lookup (Str.ofString "__debug__") = none) (hm : m (Str.ofString "script") = some (.ref sx))
    (vc : ∀ c : Cx, c.Ok → c.cs = sc → c.h₀ = h₀ → Room c 320 → vB (vS IL sc gl2 c 30) body (updV (fun _ => none) (Str.ofString "script") (.raw (.ref sx))) none (endK fun Y _ => Y = .bool true))
    (hE : PassesOwn (model PR w) (callerA.deeper (envOf name sc L fa cd)) (envOf name sc L fa cd) E) (k : ∀ m2 news h2 tk2, Fr h₀ L h2 m2 → News h₀ L h2 news → Q (.ret (.bool true)) ⟨h2, gs, dr, tk2, os⟩) :
    wpAny (model PR w) (callerA.deeper (envOf name sc L fa cd)) (execs body (envOf name sc L fa cd)) Q E ⟨h, gs, dr, tk, os⟩ := by
  let c : Cx := { g := ⟨w, p, loose, mean, mg, mb⟩, dp := (callerA.deeper (envOf name sc L fa cd)).depth, un := (callerA.deeper (envOf name sc L fa cd)).units, gd := (callerA.deeper (envOf name sc L fa cd)).guards, cn := name, cs := sc, L := L, a := fa, ccd := cd, cl := [], outer := [], A₀ := callerA, base := h₀, h₀ := h₀ }
  have ok : c.Ok := ⟨below_caller h₀, X, T0, hk, by show callerA.units + 3 + 50 < cLine; decide⟩
  have hr : Room c 320 := ⟨by show callerA.depth + 1 + 320 < recursionLimit; decide, by show callerA.units + 3 + 3 * 320 + 100 < cLine; decide⟩
  have C : Cf IL c none (updV (fun _ => none) (Str.ofString "script") (.raw (.ref sx))) [] h m [] := ⟨F, N, rfl, (fun p hp => nomatch hp), fun x X e => by
    simp only [updV] at e
    split at e
    · rename_i hx; subst hx; cases e; exact ⟨_, hm, .raw⟩
    · cases e⟩
  refine vB_ok (vS_ok ok rfl (gl2_ok c) hdb 30) body _ none _ (vc c ok rfl rfl hr) h [] m [] gs dr tk os Q E hE C fun f f' M' s' imm' m' g' h' tk' hf hRF hS C' => ?_
  cases hRF with
  | @ret v Y hv =>
    have e : Y = .bool true := hf
    subst e
    cases hv.bool_inv
    exact k m' _ h' tk' C'.F C'.N
  | next => exact absurd (show V.none = .bool true from hf) (by simp)
theorem law_holds : PySem.Challenge.rw_xm0172_01.Holds := by
  refine hd ?_
  k_fill
  intro w s₀ s₁ mg mb G Y fa o pm cd doc dV kV ho hd hcd hD hmg hg args vals as hpre hlay hrd hwl hlo
  have KX := kIn_of Y
  refine Ground.open G ?_
  intro T B D TE TW
  obtain ⟨_, _, M⟩ := bmod_of_top T
  have TA := at_of_top T
  try (obtain ⟨_, _, he, B0⟩ := based_of_top T rfl hmg ho hd; have he' : cd = _ := he; subst he'; clear he)
  clear hmg
  wrow_args hpre hlay hrd hwl hlo
  first | refine callC_kw (enter_call ?_) | refine enter_call ?_ | refine callC_kw (enter_callW ?_) | refine enter_callW ?_ | w_how
  w_top on
  try refine codeAny_mono ?_ (fun _ _ g => GoodW.toG g)
  have K0 := below_caller (Top.heap T)
  w_call any ho hd hcd hD T F
  clear hd TA
  k_drop
  try k_fold
  rename Fr _ _ _ _ => F0
  rename News _ _ _ _ => N0
  rename Top _ _ _ _ _ _ => T0
  rename Frag.In _ _ => X0
  rename IntsAre _ _ => hI0
  rename Heap.IsList _ _ _ => hL0
  rename ¬ (_ : Int) < _ => hlen0
  dsimp only
  refine' top_u ?hF ?hX ?hN ?hT ?hk ?hd ?hm ?vc ?hE ?kk
  case hF => exact F0
  case hX => exact X0
  case hN => exact N0
  case hT => exact T0
  case hk => rfl
  case hd => rfl
  case hm => rfl
  case hE => exact PassesOwn.leaving
  case vc =>
    intro c ok hcs hh hr
    rw [← hh] at hL0
    refine (finds_c (I := IL) (t := loopT) (U := [(wF, cN "a")]) (s := none) loop_ok rfl loop_uses (by decide) (by decide)).use ok rfl (hr.le (by decide)) ?_
    rintro Y s' ⟨rfl, rfl⟩
    refine BK.f ?_
    refine reel_u ok hL0 hI0 (by omega) (hr.le (by decide)) fun ra q => ?_
    refine liftL ((gen_c c.g ra [.str (cN "p")] [cN "p"] 2 q rfl rfl (by simp)).use ok rfl (hr.le (by decide)) ?_)
    rintro X q2 ⟨t, us, rfl, rfl, b, rfl, h1, h2, h3, h4, h5⟩
    refine ⟨rfl, ?_⟩
    refine and_u ok hcs (gl2_ok c) rfl ?_
    refine (finds_c (I := IL) (t := .block b) (U := uses (.block b) [cN "p"]) (s := some (ra, q2)) ⟨h1, h2, h3⟩ rfl (fun _ => Iff.rfl) (by simp only [dep]; omega) (by simp only [wt]; omega)).use ok rfl (hr.le (by decide)) ?_
    rintro Y s' ⟨rfl, rfl⟩
    refine ⟨rfl, ?_⟩
    refine liftL ((name_c c.g ra q2).use ok rfl (hr.le (by decide)) ?_)
    rintro X q3 ⟨x, rfl, hx⟩
    refine liftL ((name_c c.g ra q3).use ok rfl (hr.le (by decide)) ?_)
    rintro X q4 ⟨y, rfl, hy⟩
    refine notes_c.use ok rfl (hr.le (by decide)) ?_
    rintro Y s' ⟨rfl, rfl⟩
    exact rfl
  case kk =>
    intro m2 news h2 tk2 F2 N2
    dsimp only
    refine goodW_bool (by with_reducible assumption) (by with_reducible assumption) (raisesW_false ?ra) ?po
    case ra => wrow_none_raised
    case po => exact postW_of (by rfl) (w_eq_bool (w_res rfl) w_lit) rfl
end Mine

theorem PySem.Challenge.cw_xm0172_01_holds : PySem.Challenge.rw_xm0172_01.Holds := by
  exact Mine.law_holds
