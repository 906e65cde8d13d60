import PyProof.Rows.All
import Wide.All
import OpenK.AllK
import Wide.FinOn
import Lean
import PySem.Challenge.RW_no0054_01
open PySem PySem.W PyProof.Rows
set_option Elab.async false
set_option maxRecDepth 100000
set_option maxHeartbeats 8000000
namespace Mine
open_top hd for PySem.Challenge.rw_no0054_01
end Mine

section
open PyProof.V
namespace Mine
/-- the law's own def, as the head reads it -/
noncomputable def lawItem : { d : DefRec // (recsOf hd.view_39).getLast? = some d } := ⟨⟨_, _, _, _, _⟩, rfl⟩
/-- the law's statements from number n on -/
noncomputable abbrev lawB (n : Nat) : List Stmt := lawItem.1.body.drop n
noncomputable abbrev lawEnv (L a : Addr) (cd : Value) : Env := envOfC lawItem.1.name lawItem.1.scope L a cd
/-- the body of the main loop, of the last loop -/
noncomputable def mainFor : { q : PySem.Expr × PySem.Expr × List Stmt × Pos // lawB 5 = Stmt.For q.1 q.2.1 q.2.2.1 [] q.2.2.2 :: lawB 6 } := ⟨⟨_, _, _, _⟩, rfl⟩
noncomputable def lastFor : { q : PySem.Expr × PySem.Expr × List Stmt × Pos // lawB 9 = Stmt.For q.1 q.2.1 q.2.2.1 [] q.2.2.2 :: lawB 10 } := ⟨⟨_, _, _, _⟩, rfl⟩
noncomputable abbrev mainB (n : Nat) : List Stmt := mainFor.1.2.2.1.drop n
noncomputable abbrev lastB (n : Nat) : List Stmt := lastFor.1.2.2.1.drop n
end Mine

end
local macro_rules | `(tactic| k_ne) => `(tactic| k_extra "own ne")
local macro_rules | `(tactic| walk_at "call type:list") => `(tactic| k_extra "own call type:list")
local macro_rules | `(tactic| walk_at "eval ListComp") => `(tactic| k_extra "own eval ListComp")
local macro_rules | `(tactic| walk_at "subscriptTail") => `(tactic| k_extra "own subscriptTail")
local macro_rules | `(tactic| walk_at "call builtin:list.pop") => `(tactic| k_extra "own call builtin:list.pop")
local macro_rules | `(tactic| walk_at "call ref") => `(tactic| k_extra "own call ref")
local macro_rules | `(tactic| walk_at "compareOp In str ref") => `(tactic| k_extra "own compareOp In str ref")
local macro_rules | `(tactic| walk_at "compareOp NotIn str ref") => `(tactic| k_extra "own compareOp NotIn str ref")
local macro_rules | `(tactic| walk_at "compareOp Eq str str") => `(tactic| k_extra "own compareOp Eq str str")
local macro_rules | `(tactic| walk_at "call builtin:len") => `(tactic| k_extra "own call builtin:len")
local macro_rules | `(tactic| walk_at "subscriptTail Name Slice ref ref") => `(tactic| k_extra "own subscriptTail Name Slice ref ref")
local macro_rules | `(tactic| walk_at "compareOp NotEq ref ref") => `(tactic| k_extra "own compareOp NotEq ref ref")
local macro_rules | `(tactic| walk_at "exec Assign cons ListComp") => `(tactic| k_extra "own exec Assign cons ListComp")
namespace Mine
theorem flush_take {prog : Program} {w : World} {A : Around} {Q : Flow → Shared → Prop} {E : Value → Shared → Prop} {s : Shared} {env : Env} (h : wpAny (model prog w) A (execs [] env) Q E s) : wpAny (model prog w) A (execs [] env) Q E s := by
  k_with_none
  w_top off
  first | (walk1; fail) | exact h
end Mine

section
open PyProof.V
namespace Mine
theorem words_take : True := by
  k_with_none
  k_with "own ne" => (refine neN ?_; (try dsimp only); first | with_reducible assumption | (refine Ne.symm ?_; with_reducible assumption) | k_extra "own and" | (refine Ne.symm ?_; k_extra "own and"))
  k_with "own right" => (iterate 9 (first | done | with_reducible assumption | apply And.right))
  k_with "own and" => first | (apply And.left; k_extra "own right"; done) | (k_extra "own right"; done) | (apply And.left; apply And.left; k_extra "own right"; done) | (apply And.left; apply And.right; apply And.left; k_extra "own right"; done) | (apply And.right; apply And.left; k_extra "own right"; done) | (apply And.right; apply And.right; apply And.left; k_extra "own right"; done)
  trivial

def Kept (ts : List Addr) (h h' : Heap) : Prop := ∀ b o, b ∉ ts → h.get? b = some o → h'.get? b = some o

/-- a step that the walker leaves alone -/
def Stop (P : Prop) : Prop := P
theorem Stop.call {prog : Program} {w : World} {A : Around} {E Q : Value → Shared → Prop} {s : Shared} {f : Value} {vs : List Value} (h : Stop (wpAny (model prog w) A (call f vs) Q E s)) : wpAny (model prog w) A (call f vs) Q E s := h
theorem Stop.cmp {prog : Program} {w : World} {A : Around} {E Q : Value → Shared → Prop} {s : Shared} {op : CmpOp} {a b : Value} (h : Stop (wpAny (model prog w) A (compareOp op a b) Q E s)) : wpAny (model prog w) A (compareOp op a b) Q E s := h
theorem Stop.eval {prog : Program} {w : World} {A : Around} {E Q : Value → Shared → Prop} {s : Shared} {e : PySem.Expr} {env : Env} (h : Stop (wpAny (model prog w) A (PySem.eval e env) Q E s)) : wpAny (model prog w) A (PySem.eval e env) Q E s := h
theorem Stop.exec {prog : Program} {w : World} {A : Around} {E : Value → Shared → Prop} {Q : Flow → Shared → Prop} {s : Shared} {e : Stmt} {env : Env} (h : Stop (wpAny (model prog w) A (PySem.exec e env) Q E s)) : wpAny (model prog w) A (PySem.exec e env) Q E s := h
theorem Stop.open {P : Prop} (h : P) : Stop P := h
theorem nm {a b : Addr} {l : List Addr} (h : @Ne Nat a b) (t : a ∉ l) : a ∉ b :: l := fun q => (List.mem_cons.mp q).elim h t
theorem kept_of {H g h' : Heap} {ts : List Addr} {L' : Addr} {m' : Str → Option Value} (G : GSub H g ts) (F : Fr g L' h' m') : Kept ts H h' := fun b o hb e => F.keep b o (G b o e hb)

abbrev pr : Program := PySem.Challenge.rw_no0054_01.row.prog
/-- the dict of draws -/
def IsDraws (w : World) (o : Obj) (g x : Int) : Prop :=
  ∃ kvs, o.IsDictOf (strKind pr w) kvs ∧ FlatPairs PyData.str kvs [(PyData.str (Str.ofString "great"), PyData.int g), (PyData.str (Str.ofString "mixed"), PyData.int x)]

theorem take_spec {w : World} {loose : List Str} {mean : ExcName → Option Value} {mg mb : Str → Option Value}
    {dp un : Nat} {gd : Option (List Code)} {cn : Str} {cs : Scope} {a : Addr} {ccd : Value} {cl : List (Str × Addr)} {outer : List Env} {A₀ : Around} {base h₀ : Heap} {L : Addr} {m : Str → Option Value} {s : Shared}
    {Q E : Value → Shared → Prop} {d : Addr} {o : Obj} {g : Int} {x : Int} {many : Int} {tm : Tok}
    (B : Below A₀ base outer h₀) (F : Fr h₀ L s.heap m) (X : (hd.heap_39 w.params).In h₀)
    (N : News h₀ L s.heap [(d, o)]) (T : Top hd.view_39 loose mean mg mb h₀) (hk : cs.kind = .function)
    (hD : IsDraws w o g x) (hlo : (d == sysModules) = false)
    (hdp : dp + 1 < recursionLimit) (hun : un + 8 < cLine) (hg : 0 ≤ g) (hx : 0 ≤ x) (hm : 0 < many) (hm2 : many < 1000)
    (ret : ∀ r t h' tk' o' g' x', 0 ≤ r → r < many → 0 ≤ g' → 0 ≤ x' → h'.get? d = some o' → IsDraws w o' g' x' → Kept [d] s.heap h' → Q (.int r t) { s with heap := h', toks := tk' }) :
    wpAny (model pr w) (ktrTop dp un gd cn cs L a ccd cl outer) (call (.ref 88) [.ref d, .int many tm]) Q E s := by
  obtain ⟨kvs, hD1, hD2⟩ := hD
  delta pr at *; revert X; k_fill; intro X
  refine wpAny_call ?_
  refine' code_defG ?k1 ?k2 ?k3 ?k4 ?k5 ?kA ?kF ?kK ?k6 ?k7 ?k8 ?k9 ?kB ?_ ?c2 ?c3 ?c4 ?c5
  case kA => exact rfl
  case kF => exact rfl
  case kK => assumption
  case k1 => k_asm
  case k2 => k_asm
  case k3 => k_asm
  case k4 => k_asm
  case k5 => k_asm
  case k6 => k_is
  case k7 => k_is
  case k8 => ktr_room
  case k9 => exact BindsTo.of_eq rfl
  case c5 => decide
  case kB => exact locs rfl
  case c2 => exact rfl
  case c3 => exact rfl
  case c4 => exact rfl
  intro g' L' h' FG' F' N' B' X' T' kG'
  try dsimp only
  k_fold
  k_steps
  · refine ret _ _ _ _ _ _ _ (Int.fmod_nonneg_of_pos _ hm) (Int.fmod_lt_of_pos _ hm) ?_ hx (News.get (by k_asm) (by k_mem)) ⟨_, by k_asm, by k_asm⟩ (kept_of kG' (by k_asm))
    exact Int.fdiv_nonneg hg (by omega)
  · refine ret _ _ _ _ _ _ _ (Int.fmod_nonneg_of_pos _ hm) (Int.fmod_lt_of_pos _ hm) hg ?_ (News.get (by k_asm) (by k_mem)) ⟨_, by k_asm, by k_asm⟩ (kept_of kG' (by k_asm))
    exact Int.fmod_nonneg_of_pos _ (by decide)
end Mine

end
namespace Mine
theorem flush_comp {prog : Program} {w : World} {A : Around} {Q : Flow → Shared → Prop} {E : Value → Shared → Prop} {s : Shared} {env : Env} (h : wpAny (model prog w) A (execs [] env) Q E s) : wpAny (model prog w) A (execs [] env) Q E s := by
  k_with_none
  w_top off
  first | (walk1; fail) | exact h
end Mine

section
open PyProof.V
namespace Mine
open PyProof.Rows.LCg PyProof.Rows.LCt

theorem CompEnd_mono {h₀ : Heap} {L : Addr} {m : Str → Option Value} {s₁ : Shared} {I : Addr} {oI : Obj} {C : Addr} {oC : Obj} {D : Addr} {oD : Obj} {S : List (Addr × Obj) → Prop} {r r' : Value → List (Addr × Obj) → Prop} {y : Value} {s₂ : Shared}
    (hr : ∀ y n, r y n → r' y n) (h : CompEnd h₀ L m s₁ I oI C oC D oD S r y s₂) : CompEnd h₀ L m s₁ I oI C oC D oD S r' y s₂ := by
  obtain ⟨h', tk, n', a, b, c, d, e, f⟩ := h
  exact ⟨h', tk, n', a, b, c, d, e, hr _ _ f⟩

section
variable {prog : Program} {w : World} {A : Around} {s : Shared} {h₀ : Heap} {L : Addr} {m : Str → Option Value} {env : Env}

theorem comp_indT {ct elt : Expr} {x : Str} {scope : Scope} {cl : List (Str × Addr)} {S : List (Addr × Obj) → Prop} {P : Nat → Value → Prop} {Fin : List Value → List (Addr × Obj) → Prop} {n : Nat} {news₀ : List (Addr × Obj)}
    (J : Nat → List Value → List (Addr × Obj) → Prop) (h0 : J 0 [] news₀)
    (step : ∀ i ys news v I oI C oC D m₂ h tk (E' : Value → Shared → Prop), i < n → J i ys news → P i v → NsObj oC m₂ → m₂ x = some v → Fr h₀ L h m → News h₀ L h ((I, oI) :: (C, oC) :: (D, lst ys) :: news) → Off3 I C D news → ((@Ne Nat I C) ∧ (@Ne Nat I D) ∧ (@Ne Nat C D)) →
      wpAny (model prog w) A (isTrue ct (compEnvC scope cl C env) (eval ct (compEnvC scope cl C env))) (fun ok s' => if ok = true then
        wpAny (model prog w) A (eval elt (compEnvC scope cl C env)) (CompEnd h₀ L m { s with heap := h, toks := tk } I oI C oC D (lst ys) S (fun y news' => J (i + 1) (ys ++ [y]) news')) E' s'
        else CompEnd h₀ L m { s with heap := h, toks := tk } I oI C oC D (lst ys) S (fun _ news' => J (i + 1) ys news') Value.none s') E' { s with heap := h, toks := tk })
    (fin : ∀ ys news, J n ys news → Fin ys news) : CompRestT prog w A h₀ L m env ct elt x scope cl s S P Fin n 0 [] news₀ := by
  have all : ∀ k i ys news, i + k = n → J i ys news → CompRestT prog w A h₀ L m env ct elt x scope cl s S P Fin k i ys news := by
    intro k
    induction k with
    | zero => intro i ys news e hj; exact CompRestT.zero (fin _ _ (by rw [← e]; exact hj))
    | succ k ih =>
      intro i ys news e hj
      refine CompRestT.succ fun v I oI C oC D m₂ h tk E' hv hC hx F N off ne => ?_
      refine wpAny_mono (step i ys news v I oI C oC D m₂ h tk E' (by omega) hj hv hC hx F N off ne) (fun ok s' hs => ?_) fun _ _ e => e
      cases ok with
      | true =>
        simp only [if_true] at hs ⊢
        exact wpAny_mono hs (fun y s'' hy => CompEnd_mono (fun y n' hj' => ih (i + 1) _ _ (by omega) hj') hy) fun _ _ e => e
      | false =>
        simp only [Bool.false_eq_true, if_false] at hs ⊢
        exact CompEnd_mono (fun y n' hj' => ih (i + 1) _ _ (by omega) hj') hs
  exact all n 0 [] news₀ (by omega) h0

theorem comp_indU {elt : Expr} {x : Str} {scope : Scope} {cl : List (Str × Addr)} {S : List (Addr × Obj) → Prop} {P : Nat → Value → Prop} {Fin : List Value → List (Addr × Obj) → Prop} {n : Nat} {news₀ : List (Addr × Obj)}
    (J : Nat → List Value → List (Addr × Obj) → Prop) (h0 : J 0 [] news₀)
    (step : ∀ i ys news v I oI C oC D m₂ h tk (E' : Value → Shared → Prop), i < n → J i ys news → P i v → NsObj oC m₂ → m₂ x = some v → Fr h₀ L h m → News h₀ L h ((I, oI) :: (C, oC) :: (D, lst ys) :: news) → Off3 I C D news → ((@Ne Nat I C) ∧ (@Ne Nat I D) ∧ (@Ne Nat C D)) →
      wpAny (model prog w) A (eval elt (compEnvC scope cl C env)) (CompEnd h₀ L m { s with heap := h, toks := tk } I oI C oC D (lst ys) S (fun y news' => J (i + 1) (ys ++ [y]) news')) E' { s with heap := h, toks := tk })
    (fin : ∀ ys news, J n ys news → Fin ys news) : CompRest prog w A h₀ L m env elt x scope cl s S P Fin n 0 [] news₀ := by
  have all : ∀ k i ys news, i + k = n → J i ys news → CompRest prog w A h₀ L m env elt x scope cl s S P Fin k i ys news := by
    intro k
    induction k with
    | zero => intro i ys news e hj; exact CompRest.zero (fin _ _ (by rw [← e]; exact hj))
    | succ k ih =>
      intro i ys news e hj
      refine CompRest.succ fun v I oI C oC D m₂ h tk E' hv hC hx F N off ne => ?_
      exact wpAny_mono (step i ys news v I oI C oC D m₂ h tk E' (by omega) hj hv hC hx F N off ne)
        (fun y s'' hy => CompEnd_mono (fun y n' hj' => ih (i + 1) _ _ (by omega) hj') hy) fun _ _ e => e
  exact all n 0 [] news₀ (by omega) h0
end
end Mine

end
namespace Mine
theorem flush_chg {prog : Program} {w : World} {A : Around} {Q : Flow → Shared → Prop} {E : Value → Shared → Prop} {s : Shared} {env : Env} (h : wpAny (model prog w) A (execs [] env) Q E s) : wpAny (model prog w) A (execs [] env) Q E s := by
  k_with_none
  w_top off
  first | (walk1; fail) | exact h
end Mine

section
open PyProof.V
namespace Mine
theorem words_chg : True := by
  k_with_none
  k_with "own ne" => (refine neN ?_; (try dsimp only); first | with_reducible assumption | (refine Ne.symm ?_; with_reducible assumption) | k_extra "own and" | (refine Ne.symm ?_; k_extra "own and"))
  k_with "own right" => (iterate 9 (first | done | with_reducible assumption | apply And.right))
  k_with "own and" => first | (apply And.left; k_extra "own right"; done) | (k_extra "own right"; done) | (apply And.left; apply And.left; k_extra "own right"; done) | (apply And.left; apply And.right; apply And.left; k_extra "own right"; done) | (apply And.right; apply And.left; k_extra "own right"; done) | (apply And.right; apply And.right; apply And.left; k_extra "own right"; done)
  trivial

theorem xor_bound : ∀ (n : Nat) (x y : Int), 0 ≤ x → x < 2 ^ n → 0 ≤ y → y < 2 ^ n → 0 ≤ x + y - 2 * Builtin.bitAnd x y ∧ x + y - 2 * Builtin.bitAnd x y < 2 ^ n := by
  intro n
  induction n with
  | zero =>
    intro x y h1 h2 h3 h4
    have hx : x = 0 := by simp at h2; omega
    have hy : y = 0 := by simp at h4; omega
    subst hx; subst hy
    decide
  | succ n ih =>
    intro x y h1 h2 h3 h4
    rw [Int.pow_succ] at h2 h4 ⊢
    have e := kbt_halves x y
    generalize hp : (2 : Int) ^ n = p at *
    have i := ih (x / 2) (y / 2) (by omega) (by omega) (by omega) (by omega)
    rw [e]
    generalize Builtin.bitAnd (x / 2) (y / 2) = z at *
    split <;> omega

theorem xor_in {a c : Int} (h1 : 0 ≤ a) (h2 : a < 256) (h3 : 0 ≤ c) (h4 : c < 255) : KBa.In [Builtin.bitXor a (1 + c)] := by
  intro n hn
  rw [List.mem_singleton.mp hn, bitXor_and]
  exact xor_bound 8 a (1 + c) h1 (by omega) (by omega) (by omega)

theorem xor_in' {a c : Int} (h1 : 0 ≤ a) (h2 : a < 256) (h3 : 0 ≤ c) (h4 : c < 255) : KBa.In [Builtin.bitXor a (c + 1)] := by
  rw [Int.add_comm]; exact xor_in h1 h2 h3 h4

/-- what changed_at makes, octet by octet -/
def chgL (ks : List Int) (k : Int) : List Int :=
  if ks = [] then [] else ks.set (k.fmod ks.length).toNat (Builtin.bitXor (ks.getD (k.fmod ks.length).toNat 0) (1 + (k.fdiv ks.length).fmod 255))

theorem chgL_eq {ks : List Int} {k : Int} (h : (ks.length : Int) ≠ 0) :
    List.take (clipAt ks.length (k.fmod ks.length)) ks ++ [Builtin.bitXor (ks.getD (k.fmod ks.length).toNat 0) (1 + (k.fdiv ks.length).fmod 255)] ++ List.take (ks.length - clipAt ks.length (k.fmod ks.length + 1)) (List.drop (clipAt ks.length (k.fmod ks.length + 1)) ks) = chgL ks k := by
  have h0 := Int.fmod_nonneg_of_pos k (show (0 : Int) < ks.length by omega)
  have h1 := Int.fmod_lt_of_pos k (show (0 : Int) < ks.length by omega)
  unfold chgL
  rw [if_neg (by rintro rfl; simp at h)]
  generalize k.fmod ks.length = i at *
  obtain ⟨j, rfl⟩ := Int.eq_ofNat_of_zero_le h0
  have e1 : clipAt ks.length ((j : Nat) : Int) = j := by rw [clipAt_nat]; omega
  have e2 : clipAt ks.length (((j : Nat) : Int) + 1) = j + 1 := by
    rw [show ((j : Nat) : Int) + 1 = ((j + 1 : Nat) : Int) by push_cast; rfl, clipAt_nat]; omega
  rw [e1, e2, List.take_of_length_le (l := List.drop (j + 1) ks) (by rw [List.length_drop]; omega), Int.toNat_natCast, List.set_eq_take_append_cons_drop, if_pos (by omega)]
  simp

local macro_rules | `(tactic| kba_in) => `(tactic| exact xor_in (by assumption) (by assumption) (fmod_lo _ (by decide)) (fmod_hi _ (by decide)))

theorem chg_spec {w : World} {loose : List Str} {mean : ExcName → Option Value} {mg mb : Str → Option Value}
    {dp un : Nat} {gd : Option (List Code)} {cn : Str} {cs : Scope} {a : Addr} {ccd : Value} {cl : List (Str × Addr)} {outer : List Env} {A₀ : Around} {base h₀ : Heap} {L : Addr} {m : Str → Option Value} {s : Shared}
    {Q E : Value → Shared → Prop} {b : Array UInt8} {tb : Tok} {k : Int} {tk : Tok}
    (B : Below A₀ base outer h₀) (F : Fr h₀ L s.heap m) (X : (hd.heap_39 w.params).In h₀)
    (T : Top hd.view_39 loose mean mg mb h₀) (hk : cs.kind = .function)
    (hdp : dp + 1 < recursionLimit) (hun : un + 8 < cLine) (hb : b.size ≤ 1000)
    (ret : ∀ b' t h' tk', KBw.bInts b' = chgL (KBw.bInts b) k → Kept [] s.heap h' → Q (.bytes b' t) { s with heap := h', toks := tk' }) :
    wpAny (model pr w) (ktrTop dp un gd cn cs L a ccd cl outer) (call (.ref 29) [.bytes b tb, .int k tk]) Q E s := by
  have N : News h₀ L s.heap [] := .nil
  obtain ⟨ks, hks⟩ : ∃ ks, KBw.bInts b = ks := ⟨_, rfl⟩
  have hkl : ks.length = b.size := by rw [← hks]; exact KBw.ints_length b
  have hkl3 : ks.length ≤ 1000 := by omega
  delta pr at *; revert X; k_fill; intro X
  refine wpAny_call ?_
  refine' code_defG ?k1 ?k2 ?k3 ?k4 ?k5 ?kA ?kF ?kK ?k6 ?k7 ?k8 ?k9 ?kB ?_ ?c2 ?c3 ?c4 ?c5
  case kA => exact rfl
  case kF => exact rfl
  case kK => assumption
  case k1 => k_asm
  case k2 => k_asm
  case k3 => k_asm
  case k4 => k_asm
  case k5 => k_asm
  case k6 => k_is
  case k7 => k_is
  case k8 => ktr_room
  case k9 => exact BindsTo.of_eq rfl
  case c5 => decide
  case kB => exact locs rfl
  case c2 => exact rfl
  case c3 => exact rfl
  case c4 => exact rfl
  intro g' L' h' FG' F' N' B' X' T' kG'
  try dsimp only
  k_fold
  k_steps
  · refine ret _ _ _ _ ?_ (kept_of kG' (by k_asm))
    have h0 : ks = [] := List.length_eq_zero_iff.mp (by omega)
    rw [hks, h0]; rfl
  · refine ret _ _ _ _ ?_ (kept_of kG' (by k_asm))
    rw [hks]
    exact Eq.trans (by assumption) (chgL_eq (by assumption))

end Mine

end
namespace Mine
theorem flush_lchg {prog : Program} {w : World} {A : Around} {Q : Flow → Shared → Prop} {E : Value → Shared → Prop} {s : Shared} {env : Env} (h : wpAny (model prog w) A (execs [] env) Q E s) : wpAny (model prog w) A (execs [] env) Q E s := by
  k_with_none
  w_top off
  first | (walk1; fail) | exact h
end Mine

section
open PyProof.V
namespace Mine
theorem words_lchg : True := by
  k_with_none
  k_with "own ne" => (refine neN ?_; (try dsimp only); first | with_reducible assumption | (refine Ne.symm ?_; with_reducible assumption) | k_extra "own and" | (refine Ne.symm ?_; k_extra "own and"))
  k_with "own right" => (iterate 9 (first | done | with_reducible assumption | apply And.right))
  k_with "own and" => first | (apply And.left; k_extra "own right"; done) | (k_extra "own right"; done) | (apply And.left; apply And.left; k_extra "own right"; done) | (apply And.left; apply And.right; apply And.left; k_extra "own right"; done) | (apply And.right; apply And.left; k_extra "own right"; done) | (apply And.right; apply And.right; apply And.left; k_extra "own right"; done)
  k_with "own call type:list" => (k_here; (with_reducible show wpAny _ _ (call (Value.type "list") [Value.bytes _ _]) _ _ _); k_dflt (refine' list_bytes_K (by k_asm) (by k_asm) (by rfl) (by assumption) (by kba_size) ?_; k_whole); intro l'w h'w tk'w vs'w n'w F'w N'w hi'w l1w; (try k_lt l1w); (try k_sweep))
  trivial

section
variable {prog : Program} {w : World} {A : Around} {E : Value → Shared → Prop} {s : Shared}

theorem bytes_len : typeLookup (.type "bytes") "__len__" = pure (some (.builtin "bytes.__len__")) := by rw [typeLookup_type, builtinLookup_eq_fast]; kernel_rfl

theorem extend_bytes {R : Result → Shared → Prop} (hh : A.handled = none) (b : Array UInt8) (t : Tok) (S : Addr) (res : Value) (c₀ : Nat) (hS : s.heap.get? S = some { cls := .type "list", data := .seq #[] c₀ })
    (hR : ∀ h' tk acc' c', (∀ b o, b ≠ S → s.heap.get? b = some o → h'.get? b = some o) → h'.get? S = some { cls := .type "list", dict := none, data := .seq acc' c', slots := #[] } →
      ItemsOf (fun i v => ∃ c u, b[i]? = some c ∧ v = Value.int (c.toNat : Int) u) acc' b.size → R (.ok (.ret res)) { s with heap := h', toks := tk }) (hn : b.size ≤ sizeLine) :
    wpAny (model prog w) A.in1 (Builtin.List.listExtendWith (.ref S) (.bytes b t) res)
      (fun fin s' => match fin with | .done f => R (.ok f) s' | .again c' => c'.quiet = true ∧ codeAny (model prog w) A c' R s') (fun e s' => R (.error e) s') s := by
  have hSI : S ≠ s.heap.objs.size := Nat.ne_of_lt (Heap.lt_size hS)
  have hSf : S ∉ [s.heap.objs.size] := fun hm => hSI (List.mem_singleton.mp hm)
  unfold Builtin.List.listExtendWith
  refine wpAny_bind (wpAny_typeOf (T := "bytes") (v := .bytes b t) rfl ?_)
  have h1 : Builtin.List.listSameRef (.ref S) (.bytes b t) = false := rfl
  have h2 : (Value.type "bytes" == Value.type "list") = false := by decide
  have h3 : (Value.type "bytes" == Value.type "tuple") = false := by decide
  simp only [h1, h2, h3, Bool.or_false, Bool.false_eq_true, if_false]
  refine wpAny_bind (KBw.pyIter_bytes ?_)
  refine wpAny_bind (wpAny_holding ?_)
  unfold Builtin.List.listLengthHint
  refine wpAny_bind (wpAny_specialOf (T := "bytes") (v := .bytes b t) rfl bytes_len ?_)
  wp_delta
  refine wpAny_bind (wpAny_isInstance (T := "bytes") (v := .bytes b t) (b := true) rfl (by rw [isSubtype_type]; kernel_rfl) ?_)
  show wpAny _ _ (typeOf (Value.bytes b t) >>= _) _ _ _
  refine wpAny_bind (wpAny_typeOf (T := "bytes") (v := .bytes b t) rfl ?_)
  refine wpAny_pure ?_
  rw [if_neg (by decide)]
  refine wpAny_pure ⟨plainId_quiet F.plain_extend_loop _, codeAny_extend_loopS (KBw.walks (A := A.in1) hh s.heap.objs.size b t).toS hn _ hSf _ b.size 0 _ _ _ rfl (Nat.zero_le _) ⟨_, Heap.get?_push_size _ rfl, rfl, rfl⟩ (Heap.get?_push_of_some _ hS) (ItemsOf.nil _) fun s' acc' c' hm hS' hacc => ?_⟩
  rw [Moved.eq_with hm]
  refine hR s'.heap s'.toks acc' c' (fun b ob hb e => hm.heap b ob (fun hmem => ?_) (Heap.get?_push_of_some _ e)) hS' hacc
  rcases List.mem_cons.mp hmem with e' | hmem
  · exact hb e'
  · exact absurd (Heap.lt_size e) (by rw [List.mem_singleton.mp hmem]; exact Nat.lt_irrefl _)

theorem init_bytes {R : Result → Shared → Prop} (hh : A.handled = none) (b : Array UInt8) (t : Tok) (S : Addr) (hS : s.heap.get? S = some { cls := .type "list", data := .seq #[] })
    (hR : ∀ h' tk acc' c', (∀ b o, b ≠ S → s.heap.get? b = some o → h'.get? b = some o) → h'.get? S = some { cls := .type "list", dict := none, data := .seq acc' c', slots := #[] } →
      ItemsOf (fun i v => ∃ c u, b[i]? = some c ∧ v = Value.int (c.toNat : Int) u) acc' b.size → R (.ok (.ret .none)) { s with heap := h', toks := tk }) (hn : b.size ≤ sizeLine) :
    wpAny (model prog w) A.in1 (Builtin.«list.__init__» ⟨[.ref S, .bytes b t], []⟩)
      (fun fin s' => match fin with | .done f => R (.ok f) s' | .again c' => c'.quiet = true ∧ codeAny (model prog w) A c' R s') (fun e s' => R (.error e) s') s := by
  show wpAny _ _ (do let old ← Builtin.List.listItems (.ref S); Builtin.List.listUpdate (.ref S) (fun _ => #[]); letGo old.toList.reverse; Builtin.List.listExtendWith (.ref S) (.bytes b t) .none) _ _ s
  refine wpAny_bind ?_
  unfold Builtin.List.listItems
  refine wpAny_bind (wpAny_seqItems hS rfl (wpAny_pure ?_))
  show wpAny _ _ (updateSeq S (fun _ => #[]) >>= fun _ => letGo (#[] : Array Value).toList.reverse >>= fun _ => Builtin.List.listExtendWith (.ref S) (.bytes b t) .none) _ _ s
  refine wpAny_bind (wpAny_updateSeq hS rfl ?_)
  have hS₂ := Heap.get?_update_self (Obj.mapSeq (fun _ => (#[] : Array Value))) hS rfl
  refine wpAny_bind (wpAny_letGo ?_)
  refine extend_bytes hh b t S .none _ hS₂ (fun h' tk acc' c' hk hS' hacc => ?_) hn
  exact hR h' tk acc' c' (fun c o hb e => hk c o hb ((Heap.get?_update_other _ _ (Ne.symm hb)).trans e)) hS' hacc

theorem ints_of_items : ∀ (vs : List Value) (l : List UInt8), vs.length = l.length → (∀ (j : Nat) (v : Value), vs[j]? = some v → ∃ (c : UInt8) (u : Tok), l[j]? = some c ∧ v = Value.int (c.toNat : Int) u) → IntsAre vs (l.map fun c => (c.toNat : Int))
  | [], [], _, _ => .nil
  | [], _ :: _, h, _ => by simp at h
  | _ :: _, [], h, _ => by simp at h
  | v :: vs, c :: l, h, hv => by
    obtain ⟨c', u, h1, rfl⟩ := hv 0 v rfl
    cases h1
    exact .cons _ _ (ints_of_items vs l (by simpa using h) fun j v hj => hv (j + 1) v hj)

theorem list_bytes_K {h₀ : Heap} {L : Addr} {m : Str → Option Value} {news : List (Addr × Obj)} {Q : Value → Shared → Prop} {b : Array UInt8} {t : Tok} {ks : List Int} (F : Fr h₀ L s.heap m) (N : News h₀ L s.heap news)
    (hh : A.handled = none) (hk : KBw.bInts b = ks) (hn : ks.length ≤ 16777216)
    (h : ∀ l h' tk vs n, Fr h₀ L h' m → News h₀ L h' ((l, listOf (List.toArray vs) n) :: news) → IntsAre vs ks → (∀ p ∈ news, p.1 < l) → Q (.ref l) { s with heap := h', toks := tk }) :
    wpAny (model prog w) A (call (.type "list") [.bytes b t]) Q E s := by
  have hb : b.size ≤ sizeLine := by rw [sizeLine_eq, ← KBw.ints_length b, hk]; exact hn
  refine callType_codes (Q₁ := fun obj s₁ => obj = .ref s.heap.objs.size ∧ s₁ = { s with heap := s.heap.push { cls := .type "list", data := .seq #[] } }) PySem.F.called_list (PySem.F.typeCall_list_1 _) PySem.F.entry_list_init
    (code_list_new _ ⟨rfl, rfl⟩) fun obj s₁ h₁ => ?_
  obtain ⟨rfl, rfl⟩ := h₁
  have hS : (s.heap.push { cls := .type "list", data := .seq #[] }).get? s.heap.objs.size = some { cls := .type "list", data := .seq #[] } := Heap.get?_push_size _ rfl
  refine ⟨⟨_, hS, rfl⟩, PySem.F.args_list_init_2 _ _, init_bytes (A := A.in1) hh b t _ hS (fun h' tk acc' c' hk' hS' hacc => ?_) hb⟩
  have keep : ∀ a o, s.heap.get? a = some o → h'.get? a = some o := fun a o e => hk' a o (Nat.ne_of_lt (Heap.lt_size e)) (Heap.get?_push_of_some _ e)
  refine ⟨rfl, h _ h' tk acc'.toList c' (F.keptAll keep) (fun p hp => ?_) ?_ (fun p hp => Heap.lt_size (N p hp).1)⟩
  · rcases List.mem_cons.mp hp with rfl | hp
    · refine ⟨by simpa using hS', Nat.ne_of_gt F.ns.lt, ?_⟩
      cases q : h₀.get? s.heap.objs.size with
      | none => rfl
      | some o => exact absurd (Heap.lt_size (F.keep _ _ q)) (Nat.lt_irrefl _)
    · exact ⟨keep _ _ (N p hp).1, (N p hp).2⟩
  · rw [← hk]
    refine ints_of_items _ _ (by rw [Array.length_toList, hacc.1, Array.length_toList]) fun j v hv => ?_
    obtain ⟨c, u, h1, h2⟩ := hacc.2 j v (by simpa using hv)
    exact ⟨c, u, by simpa using h1, h2⟩
end

theorem set_in {ns : List Int} {i : Nat} {x : Int} (h : ∀ n ∈ ns, 0 ≤ n ∧ n < 256) (hx : KBa.In [x]) : KBa.In (ns.set i x) := by
  intro n hn
  rcases List.mem_or_eq_of_mem_set hn with hn | rfl
  · exact h n hn
  · exact hx _ (List.mem_singleton.mpr rfl)
theorem getd_in {ns : List Int} (h : ∀ n ∈ ns, 0 ≤ n ∧ n < 256) (i : Nat) : 0 ≤ ns.getD i 0 ∧ ns.getD i 0 < 256 := by
  rw [List.getD_eq_getElem?_getD]
  cases e : ns[i]? with
  | none => exact ⟨Int.le_refl 0, by decide⟩
  | some n => exact h n (List.mem_of_getElem? e)
theorem lchgL_eq {ks : List Int} {k : Int} (h : ¬ (ks.length : Int) = 0) :
    ks.set (k.fmod ks.length).toNat (Builtin.bitXor (ks.getD (k.fmod ks.length).toNat 0) ((k.fdiv ks.length).fmod 255 + 1)) = chgL ks k := by
  unfold chgL
  rw [if_neg (by rintro rfl; simp at h), Int.add_comm 1]

local macro_rules | `(tactic| kba_in) => `(tactic| exact set_in (by assumption) (xor_in' (getd_in (by assumption) _).1 (getd_in (by assumption) _).2 (fmod_lo _ (by decide)) (fmod_hi _ (by decide))))

theorem lchg_spec {w : World} {loose : List Str} {mean : ExcName → Option Value} {mg mb : Str → Option Value}
    {dp un : Nat} {gd : Option (List Code)} {cn : Str} {cs : Scope} {a : Addr} {ccd : Value} {cl : List (Str × Addr)} {outer : List Env} {A₀ : Around} {base h₀ : Heap} {L : Addr} {m : Str → Option Value} {s : Shared}
    {Q E : Value → Shared → Prop} {b : Array UInt8} {tb : Tok} {k : Int} {tk : Tok}
    (B : Below A₀ base outer h₀) (F : Fr h₀ L s.heap m) (X : (hd.heap_39 w.params).In h₀)
    (T : Top hd.view_39 loose mean mg mb h₀) (hk : cs.kind = .function)
    (hdp : dp + 1 < recursionLimit) (hun : un + 8 < cLine) (hb : b.size ≤ 1000)
    (ret : ∀ b' t h' tk', KBw.bInts b' = chgL (KBw.bInts b) k → Kept [] s.heap h' → Q (.bytes b' t) { s with heap := h', toks := tk' }) :
    wpAny (model pr w) (ktrTop dp un gd cn cs L a ccd cl outer) (call (.ref 100) [.bytes b tb, .int k tk]) Q E s := by
  have N : News h₀ L s.heap [] := .nil
  obtain ⟨ks, hks⟩ : ∃ ks, KBw.bInts b = ks := ⟨_, rfl⟩
  have hin : ∀ n ∈ ks, 0 ≤ n ∧ n < 256 := fun n hn => KBw.ints_in (hks ▸ hn)
  have hkl : ks.length = b.size := by rw [← hks]; exact KBw.ints_length b
  have hkl3 : ks.length ≤ 1000 := by omega
  delta pr at *; revert X; k_fill; intro X
  refine wpAny_call ?_
  refine' code_defG ?k1 ?k2 ?k3 ?k4 ?k5 ?kA ?kF ?kK ?k6 ?k7 ?k8 ?k9 ?kB ?_ ?c2 ?c3 ?c4 ?c5
  case kA => exact rfl
  case kF => exact rfl
  case kK => assumption
  case k1 => k_asm
  case k2 => k_asm
  case k3 => k_asm
  case k4 => k_asm
  case k5 => k_asm
  case k6 => k_is
  case k7 => k_is
  case k8 => ktr_room
  case k9 => exact BindsTo.of_eq rfl
  case c5 => decide
  case kB => exact locs rfl
  case c2 => exact rfl
  case c3 => exact rfl
  case c4 => exact rfl
  intro g' L' h' FG' F' N' B' X' T' kG'
  try dsimp only
  k_fold
  k_steps
  · refine ret _ _ _ _ ?_ (kept_of kG' (by k_asm))
    have he : b.toList = [] := by simpa using ‹(b.toList == #[].toList) = true›
    have h0 : KBw.bInts b = [] := by unfold KBw.bInts; rw [he]; rfl
    rw [h0]; rfl
  · exfalso
    have h1 : b.toList = [] := by rw [← List.length_eq_zero_iff, Array.length_toList]; omega
    have h2 := ‹(b.toList == #[].toList) = false›
    rw [h1] at h2
    cases h2
  · refine ret _ _ _ _ ?_ (kept_of kG' (by k_asm))
    rw [hks]
    exact Eq.trans (KBa.ints_make (by assumption)) (lchgL_eq (by assumption))
end Mine

end
namespace Mine
theorem flush_draws {prog : Program} {w : World} {A : Around} {Q : Flow → Shared → Prop} {E : Value → Shared → Prop} {s : Shared} {env : Env} (h : wpAny (model prog w) A (execs [] env) Q E s) : wpAny (model prog w) A (execs [] env) Q E s := by
  k_with_none
  w_top off
  first | (walk1; fail) | exact h
end Mine

section
open PyProof.V
namespace Mine
theorem words_draws : True := by
  k_with_none
  k_with "own ne" => (refine neN ?_; (try dsimp only); first | with_reducible assumption | (refine Ne.symm ?_; with_reducible assumption) | k_extra "own and" | (refine Ne.symm ?_; k_extra "own and"))
  k_with "own right" => (iterate 9 (first | done | with_reducible assumption | apply And.right))
  k_with "own and" => first | (apply And.left; k_extra "own right"; done) | (k_extra "own right"; done) | (apply And.left; apply And.left; k_extra "own right"; done) | (apply And.left; apply And.right; apply And.left; k_extra "own right"; done) | (apply And.right; apply And.left; k_extra "own right"; done) | (apply And.right; apply And.right; apply And.left; k_extra "own right"; done)
  k_with "own eval ListComp" => (k_here; lct_look; k_dflt (refine LCt.ListComp_T (F₀ := by k_asm) (by with_unfolding_all rfl) (by decide) (by rfl) (by decide) (by rfl) ?_))
  trivial

theorem ints_at {vs : List Value} {ns : List Int} (h : IntsAre vs ns) : ∀ {i : Nat} {v : Value}, vs[i]? = some v → ∃ n t, v = .int n t ∧ ns[i]? = some n := by
  induction h with
  | nil => intro i v hv; simp at hv
  | cons n t _ ih =>
    intro i v hv
    cases i with
    | zero => simp at hv; exact ⟨n, t, hv.symm, rfl⟩
    | succ i => simp at hv; simpa using ih hv

def DrJ (nws : List (Addr × Obj)) (ys : List Value) (news : List (Addr × Obj)) : Prop := news = nws ∧ ∃ zs, IntsAre ys zs ∧ ∀ z ∈ zs, (0 : Int) ≤ z

theorem DrJ.push {nws : List (Addr × Obj)} {ys : List Value} {zs : List Int} {z : Int} {t : Tok} (h1 : IntsAre ys zs) (h2 : ∀ z ∈ zs, (0 : Int) ≤ z) (h3 : 0 ≤ z) : DrJ nws (ys ++ [.int z t]) nws :=
  ⟨rfl, zs ++ [z], h1.append (.cons z t .nil), fun x hx => (List.mem_append.mp hx).elim (h2 x) fun hx => by rw [List.mem_singleton.mp hx]; exact h3⟩

theorem fresh_of {H g : Heap} {ts : List Addr} {d : Addr} (G : GSub H g ts) (h : g.get? d = none) (hd : d ∉ ts) : H.get? d = none := by
  cases e : H.get? d with
  | none => rfl
  | some o => rw [G d o e hd] at h; cases h

theorem sum_nonneg : ∀ {zs : List Int}, (∀ z ∈ zs, (0 : Int) ≤ z) → 0 ≤ zs.sum
  | [], _ => by simp
  | z :: r, h => by
    rw [List.sum_cons]
    have h1 := h z (.head _)
    have h2 := sum_nonneg (zs := r) fun x hx => h x (.tail _ hx)
    omega

theorem draws_spec {w : World} {loose : List Str} {mean : ExcName → Option Value} {mg mb : Str → Option Value}
    {dp un : Nat} {gd : Option (List Code)} {cn : Str} {cs : Scope} {a : Addr} {ccd : Value} {cl : List (Str × Addr)} {outer : List Env} {A₀ : Around} {base h₀ : Heap} {L : Addr} {m : Str → Option Value} {s : Shared}
    {Q E : Value → Shared → Prop} {l : Addr} {vs : List Value} {ns : List Int}
    (B : Below A₀ base outer h₀) (F : Fr h₀ L s.heap m) (X : (hd.heap_39 w.params).In h₀)
    (T : Top hd.view_39 loose mean mg mb h₀) (hk : cs.kind = .function)
    (hdp : dp + 1 < recursionLimit) (hun : un + 8 < cLine) (hl : base.IsList l vs.toArray) (hi : IntsAre vs ns) (hn : ns.length ≤ 63)
    (ret : ∀ d h' tk' o' g' x', 0 ≤ g' → 0 ≤ x' → h'.get? d = some o' → s.heap.get? d = none → IsDraws w o' g' x' → (d == sysModules) = false → Kept [] s.heap h' → Q (.ref d) { s with heap := h', toks := tk' }) :
    wpAny (model pr w) (ktrTop dp un gd cn cs L a ccd cl outer) (call (.ref 93) [.ref l]) Q E s := by
  have N : News h₀ L s.heap [] := .nil
  delta pr at *; revert X; k_fill; intro X
  refine wpAny_call ?_
  refine' code_defG ?k1 ?k2 ?k3 ?k4 ?k5 ?kA ?kF ?kK ?k6 ?k7 ?k8 ?k9 ?kB ?_ ?c2 ?c3 ?c4 ?c5
  case kA => exact rfl
  case kF => exact rfl
  case kK => assumption
  case k1 => k_asm
  case k2 => k_asm
  case k3 => k_asm
  case k4 => k_asm
  case k5 => k_asm
  case k6 => k_is
  case k7 => k_is
  case k8 => ktr_room
  case k9 => exact BindsTo.of_eq rfl
  case c5 => decide
  case kB => exact locs rfl
  case c2 => exact rfl
  case c3 => exact rfl
  case c4 => exact rfl
  intro g' L' h' FG' F' N' B' X' T' kG'
  try dsimp only
  try k_lift B'
  k_fold
  (k_with "pyIter ref" => k_state (fun pre x => 0 ≤ x ∧ x < 2147483647) "mixed_here")
  k_steps
  refine LCt.CompSrcT.ledger (by rfl) (by k_asm) (by k_asm) (by k_mem) ?_ ?_
  · have h1 := IntsAre.length ‹IntsAre _ (List.take 24 ns)›
    rw [List.length_take] at *
    rw [List.size_toArray, sizeLine_eq]
    omega
  intro gg
  refine comp_indT (fun _ ys news => DrJ _ ys news) ⟨rfl, [], .nil, fun _ h => nomatch h⟩ ?_ ?_
  · rintro i ys news v I oI C oC D m₂ h tk E' hin ⟨rfl, zs, hz1, hz2⟩ hv hC hx F N off ne
    obtain ⟨n, t, rfl, hn'⟩ := ints_at ‹IntsAre _ (List.take 24 ns)› (by simpa using hv)
    simp only [LCg.Off3, and_true] at off
    k_steps
    · exact DrJ.push hz1 hz2 (by split <;> omega)
    · exact ⟨rfl, zs, hz1, hz2⟩
  · rintro ys news ⟨rfl, zs, hz1, hz2⟩ D h tk F N off
    (try dsimp only)
    simp only [LCg.Off1, and_true] at off
    k_steps
    refine ret _ _ _ _ _ _ (sum_nonneg hz2) ?hx (News.get (by k_asm) (by k_mem)) ?hf ⟨_, by k_asm, by k_asm⟩ ?hlo (kept_of kG' (by k_asm))
    case hx => assumption
    case hlo => assumption
    case hf => exact fresh_of kG' (News.fresh (by k_asm) (by k_mem)) (by simp)
end Mine

end
namespace Mine
theorem flush_fate {prog : Program} {w : World} {A : Around} {Q : Flow → Shared → Prop} {E : Value → Shared → Prop} {s : Shared} {env : Env} (h : wpAny (model prog w) A (execs [] env) Q E s) : wpAny (model prog w) A (execs [] env) Q E s := by
  k_with_none
  w_top off
  first | (walk1; fail) | exact h
end Mine

section
open PyProof.V
namespace Mine
theorem words_fate : True := by
  k_with_none
  k_with "own ne" => (refine neN ?_; (try dsimp only); first | with_reducible assumption | (refine Ne.symm ?_; with_reducible assumption) | k_extra "own and" | (refine Ne.symm ?_; k_extra "own and"))
  k_with "own right" => (iterate 9 (first | done | with_reducible assumption | apply And.right))
  k_with "own and" => first | (apply And.left; k_extra "own right"; done) | (k_extra "own right"; done) | (apply And.left; apply And.left; k_extra "own right"; done) | (apply And.left; apply And.right; apply And.left; k_extra "own right"; done) | (apply And.right; apply And.left; k_extra "own right"; done) | (apply And.right; apply And.right; apply And.left; k_extra "own right"; done)
  k_with "own subscriptTail" => (k_here; (with_reducible show wpAny _ _ (subscriptTail _ _ (Value.ref _) (Value.int (Int.fmod _ 6) _)) _ _ _); k_dflt (refine' fates_pick (listIn (by k_asm) (by k_asm) (by k_is)) ?_ (by with_unfolding_all rfl); intro _))
  trivial

def kindOf (i : Int) : Str :=
  if i = 2 then Str.ofString "lost" else if i = 3 then Str.ofString "doubled" else if i = 4 then Str.ofString "delayed" else if i = 5 then Str.ofString "changed" else Str.ofString "passed"

abbrev tupObj (its : Array Value) : Obj := { cls := .type "tuple", data := .seq its }

theorem fates_pick {prog : Program} {w : World} {A : Around} {E : Value → Shared → Prop} {s : Shared} {value slice : PySem.Expr} {l : Addr} {t1 t2 t3 t4 t5 t6 u : Tok} {c : Int} {Q : Value → Shared → Prop}
    (hl : s.heap.IsList l #[.str (Str.ofString "passed") t1, .str (Str.ofString "passed") t2, .str (Str.ofString "lost") t3, .str (Str.ofString "doubled") t4, .str (Str.ofString "delayed") t5, .str (Str.ofString "changed") t6])
    (h : ∀ t, Q (.str (kindOf (c.fmod 6)) t) s)
    (hs : subscripted slice false (.ref l) (.int (c.fmod 6) u) = operate [.ref l, .int (c.fmod 6) u] (getItem (.ref l) (.int (c.fmod 6) u)) := by with_unfolding_all rfl) :
    wpAny (model prog w) A (subscriptTail value slice (.ref l) (.int (c.fmod 6) u)) Q E s := by
  have h0 := Int.fmod_nonneg_of_pos c (show (0 : Int) < 6 by decide)
  have h6 := Int.fmod_lt_of_pos c (show (0 : Int) < 6 by decide)
  refine tail_any hl.typeIs slot_list_getitem.lookup ?_ hs
  generalize c.fmod 6 = i at *
  have : i = 0 ∨ i = 1 ∨ i = 2 ∨ i = 3 ∨ i = 4 ∨ i = 5 := by omega
  rcases this with rfl | rfl | rfl | rfl | rfl | rfl <;> exact wpAny_getItem_list hl (by decide) (by decide) rfl (h _)

theorem fate_of_spec {w : World} {loose : List Str} {mean : ExcName → Option Value} {mg mb : Str → Option Value}
    {dp un : Nat} {gd : Option (List Code)} {cn : Str} {cs : Scope} {a : Addr} {ccd : Value} {cl : List (Str × Addr)} {outer : List Env} {A₀ : Around} {base h₀ : Heap} {L : Addr} {m : Str → Option Value} {s : Shared}
    {Q E : Value → Shared → Prop} {c : Int} {tc : Tok} {k : Str}
    (B : Below A₀ base outer h₀) (F : Fr h₀ L s.heap m) (X : (hd.heap_39 w.params).In h₀)
    (T : Top hd.view_39 loose mean mg mb h₀) (hk : cs.kind = .function)
    (hdp : dp + 1 < recursionLimit) (hf : kindOf (c.fmod 6) = k)
    (ret : ∀ T h' tk' t1 t2, h'.get? T = some (tupObj #[.str k t1, .int (c.fdiv 6) t2]) → s.heap.get? T = none → Kept [] s.heap h' → Q (.ref T) { s with heap := h', toks := tk' }) :
    wpAny (model pr w) (ktrTop dp un gd cn cs L a ccd cl outer) (call (.ref 22) [.int c tc]) Q E s := by
  have N : News h₀ L s.heap [] := .nil
  delta pr at *; revert X; k_fill; intro X
  refine wpAny_call ?_
  refine' code_defG ?k1 ?k2 ?k3 ?k4 ?k5 ?kA ?kF ?kK ?k6 ?k7 ?k8 ?k9 ?kB ?_ ?c2 ?c3 ?c4 ?c5
  case kA => exact rfl
  case kF => exact rfl
  case kK => assumption
  case k1 => k_asm
  case k2 => k_asm
  case k3 => k_asm
  case k4 => k_asm
  case k5 => k_asm
  case k6 => k_is
  case k7 => k_is
  case k8 => ktr_room
  case k9 => exact BindsTo.of_eq rfl
  case c5 => decide
  case kB => exact locs rfl
  case c2 => exact rfl
  case c3 => exact rfl
  case c4 => exact rfl
  intro g' L' h' FG' F' N' B' X' T' kG'
  try dsimp only
  k_fold
  k_steps
  subst hf
  exact ret _ _ _ _ _ (News.get (by k_asm) (by k_mem)) (fresh_of kG' (News.fresh (by k_asm) (by k_mem)) (by simp)) (kept_of kG' (by k_asm))

section
variable {h₀ h h' : Heap} {L T : Addr} {m : Str → Option Value} {news : List (Addr × Obj)} {o : Obj}
theorem fr_kept (F : Fr h₀ L h m) (K : Kept [] h h') : Fr h₀ L h' m := F.keeps fun b x e => K b x (by simp) e
theorem news_kept (N : News h₀ L h news) (K : Kept [] h h') : News h₀ L h' news := fun p hp => ⟨K _ _ (by simp) (N p hp).1, (N p hp).2⟩
theorem ne_fresh (F : Fr h₀ L h m) (e : h.get? T = none) : T ≠ L ∧ h₀.get? T = none := by
  refine ⟨fun q => ?_, ?_⟩
  · obtain ⟨oL, _, _, hL, _⟩ := F.ns
    rw [q, hL] at e; cases e
  · cases q : h₀.get? T with
    | none => rfl
    | some x => rw [F.keep _ _ q] at e; cases e
theorem news_new (F : Fr h₀ L h m) (N : News h₀ L h news) (K : Kept [] h h') (e : h.get? T = none) (e' : h'.get? T = some o) : News h₀ L h' ((T, o) :: news) := by
  intro p hp
  rcases List.mem_cons.mp hp with rfl | hp
  · exact ⟨e', ne_fresh F e⟩
  · exact news_kept N K p hp
theorem off_new (N : News h₀ L h news) (e : h.get? T = none) : LCg.Off1 T news := by
  have all : ∀ l : List (Addr × Obj), (∀ p ∈ l, h.get? p.1 = some p.2) → LCg.Off1 T l := by
    intro l
    induction l with
    | nil => intro _; trivial
    | cons p l ih =>
      intro hl
      refine ⟨fun q => ?_, ih fun q hq => hl q (.tail _ hq)⟩
      have := hl p (.head _)
      rw [show p.1 = T from q, e] at this; cases this
  exact all news fun p hp => (N p hp).1
end

theorem fate_of_use {w : World} {loose : List Str} {mean : ExcName → Option Value} {mg mb : Str → Option Value}
    {dp un : Nat} {gd : Option (List Code)} {cn : Str} {cs : Scope} {a : Addr} {ccd : Value} {cl : List (Str × Addr)} {outer : List Env} {A₀ : Around} {base h₀ : Heap} {L : Addr} {m : Str → Option Value} {s : Shared} {news : List (Addr × Obj)}
    {Q E : Value → Shared → Prop} {c : Int} {tc : Tok} {k : Str}
    (B : Below A₀ base outer h₀) (F : Fr h₀ L s.heap m) (X : (hd.heap_39 w.params).In h₀) (N : News h₀ L s.heap news)
    (T : Top hd.view_39 loose mean mg mb h₀) (hk : cs.kind = .function)
    (hdp : dp + 1 < recursionLimit) (hf : kindOf (c.fmod 6) = k)
    (ret : ∀ T h' tk' t1 t2, Fr h₀ L h' m → News h₀ L h' ((T, tupObj #[.str k t1, .int (c.fdiv 6) t2]) :: news) → LCg.Off1 T news → Q (.ref T) { s with heap := h', toks := tk' }) :
    wpAny (model pr w) (ktrTop dp un gd cn cs L a ccd cl outer) (call (.ref 22) [.int c tc]) Q E s :=
  fate_of_spec B F X T hk hdp hf fun T h' tk' t1 t2 h1 h2 h3 => ret T h' tk' t1 t2 (fr_kept F h3) (news_new F N h3 h2 h1) (off_new N h2)
end Mine

end
namespace Mine
theorem flush_next {prog : Program} {w : World} {A : Around} {Q : Flow → Shared → Prop} {E : Value → Shared → Prop} {s : Shared} {env : Env} (h : wpAny (model prog w) A (execs [] env) Q E s) : wpAny (model prog w) A (execs [] env) Q E s := by
  k_with_none
  w_top off
  first | (walk1; fail) | exact h
end Mine

section
open PyProof.V
namespace Mine
theorem words_next : True := by
  k_with_none
  k_with "own ne" => (refine neN ?_; (try dsimp only); first | with_reducible assumption | (refine Ne.symm ?_; with_reducible assumption) | k_extra "own and" | (refine Ne.symm ?_; k_extra "own and"))
  k_with "own right" => (iterate 9 (first | done | with_reducible assumption | apply And.right))
  k_with "own and" => first | (apply And.left; k_extra "own right"; done) | (k_extra "own right"; done) | (apply And.left; apply And.left; k_extra "own right"; done) | (apply And.left; apply And.right; apply And.left; k_extra "own right"; done) | (apply And.right; apply And.left; k_extra "own right"; done) | (apply And.right; apply And.right; apply And.left; k_extra "own right"; done)
  k_with "own call builtin:list.pop" => (k_here; k_dflt (refine' pop0 (by k_asm) (by k_asm) (by k_upd) (by omega) ?_); intro h'w F'w N'w)
  k_with "own call ref" => (k_here; (with_reducible show wpAny _ _ (call (Value.ref 22) [Value.int _ _]) _ _ _); k_dflt (refine' fate_of_use (by k_asm) (by k_asm) (by k_asm) (by k_asm) (by k_asm) (by exact rfl) (by ktr_room) (by assumption) ?_); intro T'w h'w tk'w t1'w t2'w F'w N'w off'w; (try simp only [LCg.Off1, and_true] at off'w))
  k_with "own compareOp In str ref" => (k_here; (with_reducible show wpAny _ _ (compareOp CmpOp.In (Value.str kd _) (Value.ref _)) _ _ _); refine Stop.cmp ?_)
  k_with "own compareOp NotIn str ref" => (k_here; (with_reducible show wpAny _ _ (compareOp CmpOp.NotIn (Value.str _ _) (Value.ref _)) _ _ _); (with_unfolding_all refine' notin_two_no (News.isTup (by k_asm) (by news_mem)) (by with_reducible assumption) ?_); k_whole)
  k_with "own compareOp NotIn str ref" => (k_here; (with_reducible show wpAny _ _ (compareOp CmpOp.NotIn (Value.str _ _) (Value.ref _)) _ _ _); (with_unfolding_all refine' notin_two (News.isTup (by k_asm) (by news_mem)) (by with_reducible assumption) ?_); k_whole)
  trivial

/-- hashes, tokens and count of the network's dict -/
structure NK where
  h1 : Int
  h2 : Int
  h3 : Int
  h4 : Int
  h5 : Int
  h6 : Int
  h7 : Int
  t1 : Tok
  t2 : Tok
  t3 : Tok
  t4 : Tok
  t5 : Tok
  t6 : Tok
  t7 : Tok

abbrev netDict (k : NK) (c : Addr) (u : Int) (tu : Tok) (mo : Value) (hm : Int) (thm : Tok) (ct : Int) (tct : Tok) (wt ft : Addr) : Obj :=
  dictOf [⟨k.h1, .str (Str.ofString "choices") k.t1, .ref c⟩, ⟨k.h2, .str (Str.ofString "unit") k.t2, .int u tu⟩, ⟨k.h3, .str (Str.ofString "most_harm") k.t3, mo⟩,
    ⟨k.h4, .str (Str.ofString "harmed") k.t4, .int hm thm⟩, ⟨k.h5, .str (Str.ofString "count") k.t5, .int ct tct⟩, ⟨k.h6, .str (Str.ofString "waiting") k.t6, .ref wt⟩, ⟨k.h7, .str (Str.ofString "fates") k.t7, .ref ft⟩] 7

def moV (mo : Option Int) (t : Tok) : Value := match mo with
  | none => .none
  | some q => .int q t

def harmStep (k : Str) (mo : Option Int) (hm : Int) : Str × Int :=
  if k = Str.ofString "lost" ∨ k = Str.ofString "changed" then (if mo = some hm then (Str.ofString "passed", 0) else (k, hm + 1)) else (k, 0)

theorem kind_cases (i : Int) : kindOf i = Str.ofString "passed" ∨ kindOf i = Str.ofString "lost" ∨ kindOf i = Str.ofString "doubled" ∨ kindOf i = Str.ofString "delayed" ∨ kindOf i = Str.ofString "changed" := by
  unfold kindOf
  repeat' split
  all_goals simp

theorem pop0 {prog : Program} {w : World} {A : Around} {E : Value → Shared → Prop} {s : Shared} {h₀ : Heap} {L D : Addr} {m : Str → Option Value} {news news' : List (Addr × Obj)} {n : Nat} {y : Value} {vs : List Value} {u : Tok} {Q : Value → Shared → Prop}
    (F : Fr h₀ L s.heap m) (N : News h₀ L s.heap news) (U : Upd D (W.listOf (List.toArray (y :: vs)) n) (W.listOf vs.toArray (n + 1)) news news')
    (hz : vs.length ≤ 100) (h : ∀ h', Fr h₀ L h' m → News h₀ L h' news' → Q y { s with heap := h' }) : wpAny (model prog w) A (call (.builtin "list.pop") [.ref D, .int 0 u]) Q E s :=
  kl_popAt (k := 0) (p := []) (q := vs) F N rfl (by simp [seqIndex?]) rfl U (by rw [sizeLine_eq]; simp; omega) h

theorem hs_other {k : Str} {mo : Option Int} {hm : Int} (h : ([Str.ofString "lost", Str.ofString "changed"].any (· == k)) = false) : harmStep k mo hm = (k, 0) := by
  unfold harmStep
  rw [if_neg]
  simp only [List.any_cons, List.any_nil, Bool.or_false, Bool.or_eq_false_iff, beq_eq_false_iff_ne] at h
  rintro (q | q)
  · exact h.1 q.symm
  · exact h.2 q.symm
theorem hs_passed {mo : Option Int} {hm : Int} : harmStep (Str.ofString "passed") mo hm = (Str.ofString "passed", 0) := hs_other (by decide)
theorem harm_of {k : Str} (h : ([Str.ofString "lost", Str.ofString "changed"].any (· == k)) = true) : k = Str.ofString "lost" ∨ k = Str.ofString "changed" := by
  simp only [List.any_cons, List.any_nil, Bool.or_false, Bool.or_eq_true, beq_iff_eq] at h
  rcases h with h | h
  · exact .inl h.symm
  · exact .inr h.symm
theorem hs_harm_y {k : Str} {hm : Int} (h : ([Str.ofString "lost", Str.ofString "changed"].any (· == k)) = true) : harmStep k (some hm) hm = (Str.ofString "passed", 0) := by
  unfold harmStep; rw [if_pos (harm_of h), if_pos rfl]
theorem hs_harm_n {k : Str} {mo : Option Int} {hm : Int} (h : ([Str.ofString "lost", Str.ofString "changed"].any (· == k)) = true) (hq : mo ≠ some hm) : harmStep k mo hm = (k, hm + 1) := by
  unfold harmStep; rw [if_pos (harm_of h), if_neg hq]

section
variable {prog : Program} {w : World} {A : Around} {E : Value → Shared → Prop} {s : Shared} {D : Addr} {x a c : Str} {t ta tc : Tok} {b : Bool} {Q : Value → Shared → Prop}
/-- one of two texts -/
theorem in_two (ht : IsTup s.heap D #[.str a ta, .str c tc]) (hb : ([a, c].any (· == x)) = b) (h : Q (.bool b) s) : wpAny (model prog w) A (compareOp .In (.str x t) (.ref D)) Q E s :=
  in_tuple_strs (ys := [a, c]) ht (by repeat constructor) (by rw [hb]; exact h)
theorem notin_two (ht : IsTup s.heap D #[.str a ta, .str c tc]) (hb : ([a, c].any (· == x)) = true) (h : Q (.bool false) s) : wpAny (model prog w) A (compareOp .NotIn (.str x t) (.ref D)) Q E s :=
  notin_tuple_strs (ys := [a, c]) ht (by repeat constructor) (by rw [hb]; exact h)
theorem notin_two_no (ht : IsTup s.heap D #[.str a ta, .str c tc]) (hb : ([a, c].any (· == x)) = false) (h : Q (.bool true) s) : wpAny (model prog w) A (compareOp .NotIn (.str x t) (.ref D)) Q E s :=
  notin_tuple_strs (ys := [a, c]) ht (by repeat constructor) (by rw [hb]; exact h)
end

abbrev NextPost (s : Shared) (x d NC wt NF : Addr) (k : NK) (u : Int) (tu : Tok) (mv : Value) (ct : Int) (tct : Tok) (fs : Array Value) (Q : Value → Shared → Prop) (number : Int) (vs : List Value) (r : Str × Int) : Prop :=
  ∀ T h' tk' thm' nC' nF' (fs' : Array Value) t1 t2, h'.get? T = some (tupObj #[.str r.1 t1, .int number t2]) → s.heap.get? T = none → h'.get? x = some (instObj 77 d) →
    h'.get? d = some (netDict k NC u tu mv r.2 thm' ct tct wt NF) → h'.get? NC = some (W.listOf (List.toArray vs) nC') → h'.get? NF = some (W.listOf fs' nF') → fs'.size = fs.size + 1 → Kept [x, d, NC, NF] s.heap h' → Q (.ref T) { s with heap := h', toks := tk' }

theorem next_cons {w : World} {loose : List Str} {mean : ExcName → Option Value} {mg mb : Str → Option Value}
    {dp un : Nat} {gd : Option (List Code)} {cn : Str} {cs : Scope} {a : Addr} {ccd : Value} {cl : List (Str × Addr)} {outer : List Env} {A₀ : Around} {base h₀ : Heap} {L : Addr} {m : Str → Option Value} {s : Shared}
    {Q E : Value → Shared → Prop} {x d NC wt NF : Addr} {k : NK} {u : Int} {tu : Tok} {mo : Option Int} {tmo : Tok} {hm : Int} {thm : Tok} {ct : Int} {tct : Tok} {vs : List Value} {ns : List Int} {nC : Nat} {fs : Array Value} {nF : Nat} {c : Int} {tc : Tok}
    (B : Below A₀ base outer h₀) (F : Fr h₀ L s.heap m) (X : (hd.heap_39 w.params).In h₀)
    (T : Top hd.view_39 loose mean mg mb h₀) (hk : cs.kind = .function)
    (hdp : dp + 2 < recursionLimit)
    (N : News h₀ L s.heap [(x, instObj 77 d), (d, netDict k NC u tu (moV mo tmo) hm thm ct tct wt NF), (NC, W.listOf (List.toArray (.int c tc :: vs)) nC), (NF, W.listOf fs nF)])
    (hi : IntsAre vs ns) (hvs : ns.length ≤ 63) (hfs : fs.size ≤ 63)
    (e1 : @Ne Nat x d) (e2 : @Ne Nat x NC) (e3 : @Ne Nat x NF) (e4 : @Ne Nat d NC) (e5 : @Ne Nat d NF) (e6 : @Ne Nat NC NF)
    (hmo : ∀ q, mo = some q → hm ≤ q)
    (ret : NextPost s x d NC wt NF k u tu (moV mo tmo) ct tct fs Q (c.fdiv 6) vs (harmStep (kindOf (c.fmod 6)) mo hm)) :
    wpAny (model pr w) (ktrTop dp un gd cn cs L a ccd cl outer) (call (.ref 50) [.ref x]) Q E s := by
  have hvl : vs.length ≤ 63 := by rw [hi.length]; exact hvs
  obtain ⟨kd, hkd⟩ : ∃ kd, kindOf (c.fmod 6) = kd := ⟨_, rfl⟩
  rw [hkd] at ret
  delta pr at *; revert X; k_fill; intro X
  refine wpAny_call ?_
  refine' code_defG ?k1 ?k2 ?k3 ?k4 ?k5 ?kA ?kF ?kK ?k6 ?k7 ?k8 ?k9 ?kB ?_ ?c2 ?c3 ?c4 ?c5
  case kA => exact rfl
  case kF => exact rfl
  case kK => assumption
  case k1 => k_asm
  case k2 => k_asm
  case k3 => k_asm
  case k4 => k_asm
  case k5 => k_asm
  case k6 => k_is
  case k7 => k_is
  case k8 => ktr_room
  case k9 => exact BindsTo.of_eq rfl
  case c5 => decide
  case kB => exact locs rfl
  case c2 => exact rfl
  case c3 => exact rfl
  case c4 => exact rfl
  intro g' L' h' FG' F' N' B' X' T' kG'
  try dsimp only
  k_fold
  k_steps
  refine Stop.open ?_
  cases hin : [Str.ofString "lost", Str.ofString "changed"].any (· == kd)
  · rw [hs_other hin] at ret
    refine in_two (News.isTup (by k_asm) (by news_mem)) hin ?_
    k_steps
    exact ret _ _ _ _ _ _ _ _ _ (News.get (by k_asm) (by k_mem)) (fresh_of kG' (News.fresh (by k_asm) (by k_mem)) (nm (by k_ne) (nm (by k_ne) (nm (by k_ne) (nm (by k_ne) (List.not_mem_nil)))))) (News.get (by k_asm) (by k_mem)) (News.get (by k_asm) (by k_mem)) (News.get (by k_asm) (by k_mem)) (News.get (by k_asm) (by k_mem)) (by simp) (kept_of kG' (by k_asm))
  · rename News g' L' _ ((_, tupObj #[Value.str (Str.ofString "lost") _, _]) :: _) => NN
    rcases mo with - | q
    · rw [hs_harm_n hin (by simp)] at ret
      dsimp only [moV] at NN ret
      refine in_two (News.isTup (by k_asm) (by news_mem)) hin ?_
      k_steps
      exact ret _ _ _ _ _ _ _ _ _ (News.get (by k_asm) (by k_mem)) (fresh_of kG' (News.fresh (by k_asm) (by k_mem)) (nm (by k_ne) (nm (by k_ne) (nm (by k_ne) (nm (by k_ne) (List.not_mem_nil)))))) (News.get (by k_asm) (by k_mem)) (News.get (by k_asm) (by k_mem)) (News.get (by k_asm) (by k_mem)) (News.get (by k_asm) (by k_mem)) (by simp) (kept_of kG' (by k_asm))
    · have hq1 := hmo q rfl
      by_cases hq : q = hm
      · subst hq
        rw [hs_harm_y hin] at ret
        dsimp only [moV] at NN ret
        refine in_two (News.isTup (by k_asm) (by news_mem)) hin ?_
        k_steps
        exact ret _ _ _ _ _ _ _ _ _ (News.get (by k_asm) (by k_mem)) (fresh_of kG' (News.fresh (by k_asm) (by k_mem)) (nm (by k_ne) (nm (by k_ne) (nm (by k_ne) (nm (by k_ne) (List.not_mem_nil)))))) (News.get (by k_asm) (by k_mem)) (News.get (by k_asm) (by k_mem)) (News.get (by k_asm) (by k_mem)) (News.get (by k_asm) (by k_mem)) (by simp) (kept_of kG' (by k_asm))
      · rw [hs_harm_n hin (by simpa using hq)] at ret
        dsimp only [moV] at NN ret
        refine in_two (News.isTup (by k_asm) (by news_mem)) hin ?_
        k_steps
        exact ret _ _ _ _ _ _ _ _ _ (News.get (by k_asm) (by k_mem)) (fresh_of kG' (News.fresh (by k_asm) (by k_mem)) (nm (by k_ne) (nm (by k_ne) (nm (by k_ne) (nm (by k_ne) (List.not_mem_nil)))))) (News.get (by k_asm) (by k_mem)) (News.get (by k_asm) (by k_mem)) (News.get (by k_asm) (by k_mem)) (News.get (by k_asm) (by k_mem)) (by simp) (kept_of kG' (by k_asm))

theorem next_nil {w : World} {loose : List Str} {mean : ExcName → Option Value} {mg mb : Str → Option Value}
    {dp un : Nat} {gd : Option (List Code)} {cn : Str} {cs : Scope} {a : Addr} {ccd : Value} {cl : List (Str × Addr)} {outer : List Env} {A₀ : Around} {base h₀ : Heap} {L : Addr} {m : Str → Option Value} {s : Shared}
    {Q E : Value → Shared → Prop} {x d NC wt NF : Addr} {k : NK} {u : Int} {tu : Tok} {mo : Option Int} {tmo : Tok} {hm : Int} {thm : Tok} {ct : Int} {tct : Tok} {nC : Nat} {fs : Array Value} {nF : Nat}
    (B : Below A₀ base outer h₀) (F : Fr h₀ L s.heap m) (X : (hd.heap_39 w.params).In h₀)
    (T : Top hd.view_39 loose mean mg mb h₀) (hk : cs.kind = .function)
    (hdp : dp + 2 < recursionLimit)
    (N : News h₀ L s.heap [(x, instObj 77 d), (d, netDict k NC u tu (moV mo tmo) hm thm ct tct wt NF), (NC, W.listOf #[] nC), (NF, W.listOf fs nF)])
    (hfs : fs.size ≤ 63)
    (e1 : @Ne Nat x d) (e2 : @Ne Nat x NC) (e3 : @Ne Nat x NF) (e4 : @Ne Nat d NC) (e5 : @Ne Nat d NF) (e6 : @Ne Nat NC NF)
    (ret : NextPost s x d NC wt NF k u tu (moV mo tmo) ct tct fs Q 0 [] (Str.ofString "passed", 0)) :
    wpAny (model pr w) (ktrTop dp un gd cn cs L a ccd cl outer) (call (.ref 50) [.ref x]) Q E s := by
  delta pr at *; revert X; k_fill; intro X
  refine wpAny_call ?_
  refine' code_defG ?k1 ?k2 ?k3 ?k4 ?k5 ?kA ?kF ?kK ?k6 ?k7 ?k8 ?k9 ?kB ?_ ?c2 ?c3 ?c4 ?c5
  case kA => exact rfl
  case kF => exact rfl
  case kK => assumption
  case k1 => k_asm
  case k2 => k_asm
  case k3 => k_asm
  case k4 => k_asm
  case k5 => k_asm
  case k6 => k_is
  case k7 => k_is
  case k8 => ktr_room
  case k9 => exact BindsTo.of_eq rfl
  case c5 => decide
  case kB => exact locs rfl
  case c2 => exact rfl
  case c3 => exact rfl
  case c4 => exact rfl
  intro g' L' h' FG' F' N' B' X' T' kG'
  try dsimp only
  k_fold
  k_steps
  exact ret _ _ _ _ _ _ _ _ _ (News.get (by k_asm) (by k_mem)) (fresh_of kG' (News.fresh (by k_asm) (by k_mem)) (nm (by k_ne) (nm (by k_ne) (nm (by k_ne) (nm (by k_ne) (List.not_mem_nil)))))) (News.get (by k_asm) (by k_mem)) (News.get (by k_asm) (by k_mem)) (News.get (by k_asm) (by k_mem)) (News.get (by k_asm) (by k_mem)) (by simp) (kept_of kG' (by k_asm))
end Mine

end
namespace Mine
theorem flush_put {prog : Program} {w : World} {A : Around} {Q : Flow → Shared → Prop} {E : Value → Shared → Prop} {s : Shared} {env : Env} (h : wpAny (model prog w) A (execs [] env) Q E s) : wpAny (model prog w) A (execs [] env) Q E s := by
  k_with_none
  w_top off
  first | (walk1; fail) | exact h
end Mine

section
open PyProof.V
namespace Mine
theorem words_put : True := by
  k_with_none
  k_with "own ne" => (refine neN ?_; (try dsimp only); first | with_reducible assumption | (refine Ne.symm ?_; with_reducible assumption) | k_extra "own and" | (refine Ne.symm ?_; k_extra "own and"))
  k_with "own right" => (iterate 9 (first | done | with_reducible assumption | apply And.right))
  k_with "own and" => first | (apply And.left; k_extra "own right"; done) | (k_extra "own right"; done) | (apply And.left; apply And.left; k_extra "own right"; done) | (apply And.left; apply And.right; apply And.left; k_extra "own right"; done) | (apply And.right; apply And.left; k_extra "own right"; done) | (apply And.right; apply And.right; apply And.left; k_extra "own right"; done)
  trivial

theorem put_spec {w : World} {loose : List Str} {mean : ExcName → Option Value} {mg mb : Str → Option Value}
    {dp un : Nat} {gd : Option (List Code)} {cn : Str} {cs : Scope} {a : Addr} {ccd : Value} {cl : List (Str × Addr)} {outer : List Env} {A₀ : Around} {base h₀ : Heap} {L : Addr} {m : Str → Option Value} {s : Shared}
    {Q E : Value → Shared → Prop} {x d NC NW NF : Addr} {k : NK} {u : Int} {tu : Tok} {mv : Value} {hm : Int} {thm : Tok} {ct : Int} {tct : Tok} {ws : Array Value} {nW : Nat}
    {tm : Int} {ttm : Tok} {g : Int} {tg : Tok} {p : Str} {tp : Tok} {b : Array UInt8} {tb : Tok}
    (B : Below A₀ base outer h₀) (F : Fr h₀ L s.heap m) (X : (hd.heap_39 w.params).In h₀)
    (T : Top hd.view_39 loose mean mg mb h₀) (hk : cs.kind = .function)
    (hdp : dp + 2 < recursionLimit)
    (N : News h₀ L s.heap [(x, instObj 77 d), (d, netDict k NC u tu mv hm thm ct tct NW NF), (NW, W.listOf ws nW)])
    (hws : ws.size ≤ 63) (e1 : @Ne Nat x d) (e2 : @Ne Nat x NW) (e3 : @Ne Nat d NW)
    (ret : ∀ T h' tk' tct' nW', h'.get? T = some (tupObj #[.int tm ttm, .int ct tct, .int g tg, .str p tp, .bytes b tb]) → s.heap.get? T = none → h'.get? x = some (instObj 77 d) →
      h'.get? d = some (netDict k NC u tu mv hm thm (ct + 1) tct' NW NF) → h'.get? NW = some (W.listOf (ws.push (.ref T)) nW') → Kept [x, d, NW] s.heap h' → Q .none { s with heap := h', toks := tk' }) :
    wpAny (model pr w) (ktrTop dp un gd cn cs L a ccd cl outer) (call (.ref 57) [.ref x, .int tm ttm, .int g tg, .str p tp, .bytes b tb]) Q E s := by
  delta pr at *; revert X; k_fill; intro X
  refine wpAny_call ?_
  refine' code_defG ?k1 ?k2 ?k3 ?k4 ?k5 ?kA ?kF ?kK ?k6 ?k7 ?k8 ?k9 ?kB ?_ ?c2 ?c3 ?c4 ?c5
  case kA => exact rfl
  case kF => exact rfl
  case kK => assumption
  case k1 => k_asm
  case k2 => k_asm
  case k3 => k_asm
  case k4 => k_asm
  case k5 => k_asm
  case k6 => k_is
  case k7 => k_is
  case k8 => ktr_room
  case k9 => exact BindsTo.of_eq rfl
  case c5 => decide
  case kB => exact locs rfl
  case c2 => exact rfl
  case c3 => exact rfl
  case c4 => exact rfl
  intro g' L' h' FG' F' N' B' X' T' kG'
  try dsimp only
  k_fold
  k_steps
  exact ret _ _ _ _ _ (News.get (by k_asm) (by k_mem)) (fresh_of kG' (News.fresh (by k_asm) (by k_mem)) (nm (by k_ne) (nm (by k_ne) (nm (by k_ne) (List.not_mem_nil))))) (News.get (by k_asm) (by k_mem)) (News.get (by k_asm) (by k_mem)) (News.get (by k_asm) (by k_mem)) (kept_of kG' (by k_asm))

section
variable {h₀ h h' : Heap} {L d x : Addr} {m : Str → Option Value} {news : List (Addr × Obj)} {o ox : Obj} {g : Obj → List (Addr × Obj)}
theorem updF_mem (U : UpdF d o news g) {o' : Obj} {p : Addr × Obj} (hp : p ∈ g o') : p = (d, o') ∨ (p ∈ news ∧ p.1 ≠ d) := by
  obtain ⟨pre, post, e, hg, a, b⟩ := U.split
  rw [hg] at hp
  rcases List.mem_append.mp hp with hp | hp
  · exact .inr ⟨by rw [e]; exact List.mem_append_left _ hp, a p hp⟩
  · rcases List.mem_cons.mp hp with rfl | hp
    · exact .inl rfl
    · exact .inr ⟨by rw [e]; exact List.mem_append_right _ (.tail _ hp), b p hp⟩
theorem updF_has (U : UpdF d o news g) : (d, o) ∈ news := by
  obtain ⟨pre, post, e, _⟩ := U.split
  rw [e]; exact List.mem_append_right _ (.head _)
/-- a ledger behind a step that touches ts alone -/
theorem news_touch {ts : List Addr} {news' : List (Addr × Obj)} (N : News h₀ L h news) (K : Kept ts h h') (hall : ∀ p ∈ news', (p ∈ news ∧ p.1 ∉ ts) ∨ (h'.get? p.1 = some p.2 ∧ ∃ o, (p.1, o) ∈ news)) : News h₀ L h' news' := by
  intro p hp
  rcases hall p hp with ⟨h1, h2⟩ | ⟨h1, o, h2⟩
  · exact ⟨K _ _ h2 (N p h1).1, (N p h1).2⟩
  · exact ⟨h1, (N _ h2).2⟩
theorem fr_touch {ts : List Addr} (F : Fr h₀ L h m) (K : Kept ts h h') (hL : L ∉ ts) (h0 : ∀ a ∈ ts, h₀.get? a = none) : Fr h₀ L h' m := by
  obtain ⟨oL, es, ep, hL', r⟩ := F.ns
  exact ⟨⟨oL, es, ep, K L oL hL hL', r⟩, fun b o e => K b o (fun q => by rw [h0 b q] at e; cases e) (F.keep b o e), F.above⟩
end

theorem put_use {w : World} {loose : List Str} {mean : ExcName → Option Value} {mg mb : Str → Option Value}
    {dp un : Nat} {gd : Option (List Code)} {cn : Str} {cs : Scope} {a : Addr} {ccd : Value} {cl : List (Str × Addr)} {outer : List Env} {A₀ : Around} {base h₀ : Heap} {L : Addr} {m : Str → Option Value} {s : Shared}
    {Q E : Value → Shared → Prop} {x d NC NW NF : Addr} {k : NK} {u : Int} {tu : Tok} {mv : Value} {hm : Int} {thm : Tok} {ct : Int} {tct : Tok} {ws : Array Value} {nW : Nat}
    {tm : Int} {ttm : Tok} {g : Int} {tg : Tok} {p : Str} {tp : Tok} {b : Array UInt8} {tb : Tok} {news : List (Addr × Obj)} {g1 : Obj → List (Addr × Obj)} {g2 : Obj → Obj → List (Addr × Obj)}
    (B : Below A₀ base outer h₀) (F : Fr h₀ L s.heap m) (X : (hd.heap_39 w.params).In h₀)
    (T : Top hd.view_39 loose mean mg mb h₀) (hk : cs.kind = .function) (hdp : dp + 2 < recursionLimit)
    (N : News h₀ L s.heap news) (mx : (x, instObj 77 d) ∈ news) (U1 : UpdF d (netDict k NC u tu mv hm thm ct tct NW NF) news g1) (U2 : ∀ o, UpdF NW (W.listOf ws nW) (g1 o) (g2 o))
    (hws : ws.size ≤ 63) (e1 : @Ne Nat x d) (e2 : @Ne Nat x NW) (e3 : @Ne Nat d NW)
    (ret : ∀ T h' tk' tct' nW', Fr h₀ L h' m → News h₀ L h' ((T, tupObj #[.int tm ttm, .int ct tct, .int g tg, .str p tp, .bytes b tb]) :: g2 (netDict k NC u tu mv hm thm (ct + 1) tct' NW NF) (W.listOf (ws.push (.ref T)) nW')) → LCg.Off1 T news → Q .none { s with heap := h', toks := tk' }) :
    wpAny (model pr w) (ktrTop dp un gd cn cs L a ccd cl outer) (call (.ref 57) [.ref x, .int tm ttm, .int g tg, .str p tp, .bytes b tb]) Q E s := by
  have md := updF_has U1
  have mw : (NW, W.listOf ws nW) ∈ news := by
    rcases updF_mem U1 (updF_has (U2 default)) with q | q
    · exact absurd (congrArg Prod.fst q).symm e3
    · exact q.1
  have N3 : News h₀ L s.heap [(x, instObj 77 d), (d, netDict k NC u tu mv hm thm ct tct NW NF), (NW, W.listOf ws nW)] := fun p hp => by
    rcases List.mem_cons.mp hp with rfl | hp
    · exact N _ mx
    · rcases List.mem_cons.mp hp with rfl | hp
      · exact N _ md
      · rw [List.mem_singleton.mp hp]; exact N _ mw
  refine put_spec B F X T hk hdp N3 hws e1 e2 e3 fun T h' tk' tct' nW' a1 a2 a3 a4 a5 K => ?_
  have hL : L ∉ [x, d, NW] := by
    intro hp
    rcases List.mem_cons.mp hp with q | hp
    · exact (N _ mx).2.1 q.symm
    · rcases List.mem_cons.mp hp with q | hp
      · exact (N _ md).2.1 q.symm
      · exact (N _ mw).2.1 (List.mem_singleton.mp hp).symm
  have h0 : ∀ a ∈ [x, d, NW], h₀.get? a = none := fun a hp => by
    rcases List.mem_cons.mp hp with q | hp
    · rw [q]; exact (N _ mx).2.2
    · rcases List.mem_cons.mp hp with q | hp
      · rw [q]; exact (N _ md).2.2
      · rw [List.mem_singleton.mp hp]; exact (N _ mw).2.2
  refine ret T h' tk' tct' nW' (fr_touch F K hL h0) ?_ (off_new N a2)
  have N' : News h₀ L h' (g2 (netDict k NC u tu mv hm thm (ct + 1) tct' NW NF) (W.listOf (ws.push (.ref T)) nW')) := by
    refine news_touch N K fun p hp => ?_
    rcases updF_mem (U2 _) hp with rfl | ⟨hp, hn1⟩
    · exact .inr ⟨a5, _, mw⟩
    · rcases updF_mem U1 hp with rfl | ⟨hp, hn2⟩
      · exact .inr ⟨a4, _, md⟩
      · by_cases hx : p.1 = x
        · refine .inr ⟨?_, _, hp⟩
          have e := (N p hp).1
          rw [hx, (N _ mx).1] at e
          rw [hx, a3, ← Option.some.inj e]
        · exact .inl ⟨hp, by simp only [List.mem_cons, List.not_mem_nil, or_false, not_or]; exact ⟨hx, hn2, hn1⟩⟩
  intro p hp
  rcases List.mem_cons.mp hp with rfl | hp
  · exact ⟨a1, ne_fresh F a2⟩
  · exact N' p hp
end Mine

end
namespace Mine
theorem flush_nuse {prog : Program} {w : World} {A : Around} {Q : Flow → Shared → Prop} {E : Value → Shared → Prop} {s : Shared} {env : Env} (h : wpAny (model prog w) A (execs [] env) Q E s) : wpAny (model prog w) A (execs [] env) Q E s := by
  k_with_none
  w_top off
  first | (walk1; fail) | exact h
end Mine

section
open PyProof.V
namespace Mine

theorem next_spec {w : World} {loose : List Str} {mean : ExcName → Option Value} {mg mb : Str → Option Value}
    {dp un : Nat} {gd : Option (List Code)} {cn : Str} {cs : Scope} {a : Addr} {ccd : Value} {cl : List (Str × Addr)} {outer : List Env} {A₀ : Around} {base h₀ : Heap} {L : Addr} {m : Str → Option Value} {s : Shared}
    {Q E : Value → Shared → Prop} {x d NC wt NF : Addr} {k : NK} {u : Int} {tu : Tok} {mo : Option Int} {tmo : Tok} {hm : Int} {thm : Tok} {ct : Int} {tct : Tok} {vs : List Value} {ns : List Int} {nC : Nat} {fs : Array Value} {nF : Nat}
    (B : Below A₀ base outer h₀) (F : Fr h₀ L s.heap m) (X : (hd.heap_39 w.params).In h₀)
    (T : Top hd.view_39 loose mean mg mb h₀) (hk : cs.kind = .function) (hdp : dp + 2 < recursionLimit)
    (N : News h₀ L s.heap [(x, instObj 77 d), (d, netDict k NC u tu (moV mo tmo) hm thm ct tct wt NF), (NC, W.listOf (List.toArray vs) nC), (NF, W.listOf fs nF)])
    (hi : IntsAre vs ns) (hvs : ns.length ≤ 60) (hfs : fs.size ≤ 63)
    (e1 : @Ne Nat x d) (e2 : @Ne Nat x NC) (e3 : @Ne Nat x NF) (e4 : @Ne Nat d NC) (e5 : @Ne Nat d NF) (e6 : @Ne Nat NC NF)
    (hmo : ∀ q, mo = some q → hm ≤ q)
    (ret : NextPost s x d NC wt NF k u tu (moV mo tmo) ct tct fs Q ((ns.headD 0).fdiv 6) vs.tail (harmStep (kindOf ((ns.headD 0).fmod 6)) mo hm)) :
    wpAny (model pr w) (ktrTop dp un gd cn cs L a ccd cl outer) (call (.ref 50) [.ref x]) Q E s := by
  cases hi with
  | nil => exact next_nil B F X T hk hdp N hfs e1 e2 e3 e4 e5 e6 (by rw [show harmStep (kindOf ((([] : List Int).headD 0).fmod 6)) mo hm = (Str.ofString "passed", 0) from hs_passed] at ret; exact ret)
  | cons c t hi => exact next_cons B F X T hk hdp N hi (by simp at hvs; omega) hfs e1 e2 e3 e4 e5 e6 hmo ret

theorem next_use {w : World} {loose : List Str} {mean : ExcName → Option Value} {mg mb : Str → Option Value}
    {dp un : Nat} {gd : Option (List Code)} {cn : Str} {cs : Scope} {a : Addr} {ccd : Value} {cl : List (Str × Addr)} {outer : List Env} {A₀ : Around} {base h₀ : Heap} {L : Addr} {m : Str → Option Value} {s : Shared}
    {Q E : Value → Shared → Prop} {x d NC wt NF : Addr} {k : NK} {u : Int} {tu : Tok} {mo : Option Int} {tmo : Tok} {hm : Int} {thm : Tok} {ct : Int} {tct : Tok} {vs : List Value} {ns : List Int} {nC : Nat} {fs : Array Value} {nF : Nat}
    {news : List (Addr × Obj)} {g1 : Obj → List (Addr × Obj)} {g2 : Obj → Obj → List (Addr × Obj)} {g3 : Obj → Obj → Obj → List (Addr × Obj)} {f : Str} {hm' : Int}
    (B : Below A₀ base outer h₀) (F : Fr h₀ L s.heap m) (X : (hd.heap_39 w.params).In h₀)
    (T : Top hd.view_39 loose mean mg mb h₀) (hk : cs.kind = .function) (hdp : dp + 2 < recursionLimit)
    (N : News h₀ L s.heap news) (mx : (x, instObj 77 d) ∈ news) (U1 : UpdF d (netDict k NC u tu (moV mo tmo) hm thm ct tct wt NF) news g1)
    (U2 : ∀ o, UpdF NC (W.listOf (List.toArray vs) nC) (g1 o) (g2 o)) (U3 : ∀ o o', UpdF NF (W.listOf fs nF) (g2 o o') (g3 o o'))
    (hi : IntsAre vs ns) (hvs : ns.length ≤ 60) (hfs : fs.size ≤ 63)
    (e1 : @Ne Nat x d) (e2 : @Ne Nat x NC) (e3 : @Ne Nat x NF) (e4 : @Ne Nat d NC) (e5 : @Ne Nat d NF) (e6 : @Ne Nat NC NF)
    (hmo : ∀ q, mo = some q → hm ≤ q) (hr : harmStep (kindOf ((ns.headD 0).fmod 6)) mo hm = (f, hm'))
    (ret : ∀ T h' tk' thm' nC' nF' (fs' : Array Value) t1 t2, Fr h₀ L h' m → News h₀ L h' ((T, tupObj #[.str f t1, .int ((ns.headD 0).fdiv 6) t2]) ::
      g3 (netDict k NC u tu (moV mo tmo) hm' thm' ct tct wt NF) (W.listOf (List.toArray vs.tail) nC') (W.listOf fs' nF')) → LCg.Off1 T news → fs'.size = fs.size + 1 → Q (.ref T) { s with heap := h', toks := tk' }) :
    wpAny (model pr w) (ktrTop dp un gd cn cs L a ccd cl outer) (call (.ref 50) [.ref x]) Q E s := by
  have md := updF_has U1
  have mc : (NC, W.listOf (List.toArray vs) nC) ∈ news := by
    rcases updF_mem U1 (updF_has (U2 default)) with q | q
    · exact absurd (congrArg Prod.fst q).symm e4
    · exact q.1
  have mf : (NF, W.listOf fs nF) ∈ news := by
    rcases updF_mem (U2 _) (updF_has (U3 default default)) with q | q
    · exact absurd (congrArg Prod.fst q).symm e6
    · rcases updF_mem U1 q.1 with q | q
      · exact absurd (congrArg Prod.fst q).symm e5
      · exact q.1
  have N4 : News h₀ L s.heap [(x, instObj 77 d), (d, netDict k NC u tu (moV mo tmo) hm thm ct tct wt NF), (NC, W.listOf (List.toArray vs) nC), (NF, W.listOf fs nF)] := fun p hp => by
    rcases List.mem_cons.mp hp with rfl | hp
    · exact N _ mx
    · rcases List.mem_cons.mp hp with rfl | hp
      · exact N _ md
      · rcases List.mem_cons.mp hp with rfl | hp
        · exact N _ mc
        · rw [List.mem_singleton.mp hp]; exact N _ mf
  have all : ∀ a ∈ [x, d, NC, NF], ∃ o, (a, o) ∈ news := fun a hp => by
    rcases List.mem_cons.mp hp with rfl | hp
    · exact ⟨_, mx⟩
    · rcases List.mem_cons.mp hp with rfl | hp
      · exact ⟨_, md⟩
      · rcases List.mem_cons.mp hp with rfl | hp
        · exact ⟨_, mc⟩
        · rw [List.mem_singleton.mp hp]; exact ⟨_, mf⟩
  refine next_spec B F X T hk hdp N4 hi hvs hfs e1 e2 e3 e4 e5 e6 hmo ?_
  rw [hr]
  intro T h' tk' thm' nC' nF' fs' t1 t2 a1 a2 a3 a4 a5 a6 a7 K
  have hL : L ∉ [x, d, NC, NF] := fun hp => by obtain ⟨o, ho⟩ := all L hp; exact (N _ ho).2.1 rfl
  have h0 : ∀ a ∈ [x, d, NC, NF], h₀.get? a = none := fun a hp => by obtain ⟨o, ho⟩ := all a hp; exact (N _ ho).2.2
  refine ret T h' tk' thm' nC' nF' fs' t1 t2 (fr_touch F K hL h0) ?_ (off_new N a2) a7
  have N' : News h₀ L h' (g3 (netDict k NC u tu (moV mo tmo) hm' thm' ct tct wt NF) (W.listOf (List.toArray vs.tail) nC') (W.listOf fs' nF')) := by
    refine news_touch N K fun p hp => ?_
    rcases updF_mem (U3 _ _) hp with rfl | ⟨hp, hn1⟩
    · exact .inr ⟨a6, _, mf⟩
    · rcases updF_mem (U2 _) hp with rfl | ⟨hp, hn2⟩
      · exact .inr ⟨a5, _, mc⟩
      · rcases updF_mem U1 hp with rfl | ⟨hp, hn3⟩
        · exact .inr ⟨a4, _, md⟩
        · by_cases hx : p.1 = x
          · refine .inr ⟨?_, _, hp⟩
            have e := (N p hp).1
            rw [hx, (N _ mx).1] at e
            rw [hx, a3, ← Option.some.inj e]
          · exact .inl ⟨hp, by simp only [List.mem_cons, List.not_mem_nil, or_false, not_or]; exact ⟨hx, hn3, hn2, hn1⟩⟩
  intro p hp
  rcases List.mem_cons.mp hp with rfl | hp
  · exact ⟨a1, ne_fresh F a2⟩
  · exact N' p hp

theorem chg_use {w : World} {loose : List Str} {mean : ExcName → Option Value} {mg mb : Str → Option Value}
    {dp un : Nat} {gd : Option (List Code)} {cn : Str} {cs : Scope} {a : Addr} {ccd : Value} {cl : List (Str × Addr)} {outer : List Env} {A₀ : Around} {base h₀ : Heap} {L : Addr} {m : Str → Option Value} {s : Shared}
    {Q E : Value → Shared → Prop} {b : Array UInt8} {tb : Tok} {k : Int} {tk : Tok} {news : List (Addr × Obj)}
    (B : Below A₀ base outer h₀) (F : Fr h₀ L s.heap m) (X : (hd.heap_39 w.params).In h₀)
    (T : Top hd.view_39 loose mean mg mb h₀) (hk : cs.kind = .function) (hdp : dp + 1 < recursionLimit) (hun : un + 8 < cLine) (hb : b.size ≤ 1000) (N : News h₀ L s.heap news)
    (ret : ∀ b' t h' tk', Fr h₀ L h' m → News h₀ L h' news → KBw.bInts b' = chgL (KBw.bInts b) k → Q (.bytes b' t) { s with heap := h', toks := tk' }) :
    wpAny (model pr w) (ktrTop dp un gd cn cs L a ccd cl outer) (call (.ref 29) [.bytes b tb, .int k tk]) Q E s :=
  chg_spec B F X T hk hdp hun hb fun b' t h' tk' h1 h2 => ret b' t h' tk' (fr_kept F h2) (news_kept N h2) h1
theorem lchg_use {w : World} {loose : List Str} {mean : ExcName → Option Value} {mg mb : Str → Option Value}
    {dp un : Nat} {gd : Option (List Code)} {cn : Str} {cs : Scope} {a : Addr} {ccd : Value} {cl : List (Str × Addr)} {outer : List Env} {A₀ : Around} {base h₀ : Heap} {L : Addr} {m : Str → Option Value} {s : Shared}
    {Q E : Value → Shared → Prop} {b : Array UInt8} {tb : Tok} {k : Int} {tk : Tok} {news : List (Addr × Obj)}
    (B : Below A₀ base outer h₀) (F : Fr h₀ L s.heap m) (X : (hd.heap_39 w.params).In h₀)
    (T : Top hd.view_39 loose mean mg mb h₀) (hk : cs.kind = .function) (hdp : dp + 1 < recursionLimit) (hun : un + 8 < cLine) (hb : b.size ≤ 1000) (N : News h₀ L s.heap news)
    (ret : ∀ b' t h' tk', Fr h₀ L h' m → News h₀ L h' news → KBw.bInts b' = chgL (KBw.bInts b) k → Q (.bytes b' t) { s with heap := h', toks := tk' }) :
    wpAny (model pr w) (ktrTop dp un gd cn cs L a ccd cl outer) (call (.ref 100) [.bytes b tb, .int k tk]) Q E s :=
  lchg_spec B F X T hk hdp hun hb fun b' t h' tk' h1 h2 => ret b' t h' tk' (fr_kept F h2) (news_kept N h2) h1
end Mine

end
namespace Mine
theorem flush_carry {prog : Program} {w : World} {A : Around} {Q : Flow → Shared → Prop} {E : Value → Shared → Prop} {s : Shared} {env : Env} (h : wpAny (model prog w) A (execs [] env) Q E s) : wpAny (model prog w) A (execs [] env) Q E s := by
  k_with_none
  w_top off
  first | (walk1; fail) | exact h
end Mine

section
open PyProof.V
namespace Mine
theorem words_carry : True := by
  k_with_none
  k_with "own ne" => (refine neN ?_; (try dsimp only); first | with_reducible assumption | (refine Ne.symm ?_; with_reducible assumption) | k_extra "own and" | (refine Ne.symm ?_; k_extra "own and"))
  k_with "own right" => (iterate 9 (first | done | with_reducible assumption | apply And.right))
  k_with "own and" => first | (apply And.left; k_extra "own right"; done) | (k_extra "own right"; done) | (apply And.left; apply And.left; k_extra "own right"; done) | (apply And.left; apply And.right; apply And.left; k_extra "own right"; done) | (apply And.right; apply And.left; k_extra "own right"; done) | (apply And.right; apply And.right; apply And.left; k_extra "own right"; done)
  k_with "own call ref" => (k_here; (k_dflt show wpAny _ _ (call (Value.ref 50) [Value.ref _]) _ _ _); k_dflt (refine' next_use (by k_asm) (by k_asm) (by k_asm) (by k_asm) (by exact rfl) (by ktr_room) (by k_asm) (by k_mem) (by k_updF) (by intro oAw; (try dsimp only); k_updF) (by intro oAw oBw; (try dsimp only); k_updF) (by assumption) (by assumption) (by assumption) (by assumption) (by assumption) (by assumption) (by assumption) (by assumption) (by assumption) (by assumption) (by assumption) ?_); intro T'w h'w tk'w thm'w nC'w nF'w fs'w t1'w t2'w F'w N'w off'w hfs'w; (try simp only [LCg.Off1, and_true] at off'w); (try dsimp only at N'w))
  k_with "own call ref" => (k_here; (k_dflt show wpAny _ _ (call (Value.ref 57) [Value.ref _, Value.int _ _, Value.int _ _, Value.str _ _, Value.bytes _ _]) _ _ _); k_dflt (refine' put_use (by k_asm) (by k_asm) (by k_asm) (by k_asm) (by exact rfl) (by ktr_room) (by k_asm) (by k_mem) (by k_updF) (by intro oAw; (try dsimp only); k_updF) (by (try simp only [Array.size_push]); omega) (by assumption) (by assumption) (by assumption) ?_); intro T'w h'w tk'w tct'w nW'w F'w N'w off'w; (try simp only [LCg.Off1, and_true] at off'w); (try dsimp only at N'w))
  k_with "own call ref" => (k_here; (k_dflt show wpAny _ _ (call (Value.ref 29) [Value.bytes _ _, Value.int _ _]) _ _ _); k_dflt (refine' chg_use (by k_asm) (by k_asm) (by k_asm) (by k_asm) (by exact rfl) (by ktr_room) (by ktr_units) (by assumption) (by k_asm) ?_); intro b'w t'w h'w tk'w F'w N'w hb'w)
  k_with "own compareOp Eq str str" => (k_here; (with_reducible show wpAny _ _ (compareOp CmpOp.Eq (Value.str f _) (Value.str _ _)) _ _ _); refine Stop.cmp ?_)
  trivial

/-- a datagram on its way: time, order, goal, path, octets -/
structure Row where
  t : Int
  o : Int
  g : Int
  p : Str
  d : List Int

inductive RowNet (h : Heap) (v : Value) (r : Row) : Prop where
  | mk (a : Addr) (arr : Array UInt8) (t1 t2 t3 t4 t5 : Tok) (e : v = .ref a) (q : h.get? a = some (tupObj #[.int r.t t1, .int r.o t2, .int r.g t3, .str r.p t4, .bytes arr t5])) (d : KBw.bInts arr = r.d)
noncomputable def RowsAre (P : Value → Row → Prop) : List Value → List Row → Prop
  | [], [] => True
  | v :: vs, r :: rs => P v r ∧ RowsAre P vs rs
  | _, _ => False

def carryRows (f : Str) (q now u ct g : Int) (p : Str) (d : List Int) : List Row :=
  if f = Str.ofString "lost" then [] else
  if f = Str.ofString "delayed" then [⟨now + u + u * (1 + q.fmod 7), ct, g, p, d⟩] else
  if f = Str.ofString "changed" then [⟨now + u, ct, g, p, chgL d q⟩] else
  if f = Str.ofString "doubled" then [⟨now + u, ct, g, p, d⟩, ⟨now + u + u * (q.fmod 4), ct + 1, g, p, d⟩] else [⟨now + u, ct, g, p, d⟩]

theorem harm_cases (i : Int) (mo : Option Int) (hm : Int) {f : Str} {hm' : Int} (h : harmStep (kindOf i) mo hm = (f, hm')) :
    f = Str.ofString "passed" ∨ f = Str.ofString "lost" ∨ f = Str.ofString "doubled" ∨ f = Str.ofString "delayed" ∨ f = Str.ofString "changed" := by
  have e : f = (harmStep (kindOf i) mo hm).1 := by rw [h]
  subst e
  have k := kind_cases i
  unfold harmStep
  split
  · split
    · exact .inl rfl
    · exact k
  · exact k

section
variable {q now u ct g : Int} {p : Str} {d : List Int}
theorem cr_passed : carryRows (Str.ofString "passed") q now u ct g p d = [⟨now + u, ct, g, p, d⟩] := by
  unfold carryRows; rw [if_neg (by decide), if_neg (by decide), if_neg (by decide), if_neg (by decide)]
theorem cr_lost : carryRows (Str.ofString "lost") q now u ct g p d = [] := by unfold carryRows; rw [if_pos rfl]
theorem cr_delayed : carryRows (Str.ofString "delayed") q now u ct g p d = [⟨now + u + u * (1 + q.fmod 7), ct, g, p, d⟩] := by
  unfold carryRows; rw [if_neg (by decide), if_pos rfl]
theorem cr_changed : carryRows (Str.ofString "changed") q now u ct g p d = [⟨now + u, ct, g, p, chgL d q⟩] := by
  unfold carryRows; rw [if_neg (by decide), if_neg (by decide), if_pos rfl]
theorem cr_doubled : carryRows (Str.ofString "doubled") q now u ct g p d = [⟨now + u, ct, g, p, d⟩, ⟨now + u + u * (q.fmod 4), ct + 1, g, p, d⟩] := by
  unfold carryRows; rw [if_neg (by decide), if_neg (by decide), if_neg (by decide), if_pos rfl]
end

theorem carry_spec {w : World} {loose : List Str} {mean : ExcName → Option Value} {mg mb : Str → Option Value}
    {dp un : Nat} {gd : Option (List Code)} {cn : Str} {cs : Scope} {a : Addr} {ccd : Value} {cl : List (Str × Addr)} {outer : List Env} {A₀ : Around} {base h₀ : Heap} {L : Addr} {m : Str → Option Value} {s : Shared}
    {Q E : Value → Shared → Prop} {x d NC NW NF : Addr} {k : NK} {u : Int} {tu : Tok} {mo : Option Int} {tmo : Tok} {hm : Int} {thm : Tok} {ct : Int} {tct : Tok} {vs : List Value} {ns : List Int} {nC : Nat} {ws : Array Value} {nW : Nat} {fs : Array Value} {nF : Nat}
    {now : Int} {tn : Tok} {g : Int} {tg : Tok} {p : Str} {tp : Tok} {b : Array UInt8} {tb : Tok} {f : Str} {hm' q : Int}
    (B : Below A₀ base outer h₀) (F : Fr h₀ L s.heap m) (X : (hd.heap_39 w.params).In h₀)
    (T : Top hd.view_39 loose mean mg mb h₀) (hk : cs.kind = .function) (hdp : dp + 5 < recursionLimit) (hun : un + 20 < cLine)
    (N : News h₀ L s.heap [(x, instObj 77 d), (d, netDict k NC u tu (moV mo tmo) hm thm ct tct NW NF), (NC, W.listOf (List.toArray vs) nC), (NW, W.listOf ws nW), (NF, W.listOf fs nF)])
    (hi : IntsAre vs ns) (hvs : ns.length ≤ 60) (hws : ws.size ≤ 60) (hfs : fs.size ≤ 63) (hb : b.size ≤ 1000)
    (e1 : @Ne Nat x d) (e2 : @Ne Nat x NC) (e3 : @Ne Nat x NF) (e4 : @Ne Nat d NC) (e5 : @Ne Nat d NF) (e6 : @Ne Nat NC NF) (e7 : @Ne Nat x NW) (e8 : @Ne Nat d NW) (e9 : @Ne Nat NC NW) (e10 : @Ne Nat NW NF)
    (hmo : ∀ q, mo = some q → hm ≤ q) (hq : (ns.headD 0).fdiv 6 = q) (hr : harmStep (kindOf ((ns.headD 0).fmod 6)) mo hm = (f, hm'))
    (hu0 : 0 ≤ u) (hu1 : u ≤ 100)
    (ret : ∀ t h' tk' thm' tct' nC' nW' nF' (fs' ws' : Array Value) (us : List Value) (ct' : Int), ct' = ct + us.length → ws'.toList = ws.toList ++ us → RowsAre (RowNet h') us (carryRows f q now u ct g p (KBw.bInts b)) → (∀ a, Value.ref a ∈ us → s.heap.get? a = none) →
      h'.get? x = some (instObj 77 d) → h'.get? d = some (netDict k NC u tu (moV mo tmo) hm' thm' ct' tct' NW NF) → h'.get? NC = some (W.listOf (List.toArray vs.tail) nC') →
      h'.get? NW = some (W.listOf ws' nW') → h'.get? NF = some (W.listOf fs' nF') → fs'.size = fs.size + 1 → Kept [x, d, NC, NW, NF] s.heap h' → Q (.str f t) { s with heap := h', toks := tk' }) :
    wpAny (model pr w) (ktrTop dp un gd cn cs L a ccd cl outer) (call (.ref 64) [.ref x, .int now tn, .int g tg, .str p tp, .bytes b tb]) Q E s := by
  have hkc := harm_cases _ _ _ hr
  subst hq
  delta pr at *; revert X; k_fill; intro X
  refine wpAny_call ?_
  refine' code_defG ?k1 ?k2 ?k3 ?k4 ?k5 ?kA ?kF ?kK ?k6 ?k7 ?k8 ?k9 ?kB ?_ ?c2 ?c3 ?c4 ?c5
  case kA => exact rfl
  case kF => exact rfl
  case kK => assumption
  case k1 => k_asm
  case k2 => k_asm
  case k3 => k_asm
  case k4 => k_asm
  case k5 => k_asm
  case k6 => k_is
  case k7 => k_is
  case k8 => ktr_room
  case k9 => exact BindsTo.of_eq rfl
  case c5 => decide
  case kB => exact locs rfl
  case c2 => exact rfl
  case c3 => exact rfl
  case c4 => exact rfl
  intro g' L' h' FG' F' N' B' X' T' kG'
  try dsimp only
  k_fold
  k_steps
  refine Stop.open ?_
  rcases hkc with rfl | rfl | rfl | rfl | rfl
  · rw [cr_passed] at ret
    k_steps
    refine ret _ _ _ _ _ _ _ _ _ _ [.ref _] _ ?_ ?_ ⟨⟨_, _, _, _, _, _, _, rfl, News.get (by k_asm) (by k_mem), rfl⟩, trivial⟩ (fun a ha => ?_) (News.get (by k_asm) (by k_mem)) (News.get (by k_asm) (by k_mem)) (News.get (by k_asm) (by k_mem)) (News.get (by k_asm) (by k_mem)) (News.get (by k_asm) (by k_mem)) (by assumption) (kept_of kG' (by k_asm))
    · simp
    · simp
    · rw [Value.ref.inj (List.mem_singleton.mp ha)]
      exact (fresh_of kG' (News.fresh (by k_asm) (by k_mem)) (nm (by k_ne) (nm (by k_ne) (nm (by k_ne) (nm (by k_ne) (nm (by k_ne) (List.not_mem_nil)))))))
  · rw [cr_lost] at ret
    k_steps
    refine ret _ _ _ _ _ _ _ _ _ _ [] _ ?_ ?_ trivial (fun a ha => nomatch ha) (News.get (by k_asm) (by k_mem)) (News.get (by k_asm) (by k_mem)) (News.get (by k_asm) (by k_mem)) (News.get (by k_asm) (by k_mem)) (News.get (by k_asm) (by k_mem)) (by assumption) (kept_of kG' (by k_asm))
    · simp
    · simp
  · rw [cr_doubled] at ret
    k_steps
    refine ret _ _ _ _ _ _ _ _ _ _ [.ref _, .ref _] _ ?_ ?_ ⟨⟨_, _, _, _, _, _, _, rfl, News.get (by k_asm) (by k_mem), rfl⟩, ⟨_, _, _, _, _, _, _, rfl, News.get (by k_asm) (by k_mem), rfl⟩, trivial⟩ (fun a ha => ?_) (News.get (by k_asm) (by k_mem)) (News.get (by k_asm) (by k_mem)) (News.get (by k_asm) (by k_mem)) (News.get (by k_asm) (by k_mem)) (News.get (by k_asm) (by k_mem)) (by assumption) (kept_of kG' (by k_asm))
    · simp; omega
    · simp
    · rcases List.mem_cons.mp ha with ha | ha
      · rw [Value.ref.inj ha]
        exact (fresh_of kG' (News.fresh (by k_asm) (by k_mem)) (nm (by k_ne) (nm (by k_ne) (nm (by k_ne) (nm (by k_ne) (nm (by k_ne) (List.not_mem_nil)))))))
      · rw [Value.ref.inj (List.mem_singleton.mp ha)]
        exact (fresh_of kG' (News.fresh (by k_asm) (by k_mem)) (nm (by k_ne) (nm (by k_ne) (nm (by k_ne) (nm (by k_ne) (nm (by k_ne) (List.not_mem_nil)))))))
  · rw [cr_delayed] at ret
    k_steps
    refine ret _ _ _ _ _ _ _ _ _ _ [.ref _] _ ?_ ?_ ⟨⟨_, _, _, _, _, _, _, rfl, News.get (by k_asm) (by k_mem), rfl⟩, trivial⟩ (fun a ha => ?_) (News.get (by k_asm) (by k_mem)) (News.get (by k_asm) (by k_mem)) (News.get (by k_asm) (by k_mem)) (News.get (by k_asm) (by k_mem)) (News.get (by k_asm) (by k_mem)) (by assumption) (kept_of kG' (by k_asm))
    · simp
    · simp
    · rw [Value.ref.inj (List.mem_singleton.mp ha)]
      exact (fresh_of kG' (News.fresh (by k_asm) (by k_mem)) (nm (by k_ne) (nm (by k_ne) (nm (by k_ne) (nm (by k_ne) (nm (by k_ne) (List.not_mem_nil)))))))
  · rw [cr_changed] at ret
    k_steps
    refine ret _ _ _ _ _ _ _ _ _ _ [.ref _] _ ?_ ?_ ⟨⟨_, _, _, _, _, _, _, rfl, News.get (by k_asm) (by k_mem), by assumption⟩, trivial⟩ (fun a ha => ?_) (News.get (by k_asm) (by k_mem)) (News.get (by k_asm) (by k_mem)) (News.get (by k_asm) (by k_mem)) (News.get (by k_asm) (by k_mem)) (News.get (by k_asm) (by k_mem)) (by assumption) (kept_of kG' (by k_asm))
    · simp
    · simp
    · rw [Value.ref.inj (List.mem_singleton.mp ha)]
      exact (fresh_of kG' (News.fresh (by k_asm) (by k_mem)) (nm (by k_ne) (nm (by k_ne) (nm (by k_ne) (nm (by k_ne) (nm (by k_ne) (List.not_mem_nil)))))))
end Mine

end
namespace Mine
theorem flush_sort {prog : Program} {w : World} {A : Around} {Q : Flow → Shared → Prop} {E : Value → Shared → Prop} {s : Shared} {env : Env} (h : wpAny (model prog w) A (execs [] env) Q E s) : wpAny (model prog w) A (execs [] env) Q E s := by
  k_with_none
  w_top off
  first | (walk1; fail) | exact h
end Mine

section
open PyProof.V
namespace Mine

/-- along the way that lt tells: each question is about two places below n, and P holds at the end -/
noncomputable def KGood (lt : Nat → Nat → Bool) (n : Nat) {α : Type} (P : α → Prop) : KasT α → Prop
  | .ret a => P a
  | .ask i j k => i < n ∧ j < n ∧ i ≠ j ∧ KGood lt n P (k (lt i j))

section
variable {lt : Nat → Nat → Bool} {n : Nat} {α β : Type}
theorem KGood.bind {P : β → Prop} {f : α → KasT β} : ∀ {t : KasT α}, KGood lt n (fun a => KGood lt n P (f a)) t → KGood lt n P (t.bind f)
  | .ret _, h => h
  | .ask _ _ _, h => ⟨h.1, h.2.1, h.2.2.1, KGood.bind h.2.2.2⟩
theorem KGood.mono {P P' : α → Prop} (hp : ∀ a, P a → P' a) : ∀ {t : KasT α}, KGood lt n P t → KGood lt n P' t
  | .ret _, h => hp _ h
  | .ask _ _ _, h => ⟨h.1, h.2.1, h.2.2.1, KGood.mono hp h.2.2.2⟩
theorem KGood.wp {P : α → Prop} {cmp : Nat → Nat → (Bool → Shared → Prop) → Shared → Prop} {G : α → Shared → Prop} {s : Shared}
    (hc : ∀ i j C, i < n → j < n → i ≠ j → C (lt i j) s → cmp i j C s) (hg : ∀ a, P a → G a s) : ∀ {t : KasT α}, KGood lt n P t → t.kasWp cmp G s
  | .ret _, h => hg _ h
  | .ask _ _ k, h => hc _ _ (fun b s' => (k b).kasWp cmp G s') h.1 h.2.1 h.2.2.1 (KGood.wp hc hg h.2.2.2)
end

/-- a strict order on the places below n -/
structure Strict (lt : Nat → Nat → Bool) (n : Nat) : Prop where
  tri : ∀ i j, i < n → j < n → i ≠ j → lt i j = true ∨ lt j i = true
  asym : ∀ i j, i < n → j < n → lt i j = true → lt j i = false
  trans : ∀ i j k, i < n → j < n → k < n → lt i j = true → lt j k = true → lt i k = true

abbrev at' (p : Array Nat) (i : Nat) : Nat := p.getD i 0

structure PermOk (p : Array Nat) (n : Nat) : Prop where
  size : p.size = n
  low : ∀ i, i < n → at' p i < n
  inj : ∀ i j, i < n → j < n → i ≠ j → at' p i ≠ at' p j
  perm : p.Perm (List.range n).toArray

theorem at_eq {p : Array Nat} {i : Nat} (h : i < p.size) : at' p i = p[i] := by simp [at', Array.getD, h]
theorem at_get {p : Array Nat} {i x : Nat} (h : p[i]? = some x) : at' p i = x := by
  have hi : i < p.size := (Array.getElem?_eq_some_iff.mp h).1
  rw [at_eq hi]
  rw [Array.getElem?_eq_getElem hi] at h
  exact Option.some.inj h
theorem at_of {p : Array Nat} {i : Nat} (h : i < p.size) : p[i]? = some (at' p i) := by rw [Array.getElem?_eq_getElem h, at_eq h]

theorem PermOk.of_perm {p : Array Nat} {n : Nat} (h : p.Perm (List.range n).toArray) : PermOk p n := by
  have hs : p.size = n := by rw [h.size_eq]; simp
  have hl : p.toList.Perm (List.range n) := by have := h.toList; simpa using this
  have hn : p.toList.Nodup := hl.nodup_iff.mpr List.nodup_range
  refine ⟨hs, fun i hi => ?_, fun i j hi hj hne e => ?_, h⟩
  · rw [at_eq (by omega)]
    have : p[i] ∈ p.toList := by simp
    exact List.mem_range.mp (hl.mem_iff.mp this)
  · rw [at_eq (by omega), at_eq (by omega)] at e
    have hi' : i < p.toList.length := by simpa [hs] using hi
    have hj' : j < p.toList.length := by simpa [hs] using hj
    have e' : p.toList[i] = p.toList[j] := by simpa using e
    rcases Nat.lt_or_gt_of_ne hne with q | q
    · exact List.pairwise_iff_getElem.mp hn i j hi' hj' q e'
    · exact List.pairwise_iff_getElem.mp hn j i hj' hi' q e'.symm

def SortedTo' (lt : Nat → Nat → Bool) (p : Array Nat) (k : Nat) : Prop := ∀ i j, i < j → j < k → lt (at' p i) (at' p j) = true

section
variable {lt : Nat → Nat → Bool} {n : Nat} (O : Strict lt n)
include O

theorem not_lt {i j : Nat} (hi : i < n) (hj : j < n) (hne : i ≠ j) (h : lt i j = false) : lt j i = true := by
  rcases O.tri i j hi hj hne with q | q
  · rw [q] at h; cases h
  · exact q

theorem asc_good {p : Array Nat} (hp : PermOk p n) : ∀ (f m : Nat), 1 ≤ m → m + f ≤ n → SortedTo' lt p m →
    KGood lt n (fun r => m ≤ r ∧ r ≤ m + f ∧ SortedTo' lt p r ∧ (r < m + f → lt (at' p r) (at' p (r - 1)) = true)) (kas_asc p f m)
  | 0, m, h1, h2, hs => ⟨Nat.le_refl _, Nat.le_refl _, hs, fun h => absurd h (Nat.lt_irrefl _)⟩
  | f + 1, m, h1, h2, hs => by
    have hm : m < n := by omega
    refine ⟨hp.low m hm, hp.low (m - 1) (by omega), hp.inj _ _ hm (by omega) (by omega), ?_⟩
    show KGood lt n _ (if lt (at' p m) (at' p (m - 1)) = true then KasT.ret m else kas_asc p f (m + 1))
    by_cases hc : lt (at' p m) (at' p (m - 1)) = true
    · rw [if_pos hc]
      exact ⟨Nat.le_refl _, by omega, hs, fun _ => hc⟩
    · rw [if_neg hc]
      have hup : lt (at' p (m - 1)) (at' p m) = true := not_lt O (hp.low m hm) (hp.low (m - 1) (by omega)) (hp.inj _ _ hm (by omega) (by omega)) (by simpa using hc)
      have hs' : SortedTo' lt p (m + 1) := by
        intro i j hij hj
        by_cases hjm : j = m
        · subst hjm
          by_cases him : i = j - 1
          · rw [him]; exact hup
          · exact O.trans _ _ _ (hp.low i (by omega)) (hp.low (j - 1) (by omega)) (hp.low j hm) (hs i (j - 1) (by omega) (by omega)) hup
        · exact hs i j hij (by omega)
      exact KGood.mono (fun r hr => ⟨by omega, by omega, hr.2.2.1, fun h => hr.2.2.2 (by omega)⟩) (asc_good hp f (m + 1) (by omega) (by omega) hs')

def DescTo (lt : Nat → Nat → Bool) (p : Array Nat) (k : Nat) : Prop := ∀ i j, i < j → j < k → lt (at' p j) (at' p i) = true

theorem desc_good {p : Array Nat} (hp : PermOk p n) : ∀ (f m : Nat), 1 ≤ m → m + f ≤ n → DescTo lt p m →
    KGood lt n (fun r => r.1 = p ∧ m ≤ r.2.1 ∧ r.2.1 ≤ m + f ∧ r.2.2 = 0 ∧ DescTo lt p r.2.1) (kas_desc f p m 0)
  | 0, m, h1, h2, hs => ⟨rfl, Nat.le_refl _, Nat.le_refl _, rfl, hs⟩
  | f + 1, m, h1, h2, hs => by
    have hm : m < n := by omega
    refine ⟨hp.low m hm, hp.low (m - 1) (by omega), hp.inj _ _ hm (by omega) (by omega), ?_⟩
    show KGood lt n _ (if lt (at' p m) (at' p (m - 1)) = true then (if 0 > 0 then kas_desc f (kas_rev p (m - (0 + 1)) m) (m + 1) 0 else kas_desc f p (m + 1) 0)
      else KasT.ask (at' p (m - 1)) (at' p m) fun d => if d = true then KasT.ret (p, m, 0) else kas_desc f p (m + 1) (0 + 1))
    by_cases hc : lt (at' p m) (at' p (m - 1)) = true
    · rw [if_pos hc, if_neg (by omega)]
      have hs' : DescTo lt p (m + 1) := by
        intro i j hij hj
        by_cases hjm : j = m
        · subst hjm
          by_cases him : i = j - 1
          · rw [him]; exact hc
          · exact O.trans _ _ _ (hp.low j hm) (hp.low (j - 1) (by omega)) (hp.low i (by omega)) hc (hs i (j - 1) (by omega) (by omega))
        · exact hs i j hij (by omega)
      exact KGood.mono (fun r hr => ⟨hr.1, by omega, by omega, hr.2.2.2.1, hr.2.2.2.2⟩) (desc_good hp f (m + 1) (by omega) (by omega) hs')
    · rw [if_neg hc]
      have hup : lt (at' p (m - 1)) (at' p m) = true := not_lt O (hp.low m hm) (hp.low (m - 1) (by omega)) (hp.inj _ _ hm (by omega) (by omega)) (by simpa using hc)
      refine ⟨hp.low (m - 1) (by omega), hp.low m hm, hp.inj _ _ (by omega) hm (by omega), ?_⟩
      show KGood lt n _ (if lt (at' p (m - 1)) (at' p m) = true then KasT.ret (p, m, 0) else kas_desc f p (m + 1) (0 + 1))
      rw [if_pos hup]
      exact ⟨rfl, Nat.le_refl _, by show m ≤ _; omega, rfl, hs⟩

theorem rev_perm {p : Array Nat} (hp : PermOk p n) (i j : Nat) : PermOk (kas_rev p i j) n := PermOk.of_perm ((mirror_perm _ _ _ _).trans hp.perm)

theorem rev_at {p : Array Nat} (hp : PermOk p n) {m : Nat} (hm : m ≤ n) {k : Nat} (hk : k < m) : at' (kas_rev p 0 m) k = at' p (m - 1 - k) := by
  refine at_get ?_
  show (mirror p 0 m ((m - 0) / 2))[k]? = _
  rw [getElem?_mirror_all (by rw [hp.size]; exact hm) k, if_pos ⟨Nat.zero_le _, hk⟩, show 0 + m - 1 - k = m - 1 - k by omega]
  exact at_of (by rw [hp.size]; omega)

theorem rev_sorted {p : Array Nat} (hp : PermOk p n) {m : Nat} (hm : m ≤ n) (hd : DescTo lt p m) : SortedTo' lt (kas_rev p 0 m) m := by
  intro i j hij hj
  rw [rev_at O hp hm (by omega), rev_at O hp hm hj]
  exact hd _ _ (by omega) (by omega)

theorem count_good {p : Array Nat} (hp : PermOk p n) (hn : 2 ≤ n) : KGood lt n (fun r => 1 ≤ r.1 ∧ r.1 ≤ n ∧ PermOk r.2 n ∧ SortedTo' lt r.2 r.1) (kas_count n p) := by
  unfold kas_count
  refine KGood.bind (KGood.mono (fun m hm => ?_) (asc_good O hp (n - 1) 1 (Nat.le_refl _) (by omega) fun i j h1 h2 => by omega))
  obtain ⟨h1, h2, h3, h4⟩ := hm
  by_cases e1 : (m == n) = true
  · rw [if_pos e1]
    exact ⟨h1, by omega, hp, h3⟩
  · rw [if_neg e1]
    have hne : m ≠ n := fun q => e1 (by rw [q]; exact beq_self_eq_true _)
    have hlt : m < n := by omega
    have hbreak := h4 (by omega)
    by_cases e2 : m > 1
    · rw [if_pos e2]
      refine ⟨hp.low 0 (by omega), hp.low (m - 1) (by omega), hp.inj _ _ (by omega) (by omega) (by omega), ?_⟩
      show KGood lt n _ (if lt (at' p 0) (at' p (m - 1)) = true then KasT.ret (m, p) else kas_descPart m n (kas_rev p 0 m))
      rw [if_pos (h3 0 (m - 1) (by omega) (by omega))]
      exact ⟨h1, by show m ≤ n; omega, hp, h3⟩
    · rw [if_neg e2]
      obtain rfl : m = 1 := by omega
      unfold kas_descPart
      refine KGood.bind (KGood.mono (fun r hr => ?_) (desc_good O hp (n - (1 + 1)) (1 + 1) (by omega) (by omega) ?_))
      · obtain ⟨r1, r2, r3⟩ := r
        obtain ⟨q1, q2, q3, q4, q5⟩ := hr
        dsimp only at q1 q2 q3 q4 q5 ⊢
        subst q1 q4
        rw [if_neg (by omega)]
        unfold kas_tail3
        have hp' := rev_perm O hp 0 r2
        refine KGood.bind (KGood.mono (fun m' hm' => ?_) (asc_good O hp' (n - r2) r2 (by omega) (by omega) (rev_sorted O hp (by omega) q5)))
        exact ⟨by show 1 ≤ m'; omega, by show m' ≤ n; omega, hp', hm'.2.2.1⟩
      · intro i j hij hj
        obtain rfl : i = 0 := by omega
        obtain rfl : j = 1 := by omega
        exact hbreak

theorem place_good {p : Array Nat} (hp : PermOk p n) {k : Nat} (hk : k < n) (hs : SortedTo' lt p k) : ∀ (f l r : Nat), l ≤ r → r ≤ k → r - l ≤ f →
    (∀ i, i < l → lt (at' p i) (at' p k) = true) → (∀ i, r ≤ i → i < k → lt (at' p k) (at' p i) = true) →
    KGood lt n (fun m => m ≤ k ∧ (∀ i, i < m → lt (at' p i) (at' p k) = true) ∧ ∀ i, m ≤ i → i < k → lt (at' p k) (at' p i) = true) (kas_place p k f l r)
  | 0, l, r, h1, h2, hf, a, b => by
    obtain rfl : l = r := by omega
    exact ⟨h2, a, b⟩
  | f + 1, l, r, h1, h2, hf, a, b => by
    unfold kas_place
    by_cases hlr : l ≥ r
    · rw [if_pos hlr]
      obtain rfl : l = r := by omega
      exact ⟨h2, a, b⟩
    · rw [if_neg hlr]
      have hmid : (l + r) / 2 < k := by omega
      refine ⟨hp.low k hk, hp.low _ (by omega), hp.inj _ _ hk (by omega) (by omega), ?_⟩
      show KGood lt n _ (if lt (at' p k) (at' p ((l + r) / 2)) = true then kas_place p k f l ((l + r) / 2) else kas_place p k f ((l + r) / 2 + 1) r)
      by_cases hc : lt (at' p k) (at' p ((l + r) / 2)) = true
      · rw [if_pos hc]
        refine place_good hp hk hs f l ((l + r) / 2) (by omega) (by omega) (by omega) a fun i hi1 hi2 => ?_
        by_cases hi : i = (l + r) / 2
        · rw [hi]; exact hc
        · exact O.trans _ _ _ (hp.low k hk) (hp.low _ (by omega)) (hp.low i (by omega)) hc (hs _ _ (by omega) hi2)
      · rw [if_neg hc]
        have hup : lt (at' p ((l + r) / 2)) (at' p k) = true := not_lt O (hp.low k hk) (hp.low _ (by omega)) (hp.inj _ _ hk (by omega) (by omega)) (by simpa using hc)
        refine place_good hp hk hs f ((l + r) / 2 + 1) r (by omega) h2 (by omega) (fun i hi => ?_) b
        by_cases hi' : i = (l + r) / 2
        · rw [hi']; exact hup
        · exact O.trans _ _ _ (hp.low i (by omega)) (hp.low _ (by omega)) (hp.low k hk) (hs _ _ (by omega) hmid) hup

theorem bubble_at {p : Array Nat} (hp : PermOk p n) {k l : Nat} (hk : k < n) (hl : l ≤ k) {i : Nat} (hi : i < n) :
    at' (bubble p k (k - l)) i = if i = l then at' p k else if l < i ∧ i ≤ k then at' p (i - 1) else at' p i := by
  refine at_get ?_
  rw [getElem?_bubble (by rw [hp.size]; exact hk) (k - l) (by omega) i, show k - (k - l) = l by omega]
  repeat' split
  · exact at_of (by rw [hp.size]; exact hk)
  · exact at_of (by rw [hp.size]; omega)
  · exact at_of (by rw [hp.size]; exact hi)

theorem bubble_sorted {p : Array Nat} (hp : PermOk p n) {k l : Nat} (hk : k < n) (hl : l ≤ k) (hs : SortedTo' lt p k) (a : ∀ i, i < l → lt (at' p i) (at' p k) = true) (b : ∀ i, l ≤ i → i < k → lt (at' p k) (at' p i) = true) :
    SortedTo' lt (bubble p k (k - l)) (k + 1) := by
  intro i j hij hj
  rw [bubble_at O hp hk hl (by omega), bubble_at O hp hk hl (by omega)]
  by_cases hi : i = l
  · rw [if_pos hi, if_neg (by omega), if_pos ⟨by omega, by omega⟩]
    exact b _ (by omega) (by omega)
  · rw [if_neg hi]
    by_cases hjl : j = l
    · rw [if_pos hjl, if_neg (by omega)]
      exact a _ (by omega)
    · rw [if_neg hjl]
      by_cases hi2 : l < i ∧ i ≤ k
      · rw [if_pos hi2, if_pos ⟨by omega, by omega⟩]
        exact hs _ _ (by omega) (by omega)
      · rw [if_neg hi2]
        by_cases hj2 : l < j ∧ j ≤ k
        · rw [if_pos hj2]; exact hs _ _ (by omega) (by omega)
        · rw [if_neg hj2]; exact hs _ _ (by omega) (by omega)

theorem bin_good : ∀ (f : Nat) {p : Array Nat} {k : Nat}, PermOk p n → 1 ≤ k → k + f = n → SortedTo' lt p k → KGood lt n (fun r => PermOk r n ∧ SortedTo' lt r n) (kas_bin f p k)
  | 0, p, k, hp, h1, he, hs => by
    obtain rfl : k = n := by omega
    exact ⟨hp, hs⟩
  | f + 1, p, k, hp, h1, he, hs => by
    unfold kas_bin
    refine KGood.bind (KGood.mono (fun l hl => ?_) (place_good O hp (by omega) hs k 0 k (Nat.zero_le _) (Nat.le_refl _) (by omega) (fun i hi => absurd hi (Nat.not_lt_zero _)) fun i hi1 hi2 => by omega))
    obtain ⟨h1', h2', h3'⟩ := hl
    exact bin_good f (PermOk.of_perm ((bubble_perm _ _ _).trans hp.perm)) (by omega) (by omega) (bubble_sorted O hp (by omega) h1' hs h2' h3')

theorem sort_good (hn : 2 ≤ n) : KGood lt n (fun r => PermOk r n ∧ SortedTo' lt r n) (kas_sort n) := by
  unfold kas_sort
  refine KGood.bind (KGood.mono (fun r hr => ?_) (count_good O (PermOk.of_perm (Array.Perm.refl _)) hn))
  obtain ⟨h1, h2, h3, h4⟩ := hr
  by_cases hlt : r.1 < n
  · rw [if_pos hlt]
    have e : max r.1 1 = r.1 := by omega
    rw [e]
    exact bin_good O (n - r.1) h3 h1 (by omega) h4
  · rw [if_neg hlt]
    obtain e : r.1 = n := by omega
    rw [e] at h4
    exact ⟨h3, h4⟩
end
end Mine

end
namespace Mine
theorem flush_sorted {prog : Program} {w : World} {A : Around} {Q : Flow → Shared → Prop} {E : Value → Shared → Prop} {s : Shared} {env : Env} (h : wpAny (model prog w) A (execs [] env) Q E s) : wpAny (model prog w) A (execs [] env) Q E s := by
  k_with_none
  w_top off
  first | (walk1; fail) | exact h
end Mine

section
open PyProof.V
namespace Mine

inductive TupKey (h : Heap) (v : Value) (k : Int × Int) : Prop where
  | mk (a : Addr) (its : Array Value) (n : Nat) (t1 t2 : Tok) (rest : List Value) (e : v = .ref a) (q : h.get? a = some ({ cls := .type "tuple", data := .seq its n } : Obj)) (d : its.toList = .int k.1 t1 :: .int k.2 t2 :: rest)

abbrev klt (a b : Int × Int) : Prop := a.1 < b.1 ∨ (a.1 = b.1 ∧ a.2 < b.2)

section
variable {prog : Program} {w : World} {A : Around} {E : Value → Shared → Prop} {s : Shared}

theorem tup_ask {x y : Value} {a b : Int × Int} {Q : Bool → Shared → Prop} (hx : TupKey s.heap x a) (hy : TupKey s.heap y b) (hne : a.2 ≠ b.2) (h : Q (decide (klt a b)) s) :
    wpAny (model prog w) A (keyLt' (tuples' true) x y) Q E s := by
  obtain ⟨x, xs, n, t1, t2, r, rfl, gx, ex⟩ := hx
  obtain ⟨y, ys, m, u1, u2, r', rfl, gy, ey⟩ := hy
  refine kat_lt gx rfl gy rfl ?_
  rw [ex, ey]
  show KatLex _ _ _ _ _ _ ((Value.int a.1 t1, Value.int b.1 u1) :: (Value.int a.2 t2, Value.int b.2 u2) :: r.zip r') 0 s
  refine kat_cons (SeqAt.EqAt.int_int a.1 t1 b.1 u1 prog w _ _ ?_)
  by_cases e1 : a.1 = b.1
  · rw [show (a.1 == b.1) = true from by rw [e1]; exact beq_self_eq_true _]
    refine kat_yes (kat_cons (SeqAt.EqAt.int_int a.2 t2 b.2 u2 prog w _ _ ?_))
    rw [show (a.2 == b.2) = false from by simpa using hne]
    refine kat_no (kat_one _ _ (lt_int (show Q (decide (a.2 < b.2)) s from ?_)))
    rw [show decide (a.2 < b.2) = decide (klt a b) from by unfold klt; simp [e1]]
    exact h
  · rw [show (a.1 == b.1) = false from by simpa using e1]
    refine kat_no (oneLt_int ?_)
    rw [show decide (a.1 < b.1) = decide (klt a b) from by unfold klt; simp [e1]]
    exact h

theorem klt_strict {n : Nat} {key : Nat → Int × Int} (hinj : ∀ i j, i < n → j < n → i ≠ j → (key i).2 ≠ (key j).2) : Strict (fun i j => decide (klt (key i) (key j))) n := by
  refine ⟨fun i j hi hj hne => ?_, fun i j hi hj h => ?_, fun i j k hi hj hk h1 h2 => ?_⟩
  · have := hinj i j hi hj hne
    show decide (klt (key i) (key j)) = true ∨ decide (klt (key j) (key i)) = true
    rw [decide_eq_true_eq, decide_eq_true_eq]; unfold klt; omega
  · have h' : klt (key i) (key j) := of_decide_eq_true h
    show decide (klt (key j) (key i)) = false
    rw [decide_eq_false_iff_not]; unfold klt at *; omega
  · have h1' : klt (key i) (key j) := of_decide_eq_true h1
    have h2' : klt (key j) (key k) := of_decide_eq_true h2
    show decide (klt (key i) (key k)) = true
    rw [decide_eq_true_eq]; unfold klt at *; omega

theorem tups_of {h : Heap} {key : Nat → Int × Int} : ∀ {vs : List Value} {b : Nat}, (∀ i, i < vs.length → TupKey h (vs.getD i .none) (key (b + i))) → ∃ fs, KatTups h vs fs ∧ fs.length = vs.length ∧ ∀ v ∈ fs, ∃ i t, v = .int i t
  | [], b, _ => ⟨[], trivial, rfl, fun _ h => nomatch h⟩
  | v :: vs, b, hk => by
    obtain ⟨fs, h1, h2, h3⟩ := tups_of (vs := vs) (b := b + 1) fun i hi => by
      have := hk (i + 1) (by simp; omega)
      rw [show b + (i + 1) = b + 1 + i by omega] at this
      simpa using this
    obtain ⟨a, its, n, t1, t2, rest, e1, e2, e3⟩ := hk 0 (by simp)
    have e1' : v = .ref a := by simpa using e1
    subst e1'
    refine ⟨.int (key (b + 0)).1 t1 :: fs, KatTups.cons e2 rfl rfl ?_ h1, by simp [h2], fun x hx => ?_⟩
    · rw [← Array.getElem?_toList, e3]; rfl
    · rcases List.mem_cons.mp hx with rfl | hx
      · exact ⟨_, _, rfl⟩
      · exact h3 x hx

theorem sort_tup {a : Addr} {vs : List Value} {n : Nat} {key : Nat → Int × Int} {P : PySem.Fin → Shared → Prop} (ho : s.heap.get? a = some (seqObj "list" vs.toArray n)) (h64 : vs.length < 64)
    (hk : ∀ i, i < vs.length → TupKey s.heap (vs.getD i .none) (key i)) (hka : ∀ i b, i < vs.length → vs.getD i .none = .ref b → b ≠ a) (hinj : ∀ i j, i < vs.length → j < vs.length → i ≠ j → (key i).2 ≠ (key j).2)
    (h : ∀ p : List Nat, p.Perm (List.range vs.length) → p.Pairwise (fun i j => klt (key i) (key j)) → P (.done (.ret .none)) { s with heap := sortedHeap s.heap a vs (List.toArray (p.map fun i => vs.getD i .none)) }) :
    wpAny (model prog w) A (Builtin.«list.sort» ⟨[.ref a], []⟩) P E s := by
  rw [list_sort_plain]
  have ha : a < s.heap.objs.size := Heap.lt_size ho
  refine wpAny_bind (listItems_at ho rfl ?_)
  refine wpAny_bind (listUpdate_at ho rfl ?_ (by rw [List.size_toArray, sizeLine_eq]; omega) (Nat.zero_le _))
  obtain ⟨e1, ho1⟩ : ∃ e1, (s.heap.update a (Obj.mapSeq fun _ => #[])).get? a = some (seqObj "list" #[] e1) := ⟨_, get?_update_seq ho (fun _ => #[])⟩
  refine wpAny_bind (seqEpoch_at ho1 rfl ?_)
  refine wpAny_bind (wpAny_newTuple ?_ (by show vs.length ≤ _; rw [sizeLine_eq]; omega))
  refine wpAny_bind (wpAny_newList ?_ (Nat.zero_le _))
  refine wpAny_holding ?_
  have ho6 : (((s.heap.update a (Obj.mapSeq fun _ => #[])).push (seqObj "tuple" vs.toArray 0)).push (seqObj "list" #[] 0)).get? a = some (seqObj "list" #[] e1) := by
    rw [Heap.get?_push_ne _ _ _ (by rw [size_push', Heap.size_update]; exact Nat.ne_of_lt (Nat.lt_succ_of_lt ha)), Heap.get?_push_ne _ _ _ (by rw [Heap.size_update]; exact Nat.ne_of_lt ha)]
    exact ho1
  show wpAny (model prog w) A _ P E { s with heap := ((s.heap.update a (Obj.mapSeq fun _ => #[])).push (seqObj "tuple" vs.toArray 0)).push (seqObj "list" #[] 0) }
  dsimp only
  by_cases h2 : vs.toArray.size < 2
  · rw [if_pos h2, if_pos h2]
    refine wpAny_bind (wpAny_pure ?_)
    rw [StateT.run_pure]
    refine wpAny_bind (wpAny_pure ?_)
    dsimp only
    have hout : (arrOf (SortSt.mk' general' (vs.toArray.zip vs.toArray) #[] 7 none)).map (·.2) = List.toArray ((List.range vs.length).map fun i => vs.getD i .none) := by
      show (vs.toArray.zip vs.toArray).map (·.2) = _
      refine Array.ext (by simp) fun i hi1 hi2 => ?_
      have hi : i < vs.length := by simpa using hi2
      simp [hi]
    refine wpAny_bind (seqEpoch_at ho6 rfl ?_)
    rw [hout]
    refine wpAny_bind (listUpdate_at ho6 rfl ?_ (Nat.zero_le _) (by rw [List.size_toArray, List.length_map, List.length_range, sizeLine_eq]; omega))
    simp only [bne_self_eq_false, Bool.false_eq_true, if_false]
    refine wpAny_pure (h (List.range vs.length) (List.Perm.refl _) ?_)
    have hl : vs.length < 2 := by simpa using h2
    match hn : vs.length, hl with
    | 0, _ => exact .nil
    | 1, _ => exact List.pairwise_singleton _ _
  · rw [if_neg h2, if_neg h2]
    have hl2 : 2 ≤ vs.length := by rw [List.size_toArray] at h2; omega
    have hk6 : ∀ i, i < vs.length → TupKey (((s.heap.update a (Obj.mapSeq fun _ => #[])).push (seqObj "tuple" vs.toArray 0)).push (seqObj "list" #[] 0)) (vs.getD i .none) (key i) := fun i hi => by
      obtain ⟨b, its, m, t1, t2, rest, q1, q2, q3⟩ := hk i hi
      refine ⟨b, its, m, t1, t2, rest, q1, ?_, q3⟩
      exact Heap.get?_push_of_some _ (Heap.get?_push_of_some _ ((Heap.get?_update_ne _ _ _ _ (hka i b hi q1)).trans q2))
    obtain ⟨fs, f1, f2, f3⟩ := tups_of (b := 0) (key := key) fun i hi => by rw [Nat.zero_add]; exact hk6 i hi
    refine wpAny_bind (kat_kind (T := .type "int") f1 (by omega) (fun v hv => by obtain ⟨i, t, rfl⟩ := f3 v hv; exact Looks.of_pure rfl) (by decide) ?_)
    rw [show (Value.type "int" != Value.type "tuple") = true from by decide]
    refine wpAny_bind (wpAny_mono (kat_run (κ := tuples' true) (Q := fun st' s' => s' = ({ s with heap := ((s.heap.update a (Obj.mapSeq fun _ => #[])).push (seqObj "tuple" vs.toArray 0)).push (seqObj "list" #[] 0) } : Shared) ∧ ∃ p : Array Nat, p.size = vs.length ∧ arrOf st' = p.map (kas_item (vs.toArray.zip vs.toArray)) ∧ failedOf st' = none ∧ PermOk p vs.length ∧ SortedTo' (fun i j => decide (klt (key i) (key j))) p vs.length)
      (G := fun p s' => s' = ({ s with heap := ((s.heap.update a (Obj.mapSeq fun _ => #[])).push (seqObj "tuple" vs.toArray 0)).push (seqObj "list" #[] 0) } : Shared) ∧ PermOk p vs.length ∧ SortedTo' (fun i j => decide (klt (key i) (key j))) p vs.length) rfl hl2 h64
      (fun p st' s' a1 a2 a3 a4 => ⟨a4.1, p, a1, a2, a3, a4.2⟩) ?_) ?_ fun _ _ e => e)
    · refine KGood.wp (fun i j C hi hj hne hC => ?_) (fun p hp => ⟨rfl, hp⟩) (sort_good (klt_strict hinj) hl2)
      exact tup_ask (hk6 i hi) (hk6 j hj) (hinj i j hi hj hne) hC
    · rintro ⟨⟨⟩, st'⟩ s' ⟨rfl, p, hp, har, hf, hpo, hso⟩
      dsimp only
      have hout := kat_snds (ks := vs) (vs := vs) rfl har
      refine wpAny_bind (seqEpoch_at ho6 rfl ?_)
      rw [hout]
      refine wpAny_bind (listUpdate_at ho6 rfl ?_ (Nat.zero_le _) (by rw [List.size_toArray, List.length_map, Array.length_toList, hp, sizeLine_eq]; omega))
      rw [hf]
      simp only [bne_self_eq_false, Bool.false_eq_true, if_false]
      refine wpAny_pure (h p.toList (by have := hpo.perm.toList; simpa using this) ?_)
      rw [List.pairwise_iff_getElem]
      intro i j hi hj hij
      have hi' : i < p.size := by simpa using hi
      have hj' : j < p.size := by simpa using hj
      have e := hso i j hij (by omega)
      rw [at_eq hi', at_eq hj'] at e
      simpa using e

theorem sorted_tup {l : Addr} {vs : List Value} {key : Nat → Int × Int} {Q : Value → Shared → Prop} (hl : s.heap.IsList l vs.toArray) (h64 : vs.length < 64)
    (hk : ∀ i, i < vs.length → TupKey s.heap (vs.getD i .none) (key i)) (hinj : ∀ i j, i < vs.length → j < vs.length → i ≠ j → (key i).2 ≠ (key j).2)
    (h : ∀ p : List Nat, p.Perm (List.range vs.length) → p.Pairwise (fun i j => klt (key i) (key j)) → Q (.ref (s.heap.objs.size + 1)) { s with heap := sortedAll s.heap vs (List.toArray (p.map fun i => vs.getD i .none)) }) :
    wpAny (model prog w) A (call (.builtin "sorted") [.ref l]) Q E s := by
  refine Calls.call_function_entry kind_sorted plain_sorted entry_sorted (args_sorted1 _) ?_
  unfold Builtin.«sorted»
  refine wpAny_bind (m := checkCount "sorted" 1 1 _) (wpAny_pure ?_)
  refine wpAny_bind (collect_list hl ?_ (by rw [sizeLine_eq]; omega))
  refine wpAny_bind (wpAny_newList ?_ (by rw [sizeLine_eq]; omega))
  have hsz : ((s.heap.push (seqObj "list" #[] 0)).update s.heap.objs.size (Obj.mapSeq (· ++ vs.toArray))).objs.size = s.heap.objs.size + 1 := by
    rw [Heap.size_update, size_push']
  have hoL : (((s.heap.push (seqObj "list" #[] 0)).update s.heap.objs.size (Obj.mapSeq (· ++ vs.toArray))).push (seqObj "list" vs.toArray 0)).get? (s.heap.objs.size + 1) = some (seqObj "list" vs.toArray 0) := by
    rw [← hsz]; exact Heap.get?_push_size _ rfl
  have keep : ∀ b o, s.heap.get? b = some o → (((s.heap.push (seqObj "list" #[] 0)).update s.heap.objs.size (Obj.mapSeq (· ++ vs.toArray))).push (seqObj "list" vs.toArray 0)).get? b = some o := fun b o q => by
    have hlt : b < s.heap.objs.size := Heap.lt_size q
    rw [Heap.get?_push_ne _ _ _ (by rw [hsz]; exact Nat.ne_of_lt (Nat.lt_succ_of_lt hlt)), Heap.get?_update_ne _ _ _ _ (Nat.ne_of_lt hlt), Heap.get?_push_ne _ _ _ (Nat.ne_of_lt hlt)]
    exact q
  show wpAny _ _ _ _ _ { s with heap := ((s.heap.push (seqObj "list" #[] 0)).update s.heap.objs.size (Obj.mapSeq (· ++ vs.toArray))).push (seqObj "list" vs.toArray 0) }
  rw [hsz]
  refine wpAny_bind (wpAny_holding (wpAny_call_entry slot_list_sort ⟨_, hoL, rfl⟩ entry_list_sort (sort_tup (key := key) hoL h64 (fun i hi => ?_) (fun i b hi e => ?_) hinj fun p a1 a2 => ⟨_, rfl, ?_⟩) (args_list_sort _)))
  · obtain ⟨b, its, m, t1, t2, rest, q1, q2, q3⟩ := hk i hi
    exact ⟨b, its, m, t1, t2, rest, q1, keep _ _ q2, q3⟩
  · obtain ⟨b', its, m, t1, t2, rest, q1, q2, q3⟩ := hk i hi
    rw [e] at q1
    cases q1
    exact Nat.ne_of_lt (Nat.lt_succ_of_lt (Heap.lt_size q2))
  · exact wpAny_pure ⟨_, rfl, h p a1 a2⟩
end
end Mine

end
namespace Mine
theorem flush_tcomp {prog : Program} {w : World} {A : Around} {Q : Flow → Shared → Prop} {E : Value → Shared → Prop} {s : Shared} {env : Env} (h : wpAny (model prog w) A (execs [] env) Q E s) : wpAny (model prog w) A (execs [] env) Q E s := by
  k_with_none
  w_top off
  first | (walk1; fail) | exact h
end Mine

section
open PyProof.V
namespace Mine
open PyProof.Rows.LCg

/-- the names of a target `a, b, c` -/
abbrev namesOf (nps : List (Str × Pos)) : List PySem.Expr := nps.map fun p => .Name p.1 p.2

section
variable {prog : Program} {w : World} {A : Around} {E : Value → Shared → Prop} {s : Shared} {h₀ : Heap} {L : Addr} {m : Str → Option Value} {env : Env}

/-- the tests of a comprehension -/
def testsOf (ifs : List PySem.Expr) (env : Env) : Sem Bool :=
  forIn ifs true fun c r => if r = true then do let ok ← isTrue c env (eval c env); pure (ForInStep.yield ok) else pure (ForInStep.yield r)

theorem tup_turns {elt iter : PySem.Expr} {elts ifs : List PySem.Expr} {x1} {tp : Pos} {scope : Scope} {pos : Pos} {it acc : Value} {env : Env} {R : Result → Shared → Prop} (I : Nat → Shared → Prop)
    (turn : ∀ n s, I n s → wpAny (model prog w) A (pyNext it) (fun r s₁ => match r with
      | none => R (.ok .next) s₁
      | some v => wpAny (model prog w) A (letOwnedTupleGo (.Tuple elts x1 tp) it v) (fun _ s₁' => wpAny (model prog w) A (assign (.Tuple elts x1 tp) env v) (fun _ s₂ =>
          wpAny (model prog w) A (testsOf ifs env) (fun ok s₃ => if ok = true then
            wpAny (model prog w) A (eval elt env) (fun x s₄ =>
              wpAny (model prog w) A (call (.builtin "list.append") [acc, x]) (fun _ s₅ => ∃ m, m < n ∧ I m s₅) (notedBy (model prog w) A env fun e s' => R (.error e) s') s₄) (notedBy (model prog w) A env fun e s' => R (.error e) s') s₃
            else ∃ m, m < n ∧ I m s₃) (notedBy (model prog w) A env fun e s' => R (.error e) s') s₂)
          (notedBy (model prog w) A env fun e s' => R (.error e) s') s₁') (notedBy (model prog w) A env fun e s' => R (.error e) s') s₁) (notedBy (model prog w) A env fun e s' => R (.error e) s') s)
    (n : Nat) (h : I n s) : codeAny (model prog w) A (.compLoop (.ListComp elt [⟨.Tuple elts x1 tp, iter, ifs, 0⟩] scope pos) 0 it acc env) R s := by
  refine codeAny_loop rfl I (fun n s hI => ?_) n h
  show wpAny _ A ((compTurn (.ListComp elt [⟨.Tuple elts x1 tp, iter, ifs, 0⟩] scope pos) 0 it acc env).onRaise (fun x => do noteFrame x env; theTreesLotGoes x)) _ _ s
  refine wpAny_noted ?_
  rw [compTurn_list]
  refine wpAny_bind (wpAny_standAt (wpAny_bind (wpAny_mono (turn n s hI) (fun r s₁ h₁ => ?_) fun _ _ h' => h')))
  cases r with
  | none => exact wpAny_pure h₁
  | some v =>
    refine wpAny_bind (wpAny_mono h₁ (fun _ s₂ h₂ => wpAny_bind (wpAny_mono h₂ (fun _ s₃ h₃ => wpAny_bind (wpAny_mono h₃ (fun ok s₄ h₄ => ?_) fun _ _ h' => h')) fun _ _ h' => h')) fun _ _ h' => h')
    cases ok with
    | false => exact wpAny_pure ⟨rfl, h₄⟩
    | true => exact wpAny_bind (wpAny_bind (wpAny_mono h₄ (fun x s₅ h₅ => wpAny_bind (wpAny_mono h₅ (fun _ s₆ h₆ => wpAny_pure (wpAny_pure ⟨rfl, h₆⟩)) fun _ _ h' => h')) fun _ _ h' => h'))

theorem each_names (nps : List (Str × Pos)) (env : Env) : assignEach (namesOf nps) env = nps.map fun p => (false, assign (.Name p.1 p.2) env) := by
  induction nps with
  | nil => rfl
  | cons p r ih =>
    show (false, assign (.Name p.1 p.2) env) :: assignEach (namesOf r) env = _
    rw [ih]; rfl

/-- storing a row's items under the names, one after the other -/
theorem store_names {C : Addr} {scope : Scope} {cl : List (Str × Addr)} (hkind : scope.kind = .function) (nps : List (Str × Pos)) : ∀ {vs : List Value} {s : Shared} {m' : Str → Option Value} {Q : Unit → Shared → Prop},
    nps.length = vs.length → (∀ p ∈ nps, scope.names.lookup p.1 = some .local) → (nps.map (·.1)).Nodup → s.heap.Ns C m' →
    (∀ h' tk m'', h'.Ns C m'' → (∀ (k : Nat) (p : Str × Pos) (v : Value), nps[k]? = some p → vs[k]? = some v → m'' p.1 = some v) → (∀ x, x ∉ nps.map (·.1) → m'' x = m' x) → Heap.ExtBut C s.heap h' → Q () { s with heap := h', toks := tk }) →
    wpAny (model prog w) A (assignInOrder ((nps.map fun p => (false, assign (.Name p.1 p.2) (compEnvC scope cl C env))).map (·.2)) vs) Q E s := by
  induction nps with
  | nil =>
    intro vs s m' Q hl _ _ hn h
    have e : vs = [] := List.eq_nil_of_length_eq_zero hl.symm
    subst e
    exact assignInOrder_nil (h s.heap s.toks m' hn (fun _ _ _ e => by simp at e) (fun _ _ => rfl) fun _ _ _ e => e)
  | cons p nps ih =>
    intro vs s m' Q hl hk hd hn h
    cases vs with
    | nil => cases hl
    | cons v vs =>
      rw [List.map_cons, List.nodup_cons] at hd
      refine assignInOrder_cons (wpAny_assign_Name (wpAny_storeName_local (lookup_relabel_local (hk p (.head _))) hn (fun h₁ hn₁ hs₁ => ?_) (by simp only [compEnvC, relabel, hkind]; rfl)))
      refine ih (Nat.succ.inj hl) (fun q hq => hk q (.tail _ hq)) hd.2 hn₁ fun h₂ tk m₂ hn₂ a1 a2 a3 => ?_
      refine h h₂ tk m₂ hn₂ (fun k q u e1 e2 => ?_) (fun x hx => ?_) fun b o hb e => a3 b o hb (hs₁.extBut b o hb e)
      · cases k with
        | zero =>
          rw [List.getElem?_cons_zero] at e1 e2
          rw [← Option.some.inj e1, ← Option.some.inj e2, a2 _ hd.1]; exact if_pos rfl
        | succ k => exact a1 k q u e1 e2
      · rw [List.map_cons, List.mem_cons, not_or] at hx
        rw [a2 x hx.2, if_neg hx.1]

theorem no_star (nps : List (Str × Pos)) (env : Env) : (nps.map fun p => (false, assign (.Name p.1 p.2) env)).findIdx? (·.1) = none := by
  rw [List.findIdx?_eq_none_iff]
  intro x hx
  obtain ⟨p, _, rfl⟩ := List.mem_map.mp hx
  rfl

/-- one turn's duty of a comprehension over rows -/
def TupTurn (prog : Program) (w : World) (A : Around) (h₀ : Heap) (L : Addr) (m : Str → Option Value) (env : Env) (elt : PySem.Expr) (ifs : List PySem.Expr) (nps : List (Str × Pos)) (scope : Scope) (cl : List (Str × Addr)) (s₂ : Shared) (ax : Addr) (its : Array Value)
    (J : Nat → List Value → List (Addr × Obj) → Prop) : Prop :=
  ∀ i ys news v, its[i]? = some v → J i ys news → ∃ t items, v = .ref t ∧ items.size = nps.length ∧ (∀ h, Fr h₀ L h m → News h₀ L h news → IsTup h t items) ∧
    ∀ I oI C oC D m₂ h tk (E' : Value → Shared → Prop), NsObj oC m₂ → (∀ (k : Nat) (p : Str × Pos) (v : Value), nps[k]? = some p → items.toList[k]? = some v → m₂ p.1 = some v) →
      Fr h₀ L h m → News h₀ L h ((I, oI) :: (C, oC) :: (D, lst ys) :: news) → Off3 I C D news → ((@Ne Nat I C) ∧ (@Ne Nat I D) ∧ (@Ne Nat C D)) →
      wpAny (model prog w) A (testsOf ifs (compEnvC scope cl C env)) (fun ok s' => if ok = true then
        wpAny (model prog w) A (eval elt (compEnvC scope cl C env)) (CompEnd h₀ L m { s₂ with heap := h, toks := tk } I oI C oC D (lst ys) (SrcAt h₀ ax its) (fun y news' => J (i + 1) (ys ++ [y]) news')) E' s'
        else CompEnd h₀ L m { s₂ with heap := h, toks := tk } I oI C oC D (lst ys) (SrcAt h₀ ax its) (fun _ news' => J (i + 1) ys news') Value.none s') E' { s₂ with heap := h, toks := tk }

theorem tup_loop {elt iter : PySem.Expr} {ifs : List PySem.Expr} {nps : List (Str × Pos)} {x1} {tp : Pos} {scope : Scope} {cl : List (Str × Addr)} {pos : Pos} {s₂ : Shared} {I C D ax : Addr} {its : Array Value} {R : Result → Shared → Prop} {h₁ : Heap} {tk₁ : Nat} {m₁ : Str → Option Value} {news : List (Addr × Obj)}
    (J : Nat → List Value → List (Addr × Obj) → Prop) (hh : A.handled = none) (hkind : scope.kind = .function) (hl : ∀ p ∈ nps, scope.names.lookup p.1 = some .local) (hnd : (nps.map (·.1)).Nodup) (hsz : its.size ≤ sizeLine)
    (hIC : @Ne Nat I C) (hID : @Ne Nat I D) (hCD : @Ne Nat C D) (hLI : L ≠ I) (hLC : L ≠ C) (hLD : L ≠ D) (hI₀ : h₀.get? I = none) (hC₀ : h₀.get? C = none) (hD₀ : h₀.get? D = none) (hax : ax ≠ I) (haxD : ax ≠ D) (haxC : ax ≠ C)
    (hit : h₁.IsListIter I ax 0) (hli : h₁.IsList ax its) (F : Fr h₀ L h₁ m) (hn : h₁.Ns C m₁) (N : News h₀ L h₁ ((D, lst []) :: news)) (off : Off3 I C D news) (hS : SrcAt h₀ ax its news) (hJ : J 0 [] news)
    (T : TupTurn prog w A h₀ L m env elt ifs nps scope cl s₂ ax its J)
    (hR : ∀ h tk m' ys news', Fr h₀ L h m → News h₀ L h ((D, lst ys) :: news') → Off1 D news' → h.Ns C m' → (∀ p ∈ news', p.1 ≠ C) → J its.size ys news' → R (.ok .next) { s₂ with heap := h, toks := tk }) :
    codeAny (model prog w) A (.compLoop (.ListComp elt [⟨.Tuple (namesOf nps) x1 tp, iter, ifs, 0⟩] scope pos) 0 (.ref I) (.ref D) (compEnvC scope cl C env)) R { s₂ with heap := h₁, toks := tk₁ } := by
  refine tup_turns (fun k s' => ∃ h tk i ys m' nws, s' = ({ s₂ with heap := h, toks := tk } : Shared) ∧ i ≤ its.size ∧ k = its.size + 1 - i ∧ ys.length ≤ i ∧ h.IsListIter I ax i ∧ h.IsList ax its ∧ Fr h₀ L h m ∧ h.Ns C m' ∧ News h₀ L h ((D, lst ys) :: nws) ∧
      Off3 I C D nws ∧ SrcAt h₀ ax its nws ∧ J i ys nws) ?_ (its.size + 1) ⟨h₁, tk₁, 0, [], m₁, news, rfl, Nat.zero_le _, rfl, Nat.le_refl _, hit, hli, F, hn, N, off, hS, hJ⟩
  rintro k s' ⟨h, tk, i, ys, m', nws, rfl, hi, rfl, hyl, ht, ha, F', hn', N', off', hS', hJ'⟩
  have W := Walks.list (prog := prog) (w := w) hh I ax hax its
  by_cases hlt : i < its.size
  · refine W.item i _ _ _ hlt ⟨ht, ha⟩ fun v h₂ tk₂ hv hst₂ hk₂ => ?_
    obtain ⟨t, items, rfl, hsz', htup, turn⟩ := T i ys nws v hv hJ'
    have o3 := off'.mem
    have F₂ : Fr h₀ L h₂ m := fr_but F' hk₂ hLI hI₀
    have N₂ : News h₀ L h₂ ((D, lst ys) :: nws) := news_but N' hk₂ fun p hp => by
      rcases List.mem_cons.mp hp with rfl | hp
      · exact fun q => hID q.symm
      · exact (o3 p hp).1
    have hn₂ : h₂.Ns C m' := hn'.at' fun o e => hk₂ _ o (by simpa using fun q : C = I => hIC q.symm) e
    refine wpAny_letOwnedTupleGo_listiter hst₂.1 ?_
    refine assign_Tuple_tuple hh (htup _ F₂ fun p hp => N₂ p (.tail _ hp)) (by rw [each_names, List.length_map]; exact hsz'.symm) (by rw [each_names]; exact no_star _ _) fun h₃ he₃ => ?_
    have he : ∀ b o, h₂.get? b = some o → h₃.get? b = some o := fun b o e => he₃ b o (Nat.ne_of_lt (Heap.lt_size e)) e
    rw [each_names]
    refine store_names hkind nps (by rw [Array.length_toList]; exact hsz'.symm) hl hnd (hn₂.at' fun o e => he _ o e) fun h₄ tk₄ m₄ hn₄ a1 _ a3 => ?_
    have old : ∀ b o, b ≠ C → h₂.get? b = some o → h₄.get? b = some o := fun b o hb e => a3 b o hb (he b o e)
    have F₄ : Fr h₀ L h₄ m := ⟨F₂.ns.at' fun o e => old L o hLC e, fun b o e => old b o (fun q => by rw [q, hC₀] at e; cases e) (F₂.keep b o e), F₂.above⟩
    obtain ⟨oC, heC, hoC⟩ := ns_obj hn₄
    obtain ⟨oI, heI⟩ : ∃ oI, h₄.get? I = some oI := by obtain ⟨o, e, _⟩ := hst₂.1; exact ⟨o, old I o hIC e⟩
    have N₄ : News h₀ L h₄ ((I, oI) :: (C, oC) :: (D, lst ys) :: nws) := fun p hp => by
      rcases List.mem_cons.mp hp with rfl | hp
      · exact ⟨heI, Ne.symm hLI, hI₀⟩
      · rcases List.mem_cons.mp hp with rfl | hp
        · exact ⟨heC, Ne.symm hLC, hC₀⟩
        · refine ⟨old _ _ ?_ (N₂ p hp).1, (N₂ p hp).2⟩
          rcases List.mem_cons.mp hp with rfl | hp
          · exact fun q => hCD q.symm
          · exact (o3 p hp).2.1
    have hit₄ : h₄.IsListIter I ax (i + 1) := by obtain ⟨o, e, r⟩ := hst₂.1; exact ⟨o, old I o hIC e, r⟩
    refine wpAny_mono (turn I oI C oC D m₄ h₄ _ _ hoC a1 F₄ N₄ off' ⟨hIC, hID, hCD⟩) (fun ok s₄ q => ?_) fun _ _ e => e
    cases ok with
    | true =>
      simp only [if_true] at q ⊢
      refine wpAny_mono q (fun y s₅ q => ?_) fun _ _ e => e
      obtain ⟨h₅, tk₅, n₅, rfl, F₅, N₅, off₅, hS₅, hJ₅⟩ := q
      have zI := (N₅ (I, oI) (by simp)).1
      have zC := (N₅ (C, oC) (by simp)).1
      have zD := (N₅ (D, lst ys) (by simp)).1
      have N₅' : News h₀ L h₅ n₅ := fun p hp => N₅ p (by simp [hp])
      have hli₅ : h₅.IsList ax its := hS₅.list F₅.keep N₅'
      refine append_at (hsz := by show ys.toArray.size ≤ sizeLine; rw [List.size_toArray]; omega) zD fun h₆ hs₆ hD₆ => ?_
      have o5 := off₅.mem
      refine ⟨its.size + 1 - (i + 1), by omega, h₆, tk₅, i + 1, ys ++ [y], _, n₅, rfl, hlt, rfl, by rw [List.length_append, List.length_singleton]; omega, ?_, hli₅.extBut hs₆.extBut haxD, F₅.change hs₆ (Ne.symm hLD) hD₀,
        (hoC.ns zC).sameBut hs₆ hCD, fun p hp => ?_, off₅, hS₅, hJ₅⟩
      · obtain ⟨o, e, r⟩ := hit₄
        rw [heI] at e; cases e
        exact ⟨oI, hs₆.extBut _ _ hID zI, r⟩
      · rcases List.mem_cons.mp hp with rfl | hp
        · exact ⟨hD₆.trans (congrArg some (lst_snoc ys y)), Ne.symm hLD, hD₀⟩
        · exact ⟨hs₆.extBut _ _ (o5 p hp).2.2 (N₅' p hp).1, (N₅' p hp).2⟩
    | false =>
      simp only [Bool.false_eq_true, if_false] at q ⊢
      obtain ⟨h₅, tk₅, n₅, rfl, F₅, N₅, off₅, hS₅, hJ₅⟩ := q
      have zI := (N₅ (I, oI) (by simp)).1
      have zC := (N₅ (C, oC) (by simp)).1
      have N₅' : News h₀ L h₅ n₅ := fun p hp => N₅ p (by simp [hp])
      refine ⟨its.size + 1 - (i + 1), by omega, h₅, tk₅, i + 1, ys, _, n₅, rfl, hlt, rfl, by omega, ?_, hS₅.list F₅.keep N₅', F₅, hoC.ns zC, fun p hp => N₅ p (by
        rcases List.mem_cons.mp hp with rfl | hp
        · simp
        · simp [hp]), off₅, hS₅, hJ₅⟩
      obtain ⟨o, e, r⟩ := hit₄
      rw [heI] at e; cases e
      exact ⟨oI, zI, r⟩
  · obtain rfl : i = its.size := by omega
    refine W.done _ _ _ ⟨ht, ha⟩ fun h₂ tk₂ hk₂ => ?_
    have o3 := off'.mem
    refine hR h₂ tk₂ m' ys nws (fr_but F' hk₂ hLI hI₀) (news_but N' hk₂ fun p hp => ?_) off'.one (hn'.at' fun o e => hk₂ _ o (by simpa using fun q : C = I => hIC q.symm) e) (fun p hp => (o3 p hp).2.1) hJ'
    rcases List.mem_cons.mp hp with rfl | hp
    · exact fun q => hID q.symm
    · exact (o3 p hp).1

/-- what the source of a comprehension over rows owes -/
def TupSrc (prog : Program) (w : World) (A : Around) (h₀ : Heap) (L : Addr) (m : Str → Option Value) (env : Env) (elt : PySem.Expr) (ifs : List PySem.Expr) (nps : List (Str × Pos)) (scope : Scope) (cl : List (Str × Addr)) (Fin : Shared → List Value → List (Addr × Obj) → Prop) (xv : Value) (s₁ : Shared) : Prop :=
  ∃ ax its news, xv = .ref ax ∧ A.handled = none ∧ Fr h₀ L s₁.heap m ∧ News h₀ L s₁.heap news ∧ SrcAt h₀ ax its news ∧ its.size ≤ sizeLine ∧
    ∀ s₂ : Shared, (∃ h, s₂ = { s₁ with heap := h }) → ∃ J, J 0 [] news ∧ TupTurn prog w A h₀ L m env elt ifs nps scope cl s₂ ax its J ∧ ∀ ys nws, J its.size ys nws → Fin s₂ ys nws

theorem TupSrc.ledger {elt : PySem.Expr} {ifs : List PySem.Expr} {nps : List (Str × Pos)} {scope : Scope} {cl : List (Str × Addr)} {Fin : Shared → List Value → List (Addr × Obj) → Prop} {ax : Addr} {its : Array Value} {k : Nat} {news : List (Addr × Obj)} {s₁ : Shared}
    (hh : A.handled = none) (F : Fr h₀ L s₁.heap m) (N : News h₀ L s₁.heap news) (hm : (ax, ({ cls := .type "list", data := .seq its k } : Obj)) ∈ news) (hsz : its.size ≤ sizeLine) (J : Nat → List Value → List (Addr × Obj) → Prop) (hJ : J 0 [] news)
    (h : ∀ g, TupTurn prog w A h₀ L m env elt ifs nps scope cl { s₁ with heap := g } ax its J) (fin : ∀ g ys nws, J its.size ys nws → Fin { s₁ with heap := g } ys nws) :
    TupSrc prog w A h₀ L m env elt ifs nps scope cl Fin (.ref ax) s₁ := ⟨ax, its, news, rfl, hh, F, N, .inr ⟨_, hm, rfl, _, rfl⟩, hsz, fun _ ⟨g, e⟩ => ⟨J, hJ, e ▸ h g, e ▸ fin g⟩⟩

theorem ListComp_tup {elt iter : PySem.Expr} {ifs elts : List PySem.Expr} {nps : List (Str × Pos)} {x1} {tp : Pos} {scope : Scope} {cl : List (Str × Addr)} {pos : Pos} {Q : Value → Shared → Prop} (F₀ : Fr h₀ L s.heap m)
    (hel : elts = namesOf nps) (hclos : closureFor scope env = pure cl) (hcell : ∀ y ∈ scope.names, y.2 ≠ .cell) (hkind : scope.kind = .function)
    (hnames : ∀ y ∈ scope.names, y.2 = .local → scope.names.lookup y.1 = some .local) (hl : ∀ p ∈ nps, scope.names.lookup p.1 = some .local) (hnd : (nps.map (·.1)).Nodup)
    (h : wpAny (model prog w) A (eval iter env) (TupSrc prog w A h₀ L m env elt ifs nps scope cl (fun s₂ => FinE h₀ L m s₂ Q)) E s)
    (hs : ∀ x, foldedSetIterable iter env x = pure x := by intro _; rfl) :
    wpAny (model prog w) A (eval (.ListComp elt [⟨.Tuple elts x1 tp, iter, ifs, 0⟩] scope pos) env) Q E s := by
  subst hel
  rw [eval_ListComp]
  refine wpAny_comprehension_free (use := none) rfl hs hclos hkind hnames (wpAny_mono h (fun xv s₁ h₁ => ?_) fun _ _ e => e)
  obtain ⟨ax, its, news, rfl, hh, F, N, S, hsz, R⟩ := h₁
  have hla := S.list F.keep N
  have hlt : @LT.lt Nat _ ax s₁.heap.objs.size := by obtain ⟨_, e, _⟩ := hla; exact Heap.lt_size e
  refine wpAny_pyIter_list hla ?_
  obtain ⟨J, hJ, turn, fin⟩ := R { s₁ with heap := s₁.heap.push { cls := .type "list_iterator", data := .fields #[.ref ax, .int 0 0] } } ⟨_, rfl⟩
  generalize hg : s₁.heap.push { cls := .type "list_iterator", data := .fields #[.ref ax, .int 0 0] } = g at *
  have up : ∀ b o, s₁.heap.get? b = some o → g.get? b = some o := fun b o e => by rw [← hg]; exact Heap.get?_push_of_some _ e
  have sg : g.objs.size = s₁.heap.objs.size + 1 := by rw [← hg, Heap.size_push]
  refine wpAny_newObj_type (wpAny_newFunctionEnv hcell (by intro y hy; simp at hy) (fun h₁ hns₁ hsb₁ => ?_) hkind)
  dsimp only at hns₁ hsb₁ ⊢
  generalize hg' : g.push { cls := .type "list", dict := none, data := .seq ([] : List Value).toArray } = g' at hns₁ hsb₁ ⊢
  have sg' : g'.objs.size = g.objs.size + 1 := by rw [← hg', Heap.size_push]
  have old : ∀ b o, s₁.heap.get? b = some o → h₁.get? b = some o := fun b o e => hsb₁.extBut b o (Nat.ne_of_lt (by have : @LT.lt Nat _ b s₁.heap.objs.size := Heap.lt_size e; omega)) (Heap.get?_push_of_some _ (hg' ▸ Heap.get?_push_of_some _ (up b o e)))
  have hI : h₁.get? s₁.heap.objs.size = some { cls := .type "list_iterator", data := .fields #[.ref ax, .int 0 0] } :=
    hsb₁.extBut _ _ (Nat.ne_of_lt (by omega)) (Heap.get?_push_of_some _ (hg' ▸ Heap.get?_push_of_some _ (hg ▸ Heap.get?_push_size _ rfl)))
  have hD : h₁.get? g.objs.size = some (lst []) := hsb₁.extBut _ _ (Nat.ne_of_lt (by omega)) (Heap.get?_push_of_some _ (hg' ▸ Heap.get?_push_size _ rfl))
  have free : ∀ a, s₁.heap.objs.size ≤ a → h₀.get? a = none := fun a ha => by
    cases e : h₀.get? a with
    | none => rfl
    | some o => exact absurd (Heap.lt_size (F.keep a o e)) (Nat.not_lt.mpr ha)
  have far : ∀ p ∈ news, @LT.lt Nat _ p.1 s₁.heap.objs.size := fun p hp => Heap.lt_size (N p hp).1
  have hL : @LT.lt Nat _ L s₁.heap.objs.size := F.ns.lt
  have nn : ∀ {a b : Nat}, a < b → @Ne Nat a b := Nat.ne_of_lt
  have loop : codeAny (model prog w) A (.compLoop (.ListComp elt [⟨.Tuple (namesOf nps) x1 tp, iter, ifs, 0⟩] scope pos) 0 (.ref s₁.heap.objs.size) (.ref g.objs.size) (compEnvC scope cl g'.objs.size env))
      (compPost (model prog w) A E none Q (.ref g.objs.size) g'.objs.size) { ({ s₁ with heap := g } : Shared) with heap := h₁, toks := s₁.toks + ([] : List (Str × Value)).length } := by
    refine tup_loop J hh hkind hl hnd hsz (nn (by omega)) (nn (by omega)) (fun q => absurd q (Nat.ne_of_gt (by omega))) (nn hL) (nn (by omega)) (nn (by omega)) (free _ (Nat.le_refl _)) (free _ (by omega)) (free _ (by omega)) (nn hlt) (nn (by omega)) (nn (by omega))
      ⟨_, hI, rfl, rfl⟩ (by obtain ⟨o, e, r⟩ := hla; exact ⟨o, old _ _ e, r⟩) (F.keeps old) hns₁ (fun p hp => ?_) (Off3.of fun p hp => ⟨nn (far p hp), nn (by have := far p hp; omega), nn (by have := far p hp; omega)⟩) S hJ turn ?_
    · rcases List.mem_cons.mp hp with rfl | hp
      · exact ⟨hD, fun q => absurd q (Nat.ne_of_gt (by omega)), free _ (by omega)⟩
      · exact ⟨old _ _ (N p hp).1, (N p hp).2⟩
    · intro h tk m' ys news' F' N' o1 hn offC hj
      refine ⟨m', hn, fun h'' hs'' => fin ys news' hj g.objs.size h'' tk (F'.change hs'' (fun q => absurd q (Nat.ne_of_gt (by omega))) (free _ (by omega))) (fun p hp => ?_) o1⟩
      refine ⟨hs''.extBut _ _ ?_ (N' p hp).1, (N' p hp).2⟩
      rcases List.mem_cons.mp hp with rfl | hp
      · exact nn (by omega)
      · exact offC p hp
  exact codeAny_compStart_list loop ((Walks.list (prog := prog) (w := w) hh s₁.heap.objs.size ax (nn hlt) its).self 0 _ _ _ ⟨⟨_, hI, rfl, rfl⟩, by obtain ⟨o, e, r⟩ := hla; exact ⟨o, old _ _ e, r⟩⟩ loop)
end
end Mine

end
namespace Mine
theorem flush_ntime {prog : Program} {w : World} {A : Around} {Q : Flow → Shared → Prop} {E : Value → Shared → Prop} {s : Shared} {env : Env} (h : wpAny (model prog w) A (execs [] env) Q E s) : wpAny (model prog w) A (execs [] env) Q E s := by
  k_with_none
  w_top off
  first | (walk1; fail) | exact h
end Mine

section
open PyProof.V
namespace Mine
theorem words_ntime : True := by
  k_with_none
  k_with "own ne" => (refine neN ?_; (try dsimp only); first | with_reducible assumption | (refine Ne.symm ?_; with_reducible assumption) | k_extra "own and" | (refine Ne.symm ?_; k_extra "own and"))
  k_with "own right" => (iterate 9 (first | done | with_reducible assumption | apply And.right))
  k_with "own and" => first | (apply And.left; k_extra "own right"; done) | (k_extra "own right"; done) | (apply And.left; apply And.left; k_extra "own right"; done) | (apply And.left; apply And.right; apply And.left; k_extra "own right"; done) | (apply And.right; apply And.left; k_extra "own right"; done) | (apply And.right; apply And.right; apply And.left; k_extra "own right"; done)
  k_with "own eval ListComp" => (k_here; k_dflt (refine LCg.ListComp_U (F₀ := by k_asm) (by with_unfolding_all rfl) (by decide) (by rfl) (by decide) (by rfl) ?_))
  k_with "own call builtin:len" => (k_here; (with_reducible show wpAny _ _ (call (Value.builtin "len") [Value.ref _]) _ _ _); k_dflt (refine PyProof.Rows.len_list (News.isList (by k_asm) (by k_mem)) (by simp only [List.size_toArray]; omega) ?_))
  trivial

section
variable {P P' : Value → Row → Prop}
theorem rows_len : ∀ {vs : List Value} {rs : List Row}, RowsAre P vs rs → vs.length = rs.length
  | [], [], _ => rfl
  | _ :: _, _ :: _, h => congrArg (· + 1) (rows_len h.2)
  | [], _ :: _, h => h.elim
  | _ :: _, [], h => h.elim
theorem rows_get : ∀ {vs : List Value} {rs : List Row} {i : Nat} {v : Value}, RowsAre P vs rs → vs[i]? = some v → ∃ r, rs[i]? = some r ∧ P v r
  | v :: vs, r :: rs, 0, u, h, e => ⟨r, rfl, by have e' : v = u := Option.some.inj e; exact e' ▸ h.1⟩
  | _ :: vs, _ :: rs, i + 1, u, h, e => rows_get (i := i) h.2 e
  | [], _, _, _, _, e => by cases e
  | _ :: _, [], _, _, h, _ => h.elim
theorem rows_mono (hp : ∀ v r, P v r → P' v r) : ∀ {vs : List Value} {rs : List Row}, RowsAre P vs rs → RowsAre P' vs rs
  | [], [], _ => trivial
  | _ :: _, _ :: _, h => ⟨hp _ _ h.1, rows_mono hp h.2⟩
  | [], _ :: _, h => h.elim
  | _ :: _, [], h => h.elim
theorem rows_app : ∀ {vs us : List Value} {rs qs : List Row}, RowsAre P vs rs → RowsAre P us qs → RowsAre P (vs ++ us) (rs ++ qs)
  | [], _, [], _, _, h => h
  | _ :: _, _, _ :: _, _, h, h' => ⟨h.1, rows_app h.2 h'⟩
  | [], _, _ :: _, _, h, _ => h.elim
  | _ :: _, _, [], _, h, _ => h.elim
end
theorem rowNet_keep {h h' : Heap} {ts : List Addr} {v : Value} {r : Row} (K : ∀ b o, b ∉ ts → h.get? b = some o → h'.get? b = some o) (hts : ∀ b ∈ ts, ∀ its, h.get? b ≠ some (tupObj its)) : RowNet h v r → RowNet h' v r :=
  fun ⟨a, arr, t1, t2, t3, t4, t5, e, q, d⟩ => ⟨a, arr, t1, t2, t3, t4, t5, e, K _ _ (fun hb => hts a hb _ q) q, d⟩

theorem inst_tup {d : Addr} {n : Nat} {its : Array Value} : (instObj n d) ≠ tupObj its := by intro h; cases h
theorem list_tup {ws : Array Value} {n : Nat} {its : Array Value} : (W.listOf ws n) ≠ tupObj its := fun h => absurd (congrArg Obj.cls h) (by show Value.type "list" ≠ Value.type "tuple"; decide)
theorem dict_tup {k : NK} {c : Addr} {u : Int} {tu : Tok} {mo : Value} {hm : Int} {thm : Tok} {ct : Int} {tct : Tok} {wt ft : Addr} {its : Array Value} : netDict k c u tu mo hm thm ct tct wt ft ≠ tupObj its := fun h => absurd (congrArg Obj.cls h) (by show Value.type "dict" ≠ Value.type "tuple"; decide)

/-- a row's parts, by continuation (one copy of the goal) -/
theorem net_at {P : Prop} {h : Heap} {vs : List Value} {rs : List Row} {i : Nat} {v : Value} (H : RowsAre (RowNet h) vs rs) (hv : vs[i]? = some v)
    (k : ∀ (r : Row) ra arr t1 t2 t3 t4 t5, rs[i]? = some r → RowNet h v r → v = .ref ra → h.get? ra = some (tupObj #[.int r.t t1, .int r.o t2, .int r.g t3, .str r.p t4, .bytes arr t5]) → KBw.bInts arr = r.d → P) : P := by
  obtain ⟨r, hri, hrow⟩ := rows_get H hv
  have hrow' := hrow
  obtain ⟨ra, arr, t1, t2, t3, t4, t5, e, hra, hrd⟩ := hrow'
  exact k r ra arr t1 t2 t3 t4 t5 hri hrow e hra hrd
theorem no_tup {h : Heap} {b : Addr} {o : Obj} (e : h.get? b = some o) (n : ∀ its, o ≠ tupObj its) : ∀ its, h.get? b ≠ some (tupObj its) := fun its q => n its (Option.some.inj (e.symm.trans q))
theorem fc {α : Type} {p : α → Prop} {a : α} {l : List α} (h : p a) (t : ∀ x ∈ l, p x) : ∀ x ∈ a :: l, p x := List.forall_mem_cons.mpr ⟨h, t⟩
theorem not_three {a b c d : Addr} (h1 : a ≠ b) (h2 : a ≠ c) (h3 : a ≠ d) : a ∉ [b, c, d] := fun h => match h with
  | .head _ => h1 rfl
  | .tail _ (.head _) => h2 rfl
  | .tail _ (.tail _ (.head _)) => h3 rfl
theorem fa {α : Type} {p : α → Prop} {l l' : List α} (h : ∀ x ∈ l, p x) (t : ∀ x ∈ l', p x) : ∀ x ∈ l ++ l', p x := fun x hx => (List.mem_append.mp hx).elim (h x) (t x)
theorem fn {α : Type} {p : α → Prop} : ∀ x ∈ ([] : List α), p x := List.forall_mem_nil _

theorem kept_same {h h' : Heap} {news : List (Addr × Obj)} (K : Kept (news.map (·.1)) h h') (N : ∀ p ∈ news, h.get? p.1 = some p.2) (N' : ∀ p ∈ news, h'.get? p.1 = some p.2) : Kept [] h h' := fun b o _ e => by
  by_cases hb : b ∈ news.map (·.1)
  · obtain ⟨p, hp, rfl⟩ := List.mem_map.mp hb
    rw [N p hp] at e; rw [N' p hp]; exact e
  · exact K b o hb e

theorem NtJ_push_aux {rs : List Row} {i : Nat} {r : Row} (e : rs[i]? = some r) : (rs.take (i + 1)).map (·.t) = (rs.take i).map (·.t) ++ [r.t] := by
  rw [List.take_add_one, e, List.map_append]; rfl

def NtJ (rs : List Row) (nws : List (Addr × Obj)) (i : Nat) (ys : List Value) (news : List (Addr × Obj)) : Prop := news = nws ∧ IntsAre ys ((rs.take i).map (·.t))

theorem ntime_spec {w : World} {loose : List Str} {mean : ExcName → Option Value} {mg mb : Str → Option Value}
    {dp un : Nat} {gd : Option (List Code)} {cn : Str} {cs : Scope} {a : Addr} {ccd : Value} {cl : List (Str × Addr)} {outer : List Env} {A₀ : Around} {base h₀ : Heap} {L : Addr} {m : Str → Option Value} {s : Shared}
    {Q E : Value → Shared → Prop} {x d NC NW NF : Addr} {k : NK} {u : Int} {tu : Tok} {mv : Value} {hm : Int} {thm : Tok} {ct : Int} {tct : Tok} {vs : List Value} {rs : List Row} {nW : Nat}
    (B : Below A₀ base outer h₀) (F : Fr h₀ L s.heap m) (X : (hd.heap_39 w.params).In h₀)
    (T : Top hd.view_39 loose mean mg mb h₀) (hk : cs.kind = .function) (hdp : dp + 3 < recursionLimit) (hun : un + 20 < cLine)
    (N : News h₀ L s.heap [(x, instObj 77 d), (d, netDict k NC u tu mv hm thm ct tct NW NF), (NW, W.listOf (List.toArray vs) nW)])
    (hr : RowsAre (RowNet s.heap) vs rs) (hws : rs.length ≤ 63) (e1 : @Ne Nat x d) (e2 : @Ne Nat x NW) (e3 : @Ne Nat d NW)
    (ret0 : rs = [] → ∀ h' tk', Kept [] s.heap h' → Q .none { s with heap := h', toks := tk' })
    (ret1 : ∀ M t h' tk', M ∈ rs.map (·.t) → (∀ y ∈ rs.map (·.t), M ≤ y) → Kept [] s.heap h' → Q (.int M t) { s with heap := h', toks := tk' }) :
    wpAny (model pr w) (ktrTop dp un gd cn cs L a ccd cl outer) (call (.ref 69) [.ref x]) Q E s := by
  delta pr at *; revert X; k_fill; intro X
  have hlen := rows_len hr
  have hx : s.heap.get? x = some _ := (N _ (List.mem_cons_self)).1
  have hdd : s.heap.get? d = some _ := (N _ (List.mem_cons_of_mem _ (List.mem_cons_self))).1
  have hww : s.heap.get? NW = some _ := (N _ (List.mem_cons_of_mem _ (List.mem_cons_of_mem _ (List.mem_cons_self)))).1
  refine wpAny_call ?_
  refine' code_defG ?k1 ?k2 ?k3 ?k4 ?k5 ?kA ?kF ?kK ?k6 ?k7 ?k8 ?k9 ?kB ?_ ?c2 ?c3 ?c4 ?c5
  case kA => exact rfl
  case kF => exact rfl
  case kK => assumption
  case k1 => k_asm
  case k2 => k_asm
  case k3 => k_asm
  case k4 => k_asm
  case k5 => k_asm
  case k6 => k_is
  case k7 => k_is
  case k8 => ktr_room
  case k9 => exact BindsTo.of_eq rfl
  case c5 => decide
  case kB => exact locs rfl
  case c2 => exact rfl
  case c3 => exact rfl
  case c4 => exact rfl
  intro g' L' h' FG' F' N' B' X' T' kG'
  try dsimp only
  k_fold
  have hrg : RowsAre (RowNet g') vs rs := rows_mono (fun v r => rowNet_keep (fun b o hb e => kG' b o e hb) (fc (no_tup hx fun _ => inst_tup) (fc (no_tup hdd fun _ => dict_tup) (fc (no_tup hww fun _ => list_tup) fn)))) hr
  clear hr hx hdd hww
  by_cases hne : rs = []
  · have hv0 : vs.toArray.size = 0 := by rw [List.size_toArray, hlen, hne]; rfl
    k_steps
    exact ret0 hne _ _ (kept_same (kept_of kG' (by k_asm)) (fun p hp => (N p hp).1) (fun p hp => (N' p hp).1))
  · have hv0 : 0 < vs.toArray.size := by rw [List.size_toArray, hlen]; exact List.length_pos_iff.mpr hne
    k_steps
    refine LCg.CompSrc.ledger (by rfl) (by k_asm) (by k_asm) (by k_mem) (by rw [List.size_toArray, sizeLine_eq]; omega) fun gg => ?_
    refine comp_indU (fun i ys news => NtJ rs _ i ys news) ⟨rfl, .nil⟩ ?_ ?_
    · rintro i ys news v I oI C oC D m₂ h tk E' hin ⟨rfl, hz⟩ hv hC hx F N off ne
      refine net_at hrg (by simpa using hv) fun r ra arr t1 t2 t3 t4 t5 hri hrow er hra hrd => ?_
      subst er
      clear hrow
      have htup : IsTup g' ra #[.int r.t t1, .int r.o t2, .int r.g t3, .str r.p t4, .bytes arr t5] := ⟨_, hra, rfl, _, rfl⟩
      simp only [LCg.Off3, and_true] at off
      k_steps
      exact ⟨rfl, NtJ_push_aux hri ▸ hz.append (.cons _ _ .nil)⟩
    · rintro ys news ⟨rfl, hz⟩ D h tk F N off
      (try dsimp only)
      simp only [LCg.Off1, and_true] at off
      rw [List.size_toArray, hlen, List.take_length] at hz
      have hz0 : 0 < (rs.map (·.t)).length := by rw [List.length_map]; exact List.length_pos_iff.mpr hne
      k_steps
      rename News g' _ _ _ => NN
      exact ret1 _ _ _ _ (by assumption) (by assumption) (kept_same (kept_of kG' (by k_asm)) (fun p hp => (N p hp).1) (fun p hp => (NN p (List.mem_cons_of_mem _ hp)).1))
end Mine

end
namespace Mine
theorem flush_srt {prog : Program} {w : World} {A : Around} {Q : Flow → Shared → Prop} {E : Value → Shared → Prop} {s : Shared} {env : Env} (h : wpAny (model prog w) A (execs [] env) Q E s) : wpAny (model prog w) A (execs [] env) Q E s := by
  k_with_none
  w_top off
  first | (walk1; fail) | exact h
end Mine

section
open PyProof.V
namespace Mine

def rkey (r : Row) : Int × Int := (r.t, r.o)
def RLt (a b : Row) : Prop := klt (rkey a) (rkey b)
/-- `qs` is `rs` in order of time and count -/
def IsSort (rs qs : List Row) : Prop := qs.Perm rs ∧ qs.Pairwise RLt

theorem RLt.no {a b : Row} (h : RLt a b) (h' : RLt b a) : False := by unfold RLt klt rkey at *; dsimp only at *; omega
theorem IsSort.uniq {rs qs qs' : List Row} (h : IsSort rs qs) (h' : IsSort rs qs') : qs = qs' :=
  List.Perm.eq_of_pairwise (fun _ _ _ _ a b => (RLt.no a b).elim) h.2 h'.2 (h.1.trans h'.1.symm)
theorem IsSort.filter {rs qs : List Row} (p : Row → Bool) (h : IsSort rs qs) : IsSort (rs.filter p) (qs.filter p) :=
  ⟨h.1.filter p, h.2.sublist List.filter_sublist⟩

theorem rows_getD {P : Value → Row → Prop} {vs : List Value} {rs : List Row} (h : RowsAre P vs rs) {i : Nat} (hi : i < rs.length) : P (vs.getD i .none) (rs[i]) := by
  have hi' : i < vs.length := by rw [rows_len h]; exact hi
  obtain ⟨r, e, hp⟩ := rows_get h (List.getElem?_eq_getElem hi')
  rw [List.getElem?_eq_getElem hi] at e
  rw [Option.some.inj e, List.getD_eq_getElem?_getD, List.getElem?_eq_getElem hi']
  exact hp

theorem rows_map {P : Value → Row → Prop} {f : Nat → Value} {g : Nat → Row} : ∀ {p : List Nat}, (∀ i ∈ p, P (f i) (g i)) → RowsAre P (p.map f) (p.map g)
  | [], _ => trivial
  | i :: p, h => ⟨h i (.head _), rows_map fun j hj => h j (.tail _ hj)⟩

theorem range_map_getD {rs : List Row} {d : Row} : (List.range rs.length).map (fun i => rs.getD i d) = rs := by
  apply List.ext_getElem (by simp)
  intro i h1 h2
  simp [h2]

section
variable {prog : Program} {w : World} {A : Around} {E : Value → Shared → Prop} {s : Shared} {h₀ : Heap} {L : Addr} {m : Str → Option Value} {news : List (Addr × Obj)}
theorem sorted_rows2 {P : Value → Row → Prop} {l : Addr} {vs : List Value} {rs : List Row} {Q : Value → Shared → Prop} (F : Fr h₀ L s.heap m) (N : News h₀ L s.heap news) (hl : s.heap.IsList l vs.toArray)
    (hr : RowsAre P vs rs) (hP : ∀ v r, P v r → TupKey s.heap v (rkey r)) (hnd : (rs.map (·.o)).Nodup) (h64 : rs.length ≤ 63)
    (h : ∀ S h' us qs n, us.length = vs.length → IsSort rs qs → RowsAre P us qs → Fr h₀ L h' m → News h₀ L h' ((S, W.listOf (List.toArray us) n) :: news) → LCg.Off1 S news → s.heap.get? S = none → Q (.ref S) { s with heap := h' }) :
    wpAny (model prog w) A (call (.builtin "sorted") [.ref l]) Q E s := by
  have hlen := rows_len hr
  have inj : ∀ i j, i < rs.length → j < rs.length → i ≠ j → (rs.getD i ⟨0, 0, 0, Str.ofString "", []⟩).o ≠ (rs.getD j ⟨0, 0, 0, Str.ofString "", []⟩).o := by
    intro i j hi hj hne q
    rw [List.getD_eq_getElem?_getD, List.getElem?_eq_getElem hi, List.getD_eq_getElem?_getD, List.getElem?_eq_getElem hj] at q
    have := (List.pairwise_iff_getElem.mp hnd)
    rcases Nat.lt_or_gt_of_ne hne with c | c
    · exact this i j (by simpa using hi) (by simpa using hj) c (by simpa using q)
    · exact this j i (by simpa using hj) (by simpa using hi) c (by simpa using q.symm)
  refine sorted_tup (key := fun i => rkey (rs.getD i ⟨0, 0, 0, Str.ofString "", []⟩)) hl (by omega) (fun i hi => ?_) (fun i j hi hj => ?_) fun p p1 p2 => ?_
  · have hi' : i < rs.length := by omega
    have := hP _ _ (rows_getD hr hi')
    rw [show rs.getD i ⟨0, 0, 0, Str.ofString "", []⟩ = rs[i] from by rw [List.getD_eq_getElem?_getD, List.getElem?_eq_getElem hi']; rfl]
    exact this
  · exact inj i j (by omega) (by omega)
  · obtain ⟨e, he⟩ := sortedAll_at s.heap vs (List.toArray (p.map fun i => vs.getD i .none))
    have hmem : ∀ i ∈ p, i < rs.length := fun i hi => by
      have := p1.mem_iff.mp hi
      rw [List.mem_range] at this; omega
    have hfree : s.heap.get? (s.heap.objs.size + 1) = none := by
      cases q : s.heap.get? (s.heap.objs.size + 1) with
      | none => rfl
      | some o => exact absurd (Heap.lt_size q) (Nat.not_lt.mpr (Nat.le_succ _))
    refine h _ _ (p.map fun i => vs.getD i .none) (p.map fun i => rs.getD i ⟨0, 0, 0, Str.ofString "", []⟩) e ?_ ⟨?_, ?_⟩ ?_ (F.kept fun _ _ => sortedAll_old) (N.kept_cons F (fun _ _ => sortedAll_old) (Nat.le_succ _) he) ?_ hfree
    · rw [List.length_map, p1.length_eq, List.length_range]
    · have := p1.map fun i => rs.getD i ⟨0, 0, 0, Str.ofString "", []⟩
      rw [hlen, range_map_getD] at this
      exact this
    · rw [List.pairwise_map]
      exact p2
    · refine rows_map fun i hi => ?_
      rw [show rs.getD i ⟨0, 0, 0, Str.ofString "", []⟩ = rs[i]'(hmem i hi) from by rw [List.getD_eq_getElem?_getD, List.getElem?_eq_getElem (hmem i hi)]; rfl]
      exact rows_getD hr (hmem i hi)
    · refine off_new N ?_
      cases q : s.heap.get? (s.heap.objs.size + 1) with
      | none => rfl
      | some o => exact absurd (Heap.lt_size q) (Nat.not_lt.mpr (Nat.le_succ _))

theorem sorted_rows {P : Value → Row → Prop} {l : Addr} {vs : List Value} {rs : List Row} {Q : Value → Shared → Prop} (F : Fr h₀ L s.heap m) (N : News h₀ L s.heap news) (hl : s.heap.IsList l vs.toArray)
    (hr : RowsAre P vs rs) (hP : ∀ v r, P v r → TupKey s.heap v (rkey r)) (hnd : (rs.map (·.o)).Nodup) (h64 : rs.length ≤ 63)
    (h : ∀ S h' us qs n, us.length = vs.length → IsSort rs qs → RowsAre P us qs → Fr h₀ L h' m → News h₀ L h' ((S, W.listOf (List.toArray us) n) :: news) → LCg.Off1 S news → Q (.ref S) { s with heap := h' }) :
    wpAny (model prog w) A (call (.builtin "sorted") [.ref l]) Q E s :=
  sorted_rows2 F N hl hr hP hnd h64 fun S h' us qs n a b c d e f _ => h S h' us qs n a b c d e f
end

theorem net_key {h : Heap} {v : Value} {r : Row} : RowNet h v r → TupKey h v (rkey r) :=
  fun ⟨a, _, _, _, _, _, _, e, q, _⟩ => ⟨a, _, _, _, _, _, e, q, rfl⟩
end Mine

end
namespace Mine
theorem flush_cells {prog : Program} {w : World} {A : Around} {Q : Flow → Shared → Prop} {E : Value → Shared → Prop} {s : Shared} {env : Env} (h : wpAny (model prog w) A (execs [] env) Q E s) : wpAny (model prog w) A (execs [] env) Q E s := by
  k_with_none
  w_top off
  first | (walk1; fail) | exact h
end Mine

section
open PyProof.V
namespace Mine
section
variable {prog : Program} {w : World} {A₀ A : Around} {s : Shared} {base h₀ : Heap} {outer : List Env} {L : Addr} {m : Str → Option Value} {env : Env} {news : List (Addr × Obj)} {R : Result → Shared → Prop}

/-- entering a function with cells; the callee's base holds all but the ledger -/
theorem code_defCG {K : Frag} {p : Program} {loose : List Str} {mean : ExcName → Option Value} {mg mb : Str → Option Value} {name qual : Str} {params : Arguments} {body : List Stmt} {scope : Scope} {dV kV doc pm cdv ct oc : Value} {an od : Option Addr} {osl : Array (Option Value)} {f : Addr} {args : Args} {binds : List (Str × Value)}
    (B : Below A₀ base outer h₀) (F : Fr h₀ L s.heap m) (X₀ : K.In h₀) (N : News h₀ L s.heap news) (T : Top p loose mean mg mb h₀) (hA : A.frames = some (env :: outer)) (hf : env.frame = some L) (hke : env.scope.kind = .function)
    (ho : K.lookup f = some ⟨oc, od, .func (fnOf name qual params body scope dV kV doc pm an cdv ct), osl⟩) (hcd : codeIn K cdv qual = true) (hroom : A.depth < recursionLimit)
    (hbind : BindsTo s (fnOf name qual params body scope dV kV doc pm an cdv ct) args binds) (hkind : (binds.all fun y => scope.names.lookup y.1 == some .local || scope.names.lookup y.1 == some .cell) = true)
    (hnd : ((cellsFrom 0 scope.names []).map (·.1)).Nodup)
    (h : ∀ g L' h₁ tk cells, Fr h₀ L g m → Fr g L' h₁ (bindL (envOfC qual scope L' f cdv).kindOf binds fun _ => none) → News g L' h₁ (cells ++ news) →
      CellsAre (bindC (envOfC qual scope L' f cdv).kindOf binds fun _ => none) (cellsFrom (L' + 1) scope.names []) cells → Below A base (env :: outer) g → K.In g → Top p loose mean mg mb g → (∀ p ∈ news, p.1 < L') → GSub s.heap g (news.map (·.1)) →
      wpAny (model prog w) (A.deeper (envOfC qual scope L' f cdv)) (execs body (envOfC qual scope L' f cdv))
        (fun fl s' => LeaveK h₀ L m g R (match fl with | .ret v => v | _ => .none) s')
        (fun e s' => wpAny (model prog w) (A.deeper (envOfC qual scope L' f cdv)) (leaving (envOfC qual scope L' f cdv) e) (fun _ s'' => R (.error e) s'') (fun e' s'' => R (.error e') s'') s')
        { s with heap := h₁, toks := tk })
    (hco : scope.isCoroutine = false) (hgen : scope.isGenerator = false) (hk : scope.kind = .function) : codeAny (model prog w) A (.call (.ref f) args) R s := by
  have hnum : ∀ n, ∀ x ∈ binds, scope.names.lookup x.1 = some .local ∨ (scope.names.lookup x.1 = some .cell ∧ ((cellsFrom n scope.names []).lookup x.1).isSome = true) := kindsX hkind
  obtain ⟨FG, BG, st, lv⟩ := groundX (R := R) B F N hA hf hke
  refine codeAny_call_function hroom ((X₀.keeps F.keep) _ _ ho) rfl hco hgen rfl (codeRec_of (X₀.keeps F.keep) hcd) (hbind _ _ _ _ ?_)
  refine wpAny_newFunctionEnv_cells hk (hnum _) fun env' he s' x => ?_
  subst he
  refine ⟨(T.nolimit.keeps F.keep).keeps x.toInCall.keep, codeAny_func ?_⟩
  obtain ⟨h₁, tk, rfl, _⟩ := x.done
  have up := x.toInCall.keep
  have cellAt : ∀ n c, (n, c) ∈ cellsFrom (s.heap.objs.size + 1) scope.names [] → Heap.IsCell h₁ c (bindC (envOfC qual scope s.heap.objs.size f cdv).kindOf binds (fun _ => none) n) ∧ s.heap.objs.size < c := fun n c hm =>
    ⟨x.cell n c (lookup_of_mem_nodup (cellsFrom_names scope.names 0 (s.heap.objs.size + 1) [] [] rfl ▸ hnd) hm), x.above n c hm⟩
  obtain ⟨cells, NC, Y⟩ := Cl.news (h₀ := s.heap) (Nat.le_refl _) cellAt
  have FL : Fr (hideAll s.heap (news.map (·.1))) s.heap.objs.size h₁ _ := ⟨x.toInCall.ns, fun b o e => up b o (of_hideAll _ e), Nat.le_of_eq (hideAll_size _ _)⟩
  have NL : News (hideAll s.heap (news.map (·.1))) s.heap.objs.size h₁ (cells ++ news) := fun p hp => by
    rcases List.mem_append.mp hp with hp | hp
    · have free : (hideAll s.heap (news.map (·.1))).get? p.1 = none := by
        cases q : (hideAll s.heap (news.map (·.1))).get? p.1 with
        | none => rfl
        | some o => have e := of_hideAll _ q; rw [(NC p hp).2.2] at e; cases e
      exact ⟨(NC p hp).1, (NC p hp).2.1, free⟩
    · exact ⟨up _ _ (N p hp).1, Nat.ne_of_lt (Heap.lt_size (N p hp).1), hideAll_none _ (List.mem_map_of_mem hp)⟩
  exact wpAny_mono (h _ _ h₁ tk cells FG FL NL Y BG (X₀.keeps st) (T.keeps st) (fun p hp => Heap.lt_size (N p hp).1) fun b o e n => hideAll_get _ e n) (fun fl s' hl => lv _ _ hl) fun _ _ y => y
end
end Mine

end
namespace Mine
theorem flush_comp2 {prog : Program} {w : World} {A : Around} {Q : Flow → Shared → Prop} {E : Value → Shared → Prop} {s : Shared} {env : Env} (h : wpAny (model prog w) A (execs [] env) Q E s) : wpAny (model prog w) A (execs [] env) Q E s := by
  k_with_none
  w_top off
  first | (walk1; fail) | exact h
end Mine

section
open PyProof.V
namespace Mine
theorem words_comp2 : True := by
  k_with_none
  k_with "own ne" => (refine neN ?_; (try dsimp only); first | with_reducible assumption | (refine Ne.symm ?_; with_reducible assumption) | k_extra "own and" | (refine Ne.symm ?_; k_extra "own and"))
  k_with "own right" => (iterate 9 (first | done | with_reducible assumption | apply And.right))
  k_with "own and" => first | (apply And.left; k_extra "own right"; done) | (k_extra "own right"; done) | (apply And.left; apply And.left; k_extra "own right"; done) | (apply And.left; apply And.right; apply And.left; k_extra "own right"; done) | (apply And.right; apply And.left; k_extra "own right"; done) | (apply And.right; apply And.right; apply And.left; k_extra "own right"; done)
  trivial
open PyProof.Rows.LCg PyProof.Rows.LCt

/-- a turn's end that the walker leaves alone -/
def TurnEnd (h₀ : Heap) (L : Addr) (m : Str → Option Value) (s₁ : Shared) (I : Addr) (oI : Obj) (C : Addr) (oC : Obj) (D : Addr) (oD : Obj) (S : List (Addr × Obj) → Prop) (rest : Value → List (Addr × Obj) → Prop) (y : Value) (s₂ : Shared) : Prop :=
  CompEnd h₀ L m s₁ I oI C oC D oD S rest y s₂

theorem TurnEnd.same {h₀ h' : Heap} {L I C D : Addr} {m : Str → Option Value} {s₁ : Shared} {oI oC oD : Obj} {S : List (Addr × Obj) → Prop} {rest : Value → List (Addr × Obj) → Prop} {y : Value} {tk : Nat} {nws : List (Addr × Obj)}
    (F : Fr h₀ L h' m) (N : News h₀ L h' ((I, oI) :: (C, oC) :: (D, oD) :: nws)) (off : Off3 I C D nws) (hS : S nws) (r : rest y nws) : TurnEnd h₀ L m s₁ I oI C oC D oD S rest y { s₁ with heap := h', toks := tk } :=
  CompEnd.intro F N nws (fun _ h => h) off hS r

theorem TurnEnd.one {h₀ h' : Heap} {L I C D T : Addr} {m : Str → Option Value} {s₁ : Shared} {oI oC oD o : Obj} {S : List (Addr × Obj) → Prop} {rest : Value → List (Addr × Obj) → Prop} {y : Value} {tk : Nat} {nws : List (Addr × Obj)}
    (F : Fr h₀ L h' m) (N : News h₀ L h' ((T, o) :: (I, oI) :: (C, oC) :: (D, oD) :: nws)) (off : Off3 I C D nws) (lt : @LT.lt Nat _ I T ∧ @LT.lt Nat _ C T ∧ @LT.lt Nat _ D T) (hS : S ((T, o) :: nws)) (r : rest y ((T, o) :: nws)) :
    TurnEnd h₀ L m s₁ I oI C oC D oD S rest y { s₁ with heap := h', toks := tk } :=
  CompEnd.intro F N ((T, o) :: nws) (fun p hp => by
    simp only [List.mem_cons] at hp ⊢
    rcases hp with h | h | h | h | h
    · exact .inr (.inl h)
    · exact .inr (.inr (.inl h))
    · exact .inr (.inr (.inr (.inl h)))
    · exact .inl h
    · exact .inr (.inr (.inr (.inr h)))) ⟨⟨neN (Nat.ne_of_gt lt.1), neN (Nat.ne_of_gt lt.2.1), neN (Nat.ne_of_gt lt.2.2)⟩, off⟩ hS r

/-- a turn that makes a new thing: the ledger may be longer -/
theorem TurnEnd.sub {h₀ h' : Heap} {L I C D : Addr} {m : Str → Option Value} {s₁ : Shared} {oI oC oD : Obj} {S : List (Addr × Obj) → Prop} {rest : Value → List (Addr × Obj) → Prop} {y : Value} {tk : Nat} {nws all : List (Addr × Obj)}
    (F : Fr h₀ L h' m) (N : News h₀ L h' all) (sub : ∀ p ∈ (I, oI) :: (C, oC) :: (D, oD) :: nws, p ∈ all) (off : Off3 I C D nws) (hS : S nws) (r : rest y nws) : TurnEnd h₀ L m s₁ I oI C oC D oD S rest y { s₁ with heap := h', toks := tk } :=
  CompEnd.intro F N nws sub off hS r

section
variable {prog : Program} {w : World} {A : Around} {s : Shared} {h₀ : Heap} {L : Addr} {m : Str → Option Value} {env : Env}

theorem comp_T2 {ct elt : PySem.Expr} {x : Str} {scope : Scope} {cl : List (Str × Addr)} {S : List (Addr × Obj) → Prop} {P : Nat → Value → Prop} {Fin : List Value → List (Addr × Obj) → Prop} {n : Nat} {news₀ : List (Addr × Obj)}
    (J : Nat → List Value → List (Addr × Obj) → Prop) (h0 : J 0 [] news₀)
    (step : ∀ i ys news v I oI C oC D m₂ h tk (E' : Value → Shared → Prop), i < n → J i ys news → P i v → NsObj oC m₂ → m₂ x = some v → Fr h₀ L h m → News h₀ L h ((I, oI) :: (C, oC) :: (D, lst ys) :: news) → Off3 I C D news → ((@Ne Nat I C) ∧ (@Ne Nat I D) ∧ (@Ne Nat C D)) →
      wpAny (model prog w) A (isTrue ct (compEnvC scope cl C env) (eval ct (compEnvC scope cl C env))) (fun ok s' => if ok = true then
        wpAny (model prog w) A (eval elt (compEnvC scope cl C env)) (TurnEnd h₀ L m { s with heap := h, toks := tk } I oI C oC D (lst ys) S (fun y news' => J (i + 1) (ys ++ [y]) news')) E' s'
        else TurnEnd h₀ L m { s with heap := h, toks := tk } I oI C oC D (lst ys) S (fun _ news' => J (i + 1) ys news') Value.none s') E' { s with heap := h, toks := tk })
    (fin : ∀ ys news, J n ys news → Fin ys news) : CompRestT prog w A h₀ L m env ct elt x scope cl s S P Fin n 0 [] news₀ := comp_indT J h0 step fin

theorem comp_U2 {elt : PySem.Expr} {x : Str} {scope : Scope} {cl : List (Str × Addr)} {S : List (Addr × Obj) → Prop} {P : Nat → Value → Prop} {Fin : List Value → List (Addr × Obj) → Prop} {n : Nat} {news₀ : List (Addr × Obj)}
    (J : Nat → List Value → List (Addr × Obj) → Prop) (h0 : J 0 [] news₀)
    (step : ∀ i ys news v I oI C oC D m₂ h tk (E' : Value → Shared → Prop), i < n → J i ys news → P i v → NsObj oC m₂ → m₂ x = some v → Fr h₀ L h m → News h₀ L h ((I, oI) :: (C, oC) :: (D, lst ys) :: news) → Off3 I C D news → ((@Ne Nat I C) ∧ (@Ne Nat I D) ∧ (@Ne Nat C D)) →
      wpAny (model prog w) A (eval elt (compEnvC scope cl C env)) (TurnEnd h₀ L m { s with heap := h, toks := tk } I oI C oC D (lst ys) S (fun y news' => J (i + 1) (ys ++ [y]) news')) E' { s with heap := h, toks := tk })
    (fin : ∀ ys news, J n ys news → Fin ys news) : CompRest prog w A h₀ L m env elt x scope cl s S P Fin n 0 [] news₀ := comp_indU J h0 step fin

/-- `TupTurn` with an end that the walker leaves alone -/
theorem tup_turn2 {elt : PySem.Expr} {ifs : List PySem.Expr} {nps : List (Str × Pos)} {scope : Scope} {cl : List (Str × Addr)} {ax : Addr} {its : Array Value} {J : Nat → List Value → List (Addr × Obj) → Prop}
    (h : ∀ i ys news v, its[i]? = some v → J i ys news → ∃ t items, v = .ref t ∧ items.size = nps.length ∧ (∀ h, Fr h₀ L h m → News h₀ L h news → IsTup h t items) ∧
    ∀ I oI C oC D m₂ h tk (E' : Value → Shared → Prop), NsObj oC m₂ → (∀ (k : Nat) (p : Str × Pos) (v : Value), nps[k]? = some p → items.toList[k]? = some v → m₂ p.1 = some v) →
      Fr h₀ L h m → News h₀ L h ((I, oI) :: (C, oC) :: (D, lst ys) :: news) → Off3 I C D news → ((@Ne Nat I C) ∧ (@Ne Nat I D) ∧ (@Ne Nat C D)) →
      wpAny (model prog w) A (testsOf ifs (compEnvC scope cl C env)) (fun ok s' => if ok = true then
        wpAny (model prog w) A (eval elt (compEnvC scope cl C env)) (TurnEnd h₀ L m { s with heap := h, toks := tk } I oI C oC D (lst ys) (SrcAt h₀ ax its) (fun y news' => J (i + 1) (ys ++ [y]) news')) E' s'
        else TurnEnd h₀ L m { s with heap := h, toks := tk } I oI C oC D (lst ys) (SrcAt h₀ ax its) (fun _ news' => J (i + 1) ys news') Value.none s') E' { s with heap := h, toks := tk }) :
    TupTurn prog w A h₀ L m env elt ifs nps scope cl s ax its J := h
end
end Mine

end
namespace Mine
theorem flush_arr {prog : Program} {w : World} {A : Around} {Q : Flow → Shared → Prop} {E : Value → Shared → Prop} {s : Shared} {env : Env} (h : wpAny (model prog w) A (execs [] env) Q E s) : wpAny (model prog w) A (execs [] env) Q E s := by
  k_with_none
  w_top off
  first | (walk1; fail) | exact h
end Mine

section
open PyProof.V
namespace Mine
theorem words_arr : True := by
  k_with_none
  k_with "own ne" => (refine neN ?_; (try dsimp only); first | with_reducible assumption | (refine Ne.symm ?_; with_reducible assumption) | k_extra "own and" | (refine Ne.symm ?_; k_extra "own and"))
  k_with "own right" => (iterate 9 (first | done | with_reducible assumption | apply And.right))
  k_with "own and" => first | (apply And.left; k_extra "own right"; done) | (k_extra "own right"; done) | (apply And.left; apply And.left; k_extra "own right"; done) | (apply And.left; apply And.right; apply And.left; k_extra "own right"; done) | (apply And.right; apply And.left; k_extra "own right"; done) | (apply And.right; apply And.right; apply And.left; k_extra "own right"; done)
  k_with "own eval ListComp" => (k_here; (with_reducible show wpAny _ _ (eval (PySem.Expr.ListComp _ [⟨PySem.Expr.Name _ _, _, [_], _⟩] _ _) _) _ _ _); k_dflt (refine LCt.ListComp_T (F₀ := by k_asm) (by with_unfolding_all rfl) (by decide) (by rfl) (by decide) (by rfl) ?_))
  k_with "own eval ListComp" => (k_here; (with_reducible show wpAny _ _ (eval (PySem.Expr.ListComp _ [⟨PySem.Expr.Tuple _ _ _, _, _, _⟩] _ _) _) _ _ _); k_dflt (refine ListComp_tup (nps := [(Str.ofString "time", _), (Str.ofString "order", _), (Str.ofString "goal", _), (Str.ofString "path", _), (Str.ofString "datagram", _)]) (F₀ := by k_asm) (by rfl) (by with_unfolding_all rfl) (by decide) (by rfl) (by decide) (by decide) (by decide) ?_))
  trivial

/-- what the network tells of a datagram -/
inductive ToldNet (h : Heap) (v : Value) (r : Row) : Prop where
  | mk (a : Addr) (arr : Array UInt8) (t1 t2 t3 : Tok) (e : v = .ref a) (q : h.get? a = some (tupObj #[.int r.g t1, .str r.p t2, .bytes arr t3])) (d : KBw.bInts arr = r.d)

def FiJ (g : Heap) (p : Row → Bool) (rs : List Row) (nws : List (Addr × Obj)) (i : Nat) (ys : List Value) (news : List (Addr × Obj)) : Prop := news = nws ∧ RowsAre (RowNet g) ys ((rs.take i).filter p)
theorem filt_yes {p : Row → Bool} {rs : List Row} {i : Nat} {r : Row} (e : rs[i]? = some r) (h : p r = true) : (rs.take (i + 1)).filter p = (rs.take i).filter p ++ [r] := by
  rw [List.take_add_one, e, List.filter_append]; simp [h]
theorem filt_no {p : Row → Bool} {rs : List Row} {i : Nat} {r : Row} (e : rs[i]? = some r) (h : p r = false) : (rs.take (i + 1)).filter p = (rs.take i).filter p := by
  rw [List.take_add_one, e, List.filter_append]; simp [h]
theorem FiJ.yes {g : Heap} {p : Row → Bool} {rs : List Row} {nws : List (Addr × Obj)} {i : Nat} {ys : List Value} {r : Row} {v : Value} (h : RowsAre (RowNet g) ys ((rs.take i).filter p)) (e : rs[i]? = some r) (hv : RowNet g v r) (hp : p r = true) : FiJ g p rs nws (i + 1) (ys ++ [v]) nws :=
  ⟨rfl, by rw [filt_yes e hp]; exact rows_app h ⟨hv, trivial⟩⟩
theorem FiJ.no {g : Heap} {p : Row → Bool} {rs : List Row} {nws : List (Addr × Obj)} {i : Nat} {ys : List Value} {r : Row} (h : RowsAre (RowNet g) ys ((rs.take i).filter p)) (e : rs[i]? = some r) (hp : p r = false) : FiJ g p rs nws (i + 1) ys nws :=
  ⟨rfl, by rw [filt_no e hp]; exact h⟩

def ToldIn (tl : List (Addr × Obj)) (v : Value) (r : Row) : Prop :=
  ∃ a arr t1 t2 t3, v = .ref a ∧ (a, tupObj #[.int r.g t1, .str r.p t2, .bytes arr t3]) ∈ tl ∧ KBw.bInts arr = r.d
def ToJ (qs : List Row) (nws : List (Addr × Obj)) (i : Nat) (ys : List Value) (news : List (Addr × Obj)) : Prop := ∃ tl, news = tl ++ nws ∧ RowsAre (ToldIn tl) ys (qs.take i)

theorem told_more {tl : List (Addr × Obj)} {p : Addr × Obj} {v : Value} {r : Row} : ToldIn tl v r → ToldIn (p :: tl) v r := fun ⟨a, arr, t1, t2, t3, e, q, d⟩ => ⟨a, arr, t1, t2, t3, e, .tail _ q, d⟩
theorem off1_mem {D : Addr} {p : Addr × Obj} : ∀ (l : List (Addr × Obj)), LCg.Off1 D l → p ∈ l → p.1 ≠ D := by
  intro l
  induction l with
  | nil => intro _ hp; cases hp
  | cons q l ih =>
    intro h hp
    rcases List.mem_cons.mp hp with e | hp
    · rw [e]; exact h.1
    · exact ih h.2 hp

theorem arr_spec {w : World} {loose : List Str} {mean : ExcName → Option Value} {mg mb : Str → Option Value}
    {dp un : Nat} {gd : Option (List Code)} {cn : Str} {cs : Scope} {a : Addr} {ccd : Value} {cl : List (Str × Addr)} {outer : List Env} {A₀ : Around} {base h₀ : Heap} {L : Addr} {m : Str → Option Value} {s : Shared}
    {Q E : Value → Shared → Prop} {x d NC NW NF : Addr} {k : NK} {u : Int} {tu : Tok} {mv : Value} {hm : Int} {thm : Tok} {ct : Int} {tct : Tok} {vs : List Value} {rs : List Row} {nW : Nat} {now : Int} {tn : Tok}
    (B : Below A₀ base outer h₀) (F : Fr h₀ L s.heap m) (X : (hd.heap_39 w.params).In h₀)
    (T : Top hd.view_39 loose mean mg mb h₀) (hk : cs.kind = .function) (hdp : dp + 3 < recursionLimit) (hun : un + 20 < cLine)
    (N : News h₀ L s.heap [(x, instObj 77 d), (d, netDict k NC u tu mv hm thm ct tct NW NF), (NW, W.listOf (List.toArray vs) nW)])
    (hr : RowsAre (RowNet s.heap) vs rs) (hws : rs.length ≤ 63) (hnd : (rs.map (·.o)).Nodup) (e1 : @Ne Nat x d) (e2 : @Ne Nat x NW) (e3 : @Ne Nat d NW)
    (ret : ∀ R h' tk' NW' nR nW' us (ws' : List Value) qs, IsSort (rs.filter fun r => decide (r.t ≤ now)) qs → RowsAre (ToldNet h') us qs → RowsAre (RowNet h') ws' (rs.filter fun r => decide (now < r.t)) →
      h'.get? R = some (W.listOf (List.toArray us) nR) → h'.get? x = some (instObj 77 d) → h'.get? d = some (netDict k NC u tu mv hm thm ct tct NW' NF) → h'.get? NW' = some (W.listOf (List.toArray ws') nW') →
      s.heap.get? R = none → s.heap.get? NW' = none → Kept [x, d, NW] s.heap h' → Q (.ref R) { s with heap := h', toks := tk' }) :
    wpAny (model pr w) (ktrTop dp un gd cn cs L a ccd cl outer) (call (.ref 74) [.ref x, .int now tn]) Q E s := by
  delta pr at *; revert X; k_fill; intro X
  have hlen := rows_len hr
  have hx : s.heap.get? x = some _ := (N _ (List.mem_cons_self)).1
  have hdd : s.heap.get? d = some _ := (N _ (List.mem_cons_of_mem _ (List.mem_cons_self))).1
  have hww : s.heap.get? NW = some _ := (N _ (List.mem_cons_of_mem _ (List.mem_cons_of_mem _ (List.mem_cons_self)))).1
  refine wpAny_call ?_
  refine' code_defCG ?k1 ?k2 ?k3 ?k4 ?k5 ?kA ?kF ?kK ?k6 ?k7 ?k8 ?k9 ?kB ?kD ?_ ?c2 ?c3 ?c4
  case kA => exact rfl
  case kF => exact rfl
  case kK => assumption
  case k1 => k_asm
  case k2 => k_asm
  case k3 => k_asm
  case k4 => k_asm
  case k5 => k_asm
  case k6 => k_is
  case k7 => k_is
  case k8 => ktr_room
  case k9 => exact BindsTo.of_eq rfl
  case kB => exact rfl
  case kD => decide +kernel
  case c2 => exact rfl
  case c3 => exact rfl
  case c4 => exact rfl
  intro g' L' h' tk' cells' FG' F' N' Y' B' X' T' l1 kG'
  try k_lt l1
  k_cells Y'
  try simp only [List.cons_append, List.nil_append] at N'
  try dsimp only
  show wpAny _ _ (execs _ _) _ _ _
  k_fold
  have hrg : RowsAre (RowNet g') vs rs := rows_mono (fun v r => rowNet_keep (fun b o hb e => kG' b o e hb) (fc (no_tup hx fun _ => inst_tup) (fc (no_tup hdd fun _ => dict_tup) (fc (no_tup hww fun _ => list_tup) fn)))) hr
  clear hr hx hdd hww
  k_steps
  refine LCt.CompSrcT.ledger (by rfl) (by k_asm) (by k_asm) (by k_mem) (by rw [List.size_toArray, sizeLine_eq]; omega) fun gg => ?_
  refine comp_T2 (fun i ys news => FiJ g' (fun r => decide (r.t ≤ now)) rs _ i ys news) ⟨rfl, trivial⟩ ?_ ?_
  · rintro i ys news v I oI C oC D m₂ h tk E' hin ⟨rfl, hz⟩ hv hC hx F N off ne
    refine net_at hrg (by simpa using hv) fun r ra arr t1 t2 t3 t4 t5 hri hrow er hra hrd => ?_
    subst er
    have htup : IsTup g' ra #[.int r.t t1, .int r.o t2, .int r.g t3, .str r.p t4, .bytes arr t5] := ⟨_, hra, rfl, _, rfl⟩
    k_steps
    · exact TurnEnd.same (by k_asm) (by k_asm) off (.inr ⟨_, by k_mem, rfl, _, rfl⟩) (FiJ.yes hz hri hrow (decide_eq_true (by assumption)))
    · exact TurnEnd.same (by k_asm) (by k_asm) off (.inr ⟨_, by k_mem, rfl, _, rfl⟩) (FiJ.no hz hri (decide_eq_false (by assumption)))
  rintro ys news ⟨rfl, hz⟩ D h tk F N off1
  (try dsimp only)
  simp only [LCg.Off1, and_true] at off1
  rw [List.size_toArray, hlen, List.take_length] at hz
  k_steps
  have hle : (rs.filter fun r => decide (r.t ≤ now)).length ≤ 63 := Nat.le_trans (List.length_filter_le _ _) hws
  refine sorted_rows (P := RowNet g') (by k_asm) (by k_asm) (News.isList (by k_asm) (by k_mem)) hz (fun v r hp => net_key (rowNet_keep (ts := []) (fun b o _ e => Fr.keep (by k_asm) b o e) (by simp) hp)) (hnd.sublist (List.filter_sublist.map _)) hle fun S h' us qs n' hul hqs hus FF NN offS => ?_
  clear F N
  simp only [LCg.Off1, and_true] at offS
  k_steps
  refine LCt.CompSrcT.ledger (by rfl) (by k_asm) (by k_asm) (by k_mem) (by rw [List.size_toArray, sizeLine_eq]; omega) fun gg => ?_
  refine comp_T2 (fun i ys news => FiJ g' (fun r => decide (now < r.t)) rs _ i ys news) ⟨rfl, trivial⟩ ?_ ?_
  · rintro i ys news v I oI C oC D m₂ h tk E' hin ⟨rfl, hz⟩ hv hC hx F N off ne
    refine net_at hrg (by simpa using hv) fun r ra arr t1 t2 t3 t4 t5 hri hrow er hra hrd => ?_
    subst er
    have htup : IsTup g' ra #[.int r.t t1, .int r.o t2, .int r.g t3, .str r.p t4, .bytes arr t5] := ⟨_, hra, rfl, _, rfl⟩
    k_steps
    · exact TurnEnd.same (by k_asm) (by k_asm) off (.inr ⟨_, by k_mem, rfl, _, rfl⟩) (FiJ.yes hz hri hrow (decide_eq_true (by assumption)))
    · exact TurnEnd.same (by k_asm) (by k_asm) off (.inr ⟨_, by k_mem, rfl, _, rfl⟩) (FiJ.no hz hri (decide_eq_false (by assumption)))
  rintro zs news ⟨rfl, hzs⟩ D2 h2 tk2 F N off2
  (try dsimp only)
  simp only [LCg.Off1, and_true] at off2
  rw [List.size_toArray, hlen, List.take_length] at hzs
  k_steps
  have hq1 := hqs.1.length_eq
  have hq2 := rows_len hus
  refine TupSrc.ledger (by rfl) (by k_asm) (by k_asm) (by k_mem) (by rw [List.size_toArray, sizeLine_eq]; omega) (fun i ys news => ToJ qs _ i ys news) ⟨[], rfl, trivial⟩ (fun gg => tup_turn2 ?_) ?_
  · rintro i ys news v hv ⟨tl, rfl, hys⟩
    refine net_at hus (by simpa using hv) fun r ra arr t1 t2 t3 t4 t5 hri hrow er hra hrd => ?_
    subst er
    clear hrow
    have htup : IsTup g' ra #[.int r.t t1, .int r.o t2, .int r.g t3, .str r.p t4, .bytes arr t5] := ⟨_, hra, rfl, _, rfl⟩
    refine ⟨ra, _, rfl, rfl, fun h F _ => htup.keeps F.keep, ?_⟩
    intro I oI C oC D m₂ h tk E' hC hm F N off ne
    have x1 : m₂ (Str.ofString "goal") = some (.int r.g t3) := hm 2 _ _ rfl rfl
    have x2 : m₂ (Str.ofString "path") = some (.str r.p t4) := hm 3 _ _ rfl rfl
    have x3 : m₂ (Str.ofString "datagram") = some (.bytes arr t5) := hm 4 _ _ rfl rfl
    refine wpAny_tests_nil ?_
    simp only [if_true]
    clear hm
    k_steps
    refine TurnEnd.one (by k_asm) (by k_asm) off ⟨by omega, by omega, by omega⟩ (.inr ⟨_, .tail _ (List.mem_append_right _ (by k_mem)), rfl, _, rfl⟩) ⟨_ :: tl, rfl, ?_⟩
    rw [List.take_add_one, hri]
    exact rows_app (rows_mono (fun v r => told_more) hys) ⟨⟨_, _, _, _, _, rfl, .head _, hrd⟩, trivial⟩
  · rintro gg us' nws ⟨tl, rfl, hys⟩ D3 h3 tk3 F N off3
    (try dsimp only)
    k_steps
    rename News g' L' h3 _ => NN
    rw [List.size_toArray, hq2, List.take_length] at hys
    have m1 := off1_mem _ off3 (p := (x, instObj 77 d)) (List.mem_append_right _ (by k_mem))
    have m2 := off1_mem _ off3 (p := (d, netDict k NC u tu mv hm thm ct tct D2 NF)) (List.mem_append_right _ (by k_mem))
    have m3 := off1_mem _ off3 (p := (NW, W.listOf (List.toArray vs) nW)) (List.mem_append_right _ (by k_mem))
    refine ret D3 h3 _ D2 _ _ us' zs qs hqs (rows_mono (fun v r ⟨a, arr, t1, t2, t3, e, q, dd⟩ => ⟨a, arr, t1, t2, t3, e, (NN _ (.tail _ (List.mem_append_left _ q))).1, dd⟩) hys)
      (rows_mono (fun v r hp => rowNet_keep (ts := []) (fun b o _ e => Fr.keep (by k_asm) b o e) (by simp) hp) hzs) (News.get NN (.head _)) (News.get NN (.tail _ (List.mem_append_right _ (by k_mem)))) (News.get NN (.tail _ (List.mem_append_right _ (by k_mem)))) (News.get NN (.tail _ (List.mem_append_right _ (by k_mem))))
      (fresh_of kG' (News.fresh NN (.head _)) ?_) (fresh_of kG' (News.fresh NN (.tail _ (List.mem_append_right _ (.head _)))) ?_) (kept_of kG' (by k_asm))
    · simp only [List.map_cons, List.map_nil, List.mem_cons, List.not_mem_nil, or_false, not_or]
      exact ⟨fun q => m1 q.symm, fun q => m2 q.symm, fun q => m3 q.symm⟩
    · simp only [List.map_cons, List.map_nil, List.mem_cons, List.not_mem_nil, or_false, not_or]
      exact ⟨fun q => off2.2.2.2.1 q.symm, fun q => off2.2.2.2.2.1 q.symm, fun q => off2.2.2.2.2.2 q.symm⟩
end Mine

end
namespace Mine
theorem flush_use {prog : Program} {w : World} {A : Around} {Q : Flow → Shared → Prop} {E : Value → Shared → Prop} {s : Shared} {env : Env} (h : wpAny (model prog w) A (execs [] env) Q E s) : wpAny (model prog w) A (execs [] env) Q E s := by
  k_with_none
  w_top off
  first | (walk1; fail) | exact h
end Mine

section
open PyProof.V
namespace Mine

section
variable {h₀ h h' : Heap} {L : Addr} {m : Str → Option Value} {news : List (Addr × Obj)}
/-- all that lives in the heap beside the ledger, the base and the frame -/
theorem with_rest (F : Fr h₀ L h m) (N : News h₀ L h news) : ∃ tl, News h₀ L h (news ++ tl) ∧ OwnOff tl (news.map (·.1)) ∧ ∀ h' m', Fr h₀ L h' m' → News h₀ L h' tl → Kept (L :: news.map (·.1)) h h' := by
  let tl : List (Addr × Obj) := (List.range h.objs.size).filterMap fun a => if a ∈ news.map (·.1) ∨ a = L ∨ (h₀.get? a).isSome then none else (h.get? a).map fun o => (a, o)
  have key : ∀ p, p ∈ tl ↔ (p.1 ∉ news.map (·.1) ∧ p.1 ≠ L ∧ h₀.get? p.1 = none ∧ h.get? p.1 = some p.2) := by
    intro p
    constructor
    · intro hp
      obtain ⟨a, ha, e⟩ := List.mem_filterMap.mp hp
      by_cases c : a ∈ news.map (·.1) ∨ a = L ∨ (h₀.get? a).isSome
      · rw [if_pos c] at e; cases e
      · rw [if_neg c] at e
        cases q : h.get? a with
        | none => rw [q] at e; cases e
        | some o =>
          rw [q] at e
          have e' : (a, o) = p := Option.some.inj e
          rw [← e']
          simp only [not_or] at c
          refine ⟨c.1, c.2.1, ?_, q⟩
          cases z : h₀.get? a with
          | none => rfl
          | some _ => rw [z] at c; exact absurd rfl c.2.2
    · rintro ⟨c1, c2, c3, c4⟩
      refine List.mem_filterMap.mpr ⟨p.1, List.mem_range.mpr (Heap.lt_size c4), ?_⟩
      rw [if_neg (by
        rintro (q | q | q)
        · exact c1 q
        · exact c2 q
        · rw [c3] at q; cases q), c4]
      rfl
  refine ⟨tl, fun p hp => ?_, fun p hp b hb => ?_, fun h' m' F' N' b o hb e => ?_⟩
  · rcases List.mem_append.mp hp with hp | hp
    · exact N p hp
    · obtain ⟨_, c2, c3, c4⟩ := (key p).mp hp
      exact ⟨c4, c2, c3⟩
  · intro q
    exact ((key p).mp hp).1 (by rw [q]; exact hb)
  · cases z : h₀.get? b with
    | some o' =>
      have e1 := F.keep b o' z
      rw [e] at e1
      rw [Option.some.inj e1]
      exact F'.keep b o' z
    | none =>
      have hm : (b, o) ∈ tl := (key (b, o)).mpr ⟨fun q => hb (.tail _ q), fun q => hb (by rw [show b = L from q]; exact .head _), z, e⟩
      exact (N' _ hm).1
end

theorem take_use {w : World} {loose : List Str} {mean : ExcName → Option Value} {mg mb : Str → Option Value}
    {dp un : Nat} {gd : Option (List Code)} {cn : Str} {cs : Scope} {a : Addr} {ccd : Value} {cl : List (Str × Addr)} {outer : List Env} {A₀ : Around} {base h₀ : Heap} {L : Addr} {m : Str → Option Value} {s : Shared}
    {Q E : Value → Shared → Prop} {d : Addr} {o : Obj} {g : Int} {x : Int} {many : Int} {tm : Tok} {news : List (Addr × Obj)} {g1 : Obj → List (Addr × Obj)}
    (B : Below A₀ base outer h₀) (F : Fr h₀ L s.heap m) (X : (hd.heap_39 w.params).In h₀)
    (N : News h₀ L s.heap news) (T : Top hd.view_39 loose mean mg mb h₀) (hk : cs.kind = .function) (U : UpdF d o news g1)
    (hD : IsDraws w o g x) (hlo : (d == sysModules) = false)
    (hdp : dp + 1 < recursionLimit) (hun : un + 8 < cLine) (hg : 0 ≤ g) (hx : 0 ≤ x) (hm : 0 < many) (hm2 : many < 1000)
    (ret : ∀ r t h' tk' o' g' x', 0 ≤ r → r < many → 0 ≤ g' → 0 ≤ x' → IsDraws w o' g' x' → Fr h₀ L h' m → News h₀ L h' (g1 o') → Q (.int r t) { s with heap := h', toks := tk' }) :
    wpAny (model pr w) (ktrTop dp un gd cn cs L a ccd cl outer) (call (.ref 88) [.ref d, .int many tm]) Q E s := by
  have md := updF_has U
  refine take_spec B F X (fun p hp => by rw [List.mem_singleton.mp hp]; exact N _ md) T hk hD hlo hdp hun hg hx hm hm2 fun r t h' tk' o' g' x' a1 a2 a3 a4 a5 a6 K => ?_
  refine ret r t h' tk' o' g' x' a1 a2 a3 a4 a6 (fr_touch F K (fun q => (N _ md).2.1 (List.mem_singleton.mp q).symm) (fun b hb => by rw [List.mem_singleton.mp hb]; exact (N _ md).2.2)) (news_touch N K fun p hp => ?_)
  rcases updF_mem U hp with rfl | ⟨hp, hn⟩
  · exact .inr ⟨a5, _, md⟩
  · exact .inl ⟨hp, by simpa using hn⟩

theorem draws_use {w : World} {loose : List Str} {mean : ExcName → Option Value} {mg mb : Str → Option Value}
    {dp un : Nat} {gd : Option (List Code)} {cn : Str} {cs : Scope} {a : Addr} {ccd : Value} {cl : List (Str × Addr)} {outer : List Env} {A₀ : Around} {base h₀ : Heap} {L : Addr} {m : Str → Option Value} {s : Shared}
    {Q E : Value → Shared → Prop} {l : Addr} {vs : List Value} {ns : List Int} {news : List (Addr × Obj)}
    (B : Below A₀ base outer h₀) (F : Fr h₀ L s.heap m) (X : (hd.heap_39 w.params).In h₀) (N : News h₀ L s.heap news)
    (T : Top hd.view_39 loose mean mg mb h₀) (hk : cs.kind = .function)
    (hdp : dp + 1 < recursionLimit) (hun : un + 8 < cLine) (hl : base.IsList l vs.toArray) (hi : IntsAre vs ns) (hn : ns.length ≤ 63)
    (ret : ∀ d h' tk' o' g' x', 0 ≤ g' → 0 ≤ x' → IsDraws w o' g' x' → (d == sysModules) = false → Fr h₀ L h' m → News h₀ L h' ((d, o') :: news) → LCg.Off1 d news → Q (.ref d) { s with heap := h', toks := tk' }) :
    wpAny (model pr w) (ktrTop dp un gd cn cs L a ccd cl outer) (call (.ref 93) [.ref l]) Q E s :=
  draws_spec B F X T hk hdp hun hl hi hn fun d h' tk' o' g' x' a1 a2 a3 a4 a5 a6 K => ret d h' tk' o' g' x' a1 a2 a5 a6 (fr_kept F K) (news_new F N K a4 a3) (off_new N a4)

def MHas (m : Str → Option Value) (ps : List (Str × Value)) : Prop := ∀ p ∈ ps, m p.1 = some p.2
noncomputable abbrev mset (m : Str → Option Value) : List (Str × Value) → Str → Option Value
  | [] => m
  | p :: r => fun y => if y = p.1 then some p.2 else mset m r y
theorem mset_self {m : Str → Option Value} : ∀ (ps : List (Str × Value)), MHas m ps → m = mset m ps := by
  intro ps
  induction ps with
  | nil => intro _; rfl
  | cons p r ih =>
    intro h
    funext y
    show m y = if y = p.1 then some p.2 else mset m r y
    by_cases c : y = p.1
    · rw [if_pos c, c]; exact h p (.head _)
    · rw [if_neg c, ← ih fun q hq => h q (.tail _ hq)]

theorem kept_less {h h' : Heap} {ts us : List Addr} (K : Kept ts h h') (same : ∀ b ∈ ts, b ∉ us → ∀ o, h.get? b = some o → h'.get? b = some o) : Kept us h h' := fun b o hb e => by
  by_cases c : b ∈ ts
  · exact same b c hb o e
  · exact K b o c e

theorem kept_but {h h' : Heap} {ts us : List Addr} (K : Kept ts h h') (g : ∀ b ∈ ts, b ∈ us ∨ ∃ o, h.get? b = some o ∧ h'.get? b = some o) : Kept us h h' := kept_less K fun b hb hn o e => by
  rcases g b hb with q | ⟨o', q1, q2⟩
  · exact absurd q hn
  · rw [e] at q1; rw [Option.some.inj q1]; exact q2

/-- a comprehension's source that the walker leaves alone -/
def SrcEnd (prog : Program) (w : World) (A : Around) (h₀ : Heap) (L : Addr) (m : Str → Option Value) (env : Env) (elt : PySem.Expr) (x : Str) (scope : Scope) (cl : List (Str × Addr)) (Fin : Shared → List Value → List (Addr × Obj) → Prop) (xv : Value) (s₁ : Shared) : Prop :=
  LCg.CompSrc prog w A h₀ L m env elt x scope cl Fin xv s₁

theorem ListComp_U2 {prog : Program} {w : World} {A : Around} {E : Value → Shared → Prop} {s : Shared} {h₀ : Heap} {L : Addr} {m : Str → Option Value} {env : Env} {elt iter : PySem.Expr} {x : Str} {px : Pos} {scope : Scope} {cl : List (Str × Addr)} {pos : Pos} {Q : Value → Shared → Prop} (F₀ : Fr h₀ L s.heap m)
    (hclos : closureFor scope env = pure cl) (hcell : ∀ y ∈ scope.names, y.2 ≠ .cell) (hkind : scope.kind = .function)
    (hnames : ∀ y ∈ scope.names, y.2 = .local → scope.names.lookup y.1 = some .local) (hx : scope.names.lookup x = some .local)
    (h : wpAny (model prog w) A (eval iter env) (SrcEnd prog w A h₀ L m env elt x scope cl (fun s₂ => LCg.FinE h₀ L m s₂ Q)) E s)
    (hs : ∀ x, foldedSetIterable iter env x = pure x := by intro _; rfl) :
    wpAny (model prog w) A (eval (.ListComp elt [⟨.Name x px, iter, [], 0⟩] scope pos) env) Q E s := LCg.ListComp_U F₀ hclos hcell hkind hnames hx h hs
end Mine

end
namespace Mine
theorem flush_m1 {prog : Program} {w : World} {A : Around} {Q : Flow → Shared → Prop} {E : Value → Shared → Prop} {s : Shared} {env : Env} (h : wpAny (model prog w) A (execs [] env) Q E s) : wpAny (model prog w) A (execs [] env) Q E s := by
  k_with_none
  w_top off
  first | (walk1; fail) | exact h
end Mine

section
open PyProof.V
namespace Mine
theorem words_m1 : True := by
  k_with_none
  k_with "own ne" => (refine neN ?_; (try dsimp only); first | with_reducible assumption | (refine Ne.symm ?_; with_reducible assumption) | k_extra "own and" | (refine Ne.symm ?_; k_extra "own and"))
  k_with "own right" => (iterate 9 (first | done | with_reducible assumption | apply And.right))
  k_with "own and" => first | (apply And.left; k_extra "own right"; done) | (k_extra "own right"; done) | (apply And.left; apply And.left; k_extra "own right"; done) | (apply And.left; apply And.right; apply And.left; k_extra "own right"; done) | (apply And.right; apply And.left; k_extra "own right"; done) | (apply And.right; apply And.right; apply And.left; k_extra "own right"; done)
  k_with "own call ref" => (k_here; (k_dflt show wpAny _ _ (call (Value.ref 88) [Value.ref _, Value.int _ _]) _ _ _); k_dflt (refine' take_use (by k_asm) (by k_asm) (by k_asm) (by k_asm) (by k_asm) (by exact rfl) (by k_updF) (by assumption) (by assumption) (by ktr_room) (by ktr_units) (by assumption) (by assumption) (by decide) (by decide) ?_); intro r'w t'w h'w tk'w o'w g'w x'w hr0'w hr1'w hg'w hx'w hD'w F'w N'w; (try dsimp only at N'w))
  k_with "own eval ListComp" => (k_here; (with_reducible show wpAny _ _ (eval (PySem.Expr.ListComp _ [⟨PySem.Expr.Name _ _, _, [], _⟩] _ _) _) _ _ _); k_dflt (refine ListComp_U2 (F₀ := by k_asm) (by with_unfolding_all rfl) (by decide) (by rfl) (by decide) (by rfl) ?_))
  k_with "own subscriptTail" => (k_here; (with_reducible show wpAny _ _ (subscriptTail _ _ (Value.ref _) (Value.int (Int.fmod _ 6) _)) _ _ _); k_dflt (refine' fates_pick (News.isList (by k_asm) (by k_mem)) ?_ (by with_unfolding_all rfl); intro _))
  trivial

local macro_rules | `(tactic| k_all) => `(tactic| (refine OwnOff.ne ‹OwnOff _ _› ?_; k_mem))

def TkJ (w : World) (oc : Obj) (c : Addr) (dd : Addr) (post : List (Addr × Obj)) (bnd : Int) (i : Nat) (ys : List Value) (news : List (Addr × Obj)) : Prop :=
  ∃ o g x zs, news = (c, oc) :: (dd, o) :: post ∧ IsDraws w o g x ∧ 0 ≤ g ∧ 0 ≤ x ∧ IntsAre ys zs ∧ zs.length = i ∧ ∀ z ∈ zs, 0 ≤ z ∧ z < bnd

theorem m1_spec {w : World} {loose : List Str} {mean : ExcName → Option Value} {mg mb : Str → Option Value} {a : Addr} {cd : Value} {h₀ : Heap} {L : Addr} {m : Str → Option Value} {s : Shared} {Q : Flow → Shared → Prop} {E : Value → Shared → Prop} {rest : List Stmt}
    {oc od : Obj} {dd ch kd x du : Addr} {g0 x0 : Int} {nCh nK : Nat} {vs : List Value} {ns : List Int} {u : Int} {tu : Tok} {mv : Value} {hm : Int} {thm : Tok} {now : Int} {tn : Tok} {ct : Int} {tct : Tok} {turn : Nat} {tt : Tok} {k1 k2 k3 k4 k5 k6 : Tok}
    (B : Below callerA h₀ [] h₀) (F : Fr h₀ L s.heap m) (X : (hd.heap_39 w.params).In h₀) (T : Top hd.view_39 loose mean mg mb h₀)
    (N : News h₀ L s.heap [(L + 1, oc), (dd, od), (ch, W.listOf vs.toArray nCh), (kd, W.listOf #[.str (Str.ofString "passed") k1, .str (Str.ofString "passed") k2, .str (Str.ofString "lost") k3, .str (Str.ofString "doubled") k4, .str (Str.ofString "delayed") k5, .str (Str.ofString "changed") k6] nK)])
    (hoc : oc.data = .cell (some (.ref dd))) (hi : IntsAre vs ns) (hns : ns.length ≤ 60) (hD : IsDraws w od g0 x0) (hg : 0 ≤ g0) (hx : 0 ≤ x0) (hlo : (dd == sysModules) = false)
    (e1 : @Ne Nat (L + 1) dd) (e2 : @Ne Nat (L + 1) ch) (e3 : @Ne Nat (L + 1) kd) (e4 : @Ne Nat dd ch) (e5 : @Ne Nat dd kd) (e6 : @Ne Nat ch kd)
    (hM : MHas m [(Str.ofString "choices", .ref ch), (Str.ofString "most", mv), (Str.ofString "unit", .int u tu), (Str.ofString "net", .ref x), (Str.ofString "harmed", .int hm thm), (Str.ofString "now", .int now tn), (Str.ofString "due", .ref du), (Str.ofString "count", .int ct tct), (Str.ofString "kinds", .ref kd), (Str.ofString "turn", .int turn tt)])
    (ret : ∀ h' tk' m' r b od' g' x' c t1 t2 t3 t4, r < 5 → 0 ≤ r → Array.size b ≤ 1000 → 0 ≤ g' → 0 ≤ x' → IsDraws w od' g' x' → c = ns.getD turn 0 → Fr h₀ L h' m' → h'.get? dd = some od' → Kept [L, dd] s.heap h' →
      MHas m' [(Str.ofString "choices", .ref ch), (Str.ofString "most", mv), (Str.ofString "unit", .int u tu), (Str.ofString "net", .ref x), (Str.ofString "harmed", .int hm thm), (Str.ofString "now", .int (now + r) t1), (Str.ofString "due", .ref du), (Str.ofString "count", .int ct tct), (Str.ofString "kinds", .ref kd), (Str.ofString "turn", .int turn tt),
        (Str.ofString "datagram", .bytes b t2), (Str.ofString "kind", .str (kindOf (c.fmod 6)) t3), (Str.ofString "number", .int (c.fdiv 6) t4)] → wpAny (model pr w) (callerA.deeper (lawEnv L a cd)) (execs rest (lawEnv L a cd)) Q E { s with heap := h', toks := tk' }) :
    wpAny (model pr w) (callerA.deeper (lawEnv L a cd)) (execs ((mainB 0).take 4 ++ rest) (lawEnv L a cd)) Q E s := by
  obtain ⟨tl, N', off, K⟩ := with_rest F N
  rw [mset_self _ hM] at F
  dsimp only [mset] at F
  simp only [List.cons_append, List.nil_append, List.map_cons, List.map_nil] at N' off K
  have f1 := N.get (.head _)
  have f3 := N.get (.tail _ (.tail _ (.head _)))
  have f4 := N.get (.tail _ (.tail _ (.tail _ (.head _))))
  clear N
  delta pr at *; revert X; k_fill; intro X
  dsimp only [lawEnv, lawItem, mainB, mainFor, List.take, List.drop, List.cons_append, List.nil_append]
  show wpAny _ _ (execs _ _) _ _ _
  k_steps
  rename 0 ≤ _ => hr0
  rename _ < (4 : Int) => hr1
  refine LCg.CompSrc.range (by rfl) (by k_asm) (by k_asm) (by assumption) (by exact small_one (by omega) (by omega) (by omega) (by omega)) (rangeSize_nat _ _) (by rw [sizeLine_eq]; omega) fun gg => ?_
  refine comp_U2 (fun i ys news => TkJ w oc (L + 1) dd _ 256 i ys news) ⟨_, _, _, [], rfl, by assumption, by assumption, by assumption, .nil, rfl, fun _ h => nomatch h⟩ ?_ ?_
  · rintro i ys news v I oI C oC D m₂ h tk E' hin ⟨o, g, xx, zs, rfl, hD1, hg1, hx1, hz, hzl, hzb⟩ hv hC hx F N off1 ne
    obtain ⟨t9, rfl⟩ := hv
    have off2 := off1
    simp only [LCg.Off3, and_true] at off2
    k_steps
    rename 0 ≤ _ => q0
    rename _ < (256 : Int) => q1
    refine TurnEnd.same (by k_asm) (by k_asm) ?off trivial ⟨_, _, _, _, rfl, by assumption, by assumption, by assumption, hz.append (.cons _ _ .nil), by rw [List.length_append, hzl]; rfl, fun z hz' => (List.mem_append.mp hz').elim (hzb z) fun hz' => by rw [List.mem_singleton.mp hz']; exact ⟨by assumption, q1⟩⟩
    case off => exact off1
  · rintro ys news ⟨o, g, xx, zs, rfl, hD1, hg1, hx1, hz, hzl, hzb⟩ D h tk F N off1
    have hzin : KBa.In zs := hzb
    (try dsimp only)
    have hsz : (byteArr zs).size ≤ 1000 := by simp only [byteArr, List.size_toArray, List.length_map]; omega
    simp only [LCg.Off1] at off1
    k_steps
    · rename News h₀ L _ ((_, _) :: (D, _) :: _) => NN
      refine ret _ _ _ _ _ _ _ _ (ns.getD turn 0) ?_ ?_ ?_ ?_ (by assumption) (by assumption) hsz hg1 hx1 hD1 rfl (by assumption) (News.get NN (by k_mem)) (kept_but (K _ _ (by assumption) fun p hp => NN p (by repeat (first | exact hp | refine List.Mem.tail _ ?_ | refine List.mem_append_right _ ?_))) (fc (.inl (by k_mem)) (fc (.inr ⟨_, f1, News.get NN (by k_mem)⟩) (fc (.inl (by k_mem)) (fc (.inr ⟨_, f3, News.get NN (by k_mem)⟩) (fc (.inr ⟨_, f4, News.get NN (by k_mem)⟩) fn)))))) ?mh
      case mh => repeat (first | exact List.forall_mem_nil _ | (refine List.forall_mem_cons.mpr ⟨by exact rfl, ?_⟩))
    · rename News h₀ L _ ((_, _) :: (D, _) :: _) => NN
      refine ret _ _ _ _ _ _ _ _ 0 ?_ ?_ ?_ ?_ (by assumption) (by assumption) hsz hg1 hx1 hD1 ?hc (by assumption) (News.get NN (by k_mem)) (kept_but (K _ _ (by assumption) fun p hp => NN p (by repeat (first | exact hp | refine List.Mem.tail _ ?_ | refine List.mem_append_right _ ?_))) (fc (.inl (by k_mem)) (fc (.inr ⟨_, f1, News.get NN (by k_mem)⟩) (fc (.inl (by k_mem)) (fc (.inr ⟨_, f3, News.get NN (by k_mem)⟩) (fc (.inr ⟨_, f4, News.get NN (by k_mem)⟩) fn)))))) ?mh
      case hc =>
        rw [List.getD_eq_getElem?_getD, List.getElem?_eq_none (by omega)]; rfl
      case mh => repeat (first | exact List.forall_mem_nil _ | (refine List.forall_mem_cons.mpr ⟨by exact rfl, ?_⟩))
end Mine

end
namespace Mine
theorem flush_m2 {prog : Program} {w : World} {A : Around} {Q : Flow → Shared → Prop} {E : Value → Shared → Prop} {s : Shared} {env : Env} (h : wpAny (model prog w) A (execs [] env) Q E s) : wpAny (model prog w) A (execs [] env) Q E s := by
  k_with_none
  w_top off
  first | (walk1; fail) | exact h
end Mine

section
open PyProof.V
namespace Mine
theorem words_m2 : True := by
  k_with_none
  k_with "own ne" => (refine neN ?_; (try dsimp only); first | with_reducible assumption | (refine Ne.symm ?_; with_reducible assumption) | k_extra "own and" | (refine Ne.symm ?_; k_extra "own and"))
  k_with "own right" => (iterate 9 (first | done | with_reducible assumption | apply And.right))
  k_with "own and" => first | (apply And.left; k_extra "own right"; done) | (k_extra "own right"; done) | (apply And.left; apply And.left; k_extra "own right"; done) | (apply And.left; apply And.right; apply And.left; k_extra "own right"; done) | (apply And.right; apply And.left; k_extra "own right"; done) | (apply And.right; apply And.right; apply And.left; k_extra "own right"; done)
  k_with "own compareOp In str ref" => (k_here; (with_reducible show wpAny _ _ (compareOp CmpOp.In (Value.str _ _) (Value.ref _)) _ _ _); (with_unfolding_all refine' in_two (News.isTup (by k_asm) (by news_mem)) (by with_reducible assumption) ?_); k_whole)
  trivial

/-- the law's own names in the main loop -/
abbrev lv (ch : Addr) (mv : Value) (u : Int) (tu : Tok) (x : Addr) (hm : Int) (thm : Tok) (now : Int) (tn : Tok) (du : Addr) (ct : Int) (tct : Tok) (kd : Addr) (more : List (Str × Value)) : List (Str × Value) :=
  (Str.ofString "choices", .ref ch) :: (Str.ofString "most", mv) :: (Str.ofString "unit", .int u tu) :: (Str.ofString "net", .ref x) :: (Str.ofString "harmed", .int hm thm) :: (Str.ofString "now", .int now tn) :: (Str.ofString "due", .ref du) :: (Str.ofString "count", .int ct tct) :: (Str.ofString "kinds", .ref kd) :: more

theorem kept_of_rest {h₀ h h' : Heap} {L : Addr} {m : Str → Option Value} {tl : List (Addr × Obj)} (K : ∀ h' m', Fr h₀ L h' m' → News h₀ L h' tl → Kept [L] h h') {news : List (Addr × Obj)} (F : Fr h₀ L h' m) (N : News h₀ L h' news) (s : ∀ p ∈ tl, p ∈ news) : Kept [L] h h' := K h' m F fun p hp => N p (s p hp)

theorem m2_spec {w : World} {loose : List Str} {mean : ExcName → Option Value} {mg mb : Str → Option Value} {a : Addr} {cd : Value} {h₀ : Heap} {L : Addr} {m : Str → Option Value} {s : Shared} {Q : Flow → Shared → Prop} {E : Value → Shared → Prop} {rest : List Stmt}
    {ch kd x du : Addr} {u : Int} {tu : Tok} {mo : Option Int} {tmo : Tok} {hm : Int} {thm : Tok} {now : Int} {tn : Tok} {ct : Int} {tct : Tok} {turn : Nat} {tt : Tok} {b : Array UInt8} {tb : Tok} {i : Int} {ti : Tok} {q : Int} {tq : Tok} {f : Str} {hm' : Int}
    (B : Below callerA h₀ [] h₀) (F : Fr h₀ L s.heap m) (X : (hd.heap_39 w.params).In h₀) (T : Top hd.view_39 loose mean mg mb h₀)
    (hmo : ∀ q, mo = some q → hm ≤ q) (hr : harmStep (kindOf i) mo hm = (f, hm'))
    (hM : MHas m (lv ch (moV mo tmo) u tu x hm thm now tn du ct tct kd [(Str.ofString "turn", .int turn tt), (Str.ofString "datagram", .bytes b tb), (Str.ofString "kind", .str (kindOf i) ti), (Str.ofString "number", .int q tq)]))
    (ret : ∀ h' tk' m' t1 t2, Fr h₀ L h' m' → Kept [L] s.heap h' →
      MHas m' (lv ch (moV mo tmo) u tu x hm' t1 now tn du ct tct kd [(Str.ofString "turn", .int turn tt), (Str.ofString "datagram", .bytes b tb), (Str.ofString "kind", .str f t2), (Str.ofString "number", .int q tq)]) →
      wpAny (model pr w) (callerA.deeper (lawEnv L a cd)) (execs rest (lawEnv L a cd)) Q E { s with heap := h', toks := tk' }) :
    wpAny (model pr w) (callerA.deeper (lawEnv L a cd)) (execs ((mainB 4).take 1 ++ rest) (lawEnv L a cd)) Q E s := by
  obtain ⟨tl, N', off, K⟩ := with_rest F (News.nil)
  clear off
  simp only [List.nil_append, List.map_nil] at N' K
  rw [mset_self _ hM] at F
  clear hM
  generalize hkk : kindOf i = kk at *
  dsimp only [mset] at F
  delta pr at *; revert X; k_fill; intro X
  dsimp only [lawEnv, lawItem, mainB, mainFor, List.take, List.drop, List.cons_append, List.nil_append]
  show wpAny _ _ (execs _ _) _ _ _
  cases hin : [Str.ofString "lost", Str.ofString "changed"].any (· == kk)
  · rw [hs_other hin] at hr; cases hr
    k_steps
    all_goals first | (exfalso; omega) | ((refine ret _ _ _ ?_ ?_ (by assumption) (kept_of_rest K (by assumption) (by assumption) (fun p hp => by repeat (first | exact hp | refine List.Mem.tail _ ?_))) ?mh); (case mh => repeat (first | exact List.forall_mem_nil _ | (refine List.forall_mem_cons.mpr ⟨by exact rfl, ?_⟩))))
  · rcases mo with - | p
    · rw [hs_harm_n hin (by simp)] at hr; cases hr
      dsimp only [moV] at F ret
      k_steps
      all_goals first | (exfalso; omega) | ((refine ret _ _ _ ?_ ?_ (by assumption) (kept_of_rest K (by assumption) (by assumption) (fun p hp => by repeat (first | exact hp | refine List.Mem.tail _ ?_))) ?mh); (case mh => repeat (first | exact List.forall_mem_nil _ | (refine List.forall_mem_cons.mpr ⟨by exact rfl, ?_⟩))))
    · have hq1 := hmo p rfl
      by_cases hq : p = hm
      · subst hq
        rw [hs_harm_y hin] at hr; cases hr
        dsimp only [moV] at F ret
        k_steps
        all_goals first | (exfalso; omega) | ((refine ret _ _ _ ?_ ?_ (by assumption) (kept_of_rest K (by assumption) (by assumption) (fun p hp => by repeat (first | exact hp | refine List.Mem.tail _ ?_))) ?mh); (case mh => repeat (first | exact List.forall_mem_nil _ | (refine List.forall_mem_cons.mpr ⟨by exact rfl, ?_⟩))))
      · rw [hs_harm_n hin (by simpa using hq)] at hr; cases hr
        dsimp only [moV] at F ret
        k_steps
        all_goals first | (exfalso; omega) | ((refine ret _ _ _ ?_ ?_ (by assumption) (kept_of_rest K (by assumption) (by assumption) (fun p hp => by repeat (first | exact hp | refine List.Mem.tail _ ?_))) ?mh); (case mh => repeat (first | exact List.forall_mem_nil _ | (refine List.forall_mem_cons.mpr ⟨by exact rfl, ?_⟩))))
end Mine

end
namespace Mine
theorem flush_m3 {prog : Program} {w : World} {A : Around} {Q : Flow → Shared → Prop} {E : Value → Shared → Prop} {s : Shared} {env : Env} (h : wpAny (model prog w) A (execs [] env) Q E s) : wpAny (model prog w) A (execs [] env) Q E s := by
  k_with_none
  w_top off
  first | (walk1; fail) | exact h
end Mine

section
open PyProof.V
namespace Mine
theorem words_m3 : True := by
  k_with_none
  k_with "own ne" => (refine neN ?_; (try dsimp only); first | with_reducible assumption | (refine Ne.symm ?_; with_reducible assumption) | k_extra "own and" | (refine Ne.symm ?_; k_extra "own and"))
  k_with "own right" => (iterate 9 (first | done | with_reducible assumption | apply And.right))
  k_with "own and" => first | (apply And.left; k_extra "own right"; done) | (k_extra "own right"; done) | (apply And.left; apply And.left; k_extra "own right"; done) | (apply And.left; apply And.right; apply And.left; k_extra "own right"; done) | (apply And.right; apply And.left; k_extra "own right"; done) | (apply And.right; apply And.right; apply And.left; k_extra "own right"; done)
  k_with "own call ref" => (k_here; (k_dflt show wpAny _ _ (call (Value.ref 64) [Value.ref _, Value.int _ _, Value.int _ _, Value.str _ _, Value.bytes _ _]) _ _ _); k_dflt (refine' carry_use (by k_asm) (by k_asm) (by k_asm) (by k_asm) (by exact rfl) (by ktr_room) (by ktr_units) (by k_asm) (by assumption) (by assumption) (by assumption) (by assumption) (by assumption) (by assumption) (by assumption) (by assumption) (by assumption) (by assumption) (by assumption) (by assumption) (by assumption) (by assumption) (by assumption) (by assumption) (by assumption) (by exact rfl) (by assumption) (by assumption) (by assumption) ?_); intro t'w h'w tk'w thm'w tct'w nC'w nW'w nF'w fs'w ws'w us'w ct'w hct'w hws'w hus'w hfs'w hkp'w F'w N'w; (try dsimp only at N'w))
  trivial

theorem carry_use {w : World} {loose : List Str} {mean : ExcName → Option Value} {mg mb : Str → Option Value}
    {dp un : Nat} {gd : Option (List Code)} {cn : Str} {cs : Scope} {a : Addr} {ccd : Value} {cl : List (Str × Addr)} {outer : List Env} {A₀ : Around} {base h₀ : Heap} {L : Addr} {m : Str → Option Value} {s : Shared} {tl : List (Addr × Obj)}
    {Q E : Value → Shared → Prop} {x d NC NW NF : Addr} {k : NK} {u : Int} {tu : Tok} {mo : Option Int} {tmo : Tok} {hm : Int} {thm : Tok} {ct : Int} {tct : Tok} {vs : List Value} {ns : List Int} {nC : Nat} {ws : Array Value} {nW : Nat} {fs : Array Value} {nF : Nat}
    {now : Int} {tn : Tok} {g : Int} {tg : Tok} {p : Str} {tp : Tok} {b : Array UInt8} {tb : Tok} {f : Str} {hm' q : Int}
    (B : Below A₀ base outer h₀) (F : Fr h₀ L s.heap m) (X : (hd.heap_39 w.params).In h₀)
    (T : Top hd.view_39 loose mean mg mb h₀) (hk : cs.kind = .function) (hdp : dp + 5 < recursionLimit) (hun : un + 20 < cLine)
    (N : News h₀ L s.heap ((x, instObj 77 d) :: (d, netDict k NC u tu (moV mo tmo) hm thm ct tct NW NF) :: (NC, W.listOf (List.toArray vs) nC) :: (NW, W.listOf ws nW) :: (NF, W.listOf fs nF) :: tl)) (off : OwnOff tl [x, d, NC, NW, NF])
    (hi : IntsAre vs ns) (hvs : ns.length ≤ 60) (hws : ws.size ≤ 60) (hfs : fs.size ≤ 63) (hb : b.size ≤ 1000)
    (e1 : @Ne Nat x d) (e2 : @Ne Nat x NC) (e3 : @Ne Nat x NF) (e4 : @Ne Nat d NC) (e5 : @Ne Nat d NF) (e6 : @Ne Nat NC NF) (e7 : @Ne Nat x NW) (e8 : @Ne Nat d NW) (e9 : @Ne Nat NC NW) (e10 : @Ne Nat NW NF)
    (hmo : ∀ q, mo = some q → hm ≤ q) (hq : (ns.headD 0).fdiv 6 = q) (hr : harmStep (kindOf ((ns.headD 0).fmod 6)) mo hm = (f, hm'))
    (hu0 : 0 ≤ u) (hu1 : u ≤ 100)
    (ret : ∀ t h' tk' thm' tct' nC' nW' nF' (fs' ws' : Array Value) (us : List Value) (ct' : Int), ct' = ct + us.length → ws'.toList = ws.toList ++ us → RowsAre (RowNet h') us (carryRows f q now u ct g p (KBw.bInts b)) → fs'.size = fs.size + 1 → Kept [x, d, NC, NW, NF] s.heap h' →
      Fr h₀ L h' m → News h₀ L h' ((x, instObj 77 d) :: (d, netDict k NC u tu (moV mo tmo) hm' thm' ct' tct' NW NF) :: (NC, W.listOf (List.toArray vs.tail) nC') :: (NW, W.listOf ws' nW') :: (NF, W.listOf fs' nF') :: tl) → Q (.str f t) { s with heap := h', toks := tk' }) :
    wpAny (model pr w) (ktrTop dp un gd cn cs L a ccd cl outer) (call (.ref 64) [.ref x, .int now tn, .int g tg, .str p tp, .bytes b tb]) Q E s := by
  have al : ∀ b ∈ [x, d, NC, NW, NF], b ≠ L ∧ h₀.get? b = none := fun b hb => by
    simp only [List.mem_cons, List.not_mem_nil, or_false] at hb
    rcases hb with rfl | rfl | rfl | rfl | rfl
    · exact (N _ (by k_mem)).2
    · exact (N (b, _) (by k_mem)).2
    · exact (N (b, _) (by k_mem)).2
    · exact (N (b, _) (by k_mem)).2
    · exact (N (b, _) (by k_mem)).2
  have N5 : News h₀ L s.heap [(x, instObj 77 d), (d, netDict k NC u tu (moV mo tmo) hm thm ct tct NW NF), (NC, W.listOf (List.toArray vs) nC), (NW, W.listOf ws nW), (NF, W.listOf fs nF)] := fun p hp => N p (List.mem_append_left tl hp)
  refine carry_spec B F X T hk hdp hun N5 hi hvs hws hfs hb e1 e2 e3 e4 e5 e6 e7 e8 e9 e10 hmo hq hr hu0 hu1 ?_
  intro t h' tk' thm' tct' nC' nW' nF' fs' ws' us ct' a1 a2 a3 _ b1 b2 b3 b4 b5 b6 K
  refine ret t h' tk' thm' tct' nC' nW' nF' fs' ws' us ct' a1 a2 a3 b6 K (fr_touch F K (fun q => (al _ q).1 rfl) fun b hb => (al b hb).2) fun p hp => ?_
  simp only [List.mem_cons] at hp
  rcases hp with rfl | rfl | rfl | rfl | rfl | hp
  · exact ⟨b1, al _ (by simp)⟩
  · exact ⟨b2, al _ (by simp)⟩
  · exact ⟨b3, al _ (by simp)⟩
  · exact ⟨b4, al _ (by simp)⟩
  · exact ⟨b5, al _ (by simp)⟩
  · have q := N p (by simp [hp])
    exact ⟨K _ _ (fun hm => off p hp _ hm rfl) q.1, q.2⟩

theorem m3_spec {w : World} {loose : List Str} {mean : ExcName → Option Value} {mg mb : Str → Option Value} {a : Addr} {cd : Value} {h₀ : Heap} {L : Addr} {m : Str → Option Value} {s : Shared} {Q : Flow → Shared → Prop} {E : Value → Shared → Prop} {rest : List Stmt}
    {ch kd x du : Addr} {u : Int} {tu : Tok} {mo : Option Int} {tmo : Tok} {hm0 : Int} {thm0 : Tok} {now : Int} {tn : Tok} {ct0 : Int} {tct0 : Tok} {turn : Nat} {tt : Tok} {b : Array UInt8} {tb : Tok} {q0 : Int} {tq : Tok} {tf : Tok}
    {d NC NW NF : Addr} {k : NK} {tmo' : Tok} {hm : Int} {thm : Tok} {ct : Int} {tct : Tok} {vs : List Value} {ns : List Int} {nC : Nat} {ws : Array Value} {nW : Nat} {fs : Array Value} {nF : Nat} {f : Str} {hm' : Int}
    (B : Below callerA h₀ [] h₀) (F : Fr h₀ L s.heap m) (X : (hd.heap_39 w.params).In h₀) (T : Top hd.view_39 loose mean mg mb h₀)
    (N : News h₀ L s.heap [(x, instObj 77 d), (d, netDict k NC u tu (moV mo tmo') hm thm ct tct NW NF), (NC, W.listOf (List.toArray vs) nC), (NW, W.listOf ws nW), (NF, W.listOf fs nF)])
    (hi : IntsAre vs ns) (hvs : ns.length ≤ 60) (hws : ws.size ≤ 60) (hfs : fs.size ≤ 63) (hb : b.size ≤ 1000)
    (e1 : @Ne Nat x d) (e2 : @Ne Nat x NC) (e3 : @Ne Nat x NF) (e4 : @Ne Nat d NC) (e5 : @Ne Nat d NF) (e6 : @Ne Nat NC NF) (e7 : @Ne Nat x NW) (e8 : @Ne Nat d NW) (e9 : @Ne Nat NC NW) (e10 : @Ne Nat NW NF)
    (hmo : ∀ q, mo = some q → hm ≤ q) (hr : harmStep (kindOf ((ns.headD 0).fmod 6)) mo hm = (f, hm'))
    (hu0 : 0 ≤ u) (hu1 : u ≤ 100)
    (hM : MHas m (lv ch (moV mo tmo) u tu x hm0 thm0 now tn du ct0 tct0 kd [(Str.ofString "turn", .int turn tt), (Str.ofString "datagram", .bytes b tb), (Str.ofString "kind", .str f tf), (Str.ofString "number", .int q0 tq)]))
    (ret : ∀ h' tk' m' thm' tct' nC' nW' nF' (fs' ws' : Array Value) (us : List Value) (ct' : Int), ct' = ct + us.length → ws'.toList = ws.toList ++ us →
      RowsAre (RowNet h') us (carryRows f ((ns.headD 0).fdiv 6) now u ct ((turn : Int).fmod 2) (Str.ofString "way" ++ Str.ofString (toString ((turn : Int).fmod 3))) (KBw.bInts b)) → fs'.size = fs.size + 1 → Kept [L, x, d, NC, NW, NF] s.heap h' → Fr h₀ L h' m' →
      h'.get? x = some (instObj 77 d) → h'.get? d = some (netDict k NC u tu (moV mo tmo') hm' thm' ct' tct' NW NF) → h'.get? NC = some (W.listOf (List.toArray vs.tail) nC') → h'.get? NW = some (W.listOf ws' nW') → h'.get? NF = some (W.listOf fs' nF') →
      MHas m' (lv ch (moV mo tmo) u tu x hm0 thm0 now tn du ct0 tct0 kd [(Str.ofString "turn", .int turn tt), (Str.ofString "datagram", .bytes b tb), (Str.ofString "kind", .str f tf), (Str.ofString "number", .int q0 tq)]) →
      wpAny (model pr w) (callerA.deeper (lawEnv L a cd)) (execs rest (lawEnv L a cd)) Q E { s with heap := h', toks := tk' }) :
    wpAny (model pr w) (callerA.deeper (lawEnv L a cd)) (execs ((mainB 5).take 1 ++ rest) (lawEnv L a cd)) Q E s := by
  obtain ⟨tl, N', off, K⟩ := with_rest F N
  simp only [List.cons_append, List.nil_append, List.map_cons, List.map_nil] at N' off K
  clear N
  rw [mset_self _ hM] at F
  clear hM
  dsimp only [mset] at F
  delta pr at *; revert X; k_fill; intro X
  dsimp only [lawEnv, lawItem, mainB, mainFor, List.take, List.drop, List.cons_append, List.nil_append]
  show wpAny _ _ (execs _ _) _ _ _
  k_steps
  all_goals first
    | (have hff : (f != f) = true := by assumption
       rw [bne_self_eq_false] at hff
       cases hff)
    | (rename News h₀ L _ ((x, _) :: _) => NN
       refine ret _ _ _ _ _ _ _ _ _ _ _ _ (by assumption) (by assumption) (by assumption) (by assumption) (K _ _ (by assumption) fun p hp => NN p (by simp only [List.mem_cons, hp, or_true])) (by assumption) (NN.get (by k_mem)) (NN.get (by k_mem)) (NN.get (by k_mem)) (NN.get (by k_mem)) (NN.get (by k_mem)) ?mh
       case mh => repeat (first | exact List.forall_mem_nil _ | (refine List.forall_mem_cons.mpr ⟨by exact rfl, ?_⟩)))
end Mine

end
namespace Mine
theorem flush_m4 {prog : Program} {w : World} {A : Around} {Q : Flow → Shared → Prop} {E : Value → Shared → Prop} {s : Shared} {env : Env} (h : wpAny (model prog w) A (execs [] env) Q E s) : wpAny (model prog w) A (execs [] env) Q E s := by
  k_with_none
  w_top off
  first | (walk1; fail) | exact h
end Mine

section
open PyProof.V
namespace Mine
theorem words_m4 : True := by
  k_with_none
  k_with "own ne" => (refine neN ?_; (try dsimp only); first | with_reducible assumption | (refine Ne.symm ?_; with_reducible assumption) | k_extra "own and" | (refine Ne.symm ?_; k_extra "own and"))
  k_with "own right" => (iterate 9 (first | done | with_reducible assumption | apply And.right))
  k_with "own and" => first | (apply And.left; k_extra "own right"; done) | (k_extra "own right"; done) | (apply And.left; apply And.left; k_extra "own right"; done) | (apply And.left; apply And.right; apply And.left; k_extra "own right"; done) | (apply And.right; apply And.left; k_extra "own right"; done) | (apply And.right; apply And.right; apply And.left; k_extra "own right"; done)
  k_with "own call ref" => (k_here; (k_dflt show wpAny _ _ (call (Value.ref 100) [Value.bytes _ _, Value.int _ _]) _ _ _); k_dflt (refine' lchg_use (by k_asm) (by k_asm) (by k_asm) (by k_asm) (by exact rfl) (by ktr_room) (by ktr_units) (by assumption) (by k_asm) ?_); intro b'w t'w h'w tk'w F'w N'w hb'w)
  trivial

/-- the law's own row for a datagram on its way -/
inductive RowDue (h : Heap) (v : Value) (r : Row) : Prop where
  | mk (a b : Addr) (arr : Array UInt8) (ti : Int) (t1 t2 t3 t4 t5 : Tok) (e : v = .ref a) (q1 : h.get? a = some (tupObj #[.int ti t1, .int r.o t2, .ref b]))
    (q2 : h.get? b = some (tupObj #[.int r.g t3, .str r.p t4, .bytes arr t5])) (q3 : ti = r.t) (q4 : KBw.bInts arr = r.d)

/-- a due row's parts, by continuation (one copy of the goal) -/
theorem due_at {P : Prop} {h : Heap} {vs : List Value} {rs : List Row} {i : Nat} {v : Value} (H : RowsAre (RowDue h) vs rs) (hv : vs[i]? = some v)
    (k : ∀ (r : Row) ra rb arr t1 t2 t3 t4 t5, rs[i]? = some r → RowDue h v r → v = .ref ra → h.get? ra = some (tupObj #[.int r.t t1, .int r.o t2, .ref rb]) →
      h.get? rb = some (tupObj #[.int r.g t3, .str r.p t4, .bytes arr t5]) → KBw.bInts arr = r.d → P) : P := by
  obtain ⟨r, hri, hrow⟩ := rows_get H hv
  have hrow' := hrow
  obtain ⟨ra, rb, arr, ti, t1, t2, t3, t4, t5, e, hra, hrb, hti, hrd⟩ := hrow'
  subst hti
  exact k r ra rb arr t1 t2 t3 t4 t5 hri hrow e hra hrb hrd

local macro_rules | `(tactic| k_all) => `(tactic| (refine OwnOff.ne ‹OwnOff _ _› ?_; k_mem))

theorem m4_spec {w : World} {loose : List Str} {mean : ExcName → Option Value} {mg mb : Str → Option Value} {a : Addr} {cd : Value} {h₀ : Heap} {L : Addr} {m : Str → Option Value} {s : Shared} {Q : Flow → Shared → Prop} {E : Value → Shared → Prop} {rest : List Stmt}
    {ch kd x du : Addr} {u : Int} {tu : Tok} {mv : Value} {hm0 : Int} {thm0 : Tok} {now : Int} {tn : Tok} {ct : Int} {tct : Tok} {turn : Nat} {tt : Tok} {b : Array UInt8} {tb : Tok} {q : Int} {tq : Tok} {tf : Tok}
    {ds : Array Value} {nD : Nat} {f : Str}
    (B : Below callerA h₀ [] h₀) (F : Fr h₀ L s.heap m) (X : (hd.heap_39 w.params).In h₀) (T : Top hd.view_39 loose mean mg mb h₀)
    (N : News h₀ L s.heap [(du, W.listOf ds nD)]) (hds : ds.size ≤ 60) (hb : b.size ≤ 1000)
    (hf : f = Str.ofString "passed" ∨ f = Str.ofString "lost" ∨ f = Str.ofString "doubled" ∨ f = Str.ofString "delayed" ∨ f = Str.ofString "changed")
    (hM : MHas m (lv ch mv u tu x hm0 thm0 now tn du ct tct kd [(Str.ofString "turn", .int turn tt), (Str.ofString "datagram", .bytes b tb), (Str.ofString "kind", .str f tf), (Str.ofString "number", .int q tq)]))
    (ret : ∀ h' tk' m' tct' nD' (ds' : Array Value) (us : List Value) (ct' : Int), ct' = ct + us.length → ds'.toList = ds.toList ++ us →
      RowsAre (RowDue h') us (carryRows f q now u ct ((turn : Int).fmod 2) (Str.ofString "way" ++ Str.ofString (toString ((turn : Int).fmod 3))) (KBw.bInts b)) → Fr h₀ L h' m' →
      h'.get? du = some (W.listOf ds' nD') → Kept [L, du] s.heap h' → MHas m' (lv ch mv u tu x hm0 thm0 now tn du ct' tct' kd []) →
      wpAny (model pr w) (callerA.deeper (lawEnv L a cd)) (execs rest (lawEnv L a cd)) Q E { s with heap := h', toks := tk' }) :
    wpAny (model pr w) (callerA.deeper (lawEnv L a cd)) (execs ((mainB 6).take 4 ++ rest) (lawEnv L a cd)) Q E s := by
  obtain ⟨tl, N', off, K⟩ := with_rest F N
  simp only [List.cons_append, List.nil_append, List.map_cons, List.map_nil] at N' off K
  clear N
  rw [mset_self _ hM] at F
  clear hM
  dsimp only [mset] at F
  delta pr at *; revert X; k_fill; intro X
  dsimp only [lawEnv, lawItem, mainB, mainFor, List.take, List.drop, List.cons_append, List.nil_append]
  show wpAny _ _ (execs _ _) _ _ _
  rcases hf with rfl | rfl | rfl | rfl | rfl
  · rw [cr_passed] at ret
    k_steps
    rename News h₀ L _ (_ :: _) => NN
    refine ret _ _ _ ?_ _ _ [.ref _] ?_ ?ct ?dsx ⟨⟨_, _, _, _, _, _, _, _, _, rfl, NN.get (by k_mem), NN.get (by k_mem), ?ti1, rfl⟩, trivial⟩ (by assumption) (NN.get (by k_mem)) (K _ _ (by assumption) fun p hp => NN p (by simp only [List.mem_cons, hp, or_true])) ?mh
    case mh => repeat (first | exact List.forall_mem_nil _ | (refine List.forall_mem_cons.mpr ⟨by exact rfl, ?_⟩))
    case ct => simp only [List.length_cons, List.length_nil]; omega
    case dsx => simp
    case ti1 => (show _ = _; (try dsimp only); (try simp only [Int.add_zero]); (try omega))
  · rw [cr_lost] at ret
    k_steps
    rename News h₀ L _ (_ :: _) => NN
    refine ret _ _ _ ?_ _ _ [] ?_ ?ct ?dsx trivial (by assumption) (NN.get (by k_mem)) (K _ _ (by assumption) fun p hp => NN p (by simp only [List.mem_cons, hp, or_true])) ?mh
    case mh => repeat (first | exact List.forall_mem_nil _ | (refine List.forall_mem_cons.mpr ⟨by exact rfl, ?_⟩))
    case ct => simp only [List.length_cons, List.length_nil]; omega
    case dsx => simp
  · rw [cr_doubled] at ret
    k_steps
    rename News h₀ L _ (_ :: _) => NN
    refine ret _ _ _ ?_ _ _ [.ref _, .ref _] ?_ ?ct ?dsx ⟨⟨_, _, _, _, _, _, _, _, _, rfl, NN.get (by k_mem), NN.get (by k_mem), ?ti1, rfl⟩, ⟨_, _, _, _, _, _, _, _, _, rfl, NN.get (by k_mem), NN.get (by k_mem), ?ti2, rfl⟩, trivial⟩ (by assumption) (NN.get (by k_mem)) (K _ _ (by assumption) fun p hp => NN p (by simp only [List.mem_cons, hp, or_true])) ?mh
    case mh => repeat (first | exact List.forall_mem_nil _ | (refine List.forall_mem_cons.mpr ⟨by exact rfl, ?_⟩))
    case ct => simp only [List.length_cons, List.length_nil]; omega
    case dsx => simp
    case ti1 => (show _ = _; (try dsimp only); (try simp only [Int.add_zero]); (try omega))
    case ti2 => (show _ = _; (try dsimp only); (try simp only [Int.add_zero]); (try omega))
  · rw [cr_delayed] at ret
    k_steps
    rename News h₀ L _ (_ :: _) => NN
    refine ret _ _ _ ?_ _ _ [.ref _] ?_ ?ct ?dsx ⟨⟨_, _, _, _, _, _, _, _, _, rfl, NN.get (by k_mem), NN.get (by k_mem), ?ti1, rfl⟩, trivial⟩ (by assumption) (NN.get (by k_mem)) (K _ _ (by assumption) fun p hp => NN p (by simp only [List.mem_cons, hp, or_true])) ?mh
    case mh => repeat (first | exact List.forall_mem_nil _ | (refine List.forall_mem_cons.mpr ⟨by exact rfl, ?_⟩))
    case ct => simp only [List.length_cons, List.length_nil]; omega
    case dsx => simp
    case ti1 => rw [Int.add_comm 1]
  · rw [cr_changed] at ret
    k_steps
    rename News h₀ L _ (_ :: _) => NN
    refine ret _ _ _ ?_ _ _ [.ref _] ?_ ?ct ?dsx ⟨⟨_, _, _, _, _, _, _, _, _, rfl, NN.get (by k_mem), NN.get (by k_mem), ?ti1, by assumption⟩, trivial⟩ (by assumption) (NN.get (by k_mem)) (K _ _ (by assumption) fun p hp => NN p (by simp only [List.mem_cons, hp, or_true])) ?mh
    case mh => repeat (first | exact List.forall_mem_nil _ | (refine List.forall_mem_cons.mpr ⟨by exact rfl, ?_⟩))
    case ct => simp only [List.length_cons, List.length_nil]; omega
    case dsx => simp
    case ti1 => (show _ = _; (try dsimp only); (try simp only [Int.add_zero]); (try omega))
end Mine

end
namespace Mine
theorem flush_turn {prog : Program} {w : World} {A : Around} {Q : Flow → Shared → Prop} {E : Value → Shared → Prop} {s : Shared} {env : Env} (h : wpAny (model prog w) A (execs [] env) Q E s) : wpAny (model prog w) A (execs [] env) Q E s := by
  k_with_none
  w_top off
  first | (walk1; fail) | exact h
end Mine

section
open PyProof.V
namespace Mine

/-- what stays the same in the main loop -/
structure LC where
  L : Addr
  dd : Addr
  ch : Addr
  kd : Addr
  x : Addr
  du : Addr
  d : Addr
  NC : Addr
  NW : Addr
  NF : Addr
  oc : Obj
  vs : List Value
  cs : List Int
  nCh : Nat
  nK : Nat
  k1 : Tok
  k2 : Tok
  k3 : Tok
  k4 : Tok
  k5 : Tok
  k6 : Tok
  k : NK
  u : Int
  tu : Tok
  mo : Option Int
  tmo : Tok

abbrev LC.all (c : LC) : List Addr := [c.L + 1, c.dd, c.ch, c.kd, c.x, c.du, c.d, c.NC, c.NW, c.NF]
abbrev LC.kinds (c : LC) : Obj := W.listOf #[.str (Str.ofString "passed") c.k1, .str (Str.ofString "passed") c.k2, .str (Str.ofString "lost") c.k3, .str (Str.ofString "doubled") c.k4, .str (Str.ofString "delayed") c.k5, .str (Str.ofString "changed") c.k6] c.nK

structure LC.Ok (c : LC) (h₀ : Heap) : Prop where
  fresh : ∀ a ∈ c.all, a ≠ c.L ∧ h₀.get? a = none
  nodup : c.all.Pairwise (fun a b => @Ne Nat a b)
  cell : c.oc.data = .cell (some (.ref c.dd))
  cint : IntsAre c.vs c.cs
  len : c.cs.length ≤ 60
  hlo : (c.dd == sysModules) = false
  u0 : 0 ≤ c.u
  u1 : c.u ≤ 9
  mo0 : ∀ q, c.mo = some q → 0 ≤ q

/-- the rows so far: as many as counted, numbered in order, none beyond `now + 8 u` -/
structure RowsOk (rs : List Row) (now u : Int) : Prop where
  ord : rs.map (·.o) = (List.range rs.length).map (fun (n : Nat) => (n : Int))
  top : ∀ r ∈ rs, r.t ≤ now + 8 * u

/-- the state at the head of turn `i` -/
structure Inv (w : World) (h₀ : Heap) (c : LC) (i : Nat) (h : Heap) (m : Str → Option Value) (od : Obj) (g0 x0 : Int) (nC : Nat) (ws : Array Value) (nW : Nat) (fs : Array Value) (nF : Nat) (ds : Array Value) (nD : Nat) (hm : Int) (thm thm2 : Tok) (now : Int) (tn : Tok) (ct : Int) (tct tct2 : Tok) (rs : List Row) : Prop where
  o1 : h.get? (c.L + 1) = some c.oc
  o2 : h.get? c.dd = some od
  o3 : h.get? c.ch = some (W.listOf c.vs.toArray c.nCh)
  o4 : h.get? c.kd = some c.kinds
  o5 : h.get? c.x = some (instObj 77 c.d)
  o6 : h.get? c.du = some (W.listOf ds nD)
  o7 : h.get? c.d = some (netDict c.k c.NC c.u c.tu (moV c.mo c.tmo) hm thm ct tct c.NW c.NF)
  o8 : h.get? c.NC = some (W.listOf (List.toArray (c.vs.drop i)) nC)
  o9 : h.get? c.NW = some (W.listOf ws nW)
  o10 : h.get? c.NF = some (W.listOf fs nF)
  draws : IsDraws w od g0 x0
  dg : 0 ≤ g0
  dx : 0 ≤ x0
  net : RowsAre (RowNet h) ws.toList rs
  due : RowsAre (RowDue h) ds.toList rs
  few : rs.length ≤ 2 * i
  fates : fs.size = i
  count : ct = rs.length
  rows : RowsOk rs now c.u
  now0 : 0 ≤ now
  now1 : now ≤ 4 * i
  harm : ∀ q, c.mo = some q → hm ≤ q
  vars : MHas m (lv c.ch (moV c.mo c.tmo) c.u c.tu c.x hm thm2 now tn c.du ct tct2 c.kd [])

theorem kept_mono {h h' : Heap} {ts us : List Addr} (K : Kept ts h h') (s : ∀ b ∈ ts, b ∈ us) : Kept us h h' := fun b o hb e => K b o (fun q => hb (s b q)) e
theorem kept_trans {h h' h'' : Heap} {ts : List Addr} (K : Kept ts h h') (K' : Kept ts h' h'') : Kept ts h h'' := fun b o hb e => K' b o hb (K b o hb e)

theorem due_keep {h h' : Heap} {ts : List Addr} {v : Value} {r : Row} (K : Kept ts h h') (hts : ∀ b ∈ ts, ∀ its, h.get? b ≠ some (tupObj its)) (H : RowDue h v r) : RowDue h' v r := by
  obtain ⟨a, b, arr, ti, t1, t2, t3, t4, t5, e, q1, q2, q3, q4⟩ := H
  exact ⟨a, b, arr, ti, t1, t2, t3, t4, t5, e, K _ _ (fun hb => hts a hb _ q1) q1, K _ _ (fun hb => hts b hb _ q2) q2, q3, q4⟩

theorem ns_tup {h : Heap} {L : Addr} {m : Str → Option Value} (n : h.Ns L m) {its : Array Value} : h.get? L ≠ some (tupObj its) := fun e => by
  obtain ⟨o, es, ep, ho, hd, _⟩ := n
  rw [e] at ho
  rw [← Option.some.inj ho] at hd
  cases hd

theorem draws_tup {w : World} {o : Obj} {g x : Int} (h : IsDraws w o g x) {its : Array Value} : o ≠ tupObj its := fun e => by
  obtain ⟨kvs, ⟨es, ep, _, hd, _⟩, _⟩ := h
  rw [e] at hd
  cases hd

theorem harm_le {k : Str} {mo : Option Int} {hm : Int} {f : Str} {hm' : Int} (h : harmStep k mo hm = (f, hm')) (h0 : ∀ q, mo = some q → 0 ≤ q) (h1 : ∀ q, mo = some q → hm ≤ q) : ∀ q, mo = some q → hm' ≤ q := by
  intro q hq
  have e : hm' = (harmStep k mo hm).2 := by rw [h]
  rw [e]
  have a := h0 q hq
  have b := h1 q hq
  unfold harmStep
  split
  · split
    · exact a
    · rename_i c
      have : hm ≠ q := fun z => c (by rw [hq, z])
      show hm + 1 ≤ q
      omega
  · exact a

theorem rows_nodup {rs : List Row} (h : rs.map (·.o) = (List.range rs.length).map (fun (n : Nat) => (n : Int))) : (rs.map (·.o)).Nodup := by
  rw [h]
  show List.Pairwise _ _
  rw [List.pairwise_map]
  exact List.Pairwise.imp (fun hne e => hne (Int.ofNat.inj e)) (show List.Pairwise (· ≠ ·) (List.range rs.length) from List.nodup_range)

/-- the rows of one turn -/
theorem carry_len {f : Str} {q now u ct g : Int} {p : Str} {d : List Int} : (carryRows f q now u ct g p d).length ≤ 2 := by
  unfold carryRows
  repeat' split
  all_goals simp

theorem carry_ok {rs : List Row} {now now' u q g : Int} {f p : Str} {d : List Int} (h : RowsOk rs now u) (hn : now ≤ now') (hu : 0 ≤ u) : RowsOk (rs ++ carryRows f q now' u rs.length g p d) now' u := by
  have h7 := Int.fmod_lt_of_pos q (show (0 : Int) < 7 by decide)
  have h70 := Int.fmod_nonneg_of_pos q (show (0 : Int) < 7 by decide)
  have h4 := Int.fmod_lt_of_pos q (show (0 : Int) < 4 by decide)
  have h40 := Int.fmod_nonneg_of_pos q (show (0 : Int) < 4 by decide)
  have m1 : u * (1 + q.fmod 7) ≤ u * 7 := Int.mul_le_mul_of_nonneg_left (by omega) hu
  have m2 : u * (q.fmod 4) ≤ u * 3 := Int.mul_le_mul_of_nonneg_left (by omega) hu
  refine ⟨?_, fun r hr => ?_⟩
  · rw [List.map_append, List.length_append, List.range_add, List.map_append, h.ord]
    congr 1
    unfold carryRows
    repeat' split
    all_goals simp [List.range_succ]
  · rcases List.mem_append.mp hr with hr | hr
    · have := h.top r hr
      omega
    · unfold carryRows at hr
      split at hr
      · cases hr
      · split at hr
        · rw [List.mem_singleton.mp hr]; dsimp only; omega
        · split at hr
          · rw [List.mem_singleton.mp hr]; dsimp only; omega
          · split at hr
            · rcases List.mem_cons.mp hr with hr | hr
              · rw [hr]; dsimp only; omega
              · rw [List.mem_singleton.mp hr]; dsimp only; omega
            · rw [List.mem_singleton.mp hr]; dsimp only; omega

theorem news_cons' {h₀ h : Heap} {L a : Addr} {o : Obj} {r : List (Addr × Obj)} (e : h.get? a = some o) (n : a ≠ L ∧ h₀.get? a = none) (N : News h₀ L h r) : News h₀ L h ((a, o) :: r) := fun p hp => by
  rcases List.mem_cons.mp hp with rfl | hp
  · exact ⟨e, n⟩
  · exact N p hp

theorem Inv.nt {w : World} {h₀ : Heap} {c : LC} {i : Nat} {h : Heap} {m : Str → Option Value} {od : Obj} {g0 x0 : Int} {nC : Nat} {ws : Array Value} {nW : Nat} {fs : Array Value} {nF : Nat} {ds : Array Value} {nD : Nat} {hm : Int} {thm thm2 : Tok} {now : Int} {tn : Tok} {ct : Int} {tct tct2 : Tok} {rs : List Row}
    (I : Inv w h₀ c i h m od g0 x0 nC ws nW fs nF ds nD hm thm thm2 now tn ct tct tct2 rs) {m' : Str → Option Value} (F : Fr h₀ c.L h m') (hc : c.oc.data = .cell (some (.ref c.dd))) : ∀ b ∈ c.L :: c.all, ∀ its, h.get? b ≠ some (tupObj its) := by
  refine fc (fun _ => ns_tup F.ns) (fc (no_tup I.o1 fun its e => ?_) (fc (no_tup I.o2 fun _ => draws_tup I.draws) (fc (no_tup I.o3 fun _ => list_tup) (fc (no_tup I.o4 fun _ => list_tup) (fc (no_tup I.o5 fun _ => inst_tup) (fc (no_tup I.o6 fun _ => list_tup) (fc (no_tup I.o7 fun _ => dict_tup) (fc (no_tup I.o8 fun _ => list_tup) (fc (no_tup I.o9 fun _ => list_tup) (fc (no_tup I.o10 fun _ => list_tup) fn))))))))))
  rw [e] at hc; cases hc

theorem turn_spec {w : World} {loose : List Str} {mean : ExcName → Option Value} {mg mb : Str → Option Value} {a : Addr} {cd : Value} {h₀ : Heap} {c : LC} {i : Nat} {m m0 : Str → Option Value} {s : Shared} {Q : Flow → Shared → Prop} {E : Value → Shared → Prop}
    {od : Obj} {g0 x0 : Int} {nC : Nat} {ws : Array Value} {nW : Nat} {fs : Array Value} {nF : Nat} {ds : Array Value} {nD : Nat} {hm : Int} {thm thm2 : Tok} {now : Int} {tn : Tok} {ct : Int} {tct tct2 : Tok} {rs : List Row} {tt : Tok}
    (B : Below callerA h₀ [] h₀) (X : (hd.heap_39 w.params).In h₀) (T : Top hd.view_39 loose mean mg mb h₀) (O : c.Ok h₀) (hi : i ≤ 12)
    (I : Inv w h₀ c i s.heap m0 od g0 x0 nC ws nW fs nF ds nD hm thm thm2 now tn ct tct tct2 rs) (F : Fr h₀ c.L s.heap m) (hm0 : ∀ y, y ≠ Str.ofString "turn" → m y = m0 y) (ht : m (Str.ofString "turn") = some (.int i tt))
    (ret : ∀ h' tk' m' od' g0' x0' nC' ws' nW' fs' nF' ds' nD' hm' thm' thm2' now' tn' ct' tct' tct2' rs', Fr h₀ c.L h' m' → Inv w h₀ c (i + 1) h' m' od' g0' x0' nC' ws' nW' fs' nF' ds' nD' hm' thm' thm2' now' tn' ct' tct' tct2' rs' → Kept (c.L :: c.all) s.heap h' → Q .next { s with heap := h', toks := tk' }) :
    wpAny (model pr w) (callerA.deeper (lawEnv c.L a cd)) (execs (mainB 0) (lawEnv c.L a cd)) Q E s := by
  have fr := O.fresh
  have f_l1 := fr (c.L + 1) (by k_mem)
  have g_l1 := f_l1.1
  have f_dd := fr (c.dd) (by k_mem)
  have g_dd := f_dd.1
  have f_ch := fr (c.ch) (by k_mem)
  have g_ch := f_ch.1
  have f_kd := fr (c.kd) (by k_mem)
  have g_kd := f_kd.1
  have f_x := fr (c.x) (by k_mem)
  have g_x := f_x.1
  have f_du := fr (c.du) (by k_mem)
  have g_du := f_du.1
  have f_d := fr (c.d) (by k_mem)
  have g_d := f_d.1
  have f_NC := fr (c.NC) (by k_mem)
  have g_NC := f_NC.1
  have f_NW := fr (c.NW) (by k_mem)
  have g_NW := f_NW.1
  have f_NF := fr (c.NF) (by k_mem)
  have g_NF := f_NF.1
  have nd := O.nodup
  have nt := I.nt F O.cell
  rw [show c.all = (c.L + 1) :: (c.dd) :: (c.ch) :: (c.kd) :: (c.x) :: (c.du) :: (c.d) :: (c.NC) :: (c.NW) :: (c.NF) :: [] from rfl] at nd
  obtain ⟨q_l1, nd⟩ := List.pairwise_cons.mp nd
  have e_l1_dd := q_l1 (c.dd) (by k_mem)
  have e_l1_ch := q_l1 (c.ch) (by k_mem)
  have e_l1_kd := q_l1 (c.kd) (by k_mem)
  have e_l1_x := q_l1 (c.x) (by k_mem)
  have e_l1_du := q_l1 (c.du) (by k_mem)
  have e_l1_d := q_l1 (c.d) (by k_mem)
  have e_l1_NC := q_l1 (c.NC) (by k_mem)
  have e_l1_NW := q_l1 (c.NW) (by k_mem)
  have e_l1_NF := q_l1 (c.NF) (by k_mem)
  obtain ⟨q_dd, nd⟩ := List.pairwise_cons.mp nd
  have e_dd_ch := q_dd (c.ch) (by k_mem)
  have e_dd_kd := q_dd (c.kd) (by k_mem)
  have e_dd_x := q_dd (c.x) (by k_mem)
  have e_dd_du := q_dd (c.du) (by k_mem)
  have e_dd_d := q_dd (c.d) (by k_mem)
  have e_dd_NC := q_dd (c.NC) (by k_mem)
  have e_dd_NW := q_dd (c.NW) (by k_mem)
  have e_dd_NF := q_dd (c.NF) (by k_mem)
  obtain ⟨q_ch, nd⟩ := List.pairwise_cons.mp nd
  have e_ch_kd := q_ch (c.kd) (by k_mem)
  have e_ch_x := q_ch (c.x) (by k_mem)
  have e_ch_du := q_ch (c.du) (by k_mem)
  have e_ch_d := q_ch (c.d) (by k_mem)
  have e_ch_NC := q_ch (c.NC) (by k_mem)
  have e_ch_NW := q_ch (c.NW) (by k_mem)
  have e_ch_NF := q_ch (c.NF) (by k_mem)
  obtain ⟨q_kd, nd⟩ := List.pairwise_cons.mp nd
  have e_kd_x := q_kd (c.x) (by k_mem)
  have e_kd_du := q_kd (c.du) (by k_mem)
  have e_kd_d := q_kd (c.d) (by k_mem)
  have e_kd_NC := q_kd (c.NC) (by k_mem)
  have e_kd_NW := q_kd (c.NW) (by k_mem)
  have e_kd_NF := q_kd (c.NF) (by k_mem)
  obtain ⟨q_x, nd⟩ := List.pairwise_cons.mp nd
  have e_x_du := q_x (c.du) (by k_mem)
  have e_x_d := q_x (c.d) (by k_mem)
  have e_x_NC := q_x (c.NC) (by k_mem)
  have e_x_NW := q_x (c.NW) (by k_mem)
  have e_x_NF := q_x (c.NF) (by k_mem)
  obtain ⟨q_du, nd⟩ := List.pairwise_cons.mp nd
  have e_du_d := q_du (c.d) (by k_mem)
  have e_du_NC := q_du (c.NC) (by k_mem)
  have e_du_NW := q_du (c.NW) (by k_mem)
  have e_du_NF := q_du (c.NF) (by k_mem)
  obtain ⟨q_d, nd⟩ := List.pairwise_cons.mp nd
  have e_d_NC := q_d (c.NC) (by k_mem)
  have e_d_NW := q_d (c.NW) (by k_mem)
  have e_d_NF := q_d (c.NF) (by k_mem)
  obtain ⟨q_NC, nd⟩ := List.pairwise_cons.mp nd
  have e_NC_NW := q_NC (c.NW) (by k_mem)
  have e_NC_NF := q_NC (c.NF) (by k_mem)
  obtain ⟨q_NW, nd⟩ := List.pairwise_cons.mp nd
  have e_NW_NF := q_NW (c.NF) (by k_mem)
  obtain ⟨q_NF, nd⟩ := List.pairwise_cons.mp nd
  clear fr nd q_l1 q_dd q_ch q_kd q_x q_du q_d q_NC q_NW q_NF
  show wpAny _ _ (execs ((mainB 0).take 4 ++ mainB 4) _) _ _ _
  have hM : MHas m (lv c.ch (moV c.mo c.tmo) c.u c.tu c.x hm thm2 now tn c.du ct tct2 c.kd [(Str.ofString "turn", .int i tt)]) := by
    unfold lv MHas
    refine List.forall_mem_cons.mpr ⟨(hm0 (Str.ofString "choices") (by decide)).trans (I.vars (Str.ofString "choices", _) (by k_mem)), ?_⟩
    refine List.forall_mem_cons.mpr ⟨(hm0 (Str.ofString "most") (by decide)).trans (I.vars (Str.ofString "most", _) (by k_mem)), ?_⟩
    refine List.forall_mem_cons.mpr ⟨(hm0 (Str.ofString "unit") (by decide)).trans (I.vars (Str.ofString "unit", _) (by k_mem)), ?_⟩
    refine List.forall_mem_cons.mpr ⟨(hm0 (Str.ofString "net") (by decide)).trans (I.vars (Str.ofString "net", _) (by k_mem)), ?_⟩
    refine List.forall_mem_cons.mpr ⟨(hm0 (Str.ofString "harmed") (by decide)).trans (I.vars (Str.ofString "harmed", _) (by k_mem)), ?_⟩
    refine List.forall_mem_cons.mpr ⟨(hm0 (Str.ofString "now") (by decide)).trans (I.vars (Str.ofString "now", _) (by k_mem)), ?_⟩
    refine List.forall_mem_cons.mpr ⟨(hm0 (Str.ofString "due") (by decide)).trans (I.vars (Str.ofString "due", _) (by k_mem)), ?_⟩
    refine List.forall_mem_cons.mpr ⟨(hm0 (Str.ofString "count") (by decide)).trans (I.vars (Str.ofString "count", _) (by k_mem)), ?_⟩
    refine List.forall_mem_cons.mpr ⟨(hm0 (Str.ofString "kinds") (by decide)).trans (I.vars (Str.ofString "kinds", _) (by k_mem)), ?_⟩
    exact List.forall_mem_cons.mpr ⟨ht, List.forall_mem_nil _⟩
  refine m1_spec (rest := mainB 4) (turn := i) B F X T (news_cons' I.o1 f_l1 (news_cons' I.o2 f_dd (news_cons' I.o3 f_ch (news_cons' I.o4 f_kd .nil)))) O.cell O.cint O.len I.draws I.dg I.dx O.hlo e_l1_dd e_l1_ch e_l1_kd e_dd_ch e_dd_kd e_ch_kd hM ?_
  intro h1 tk1 m1 r b od1 g1 x1 cc t1 t2 t3 t4 r5 r0 hb hg1 hx1 hD1 hcc F1 d1 K1 M1
  show wpAny _ _ (execs ((mainB 4).take 1 ++ mainB 5) _) _ _ _
  obtain ⟨f, hm', hr⟩ : ∃ f hm', harmStep (kindOf (cc.fmod 6)) c.mo hm = (f, hm') := ⟨_, _, rfl⟩
  refine m2_spec (rest := mainB 5) B F1 X T I.harm hr M1 fun h2 tk2 m2 t5 t6 F2 K2 M2 => ?_
  have K12 : Kept [c.L, c.dd] s.heap h2 := kept_trans K1 (kept_mono K2 (by repeat (first | exact fn | refine fc (by k_mem) ?_)))
  show wpAny _ _ (execs ((mainB 5).take 1 ++ mainB 6) _) _ _ _
  have hhd : (c.cs.drop i).headD 0 = cc := by rw [hcc, List.headD_eq_head?_getD, List.head?_drop, List.getD_eq_getElem?_getD]
  have hlen : (c.cs.drop i).length ≤ 60 := Nat.le_trans (by rw [List.length_drop]; omega) O.len
  have hws : ws.size = rs.length := by rw [← Array.length_toList]; exact rows_len I.net
  have hds : ds.size = rs.length := by rw [← Array.length_toList]; exact rows_len I.due
  have hfew := I.few
  have hu0 := O.u0
  have hu1 := O.u1
  refine m3_spec (rest := mainB 6) B F2 X T (news_cons' (K12 _ _ (by repeat (first | exact List.not_mem_nil | refine nm (by assumption) ?_ | refine nm (Ne.symm (by assumption)) ?_)) I.o5) f_x (news_cons' (K12 _ _ (by repeat (first | exact List.not_mem_nil | refine nm (by assumption) ?_ | refine nm (Ne.symm (by assumption)) ?_)) I.o7) f_d (news_cons' (K12 _ _ (by repeat (first | exact List.not_mem_nil | refine nm (by assumption) ?_ | refine nm (Ne.symm (by assumption)) ?_)) I.o8) f_NC (news_cons' (K12 _ _ (by repeat (first | exact List.not_mem_nil | refine nm (by assumption) ?_ | refine nm (Ne.symm (by assumption)) ?_)) I.o9) f_NW (news_cons' (K12 _ _ (by repeat (first | exact List.not_mem_nil | refine nm (by assumption) ?_ | refine nm (Ne.symm (by assumption)) ?_)) I.o10) f_NF .nil)))))
    (O.cint.drop i) hlen (by omega) (by rw [I.fates]; omega) hb e_x_d e_x_NC e_x_NF e_d_NC e_d_NF e_NC_NF e_x_NW e_d_NW e_NC_NW e_NW_NF I.harm (by rw [hhd]; exact hr) hu0 (by omega) M2 ?_
  intro h3 tk3 m3 thm3 tct3 nC3 nW3 nF3 fs3 ws3 us ct3 hct3 hws3 hus3 hfs3 K3 F3 x3 d3 NC3 NW3 NF3 M3
  have K13 : Kept [c.L, c.dd, c.x, c.d, c.NC, c.NW, c.NF] s.heap h3 := kept_trans (kept_mono K12 (by repeat (first | exact fn | refine fc (by k_mem) ?_))) (kept_mono K3 (by repeat (first | exact fn | refine fc (by k_mem) ?_)))
  have du3 : h3.get? c.du = _ := K13 _ _ (by repeat (first | exact List.not_mem_nil | refine nm (by assumption) ?_ | refine nm (Ne.symm (by assumption)) ?_)) I.o6
  show wpAny _ _ (execs ((mainB 6).take 4 ++ []) _) _ _ _
  refine m4_spec (rest := []) B F3 X T (news_cons' du3 f_du .nil) (by omega) hb (harm_cases _ _ _ hr) M3 ?_
  intro h4 tk4 m4 tct4 nD4 ds4 vs4 ct4 hct4 hds4 hus4 F4 du4 K4 M4
  have KA : Kept [c.L, c.dd, c.x, c.d, c.NC, c.NW, c.NF, c.du] s.heap h4 := kept_trans (kept_mono K13 (by repeat (first | exact fn | refine fc (by k_mem) ?_))) (kept_mono K4 (by repeat (first | exact fn | refine fc (by k_mem) ?_)))
  have KD : Kept [c.L, c.x, c.d, c.NC, c.NW, c.NF, c.du] h1 h4 := kept_trans (kept_mono K2 (by repeat (first | exact fn | refine fc (by k_mem) ?_))) (kept_trans (kept_mono K3 (by repeat (first | exact fn | refine fc (by k_mem) ?_))) (kept_mono K4 (by repeat (first | exact fn | refine fc (by k_mem) ?_))))
  have KT : Kept (c.L :: c.all) s.heap h4 := kept_mono KA (by repeat (first | exact fn | refine fc (by k_mem) ?_))
  rw [hhd] at hus3
  have hl3 := rows_len hus3
  have hl4 := rows_len hus4
  have hn3 := carry_len (f := f) (q := cc.fdiv 6) (now := now + r) (u := c.u) (ct := ct) (g := (i : Int).fmod 2) (p := Str.ofString "way" ++ Str.ofString (toString ((i : Int).fmod 3))) (d := KBw.bInts b)
  have hnet : RowsAre (RowNet h4) us _ := rows_mono (fun v r => rowNet_keep K4 (fc (fun _ => ns_tup F3.ns) (fc (no_tup du3 fun _ => list_tup) fn))) hus3
  have hold : RowsAre (RowNet h4) ws.toList rs := rows_mono (fun v r => rowNet_keep KT nt) I.net
  have hdue : RowsAre (RowDue h4) ds.toList rs := rows_mono (fun v r => due_keep KT nt) I.due
  refine wpAny_execs_nil ?_
  refine ret h4 tk4 m4 od1 g1 x1 nC3 ws3 nW3 fs3 nF3 ds4 nD4 hm' thm3 t5 (now + r) t1 ct4 tct3 tct4 (rs ++ carryRows f (cc.fdiv 6) (now + r) c.u ct ((i : Int).fmod 2) (Str.ofString "way" ++ Str.ofString (toString ((i : Int).fmod 3))) (KBw.bInts b)) F4 ?_ KT
  have hcnt := I.count
  have hct : ct4 = ct3 := by rw [hct4, hct3, hl3, hl4]
  exact {
    o1 := KA _ _ (by repeat (first | exact List.not_mem_nil | refine nm (by assumption) ?_ | refine nm (Ne.symm (by assumption)) ?_)) I.o1
    o2 := KD _ _ (by repeat (first | exact List.not_mem_nil | refine nm (by assumption) ?_ | refine nm (Ne.symm (by assumption)) ?_)) d1
    o3 := KA _ _ (by repeat (first | exact List.not_mem_nil | refine nm (by assumption) ?_ | refine nm (Ne.symm (by assumption)) ?_)) I.o3
    o4 := KA _ _ (by repeat (first | exact List.not_mem_nil | refine nm (by assumption) ?_ | refine nm (Ne.symm (by assumption)) ?_)) I.o4
    o5 := K4 _ _ (by repeat (first | exact List.not_mem_nil | refine nm (by assumption) ?_ | refine nm (Ne.symm (by assumption)) ?_)) x3
    o6 := du4
    o7 := by rw [hct]; exact K4 _ _ (by repeat (first | exact List.not_mem_nil | refine nm (by assumption) ?_ | refine nm (Ne.symm (by assumption)) ?_)) d3
    o8 := by rw [← List.tail_drop]; exact K4 _ _ (by repeat (first | exact List.not_mem_nil | refine nm (by assumption) ?_ | refine nm (Ne.symm (by assumption)) ?_)) NC3
    o9 := K4 _ _ (by repeat (first | exact List.not_mem_nil | refine nm (by assumption) ?_ | refine nm (Ne.symm (by assumption)) ?_)) NW3
    o10 := K4 _ _ (by repeat (first | exact List.not_mem_nil | refine nm (by assumption) ?_ | refine nm (Ne.symm (by assumption)) ?_)) NF3
    draws := hD1
    dg := hg1
    dx := hx1
    net := by rw [hws3]; exact rows_app hold hnet
    due := by rw [hds4]; exact rows_app hdue hus4
    few := by rw [List.length_append]; omega
    fates := by rw [hfs3, I.fates]
    count := by rw [hct4, List.length_append, hl4, hcnt]; exact (Int.natCast_add _ _).symm
    rows := by rw [hcnt]; exact carry_ok I.rows (by omega) hu0
    now0 := by have := I.now0; omega
    now1 := by have := I.now1; omega
    harm := harm_le hr O.mo0 I.harm
    vars := M4 }
end Mine

end
namespace Mine
theorem flush_loop {prog : Program} {w : World} {A : Around} {Q : Flow → Shared → Prop} {E : Value → Shared → Prop} {s : Shared} {env : Env} (h : wpAny (model prog w) A (execs [] env) Q E s) : wpAny (model prog w) A (execs [] env) Q E s := by
  k_with_none
  w_top off
  first | (walk1; fail) | exact h
end Mine

section
open PyProof.V
namespace Mine
theorem words_loop : True := by
  k_with_none
  k_with "own ne" => (refine neN ?_; (try dsimp only); first | with_reducible assumption | (refine Ne.symm ?_; with_reducible assumption) | k_extra "own and" | (refine Ne.symm ?_; k_extra "own and"))
  k_with "own right" => (iterate 9 (first | done | with_reducible assumption | apply And.right))
  k_with "own and" => first | (apply And.left; k_extra "own right"; done) | (k_extra "own right"; done) | (apply And.left; apply And.left; k_extra "own right"; done) | (apply And.left; apply And.right; apply And.left; k_extra "own right"; done) | (apply And.right; apply And.left; k_extra "own right"; done) | (apply And.right; apply And.right; apply And.left; k_extra "own right"; done)
  k_with "own call ref" => (k_here; (k_dflt show wpAny _ _ (call (Value.ref 88) [Value.ref _, Value.int _ _]) _ _ _); k_dflt (refine' take_use (by k_asm) (by k_asm) (by k_asm) (by k_asm) (by k_asm) (by exact rfl) (by k_updF) (by assumption) (by assumption) (by ktr_room) (by ktr_units) (by assumption) (by assumption) (by decide) (by decide) ?_); intro r'w t'w h'w tk'w o'w g'w x'w hr0'w hr1'w hg'w hx'w hD'w F'w N'w; (try dsimp only at N'w))
  trivial

section
variable {prog : Program} {w : World} {A : Around} {s : Shared} {env : Env}
/-- a loop over a range's iterator; the state between turns is said of the heap -/
theorem range_loop {target : PySem.Expr} {body : List Stmt} {I : Addr} {a st : Int} {n : Nat} {R : Result → Shared → Prop} (hh : A.handled = none) (J : Nat → Heap → Prop) (ht : ∀ v, letOwnedTupleGo target (.ref I) v = pure ())
    (h0 : IsRangeIter s.heap I a n st) (hJ : J 0 s.heap)
    (jstep : ∀ i h h' y z, J i h → IsRangeIter h I y z st → (∀ b o, b ∉ [I] → h.get? b = some o → h'.get? b = some o) → J i h')
    (turn : ∀ i h tk t y z (E' : Value → Shared → Prop), i < n → J i h → IsRangeIter h I y z st → wpAny (model prog w) A (assign target env (.int (a + (i : Int) * st) t)) (fun _ s₂ => wpAny (model prog w) A (execs body env) (fun f s₃ => match f with
      | .next | .cont => ∃ h' tk', s₃ = { s with heap := h', toks := tk' } ∧ J (i + 1) h' ∧ IsRangeIter h' I y z st
      | .brk => R (.ok .next) s₃
      | .ret v => R (.ok (.ret v)) s₃) E' s₂) E' { s with heap := h, toks := tk })
    (done : ∀ h tk, J n h → R (.ok .next) { s with heap := h, toks := tk }) :
    codeAny (model prog w) A (.forLoop target (.ref I) body [] env) R s := by
  have W := Walks.range (prog := prog) (w := w) (A := A) hh I a st n
  refine codeAny_forLoop (fun k s' => ∃ h tk i, s' = ({ s with heap := h, toks := tk } : Shared) ∧ i ≤ n ∧ k = n + 1 - i ∧ IsRangeIter h I (a + (i : Nat) * st) ((n : Int) - (i : Nat)) st ∧ J i h) ?_ (n + 1)
    ⟨s.heap, s.toks, 0, rfl, Nat.zero_le _, rfl, by simpa using h0, hJ⟩ ht
  rintro k s' ⟨h, tk, i, rfl, hi, rfl, hit, hj⟩
  by_cases hlt : i < n
  · refine W.item i _ _ _ hlt hit fun v h' tk' hv hit' hk => ?_
    obtain ⟨t, rfl⟩ := hv
    refine wpAny_mono (turn i h' tk' t _ _ _ hlt (jstep i h h' _ _ hj hit hk) hit') (fun _ s₂ h₂ => wpAny_mono h₂ (fun f s₃ h₃ => ?_) fun _ _ e => e) fun _ _ e => e
    cases f with
    | next => obtain ⟨h'', tk'', rfl, j', it'⟩ := h₃; exact ⟨n + 1 - (i + 1), by omega, h'', tk'', i + 1, rfl, hlt, rfl, it', j'⟩
    | cont => obtain ⟨h'', tk'', rfl, j', it'⟩ := h₃; exact ⟨n + 1 - (i + 1), by omega, h'', tk'', i + 1, rfl, hlt, rfl, it', j'⟩
    | brk => exact h₃
    | ret v => exact h₃
  · obtain rfl : i = n := by omega
    refine W.done _ _ _ hit fun h' tk' hk => wpAny_execs_nil ?_
    exact done h' tk' (jstep i h h' _ _ hj hit hk)
end

/-- the tail of an `Inv` is kept by what leaves its things alone -/
theorem Inv.keep {w : World} {h₀ : Heap} {c : LC} {i : Nat} {h h' : Heap} {m : Str → Option Value} {od : Obj} {g0 x0 : Int} {nC : Nat} {ws : Array Value} {nW : Nat} {fs : Array Value} {nF : Nat} {ds : Array Value} {nD : Nat} {hm : Int} {thm thm2 : Tok} {now : Int} {tn : Tok} {ct : Int} {tct tct2 : Tok} {rs : List Row} {ts : List Addr}
    (I : Inv w h₀ c i h m od g0 x0 nC ws nW fs nF ds nD hm thm thm2 now tn ct tct tct2 rs) (K : Kept ts h h') (hts : ∀ b ∈ ts, b ∉ c.all ∧ ∀ its, h.get? b ≠ some (tupObj its)) :
    Inv w h₀ c i h' m od g0 x0 nC ws nW fs nF ds nD hm thm thm2 now tn ct tct tct2 rs :=
  have k : ∀ b ∈ c.all, b ∉ ts := fun b hb hn => (hts b hn).1 hb
  { I with
    o1 := K _ _ (k _ (by k_mem)) I.o1
    o2 := K _ _ (k _ (by k_mem)) I.o2
    o3 := K _ _ (k _ (by k_mem)) I.o3
    o4 := K _ _ (k _ (by k_mem)) I.o4
    o5 := K _ _ (k _ (by k_mem)) I.o5
    o6 := K _ _ (k _ (by k_mem)) I.o6
    o7 := K _ _ (k _ (by k_mem)) I.o7
    o8 := K _ _ (k _ (by k_mem)) I.o8
    o9 := K _ _ (k _ (by k_mem)) I.o9
    o10 := K _ _ (k _ (by k_mem)) I.o10
    net := rows_mono (fun v r => rowNet_keep K fun b hb => (hts b hb).2) I.net
    due := rows_mono (fun v r => due_keep K fun b hb => (hts b hb).2) I.due }

theorem iter_ne {h : Heap} {I : Addr} {y z st : Int} (hit : IsRangeIter h I y z st) {b : Addr} {o : Obj} (e : h.get? b = some o) (ho : o.cls ≠ .type "range_iterator") : b ≠ I := fun q => by
  have hi : h.get? I = some _ := hit
  rw [q, hi] at e
  rw [← Option.some.inj e] at ho
  exact ho rfl

theorem Inv.off {w : World} {h₀ : Heap} {c : LC} {i : Nat} {h : Heap} {m : Str → Option Value} {od : Obj} {g0 x0 : Int} {nC : Nat} {ws : Array Value} {nW : Nat} {fs : Array Value} {nF : Nat} {ds : Array Value} {nD : Nat} {hm : Int} {thm thm2 : Tok} {now : Int} {tn : Tok} {ct : Int} {tct tct2 : Tok} {rs : List Row}
    (I : Inv w h₀ c i h m od g0 x0 nC ws nW fs nF ds nD hm thm thm2 now tn ct tct tct2 rs) (hc : c.oc.data = .cell (some (.ref c.dd))) {J : Addr} {y z st : Int} (hit : IsRangeIter h J y z st) : J ∉ c.all := by
  have hi : h.get? J = some _ := hit
  intro hb
  simp only [LC.all, List.mem_cons, List.not_mem_nil, or_false] at hb
  rcases hb with e | e | e | e | e | e | e | e | e | e
  · rw [e, I.o1] at hi; rw [Option.some.inj hi] at hc; cases hc
  · rw [e, I.o2] at hi; have e' := Option.some.inj hi; obtain ⟨kvs, ⟨es, ep, _, hd, _⟩, _⟩ := I.draws; rw [e'] at hd; cases hd
  · rw [e, I.o3] at hi; exact absurd (congrArg Obj.cls (Option.some.inj hi)) (by show Value.type "list" ≠ Value.type "range_iterator"; decide)
  · rw [e, I.o4] at hi; exact absurd (congrArg Obj.cls (Option.some.inj hi)) (by show Value.type "list" ≠ Value.type "range_iterator"; decide)
  · rw [e, I.o5] at hi; cases (congrArg Obj.cls (Option.some.inj hi))
  · rw [e, I.o6] at hi; exact absurd (congrArg Obj.cls (Option.some.inj hi)) (by show Value.type "list" ≠ Value.type "range_iterator"; decide)
  · rw [e, I.o7] at hi; exact absurd (congrArg Obj.cls (Option.some.inj hi)) (by show Value.type "dict" ≠ Value.type "range_iterator"; decide)
  · rw [e, I.o8] at hi; exact absurd (congrArg Obj.cls (Option.some.inj hi)) (by show Value.type "list" ≠ Value.type "range_iterator"; decide)
  · rw [e, I.o9] at hi; exact absurd (congrArg Obj.cls (Option.some.inj hi)) (by show Value.type "list" ≠ Value.type "range_iterator"; decide)
  · rw [e, I.o10] at hi; exact absurd (congrArg Obj.cls (Option.some.inj hi)) (by show Value.type "list" ≠ Value.type "range_iterator"; decide)

/-- the main loop's state, all but the frame closed -/
inductive InvE (w : World) (h₀ : Heap) (c : LC) (i : Nat) (h : Heap) : Prop where
  | mk (m : Str → Option Value) (od : Obj) (g0 x0 : Int) (nC : Nat) (ws : Array Value) (nW : Nat) (fs : Array Value) (nF : Nat) (ds : Array Value) (nD : Nat) (hm : Int) (thm thm2 : Tok) (now : Int) (tn : Tok) (ct : Int) (tct tct2 : Tok) (rs : List Row)
    (F : Fr h₀ c.L h m) (I : Inv w h₀ c i h m od g0 x0 nC ws nW fs nF ds nD hm thm thm2 now tn ct tct tct2 rs)

theorem iter_tup {h : Heap} {I : Addr} {y z st : Int} (hit : IsRangeIter h I y z st) (its : Array Value) : h.get? I ≠ some (tupObj its) := by
  have hi : h.get? I = some _ := hit
  rw [hi]
  exact fun e => absurd (congrArg Obj.cls (Option.some.inj e)) (by show Value.type "range_iterator" ≠ Value.type "tuple"; decide)

local macro_rules | `(tactic| k_all) => `(tactic| (refine OwnOff.ne ‹OwnOff _ _› ?_; k_mem))

theorem iter_spec {w : World} {loose : List Str} {mean : ExcName → Option Value} {mg mb : Str → Option Value} {a : Addr} {cd : Value} {h₀ : Heap} {L : Addr} {m : Str → Option Value} {s : Shared} {Q : Value → Shared → Prop} {E : Value → Shared → Prop}
    {oc od : Obj} {dd : Addr} {g0 x0 : Int}
    (B : Below callerA h₀ [] h₀) (F : Fr h₀ L s.heap m) (X : (hd.heap_39 w.params).In h₀) (T : Top hd.view_39 loose mean mg mb h₀)
    (N : News h₀ L s.heap [(L + 1, oc), (dd, od)]) (hoc : oc.data = .cell (some (.ref dd))) (hD : IsDraws w od g0 x0) (hg : 0 ≤ g0) (hx : 0 ≤ x0) (hlo : (dd == sysModules) = false) (e1 : @Ne Nat (L + 1) dd)
    (ret : ∀ R h' tk' od' g' x' b t u v, b < 10 → 0 ≤ b → IsRange h' R 0 (1 + b) 1 t u v → IsDraws w od' g' x' → 0 ≤ g' → 0 ≤ x' → Fr h₀ L h' m → h'.get? dd = some od' → Kept [L, dd] s.heap h' → Q (.ref R) { s with heap := h', toks := tk' }) :
    wpAny (model pr w) (callerA.deeper (lawEnv L a cd)) (eval mainFor.1.2.1 (lawEnv L a cd)) Q E s := by
  obtain ⟨tl, N', off, K⟩ := with_rest F N
  simp only [List.cons_append, List.nil_append, List.map_cons, List.map_nil] at N' off K
  have f1 := N.get (.head _)
  clear N
  delta pr at *; revert X; k_fill; intro X
  dsimp only [lawEnv, lawItem, mainFor]
  show wpAny _ _ (eval _ _) _ _ _
  k_steps
  rename News h₀ L _ ((_, _) :: (dd, _) :: tl) => NN
  refine ret _ _ _ _ _ _ _ _ _ _ (by assumption) (by assumption) (by assumption) (by assumption) (by assumption) (by assumption) (by assumption) (News.get NN (by k_mem)) (kept_but (K _ m (by assumption) fun p hp => NN p (by repeat (first | exact hp | refine List.Mem.tail _ ?_ | refine List.mem_append_right _ ?_))) (fc (.inl (by k_mem)) (fc (.inr ⟨_, f1, News.get NN (by k_mem)⟩) (fc (.inl (by k_mem)) fn))))

theorem Inv.redraw {w : World} {h₀ : Heap} {c : LC} {i : Nat} {h h' : Heap} {m : Str → Option Value} {od od' : Obj} {g0 x0 g0' x0' : Int} {nC : Nat} {ws : Array Value} {nW : Nat} {fs : Array Value} {nF : Nat} {ds : Array Value} {nD : Nat} {hm : Int} {thm thm2 : Tok} {now : Int} {tn : Tok} {ct : Int} {tct tct2 : Tok} {rs : List Row}
    (I : Inv w h₀ c i h m od g0 x0 nC ws nW fs nF ds nD hm thm thm2 now tn ct tct tct2 rs) (O : c.Ok h₀) {m' : Str → Option Value} (F : Fr h₀ c.L h m') (K : Kept [c.L, c.dd] h h') (e : h'.get? c.dd = some od') (hD : IsDraws w od' g0' x0') (hg : 0 ≤ g0') (hx : 0 ≤ x0') :
    Inv w h₀ c i h' m od' g0' x0' nC ws nW fs nF ds nD hm thm thm2 now tn ct tct tct2 rs := by
  have nd := O.nodup
  have k1 : c.L + 1 ∉ [c.L, c.dd] := by
    have a := (O.fresh (c.L + 1) (by k_mem)).1
    have b := (List.pairwise_cons.mp nd).1 _ (.head _)
    simp only [List.mem_cons, List.not_mem_nil, or_false, not_or]; exact ⟨a, b⟩
  have nd2 := (List.pairwise_cons.mp (List.pairwise_cons.mp nd).2).1
  have k : ∀ b ∈ [c.ch, c.kd, c.x, c.du, c.d, c.NC, c.NW, c.NF], b ∉ [c.L, c.dd] := fun b hb => by
    have a := (O.fresh b (.tail _ (.tail _ hb))).1
    have q := nd2 b hb
    simp only [List.mem_cons, List.not_mem_nil, or_false, not_or]; exact ⟨a, fun z => q z.symm⟩
  have hts : ∀ b ∈ [c.L, c.dd], ∀ its, h.get? b ≠ some (tupObj its) := fun b hb => I.nt F O.cell b (by
    simp only [List.mem_cons, List.not_mem_nil, or_false] at hb
    rcases hb with rfl | rfl
    · k_mem
    · k_mem)
  exact { I with
    o1 := K _ _ k1 I.o1
    o2 := e
    o3 := K _ _ (k _ (by k_mem)) I.o3
    o4 := K _ _ (k _ (by k_mem)) I.o4
    o5 := K _ _ (k _ (by k_mem)) I.o5
    o6 := K _ _ (k _ (by k_mem)) I.o6
    o7 := K _ _ (k _ (by k_mem)) I.o7
    o8 := K _ _ (k _ (by k_mem)) I.o8
    o9 := K _ _ (k _ (by k_mem)) I.o9
    o10 := K _ _ (k _ (by k_mem)) I.o10
    draws := hD
    dg := hg
    dx := hx
    net := rows_mono (fun v r => rowNet_keep K hts) I.net
    due := rows_mono (fun v r => due_keep K hts) I.due }

theorem loop_spec {w : World} {loose : List Str} {mean : ExcName → Option Value} {mg mb : Str → Option Value} {a : Addr} {cd : Value} {h₀ : Heap} {c : LC} {m : Str → Option Value} {s : Shared} {Q : Flow → Shared → Prop} {E : Value → Shared → Prop}
    {od : Obj} {g0 x0 : Int} {nC : Nat} {ws : Array Value} {nW : Nat} {fs : Array Value} {nF : Nat} {ds : Array Value} {nD : Nat} {hm : Int} {thm thm2 : Tok} {now : Int} {tn : Tok} {ct : Int} {tct tct2 : Tok} {rs : List Row}
    (B : Below callerA h₀ [] h₀) (X : (hd.heap_39 w.params).In h₀) (T : Top hd.view_39 loose mean mg mb h₀) (O : c.Ok h₀)
    (I : Inv w h₀ c 0 s.heap m od g0 x0 nC ws nW fs nF ds nD hm thm thm2 now tn ct tct tct2 rs) (F : Fr h₀ c.L s.heap m)
    {z : Addr} {oz : Obj} {vz : Option Value} (hz : z ∉ c.L :: c.all) (hz1 : s.heap.get? z = some oz) (hz2 : oz.data = .cell vz)
    (ret : ∀ n h' tk', n ≤ 10 → InvE w h₀ c n h' → h'.get? z = some oz → wpAny (model pr w) (callerA.deeper (lawEnv c.L a cd)) (execs (lawB 6) (lawEnv c.L a cd)) Q E { s with heap := h', toks := tk' }) :
    wpAny (model pr w) (callerA.deeper (lawEnv c.L a cd)) (execs (lawB 5) (lawEnv c.L a cd)) Q E s := by
  have g1 := O.fresh (c.L + 1) (by k_mem)
  have g2 := O.fresh c.dd (by k_mem)
  have e12 : @Ne Nat (c.L + 1) c.dd := (List.pairwise_cons.mp O.nodup).1 _ (.head _)
  have hzI : ∀ {h : Heap} {I : Addr} {y q st : Int}, IsRangeIter h I y q st → h.get? z = some oz → z ∉ [I] := fun hit e hb => by
    have hi : Heap.get? _ _ = some _ := hit
    rw [← List.mem_singleton.mp hb, e] at hi
    rw [Option.some.inj hi] at hz2
    cases hz2
  rw [mainFor.2]
  refine wpAny_execs_cons (wpAny_For (iter_spec B F X T (news_cons' I.o1 g1 (news_cons' I.o2 g2 .nil)) O.cell I.draws I.dg I.dx O.hlo e12 ?_) ?_)
  · intro R h1 tk1 od1 g1' x1 b t u v b1 b0 hR hD1 dg1 dx1 F1 d1 K1
    have I1 := I.redraw O F K1 d1 hD1 dg1 dx1
    refine wpAny_pyIter_range hR (small_one (by omega) (by omega) (by omega) (by omega)) ?_
    have hLI : c.L ≠ h1.objs.size := Nat.ne_of_lt F1.ns.lt
    have hI0 : h₀.get? h1.objs.size = none := next_is_new F1
    have hnL : c.L ∉ c.all := fun q => (O.fresh _ q).1 rfl
    have hsz : Builtin.Range.rangeSize 0 (1 + b) 1 = (((1 + b - 0).toNat : Nat) : Int) := rangeSize_nat _ _
    have up : ∀ (o : Obj) b' o', h1.get? b' = some o' → (h1.push o).get? b' = some o' := fun o b' o' e => Heap.get?_push_of_some _ e
    rw [hsz]
    refine range_loop (st := 1) (a := 0) (n := (1 + b - 0).toNat) (by rfl) (fun i h => InvE w h₀ c i h ∧ h.get? z = some oz) (by intro _; rfl) (Heap.get?_push_size _ rfl) ⟨⟨_, _, _, _, _, _, _, _, _, _, _, _, _, _, _, _, _, _, _, _, F1.keeps (up _), I1.keep (ts := []) (fun b' o' _ e => up _ b' o' e) (by simp)⟩, up _ _ _ (K1 _ _ (fun q => hz (by
      rcases List.mem_cons.mp q with q | q
      · rw [q]; exact .head _
      · rw [List.mem_singleton.mp q]; exact .tail _ (.tail _ (.head _)))) hz1)⟩ ?_ ?_ ?_
    · rintro i h h' y z' ⟨⟨m, od, g0, x0, nC, ws, nW, fs, nF, ds, nD, hm, thm, thm2, now, tn, ct, tct, tct2, rs, F, I⟩, hzh⟩ hit hk
      refine ⟨⟨m, od, g0, x0, nC, ws, nW, fs, nF, ds, nD, hm, thm, thm2, now, tn, ct, tct, tct2, rs, LCg.fr_but F hk hLI hI0, I.keep (ts := [h1.objs.size]) (fun b o hb e => hk b o hb e) fun b hb => ?_⟩, hk _ _ (hzI hit hzh) hzh⟩
      rw [List.mem_singleton.mp hb]
      exact ⟨I.off O.cell hit, iter_tup hit⟩
    · rintro i h tk t y z' E' hi ⟨⟨m, od, g0, x0, nC, ws, nW, fs, nF, ds, nD, hm, thm, thm2, now, tn, ct, tct, tct2, rs, F, I⟩, hzh⟩ hit
      rw [show (0 : Int) + (i : Int) * 1 = i by omega]
      show wpAny _ _ (assign (.Name (Str.ofString "turn") _) _ _) _ _ _
      refine wpAny_assign_Name (wpAny_storeName_local (m := m) (by with_unfolding_all rfl) F.ns (fun h' hn hs => ?_) (by with_unfolding_all rfl))
      refine turn_spec (s := { s with heap := h', toks := tk + 1 }) (tt := t) (m0 := m) B X T O (by omega) (I.keep (ts := [c.L]) (fun b o hb e => hs.extBut b o (fun q => hb (List.mem_singleton.mpr q)) e) fun b hb => ?_) (F.set hn hs) (fun y hy => if_neg hy) (if_pos rfl) ?_
      · rw [List.mem_singleton.mp hb]
        exact ⟨hnL, fun its => ns_tup F.ns⟩
      · intro h4 tk4 m4 od4 g4 x4 nC4 ws4 nW4 fs4 nF4 ds4 nD4 hm4 thm4 thm24 now4 tn4 ct4 tct4 tct24 rs4 F4 I4 K4
        refine ⟨h4, tk4, rfl, ⟨⟨m4, od4, g4, x4, nC4, ws4, nW4, fs4, nF4, ds4, nD4, hm4, thm4, thm24, now4, tn4, ct4, tct4, tct24, rs4, F4, I4⟩, K4 _ _ hz (hs.extBut _ _ (fun q => hz (by rw [q]; exact .head _)) hzh)⟩, K4 _ _ (fun q => ?_) (hs.extBut _ _ (Ne.symm hLI) hit)⟩
        rcases List.mem_cons.mp q with q | q
        · exact hLI q.symm
        · exact I.off O.cell hit q
    · intro h tk hj
      exact ret _ h tk (by omega) hj.1 hj.2
  · intro _; rfl
end Mine

end
namespace Mine
theorem flush_eq {prog : Program} {w : World} {A : Around} {Q : Flow → Shared → Prop} {E : Value → Shared → Prop} {s : Shared} {env : Env} (h : wpAny (model prog w) A (execs [] env) Q E s) : wpAny (model prog w) A (execs [] env) Q E s := by
  k_with_none
  w_top off
  first | (walk1; fail) | exact h
end Mine

section
open PyProof.V PySem.SeqAt
namespace Mine
theorem eqAt_bytes {A : Around} {s : Shared} (a : Array UInt8) (t : Tok) (b : Array UInt8) (u : Tok) : SeqAt.EqAt A s (.bytes a t) (.bytes b u) (a.toList == b.toList) := fun prog w E Q h => by
  unfold eqBool
  refine wpAny_holding ?_
  refine wpAny_ite_split (fun hab => ?_) (fun _ => ?_)
  · have e : Value.bytes a t = Value.bytes b u := eq_of_beq hab
    cases e
    exact wpAny_bind (wpAny_rule (wpAny_pure (by simpa using h)))
  · exact wpAny_bind (eq_bytes (wpAny_truthy_bool h))

theorem bInts_inj {a b : Array UInt8} (h : KBw.bInts a = KBw.bInts b) : a.toList = b.toList := by
  have e : a.toList.map (fun c => (c.toNat : Int)) = b.toList.map (fun c => (c.toNat : Int)) := h
  refine List.map_inj_right (fun x y q => ?_) |>.mp e
  exact UInt8.toNat_inj.mp (Int.ofNat.inj q)

theorem told_eqAt {A : Around} {s : Shared} {v v' : Value} {r : Row} (h : ToldNet s.heap v r) (h' : ToldNet s.heap v' r) (hu : A.units + 8 < cLine) : SeqAt.EqAt A s v v' true := by
  obtain ⟨x, arr, t1, t2, t3, rfl, g, d⟩ := h
  obtain ⟨y, arr', u1, u2, u3, rfl, g', d'⟩ := h'
  by_cases hne : x = y
  · rw [hne]; exact EqAt.same _
  · refine EqAt.of_refs hne ?_
    have tx : s.heap.IsTuple x #[.int r.g t1, .str r.p t2, .bytes arr t3] := ⟨_, g, rfl, _, rfl⟩
    have ty : s.heap.IsTuple y #[.int r.g u1, .str r.p u2, .bytes arr' u3] := ⟨_, g', rfl, _, rfl⟩
    refine RcAt.tuples (e := fun _ => true) tx ty (by omega) fun j j1 j2 => ?_
    have hb : (arr.toList == arr'.toList) = true := by rw [bInts_inj (d.trans d'.symm)]; exact beq_self_eq_true _
    match j, j1, j2 with
    | 0, _, _ =>
      have := EqAt.int_int (A := A.in1) (s := s) r.g t1 r.g u1
      rw [show (r.g == r.g) = true from beq_self_eq_true _] at this
      exact this
    | 1, _, _ =>
      have := EqAt.str_str (A := A.in1) (s := s) r.p t2 r.p u2
      rw [show (r.p == r.p) = true from beq_self_eq_true _] at this
      exact this
    | 2, _, _ =>
      have := eqAt_bytes (A := A.in1) (s := s) arr t3 arr' u3
      rw [hb] at this
      exact this

theorem rows_two {P P' : Value → Row → Prop} : ∀ {us vs : List Value} {qs : List Row} {j : Nat} {v v' : Value}, RowsAre P us qs → RowsAre P' vs qs → us[j]? = some v → vs[j]? = some v' → ∃ r, P v r ∧ P' v' r := by
  intro us vs qs j v v' h h' e e'
  obtain ⟨r, q, p⟩ := rows_get h e
  obtain ⟨r', q', p'⟩ := rows_get h' e'
  rw [q] at q'
  cases q'
  exact ⟨r, p, p'⟩

theorem ne_told {prog : Program} {w : World} {A : Around} {E : Value → Shared → Prop} {s : Shared} {Q : Value → Shared → Prop} {a b : Addr} {us vs : List Value} {qs : List Row} (ha : s.heap.IsList a us.toArray) (hb : s.heap.IsList b vs.toArray)
    (h1 : RowsAre (ToldNet s.heap) us qs) (h2 : RowsAre (ToldNet s.heap) vs qs) (hu : A.units + 16 < cLine) (h : Q (.bool false) s) : wpAny (model prog w) A (compareOp .NotEq (.ref a) (.ref b)) Q E s := by
  have l1 := rows_len h1
  have l2 := rows_len h2
  have := RcNeAt.lists (A := A) (s := s) (e := fun _ => true) ha hb (by simp [l1, l2]) (by omega) fun j j1 j2 => by
    have q1 : us[j]? = some (us.toArray[j]) := by simp at j1; simp [j1]
    have q2 : vs[j]? = some (vs.toArray[j]) := by simp at j2; simp [j2]
    obtain ⟨r, p, p'⟩ := rows_two h1 h2 q1 q2
    exact told_eqAt p p' (by show A.units + 1 + 8 < cLine; omega)
  refine this prog w E Q ?_
  rw [show (List.range us.toArray.size).all (fun _ => true) = true from by simp]
  exact h
end Mine

end
namespace Mine
theorem flush_sl {prog : Program} {w : World} {A : Around} {Q : Flow → Shared → Prop} {E : Value → Shared → Prop} {s : Shared} {env : Env} (h : wpAny (model prog w) A (execs [] env) Q E s) : wpAny (model prog w) A (execs [] env) Q E s := by
  k_with_none
  w_top off
  first | (walk1; fail) | exact h
end Mine

section
open PyProof.V
namespace Mine
section
variable {prog : Program} {w : World} {A : Around} {E : Value → Shared → Prop} {s : Shared}

theorem applied_two {sl : Addr} {u : Tok} {Q : Int × Int × Nat → Shared → Prop} (hs : s.heap.IsSliceOf sl .none (.int 2 u) .none) (h : Q (0, 1, 2) s) :
    wpAny (model prog w) A (Builtin.Slice.sliceApplied (.ref sl) (pure (3 : Int))) Q E s := by
  obtain ⟨os, hos, hcs, hds⟩ := id hs
  unfold Builtin.Slice.sliceApplied Builtin.Slice.sliceFields
  refine wpAny_bind (wpAny_bind (wpAny_field hos hds (x := .none) rfl (wpAny_bind (wpAny_field hos hds (x := .int 2 u) rfl (wpAny_bind (wpAny_field hos hds (x := .none) rfl (wpAny_pure ?_)))))))
  refine wpAny_bind (slicePart_none ?_)
  show wpAny _ _ (if ((1 : Int) == 0) = true then _ else _) _ _ s
  rw [if_neg (by decide)]
  refine wpAny_bind (slicePart_none (wpAny_bind (slicePart_int (wpAny_bind (wpAny_pure ?_)))))
  exact wpAny_pure h

theorem item_two {t sl : Addr} {x y z : Value} {u : Tok} {Q : Value → Shared → Prop} (ht : IsTup s.heap t #[x, y, z]) (hs : s.heap.IsSliceOf sl .none (.int 2 u) .none)
    (h : Q (.ref s.heap.objs.size) { s with heap := s.heap.push { cls := .type "tuple", data := .seq #[x, y] } }) : wpAny (model prog w) A (getItem (.ref t) (.ref sl)) Q E s := by
  have hok : sizeOk (.seq #[x, y]) := by show 2 ≤ sizeLine; rw [sizeLine_eq]; decide
  obtain ⟨os, hos, hcs, hds⟩ := id hs
  have hTs : s.TypeIs (.ref sl) "slice" := ⟨os, hos, hcs⟩
  unfold getItem
  try with_reducible refine wpAny_holding ?_
  first | refine wpAny_bind (wpAny_pure ?_) | skip
  refine wpAny_bind (wpAny_sequenceKey ht.typeIs (by decide) ?_)
  refine wpAny_bind (wpAny_callSpecial?_slot (name := Str.ofString "__getitem__") ht.typeIs slot_tuple_getitem
    (wpAny_call_entry slot_tuple_getitem ht.typeIs entry_tuple_getitem ?_ (args_tuple_getitem _ _)))
  show wpAny _ _ (Builtin.Tuple.tupleItemsOf (.ref t) >>= _) _ _ s
  refine wpAny_bind (tupleItemsOf_ ht ?_)
  refine wpAny_bind (wpAny_typeOf hTs ?_)
  rw [if_pos (by decide)]
  refine wpAny_bind (applied_two hs ?_)
  show wpAny _ _ (if ((0 : Int) == 0 && (1 : Int) == 1 && (2 : Nat) == 3) = true then _ else _) _ _ s
  rw [if_neg (by decide)]
  first
    | exact wpAny_bind (m := Builtin.Tuple.tupleExact _) (wpAny_newObj_type (wpAny_pure ⟨_, rfl, wpAny_pure h⟩) hok)
    | exact wpAny_bind (m := Builtin.Tuple.tupleExact _) (wpAny_newObj_type (wpAny_bind (wpAny_pure (wpAny_pure ⟨_, rfl, wpAny_pure h⟩))) hok)
    | exact wpAny_bind (wpAny_bind (m := Builtin.Tuple.tupleExact _) (wpAny_newObj_type (wpAny_pure (wpAny_pure ⟨_, rfl, wpAny_pure h⟩)) hok))
    | exact wpAny_bind (wpAny_bind (m := Builtin.Tuple.tupleExact _) (wpAny_newObj_type (wpAny_pure ⟨_, rfl, wpAny_pure h⟩) hok))

theorem slice_two {h₀ : Heap} {L : Addr} {m : Str → Option Value} {news : List (Addr × Obj)} {value slice : PySem.Expr} {t : Addr} {x y z : Value} {u : Tok} {Q : Value → Shared → Prop}
    (F : Fr h₀ L s.heap m) (N : News h₀ L s.heap news) (ht : IsTup s.heap t #[x, y, z])
    (h : ∀ T h', Fr h₀ L h' m → News h₀ L h' ((T, { cls := .type "tuple", data := .seq #[x, y] }) :: news) → (∀ p ∈ news, p.1 < T) → Q (.ref T) { s with heap := h' })
    (hs : subscripted slice false (.ref t) (.ref s.heap.objs.size) = operate [.ref s.heap.objs.size, .ref t] (getItem (.ref t) (.ref s.heap.objs.size)))
    (hg : ∀ r, letTemporaryGo value (.ref t) r = pure ()) :
    wpAny (model prog w) A (subscriptTail value slice (.ref t) (.ref s.heap.objs.size)) Q E { s with heap := s.heap.push { cls := .type "slice", data := .fields #[.none, .int 2 u, .none] } } := by
  have ht' : IsTup (s.heap.push { cls := .type "slice", data := .fields #[.none, .int 2 u, .none] }) t #[x, y, z] := ht.keeps fun _ _ e => Heap.get?_push_of_some _ e
  refine subscriptTail_ops (s := { s with heap := s.heap.push { cls := .type "slice", data := .fields #[.none, .int 2 u, .none] } }) ht'.typeIs slot_tuple_getitem.lookup
    (item_two ht' (Heap.IsSliceOf.new ..) ?_) hs hg
  have N1 := News.push (F.push { cls := .type "slice", data := .fields #[.none, .int 2 u, .none] }) (N.grown fun _ _ e => Heap.get?_push_of_some _ e) { cls := .type "tuple", data := .seq #[x, y] }
  rw [Heap.size_push] at N1
  show Q (.ref (s.heap.push _).objs.size) _
  rw [Heap.size_push]
  exact h _ _ ((F.push _).push _) N1 fun p hp => Nat.lt_succ_of_lt (Heap.lt_size (N p hp).1)
end
end Mine

end
namespace Mine
theorem flush_p1 {prog : Program} {w : World} {A : Around} {Q : Flow → Shared → Prop} {E : Value → Shared → Prop} {s : Shared} {env : Env} (h : wpAny (model prog w) A (execs [] env) Q E s) : wpAny (model prog w) A (execs [] env) Q E s := by
  k_with_none
  w_top off
  first | (walk1; fail) | exact h
end Mine

section
open PyProof.V
namespace Mine
theorem words_p1 : True := by
  k_with_none
  k_with "own ne" => (refine neN ?_; (try dsimp only); first | with_reducible assumption | (refine Ne.symm ?_; with_reducible assumption) | k_extra "own and" | (refine Ne.symm ?_; k_extra "own and"))
  k_with "own right" => (iterate 9 (first | done | with_reducible assumption | apply And.right))
  k_with "own and" => first | (apply And.left; k_extra "own right"; done) | (k_extra "own right"; done) | (apply And.left; apply And.left; k_extra "own right"; done) | (apply And.left; apply And.right; apply And.left; k_extra "own right"; done) | (apply And.right; apply And.left; k_extra "own right"; done) | (apply And.right; apply And.right; apply And.left; k_extra "own right"; done)
  k_with "own eval ListComp" => (k_here; (with_reducible show wpAny _ _ (eval (PySem.Expr.ListComp _ [⟨PySem.Expr.Name _ _, _, [], _⟩] _ _) _) _ _ _); k_dflt (refine ListComp_U2 (F₀ := by k_asm) (by with_unfolding_all rfl) (by decide) (by rfl) (by decide) (by rfl) ?_))
  k_with "own subscriptTail Name Slice ref ref" => (k_here; (with_reducible show wpAny _ _ (subscriptTail _ (PySem.Expr.Slice none _ none _) (Value.ref _) (Value.ref _)) _ _ _); k_dflt (refine' slice_two (by k_asm) (by k_asm) (by assumption) ?_ (by with_unfolding_all rfl) (by intro _; with_unfolding_all rfl)); intro T'w h'w F'w N'w l1w; (try k_lt l1w))
  k_with "own call ref" => (k_here; (k_dflt show wpAny _ _ (call (Value.ref 69) [Value.ref _]) _ _ _); k_dflt (refine' ntime_use (by k_asm) (by k_asm) (by k_asm) (by k_asm) (by exact rfl) (by ktr_room) (by ktr_units) (by k_asm) (by k_mem) (by k_mem) (by k_mem) (by (refine ‹∀ h'w m', Fr _ _ h'w m' → News _ _ h'w _ → RowsAre (RowNet h'w) _ _› _ _ (by k_asm) (news_sub (by k_asm) ?_); (intro pw hpw; simp only [List.mem_cons, List.mem_append, hpw, or_true]))) (by omega) (by assumption) (by assumption) (by assumption) ?r0 ?r1); (case' r0 => intro e0'w h'w tk'w F'w N'w); (case' r1 => intro M'w t'w h'w tk'w hM1'w hM2'w F'w N'w))
  k_with "own compareOp NotEq ref ref" => (k_here; (with_reducible show wpAny _ _ (compareOp CmpOp.NotEq (Value.ref _) (Value.ref _)) _ _ _); k_dflt (refine' ne_nil_yes (News.isList (by k_asm) (by k_mem)) (News.isList (by k_asm) (by k_mem)) (by ktr_units) ?_))
  trivial

/-- the law's `row[:2]` -/
def PairIn (tl : List (Addr × Obj)) (v : Value) (r : Row) : Prop :=
  ∃ a ti t1 t2, v = .ref a ∧ (a, tupObj #[.int ti t1, .int r.o t2]) ∈ tl ∧ ti = r.t
def PairJ (rs : List Row) (nws : List (Addr × Obj)) (i : Nat) (ys : List Value) (news : List (Addr × Obj)) : Prop := ∃ tl, news = tl ++ nws ∧ RowsAre (PairIn tl) ys (rs.take i)

theorem ntime_use {w : World} {loose : List Str} {mean : ExcName → Option Value} {mg mb : Str → Option Value}
    {dp un : Nat} {gd : Option (List Code)} {cn : Str} {cs : Scope} {a : Addr} {ccd : Value} {cl : List (Str × Addr)} {outer : List Env} {A₀ : Around} {base h₀ : Heap} {L : Addr} {m : Str → Option Value} {s : Shared} {news : List (Addr × Obj)}
    {Q E : Value → Shared → Prop} {x d NC NW NF : Addr} {k : NK} {u : Int} {tu : Tok} {mv : Value} {hm : Int} {thm : Tok} {ct : Int} {tct : Tok} {vs : List Value} {rs : List Row} {nW : Nat}
    (B : Below A₀ base outer h₀) (F : Fr h₀ L s.heap m) (X : (hd.heap_39 w.params).In h₀)
    (T : Top hd.view_39 loose mean mg mb h₀) (hk : cs.kind = .function) (hdp : dp + 3 < recursionLimit) (hun : un + 20 < cLine)
    (N : News h₀ L s.heap news) (mx : (x, instObj 77 d) ∈ news) (md : (d, netDict k NC u tu mv hm thm ct tct NW NF) ∈ news) (mw : (NW, W.listOf (List.toArray vs) nW) ∈ news)
    (hr : RowsAre (RowNet s.heap) vs rs) (hws : rs.length ≤ 63) (e1 : @Ne Nat x d) (e2 : @Ne Nat x NW) (e3 : @Ne Nat d NW)
    (ret0 : rs = [] → ∀ h' tk', Fr h₀ L h' m → News h₀ L h' news → Q .none { s with heap := h', toks := tk' })
    (ret1 : ∀ M t h' tk', M ∈ rs.map (·.t) → (∀ y ∈ rs.map (·.t), M ≤ y) → Fr h₀ L h' m → News h₀ L h' news → Q (.int M t) { s with heap := h', toks := tk' }) :
    wpAny (model pr w) (ktrTop dp un gd cn cs L a ccd cl outer) (call (.ref 69) [.ref x]) Q E s :=
  ntime_spec B F X T hk hdp hun (fun p hp => by
    rcases List.mem_cons.mp hp with rfl | hp
    · exact N _ mx
    · rcases List.mem_cons.mp hp with rfl | hp
      · exact N _ md
      · rw [List.mem_singleton.mp hp]; exact N _ mw) hr hws e1 e2 e3 (fun e h' tk' K => ret0 e h' tk' (fr_kept F K) (news_kept N K)) fun M t h' tk' a1 a2 K => ret1 M t h' tk' a1 a2 (fr_kept F K) (news_kept N K)

theorem news_sub {h₀ h : Heap} {L : Addr} {news tl : List (Addr × Obj)} (N : News h₀ L h news) (s : ∀ p ∈ tl, p ∈ news) : News h₀ L h tl := fun p hp => N p (s p hp)
theorem ne_nil_yes {prog : Program} {w : World} {A : Around} {E : Value → Shared → Prop} {s : Shared} {Q : Value → Shared → Prop} {a b : Addr} {v : Value} {us : List Value} (ha : s.heap.IsList a (List.toArray (v :: us))) (hb : s.heap.IsList b #[])
    (hu : A.units + 4 < cLine) (h : Q (.bool true) s) : wpAny (model prog w) A (compareOp .NotEq (.ref a) (.ref b)) Q E s :=
  SeqAt.RcNeAt.lists_lengths ha hb (by simp) (by omega) prog w E Q h
theorem p1_cons {w : World} {loose : List Str} {mean : ExcName → Option Value} {mg mb : Str → Option Value} {a : Addr} {cd : Value} {h₀ : Heap} {L : Addr} {m : Str → Option Value} {s : Shared} {Q : Flow → Shared → Prop} {E : Value → Shared → Prop} {rest : List Stmt}
    {ch kd x du d NC NW NF : Addr} {k : NK} {u : Int} {tu tu2 : Tok} {mv mv2 : Value} {hm hm0 : Int} {thm thm0 : Tok} {now : Int} {tn : Tok} {ct ct0 : Int} {tct tct0 : Tok} {ws ds : List Value} {nW nD : Nat} {rs : List Row}
    (B : Below callerA h₀ [] h₀) (F : Fr h₀ L s.heap m) (X : (hd.heap_39 w.params).In h₀) (T : Top hd.view_39 loose mean mg mb h₀)
    (N : News h₀ L s.heap [(x, instObj 77 d), (d, netDict k NC u tu mv hm thm ct tct NW NF), (NW, W.listOf (List.toArray ws) nW), (du, W.listOf (List.toArray ds) nD)])
    (hr : RowsAre (RowNet s.heap) ws rs) (hd' : RowsAre (RowDue s.heap) ds rs) (hlen : rs.length ≤ 60) (hnd : (rs.map (·.o)).Nodup) (e1 : @Ne Nat x d) (e2 : @Ne Nat x NW) (e3 : @Ne Nat d NW)
    (hM : MHas m (lv ch mv2 u tu2 x hm0 thm0 now tn du ct0 tct0 kd []))
    (hne : ¬ rs = [])
    (ret : ∀ h' tk' m', Fr h₀ L h' m' → Kept [L] s.heap h' → MHas m' (lv ch mv2 u tu2 x hm0 thm0 now tn du ct0 tct0 kd []) →
      wpAny (model pr w) (callerA.deeper (lawEnv L a cd)) (execs rest (lawEnv L a cd)) Q E { s with heap := h', toks := tk' }) :
    wpAny (model pr w) (callerA.deeper (lawEnv L a cd)) (execs ((lawB 6).take 2 ++ rest) (lawEnv L a cd)) Q E s := by
  have hn1 : ∀ b ∈ [L, x, d, NW, du], ∀ its, s.heap.get? b ≠ some (tupObj its) := fc (fun _ => ns_tup F.ns) (fc (no_tup (N.get (by k_mem)) fun _ => inst_tup) (fc (no_tup (N.get (by k_mem)) fun _ => dict_tup) (fc (no_tup (N.get (by k_mem)) fun _ => list_tup) (fc (no_tup (N.get (by k_mem)) fun _ => list_tup) fn))))
  obtain ⟨tl, N', off, K⟩ := with_rest F N
  simp only [List.cons_append, List.nil_append, List.map_cons, List.map_nil] at N' off K
  have f1 := N.get (.head _)
  have f2 := N.get (.tail _ (.head _))
  have f3 := N.get (.tail _ (.tail _ (.head _)))
  have f4 := N.get (.tail _ (.tail _ (.tail _ (.head _))))
  clear N
  have hrAll : ∀ h' m', Fr h₀ L h' m' → News h₀ L h' tl → RowsAre (RowNet h') ws rs := fun h' m' F' N' => rows_mono (fun v r => rowNet_keep (K h' m' F' N') hn1) hr
  rw [mset_self _ hM] at F
  clear hM
  dsimp only [mset] at F
  have hdl := rows_len hd'
  delta pr at *; revert X; k_fill; intro X
  dsimp only [lawEnv, lawItem, lawB, List.take, List.drop, List.cons_append, List.nil_append]
  show wpAny _ _ (execs _ _) _ _ _
  k_steps
  refine LCg.CompSrc.ledger (by rfl) (by k_asm) (by k_asm) (by k_mem) (by rw [List.size_toArray, sizeLine_eq]; omega) fun gg => ?_
  refine comp_U2 (fun i ys news => PairJ rs _ i ys news) ⟨[], rfl, trivial⟩ ?_ ?_
  · rintro i ys news v I oI C oC D m₂ h tk E' hin ⟨tl2, rfl, hys⟩ hv hC hx F N off1 ne
    refine due_at hd' (by simpa using hv) fun r ra rb arr t1 t2 t3 t4 t5 hri hrow er hra hrb hrd => ?_
    subst er
    clear hrow
    have hh : h.get? ra = some (tupObj #[.int r.t t1, .int r.o t2, .ref rb]) := K h _ F (fun p hp => N p (by repeat (first | exact hp | refine List.Mem.tail _ ?_ | refine List.mem_append_right _ ?_))) _ _ (fun hb => hn1 ra hb _ hra) hra
    have htup : IsTup h ra #[.int r.t t1, .int r.o t2, .ref rb] := ⟨_, hh, rfl, _, rfl⟩
    k_steps
    refine TurnEnd.one (by k_asm) (by k_asm) off1 ⟨by omega, by omega, by omega⟩ (.inr ⟨_, .tail _ (List.mem_append_right _ (by k_mem)), rfl, _, rfl⟩) ⟨_ :: tl2, rfl, ?_⟩
    rw [List.take_add_one, hri]
    exact rows_app (rows_mono (fun v r ⟨a, ti, t1, t2, e, q, d⟩ => ⟨a, ti, t1, t2, e, .tail _ q, d⟩) hys) ⟨⟨_, _, _, _, rfl, .head _, rfl⟩, trivial⟩
  · rintro ys news ⟨tl2, rfl, hys⟩ D h tk F N off1
    (try dsimp only)
    rw [List.size_toArray, hdl, List.take_length] at hys
    have N3 : News h₀ L h ((x, instObj 77 d) :: (d, netDict k NC u tu mv hm thm ct tct NW NF) :: (NW, W.listOf ws.toArray nW) :: (du, W.listOf ds.toArray nD) :: (D, LCg.lst ys) :: (tl2 ++ tl)) := fc (N _ (by repeat (first | exact List.Mem.head _ | exact hp | exact List.mem_append_left _ hp | refine List.Mem.tail _ ?_ | refine List.mem_append_right _ ?_))) (fc (N _ (by repeat (first | exact List.Mem.head _ | exact hp | exact List.mem_append_left _ hp | refine List.Mem.tail _ ?_ | refine List.mem_append_right _ ?_))) (fc (N _ (by repeat (first | exact List.Mem.head _ | exact hp | exact List.mem_append_left _ hp | refine List.Mem.tail _ ?_ | refine List.mem_append_right _ ?_))) (fc (N _ (by repeat (first | exact List.Mem.head _ | exact hp | exact List.mem_append_left _ hp | refine List.Mem.tail _ ?_ | refine List.mem_append_right _ ?_))) (fc (N _ (by repeat (first | exact List.Mem.head _ | exact hp | exact List.mem_append_left _ hp | refine List.Mem.tail _ ?_ | refine List.mem_append_right _ ?_))) (fa (fun p hp => N p (by repeat (first | exact List.Mem.head _ | exact hp | exact List.mem_append_left _ hp | refine List.Mem.tail _ ?_ | refine List.mem_append_right _ ?_))) (fun p hp => N p (by repeat (first | exact hp | refine List.Mem.tail _ ?_ | refine List.mem_append_right _ ?_))))))))
    clear N off1
    k_steps
    refine sorted_rows (P := PairIn tl2) (by k_asm) (by k_asm) (News.isList (by k_asm) (by k_mem)) hys (fun v r ⟨a, ti, t1, t2, e, q, dd⟩ => ?_) hnd (by omega) fun S h' us qs n' hul hqs hus FF NN offS => ?_
    · subst dd
      exact ⟨a, _, _, t1, t2, [], e, N3.get (.tail _ (.tail _ (.tail _ (.tail _ (.tail _ (List.mem_append_left _ q)))))), rfl⟩
    clear N3 F offS
    obtain ⟨r0, qs', rfl⟩ : ∃ r0 qs', qs = r0 :: qs' := by
      cases qs with
      | nil => exact absurd (List.Perm.eq_nil hqs.1.symm) hne
      | cons r0 qs' => exact ⟨r0, qs', rfl⟩
    obtain ⟨v0, us', rfl⟩ : ∃ v0 us', us = v0 :: us' := by
      cases us with
      | nil => exact hus.elim
      | cons v0 us' => exact ⟨v0, us', rfl⟩
    obtain ⟨a0, ti0, u1, u2, rfl, hm0, hti0⟩ := hus.1
    have hmin : ∀ y ∈ rs.map (·.t), ti0 ≤ y := fun y hy => by
      obtain ⟨r, hr', rfl⟩ := List.mem_map.mp hy
      have hq := hqs.1.mem_iff.mpr hr'
      rcases List.mem_cons.mp hq with e | hq
      · rw [e, hti0]; exact Int.le_refl _
      · have := (List.pairwise_cons.mp hqs.2).1 r hq
        unfold RLt klt rkey at this
        rw [hti0]; dsimp only at this; omega
    have hin0 : ti0 ∈ rs.map (·.t) := by rw [hti0]; exact List.mem_map.mpr ⟨r0, hqs.1.mem_iff.mp (.head _), rfl⟩
    have NN2 := news_cons' (NN.get (.tail _ (.tail _ (.tail _ (.tail _ (.tail _ (.tail _ (List.mem_append_left _ hm0)))))))) (NN _ (.tail _ (.tail _ (.tail _ (.tail _ (.tail _ (.tail _ (List.mem_append_left _ hm0)))))))).2 NN
    clear NN
    k_steps
    all_goals first
      | exact absurd (by assumption) hne
      | (rename _ ∈ List.map _ rs => hMa
         rename ∀ y, y ∈ List.map _ rs → _ ≤ y => hMb
         have hMe := Int.le_antisymm (hMb _ hin0) (hmin _ hMa)
         first
           | (exfalso; rename (_ != _) = true => hbad; rw [hMe, bne_self_eq_false] at hbad; cases hbad)
           | (exfalso; omega)
           | (rename News h₀ L _ ((_, _) :: (a0, _) :: _) => NN
              refine ret _ _ _ (by assumption) (kept_but (K _ _ (by assumption) fun p hp => NN p (by repeat (first | exact hp | refine List.Mem.tail _ ?_ | refine List.mem_append_right _ ?_))) (fc (.inl (.head _)) (fc (.inr ⟨_, f1, NN.get (by k_mem)⟩) (fc (.inr ⟨_, f2, NN.get (by k_mem)⟩) (fc (.inr ⟨_, f3, NN.get (by k_mem)⟩) (fc (.inr ⟨_, f4, NN.get (by k_mem)⟩) fn)))))) ?mh
              case mh => repeat (first | exact List.forall_mem_nil _ | (refine List.forall_mem_cons.mpr ⟨by exact rfl, ?_⟩))))

theorem p1_nil {w : World} {loose : List Str} {mean : ExcName → Option Value} {mg mb : Str → Option Value} {a : Addr} {cd : Value} {h₀ : Heap} {L : Addr} {m : Str → Option Value} {s : Shared} {Q : Flow → Shared → Prop} {E : Value → Shared → Prop} {rest : List Stmt}
    {ch kd x du d NC NW NF : Addr} {k : NK} {u : Int} {tu tu2 : Tok} {mv mv2 : Value} {hm hm0 : Int} {thm thm0 : Tok} {now : Int} {tn : Tok} {ct ct0 : Int} {tct tct0 : Tok} {ws ds : List Value} {nW nD : Nat} {rs : List Row}
    (B : Below callerA h₀ [] h₀) (F : Fr h₀ L s.heap m) (X : (hd.heap_39 w.params).In h₀) (T : Top hd.view_39 loose mean mg mb h₀)
    (N : News h₀ L s.heap [(x, instObj 77 d), (d, netDict k NC u tu mv hm thm ct tct NW NF), (NW, W.listOf (List.toArray ws) nW), (du, W.listOf (List.toArray ds) nD)])
    (hr : RowsAre (RowNet s.heap) ws rs) (hd' : RowsAre (RowDue s.heap) ds rs) (hlen : rs.length ≤ 60) (hnd : (rs.map (·.o)).Nodup) (e1 : @Ne Nat x d) (e2 : @Ne Nat x NW) (e3 : @Ne Nat d NW)
    (hM : MHas m (lv ch mv2 u tu2 x hm0 thm0 now tn du ct0 tct0 kd []))
    (hne : rs = [])
    (ret : ∀ h' tk' m', Fr h₀ L h' m' → Kept [L] s.heap h' → MHas m' (lv ch mv2 u tu2 x hm0 thm0 now tn du ct0 tct0 kd []) →
      wpAny (model pr w) (callerA.deeper (lawEnv L a cd)) (execs rest (lawEnv L a cd)) Q E { s with heap := h', toks := tk' }) :
    wpAny (model pr w) (callerA.deeper (lawEnv L a cd)) (execs ((lawB 6).take 2 ++ rest) (lawEnv L a cd)) Q E s := by
  have hn1 : ∀ b ∈ [L, x, d, NW, du], ∀ its, s.heap.get? b ≠ some (tupObj its) := fc (fun _ => ns_tup F.ns) (fc (no_tup (N.get (by k_mem)) fun _ => inst_tup) (fc (no_tup (N.get (by k_mem)) fun _ => dict_tup) (fc (no_tup (N.get (by k_mem)) fun _ => list_tup) (fc (no_tup (N.get (by k_mem)) fun _ => list_tup) fn))))
  obtain ⟨tl, N', off, K⟩ := with_rest F N
  simp only [List.cons_append, List.nil_append, List.map_cons, List.map_nil] at N' off K
  have f1 := N.get (.head _)
  have f2 := N.get (.tail _ (.head _))
  have f3 := N.get (.tail _ (.tail _ (.head _)))
  have f4 := N.get (.tail _ (.tail _ (.tail _ (.head _))))
  clear N
  have hrAll : ∀ h' m', Fr h₀ L h' m' → News h₀ L h' tl → RowsAre (RowNet h') ws rs := fun h' m' F' N' => rows_mono (fun v r => rowNet_keep (K h' m' F' N') hn1) hr
  rw [mset_self _ hM] at F
  clear hM
  dsimp only [mset] at F
  have hdl := rows_len hd'
  delta pr at *; revert X; k_fill; intro X
  dsimp only [lawEnv, lawItem, lawB, List.take, List.drop, List.cons_append, List.nil_append]
  show wpAny _ _ (execs _ _) _ _ _
  k_steps
  refine LCg.CompSrc.ledger (by rfl) (by k_asm) (by k_asm) (by k_mem) (by rw [List.size_toArray, sizeLine_eq]; omega) fun gg => ?_
  refine comp_U2 (fun i ys news => PairJ rs _ i ys news) ⟨[], rfl, trivial⟩ ?_ ?_
  · rintro i ys news v I oI C oC D m₂ h tk E' hin ⟨tl2, rfl, hys⟩ hv hC hx F N off1 ne
    refine due_at hd' (by simpa using hv) fun r ra rb arr t1 t2 t3 t4 t5 hri hrow er hra hrb hrd => ?_
    subst er
    clear hrow
    have hh : h.get? ra = some (tupObj #[.int r.t t1, .int r.o t2, .ref rb]) := K h _ F (fun p hp => N p (by repeat (first | exact hp | refine List.Mem.tail _ ?_ | refine List.mem_append_right _ ?_))) _ _ (fun hb => hn1 ra hb _ hra) hra
    have htup : IsTup h ra #[.int r.t t1, .int r.o t2, .ref rb] := ⟨_, hh, rfl, _, rfl⟩
    k_steps
    refine TurnEnd.one (by k_asm) (by k_asm) off1 ⟨by omega, by omega, by omega⟩ (.inr ⟨_, .tail _ (List.mem_append_right _ (by k_mem)), rfl, _, rfl⟩) ⟨_ :: tl2, rfl, ?_⟩
    rw [List.take_add_one, hri]
    exact rows_app (rows_mono (fun v r ⟨a, ti, t1, t2, e, q, d⟩ => ⟨a, ti, t1, t2, e, .tail _ q, d⟩) hys) ⟨⟨_, _, _, _, rfl, .head _, rfl⟩, trivial⟩
  · rintro ys news ⟨tl2, rfl, hys⟩ D h tk F N off1
    (try dsimp only)
    rw [List.size_toArray, hdl, List.take_length] at hys
    have N3 : News h₀ L h ((x, instObj 77 d) :: (d, netDict k NC u tu mv hm thm ct tct NW NF) :: (NW, W.listOf ws.toArray nW) :: (du, W.listOf ds.toArray nD) :: (D, LCg.lst ys) :: (tl2 ++ tl)) := fc (N _ (by repeat (first | exact List.Mem.head _ | exact hp | exact List.mem_append_left _ hp | refine List.Mem.tail _ ?_ | refine List.mem_append_right _ ?_))) (fc (N _ (by repeat (first | exact List.Mem.head _ | exact hp | exact List.mem_append_left _ hp | refine List.Mem.tail _ ?_ | refine List.mem_append_right _ ?_))) (fc (N _ (by repeat (first | exact List.Mem.head _ | exact hp | exact List.mem_append_left _ hp | refine List.Mem.tail _ ?_ | refine List.mem_append_right _ ?_))) (fc (N _ (by repeat (first | exact List.Mem.head _ | exact hp | exact List.mem_append_left _ hp | refine List.Mem.tail _ ?_ | refine List.mem_append_right _ ?_))) (fc (N _ (by repeat (first | exact List.Mem.head _ | exact hp | exact List.mem_append_left _ hp | refine List.Mem.tail _ ?_ | refine List.mem_append_right _ ?_))) (fa (fun p hp => N p (by repeat (first | exact List.Mem.head _ | exact hp | exact List.mem_append_left _ hp | refine List.Mem.tail _ ?_ | refine List.mem_append_right _ ?_))) (fun p hp => N p (by repeat (first | exact hp | refine List.Mem.tail _ ?_ | refine List.mem_append_right _ ?_))))))))
    clear N off1
    k_steps
    refine sorted_rows (P := PairIn tl2) (by k_asm) (by k_asm) (News.isList (by k_asm) (by k_mem)) hys (fun v r ⟨a, ti, t1, t2, e, q, dd⟩ => ?_) hnd (by omega) fun S h' us qs n' hul hqs hus FF NN offS => ?_
    · subst dd
      exact ⟨a, _, _, t1, t2, [], e, N3.get (.tail _ (.tail _ (.tail _ (.tail _ (.tail _ (List.mem_append_left _ q)))))), rfl⟩
    clear N3 F offS
    subst hne
    have hq0 : qs = [] := List.Perm.eq_nil hqs.1
    subst hq0
    have hu0 : us = [] := List.eq_nil_of_length_eq_zero (rows_len hus)
    subst hu0
    k_steps
    all_goals first
      | (rename _ ∈ List.map _ [] => hMa
         cases hMa)
      | (exfalso; rename News h₀ L _ ((_, _) :: (S, _) :: _) => NN; simp at *; done)
      | (rename News h₀ L _ ((_, _) :: (S, _) :: _) => NN
         refine ret _ _ _ (by assumption) (kept_but (K _ _ (by assumption) fun p hp => NN p (by repeat (first | exact hp | refine List.Mem.tail _ ?_ | refine List.mem_append_right _ ?_))) (fc (.inl (.head _)) (fc (.inr ⟨_, f1, NN.get (by k_mem)⟩) (fc (.inr ⟨_, f2, NN.get (by k_mem)⟩) (fc (.inr ⟨_, f3, NN.get (by k_mem)⟩) (fc (.inr ⟨_, f4, NN.get (by k_mem)⟩) fn)))))) ?mh
         case mh => repeat (first | exact List.forall_mem_nil _ | (refine List.forall_mem_cons.mpr ⟨by exact rfl, ?_⟩)))

theorem p1_spec {w : World} {loose : List Str} {mean : ExcName → Option Value} {mg mb : Str → Option Value} {a : Addr} {cd : Value} {h₀ : Heap} {L : Addr} {m : Str → Option Value} {s : Shared} {Q : Flow → Shared → Prop} {E : Value → Shared → Prop} {rest : List Stmt}
    {ch kd x du d NC NW NF : Addr} {k : NK} {u : Int} {tu tu2 : Tok} {mv mv2 : Value} {hm hm0 : Int} {thm thm0 : Tok} {now : Int} {tn : Tok} {ct ct0 : Int} {tct tct0 : Tok} {ws ds : List Value} {nW nD : Nat} {rs : List Row}
    (B : Below callerA h₀ [] h₀) (F : Fr h₀ L s.heap m) (X : (hd.heap_39 w.params).In h₀) (T : Top hd.view_39 loose mean mg mb h₀)
    (N : News h₀ L s.heap [(x, instObj 77 d), (d, netDict k NC u tu mv hm thm ct tct NW NF), (NW, W.listOf (List.toArray ws) nW), (du, W.listOf (List.toArray ds) nD)])
    (hr : RowsAre (RowNet s.heap) ws rs) (hd' : RowsAre (RowDue s.heap) ds rs) (hlen : rs.length ≤ 60) (hnd : (rs.map (·.o)).Nodup) (e1 : @Ne Nat x d) (e2 : @Ne Nat x NW) (e3 : @Ne Nat d NW)
    (hM : MHas m (lv ch mv2 u tu2 x hm0 thm0 now tn du ct0 tct0 kd []))
    (ret : ∀ h' tk' m', Fr h₀ L h' m' → Kept [L] s.heap h' → MHas m' (lv ch mv2 u tu2 x hm0 thm0 now tn du ct0 tct0 kd []) →
      wpAny (model pr w) (callerA.deeper (lawEnv L a cd)) (execs rest (lawEnv L a cd)) Q E { s with heap := h', toks := tk' }) :
    wpAny (model pr w) (callerA.deeper (lawEnv L a cd)) (execs ((lawB 6).take 2 ++ rest) (lawEnv L a cd)) Q E s := by
  by_cases hne : rs = []
  · exact p1_nil B F X T N hr hd' hlen hnd e1 e2 e3 hM hne ret
  · exact p1_cons B F X T N hr hd' hlen hnd e1 e2 e3 hM hne ret
end Mine

end
namespace Mine
theorem flush_p2 {prog : Program} {w : World} {A : Around} {Q : Flow → Shared → Prop} {E : Value → Shared → Prop} {s : Shared} {env : Env} (h : wpAny (model prog w) A (execs [] env) Q E s) : wpAny (model prog w) A (execs [] env) Q E s := by
  k_with_none
  w_top off
  first | (walk1; fail) | exact h
end Mine

section
open PyProof.V
namespace Mine
theorem words_p2 : True := by
  k_with_none
  k_with "own ne" => (refine neN ?_; (try dsimp only); first | with_reducible assumption | (refine Ne.symm ?_; with_reducible assumption) | k_extra "own and" | (refine Ne.symm ?_; k_extra "own and"))
  k_with "own right" => (iterate 9 (first | done | with_reducible assumption | apply And.right))
  k_with "own and" => first | (apply And.left; k_extra "own right"; done) | (k_extra "own right"; done) | (apply And.left; apply And.left; k_extra "own right"; done) | (apply And.left; apply And.right; apply And.left; k_extra "own right"; done) | (apply And.right; apply And.left; k_extra "own right"; done) | (apply And.right; apply And.right; apply And.left; k_extra "own right"; done)
  trivial

theorem due_key {h : Heap} {v : Value} {r : Row} : RowDue h v r → TupKey h v (rkey r) := fun ⟨a, b, arr, ti, t1, t2, t3, t4, t5, e, q1, q2, q3, q4⟩ => by
  subst q3
  exact ⟨a, _, _, t1, t2, [.ref b], e, q1, rfl⟩

theorem p2_spec {w : World} {loose : List Str} {mean : ExcName → Option Value} {mg mb : Str → Option Value} {a : Addr} {cd : Value} {h₀ : Heap} {L : Addr} {m : Str → Option Value} {s : Shared} {Q : Flow → Shared → Prop} {E : Value → Shared → Prop} {rest : List Stmt}
    {ch kd x du : Addr} {u : Int} {tu2 : Tok} {mv2 : Value} {hm0 : Int} {thm0 : Tok} {now : Int} {tn : Tok} {ct0 : Int} {tct0 : Tok} {ds : List Value} {nD : Nat} {rs : List Row}
    (B : Below callerA h₀ [] h₀) (F : Fr h₀ L s.heap m) (X : (hd.heap_39 w.params).In h₀) (T : Top hd.view_39 loose mean mg mb h₀)
    (N : News h₀ L s.heap [(du, W.listOf (List.toArray ds) nD)]) (hd' : RowsAre (RowDue s.heap) ds rs) (hlen : rs.length ≤ 60) (hnd : (rs.map (·.o)).Nodup)
    (hM : MHas m (lv ch mv2 u tu2 x hm0 thm0 now tn du ct0 tct0 kd []))
    (ret : ∀ h' tk' m' S us qs n, IsSort rs qs → RowsAre (RowDue h') us qs → Fr h₀ L h' m' → h'.get? S = some (W.listOf (List.toArray us) n) → S ≠ L → h₀.get? S = none → s.heap.get? S = none → Kept [L] s.heap h' → MHas m' (lv ch mv2 u tu2 x hm0 thm0 now tn du ct0 tct0 kd [(Str.ofString "rows", .ref S)]) →
      wpAny (model pr w) (callerA.deeper (lawEnv L a cd)) (execs rest (lawEnv L a cd)) Q E { s with heap := h', toks := tk' }) :
    wpAny (model pr w) (callerA.deeper (lawEnv L a cd)) (execs ((lawB 8).take 1 ++ rest) (lawEnv L a cd)) Q E s := by
  have hn1 : ∀ b ∈ [L, du], ∀ its, s.heap.get? b ≠ some (tupObj its) := by
    intro b hb its
    simp only [List.mem_cons, List.not_mem_nil, or_false] at hb
    rcases hb with rfl | rfl
    · exact ns_tup F.ns
    · rw [N.get (by k_mem)]; exact fun e => list_tup (Option.some.inj e)
  have f1 := N.get (.head _)
  obtain ⟨tl, N', off, K⟩ := with_rest F N
  simp only [List.cons_append, List.nil_append, List.map_cons, List.map_nil] at N' off K
  clear N
  have hdAll : ∀ h' m', Fr h₀ L h' m' → News h₀ L h' tl → RowsAre (RowDue h') ds rs := fun h' m' F' N' => rows_mono (fun v r => due_keep (K h' m' F' N') hn1) hd'
  rw [mset_self _ hM] at F
  clear hM
  dsimp only [mset] at F
  delta pr at *; revert X; k_fill; intro X
  dsimp only [lawEnv, lawItem, lawB, List.take, List.drop, List.cons_append, List.nil_append]
  show wpAny _ _ (execs _ _) _ _ _
  k_steps
  refine sorted_rows2 (P := RowDue s.heap) (by k_asm) (by k_asm) (News.isList (by k_asm) (by k_mem)) hd' (fun v r => due_key) hnd (by omega) fun S h' us qs n' hul hqs hus FF NN offS hfree => ?_
  clear F N'
  k_steps
  rename News h₀ L _ ((S, _) :: _) => NN
  refine ret _ _ _ S us qs _ hqs (rows_mono (fun v r => due_keep (K _ _ (by assumption) fun p hp => NN p (by simp only [List.mem_cons, hp, or_true])) hn1) hus) (by assumption) (NN.get (by k_mem)) (NN _ (.head _)).2.1 (NN _ (.head _)).2.2 ?fr (kept_less (K _ _ (by assumption) fun p hp => NN p (by simp only [List.mem_cons, hp, or_true])) ?kl) ?mh
  case kl =>
    intro b hb hn o e
    simp only [List.mem_cons, List.not_mem_nil, or_false] at hb hn
    rcases hb with rfl | rfl
    · exact absurd rfl hn
    · rw [f1] at e; cases e; exact NN.get (by k_mem)
  case mh => repeat (first | exact List.forall_mem_nil _ | (refine List.forall_mem_cons.mpr ⟨by exact rfl, ?_⟩))
  case fr => exact hfree
end Mine

end
namespace Mine
theorem flush_au {prog : Program} {w : World} {A : Around} {Q : Flow → Shared → Prop} {E : Value → Shared → Prop} {s : Shared} {env : Env} (h : wpAny (model prog w) A (execs [] env) Q E s) : wpAny (model prog w) A (execs [] env) Q E s := by
  k_with_none
  w_top off
  first | (walk1; fail) | exact h
end Mine

section
open PyProof.V
namespace Mine

theorem arr_use {w : World} {loose : List Str} {mean : ExcName → Option Value} {mg mb : Str → Option Value}
    {dp un : Nat} {gd : Option (List Code)} {cn : Str} {cs : Scope} {a : Addr} {ccd : Value} {cl : List (Str × Addr)} {outer : List Env} {A₀ : Around} {base h₀ : Heap} {L : Addr} {m : Str → Option Value} {s : Shared} {news : List (Addr × Obj)}
    {Q E : Value → Shared → Prop} {x d NC NW NF : Addr} {k : NK} {u : Int} {tu : Tok} {mv : Value} {hm : Int} {thm : Tok} {ct : Int} {tct : Tok} {vs : List Value} {rs : List Row} {nW : Nat} {now : Int} {tn : Tok}
    (B : Below A₀ base outer h₀) (F : Fr h₀ L s.heap m) (X : (hd.heap_39 w.params).In h₀)
    (T : Top hd.view_39 loose mean mg mb h₀) (hk : cs.kind = .function) (hdp : dp + 3 < recursionLimit) (hun : un + 20 < cLine)
    (N : News h₀ L s.heap ((x, instObj 77 d) :: (d, netDict k NC u tu mv hm thm ct tct NW NF) :: (NW, W.listOf (List.toArray vs) nW) :: news))
    (off : ∀ p ∈ news, p.1 ∉ [x, d, NW])
    (hr : RowsAre (RowNet s.heap) vs rs) (hws : rs.length ≤ 63) (hnd : (rs.map (·.o)).Nodup) (e1 : @Ne Nat x d) (e2 : @Ne Nat x NW) (e3 : @Ne Nat d NW)
    (ret : ∀ R h' tk' NW' nR nW' us (ws' : List Value) qs, IsSort (rs.filter fun r => decide (r.t ≤ now)) qs → RowsAre (ToldNet h') us qs → RowsAre (RowNet h') ws' (rs.filter fun r => decide (now < r.t)) →
      Fr h₀ L h' m → News h₀ L h' ((R, W.listOf (List.toArray us) nR) :: (x, instObj 77 d) :: (d, netDict k NC u tu mv hm thm ct tct NW' NF) :: (NW', W.listOf (List.toArray ws') nW') :: news) →
      (∀ b ∈ x :: d :: news.map (·.1), @Ne Nat b R ∧ @Ne Nat b NW') → Kept [x, d, NW] s.heap h' → Q (.ref R) { s with heap := h', toks := tk' }) :
    wpAny (model pr w) (ktrTop dp un gd cn cs L a ccd cl outer) (call (.ref 74) [.ref x, .int now tn]) Q E s := by
  have nx := N _ (.head _)
  have nd := N _ (.tail _ (.head _))
  have nw := N _ (.tail _ (.tail _ (.head _)))
  have N3 : News h₀ L s.heap [(x, instObj 77 d), (d, netDict k NC u tu mv hm thm ct tct NW NF), (NW, W.listOf (List.toArray vs) nW)] := fun p hp => by
    simp only [List.mem_cons, List.not_mem_nil, or_false] at hp
    rcases hp with rfl | rfl | rfl
    · exact nx
    · exact nd
    · exact nw
  refine arr_spec B F X T hk hdp hun N3 hr hws hnd e1 e2 e3 fun R h' tk' NW' nR nW' us ws' qs a1 a2 a3 gR gx gd gw fR fW K => ?_
  have F' : Fr h₀ L h' m := by
    refine fr_touch F K (fun q => ?_) fun b hb => ?_
    · simp only [List.mem_cons, List.not_mem_nil, or_false] at q
      rcases q with q | q | q
      · exact nx.2.1 q.symm
      · exact nd.2.1 q.symm
      · exact nw.2.1 q.symm
    · simp only [List.mem_cons, List.not_mem_nil, or_false] at hb
      rcases hb with rfl | rfl | rfl
      · exact nx.2.2
      · exact nd.2.2
      · exact nw.2.2
  refine ret R h' tk' NW' nR nW' us ws' qs a1 a2 a3 F' (fun p hp => ?_) (fun b hb => ?_) K
  · simp only [List.mem_cons] at hp
    rcases hp with rfl | rfl | rfl | rfl | hp
    · exact ⟨gR, ne_fresh F fR⟩
    · exact ⟨gx, nx.2⟩
    · exact ⟨gd, nd.2⟩
    · exact ⟨gw, ne_fresh F fW⟩
    · have := N p (.tail _ (.tail _ (.tail _ hp)))
      exact ⟨K _ _ (off p hp) this.1, this.2⟩
  · have hb' : ∃ o, s.heap.get? b = some o := by
      rcases List.mem_cons.mp hb with rfl | hb
      · exact ⟨_, nx.1⟩
      · rcases List.mem_cons.mp hb with rfl | hb
        · exact ⟨_, nd.1⟩
        · obtain ⟨p, hp, rfl⟩ := List.mem_map.mp hb
          exact ⟨_, (N p (.tail _ (.tail _ (.tail _ hp)))).1⟩
    obtain ⟨o, ho⟩ := hb'
    exact ⟨fun q => by rw [show R = b from q.symm, ho] at fR; exact absurd fR (fun z => by cases z), fun q => by rw [show NW' = b from q.symm, ho] at fW; exact absurd fW (fun z => by cases z)⟩

theorem told_keep {h h' : Heap} {ts : List Addr} {v : Value} {r : Row} (K : Kept ts h h') (hts : ∀ b ∈ ts, ∀ its, h.get? b ≠ some (tupObj its)) : ToldNet h v r → ToldNet h' v r :=
  fun ⟨a, arr, t1, t2, t3, e, q, d⟩ => ⟨a, arr, t1, t2, t3, e, K _ _ (fun hb => hts a hb _ q) q, d⟩

/-- a comprehension with a test: what has been taken so far -/
def FiP (P : Value → Row → Prop) (p : Row → Bool) (rs : List Row) (nws : List (Addr × Obj)) (i : Nat) (ys : List Value) (news : List (Addr × Obj)) : Prop := news = nws ∧ RowsAre P ys ((rs.take i).filter p)
theorem FiP.yes {P : Value → Row → Prop} {p : Row → Bool} {rs : List Row} {nws : List (Addr × Obj)} {i : Nat} {ys : List Value} {r : Row} {v : Value} (h : RowsAre P ys ((rs.take i).filter p)) (e : rs[i]? = some r) (hv : P v r) (hp : p r = true) : FiP P p rs nws (i + 1) (ys ++ [v]) nws :=
  ⟨rfl, by rw [filt_yes e hp]; exact rows_app h ⟨hv, trivial⟩⟩
theorem FiP.no {P : Value → Row → Prop} {p : Row → Bool} {rs : List Row} {nws : List (Addr × Obj)} {i : Nat} {ys : List Value} {r : Row} (h : RowsAre P ys ((rs.take i).filter p)) (e : rs[i]? = some r) (hp : p r = false) : FiP P p rs nws (i + 1) ys nws :=
  ⟨rfl, by rw [filt_no e hp]; exact h⟩

end Mine

end
namespace Mine
theorem flush_lt {prog : Program} {w : World} {A : Around} {Q : Flow → Shared → Prop} {E : Value → Shared → Prop} {s : Shared} {env : Env} (h : wpAny (model prog w) A (execs [] env) Q E s) : wpAny (model prog w) A (execs [] env) Q E s := by
  k_with_none
  w_top off
  first | (walk1; fail) | exact h
end Mine

section
open PyProof.V
namespace Mine
theorem words_lt : True := by
  k_with_none
  k_with "own ne" => (refine neN ?_; (try dsimp only); first | with_reducible assumption | (refine Ne.symm ?_; with_reducible assumption) | k_extra "own and" | (refine Ne.symm ?_; k_extra "own and"))
  k_with "own right" => (iterate 9 (first | done | with_reducible assumption | apply And.right))
  k_with "own and" => first | (apply And.left; k_extra "own right"; done) | (k_extra "own right"; done) | (apply And.left; apply And.left; k_extra "own right"; done) | (apply And.left; apply And.right; apply And.left; k_extra "own right"; done) | (apply And.right; apply And.left; k_extra "own right"; done) | (apply And.right; apply And.right; apply And.left; k_extra "own right"; done)
  k_with "own exec Assign cons ListComp" => (k_here; (with_reducible show wpAny _ _ (exec (Stmt.Assign [PySem.Expr.Name _ _] (PySem.Expr.ListComp _ [⟨PySem.Expr.Name _ _, _, [_], _⟩] _ _) _) _) _ _ _); refine Stop.exec ?_)
  k_with "own eval ListComp" => (k_here; (with_reducible show wpAny _ _ (eval (PySem.Expr.ListComp _ [⟨PySem.Expr.Tuple _ _ _, _, _, _⟩] _ _) _) _ _ _); k_dflt (refine ListComp_tup (nps := [(Str.ofString "moment", _), (Str.ofString "order", _), (Str.ofString "told", _)]) (F₀ := by k_asm) (by rfl) (by with_unfolding_all rfl) (by decide) (by rfl) (by decide) (by decide) (by decide) ?_))
  k_with "own call ref" => (k_here; (k_dflt show wpAny _ _ (call (Value.ref 74) [Value.ref _, Value.int _ _]) _ _ _); refine Stop.call ?_)
  k_with "own compareOp NotEq ref ref" => (k_here; (with_reducible show wpAny _ _ (compareOp CmpOp.NotEq (Value.ref _) (Value.ref _)) _ _ _); refine Stop.cmp ?_)
  trivial

theorem last_turn {w : World} {loose : List Str} {mean : ExcName → Option Value} {mg mb : Str → Option Value} {a : Addr} {cd : Value} {h₀ : Heap} {L : Addr} {m : Str → Option Value} {s : Shared} {Q : Flow → Shared → Prop} {E : Value → Shared → Prop}
    {ch kd x du d NC NW NF S : Addr} {k : NK} {u : Int} {tu tu2 : Tok} {mv mv2 : Value} {hm hm0 : Int} {thm thm0 : Tok} {now : Int} {tn : Tok} {ct ct0 : Int} {tct tct0 : Tok} {ws us : List Value} {nW nS : Nat} {rs qs : List Row} {ot : Obj} {tm : Int} {tt : Tok}
    (B : Below callerA h₀ [] h₀) (F : Fr h₀ L s.heap m) (X : (hd.heap_39 w.params).In h₀) (T : Top hd.view_39 loose mean mg mb h₀)
    (N : News h₀ L s.heap [(x, instObj 77 d), (d, netDict k NC u tu mv hm thm ct tct NW NF), (NW, W.listOf (List.toArray ws) nW), (L + 1 + 1, ot), (S, W.listOf (List.toArray us) nS)])
    (hot : ot.data = .cell (some (.int tm tt)))
    (hr : RowsAre (RowNet s.heap) ws rs) (hq : RowsAre (RowDue s.heap) us qs) (hs : IsSort rs qs) (hlen : rs.length ≤ 60) (hnd : (rs.map (·.o)).Nodup)
    (dis : [x, d, NW, L + 1 + 1, S].Pairwise (fun a b => @Ne Nat a b))
    (hM : MHas m (lv ch mv2 u tu2 x hm0 thm0 now tn du ct0 tct0 kd [(Str.ofString "rows", .ref S)]))
    (ret : ∀ h' tk' m' NW' nW' (ws' : List Value) S' nS' (us' : List Value), Fr h₀ L h' m' →
      News h₀ L h' [(x, instObj 77 d), (d, netDict k NC u tu mv hm thm ct tct NW' NF), (NW', W.listOf (List.toArray ws') nW'), (L + 1 + 1, ot), (S', W.listOf (List.toArray us') nS')] →
      [x, d, NW', L + 1 + 1, S'].Pairwise (fun a b => @Ne Nat a b) →
      RowsAre (RowNet h') ws' (rs.filter fun r => decide (tm < r.t)) → RowsAre (RowDue h') us' (qs.filter fun r => decide (tm < r.t)) →
      Kept [L, x, d, NW] s.heap h' → MHas m' (lv ch mv2 u tu2 x hm0 thm0 now tn du ct0 tct0 kd [(Str.ofString "rows", .ref S')]) → Q .next { s with heap := h', toks := tk' }) :
    wpAny (model pr w) (callerA.deeper (lawEnv L a cd)) (execs (lastB 0) (lawEnv L a cd)) Q E s := by
  have hql := rows_len hq
  have hqn := hs.1.length_eq
  have d1 := List.pairwise_cons.mp dis
  have d2 := List.pairwise_cons.mp d1.2
  have d3 := List.pairwise_cons.mp d2.2
  have d4 := List.pairwise_cons.mp d3.2
  have e_xd := d1.1 d (by k_mem)
  have e_xw := d1.1 NW (by k_mem)
  have e_xl := d1.1 (L + 1 + 1) (by k_mem)
  have e_xs := d1.1 S (by k_mem)
  have e_dw := d2.1 NW (by k_mem)
  have e_dl := d2.1 (L + 1 + 1) (by k_mem)
  have e_ds := d2.1 S (by k_mem)
  have e_wl := d3.1 (L + 1 + 1) (by k_mem)
  have e_ws := d3.1 S (by k_mem)
  have e_ls := d4.1 S (by k_mem)
  clear d1 d2 d3 d4
  have hn0 : ∀ b ∈ [x, d, NW], ∀ its, s.heap.get? b ≠ some (tupObj its) := fc (no_tup (N.get (by k_mem)) fun _ => inst_tup) (fc (no_tup (N.get (by k_mem)) fun _ => dict_tup) (fc (no_tup (N.get (by k_mem)) fun _ => list_tup) fn))
  rw [mset_self _ hM] at F
  clear hM
  dsimp only [mset] at F
  delta pr at *; revert X; k_fill; intro X
  dsimp only [lawEnv, lawItem, lastB, lastFor, List.drop]
  show wpAny _ _ (execs _ _) _ _ _
  k_steps
  refine Stop.open ?_
  refine arr_use (by k_asm) (by k_asm) (by k_asm) (by k_asm) (by exact rfl) (by ktr_room) (by ktr_units) (by k_asm) ?off hr (by omega) hnd e_xd e_xw e_dw fun R h1 tk1 NW' nR nW' us1 ws1 qs1 hS1 hT1 hW1 F1 N1 ne1 K1 => ?_
  case off =>
    exact fc (not_three (Ne.symm e_xl) (Ne.symm e_dl) (Ne.symm e_wl)) (fc (not_three (Ne.symm e_xs) (Ne.symm e_ds) (Ne.symm e_ws)) fn)
  clear F N e_xd e_xw e_xl e_xs e_dw e_dl e_ds e_wl e_ws e_ls
  k_steps
  have hn1 : ∀ b ∈ [L, R, x, d, NW', L + 1 + 1, S], ∀ its, h1.get? b ≠ some (tupObj its) := fc (fun _ => ns_tup F1.ns) (fc (no_tup (N1.get (by k_mem)) fun _ => list_tup) (fc (no_tup (N1.get (by k_mem)) fun _ => inst_tup) (fc (no_tup (N1.get (by k_mem)) fun _ => dict_tup) (fc (no_tup (N1.get (by k_mem)) fun _ => list_tup) (fc (no_tup (N1.get (by k_mem)) fun its e => by rw [e] at hot; cases hot) (fc (no_tup (N1.get (by k_mem)) fun _ => list_tup) fn))))))
  have hq1 : RowsAre (RowDue h1) us qs := rows_mono (fun v r => due_keep K1 hn0) hq
  have g1 := N1.get (.head _)
  have g2 := N1.get (.tail _ (.head _))
  have g3 := N1.get (.tail _ (.tail _ (.head _)))
  have g4 := N1.get (.tail _ (.tail _ (.tail _ (.head _))))
  have g5 := N1.get (.tail _ (.tail _ (.tail _ (.tail _ (.head _)))))
  have g6 := N1.get (.tail _ (.tail _ (.tail _ (.tail _ (.tail _ (.head _))))))
  obtain ⟨tl, N2, off2, K2⟩ := with_rest F1 N1
  simp only [List.cons_append, List.nil_append, List.map_cons, List.map_nil] at N2 off2 K2
  clear N1
  refine TupSrc.ledger (by rfl) (by k_asm) (by k_asm) (by k_mem) (by rw [List.size_toArray, sizeLine_eq]; omega) (fun i ys news => FiP (ToldNet h1) (fun r => decide (r.t ≤ tm)) qs _ i ys news) ⟨rfl, trivial⟩ (fun gg => tup_turn2 ?_) ?_
  · rintro i ys news v hv ⟨rfl, hys⟩
    refine due_at hq1 (by simpa using hv) fun r ra rb arr t1 t2 t3 t4 t5 hri hrow er hra hrb hrd => ?_
    subst er
    clear hrow
    refine ⟨ra, _, rfl, rfl, fun h F N => ⟨_, K2 h _ F (news_sub N fun p hp => by repeat (first | exact hp | refine List.Mem.tail _ ?_)) _ _ (fun hb => hn1 ra hb _ hra) hra, rfl, _, rfl⟩, ?_⟩
    intro I oI C oC D m₂ h tk E' hC hm F N off ne
    have x1 : m₂ (Str.ofString "moment") = some (.int r.t t1) := hm 0 _ _ rfl rfl
    have x3 : m₂ (Str.ofString "told") = some (.ref rb) := hm 2 _ _ rfl rfl
    refine wpAny_tests_one ?_
    clear hm
    k_steps
    · exact TurnEnd.same (by k_asm) (by k_asm) off (.inr ⟨_, by k_mem, rfl, _, rfl⟩) (FiP.yes hys hri ⟨rb, arr, t3, t4, t5, rfl, hrb, hrd⟩ (decide_eq_true (by assumption)))
    · exact TurnEnd.same (by k_asm) (by k_asm) off (.inr ⟨_, by k_mem, rfl, _, rfl⟩) (FiP.no hys hri (decide_eq_false (by assumption)))
  · rintro gg us2 nws ⟨rfl, hys⟩ D3 h3 tk3 F N off3
    (try dsimp only)
    rw [List.size_toArray, hql, List.take_length, (hs.filter _).uniq hS1] at hys
    clear F1 N2
    have K3 : Kept [L, R, x, d, NW', L + 1 + 1, S] h1 h3 := K2 h3 _ F (news_sub N fun p hp => by repeat (first | exact hp | refine List.Mem.tail _ ?_))
    have hT3 : RowsAre (ToldNet h3) us1 qs1 := rows_mono (fun v r => told_keep K3 hn1) hT1
    have hT4 : RowsAre (ToldNet h3) us2 qs1 := rows_mono (fun v r => told_keep K3 hn1) hys
    k_steps
    refine Stop.open ?_
    refine ne_told (us := us1) (vs := us2) (qs := qs1) (News.isList (by k_asm) (by k_mem)) (News.isList (by k_asm) (by k_mem)) hT3 hT4 (by ktr_units) ?_
    k_steps
    refine Stop.open ?_
    refine LCt.Assign_ListComp_T (F₀ := by k_asm) (by rfl) (by with_unfolding_all rfl) (by with_unfolding_all rfl) (by decide) (by rfl) (by decide) (by rfl) (by rfl) (by rfl) ?_
    k_steps
    refine LCt.CompSrcT.ledger (by rfl) (by k_asm) (by k_asm) (by k_mem) (by rw [List.size_toArray, sizeLine_eq]; omega) fun gg2 => ?_
    refine comp_T2 (fun i ys news => FiP (RowDue h1) (fun r => decide (tm < r.t)) qs _ i ys news) ⟨rfl, trivial⟩ ?_ ?_
    · rintro i ys news v I oI C oC D m₂ h tk E' hin ⟨rfl, hz⟩ hv hC hx F N off ne
      refine due_at hq1 (by simpa using hv) fun r ra rb arr t1 t2 t3 t4 t5 hri hrow er hra hrb hrd => ?_
      subst er
      have htup : IsTup h ra #[.int r.t t1, .int r.o t2, .ref rb] := ⟨_, K2 h _ F (news_sub N fun p hp => by repeat (first | exact hp | refine List.Mem.tail _ ?_)) _ _ (fun hb => hn1 ra hb _ hra) hra, rfl, _, rfl⟩
      k_steps
      · exact TurnEnd.same (by k_asm) (by k_asm) off (.inr ⟨_, by k_mem, rfl, _, rfl⟩) (FiP.yes hz hri hrow (decide_eq_true (by assumption)))
      · exact TurnEnd.same (by k_asm) (by k_asm) off (.inr ⟨_, by k_mem, rfl, _, rfl⟩) (FiP.no hz hri (decide_eq_false (by assumption)))
    · rintro zs news ⟨rfl, hzs⟩
      (try dsimp only)
      rw [List.size_toArray, hql, List.take_length] at hzs
      intro D h tk F N off
      k_steps
      have o := fun p hp => off1_mem (p := p) _ off hp
      have KK : Kept [L] h1 h := kept_but (K2 h _ F (news_sub N fun p hp => by repeat (first | exact hp | refine List.Mem.tail _ ?_))) (fc (.inl (.head _)) (fc (.inr ⟨_, g1, N.get (by k_mem)⟩) (fc (.inr ⟨_, g2, N.get (by k_mem)⟩) (fc (.inr ⟨_, g3, N.get (by k_mem)⟩) (fc (.inr ⟨_, g4, N.get (by k_mem)⟩) (fc (.inr ⟨_, g5, N.get (by k_mem)⟩) (fc (.inr ⟨_, g6, N.get (by k_mem)⟩) fn)))))))
      have hnL : ∀ b ∈ [L], ∀ its, h1.get? b ≠ some (tupObj its) := fun b hb => hn1 b (by rw [List.mem_singleton.mp hb]; exact .head _)
      have N5 : News h₀ L h [(x, instObj 77 d), (d, netDict k NC u tu mv hm thm ct tct NW' NF), (NW', W.listOf ws1.toArray nW'), (L + 1 + 1, ot), (D, LCg.lst zs)] := fc (N _ (by k_mem)) (fc (N _ (by k_mem)) (fc (N _ (by k_mem)) (fc (N _ (by k_mem)) (fc (N _ (by k_mem)) fn))))
      have ox := o (x, instObj 77 d) (by k_mem)
      have od := o (d, netDict k NC u tu mv hm thm ct tct NW' NF) (by k_mem)
      have ow := o (NW', W.listOf ws1.toArray nW') (by k_mem)
      have ol := o (L + 1 + 1, ot) (by k_mem)
      have nx := ne1 x (by k_mem)
      have nd := ne1 d (by k_mem)
      have nl := ne1 (L + 1 + 1) (by k_mem)
      have d1 := List.pairwise_cons.mp dis
      have d2 := List.pairwise_cons.mp d1.2
      have e_xd := d1.1 d (by k_mem)
      have e_xl := d1.1 (L + 1 + 1) (by k_mem)
      have e_dl := d2.1 (L + 1 + 1) (by k_mem)
      refine ret h _ _ NW' nW' ws1 D _ zs F N5 ?_ (rows_mono (fun v r => rowNet_keep KK hnL) hW1) (rows_mono (fun v r => due_keep KK hnL) hzs) (kept_trans (kept_mono K1 (by repeat (first | exact fn | refine fc (by k_mem) ?_))) (kept_mono KK (by repeat (first | exact fn | refine fc (by k_mem) ?_)))) ?mh
      case mh => repeat (first | exact List.forall_mem_nil _ | (refine List.forall_mem_cons.mpr ⟨by exact rfl, ?_⟩))
      refine .cons ?_ (.cons ?_ (.cons ?_ (.cons ?_ (.cons (fun _ h => nomatch h) .nil))))
      · exact fc e_xd (fc nx.2 (fc e_xl (fc ox fn)))
      · exact fc nd.2 (fc e_dl (fc od fn))
      · exact fc (Ne.symm nl.2) (fc ow fn)
      · exact fc ol fn
end Mine

end
namespace Mine
theorem flush_ll {prog : Program} {w : World} {A : Around} {Q : Flow → Shared → Prop} {E : Value → Shared → Prop} {s : Shared} {env : Env} (h : wpAny (model prog w) A (execs [] env) Q E s) : wpAny (model prog w) A (execs [] env) Q E s := by
  k_with_none
  w_top off
  first | (walk1; fail) | exact h
end Mine

section
open PyProof.V
namespace Mine
theorem words_ll : True := by
  k_with_none
  k_with "own ne" => (refine neN ?_; (try dsimp only); first | with_reducible assumption | (refine Ne.symm ?_; with_reducible assumption) | k_extra "own and" | (refine Ne.symm ?_; k_extra "own and"))
  k_with "own right" => (iterate 9 (first | done | with_reducible assumption | apply And.right))
  k_with "own and" => first | (apply And.left; k_extra "own right"; done) | (k_extra "own right"; done) | (apply And.left; apply And.left; k_extra "own right"; done) | (apply And.left; apply And.right; apply And.left; k_extra "own right"; done) | (apply And.right; apply And.left; k_extra "own right"; done) | (apply And.right; apply And.right; apply And.left; k_extra "own right"; done)
  trivial

theorem range_some (b c : Int) (hc : 0 < c) (hc1 : c ≤ 100) (hb : 0 ≤ b) (hb1 : b ≤ 10000) : ∃ n : Nat, Builtin.Range.rangeSize 0 b c = (n : Int) ∧ Builtin.Range.small 0 b c = true := by
  have h0 : 0 ≤ Builtin.Range.rangeSize 0 b c ∧ Builtin.Range.rangeSize 0 b c ≤ 10001 := by
    unfold Builtin.Range.rangeSize
    have h1 : (b - 0 - 1) / c ≤ 10000 := by
      by_cases q : b = 0
      · subst q
        have : (0 - 0 - 1 : Int) / c ≤ 0 := Int.ediv_nonpos_of_nonpos_of_neg (by omega) hc
        omega
      · exact Int.le_trans (Int.ediv_le_self _ (by omega)) (by omega)
    have h2 : b > 0 → 0 ≤ (b - 0 - 1) / c := fun q => Int.ediv_nonneg (by omega) (by omega)
    repeat' split
    all_goals omega
  refine ⟨_, (Int.toNat_of_nonneg h0.1).symm, ?_⟩
  unfold Builtin.Range.small
  simp only [Builtin.Range.rangeFitsLong, Bool.and_eq_true, Bool.or_eq_true, decide_eq_true_eq, beq_iff_eq, show c > 0 from hc, if_true]
  omega

theorem last_iter {w : World} {loose : List Str} {mean : ExcName → Option Value} {mg mb : Str → Option Value} {a : Addr} {cd : Value} {h₀ : Heap} {L : Addr} {m : Str → Option Value} {s : Shared} {Q : Value → Shared → Prop} {E : Value → Shared → Prop}
    {ch kd x du S : Addr} {u : Int} {tu2 : Tok} {mv2 : Value} {hm0 : Int} {thm0 : Tok} {now : Int} {tn : Tok} {ct0 : Int} {tct0 : Tok}
    (B : Below callerA h₀ [] h₀) (F : Fr h₀ L s.heap m) (X : (hd.heap_39 w.params).In h₀) (T : Top hd.view_39 loose mean mg mb h₀) (hu : 0 ≤ u) (hu9 : u ≤ 9) (hn : 0 ≤ now) (hn4 : now ≤ 40)
    (hM : MHas m (lv ch mv2 u tu2 x hm0 thm0 now tn du ct0 tct0 kd [(Str.ofString "rows", .ref S)]))
    (ret : ∀ R h' tk' b c t v y, IsRange h' R 0 b c t v y → c = 1 + u → b = now + 9 * u + 1 → Fr h₀ L h' m → Kept [] s.heap h' → Q (.ref R) { s with heap := h', toks := tk' }) :
    wpAny (model pr w) (callerA.deeper (lawEnv L a cd)) (eval lastFor.1.2.1 (lawEnv L a cd)) Q E s := by
  have N : News h₀ L s.heap [] := .nil
  rw [mset_self _ hM] at F ret
  clear hM
  dsimp only [mset] at F
  delta pr at *; revert X; k_fill; intro X
  dsimp only [lawEnv, lawItem, lastFor]
  show wpAny _ _ (eval _ _) _ _ _
  k_steps
  rename_i hR hF hN hup
  exact ret _ _ _ _ _ _ _ _ hR rfl rfl hF fun b o _ e => hup b o e

/-- the state between the turns of the last loop -/
structure LInv (h₀ : Heap) (L : Addr) (k : NK) (NC NF x d du ch kd : Addr) (u : Int) (tu tu2 : Tok) (mv mv2 : Value) (hm hm0 : Int) (thm thm0 : Tok) (now : Int) (tn : Tok) (ct ct0 : Int) (tct tct0 : Tok)
    (h : Heap) (m : Str → Option Value) (NW S : Addr) (ws us : List Value) (nW nS : Nat) (rs qs : List Row) (ot : Obj) (vz : Option Value) : Prop where
  F : Fr h₀ L h m
  N : News h₀ L h [(x, instObj 77 d), (d, netDict k NC u tu mv hm thm ct tct NW NF), (NW, W.listOf (List.toArray ws) nW), (L + 1 + 1, ot), (S, W.listOf (List.toArray us) nS)]
  cell : ot.data = .cell vz
  dis : [x, d, NW, L + 1 + 1, S].Pairwise (fun a b => @Ne Nat a b)
  net : RowsAre (RowNet h) ws rs
  due : RowsAre (RowDue h) us qs
  sort : IsSort rs qs
  len : rs.length ≤ 60
  nd : (rs.map (·.o)).Nodup
  top : ∀ r ∈ rs, r.t ≤ now + 8 * u
  vars : MHas m (lv ch mv2 u tu2 x hm0 thm0 now tn du ct0 tct0 kd [(Str.ofString "rows", .ref S)])

inductive LInvE (h₀ : Heap) (L : Addr) (k : NK) (NC NF x d du ch kd : Addr) (u : Int) (tu tu2 : Tok) (mv mv2 : Value) (hm hm0 : Int) (thm thm0 : Tok) (now : Int) (tn : Tok) (ct ct0 : Int) (tct tct0 : Tok) (h : Heap) : Prop where
  | mk (m : Str → Option Value) (NW S : Addr) (ws us : List Value) (nW nS : Nat) (rs qs : List Row) (ot : Obj) (vz : Option Value)
    (I : LInv h₀ L k NC NF x d du ch kd u tu tu2 mv mv2 hm hm0 thm thm0 now tn ct ct0 tct tct0 h m NW S ws us nW nS rs qs ot vz)

section
variable {h₀ : Heap} {L : Addr} {k : NK} {NC NF x d du ch kd : Addr} {u : Int} {tu tu2 : Tok} {mv mv2 : Value} {hm hm0 : Int} {thm thm0 : Tok} {now : Int} {tn : Tok} {ct ct0 : Int} {tct tct0 : Tok}
  {h h' : Heap} {m : Str → Option Value} {NW S : Addr} {ws us : List Value} {nW nS : Nat} {rs qs : List Row} {ot : Obj} {vz : Option Value}

theorem LInv.nt (I : LInv h₀ L k NC NF x d du ch kd u tu tu2 mv mv2 hm hm0 thm thm0 now tn ct ct0 tct tct0 h m NW S ws us nW nS rs qs ot vz) : ∀ b ∈ [L, x, d, NW, L + 1 + 1, S], ∀ its, h.get? b ≠ some (tupObj its) := by
  intro b hb its
  simp only [List.mem_cons, List.not_mem_nil, or_false] at hb
  have hc := I.cell
  rcases hb with rfl | rfl | rfl | rfl | rfl | rfl
  · exact ns_tup I.F.ns
  · rw [I.N.get (by k_mem)]; exact fun e => inst_tup (Option.some.inj e)
  · rw [I.N.get (by k_mem)]; exact fun e => dict_tup (Option.some.inj e)
  · rw [I.N.get (by k_mem)]; exact fun e => list_tup (Option.some.inj e)
  · rw [I.N.get (by k_mem)]; intro e; have e' := Option.some.inj e; rw [e'] at hc; cases hc
  · rw [I.N.get (by k_mem)]; exact fun e => list_tup (Option.some.inj e)

theorem LInv.keep {ts : List Addr} (I : LInv h₀ L k NC NF x d du ch kd u tu tu2 mv mv2 hm hm0 thm thm0 now tn ct ct0 tct tct0 h m NW S ws us nW nS rs qs ot vz) (K : Kept ts h h')
    (hts : ∀ b ∈ ts, b ∉ [L, x, d, NW, L + 1 + 1, S] ∧ h₀.get? b = none ∧ ∀ its, h.get? b ≠ some (tupObj its)) :
    LInv h₀ L k NC NF x d du ch kd u tu tu2 mv mv2 hm hm0 thm thm0 now tn ct ct0 tct tct0 h' m NW S ws us nW nS rs qs ot vz :=
  { I with
    F := fr_touch I.F K (fun q => (hts _ q).1 (.head _)) fun b hb => (hts b hb).2.1
    N := fun p hp => ⟨K _ _ (fun q => (hts _ q).1 (by
      simp only [List.mem_cons, List.not_mem_nil, or_false] at hp ⊢
      rcases hp with rfl | rfl | rfl | rfl | rfl <;> simp)) (I.N p hp).1, (I.N p hp).2⟩
    net := rows_mono (fun v r => rowNet_keep K fun b hb => (hts b hb).2.2) I.net
    due := rows_mono (fun v r => due_keep K fun b hb => (hts b hb).2.2) I.due }

theorem LInv.off (I : LInv h₀ L k NC NF x d du ch kd u tu tu2 mv mv2 hm hm0 thm thm0 now tn ct ct0 tct tct0 h m NW S ws us nW nS rs qs ot vz) {J : Addr} {y z st : Int} (hit : IsRangeIter h J y z st) : J ∉ [L, x, d, NW, L + 1 + 1, S] := by
  have hi : h.get? J = some _ := hit
  have hc := I.cell
  intro hb
  simp only [List.mem_cons, List.not_mem_nil, or_false] at hb
  rcases hb with e | e | e | e | e | e
  · obtain ⟨o, es, ep, ho, hd, _⟩ := I.F.ns
    rw [e, ho] at hi; rw [Option.some.inj hi] at hd; cases hd
  · rw [e, I.N.get (.head _)] at hi; cases (congrArg Obj.cls (Option.some.inj hi))
  · rw [e, I.N.get (.tail _ (.head _))] at hi; exact absurd (congrArg Obj.cls (Option.some.inj hi)) (by show Value.type "dict" ≠ Value.type "range_iterator"; decide)
  · rw [e, I.N.get (.tail _ (.tail _ (.head _)))] at hi; exact absurd (congrArg Obj.cls (Option.some.inj hi)) (by show Value.type "list" ≠ Value.type "range_iterator"; decide)
  · rw [e, I.N.get (.tail _ (.tail _ (.tail _ (.head _))))] at hi; rw [Option.some.inj hi] at hc; cases hc
  · rw [e, I.N.get (.tail _ (.tail _ (.tail _ (.tail _ (.head _)))))] at hi; exact absurd (congrArg Obj.cls (Option.some.inj hi)) (by show Value.type "list" ≠ Value.type "range_iterator"; decide)
end

theorem last_spec {w : World} {loose : List Str} {mean : ExcName → Option Value} {mg mb : Str → Option Value} {a : Addr} {cd : Value} {h₀ : Heap} {L : Addr} {s : Shared} {Q : Flow → Shared → Prop} {E : Value → Shared → Prop}
    {k : NK} {NC NF x d du ch kd : Addr} {u : Int} {tu tu2 : Tok} {mv mv2 : Value} {hm hm0 : Int} {thm thm0 : Tok} {now : Int} {tn : Tok} {ct ct0 : Int} {tct tct0 : Tok}
    (B : Below callerA h₀ [] h₀) (X : (hd.heap_39 w.params).In h₀) (T : Top hd.view_39 loose mean mg mb h₀) (hu : 0 ≤ u) (hu9 : u ≤ 9) (hn : 0 ≤ now) (hn4 : now ≤ 40)
    (I : LInvE h₀ L k NC NF x d du ch kd u tu tu2 mv mv2 hm hm0 thm thm0 now tn ct ct0 tct tct0 s.heap)
    (ret : ∀ h' tk', LInvE h₀ L k NC NF x d du ch kd u tu tu2 mv mv2 hm hm0 thm thm0 now tn ct ct0 tct tct0 h' → wpAny (model pr w) (callerA.deeper (lawEnv L a cd)) (execs (lawB 10) (lawEnv L a cd)) Q E { s with heap := h', toks := tk' }) :
    wpAny (model pr w) (callerA.deeper (lawEnv L a cd)) (execs (lawB 9) (lawEnv L a cd)) Q E s := by
  obtain ⟨m, NW, S, ws, us, nW, nS, rs, qs, ot, vz, I⟩ := I
  rw [lastFor.2]
  refine wpAny_execs_cons (wpAny_For (last_iter B I.F X T hu hu9 hn hn4 I.vars ?_) ?_)
  · intro R h1 tk1 b c t v y hR hc hb F1 K1
    obtain ⟨n, hsz, hsm⟩ := range_some b c (by omega) (by omega) (by omega) (by omega)
    refine wpAny_pyIter_range hR hsm ?_
    rw [hsz]
    have I1 := I.keep K1 (by simp)
    have hI0 : h₀.get? h1.objs.size = none := next_is_new F1
    have up : ∀ (o : Obj) b' o', h1.get? b' = some o' → (h1.push o).get? b' = some o' := fun o b' o' e => Heap.get?_push_of_some _ e
    refine range_loop (st := c) (a := 0) (n := n) (by rfl) (fun _ h => LInvE h₀ L k NC NF x d du ch kd u tu tu2 mv mv2 hm hm0 thm thm0 now tn ct ct0 tct tct0 h) (by intro _; rfl) (Heap.get?_push_size _ rfl) ⟨_, _, _, _, _, _, _, _, _, _, _, I1.keep (ts := []) (fun b' o' _ e => up _ b' o' e) (by simp)⟩ ?_ ?_ ?_
    · rintro i h h' y z ⟨m, NW, S, ws, us, nW, nS, rs, qs, ot, vz, I⟩ hit hk
      refine ⟨m, NW, S, ws, us, nW, nS, rs, qs, ot, vz, I.keep (ts := [h1.objs.size]) (fun b o hb e => hk b o hb e) fun b hb => ?_⟩
      rw [List.mem_singleton.mp hb]
      exact ⟨I.off hit, hI0, iter_tup hit⟩
    · rintro i h tk t y z E' hi ⟨m, NW, S, ws, us, nW, nS, rs, qs, ot, vz, I⟩ hit
      generalize (0 : Int) + (i : Int) * c = tm
      show wpAny _ _ (assign (.Name (Str.ofString "time") _) _ _) _ _ _
      refine wpAny_assign_Name (wpAny_storeName_cell (c := L + 1 + 1) (by rfl) (by with_unfolding_all rfl) (by rfl) ⟨ot, I.N.get (by k_mem), I.cell⟩ fun h' hv hs => ?_)
      obtain ⟨ot', ho', hd'⟩ := hv
      have K : Kept [L + 1 + 1] h h' := fun b o hb e => (hs.2 b (fun q => hb (by rw [q]; exact .head _))).trans e
      have nl := (I.N (L + 1 + 1, ot) (by k_mem)).2
      have F' : Fr h₀ L h' m := fr_touch I.F K (fun q => nl.1 (List.mem_singleton.mp q).symm) fun b hb => by rw [List.mem_singleton.mp hb]; exact nl.2
      have d1 := List.pairwise_cons.mp I.dis
      have d2 := List.pairwise_cons.mp d1.2
      have d3 := List.pairwise_cons.mp d2.2
      have d4 := List.pairwise_cons.mp d3.2
      have nt := I.nt
      have hnl : ∀ b ∈ [L + 1 + 1], ∀ its, h.get? b ≠ some (tupObj its) := fun b hb => nt b (by rw [List.mem_singleton.mp hb]; k_mem)
      have one : ∀ (b : Addr) (o : Obj), h.get? b = some o → @Ne Nat b (L + 1 + 1) → h'.get? b = some o := fun b o e q => K b o (fun hb => q (List.mem_singleton.mp hb)) e
      refine last_turn (s := { s with heap := h', toks := tk }) (tt := t) (tm := tm) B F' X T
        (news_cons' (one _ _ (I.N.get (by k_mem)) (d1.1 _ (by k_mem))) (I.N (x, instObj 77 d) (by k_mem)).2 (news_cons' (one _ _ (I.N.get (by k_mem)) (d2.1 _ (by k_mem))) (I.N (d, netDict k NC u tu mv hm thm ct tct NW NF) (by k_mem)).2
          (news_cons' (one _ _ (I.N.get (by k_mem)) (d3.1 _ (by k_mem))) (I.N (NW, W.listOf (List.toArray ws) nW) (by k_mem)).2 (news_cons' ho' nl
            (news_cons' (one _ _ (I.N.get (by k_mem)) (Ne.symm (d4.1 _ (by k_mem)))) (I.N (S, W.listOf (List.toArray us) nS) (by k_mem)).2 .nil)))))
        hd' (rows_mono (fun v r => rowNet_keep K hnl) I.net) (rows_mono (fun v r => due_keep K hnl) I.due) I.sort I.len I.nd I.dis I.vars ?_
      intro h4 tk4 m4 NW4 nW4 ws4 S4 nS4 us4 F4 N4 D4 R4 Q4 K4 M4
      have hoff := I.off hit
      refine ⟨h4, tk4, rfl, ⟨m4, NW4, S4, ws4, us4, nW4, nS4, _, _, ot', _, {
        F := F4, N := N4, cell := hd', dis := D4, net := R4, due := Q4, sort := I.sort.filter _, len := Nat.le_trans (List.length_filter_le _ _) I.len, nd := I.nd.sublist (List.filter_sublist.map _), top := fun r hr => I.top r ((List.mem_filter.mp hr).1), vars := M4 }⟩, K4 _ _ (fun q => hoff ?_) (one _ _ hit fun q => hoff ?_)⟩
      · simp only [List.mem_cons, List.not_mem_nil, or_false] at q ⊢
        rcases q with q | q | q | q <;> simp [q]
      · rw [show h1.objs.size = L + 1 + 1 from q]; k_mem
    · intro h tk hj
      exact ret h tk hj
  · intro _; rfl
end Mine

end
namespace Mine
theorem flush_end {prog : Program} {w : World} {A : Around} {Q : Flow → Shared → Prop} {E : Value → Shared → Prop} {s : Shared} {env : Env} (h : wpAny (model prog w) A (execs [] env) Q E s) : wpAny (model prog w) A (execs [] env) Q E s := by
  k_with_none
  w_top off
  first | (walk1; fail) | exact h
end Mine

section
open PyProof.V
namespace Mine
theorem words_end : True := by
  k_with_none
  k_with "own ne" => (refine neN ?_; (try dsimp only); first | with_reducible assumption | (refine Ne.symm ?_; with_reducible assumption) | k_extra "own and" | (refine Ne.symm ?_; k_extra "own and"))
  k_with "own right" => (iterate 9 (first | done | with_reducible assumption | apply And.right))
  k_with "own and" => first | (apply And.left; k_extra "own right"; done) | (k_extra "own right"; done) | (apply And.left; apply And.left; k_extra "own right"; done) | (apply And.left; apply And.right; apply And.left; k_extra "own right"; done) | (apply And.right; apply And.left; k_extra "own right"; done) | (apply And.right; apply And.right; apply And.left; k_extra "own right"; done)
  k_with "own eval ListComp" => (k_here; (with_reducible show wpAny _ _ (eval (PySem.Expr.ListComp _ [⟨PySem.Expr.Tuple _ _ _, _, _, _⟩] _ _) _) _ _ _); k_dflt (refine ListComp_tup (nps := [(Str.ofString "moment", _), (Str.ofString "order", _), (Str.ofString "told", _)]) (F₀ := by k_asm) (by rfl) (by with_unfolding_all rfl) (by decide) (by rfl) (by decide) (by decide) (by decide) ?_))
  k_with "own call ref" => (k_here; (k_dflt show wpAny _ _ (call (Value.ref 74) [Value.ref _, Value.int _ _]) _ _ _); refine Stop.call ?_)
  k_with "own call ref" => (k_here; (k_dflt show wpAny _ _ (call (Value.ref 69) [Value.ref _]) _ _ _); refine Stop.call ?_)
  k_with "own call ref" => (k_here; (k_dflt show wpAny _ _ (call (Value.ref 29) [Value.bytes _ _, Value.int _ _]) _ _ _); refine Stop.call ?_)
  k_with "own compareOp NotEq ref ref" => (k_here; (with_reducible show wpAny _ _ (compareOp CmpOp.NotEq (Value.ref _) (Value.ref _)) _ _ _); refine Stop.cmp ?_)
  trivial

theorem bInts_eq {a b : Array UInt8} (h : KBw.bInts a = KBw.bInts b) : a = b := Array.toList_inj.mp (bInts_inj h)

theorem end_spec {w : World} {loose : List Str} {mean : ExcName → Option Value} {mg mb : Str → Option Value} {a : Addr} {cd : Value} {h₀ : Heap} {L : Addr} {s : Shared} {Q : Flow → Shared → Prop} {E : Value → Shared → Prop}
    {k : NK} {NC NF x d du ch kd : Addr} {u : Int} {tu tu2 : Tok} {mv mv2 : Value} {hm hm0 : Int} {thm thm0 : Tok} {now : Int} {tn : Tok} {ct ct0 : Int} {tct tct0 : Tok}
    (B : Below callerA h₀ [] h₀) (X : (hd.heap_39 w.params).In h₀) (T : Top hd.view_39 loose mean mg mb h₀) (hu : 0 ≤ u) (hu9 : u ≤ 9) (hn : 0 ≤ now) (hn4 : now ≤ 40)
    (I : LInvE h₀ L k NC NF x d du ch kd u tu tu2 mv mv2 hm hm0 thm thm0 now tn ct ct0 tct tct0 s.heap)
    (ret : ∀ h' tk' m', Fr h₀ L h' m' → Q (.ret (.bool true)) { s with heap := h', toks := tk' }) :
    wpAny (model pr w) (callerA.deeper (lawEnv L a cd)) (execs (lawB 10) (lawEnv L a cd)) Q E s := by
  obtain ⟨m, NW, S, ws, us, nW, nS, rs, qs, ot, vz, I⟩ := I
  have F := I.F
  have N := I.N
  have hr := I.net
  have hq := I.due
  have hs := I.sort
  have hlen := I.len
  have hnd := I.nd
  have dis := I.dis
  have hot := I.cell
  have hM := I.vars
  have htop := I.top
  clear I
  have hql := rows_len hq
  have hqn := hs.1.length_eq
  have d1 := List.pairwise_cons.mp dis
  have d2 := List.pairwise_cons.mp d1.2
  have d3 := List.pairwise_cons.mp d2.2
  have d4 := List.pairwise_cons.mp d3.2
  have e_xd := d1.1 d (by k_mem)
  have e_xw := d1.1 NW (by k_mem)
  have e_xl := d1.1 (L + 1 + 1) (by k_mem)
  have e_xs := d1.1 S (by k_mem)
  have e_dw := d2.1 NW (by k_mem)
  have e_dl := d2.1 (L + 1 + 1) (by k_mem)
  have e_ds := d2.1 S (by k_mem)
  have e_wl := d3.1 (L + 1 + 1) (by k_mem)
  have e_ws := d3.1 S (by k_mem)
  have e_ls := d4.1 S (by k_mem)
  clear d1 d2 d3 d4
  have hn0 : ∀ b ∈ [x, d, NW], ∀ its, s.heap.get? b ≠ some (tupObj its) := fc (no_tup (N.get (by k_mem)) fun _ => inst_tup) (fc (no_tup (N.get (by k_mem)) fun _ => dict_tup) (fc (no_tup (N.get (by k_mem)) fun _ => list_tup) fn))
  rw [mset_self _ hM] at F
  clear hM
  dsimp only [mset] at F
  delta pr at *; revert X; k_fill; intro X
  dsimp only [lawEnv, lawItem, lawB, List.drop]
  show wpAny _ _ (execs _ _) _ _ _
  k_steps
  refine Stop.open ?_
  refine arr_use (by k_asm) (by k_asm) (by k_asm) (by k_asm) (by exact rfl) (by ktr_room) (by ktr_units) (by k_asm) ?off hr (by omega) hnd e_xd e_xw e_dw fun R h1 tk1 NW' nR nW' us1 ws1 qs1 hS1 hT1 hW1 F1 N1 ne1 K1 => ?_
  case off =>
    exact fc (not_three (Ne.symm e_xl) (Ne.symm e_dl) (Ne.symm e_wl)) (fc (not_three (Ne.symm e_xs) (Ne.symm e_ds) (Ne.symm e_ws)) fn)
  rw [List.filter_eq_self.mpr (fun r hr => decide_eq_true (by have := htop r hr; omega))] at hS1
  rw [List.filter_eq_nil_iff.mpr (fun r hr => by have := htop r hr; simp only [decide_eq_true_eq]; omega)] at hW1
  have hqq := hs.uniq hS1
  subst hqq
  clear F N e_xw e_xl e_xs e_dw e_dl e_ds e_wl e_ws e_ls
  dsimp only at K1
  k_steps
  have hn1 : ∀ b ∈ [L, R, x, d, NW', L + 1 + 1, S], ∀ its, h1.get? b ≠ some (tupObj its) := fc (fun _ => ns_tup F1.ns) (fc (no_tup (N1.get (by k_mem)) fun _ => list_tup) (fc (no_tup (N1.get (by k_mem)) fun _ => inst_tup) (fc (no_tup (N1.get (by k_mem)) fun _ => dict_tup) (fc (no_tup (N1.get (by k_mem)) fun _ => list_tup) (fc (no_tup (N1.get (by k_mem)) fun its e => by rw [e] at hot; cases hot) (fc (no_tup (N1.get (by k_mem)) fun _ => list_tup) fn))))))
  have hq1 : RowsAre (RowDue h1) us qs := rows_mono (fun v r => due_keep K1 hn0) hq
  obtain ⟨tl, N2, off2, K2⟩ := with_rest F1 N1
  simp only [List.cons_append, List.nil_append, List.map_cons, List.map_nil] at N2 off2 K2
  have nx := ne1 x (by k_mem)
  have nd := ne1 d (by k_mem)
  have nxd := e_xd
  clear N1 e_xd
  refine TupSrc.ledger (by rfl) (by k_asm) (by k_asm) (by k_mem) (by rw [List.size_toArray, sizeLine_eq]; omega) (fun i ys news => FiP (ToldNet h1) (fun r => true) qs _ i ys news) ⟨rfl, trivial⟩ (fun gg => tup_turn2 ?_) ?_
  · rintro i ys news v hv ⟨rfl, hys⟩
    refine due_at hq1 (by simpa using hv) fun r ra rb arr t1 t2 t3 t4 t5 hri hrow er hra hrb hrd => ?_
    subst er
    clear hrow
    refine ⟨ra, _, rfl, rfl, fun h F N => ⟨_, K2 h _ F (news_sub N fun p hp => by repeat (first | exact hp | refine List.Mem.tail _ ?_)) _ _ (fun hb => hn1 ra hb _ hra) hra, rfl, _, rfl⟩, ?_⟩
    intro I oI C oC D m₂ h tk E' hC hm F N off ne
    have x3 : m₂ (Str.ofString "told") = some (.ref rb) := hm 2 _ _ rfl rfl
    refine wpAny_tests_nil ?_
    simp only [if_true]
    clear hm
    k_steps
    exact TurnEnd.same (by k_asm) (by k_asm) off (.inr ⟨_, by k_mem, rfl, _, rfl⟩) (FiP.yes hys hri ⟨rb, arr, t3, t4, t5, rfl, hrb, hrd⟩ rfl)
  · rintro gg us2 nws ⟨rfl, hys⟩ D3 h3 tk3 F N off3
    (try dsimp only)
    rw [List.size_toArray, hql, List.take_length, List.filter_eq_self.mpr (fun _ _ => rfl)] at hys
    clear F1 N2
    have K3 : Kept [L, R, x, d, NW', L + 1 + 1, S] h1 h3 := K2 h3 _ F (news_sub N fun p hp => by repeat (first | exact hp | refine List.Mem.tail _ ?_))
    have hT3 : RowsAre (ToldNet h3) us1 qs := rows_mono (fun v r => told_keep K3 hn1) hT1
    have hT4 : RowsAre (ToldNet h3) us2 qs := rows_mono (fun v r => told_keep K3 hn1) hys
    have hW3 : RowsAre (RowNet h3) ws1 [] := rows_mono (fun v r => rowNet_keep K3 hn1) hW1
    k_steps
    refine Stop.open ?_
    refine ne_told (us := us1) (vs := us2) (qs := qs) (News.isList (by k_asm) (by k_mem)) (News.isList (by k_asm) (by k_mem)) hT3 hT4 (by ktr_units) ?_
    k_steps
    refine Stop.open ?_
    refine ntime_use (by k_asm) (by k_asm) (by k_asm) (by k_asm) (by exact rfl) (by ktr_room) (by ktr_units) (by k_asm) (by k_mem) (by k_mem) (by k_mem) hW3 (by simp) nxd nx.2 nd.2 (fun _ h4 tk4 F4 N4 => ?_) (fun M t h4 tk4 hM => nomatch hM)
    clear F N
    k_steps
    refine Stop.open ?_
    refine chg_use (by k_asm) (by k_asm) (by k_asm) (by k_asm) (by exact rfl) (by ktr_room) (by ktr_units) (by decide) (by k_asm) fun b1 t1 h5 tk5 F5 N5 hb1 => ?_
    have q1 : b1 = #[] := bInts_eq (hb1.trans (by decide))
    subst q1
    clear F4 N4 hb1
    k_steps
    refine Stop.open ?_
    refine chg_use (by k_asm) (by k_asm) (by k_asm) (by k_asm) (by exact rfl) (by ktr_room) (by ktr_units) (by decide) (by k_asm) fun b2 t2 h6 tk6 F6 N6 hb2 => ?_
    have q2 : b2 = #[97, 99] := bInts_eq (hb2.trans (by decide))
    subst q2
    clear F5 N5 hb2
    k_steps
    rw [show ((#[97, 99] : Array UInt8).toList != (#[97, 98] : Array UInt8).toList) = true from by decide]
    exact ret _ _ _ F6
end Mine

end
namespace Mine
theorem flush_mid {prog : Program} {w : World} {A : Around} {Q : Flow → Shared → Prop} {E : Value → Shared → Prop} {s : Shared} {env : Env} (h : wpAny (model prog w) A (execs [] env) Q E s) : wpAny (model prog w) A (execs [] env) Q E s := by
  k_with_none
  w_top off
  first | (walk1; fail) | exact h
end Mine

section
open PyProof.V
namespace Mine

theorem mid_spec {w : World} {loose : List Str} {mean : ExcName → Option Value} {mg mb : Str → Option Value} {a : Addr} {cd : Value} {h₀ : Heap} {c : LC} {n : Nat} {s : Shared} {Q : Flow → Shared → Prop} {E : Value → Shared → Prop} {oz : Obj} {vz : Option Value}
    (B : Below callerA h₀ [] h₀) (X : (hd.heap_39 w.params).In h₀) (T : Top hd.view_39 loose mean mg mb h₀) (O : c.Ok h₀) (hn : n ≤ 10) (IE : InvE w h₀ c n s.heap)
    (hz : c.L + 1 + 1 ∉ c.L :: c.all) (hz0 : h₀.get? (c.L + 1 + 1) = none) (hz1 : s.heap.get? (c.L + 1 + 1) = some oz) (hz2 : oz.data = .cell vz)
    (ret : ∀ h' tk' m', Fr h₀ c.L h' m' → Q (.ret (.bool true)) { s with heap := h', toks := tk' }) :
    wpAny (model pr w) (callerA.deeper (lawEnv c.L a cd)) (execs (lawB 6) (lawEnv c.L a cd)) Q E s := by
  obtain ⟨m, od, g0, x0, nC, ws, nW, fs, nF, ds, nD, hm, thm, thm2, now, tn, ct, tct, tct2, rs, F, I⟩ := IE
  have f_x := O.fresh c.x (by k_mem)
  have f_d := O.fresh c.d (by k_mem)
  have f_NW := O.fresh c.NW (by k_mem)
  have f_du := O.fresh c.du (by k_mem)
  have nd := O.nodup
  have nd2 := (List.pairwise_cons.mp (List.pairwise_cons.mp (List.pairwise_cons.mp (List.pairwise_cons.mp nd).2).2).2).2
  have e_x := (List.pairwise_cons.mp nd2).1
  have nd3 := (List.pairwise_cons.mp (List.pairwise_cons.mp nd2).2).2
  have e_d := (List.pairwise_cons.mp nd3).1
  have e_xd := e_x c.d (by k_mem)
  have e_xw := e_x c.NW (by k_mem)
  have e_dw := e_d c.NW (by k_mem)
  have hlen : rs.length ≤ 60 := by have := I.few; omega
  have hnd := rows_nodup I.rows.ord
  have nt := I.nt F O.cell
  have hnL : ∀ b ∈ [c.L], ∀ its, s.heap.get? b ≠ some (tupObj its) := fun b hb => nt b (by rw [List.mem_singleton.mp hb]; exact .head _)
  show wpAny _ _ (execs ((lawB 6).take 2 ++ lawB 8) _) _ _ _
  refine p1_spec (ws := ws.toList) (ds := ds.toList) B F X T (news_cons' I.o5 f_x (news_cons' I.o7 f_d (news_cons' I.o9 f_NW (news_cons' I.o6 f_du .nil)))) I.net I.due hlen hnd e_xd e_xw e_dw I.vars fun h1 tk1 m1 F1 K1 M1 => ?_
  have k1 : ∀ (b : Addr) (o : Obj), b ≠ c.L → s.heap.get? b = some o → h1.get? b = some o := fun b o hb e => K1 b o (fun q => hb (List.mem_singleton.mp q)) e
  show wpAny _ _ (execs ((lawB 8).take 1 ++ lawB 9) _) _ _ _
  refine p2_spec (s := { s with heap := h1, toks := tk1 }) (u := c.u) (tu2 := c.tu) (ds := ds.toList) B F1 X T (news_cons' (k1 _ _ f_du.1 I.o6) f_du .nil) (rows_mono (fun v r => due_keep K1 hnL) I.due) hlen hnd M1 ?_
  intro h2 tk2 m2 S us qs nS hS hU F2 gS nS1 nS2 nS3 K2 M2
  have K12 : Kept [c.L] s.heap h2 := kept_trans K1 K2
  have k2 : ∀ (b : Addr) (o : Obj), b ≠ c.L → s.heap.get? b = some o → h2.get? b = some o := fun b o hb e => K12 b o (fun q => hb (List.mem_singleton.mp q)) e
  have sNe : ∀ (b : Addr) (o : Obj), b ≠ c.L → s.heap.get? b = some o → @Ne Nat b S := fun b o hb e q => by
    have := k1 b o hb e
    rw [show b = S from q] at this
    rw [show h1.get? S = none from nS3] at this
    cases this
  have hzL : c.L + 1 + 1 ≠ c.L := fun q => hz (by rw [q]; exact .head _)
  have zNe : ∀ b ∈ c.all, @Ne Nat b (c.L + 1 + 1) := fun b hb q => hz (.tail _ (by rw [← show b = c.L + 1 + 1 from q]; exact hb))
  have hI : LInvE h₀ c.L c.k c.NC c.NF c.x c.d c.du c.ch c.kd c.u c.tu c.tu (moV c.mo c.tmo) (moV c.mo c.tmo) hm hm thm thm2 now tn ct ct tct tct2 h2 := by
    refine ⟨m2, c.NW, S, ws.toList, us, nW, nS, rs, qs, oz, vz, ?_⟩
    exact {
      F := F2
      N := news_cons' (k2 _ _ f_x.1 I.o5) f_x (news_cons' (k2 _ _ f_d.1 I.o7) f_d (news_cons' (k2 _ _ f_NW.1 I.o9) f_NW (news_cons' (k2 _ _ hzL hz1) ⟨hzL, hz0⟩ (news_cons' gS ⟨nS1, nS2⟩ .nil))))
      cell := hz2
      dis := by
        refine .cons ?_ (.cons ?_ (.cons ?_ (.cons ?_ (.cons (fun _ h => nomatch h) .nil))))
        · intro b hb
          simp only [List.mem_cons, List.not_mem_nil, or_false] at hb
          rcases hb with rfl | rfl | rfl | rfl
          · exact e_xd
          · exact e_xw
          · exact zNe _ (by k_mem)
          · exact sNe _ _ f_x.1 I.o5
        · intro b hb
          simp only [List.mem_cons, List.not_mem_nil, or_false] at hb
          rcases hb with rfl | rfl | rfl
          · exact e_dw
          · exact zNe _ (by k_mem)
          · exact sNe _ _ f_d.1 I.o7
        · intro b hb
          simp only [List.mem_cons, List.not_mem_nil, or_false] at hb
          rcases hb with rfl | rfl
          · exact zNe _ (by k_mem)
          · exact sNe _ _ f_NW.1 I.o9
        · intro b hb
          rw [List.mem_singleton.mp hb]
          exact sNe _ _ hzL hz1
      net := rows_mono (fun v r => rowNet_keep K12 hnL) I.net
      due := hU
      sort := hS
      len := hlen
      nd := hnd
      top := I.rows.top
      vars := M2 }
  have hu0 := O.u0
  have hu1 := O.u1
  have n0 := I.now0
  have n1 := I.now1
  refine last_spec (s := { s with heap := h2, toks := tk2 }) B X T hu0 hu1 n0 (by omega) hI fun h3 tk3 I3 => ?_
  exact end_spec (s := { s with heap := h3, toks := tk3 }) B X T hu0 hu1 n0 (by omega) I3 ret
end Mine

end
namespace Mine
theorem flush_a1 {prog : Program} {w : World} {A : Around} {Q : Flow → Shared → Prop} {E : Value → Shared → Prop} {s : Shared} {env : Env} (h : wpAny (model prog w) A (execs [] env) Q E s) : wpAny (model prog w) A (execs [] env) Q E s := by
  k_with_none
  w_top off
  first | (walk1; fail) | exact h
end Mine

section
open PyProof.V
namespace Mine
theorem words_a1 : True := by
  k_with_none
  k_with "own ne" => (refine neN ?_; (try dsimp only); first | with_reducible assumption | (refine Ne.symm ?_; with_reducible assumption) | k_extra "own and" | (refine Ne.symm ?_; k_extra "own and"))
  k_with "own right" => (iterate 9 (first | done | with_reducible assumption | apply And.right))
  k_with "own and" => first | (apply And.left; k_extra "own right"; done) | (k_extra "own right"; done) | (apply And.left; apply And.left; k_extra "own right"; done) | (apply And.left; apply And.right; apply And.left; k_extra "own right"; done) | (apply And.right; apply And.left; k_extra "own right"; done) | (apply And.right; apply And.right; apply And.left; k_extra "own right"; done)
  k_with "own call ref" => (k_here; (k_dflt show wpAny _ _ (call (Value.ref 88) [Value.ref _, Value.int _ _]) _ _ _); k_dflt (refine' take_use (by k_asm) (by k_asm) (by k_asm) (by k_asm) (by k_asm) (by exact rfl) (by k_updF) (by assumption) (by assumption) (by ktr_room) (by ktr_units) (by assumption) (by assumption) (by decide) (by decide) ?_); intro r'w t'w h'w tk'w o'w g'w x'w hr0'w hr1'w hg'w hx'w hD'w F'w N'w; (try dsimp only at N'w))
  k_with "own call ref" => (k_here; (k_dflt show wpAny _ _ (call (Value.ref 93) [Value.ref _]) _ _ _); refine Stop.call ?_)
  k_with "own exec Assign cons ListComp" => (k_here; (with_reducible show wpAny _ _ (exec (Stmt.Assign [PySem.Expr.Name _ _] (PySem.Expr.ListComp _ [⟨PySem.Expr.Name _ _, _, [], _⟩] _ _) _) _) _ _ _); refine Stop.exec ?_)
  trivial

def TkK (w : World) (dd : Addr) (post : List (Addr × Obj)) (bnd : Int) (i : Nat) (ys : List Value) (news : List (Addr × Obj)) : Prop :=
  ∃ o g x zs, news = (dd, o) :: post ∧ IsDraws w o g x ∧ 0 ≤ g ∧ 0 ≤ x ∧ IntsAre ys zs ∧ zs.length = i ∧ ∀ z ∈ zs, 0 ≤ z ∧ z < bnd

/-- as `Assign_ListComp_U`, the source left alone by the walker -/
theorem Assign_U2 {prog : Program} {w : World} {A : Around} {E : Value → Shared → Prop} {s : Shared} {h₀ : Heap} {L : Addr} {m : Str → Option Value} {env : Env} {elt iter : PySem.Expr} {x y : Str} {px py : Pos} {scope : Scope} {cl : List (Str × Addr)} {pos spos : Pos} {Q : Flow → Shared → Prop} (F₀ : Fr h₀ L s.heap m) (hLe : env.locals = L)
    (hsw : swapsWith (.ListComp elt [⟨.Name x px, iter, [], 0⟩] scope pos) (some (.Name y py)) spos.line env = pure true)
    (hclos : closureFor scope env = pure cl) (hcell : ∀ z ∈ scope.names, z.2 ≠ .cell) (hkind : scope.kind = .function)
    (hnames : ∀ z ∈ scope.names, z.2 = .local → scope.names.lookup z.1 = some .local) (hx : scope.names.lookup x = some .local)
    (hy : env.kindOf y = some .local) (hp : (env.scope.kind == .class || (env.scope.kind == .module && env.locals != env.globals)) = false)
    (h : wpAny (model prog w) A (eval iter env) (SrcEnd prog w A h₀ L m env elt x scope cl (fun s₂ => LCg.FinA h₀ L m s₂ y Q)) E s)
    (hs : ∀ x, foldedSetIterable iter env x = pure x := by intro _; rfl) :
    wpAny (model prog w) A (exec (.Assign [.Name y py] (.ListComp elt [⟨.Name x px, iter, [], 0⟩] scope pos) spos) env) Q E s := LCg.Assign_ListComp_U F₀ hLe hsw hclos hcell hkind hnames hx hy hp h hs

theorem a1_spec {w : World} {loose : List Str} {mean : ExcName → Option Value} {mg mb : Str → Option Value} {a : Addr} {cd : Value} {h₀ : Heap} {L : Addr} {m : Str → Option Value} {s : Shared} {Q : Flow → Shared → Prop} {E : Value → Shared → Prop} {rest : List Stmt}
    {l : Addr} {vs : List Value} {ns : List Int} {ot oc : Obj}
    (B : Below callerA h₀ [] h₀) (F : Fr h₀ L s.heap m) (X : (hd.heap_39 w.params).In h₀) (T : Top hd.view_39 loose mean mg mb h₀)
    (N : News h₀ L s.heap [(L + 1 + 1, ot), (L + 1, oc)]) (hoc : oc.data = .cell none) (hl : h₀.IsList l vs.toArray) (hi : IntsAre vs ns) (hns : ns.length ≤ 63)
    (hM : MHas m [(Str.ofString "script", .ref l)])
    (ret : ∀ h' tk' m' dd ch od oc' g0 x0 (vs' : List Value) cs nCh, IsDraws w od g0 x0 → 0 ≤ g0 → 0 ≤ x0 → (dd == sysModules) = false → oc'.data = .cell (some (.ref dd)) → IntsAre vs' cs → cs.length ≤ 60 → Fr h₀ L h' m' →
      News h₀ L h' [(ch, W.listOf vs'.toArray nCh), (dd, od), (L + 1 + 1, ot), (L + 1, oc')] → LCg.Off1 ch [(dd, od), (L + 1 + 1, ot), (L + 1, oc')] → LCg.Off1 dd [(L + 1 + 1, ot), (L + 1, oc')] → MHas m' [(Str.ofString "choices", .ref ch)] →
      wpAny (model pr w) (callerA.deeper (lawEnv L a cd)) (execs rest (lawEnv L a cd)) Q E { s with heap := h', toks := tk' }) :
    wpAny (model pr w) (callerA.deeper (lawEnv L a cd)) (execs ((lawB 0).take 2 ++ rest) (lawEnv L a cd)) Q E s := by
  rw [mset_self _ hM] at F
  clear hM
  dsimp only [mset] at F
  delta pr at *; revert X; k_fill; intro X
  dsimp only [lawEnv, lawItem, lawB, List.take, List.drop, List.cons_append, List.nil_append]
  show wpAny _ _ (execs _ _) _ _ _
  k_steps
  refine Stop.open ?_
  refine draws_use (by k_asm) (by k_asm) (by k_asm) (by k_asm) (by k_asm) (by exact rfl) (by ktr_room) (by ktr_units) hl hi hns fun dd h1 tk1 od g1 x1 hg1 hx1 hD1 hlo F1 N1 off1 => ?_
  clear F N
  have off2 := off1
  simp only [LCg.Off1, and_true] at off2
  k_steps
  rename_i h2 oc2 F2 N2 d2
  refine Stop.open ?_
  refine Assign_U2 (F₀ := by k_asm) (by rfl) (by with_unfolding_all rfl) (by with_unfolding_all rfl) (by decide) (by rfl) (by decide) (by rfl) (by rfl) (by rfl) ?_
  k_steps
  rename 0 ≤ _ => hr0
  rename _ < (13 : Int) => hr1
  refine LCg.CompSrc.range (by rfl) (by k_asm) (by k_asm) (by assumption) (by exact small_one (by omega) (by omega) (by omega) (by omega)) (rangeSize_nat _ _) (by rw [sizeLine_eq]; omega) fun gg => ?_
  refine comp_U2 (fun i ys news => TkK w dd _ 60 i ys news) ⟨_, _, _, [], rfl, by assumption, by assumption, by assumption, .nil, rfl, fun _ h => nomatch h⟩ ?_ ?_
  · rintro i ys news v I oI C oC D m₂ h tk E' hin ⟨o, g, xx, zs, rfl, hD1, hg1, hx1, hz, hzl, hzb⟩ hv hC hx F N off3 ne
    obtain ⟨t9, rfl⟩ := hv
    have off4 := off3
    simp only [LCg.Off3, and_true] at off4
    k_steps
    rename 0 ≤ _ => q0
    rename _ < (60 : Int) => q1
    refine TurnEnd.same (by k_asm) (by k_asm) ?off trivial ⟨_, _, _, _, rfl, by assumption, by assumption, by assumption, hz.append (.cons _ _ .nil), by rw [List.length_append, hzl]; rfl, fun z hz' => (List.mem_append.mp hz').elim (hzb z) fun hz' => by rw [List.mem_singleton.mp hz']; exact ⟨by assumption, q1⟩⟩
    case off => exact off3
  · rintro ys news ⟨o, g, xx, zs, rfl, hD1, hg1, hx1, hz, hzl, hzb⟩ D h tk F N off3
    (try dsimp only)
    k_steps
    exact ret _ _ _ dd D o oc2 g xx ys zs _ hD1 hg1 hx1 hlo d2 hz (by omega) F N off3 ⟨off1.1, off1.2.1, trivial⟩ (List.forall_mem_cons.mpr ⟨by exact rfl, List.forall_mem_nil _⟩)
end Mine

end
namespace Mine
theorem flush_a2 {prog : Program} {w : World} {A : Around} {Q : Flow → Shared → Prop} {E : Value → Shared → Prop} {s : Shared} {env : Env} (h : wpAny (model prog w) A (execs [] env) Q E s) : wpAny (model prog w) A (execs [] env) Q E s := by
  k_with_none
  w_top off
  first | (walk1; fail) | exact h
end Mine

section
open PyProof.V
namespace Mine
theorem words_a2 : True := by
  k_with_none
  k_with "own ne" => (refine neN ?_; (try dsimp only); first | with_reducible assumption | (refine Ne.symm ?_; with_reducible assumption) | k_extra "own and" | (refine Ne.symm ?_; k_extra "own and"))
  k_with "own right" => (iterate 9 (first | done | with_reducible assumption | apply And.right))
  k_with "own and" => first | (apply And.left; k_extra "own right"; done) | (k_extra "own right"; done) | (apply And.left; apply And.left; k_extra "own right"; done) | (apply And.left; apply And.right; apply And.left; k_extra "own right"; done) | (apply And.right; apply And.left; k_extra "own right"; done) | (apply And.right; apply And.right; apply And.left; k_extra "own right"; done)
  k_with "own call ref" => (k_here; (k_dflt show wpAny _ _ (call (Value.ref 88) [Value.ref _, Value.int _ _]) _ _ _); k_dflt (refine' take_use (by k_asm) (by k_asm) (by k_asm) (by k_asm) (by k_asm) (by exact rfl) (by k_updF) (by assumption) (by assumption) (by ktr_room) (by ktr_units) (by assumption) (by assumption) (by decide) (by decide) ?_); intro r'w t'w h'w tk'w o'w g'w x'w hr0'w hr1'w hg'w hx'w hD'w F'w N'w; (try dsimp only at N'w))
  k_with "own subscriptTail" => (k_here; (with_reducible show wpAny _ _ (subscriptTail _ _ (Value.ref _) (Value.int _ _)) _ _ _); k_dflt (refine' most_pick (News.isList (by k_asm) (by k_mem)) (by assumption) (by assumption) ?_ (by with_unfolding_all rfl); intro mo'w t'w hmo'w))
  trivial

theorem most_pick {prog : Program} {w : World} {A : Around} {E : Value → Shared → Prop} {s : Shared} {value slice : PySem.Expr} {l : Addr} {t1 t2 t3 u : Tok} {r : Int} {Q : Value → Shared → Prop}
    (hl : s.heap.IsList l #[.none, .int 0 t1, .int 1 t2, .int 2 t3]) (h0 : 0 ≤ r) (h4 : r < 4)
    (h : ∀ mo t, (∀ q, mo = some q → (0 : Int) ≤ q) → Q (moV mo t) s)
    (hs : subscripted slice false (.ref l) (.int r u) = operate [.ref l, .int r u] (getItem (.ref l) (.int r u)) := by with_unfolding_all rfl) :
    wpAny (model prog w) A (subscriptTail value slice (.ref l) (.int r u)) Q E s := by
  refine tail_any hl.typeIs slot_list_getitem.lookup ?_ hs
  have : r = 0 ∨ r = 1 ∨ r = 2 ∨ r = 3 := by omega
  rcases this with rfl | rfl | rfl | rfl
  · exact wpAny_getItem_list hl (by decide) (by decide) rfl (h none t1 (by simp))
  · exact wpAny_getItem_list hl (by decide) (by decide) rfl (h (some 0) t1 (by intro q e; cases e; decide))
  · exact wpAny_getItem_list hl (by decide) (by decide) rfl (h (some 1) t2 (by intro q e; cases e; decide))
  · exact wpAny_getItem_list hl (by decide) (by decide) rfl (h (some 2) t3 (by intro q e; cases e; decide))

theorem dis_of {L dd ch d x NC wt ft du kd : Nat} (h1 : L + 1 ≠ dd) (h2 : L + 1 ≠ ch) (h3 : dd ≠ ch) (a1 : L + 1 < d) (a2 : dd < d) (a3 : ch < d) (b1 : d < x) (b2 : x < NC) (b3 : NC < wt) (b4 : wt < ft) (b5 : ft < du) (b6 : du < kd) :
    [L + 1, dd, ch, kd, x, du, d, NC, wt, ft].Pairwise (fun a b => @Ne Nat a b) := by
  simp only [List.pairwise_cons, List.mem_cons, List.not_mem_nil, or_false, forall_eq_or_imp, forall_eq]
  refine ⟨⟨?_, ?_, ?_, ?_, ?_, ?_, ?_, ?_, ?_⟩, ⟨?_, ?_, ?_, ?_, ?_, ?_, ?_, ?_⟩, ⟨?_, ?_, ?_, ?_, ?_, ?_, ?_⟩, ⟨?_, ?_, ?_, ?_, ?_, ?_⟩, ⟨?_, ?_, ?_, ?_, ?_⟩, ⟨?_, ?_, ?_, ?_⟩, ⟨?_, ?_, ?_⟩, ⟨?_, ?_⟩, ?_, ?_, .nil⟩
  all_goals first | omega | simp
theorem far_of {z dd ch d x NC wt ft du kd : Nat} (h1 : z ≠ dd) (h2 : z ≠ ch) (a1 : z < d) (b1 : d < x) (b2 : x < NC) (b3 : NC < wt) (b4 : wt < ft) (b5 : ft < du) (b6 : du < kd) :
    ∀ b ∈ [dd, ch, kd, x, du, d, NC, wt, ft], @Ne Nat z b := by
  simp only [List.mem_cons, List.not_mem_nil, or_false, forall_eq_or_imp, forall_eq]
  refine ⟨?_, ?_, ?_, ?_, ?_, ?_, ?_, ?_, ?_⟩
  all_goals omega

theorem a2_spec {w : World} {loose : List Str} {mean : ExcName → Option Value} {mg mb : Str → Option Value} {a : Addr} {cd : Value} {h₀ : Heap} {L : Addr} {m : Str → Option Value} {s : Shared} {Q : Flow → Shared → Prop} {E : Value → Shared → Prop} {rest : List Stmt}
    {vs : List Value} {cs : List Int} {ot oc od : Obj} {dd ch : Addr} {g0 x0 : Int} {nCh : Nat}
    (B : Below callerA h₀ [] h₀) (F : Fr h₀ L s.heap m) (X : (hd.heap_39 w.params).In h₀) (T : Top hd.view_39 loose mean mg mb h₀)
    (hD : IsDraws w od g0 x0) (hg : 0 ≤ g0) (hx : 0 ≤ x0) (hlo : (dd == sysModules) = false) (hoc : oc.data = .cell (some (.ref dd))) (hi : IntsAre vs cs) (hcs : cs.length ≤ 60)
    (N : News h₀ L s.heap [(ch, W.listOf vs.toArray nCh), (dd, od), (L + 1 + 1, ot), (L + 1, oc)])
    (off1 : LCg.Off1 ch [(dd, od), (L + 1 + 1, ot), (L + 1, oc)]) (off2 : LCg.Off1 dd [(L + 1 + 1, ot), (L + 1, oc)])
    (hM : MHas m [(Str.ofString "choices", .ref ch)])
    (ret : ∀ h' tk' m' (k : NK) kd D1 du ft wt NC x d D2 mn o1 o2 o3 od' g0' x0' u tu mo tmo thm thm2 tn tct tct2 nK nD nF nW nC k1 k2 k3 k4 k5 k6, Fr h₀ L h' m' →
      News h₀ L h' [(kd, W.listOf #[.str (Str.ofString "passed") k1, .str (Str.ofString "passed") k2, .str (Str.ofString "lost") k3, .str (Str.ofString "doubled") k4, .str (Str.ofString "delayed") k5, .str (Str.ofString "changed") k6] nK), (D1, o1),
        (du, W.listOf #[] nD), (ft, W.listOf #[] nF), (wt, W.listOf #[] nW), (NC, W.listOf vs.toArray nC), (x, instObj 77 d), (d, netDict k NC u tu (moV mo tmo) 0 thm 0 tct wt ft), (D2, o2), (mn, o3), (ch, W.listOf vs.toArray nCh), (dd, od'), (L + 1 + 1, ot), (L + 1, oc)] →
      [L + 1, dd, ch, kd, x, du, d, NC, wt, ft].Pairwise (fun a b => @Ne Nat a b) → (∀ b ∈ [dd, ch, kd, x, du, d, NC, wt, ft], @Ne Nat (L + 1 + 1) b) →
      IsDraws w od' g0' x0' → 0 ≤ g0' → 0 ≤ x0' → (∀ q, mo = some q → 0 ≤ q) → 0 ≤ u → u ≤ 9 → MHas m' (lv ch (moV mo tmo) u tu x 0 thm2 0 tn du 0 tct2 kd []) →
      wpAny (model pr w) (callerA.deeper (lawEnv L a cd)) (execs rest (lawEnv L a cd)) Q E { s with heap := h', toks := tk' }) :
    wpAny (model pr w) (callerA.deeper (lawEnv L a cd)) (execs ((lawB 2).take 3 ++ rest) (lawEnv L a cd)) Q E s := by
  have hil := hi.length
  simp only [LCg.Off1, and_true] at off1 off2
  rw [mset_self _ hM] at F
  clear hM
  dsimp only [mset] at F
  delta pr at *; revert X; k_fill; intro X
  dsimp only [lawEnv, lawItem, lawB, List.take, List.drop, List.cons_append, List.nil_append]
  show wpAny _ _ (execs _ _) _ _ _
  k_steps
  rename News h₀ L _ _ => NN
  rename Fr h₀ L _ _ => FF
  rename IsDraws w _ _ _ => DD
  rename ∀ q, _ = some q → (0 : Int) ≤ q => MO
  have e1 : @Ne Nat (L + 1) dd := off2.2
  have e2 : @Ne Nat (L + 1) ch := off1.2.2
  have e3 : @Ne Nat dd ch := off1.1
  have e4 : @Ne Nat (L + 1 + 1) dd := off2.1
  have e5 : @Ne Nat (L + 1 + 1) ch := off1.2.1
  clear off1 off2
  refine ret _ _ _ ⟨_, _, _, _, _, _, _, _, _, _, _, _, _, _⟩ _ _ _ _ _ _ _ _ _ _ _ _ _ _ _ _ _ _ _ _ _ ?_ ?_ _ ?_ _ _ _ _ _ _ _ _ _ _ _ FF NN (dis_of e1 e2 e3 ?a1 ?a2 ?a3 ?b1 ?b2 ?b3 ?b4 ?b5 ?b6) (far_of e4 e5 ?c1 ?b1 ?b2 ?b3 ?b4 ?b5 ?b6) DD ?g ?x MO ?u0 ?u1 ?mh
  case mh => repeat (first | exact List.forall_mem_nil _ | (refine List.forall_mem_cons.mpr ⟨by exact rfl, ?_⟩))
  all_goals clear e1 e2 e3 e4 e5
  all_goals omega
end Mine

end
namespace Mine
theorem flush_law {prog : Program} {w : World} {A : Around} {Q : Flow → Shared → Prop} {E : Value → Shared → Prop} {s : Shared} {env : Env} (h : wpAny (model prog w) A (execs [] env) Q E s) : wpAny (model prog w) A (execs [] env) Q E s := by
  k_with_none
  w_top off
  first | (walk1; fail) | exact h
end Mine

section
open PyProof.V
namespace Mine

theorem law_spec {w : World} {loose : List Str} {mean : ExcName → Option Value} {mg mb : Str → Option Value} {a : Addr} {cd : Value} {h₀ : Heap} {L : Addr} {m : Str → Option Value} {s : Shared} {Q : Flow → Shared → Prop} {E : Value → Shared → Prop}
    {l : Addr} {vs : List Value} {ns : List Int} {ot oc : Obj}
    (B : Below callerA h₀ [] h₀) (F : Fr h₀ L s.heap m) (X : (hd.heap_39 w.params).In h₀) (T : Top hd.view_39 loose mean mg mb h₀)
    (N : News h₀ L s.heap [(L + 1 + 1, ot), (L + 1, oc)]) (hoc : oc.data = .cell none) (hot : ot.data = .cell none) (hl : h₀.IsList l vs.toArray) (hi : IntsAre vs ns) (hns : ns.length ≤ 63)
    (hM : MHas m [(Str.ofString "script", .ref l)])
    (ret : ∀ h' tk' m', Fr h₀ L h' m' → Q (.ret (.bool true)) { s with heap := h', toks := tk' }) :
    wpAny (model pr w) (callerA.deeper (lawEnv L a cd)) (execs (lawB 0) (lawEnv L a cd)) Q E s := by
  show wpAny _ _ (execs ((lawB 0).take 2 ++ lawB 2) _) _ _ _
  refine a1_spec B F X T N hoc hl hi hns hM ?_
  intro h1 tk1 m1 dd ch od oc1 g0 x0 vs1 cs nCh hD hg hx hlo hoc1 hi1 hcs F1 N1 off1 off2 M1
  show wpAny _ _ (execs ((lawB 2).take 3 ++ lawB 5) _) _ _ _
  refine a2_spec (s := { s with heap := h1, toks := tk1 }) B F1 X T hD hg hx hlo hoc1 hi1 hcs N1 off1 off2 M1 ?_
  intro h2 tk2 m2 k kd D1 du ft wt NC x d D2 mn o1 o2 o3 od2 g2 x2 u tu mo tmo thm thm2 tn tct tct2 nK nD nF nW nC k1 k2 k3 k4 k5 k6 F2 N2 dis far hD2 hg2 hx2 hmo hu0 hu9 M2
  have z := N2 (L + 1 + 1, ot) (by k_mem)
  obtain ⟨c, hc⟩ : ∃ c : LC, c = ⟨L, dd, ch, kd, x, du, d, NC, wt, ft, oc1, vs1, cs, nCh, nK, k1, k2, k3, k4, k5, k6, k, u, tu, mo, tmo⟩ := ⟨_, rfl⟩
  have O : c.Ok h₀ := by
    subst hc
    refine ⟨fun b hb => ?_, dis, hoc1, hi1, hcs, hlo, hu0, hu9, hmo⟩
    simp only [LC.all, List.mem_cons, List.not_mem_nil, or_false] at hb
    rcases hb with rfl | rfl | rfl | rfl | rfl | rfl | rfl | rfl | rfl | rfl
    · exact (N2 (L + 1, oc1) (by k_mem)).2
    · exact (N2 (_, od2) (by k_mem)).2
    · exact (N2 (_, W.listOf vs1.toArray nCh) (by k_mem)).2
    · exact (N2 _ (.head _)).2
    · exact (N2 (_, instObj 77 d) (by k_mem)).2
    · exact (N2 _ (.tail _ (.tail _ (.head _)))).2
    · exact (N2 (_, netDict k NC u tu (moV mo tmo) 0 thm 0 tct wt ft) (by k_mem)).2
    · exact (N2 (_, W.listOf vs1.toArray nC) (by k_mem)).2
    · exact (N2 (_, W.listOf #[] nW) (by k_mem)).2
    · exact (N2 _ (.tail _ (.tail _ (.tail _ (.head _))))).2
  have I : Inv w h₀ c 0 h2 m2 od2 g2 x2 nC #[] nW #[] nF #[] nD 0 thm thm2 0 tn 0 tct tct2 [] := by
    subst hc
    exact {
      o1 := N2.get (by k_mem)
      o2 := N2.get (by k_mem)
      o3 := N2.get (by k_mem)
      o4 := N2.get (by k_mem)
      o5 := N2.get (by k_mem)
      o6 := N2.get (by k_mem)
      o7 := N2.get (by k_mem)
      o8 := N2.get (by k_mem)
      o9 := N2.get (by k_mem)
      o10 := N2.get (by k_mem)
      draws := hD2
      dg := hg2
      dx := hx2
      net := trivial
      due := trivial
      few := Nat.le_refl _
      fates := rfl
      count := rfl
      rows := ⟨rfl, fun _ h => nomatch h⟩
      now0 := Int.le_refl _
      now1 := by decide
      harm := hmo
      vars := M2 }
  have hz : c.L + 1 + 1 ∉ c.L :: c.all := by
    subst hc
    intro q
    rcases List.mem_cons.mp q with q | q
    · exact absurd q z.2.1
    · rcases List.mem_cons.mp q with q | q
      · exact absurd q (Nat.succ_ne_self _)
      · exact absurd rfl (far _ q)
  have F2' : Fr h₀ c.L h2 m2 := by subst hc; exact F2
  have z' : h2.get? (c.L + 1 + 1) = some ot ∧ c.L + 1 + 1 ≠ c.L ∧ h₀.get? (c.L + 1 + 1) = none := by subst hc; exact z
  have hL : L = c.L := by subst hc; rfl
  clear hc
  subst hL
  refine loop_spec (s := { s with heap := h2, toks := tk2 }) B X T O I F2' hz z'.1 hot fun n h3 tk3 hn IE hz3 => ?_
  exact mid_spec (s := { s with heap := h3, toks := tk3 }) B X T O hn IE hz z'.2.2 hz3 hot ret
end Mine

end
namespace Mine
theorem flush_top {prog : Program} {w : World} {A : Around} {Q : Flow → Shared → Prop} {E : Value → Shared → Prop} {s : Shared} {env : Env} (h : wpAny (model prog w) A (execs [] env) Q E s) : wpAny (model prog w) A (execs [] env) Q E s := by
  k_with_none
  w_top off
  first | (walk1; fail) | exact h
end Mine

section
open PyProof.V
namespace Mine
theorem words_top : True := by
  k_with_none
  k_with "own ne" => (refine neN ?_; (try dsimp only); first | with_reducible assumption | (refine Ne.symm ?_; with_reducible assumption) | k_extra "own and" | (refine Ne.symm ?_; k_extra "own and"))
  k_with "own right" => (iterate 9 (first | done | with_reducible assumption | apply And.right))
  k_with "own and" => first | (apply And.left; k_extra "own right"; done) | (k_extra "own right"; done) | (apply And.left; apply And.left; k_extra "own right"; done) | (apply And.left; apply And.right; apply And.left; k_extra "own right"; done) | (apply And.right; apply And.left; k_extra "own right"; done) | (apply And.right; apply And.right; apply And.left; k_extra "own right"; done)
  trivial

theorem whole : PySem.Challenge.rw_no0054_01.Holds :=
  hd (by
  k_go0
  all_goals try k_fold
  rename Fr _ _ _ _ => FF
  rename Below callerA _ _ _ => BB
  rename Frag.In _ _ => XX
  rename Top _ _ _ _ _ _ => TT
  rename News _ _ _ _ => NN
  rename PySem.Heap.IsList _ _ _ => LL
  rename IntsAre _ _ => II
  rename ¬ _ < _ => hlen
  refine law_spec BB FF XX TT NN ?hoc ?hot LL II ?len ?vars ?ret
  case hoc => refine Eq.trans (by assumption) ?_; exact rfl
  case hot => refine Eq.trans (by assumption) ?_; exact rfl
  case len => omega
  case vars => exact List.forall_mem_cons.mpr ⟨by exact rfl, List.forall_mem_nil _⟩
  case ret =>
    intro h' tk' m' F'
    clear FF NN
    k_steps)

end Mine

end

theorem PySem.Challenge.cw_no0054_01_holds : PySem.Challenge.rw_no0054_01.Holds :=
  Mine.whole
