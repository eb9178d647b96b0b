import PyProof.Rows.All
import Wide.All
import OpenK.AllK
import Wide.FinOn
import KE.KEqDict
import PyProof.NeKinds
import KE.KState
import KE.KSliceW
import PyProof.DictCompW
import PyProof.EvalArms
import KE.KDictSum
import PyProof.WalkInts
import KE.LcSums
import KE.IntBitsLaws
import Lean
import PySem.Challenge.RW_nz0240_01
set_option Elab.async false
set_option linter.unusedVariables false
set_option linter.deprecated false
-- Top240
section
open PySem PySem.W PyProof.Rows
namespace N240
set_option maxRecDepth 100000 in
set_option maxHeartbeats 8000000 in
open_top hd for PySem.Challenge.rw_nz0240_01
end N240
end
-- Base240
section
open PySem PySem.W PyProof.Rows PySem.Spec PySem.Calls
namespace N240
/-- a goal that hides while something is taken apart -/
theorem hideE {T : Prop} (k : ∀ G : Prop, (T → G) → G) : T := k T id
abbrev Led := List (Addr × Obj)
abbrev pg : Program := PySem.Challenge.rw_nz0240_01.row.prog
/-- what a call of f upon vs does, whatever stands around: the ledger news becomes news', the value v -/
def FnOk (w : World) (p : Program) (loose : List Str) (mean : ExcName → Option Value) (mg mb : Str → Option Value) (d u : Nat) (f : Value) (vs : List Value) (news : Led) (Post : Value → Led → Prop) : Prop :=
  ∀ (dp un : Nat) (gd : Option (List Code)) (cn : Str) (cs : Scope) (a : Addr) (ccd : Value) (cl : List (Str × Addr)) (outer : List Env) (A₀ : Around) (base h₀ : Heap) (L : Addr) (m : Str → Option Value) (s : Shared) (Q E : Value → Shared → Prop),
    Below A₀ base outer h₀ → Fr h₀ L s.heap m → (N240.hd.heap_39 w.params).In h₀ → News h₀ L s.heap news → Top p loose mean mg mb h₀ → cs.kind = .function → dp + d < recursionLimit → un + u < cLine →
    (∀ v news' h' tk', Fr h₀ L h' m → News h₀ L h' news' → Post v news' → Q v { s with heap := h', toks := tk' }) →
    wpAny (model pg w) (ktrTop dp un gd cn cs L a ccd cl outer) (call f vs) Q E s
end N240
end
-- KitA
section
open PySem PySem.W PyProof.Rows PySem.Spec PySem.Calls
namespace N240
/-- an object that is no iterator -/
def Solid (o : Obj) : Prop := o.cls ≠ .type "list_iterator" ∧ o.cls ≠ .type "dict_keyiterator" ∧ o.cls ≠ .type "range_iterator"
theorem solid_list {its : Array Value} {n : Nat} : Solid (W.listOf its n) := by
  refine ⟨?_, ?_, ?_⟩ <;> (intro e; injection e with e; exact absurd e (by decide))

/-- everything but W stays -/
def Sub (W : List Addr) (R R' : Led) : Prop := ∀ p ∈ R, p.1 ∉ W → p ∈ R'
theorem Sub.refl {W : List Addr} {R : Led} : Sub W R R := fun _ h _ => h
theorem Sub.trans {W : List Addr} {R R' R'' : Led} (x : Sub W R R') (y : Sub W R' R'') : Sub W R R'' := fun p h n => y p (x p h n) n

theorem news_fun {h₀ h : Heap} {L a : Addr} {o o' : Obj} {R : Led} (N : News h₀ L h R) (x : (a, o) ∈ R) (y : (a, o') ∈ R) : o = o' := by
  have e1 := (N _ x).1
  have e2 := (N _ y).1
  rw [e1] at e2
  exact Option.some.inj e2
/-- the entries off a -/
def off (a : Addr) (R : Led) : Led := R.filter fun p => decide (p.1 ≠ a)
theorem mem_off {a : Addr} {R : Led} {p : Addr × Obj} (h : p ∈ R) (n : p.1 ≠ a) : p ∈ off a R := List.mem_filter.mpr ⟨h, by simpa using n⟩
theorem of_off {a : Addr} {R : Led} {p : Addr × Obj} (h : p ∈ off a R) : p ∈ R ∧ p.1 ≠ a := by
  have hHi1 := List.mem_filter.mp h
  first | (have h1 := (And.left hHi1); have h2 := (And.right hHi1); try clear hHi1) | (obtain ⟨h1, h2⟩ := hHi1)
  exact ⟨h1, by simpa using h2⟩
theorem off_ne {a : Addr} {R : Led} : ∀ p ∈ off a R, p.1 ≠ a := fun _ h => (of_off h).2
theorem news_head {h₀ h : Heap} {L a : Addr} {o : Obj} {R : Led} (N : News h₀ L h R) (x : (a, o) ∈ R) : News h₀ L h ((a, o) :: off a R) := by
  intro p hp
  rcases List.mem_cons.mp hp with rfl | hp
  · exact N _ x
  · exact N p (of_off hp).1
theorem news_sub {h₀ h : Heap} {L : Addr} {R R' : Led} (N : News h₀ L h R) (hs : ∀ p ∈ R', p ∈ R) : News h₀ L h R' := fun p hp => N p (hs p hp)

theorem FnOk.mono {w : World} {p : Program} {loose : List Str} {mean : ExcName → Option Value} {mg mb : Str → Option Value} {d u : Nat} {f : Value} {vs : List Value} {R R' : Led} {P P' : Value → Led → Prop}
    (h : FnOk w p loose mean mg mb d u f vs R P) (hs : ∀ p ∈ R, p ∈ R') (hp : ∀ v n, P v n → P' v n) : FnOk w p loose mean mg mb d u f vs R' P' := by
  intro dp un gd cn cs a ccd cl outer A₀ base h₀ L m s Q E B F X N T hk hd hu ret
  exact h dp un gd cn cs a ccd cl outer A₀ base h₀ L m s Q E B F X (news_sub N hs) T hk hd hu fun v n' h' tk' F' N' q => ret v n' h' tk' F' N' (hp v n' q)
theorem FnOk.re {w : World} {p : Program} {loose : List Str} {mean : ExcName → Option Value} {mg mb : Str → Option Value} {d u : Nat} {f : Value} {vs : List Value} {R R' : Led} {P P' : Value → Led → Prop}
    (h : FnOk w p loose mean mg mb d u f vs R P) (hs : ∀ p ∈ R, p ∈ R') (hp : ∀ v n, P v n → ∃ n', (∀ p ∈ n', p ∈ n) ∧ P' v n') : FnOk w p loose mean mg mb d u f vs R' P' := by
  intro dp un gd cn cs a ccd cl outer A₀ base h₀ L m s Q E B F X N T hk hd hu ret
  refine h dp un gd cn cs a ccd cl outer A₀ base h₀ L m s Q E B F X (news_sub N hs) T hk hd hu fun v n' h' tk' F' N' q => ?_
  have hHi2 := hp v n' q
  first | (have n'' := (And.left hHi2); have hs' := (And.left (And.right hHi2)); have q' := (And.right (And.right hHi2)); try clear hHi2) | (refine hideE fun GG hGG => ?_; obtain ⟨n'', hs', q'⟩ := hHi2; refine hGG ?_; clear hGG GG)
  exact ret v n'' h' tk' F' (news_sub N' hs') q'
theorem updF_split {d : Addr} {o : Obj} {R : Led} {g : Obj → Led} (U : UpdF d o R g) : ∃ pre post, R = pre ++ (d, o) :: post ∧ (∀ o', g o' = pre ++ (d, o') :: post) ∧ ∀ q ∈ pre ++ post, q.1 ≠ d := by
  induction U with
  | head h => exact ⟨[], _, rfl, fun _ => rfl, h⟩
  | @tail p _ _ hp h ih =>
    first | (have pre := (And.left ih); have post := (And.left (And.right ih)); have e1 := (And.left (And.right (And.right ih))); have e2 := (And.left (And.right (And.right (And.right ih)))); have h3 := (And.right (And.right (And.right (And.right ih)))); try clear ih) | (refine hideE fun GG hGG => ?_; obtain ⟨pre, post, e1, e2, h3⟩ := ih; refine hGG ?_; clear hGG GG)
    refine ⟨p :: pre, post, by rw [e1]; rfl, fun o' => by show p :: _ = _; rw [e2]; rfl, fun q hq => ?_⟩
    rcases List.mem_cons.mp hq with rfl | hq
    · exact hp
    · exact h3 q hq
theorem FnOk.use {w : World} {p : Program} {loose : List Str} {mean : ExcName → Option Value} {mg mb : Str → Option Value} {d u : Nat} {f : Value} {vs : List Value} {R : Led} {P : Value → Led → Prop}
    {dp un : Nat} {gd : Option (List Code)} {cn : Str} {cs : Scope} {a : Addr} {ccd : Value} {cl : List (Str × Addr)} {outer : List Env} {A₀ : Around} {base h₀ : Heap} {L : Addr} {m : Str → Option Value} {s : Shared} {Q E : Value → Shared → Prop}
    (B : Below A₀ base outer h₀) (F : Fr h₀ L s.heap m) (X : (N240.hd.heap_39 w.params).In h₀) (N : News h₀ L s.heap R) (T : Top p loose mean mg mb h₀) (hk : cs.kind = .function) (h : FnOk w p loose mean mg mb d u f vs R P)
    (hd : dp + d < recursionLimit) (hu : un + u < cLine) (ret : ∀ v news' h' tk', Fr h₀ L h' m → News h₀ L h' news' → P v news' → Q v { s with heap := h', toks := tk' }) :
    wpAny (model pg w) (ktrTop dp un gd cn cs L a ccd cl outer) (call f vs) Q E s :=
  h dp un gd cn cs a ccd cl outer A₀ base h₀ L m s Q E B F X N T hk hd hu ret
/-- the same, where what comes behind hides -/
theorem FnOk.useH {w : World} {p : Program} {loose : List Str} {mean : ExcName → Option Value} {mg mb : Str → Option Value} {d u : Nat} {f : Value} {vs : List Value} {R : Led} {P : Value → Led → Prop}
    {dp un : Nat} {gd : Option (List Code)} {cn : Str} {cs : Scope} {a : Addr} {ccd : Value} {cl : List (Str × Addr)} {outer : List Env} {A₀ : Around} {base h₀ : Heap} {L : Addr} {m : Str → Option Value} {s : Shared} {Q E : Value → Shared → Prop}
    (B : Below A₀ base outer h₀) (F : Fr h₀ L s.heap m) (X : (N240.hd.heap_39 w.params).In h₀) (N : News h₀ L s.heap R) (T : Top p loose mean mg mb h₀) (hk : cs.kind = .function) (h : FnOk w p loose mean mg mb d u f vs R P)
    (hd : dp + d < recursionLimit) (hu : un + u < cLine) (ret : ∀ G : Value → Heap → Nat → Prop, (∀ v h' tk', Q v { s with heap := h', toks := tk' } → G v h' tk') → ∀ v news' h' tk', Fr h₀ L h' m → News h₀ L h' news' → P v news' → G v h' tk') :
    wpAny (model pg w) (ktrTop dp un gd cn cs L a ccd cl outer) (call f vs) Q E s :=
  h dp un gd cn cs a ccd cl outer A₀ base h₀ L m s Q E B F X N T hk hd hu (ret _ fun _ _ _ => id)
theorem ne_up1 {a b c : Nat} (h : a < b) (e : @Eq Nat c (b + 1)) : c ≠ a := Nat.ne_of_gt (e ▸ Nat.lt_succ_of_lt h)
theorem int5 {k : Int} (h : 0 ≤ k) (h5 : k < 5) : k = 0 ∨ k = 1 ∨ k = 2 ∨ k = 3 ∨ k = 4 := by
  have hHi4 := Int.eq_ofNat_of_zero_le h
  first | (have hE1 := (And.right hHi4); subst hE1; have n := (And.left hHi4); try clear hHi4) | (obtain ⟨n, rfl⟩ := hHi4)
  exact (by decide : ∀ n : Nat, n < 5 → ((n : Int) = 0 ∨ (n : Int) = 1 ∨ (n : Int) = 2 ∨ (n : Int) = 3 ∨ (n : Int) = 4)) n (Int.ofNat_lt.mp h5)
theorem int3 {k : Int} (h : 0 ≤ k) (h3 : k ≤ 2) : k = 0 ∨ k = 1 ∨ k = 2 := by
  have hHi5 := Int.eq_ofNat_of_zero_le h
  first | (have hE2 := (And.right hHi5); subst hE2; have n := (And.left hHi5); try clear hHi5) | (obtain ⟨n, rfl⟩ := hHi5)
  exact (by decide : ∀ n : Nat, n < 3 → ((n : Int) = 0 ∨ (n : Int) = 1 ∨ (n : Int) = 2)) n (Int.ofNat_lt.mp (Int.lt_add_one_of_le h3))
theorem int3u {k : Int} (h : 1 ≤ k) (h3 : k ≤ 3) : k = 1 ∨ k = 2 ∨ k = 3 := by
  have hHi6 := Int.eq_ofNat_of_zero_le (Int.le_trans (by decide) h)
  first | (have hE3 := (And.right hHi6); subst hE3; have n := (And.left hHi6); try clear hHi6) | (obtain ⟨n, rfl⟩ := hHi6)
  exact (by decide : ∀ n : Nat, n < 4 → 1 ≤ n → ((n : Int) = 1 ∨ (n : Int) = 2 ∨ (n : Int) = 3)) n (Int.ofNat_lt.mp (Int.lt_add_one_of_le h3)) (Int.ofNat_le.mp h)
theorem many_ge {r : Int} (h : 0 ≤ r) : 0 ≤ 1 + r := Int.add_nonneg (by decide) h
theorem many_lt {r : Int} (h : r < 3) : 1 + r < 100 := Int.lt_trans (Int.add_lt_add_left h 1) (by decide)
theorem many_nat {r : Int} (h : r < 3) : (1 + r).toNat < 1000 := (Int.toNat_lt' (by decide)).mpr (Int.lt_trans (many_lt h) (by decide))
theorem many_len {r : Int} {a b : Nat} (e : a = (1 + r).toNat) (e2 : a = b) (h : 0 ≤ r) (h3 : r < 3) : 1 ≤ b ∧ b ≤ 3 := by omega
theorem zero_mul1 (i : Nat) : (0 : Int) + (i : Int) * 1 = i := by rw [Int.mul_one, Int.zero_add]
theorem min_le {a b c d : Nat} (e : a = min b c) (h : c ≤ d) : a ≤ d := e ▸ Nat.le_trans (Nat.min_le_right b c) h
theorem turn_lt {n i : Nat} (h : i < n) : n + 1 - (i + 1) < n + 1 - i := Nat.sub_lt_sub_left (Nat.lt_succ_of_lt h) (Nat.lt_succ_self i)
theorem turn_end {n i : Nat} (h : ¬ i < n) (h2 : i ≤ n) : i = n := Nat.le_antisymm h2 (Nat.le_of_not_lt h)
theorem len_le {a b c d : Nat} (h : a = b) (h2 : b ≤ c) (h3 : c ≤ d) : a ≤ d := h ▸ Nat.le_trans h2 h3
theorem room_le {x d e l : Nat} (h : x + d < l) (he : e ≤ d) : x + e < l := Nat.lt_of_le_of_lt (Nat.add_le_add_left he x) h

section
variable {prog : Program} {w : World} {A : Around} {E : Value → Shared → Prop} {s : Shared} {env : Env} {h₀ : Heap} {x : Str} {body : List Stmt} {Q : Flow → Shared → Prop}
/-- what a turn of a loop must end in -/
inductive LEnd {σ : Type} (h₀ : Heap) (L : Addr) (x : Str) (keep : Led) (nx : Led) (ps : σ → List (Str × Value)) (stored : List Str) (m₀ : Str → Option Value) (Iv : σ → Led → Prop) (s₁ s₂ : Shared) : Prop
  | mk (h' : Heap) (tk : Nat) (m' : Str → Option Value) (nx' : Led) (c' : σ) (e : s₂ = { s₁ with heap := h', toks := tk }) (F : Fr h₀ L h' m') (N : News h₀ L h' nx') (k1 : ∀ p ∈ nx, ¬ Solid p.2 → p ∈ nx') (k2 : ∀ p ∈ keep, p ∈ nx') (J : Iv c' nx') (g1 : ∀ p ∈ ps c', m' p.1 = some p.2)
      (g2 : ∀ z, z ≠ x → (∀ p ∈ ps c', z ≠ p.1) → stored.contains z = false → m' z = m₀ z) : LEnd h₀ L x keep nx ps stored m₀ Iv s₁ s₂
def LPost {σ : Type} (h₀ : Heap) (L : Addr) (x : Str) (keep : Led) (nx : Led) (ps : σ → List (Str × Value)) (stored : List Str) (m₀ : Str → Option Value) (Iv : σ → Led → Prop) (s₁ : Shared) (Q : Flow → Shared → Prop) (f : Flow) (s₂ : Shared) : Prop :=
  match f with
  | .ret v => Q (.ret v) s₂
  | .brk => Q .next s₂
  | _ => LEnd h₀ L x keep nx ps stored m₀ Iv s₁ s₂

/-- between the turns of a loop -/
inductive LInv {σ : Type} (keep : Led) (ps : σ → List (Str × Value)) (stored : List Str) (x : Str) (m₀ : Str → Option Value) (Iv : σ → Led → Prop) (m : Str → Option Value) (nx : Led) : Prop
  | mk (c : σ) (hl : ∀ p ∈ keep, p ∈ nx) (hc : Iv c nx) (h1 : ∀ p ∈ ps c, m p.1 = some p.2) (h2 : ∀ z, z ≠ x → (∀ p ∈ ps c, z ≠ p.1) → stored.contains z = false → m z = m₀ z) : LInv keep ps stored x m₀ Iv m nx
theorem loop_post {σ : Type} {L I : Addr} {oI : Obj} {keep own nx : Led} {ps : σ → List (Str × Value)} {stored : List Str} {m₀ : Str → Option Value} {Iv : σ → Led → Prop} {s₁ s₂ : Shared} {f : Flow}
    (up : ∀ c R R', (∀ p ∈ R, Solid p.2 ∨ p.1 < I → p ∈ R') → Iv c R → Iv c R') (hns : ¬ Solid oI) (hIown : (I, oI) ∈ own) (hkI : ∀ p ∈ keep, p.1 ≠ I) (hown : ∀ p ∈ own, p = (I, oI) ∨ p ∈ keep) (hsub : ∀ p ∈ own, p ∈ nx)
    (q : LPost h₀ L x keep nx ps stored m₀ Iv s₁ Q f s₂) : LoopStepV h₀ L [I] own (LInv keep ps stored x m₀ Iv) s₁ (fun v s' => Q (.ret v) s') (fun s' => Q .next s') f s₂ := by
  have fin : LEnd h₀ L x keep nx ps stored m₀ Iv s₁ s₂ → LoopStepU h₀ L [I] own (LInv keep ps stored x m₀ Iv) s₁ .next s₂ := by
    intro H
    cases H with | mk h' tk' m' nx' c' e F' N' hit' hkeep hc' g1 g2 =>
    subst e
    have hI' : (I, oI) ∈ nx' := hit' _ (hsub _ hIown) hns
    refine LoopStepU.intro F' (news₂ := off I nx') (fun p hp => (List.mem_append.mp hp).elim (fun hp => ?_) fun hp => N' p (of_off hp).1) (fun p hp hb => off_ne p hp (List.mem_singleton.mp hb))
      (.mk c' (fun p hp => mem_off (hkeep p hp) (hkI p hp)) (up _ _ _ (fun p hp hs => mem_off hp (hs.elim (fun hs e => ?_) Nat.ne_of_lt)) hc') g1 g2)
    · exact (hown p hp).elim (fun e => e ▸ N' _ hI') fun hk => N' p (hkeep p hk)
    · exact hns (news_fun N' (a := I) (o := p.2) (o' := oI) (e ▸ hp) hI' ▸ hs)
  cases f with
  | ret v => exact .ret q
  | brk => exact .brk q
  | next => exact .next (fin q)
  | cont => exact .cont (fin q)
theorem loop_core {σ : Type} {I : Addr} {B : List Addr} {keep : Led} {n : Nat} {P : Nat → Value → Prop} {St : Nat → Heap → Prop} {m₀ : Str → Option Value} {news : Led}
    (ps : σ → List (Str × Value)) (stored : List Str) (Iv : Nat → σ → Led → Prop) (c₀ : σ)
    (up : ∀ i c R R', (∀ p ∈ R, Solid p.2 ∨ p.1 < I → p ∈ R') → Iv i c R → Iv i c R')
    (W : Walks prog w A I B [I] n P St) (hit : ∀ i h, St i h → ∃ o, h.get? I = some o ∧ ¬ Solid o) (hI0 : h₀.get? I = none) (hIB : I ∈ B) (hLB : env.locals ∉ B) (hnI : ∀ p ∈ news, p.1 ≠ I) (hkeep : ∀ p ∈ keep, p ∈ news)
    (hB : ∀ b ∈ B, b = I ∨ (∃ o, (b, o) ∈ keep) ∨ h₀.get? b ≠ none) (hst : St 0 s.heap)
    (F : Fr h₀ env.locals s.heap m₀) (N : News h₀ env.locals s.heap news) (h0 : Iv 0 c₀ news) (hk : ∀ p ∈ ps c₀, m₀ p.1 = some p.2)
    (turn : ∀ i v c nx (u : Str → Option Value) h tk, i < n → P i v → (∀ p ∈ keep, p ∈ nx) → Iv i c nx → Fr h₀ env.locals h (fun y => if y = x then some v else kstB (fun z => if stored.contains z then u z else m₀ z) (ps c) y) → News h₀ env.locals h nx →
      wpAny (model prog w) A (execs body env) (LPost h₀ env.locals x keep nx ps stored m₀ (Iv (i + 1)) { s with heap := h, toks := tk } Q) E { s with heap := h, toks := tk })
    (done : ∀ c nx (u : Str → Option Value) h tk, (∀ p ∈ keep, p ∈ nx) → Iv n c nx → Fr h₀ env.locals h (fun y => if y = x then u y else kstB (fun z => if stored.contains z then u z else m₀ z) (ps c) y) → News h₀ env.locals h nx → Q .next { s with heap := h, toks := tk }) :
    LoopAtV prog w A h₀ env x body Q E (.ref I) s := by
  refine ⟨I, B, [I], n, P, St, m₀, news, (fun i => LInv keep ps stored x m₀ (Iv i)), rfl, W, hLB, (fun b hb => (List.mem_singleton.mp hb).symm ▸ hI0), (fun p hp hb => hnI p hp (List.mem_singleton.mp hb)), hst, F, N, .mk c₀ hkeep h0 hk fun _ _ _ _ => rfl, ?_, ?_⟩
  · intro i v m₁ news₁ s₁ own hs hin hP hJ hoff hown hget hfp hst' F₁ N₁
    first | (have hE4 := (And.right (And.right hs)); subst hE4; have h := (And.left hs); have tk := (And.left (And.right hs)); try clear hs) | (refine hideE fun GG hGG => ?_; obtain ⟨h, tk, rfl⟩ := hs; refine hGG ?_; clear hGG GG)
    cases hJ with | mk c hl1 hc h1 h2 =>
    have hHi8 := hit _ _ hst'
    first | (have oI := (And.left hHi8); have hoI := (And.left (And.right hHi8)); have hns := (And.right (And.right hHi8)); try clear hHi8) | (refine hideE fun GG hGG => ?_; obtain ⟨oI, hoI, hns⟩ := hHi8; refine hGG ?_; clear hGG GG)
    have hkn : ∀ p ∈ keep, p ∈ own ++ news₁ := fun p hp => List.mem_append.mpr (.inr (hl1 p hp))
    refine wpAny_mono (turn i v c (own ++ news₁) m₁ h tk hin hP hkn (up _ _ _ _ (fun p hp _ => List.mem_append.mpr (.inr hp)) hc) (kst_fr h1 h2 F₁) N₁)
      (fun f s₂ q => loop_post (up _) hns (hfp I hIB hI0 oI hoI) (fun p hp => hnI p (hkeep p hp)) (fun p hp => ?_) (fun p hp => List.mem_append.mpr (.inl hp)) q) fun _ _ e => e
    have hg := hget p hp
    rcases hB p.1 (hown p hp) with e | ⟨o, ho⟩ | e
    · exact .inl (Prod.ext e (Option.some.inj (hg.symm.trans (e.symm ▸ hoI))))
    · exact .inr ((Prod.ext rfl (Option.some.inj (hg.symm.trans (N₁ _ (hkn _ ho)).1)) : p = (p.1, o)) ▸ ho)
    · exact absurd (N₁ p (List.mem_append.mpr (.inl hp))).2.2 e
  · intro h' tk m' news' F' N' _ hJ
    cases hJ with | mk c hl1 hc h1 h2 => exact done c news' m' h' tk hl1 hc (kst_frOut h1 h2 F') N'
theorem loop_at {σ : Type} {I l : Addr} {ol : Obj} {n : Nat} {P : Nat → Value → Prop} {St : Nat → Heap → Prop} {m₀ : Str → Option Value} {news : Led}
    (ps : σ → List (Str × Value)) (stored : List Str) (Iv : Nat → σ → Led → Prop) (c₀ : σ)
    (up : ∀ i c R R', (∀ p ∈ R, Solid p.2 ∨ p.1 < I → p ∈ R') → Iv i c R → Iv i c R')
    (W : Walks prog w A I [I, l] [I] n P St) (hit : ∀ i h, St i h → ∃ o, h.get? I = some o ∧ ¬ Solid o) (hI0 : h₀.get? I = none) (hIL : I ≠ env.locals) (hnI : ∀ p ∈ news, p.1 ≠ I) (hl : (l, ol) ∈ news) (hst : St 0 s.heap)
    (F : Fr h₀ env.locals s.heap m₀) (N : News h₀ env.locals s.heap news) (h0 : Iv 0 c₀ news) (hk : ∀ p ∈ ps c₀, m₀ p.1 = some p.2)
    (turn : ∀ i v c nx (u : Str → Option Value) h tk, i < n → P i v → (l, ol) ∈ nx → Iv i c nx → Fr h₀ env.locals h (fun y => if y = x then some v else kstB (fun z => if stored.contains z then u z else m₀ z) (ps c) y) → News h₀ env.locals h nx →
      wpAny (model prog w) A (execs body env) (LPost h₀ env.locals x [(l, ol)] nx ps stored m₀ (Iv (i + 1)) { s with heap := h, toks := tk } Q) E { s with heap := h, toks := tk })
    (done : ∀ c nx (u : Str → Option Value) h tk, (l, ol) ∈ nx → Iv n c nx → Fr h₀ env.locals h (fun y => if y = x then u y else kstB (fun z => if stored.contains z then u z else m₀ z) (ps c) y) → News h₀ env.locals h nx → Q .next { s with heap := h, toks := tk }) :
    LoopAtV prog w A h₀ env x body Q E (.ref I) s := by
  refine loop_core (keep := [(l, ol)]) ps stored Iv c₀ up W hit hI0 (List.mem_cons_self ..) (fun hm => (List.mem_cons.mp hm).elim (fun e => hIL e.symm) fun hm => (N _ hl).2.1 (List.mem_singleton.mp hm).symm) hnI (fun p hp => List.mem_singleton.mp hp ▸ hl)
    (fun b hb => (List.mem_cons.mp hb).elim .inl fun e => .inr (.inl ⟨ol, List.mem_singleton.mpr (by rw [List.mem_singleton.mp e])⟩)) hst F N h0 hk
    (fun i v c nx u h tk hi hP hkn => turn i v c nx u h tk hi hP (hkn _ (List.mem_singleton.mpr rfl))) fun c nx u h tk hkn => done c nx u h tk (hkn _ (List.mem_singleton.mpr rfl))

theorem iter_not_solid {h : Heap} {I l : Addr} {i : Nat} (x : h.IsListIter I l i) : ∃ o, h.get? I = some o ∧ ¬ Solid o :=
  let ⟨o, ho, hc, _⟩ := x
  ⟨o, ho, fun s => s.1 hc⟩

/-- a for over a list of the ledger -/
theorem loop_list {σ : Type} {l : Addr} {vs : List Value} {nn : Nat} {m₀ : Str → Option Value} {news : Led}
    (ps : σ → List (Str × Value)) (stored : List Str) (Iv : Nat → σ → Led → Prop) (c₀ : σ)
    (up : ∀ i c R R', (∀ p ∈ R, Solid p.2 ∨ p.1 < s.heap.objs.size → p ∈ R') → Iv i c R → Iv i c R')
    (hh : A.handled = none) (hl : (l, W.listOf vs.toArray nn) ∈ news)
    (F : Fr h₀ env.locals s.heap m₀) (N : News h₀ env.locals s.heap news) (h0 : Iv 0 c₀ news) (hk : ∀ p ∈ ps c₀, m₀ p.1 = some p.2)
    (turn : ∀ i v c nx (u : Str → Option Value) h tk, vs[i]? = some v → (l, W.listOf vs.toArray nn) ∈ nx → Iv i c nx → Fr h₀ env.locals h (fun y => if y = x then some v else kstB (fun z => if stored.contains z then u z else m₀ z) (ps c) y) → News h₀ env.locals h nx →
      wpAny (model prog w) A (execs body env) (LPost h₀ env.locals x [(l, W.listOf vs.toArray nn)] nx ps stored m₀ (Iv (i + 1)) { s with heap := h, toks := tk } Q) E { s with heap := h, toks := tk })
    (done : ∀ c nx (u : Str → Option Value) h tk, (l, W.listOf vs.toArray nn) ∈ nx → Iv vs.length c nx → Fr h₀ env.locals h (fun y => if y = x then u y else kstB (fun z => if stored.contains z then u z else m₀ z) (ps c) y) → News h₀ env.locals h nx → Q .next { s with heap := h, toks := tk }) :
    wpAny (model prog w) A (pyIter (.ref l)) (fun it s₂ => LoopAtV prog w A h₀ env x body Q E it s₂) E s := by
  have hol : s.heap.get? l = some (W.listOf vs.toArray nn) := (N _ hl).1
  have hls : s.heap.IsList l vs.toArray := ⟨_, hol, rfl, nn, rfl⟩
  have hne : l ≠ s.heap.objs.size := Nat.ne_of_lt (Heap.lt_size hol)
  refine wpAny_pyIter_list hls ?_
  have W := Walks.list (prog := prog) (w := w) hh s.heap.objs.size l hne vs.toArray
  have hlen : vs.toArray.size = vs.length := by simp
  rw [hlen] at W
  refine loop_at (n := vs.length) ps stored Iv c₀ up W (fun i h st => iter_not_solid st.1) (next_is_new F) (fun e => absurd F.ns.lt (e ▸ Nat.lt_irrefl _)) (fun p hp => Nat.ne_of_lt (Heap.lt_size (N p hp).1)) hl
    ⟨⟨_, Heap.get?_push_size _ rfl, rfl, rfl⟩, hls.at fun o e => Heap.get?_push_of_some _ e⟩ (F.push _) (fun p hp => ⟨Heap.get?_push_of_some _ (N p hp).1, (N p hp).2⟩) h0 hk ?_ done
  intro i v c nx u h tk hin hP
  exact turn i v c nx u h tk (by simpa using hP)
end
end N240
end
section
open PySem PySem.W PyProof.Rows PySem.Spec PySem.Calls
local macro_rules | `(tactic| ktr_room) => `(tactic| ((try simp only [depth_under_make, depth_under_kw, depth_in1, depth_deeper, depth_caller, units_in1, units_deeper, Around.mark_units, units_caller]); (try dsimp only [ktrTop]); (try simp only [Nat.add_assoc, Nat.reduceAdd]); exact N240.room_le (by assumption) (by decide)))
local macro_rules | `(tactic| ktr_units) => `(tactic| ktr_room)
local macro_rules | `(tactic| walk_at "<") => `(tactic| first | assumption | ((try apply And.left); iterate 9 (first | done | assumption | apply And.right)))
local macro_rules | `(tactic| k_ne) => `(tactic| (refine neN ?_; (try dsimp only); (first | (apply Nat.ne_of_lt; walk_at "<"; done) | (apply Nat.ne_of_gt; walk_at "<"; done))))
local macro_rules | `(tactic| k_all) => `(tactic| assumption)
local macro_rules | `(tactic| k_room) => `(tactic| ktr_room)
local macro_rules | `(tactic| k_mem) => `(tactic| first | assumption | exact List.mem_cons_self | (refine' List.mem_cons_of_mem _ ?_; k_mem))
-- KitB
section
open PySem PySem.W PyProof.Rows PySem.Spec PySem.Calls
namespace N240
section
variable {prog : Program} {w : World} {A : Around} {E : Value → Shared → Prop} {s : Shared}
/-- a dict's keys by their entries alone -/
theorem iter_raw {d : Addr} {es : Array DictEntry} {ep : Nat} {Q : Value → Shared → Prop} (hd : (d == sysModules) = false) (ho : s.heap.get? d = some { cls := .type "dict", data := .dict es ep })
    (hQ : ∀ h', h' = s.heap.push { cls := .type "dict_keyiterator", data := .fields #[.ref d, .int 0 0, .int es.size 0, .int ep 0] } → Q (.ref s.heap.objs.size) { s with heap := h' }) :
    wpAny (model prog w) A (pyIter (.ref d)) Q E s := by
  have hT : s.TypeIs (.ref d) "dict" := ⟨_, ho, rfl⟩
  refine wpAny_pyIter_slot hT PySem.F.slot_dict_iter (wpAny_call_entry PySem.F.slot_dict_iter hT PySem.F.entry_dict_iter ?_ (PySem.F.args_dict_iter_1 _))
  show wpAny _ _ (Builtin.Dict.dictSlotNone "__iter__" ⟨[.ref d], []⟩ >>= _) _ _ s
  refine wpAny_bind ?_
  show wpAny _ _ (Builtin.Dict.notOrdered "__iter__" ⟨[.ref d], []⟩ >>= _) _ _ s
  refine wpAny_bind (wpAny_notOrdered_dict hT (wpAny_pure ?_))
  show wpAny _ _ (Builtin.Dict.showsAll d >>= _) _ _ s
  unfold Builtin.Dict.showsAll
  rw [if_neg (by rw [hd]; exact Bool.false_ne_true)]
  refine wpAny_bind (wpAny_pure (wpAny_bind (wpAny_dictEntries ho rfl (wpAny_bind (wpAny_dictEpoch ho rfl ?_)))))
  exact wpAny_bind (wpAny_newObj_type (wpAny_pure ⟨_, rfl, "dict_keyiterator", _, ⟨_, Heap.get?_push_size _ rfl, rfl⟩, PySem.F.slot_dict_keyiterator_next.lookup, hQ _ rfl⟩))
/-- the raw dict at d: its entries, its epoch -/
def RawAt (h : Heap) (d : Addr) (es : Array DictEntry) (ep : Nat) : Prop := h.get? d = some { cls := .type "dict", data := .dict es ep }
theorem next_raw {it d : Addr} {i ep : Nat} {es : Array DictEntry} {e : DictEntry} {Q : Option Value → Shared → Prop} (hit : s.heap.IsKeyIter it d i es.size ep) (hod : RawAt s.heap d es ep) (hx : es[i]? = some e)
    (hQ : ∀ h', h'.IsKeyIter it d (i + 1) es.size ep → Heap.SameBut it s.heap h' → Q (some e.key) { s with heap := h' }) : wpAny (model prog w) A (pyNext (.ref it)) Q E s := by
  have hHi1 := id hit
  first | (have o := (And.left hHi1); have ho := (And.left (And.right hHi1)); have hc := (And.left (And.right (And.right hHi1))); have hd := (And.right (And.right (And.right hHi1))); try clear hHi1) | (refine hideE fun GG hGG => ?_; obtain ⟨o, ho, hc, hd⟩ := hHi1; refine hGG ?_; clear hGG GG)
  have tn := @wpAny_typeNameOfWhole_keyiter prog w
  unfold pyNext
  refine wpAny_bind (wpAny_attempt (wpAny_callSpecial?_slot (name := Str.ofString "__next__") hit.typeIs PySem.F.slot_dict_keyiterator_next
    (wpAny_call_entry PySem.F.slot_dict_keyiterator_next hit.typeIs PySem.F.entry_dict_keyiterator_next ?_ (PySem.F.args_dict_keyiterator_next_1 _))))
  have hown : Builtin.Dict_items.ownsTuple "dict_keyiterator" = false := by decide
  refine wpAny_bind (wpAny_pure (wpAny_bind (wpAny_bind (wpAny_bind (wpAny_typeNameOfWhole_keyiter hit.typeIs (wpAny_pure ?_))))))
  refine wpAny_bind (wpAny_fieldsOf ho hd ?_)
  rw [hown, if_neg Bool.false_ne_true]
  show wpAny _ _ (if (Value.ref d == Value.none) = true then _ else _) _ _ s
  rw [if_neg (show ¬ ((Value.ref d == Value.none) = true) from Bool.false_ne_true)]
  refine wpAny_bind (wpAny_pure (wpAny_bind (wpAny_dictEntries hod rfl ?_)))
  rw [if_neg (by simp)]
  refine wpAny_bind (wpAny_pure (wpAny_bind (wpAny_dictEpoch hod rfl ?_)))
  rw [if_neg (by simp)]
  refine wpAny_pure ?_
  have hi0 : ¬ ((i : Int) < 0) := Int.not_lt.mpr (Int.natCast_nonneg i)
  dsimp only
  rw [if_neg hi0, Int.toNat_natCast, hx]
  dsimp only
  refine wpAny_bind (wpAny_bind (wpAny_typeNameOfWhole_keyiter hit.typeIs (wpAny_pure ?_)))
  refine wpAny_bind (wpAny_isOneOf_keyiter hit.typeIs ?_)
  show wpAny _ _ (setField (.ref it) 1 (rawInt ((i : Int) + 1)) >>= _) _ _ s
  refine wpAny_bind (wpAny_setField ho hd (by simp) ?_)
  have hit' : (s.heap.update it (Obj.mapFields (·.setIfInBounds 1 (rawInt ((i : Int) + 1))))).IsKeyIter it d (i + 1) es.size ep :=
    ⟨_, Heap.get?_update_self _ ho (Obj.isFreed_of_fields (Obj.data_mapFields hd _)), (Obj.cls_mapFields ..).trans hc, by rw [Obj.data_mapFields hd]; simp [rawInt]⟩
  refine wpAny_bind (wpAny_holding (wpAny_bind (wpAny_isOneOf_keyiter (s := { s with heap := s.heap.update it (Obj.mapFields (·.setIfInBounds 1 (rawInt ((i : Int) + 1)))) }) hit'.typeIs ?_)))
  exact wpAny_pure (wpAny_pure ⟨_, rfl, wpAny_pure (hQ _ hit' (Heap.SameBut.update ..))⟩)
theorem end_raw {it d : Addr} {i ep : Nat} {es : Array DictEntry} {Q : Option Value → Shared → Prop} (hh : A.handled = none) (hit : s.heap.IsKeyIter it d i es.size ep) (hod : RawAt s.heap d es ep) (hge : es.size ≤ i)
    (hQ : ∀ h', Heap.ExtBut it s.heap h' → Q none { s with heap := h' }) : wpAny (model prog w) A (pyNext (.ref it)) Q E s := by
  have hHi2 := id hit
  first | (have o := (And.left hHi2); have ho := (And.left (And.right hHi2)); have hc := (And.left (And.right (And.right hHi2))); have hd := (And.right (And.right (And.right hHi2))); try clear hHi2) | (refine hideE fun GG hGG => ?_; obtain ⟨o, ho, hc, hd⟩ := hHi2; refine hGG ?_; clear hGG GG)
  unfold pyNext
  refine wpAny_bind (wpAny_attempt (wpAny_callSpecial?_slot (name := Str.ofString "__next__") hit.typeIs PySem.F.slot_dict_keyiterator_next
    (wpAny_call_entry PySem.F.slot_dict_keyiterator_next hit.typeIs PySem.F.entry_dict_keyiterator_next ?_ (PySem.F.args_dict_keyiterator_next_1 _))))
  have hown : Builtin.Dict_items.ownsTuple "dict_keyiterator" = false := by decide
  refine wpAny_bind (wpAny_pure (wpAny_bind (wpAny_bind (wpAny_bind (wpAny_typeNameOfWhole_keyiter hit.typeIs (wpAny_pure ?_))))))
  refine wpAny_bind (wpAny_fieldsOf ho hd ?_)
  rw [hown, if_neg Bool.false_ne_true]
  show wpAny _ _ (if (Value.ref d == Value.none) = true then _ else _) _ _ s
  rw [if_neg (show ¬ ((Value.ref d == Value.none) = true) from Bool.false_ne_true)]
  refine wpAny_bind (wpAny_pure (wpAny_bind (wpAny_dictEntries hod rfl ?_)))
  rw [if_neg (by simp)]
  refine wpAny_bind (wpAny_pure (wpAny_bind (wpAny_dictEpoch hod rfl ?_)))
  rw [if_neg (by simp)]
  refine wpAny_pure ?_
  have hi0 : ¬ ((i : Int) < 0) := Int.not_lt.mpr (Int.natCast_nonneg i)
  dsimp only
  rw [if_neg hi0, Int.toNat_natCast, Array.getElem?_eq_none hge]
  dsimp only
  refine wpAny_bind (wpAny_bind (wpAny_typeNameOfWhole_keyiter hit.typeIs (wpAny_pure ?_)))
  show wpAny _ _ (setField (.ref it) 0 .none >>= _) _ _ s
  refine wpAny_bind (wpAny_setField ho hd (by simp) ?_)
  show wpAny _ _ (newExc (.type "StopIteration") [] >>= _) _ _ _
  refine wpAny_bind ?_
  unfold newExc newTuple
  (try dsimp only)
  refine wpAny_bind (wpAny_newObj_type ?_ (by size_fits))
  refine wpAny_bind (m := firstArgMember _ _) (wpAny_of_eq (a := Value.none) (by first | rfl | (simp only [firstArgMember]; rfl)) ?_)
  refine wpAny_newObj_type ?_ (by size_fits)
  unfold raiseNew
  (try dsimp only)
  refine wpAny_bind (wpAny_handled ?_)
  rw [show A.in1.handled = none from hh]
  refine wpAny_bind (wpAny_pure (wpAny_throw ?_))
  refine wpAny_bind (wpAny_isInstance (T := "StopIteration") (b := true) ⟨_, Heap.get?_push_size _ rfl, rfl⟩ isSubtype_stop ?_)
  exact wpAny_pure (hQ _ (((Heap.SameBut.update ..).extBut.push _).push _))
/-- the walk over a dict's keys -/
theorem walks_raw (hh : A.handled = none) (I d : Addr) (hne : d ≠ I) (es : Array DictEntry) (ep : Nat) :
    Walks prog w A I [I, d] [I] es.size (fun i v => ∃ e, es[i]? = some e ∧ v = e.key) (fun i h => h.IsKeyIter I d i es.size ep ∧ RawAt h d es ep) where
  sub := fun b hb => by simp at hb; simp [hb]
  frame := fun _ _ _ st hk => ⟨st.1.at fun o e => hk I (by simp) o e, hk d (by simp) _ st.2⟩
  item := fun i s Q E hi st hQ => by
    have hx : es[i]? = some es[i] := Array.getElem?_eq_getElem hi
    exact next_raw st.1 st.2 hx fun h' hit' hs' => hQ _ h' s.toks ⟨_, hx, rfl⟩ ⟨hit', hs'.extBut d _ hne st.2⟩ fun b o hb e => hs'.extBut b o (fun h => hb (by simp [h])) e
  done := fun s Q E st hQ => end_raw hh st.1 st.2 (Nat.le_refl _) fun h' he' => hQ h' s.toks fun b o hb e => he' b o (fun h => hb (by simp [h])) e
  self := fun _ _ _ _ st hQ => wpAny_pyIter_keyiter st.1 hQ
theorem keyiter_not_solid {h : Heap} {I d : Addr} {i n ep : Nat} (x : h.IsKeyIter I d i n ep) : ∃ o, h.get? I = some o ∧ ¬ Solid o :=
  let ⟨o, ho, hc, _⟩ := x
  ⟨o, ho, fun s => s.2.1 hc⟩
end
section
variable {prog : Program} {w : World} {A : Around} {E : Value → Shared → Prop} {s : Shared} {env : Env} {h₀ : Heap} {x : Str} {body : List Stmt} {Q : Flow → Shared → Prop}
/-- a for over a dict of the ledger -/
theorem loop_dict {σ : Type} {d : Addr} {es : List DictEntry} {ep : Nat} {m₀ : Str → Option Value} {news : Led}
    (ps : σ → List (Str × Value)) (stored : List Str) (Iv : Nat → σ → Led → Prop) (c₀ : σ)
    (up : ∀ i c R R', (∀ p ∈ R, Solid p.2 ∨ p.1 < s.heap.objs.size → p ∈ R') → Iv i c R → Iv i c R')
    (hh : A.handled = none) (hd : (d == sysModules) = false) (hl : (d, W.dictOf es ep) ∈ news)
    (F : Fr h₀ env.locals s.heap m₀) (N : News h₀ env.locals s.heap news) (h0 : Iv 0 c₀ news) (hk : ∀ p ∈ ps c₀, m₀ p.1 = some p.2)
    (turn : ∀ i e c nx (u : Str → Option Value) h tk, es[i]? = some e → (d, W.dictOf es ep) ∈ nx → Iv i c nx → Fr h₀ env.locals h (fun y => if y = x then some e.key else kstB (fun z => if stored.contains z then u z else m₀ z) (ps c) y) → News h₀ env.locals h nx →
      wpAny (model prog w) A (execs body env) (LPost h₀ env.locals x [(d, W.dictOf es ep)] nx ps stored m₀ (Iv (i + 1)) { s with heap := h, toks := tk } Q) E { s with heap := h, toks := tk })
    (done : ∀ c nx (u : Str → Option Value) h tk, (d, W.dictOf es ep) ∈ nx → Iv es.length c nx → Fr h₀ env.locals h (fun y => if y = x then u y else kstB (fun z => if stored.contains z then u z else m₀ z) (ps c) y) → News h₀ env.locals h nx → Q .next { s with heap := h, toks := tk }) :
    wpAny (model prog w) A (pyIter (.ref d)) (fun it s₂ => LoopAtV prog w A h₀ env x body Q E it s₂) E s := by
  have hol : s.heap.get? d = some (W.dictOf es ep) := (N _ hl).1
  have hne : d ≠ s.heap.objs.size := Nat.ne_of_lt (Heap.lt_size hol)
  refine iter_raw (es := es.toArray) (ep := ep) hd hol fun h' e => ?_
  subst e
  have W := walks_raw (prog := prog) (w := w) hh s.heap.objs.size d hne es.toArray ep
  have hlen : es.toArray.size = es.length := by simp
  refine loop_at (n := es.toArray.size) ps stored Iv c₀ up W (fun i h st => keyiter_not_solid st.1) (next_is_new F) (fun e => absurd F.ns.lt (e ▸ Nat.lt_irrefl _)) (fun p hp => Nat.ne_of_lt (Heap.lt_size (N p hp).1)) hl
    ⟨⟨_, Heap.get?_push_size _ rfl, rfl, by simp⟩, Heap.get?_push_of_some _ hol⟩ (F.push _) (fun p hp => ⟨Heap.get?_push_of_some _ (N p hp).1, (N p hp).2⟩) h0 hk ?_ (by rw [hlen]; exact done)
  intro i v c nx u h tk hin hHi3
  ((try show wpAny _ _ _ _ _ _); (try k_fold))
  first | (have hE1 := (And.right (And.right hHi3)); subst hE1; have e := (And.left hHi3); have he := (And.left (And.right hHi3)); try clear hHi3) | (refine hideE fun GG hGG => ?_; obtain ⟨e, he, rfl⟩ := hHi3; refine hGG ?_; clear hGG GG)
  exact turn i e c nx u h tk (by simpa using he)
end
end N240
end
-- KitC
section
open PySem PySem.W PyProof.Rows PySem.Spec PySem.Calls
namespace N240
/-- all but a stays -/
theorem fr_but {h₀ h h' : Heap} {L a : Addr} {m : Str → Option Value} (F : Fr h₀ L h m) (k : ∀ b o, b ≠ a → h.get? b = some o → h'.get? b = some o) (hL : a ≠ L) (h0 : h₀.get? a = none) : Fr h₀ L h' m :=
  ⟨F.ns.at' fun o e => k _ o (Ne.symm hL) e, fun b o e => k b o (fun q => by rw [q, h0] at e; cases e) (F.keep b o e), F.above⟩
theorem news_but {h₀ h h' : Heap} {L a : Addr} {R : Led} (N : News h₀ L h R) (k : ∀ b o, b ≠ a → h.get? b = some o → h'.get? b = some o) (hn : ∀ p ∈ R, p.1 ≠ a) : News h₀ L h' R :=
  fun p hp => ⟨k _ _ (hn p hp) (N p hp).1, (N p hp).2⟩
end N240
end
-- KitD
section
open PySem PySem.W PyProof.Rows PySem.Spec PySem.Calls
namespace N240
section
variable {prog : Program} {w : World} {A : Around} {E : Value → Shared → Prop} {s : Shared} {env : Env} {h₀ : Heap} {x : Str} {body : List Stmt} {Q : Flow → Shared → Prop}
theorem rangeiter_not_solid {h : Heap} {I : Addr} {a b c : Int} (x : IsRangeIter h I a b c) : ∃ o, h.get? I = some o ∧ ¬ Solid o := ⟨_, x, fun s => s.2.2 rfl⟩
theorem range_one {m : Int} (h : 0 ≤ m) : Builtin.Range.rangeSize 0 m 1 = ((m.toNat : Nat) : Int) := by
  unfold Builtin.Range.rangeSize
  rw [if_pos (by decide)]
  by_cases h0 : 0 < m
  · rw [if_pos h0]; simp; omega
  · rw [if_neg h0]; omega
/-- a for over range(k), k a small int -/
theorem loop_range {σ : Type} {r : Addr} {k : Int} {t₀ u₀ v₀ : Tok} {m₀ : Str → Option Value} {news : Led}
    (ps : σ → List (Str × Value)) (stored : List Str) (Iv : Nat → σ → Led → Prop) (c₀ : σ)
    (up : ∀ i c R R', (∀ p ∈ R, Solid p.2 ∨ p.1 < s.heap.objs.size → p ∈ R') → Iv i c R → Iv i c R')
    (hh : A.handled = none) (hr : IsRange s.heap r 0 k 1 t₀ u₀ v₀) (hk0 : 0 ≤ k) (hk1 : k < 1000)
    (F : Fr h₀ env.locals s.heap m₀) (N : News h₀ env.locals s.heap news) (h0 : Iv 0 c₀ news) (hk : ∀ p ∈ ps c₀, m₀ p.1 = some p.2)
    (turn : ∀ (i : Nat) c nx (u : Str → Option Value) h tk ti, (i : Int) < k → Iv i c nx → Fr h₀ env.locals h (fun y => if y = x then some (.int (i : Int) ti) else kstB (fun z => if stored.contains z then u z else m₀ z) (ps c) y) → News h₀ env.locals h nx →
      wpAny (model prog w) A (execs body env) (LPost h₀ env.locals x [] nx ps stored m₀ (Iv (i + 1)) { s with heap := h, toks := tk } Q) E { s with heap := h, toks := tk })
    (done : ∀ c nx (u : Str → Option Value) h tk, Iv k.toNat c nx → Fr h₀ env.locals h (fun y => if y = x then u y else kstB (fun z => if stored.contains z then u z else m₀ z) (ps c) y) → News h₀ env.locals h nx → Q .next { s with heap := h, toks := tk }) :
    wpAny (model prog w) A (pyIter (.ref r)) (fun it s₂ => LoopAtV prog w A h₀ env x body Q E it s₂) E s := by
  refine wpAny_pyIter_range hr (small_one (by decide) (by decide) (by omega) (by omega)) ?_
  refine loop_core (keep := []) (n := k.toNat) ps stored Iv c₀ up (Walks.range hh _ 0 1 k.toNat).bound (fun i h st => rangeiter_not_solid st) (next_is_new F) (List.mem_singleton.mpr rfl) (fun hm => absurd F.ns.lt (List.mem_singleton.mp hm ▸ Nat.lt_irrefl _)) (fun p hp => Nat.ne_of_lt (Heap.lt_size (N p hp).1)) (fun _ h => nomatch h) (fun b hb => .inl (List.mem_singleton.mp hb)) ?_ (F.push _) (fun p hp => ⟨Heap.get?_push_of_some _ (N p hp).1, (N p hp).2⟩) h0 hk ?_ fun c nx u h tk _ => done c nx u h tk
  · rw [range_one hk0]
    show IsRangeIter _ _ _ _ _
    simpa using Heap.get?_push_size _ rfl
  · intro i v c nx u h tk hin hHi1 _ hc F' N'
    ((try show wpAny _ _ _ _ _ _); (try k_fold))
    first | (have hE2 := (And.right (And.right hHi1)); subst hE2; have hU1 := (And.left hHi1); have t := (And.left (And.right hHi1)); try clear hHi1) | (refine hideE fun GG hGG => ?_; obtain ⟨_, t, rfl⟩ := hHi1; refine hGG ?_; clear hGG GG)
    have e : (0 : Int) + (i : Int) * 1 = i := by omega
    rw [e] at F'
    exact turn i c nx u h tk t (by omega) hc F' N'
/-- a for over a list of the ledger, whatever its target -/
theorem loop_listT {σ : Type} {target : Expr} {l : Addr} {vs : List Value} {nn : Nat} {m₀ : Str → Option Value} {news : Led}
    (ps : σ → List (Str × Value)) (stored : List Str) (Iv : Nat → σ → Led → Prop) (c₀ : σ) (hx : stored.contains x = true)
    (up : ∀ i c R R', (∀ p ∈ R, Solid p.2 ∨ p.1 < s.heap.objs.size → p ∈ R') → Iv i c R → Iv i c R')
    (hh : A.handled = none) (hl : (l, W.listOf vs.toArray nn) ∈ news)
    (F : Fr h₀ env.locals s.heap m₀) (N : News h₀ env.locals s.heap news) (h0 : Iv 0 c₀ news) (hk : ∀ p ∈ ps c₀, m₀ p.1 = some p.2)
    (turn : ∀ i v c nx (u : Str → Option Value) h tk, vs[i]? = some v → (l, W.listOf vs.toArray nn) ∈ nx → Iv i c nx → Fr h₀ env.locals h (fun y => kstB (fun z => if stored.contains z then u z else m₀ z) (ps c) y) → News h₀ env.locals h nx →
      wpAny (model prog w) A (assign target env v) (fun _ s₃ => wpAny (model prog w) A (execs body env) (LPost h₀ env.locals x [(l, W.listOf vs.toArray nn)] nx ps stored m₀ (Iv (i + 1)) { s with heap := h, toks := tk } Q) E s₃) E { s with heap := h, toks := tk })
    (done : ∀ c nx (u : Str → Option Value) h tk, (l, W.listOf vs.toArray nn) ∈ nx → Iv vs.length c nx → Fr h₀ env.locals h (fun y => kstB (fun z => if stored.contains z then u z else m₀ z) (ps c) y) → News h₀ env.locals h nx → Q .next { s with heap := h, toks := tk }) :
    wpAny (model prog w) A (pyIter (.ref l)) (fun it s₂ => TurnsAt prog w A h₀ env target body Q E it s₂) E s := by
  have frT : ∀ {c : σ} {m₁ : Str → Option Value} {h : Heap}, (∀ p ∈ ps c, m₁ p.1 = some p.2) → (∀ z, z ≠ x → (∀ p ∈ ps c, z ≠ p.1) → stored.contains z = false → m₁ z = m₀ z) → Fr h₀ env.locals h m₁ →
      Fr h₀ env.locals h (fun y => kstB (fun z => if stored.contains z then m₁ z else m₀ z) (ps c) y) := by
    intro c m₁ h h1 h2 F
    have em : (fun y => kstB (fun z => if stored.contains z then m₁ z else m₀ z) (ps c) y) = m₁ := by
      funext y
      refine kstB_eq h1 fun hn => ?_
      show (if stored.contains y = true then m₁ y else m₀ y) = m₁ y
      cases h3 : stored.contains y with
      | true => simp
      | false =>
        simp only [Bool.false_eq_true, if_false]
        exact (h2 y (fun e => by rw [e, hx] at h3; cases h3) hn h3).symm
    rw [em]
    exact F
  have hax := N _ hl
  have hls : s.heap.IsList l vs.toArray := ⟨_, hax.1, rfl, nn, rfl⟩
  have hlt : l < s.heap.objs.size := Heap.lt_size hax.1
  have hne : l ≠ s.heap.objs.size := Nat.ne_of_lt hlt
  have hlL : l ≠ env.locals := hax.2.1
  have hlen : vs.toArray.size = vs.length := by simp
  refine wpAny_pyIter_list hls ?_
  refine ⟨s.heap.objs.size, _, _, vs.toArray.size, _, _, _, m₀, news, (fun i => LInv [(l, W.listOf vs.toArray nn)] ps stored x m₀ (Iv i)), rfl,
    KTurns.ofWalks (Walks.list hh s.heap.objs.size l hne vs.toArray) (fun i v s Q E st q => letGo_listiter st.1 q), ?_, (fun b hb => (List.mem_singleton.mp hb).symm ▸ next_is_new F), (fun p hp hb => absurd (Heap.lt_size (N p hp).1) ((List.mem_singleton.mp hb) ▸ Nat.lt_irrefl _)), ⟨⟨_, Heap.get?_push_size _ rfl, rfl, rfl⟩, hls.at fun o e => Heap.get?_push_of_some _ e⟩, F.push _,
    (fun p hp => ⟨Heap.get?_push_of_some _ (N p hp).1, (N p hp).2⟩), .mk c₀ (fun p hp => List.mem_singleton.mp hp ▸ hl) h0 hk fun _ _ _ _ => rfl, ?_, ?_⟩
  · exact fun hm => (List.mem_cons.mp hm).elim (fun e => absurd F.ns.lt (e ▸ Nat.lt_irrefl _)) fun hm => hlL (List.mem_singleton.mp hm).symm
  · intro i v m₁ news₁ h tk own hin hP hJ hoff hown hget hfp hst' F₁ N₁
    cases hJ with | mk c hl1 hc h1 h2 =>
    have hHi2 := iter_not_solid hst'.1
    first | (have oI := (And.left hHi2); have hoI := (And.left (And.right hHi2)); have hns := (And.right (And.right hHi2)); try clear hHi2) | (refine hideE fun GG hGG => ?_; obtain ⟨oI, hoI, hns⟩ := hHi2; refine hGG ?_; clear hGG GG)
    have hl2 : (l, W.listOf vs.toArray nn) ∈ own ++ news₁ := List.mem_append.mpr (.inr (hl1 _ (List.mem_singleton.mpr rfl)))
    refine wpAny_mono (turn i v c (own ++ news₁) m₁ h tk (by simpa using hP) hl2 (up _ _ _ _ (fun p hp _ => List.mem_append.mpr (.inr hp)) hc) (frT h1 h2 F₁) N₁)
      (fun _ s₃ q₃ => wpAny_mono q₃ (fun f s₂ q => loop_post (up _) hns (hfp _ (List.mem_cons.mpr (.inl rfl)) (next_is_new F) oI hoI) (fun p hp => (List.mem_singleton.mp hp) ▸ hne) (fun p hp => ?_) (fun p hp => List.mem_append.mpr (.inl hp)) q) fun _ _ e => e) fun _ _ e => e
    have hg := hget p hp
    refine (List.mem_cons.mp (hown p hp)).elim (fun e => .inl (Prod.ext e (Option.some.inj (hg.symm.trans (e.symm ▸ hoI))))) fun e => .inr (List.mem_singleton.mpr ?_)
    have e1 := List.mem_singleton.mp e
    exact Prod.ext e1 (Option.some.inj (hg.symm.trans (e1.symm ▸ (N₁ _ hl2).1)))
  · intro h' tk m' news' F' N' _ hJ
    cases hJ with | mk c hl1 hc h1 h2 => exact done c news' m' h' tk (hl1 _ (List.mem_singleton.mpr rfl)) (hlen ▸ hc) (frT h1 h2 F') N'
end
/-- a pair of ints as a tuple of the ledger -/
inductive KeyV (_w : World) (R : Led) (v : Value) (k : List Int) : Prop
  | mk (t : Addr) (a b : Int) (ta tb : Tok) (n : Nat) (e : v = .ref t) (ek : k = [a, b]) (hm : (t, ({ cls := .type "tuple", data := .seq #[.int a ta, .int b tb] n } : Obj)) ∈ R) : KeyV _w R v k
/-- a list of tuples of ints -/
def KeysAt (w : World) (R : Led) (a : Addr) (ks : List (List Int)) : Prop := ∃ vs n, (a, W.listOf vs.toArray n) ∈ R ∧ Paired (KeyV w R) vs ks
theorem KeyV.mono {w : World} {R R' : Led} {v : Value} {k : List Int} (h : KeyV w R v k) (hs : ∀ p ∈ R, p.2.cls = .type "tuple" → p ∈ R') : KeyV w R' v k := by
  cases h with | mk t a b ta tb n e ek hm => exact .mk t a b ta tb n e ek (hs _ hm rfl)
theorem KeysAt.mono {w : World} {R R' : Led} {a : Addr} {ks : List (List Int)} (h : KeysAt w R a ks) (hs : ∀ p ∈ R, (p.1 = a ∧ p.2.cls = .type "list") ∨ p.2.cls = .type "tuple" → p ∈ R') : KeysAt w R' a ks := by
  first | (have vs := (And.left h); have n := (And.left (And.right h)); have hm := (And.left (And.right (And.right h))); have hf := (And.right (And.right (And.right h))); try clear h) | (refine hideE fun GG hGG => ?_; obtain ⟨vs, n, hm, hf⟩ := h; refine hGG ?_; clear hGG GG)
  exact ⟨vs, n, hs _ hm (.inl ⟨rfl, rfl⟩), hf.mono fun _ _ k => k.mono fun p hp hc => hs p hp (.inr hc)⟩
theorem solid_cls {o : Obj} {T : String} (h : o.cls = .type T) (h1 : T ≠ "list_iterator" := by decide) (h2 : T ≠ "dict_keyiterator" := by decide) (h3 : T ≠ "range_iterator" := by decide) : Solid o :=
  ⟨fun e => h1 (by rw [h] at e; injection e), fun e => h2 (by rw [h] at e; injection e), fun e => h3 (by rw [h] at e; injection e)⟩
theorem allLt_iff {d : Addr} {R : Led} (h : AllLt d R) : ∀ p ∈ R, p.1 < d := by
  induction R with
  | nil => exact fun _ hp => nomatch hp
  | cons q r ih =>
    intro p hp
    rcases List.mem_cons.mp hp with e | hp
    · rw [e]; exact h.1
    · exact ih h.2 p hp
section
variable {prog : Program} {w : World} {A : Around} {E : Value → Shared → Prop} {s : Shared} {h₀ : Heap} {L : Addr} {m : Str → Option Value} {R : Led}
theorem in_ledger {l : Addr} {vs : List Value} {ns : List Int} {n : Nat} {k : Int} {t : Tok} {Q : Value → Shared → Prop}
    (N : News h₀ L s.heap R) (hm : (l, W.listOf vs.toArray n) ∈ R) (hi : IntsAre vs ns) (h : Q (.bool (decide (k ∈ ns))) s) : wpAny (model prog w) A (compareOp .In (.int k t) (.ref l)) Q E s := by
  refine in_list_ints ⟨_, (N _ hm).1, rfl, n, rfl⟩ hi ?_
  have e : (ns.any fun x => x == k) = decide (k ∈ ns) := by
    rw [Bool.eq_iff_iff]
    simp
  rw [e]
  exact h
/-- append upon a list of the ledger -/
theorem append_L {l : Addr} {vs : List Value} {n : Nat} {g : Obj → Led} {v : Value} {Q : Value → Shared → Prop} (F : Fr h₀ L s.heap m) (N : News h₀ L s.heap R) (U : UpdF l (W.listOf vs.toArray n) R g) (hz : vs.length ≤ sizeLine)
    (h : ∀ h' n', Fr h₀ L h' m → News h₀ L h' (g (W.listOf (vs ++ [v]).toArray n')) → Q .none { s with heap := h' }) : wpAny (model prog w) A (call (.builtin "list.append") [.ref l, v]) Q E s := by
  have hHi4 := updF_split U
  first | (have pre := (And.left hHi4); have post := (And.left (And.right hHi4)); have e1 := (And.left (And.right (And.right hHi4))); have e2 := (And.left (And.right (And.right (And.right hHi4)))); have h3 := (And.right (And.right (And.right (And.right hHi4)))); try clear hHi4) | (refine hideE fun GG hGG => ?_; obtain ⟨pre, post, e1, e2, h3⟩ := hHi4; refine hGG ?_; clear hGG GG)
  have hm : (l, W.listOf vs.toArray n) ∈ R := by rw [e1]; simp
  refine wpAny_list_append_plain (hsz := by simpa using hz) ⟨n, (N _ hm).1⟩ fun h' hl' hs' => ?_
  have hHi5 := hl'
  first | (have n' := (And.left hHi5); have hl' := (And.right hHi5); try clear hHi5) | (obtain ⟨n', hl'⟩ := hHi5)
  refine h h' n' (kas_fr F hs' (N _ hm).2.1 (N _ hm).2.2) ?_
  rw [e2]
  intro q hq
  rcases List.mem_append.mp hq with hq | hq
  · exact ⟨(hs'.2 q.1 (h3 q (List.mem_append.mpr (.inl hq)))).trans (N q (by rw [e1]; simp [hq])).1, (N q (by rw [e1]; simp [hq])).2⟩
  · rcases List.mem_cons.mp hq with rfl | hq
    · refine ⟨?_, (N _ hm).2⟩
      rw [hl']
      simp
    · exact ⟨(hs'.2 q.1 (h3 q (List.mem_append.mpr (.inr hq)))).trans (N q (by rw [e1]; simp [hq])).1, (N q (by rw [e1]; simp [hq])).2⟩
end
theorem line_small {n : Nat} (h : n ≤ 1000) : n ≤ sizeLine := by rw [sizeLine_eq]; omega
theorem tl_ne : (Value.type "tuple") ≠ .type "list" := fun e => by injection e with e; exact absurd e (by decide)
theorem ne_of_obj {h₀ h : Heap} {L : Addr} {R : Led} {a b : Addr} {o o' : Obj} (N : News h₀ L h R) (x : (a, o) ∈ R) (y : (b, o') ∈ R) (h : o ≠ o') : a ≠ b := by
  rintro rfl
  exact h (news_fun N x y)
theorem cls_ne {o o' : Obj} (h : o.cls ≠ o'.cls) : o ≠ o' := fun e => h (by rw [e])
/-- a ledger with one entry ahead -/
theorem reform {h₀ h : Heap} {L a : Addr} {o : Obj} {R : Led} (N : News h₀ L h R) (x : (a, o) ∈ R) : ∃ R7, (∀ p ∈ R, p.1 ≠ a → p ∈ R7) ∧ (∀ p ∈ R7, p ∈ R) ∧ (∀ p ∈ R7, p.1 ≠ a) ∧ News h₀ L h ((a, o) :: R7) :=
  ⟨off a R, fun _ hp hn => mem_off hp hn, fun _ hp => (of_off hp).1, off_ne, news_head N x⟩
theorem memOf {h₀ h : Heap} {L : Addr} {R : Led} {p : Addr × Obj} (_N : News h₀ L h R) (h : p ∈ R) : p ∈ R := h
theorem news_lt {h₀ h : Heap} {L : Addr} {R : Led} (N : News h₀ L h R) : ∀ p ∈ R, p.1 < h.objs.size := fun p hp => Heap.lt_size (N p hp).1
/-- the names that a turn leaves -/
theorem fr_same {x z : Str} {stored : List Str} {u m₀ : Str → Option Value} {v : Option Value} (hz : z ≠ x) (hc : stored.contains z = false) : (if z = x then v else kstB (fun z => if stored.contains z then u z else m₀ z) [] z) = m₀ z := by
  rw [if_neg hz]
  show (if stored.contains z = true then u z else m₀ z) = m₀ z
  rw [hc]
  rfl
/-- what is no solid object is no list -/
theorem ns_off {h₀ h : Heap} {L a : Addr} {R : Led} {o : Obj} {p : Addr × Obj} (N : News h₀ L h R) (x : (a, o) ∈ R) (hs : Solid o) (hp : p ∈ R) (hn : ¬ Solid p.2) : p.1 ≠ a := by
  intro e
  have : p.2 = o := news_fun N (a := a) (by rw [← e]; exact hp) x
  exact hn (this ▸ hs)
theorem tup_off {h₀ h : Heap} {L a : Addr} {R : Led} {its : Array Value} {n : Nat} {p : Addr × Obj} (N : News h₀ L h R) (x : (a, W.listOf its n) ∈ R) (hp : p ∈ R) (hc : p.2.cls = .type "tuple") : p.1 ≠ a := by
  intro e
  have : p.2 = W.listOf its n := news_fun N (a := a) (by rw [← e]; exact hp) x
  rw [this] at hc
  exact tl_ne hc.symm
section
variable {prog : Program} {w : World} {A : Around} {E : Value → Shared → Prop} {s : Shared} {h₀ : Heap} {L : Addr} {m : Str → Option Value} {R : Led}
theorem upd_L {l : Addr} {vs ws : List Value} {n n' : Nat} {g : Obj → Led} {h' : Heap} (F : Fr h₀ L s.heap m) (N : News h₀ L s.heap R) (U : UpdF l (W.listOf vs.toArray n) R g) (hl' : h'.get? l = some (W.listOf ws.toArray n')) (hs' : Heap.SameBut l s.heap h') :
    Fr h₀ L h' m ∧ News h₀ L h' (g (W.listOf ws.toArray n')) := by
  have hHi6 := updF_split U
  first | (have pre := (And.left hHi6); have post := (And.left (And.right hHi6)); have e1 := (And.left (And.right (And.right hHi6))); have e2 := (And.left (And.right (And.right (And.right hHi6)))); have h3 := (And.right (And.right (And.right (And.right hHi6)))); try clear hHi6) | (refine hideE fun GG hGG => ?_; obtain ⟨pre, post, e1, e2, h3⟩ := hHi6; refine hGG ?_; clear hGG GG)
  have hm : (l, W.listOf vs.toArray n) ∈ R := by rw [e1]; simp
  refine ⟨kas_fr F hs' (N _ hm).2.1 (N _ hm).2.2, ?_⟩
  rw [e2]
  intro q hq
  rcases List.mem_append.mp hq with hq | hq
  · exact ⟨(hs'.2 q.1 (h3 q (List.mem_append.mpr (.inl hq)))).trans (N q (by rw [e1]; simp [hq])).1, (N q (by rw [e1]; simp [hq])).2⟩
  · rcases List.mem_cons.mp hq with rfl | hq
    · exact ⟨hl', (N _ hm).2⟩
    · exact ⟨(hs'.2 q.1 (h3 q (List.mem_append.mpr (.inr hq)))).trans (N q (by rw [e1]; simp [hq])).1, (N q (by rw [e1]; simp [hq])).2⟩
theorem updF_mem {l : Addr} {o : Obj} {g : Obj → Led} (U : UpdF l o R g) : (l, o) ∈ R := by
  have hHi7 := updF_split U
  first | (have pre := (And.left hHi7); have post := (And.left (And.right hHi7)); have e1 := (And.left (And.right (And.right hHi7))); have hU3 := (And.left (And.right (And.right (And.right hHi7)))); have hU4 := (And.right (And.right (And.right (And.right hHi7)))); try clear hHi7) | (refine hideE fun GG hGG => ?_; obtain ⟨pre, post, e1, _, _⟩ := hHi7; refine hGG ?_; clear hGG GG)
  rw [e1]; simp
/-- remove(k) upon a list of ints of the ledger -/
theorem remove_L {l : Addr} {vs : List Value} {ns : List Int} {n : Nat} {g : Obj → Led} {k : Int} {t : Tok} {j : Nat} {Q : Value → Shared → Prop} (F : Fr h₀ L s.heap m) (N : News h₀ L s.heap R) (U : UpdF l (W.listOf vs.toArray n) R g) (hi : IntsAre vs ns) (hz : vs.length ≤ sizeLine)
    (hj : ns.findIdx? (· == k) = some j) (h : ∀ h' n', Fr h₀ L h' m → News h₀ L h' (g (W.listOf (vs.eraseIdx j).toArray n')) → Q .none { s with heap := h' }) : wpAny (model prog w) A (call (.builtin "list.remove") [.ref l, .int k t]) Q E s := by
  have hm := updF_mem U
  have hl := (N _ hm).1
  have hHi8 := List.findIdx?_eq_some_iff_getElem.mp hj
  first | (have hjl := (And.left hHi8); have hjt := (And.left (And.right hHi8)); have hjf := (And.right (And.right hHi8)); try clear hHi8) | (refine hideE fun GG hGG => ?_; obtain ⟨hjl, hjt, hjf⟩ := hHi8; refine hGG ?_; clear hGG GG)
  have hlen := hi.length
  have key : ∀ i (hi' : i < vs.length), ∃ u, vs[i] = .int (ns[i]'(hlen ▸ hi')) u := fun i hi' => by
    have hHi9 := hi.get i (ns[i]'(hlen ▸ hi')) (List.getElem?_eq_getElem _)
    first | (have u := (And.left hHi9); have hu := (And.right hHi9); try clear hHi9) | (obtain ⟨u, hu⟩ := hHi9)
    exact ⟨u, by rw [List.getElem?_eq_getElem hi'] at hu; exact Option.some.inj hu⟩
  refine call_meets PySem.F.slot_list_remove (T := "list") ⟨_, hl, rfl⟩ PySem.F.entry_list_remove (PySem.F.args_list_remove_2 _ _) (PySem.MeetsSeq.list_remove l vs.toArray n (.int k t) (fun v => match v with | .int a _ => a == k | _ => false) ?_ j (by simpa using hlen ▸ hjl) ?_ ?_ (by simpa using hz)) ⟨hl, ?_⟩
  · intro y hy
    have hHi10 := List.getElem_of_mem (show y ∈ vs by simpa using hy)
    first | (have hE5 := (And.right (And.right hHi10)); subst hE5; have i := (And.left hHi10); have hi' := (And.left (And.right hHi10)); try clear hHi10) | (refine hideE fun GG hGG => ?_; obtain ⟨i, hi', rfl⟩ := hHi10; refine hGG ?_; clear hGG GG)
    have hHi11 := key i hi'
    first | (have u := (And.left hHi11); have hu := (And.right hHi11); try clear hHi11) | (obtain ⟨u, hu⟩ := hHi11)
    rw [hu]
    exact PySem.MeetsSeq.EqGives.int _ _ _ _
  · have hHi12 := key j (hlen ▸ hjl)
    first | (have u := (And.left hHi12); have hu := (And.right hHi12); try clear hHi12) | (obtain ⟨u, hu⟩ := hHi12)
    simp only [List.getElem_toArray, hu]
    exact hjt
  · intro i hi' hij
    have hHi13 := key i (by simpa using hi')
    first | (have u := (And.left hHi13); have hu := (And.right hHi13); try clear hHi13) | (obtain ⟨u, hu⟩ := hHi13)
    simp only [List.getElem_toArray, hu]
    have := hjf i hij
    simpa using this
  · have e : (Obj.mapSeq (fun xs => xs.eraseIdxIfInBounds j) (W.listOf vs.toArray n)) = W.listOf (vs.eraseIdx j).toArray (n + 1) := by
      simp [Obj.mapSeq, W.listOf]
      rw [List.length_eraseIdx]
      split <;> omega
    have hHi14 := upd_L (h' := s.heap.update l (Obj.mapSeq fun xs => xs.eraseIdxIfInBounds j)) (ws := vs.eraseIdx j) (n' := n + 1) F N U (by rw [Heap.get?_update_self _ hl (by rw [e]; rfl), e]) (Heap.SameBut.update ..)
    first | (have F' := (And.left hHi14); have N' := (And.right hHi14); try clear hHi14) | (obtain ⟨F', N'⟩ := hHi14)
    exact h _ _ F' N'
/-- insert(0, k) upon a list of the ledger -/
theorem insert_L {l : Addr} {vs : List Value} {n : Nat} {g : Obj → Led} {k : Int} {t u : Tok} {Q : Value → Shared → Prop} (F : Fr h₀ L s.heap m) (N : News h₀ L s.heap R) (U : UpdF l (W.listOf vs.toArray n) R g) (hz : vs.length ≤ sizeLine)
    (h : ∀ h' n', Fr h₀ L h' m → News h₀ L h' (g (W.listOf (.int k t :: vs).toArray n')) → Q .none { s with heap := h' }) : wpAny (model prog w) A (call (.builtin "list.insert") [.ref l, .int 0 u, .int k t]) Q E s := by
  have hm := updF_mem U
  have hl := (N _ hm).1
  refine call_meets PySem.F.slot_list_insert (T := "list") ⟨_, hl, rfl⟩ PySem.F.entry_list_insert (by first | exact PySem.F.args_list_insert_3 _ _ _ | (unfold argsOk; kernel_rfl)) (PySem.AutoListH.list_insert_list_int_int_1 l vs.toArray n 0 u k t (by decide) (by simpa using hz)) ⟨hl, ?_⟩
  have e : (Obj.mapSeq (fun xs : Array Value => have k' := if (0 : Int) < 0 then ((0 : Int) + ((xs.size : Nat) : Int)).toNat else min (0 : Int).toNat xs.size; (xs.extract 0 k').push (Value.int k t) ++ xs.extract k') (W.listOf vs.toArray n)) = W.listOf (.int k t :: vs).toArray (n + 1) := by
    simp [Obj.mapSeq, W.listOf]
  have hHi15 := upd_L (h' := s.heap.update l (Obj.mapSeq fun xs : Array Value => have k' := if (0 : Int) < 0 then ((0 : Int) + ((xs.size : Nat) : Int)).toNat else min (0 : Int).toNat xs.size; (xs.extract 0 k').push (Value.int k t) ++ xs.extract k')) (ws := .int k t :: vs) (n' := n + 1) F N U
    (by rw [Heap.get?_update_self _ hl (by rw [e]; rfl), e]) (Heap.SameBut.update ..)
  first | (have F' := (And.left hHi15); have N' := (And.right hHi15); try clear hHi15) | (obtain ⟨F', N'⟩ := hHi15)
  exact h _ _ F' N'
end
end N240
end
-- KitE
section
open PySem PySem.W PyProof.Rows PySem.Spec PySem.Calls
namespace N240
section
variable {prog : Program} {w : World} {A : Around} {E : Value → Shared → Prop} {env : Env} {h₀ : Heap} {L : Addr} {m : Str → Option Value}
/-- what a turn of a comprehension leaves -/
inductive CompPost (h₀ : Heap) (L : Addr) (m : Str → Option Value) (s₂ : Shared) (C D I : Addr) (oC oD oI : Obj) (Iv : Nat → List Value → Led → Prop) (i : Nat) (ys : List Value) (s₄ : Shared) : Prop
  | mk (H' : Heap) (tk' : Nat) (nx' : Led) (e : s₄ = { s₂ with heap := H', toks := tk' }) (F : Fr h₀ L H' m) (N : News h₀ L H' ((C, oC) :: (D, oD) :: (I, oI) :: nx')) (off : ∀ p ∈ nx', p.1 ≠ C ∧ p.1 ≠ D ∧ p.1 ≠ I) (J : Iv i ys nx') : CompPost h₀ L m s₂ C D I oC oD oI Iv i ys s₄
/-- the state between the turns -/
inductive CompSt (h₀ : Heap) (L C D I : Addr) (m : Str → Option Value) (St : Nat → Heap → Prop) (Iv : Nat → List Value → Led → Prop) (n : Nat) (s₂ : Shared) (k : Nat) (s' : Shared) : Prop
  | mk (i : Nat) (ys : List Value) (nD : Nat) (nx : Led) (mC : Str → Option Value) (H : Heap) (tk : Nat) (e : s' = { s₂ with heap := H, toks := tk }) (st : St i H) (hn : H.Ns C mC) (F : Fr h₀ L H m) (N : News h₀ L H ((D, W.listOf ys.toArray nD) :: nx)) (off : ∀ p ∈ nx, p.1 ≠ C ∧ p.1 ≠ D ∧ p.1 ≠ I) (hl : ys.length ≤ i) (J : Iv i ys nx) (hi : i ≤ n) (ek : k = n + 1 - i) : CompSt h₀ L C D I m St Iv n s₂ k s'
/-- the tests of a turn, and then -/
abbrev testsWp (prog : Program) (w : World) (A : Around) (ifs : List Expr) (ce : Env) (Q : Bool → Shared → Prop) (E' : Value → Shared → Prop) (s : Shared) : Prop :=
  wpAny (model prog w) A (forIn ifs true fun c r => if r = true then do let ok ← isTrue c ce (eval c ce); pure (ForInStep.yield ok) else pure (ForInStep.yield r)) Q E' s
/-- what a turn must show -/
abbrev CompTurn (prog : Program) (w : World) (A : Around) (env : Env) (h₀ : Heap) (L : Addr) (m : Str → Option Value) (elt : Expr) (x : Str) (ifs : List Expr) (scope : Scope) (cl : List (Str × Addr)) (s₂ : Shared) (I : Addr) (n : Nat) (P : Nat → Value → Prop) (Iv : Nat → List Value → Led → Prop) : Prop :=
  ∀ i v ys nx C D oC oD oI H tk mC E', i < n → P i v → ys.length ≤ i → Iv i ys nx → (∀ p ∈ nx, p.1 ≠ C ∧ p.1 ≠ D ∧ p.1 ≠ I) → C ≠ D → C ≠ I → D ≠ I → Fr h₀ L H m → News h₀ L H ((C, oC) :: (D, oD) :: (I, oI) :: nx) → H.Ns C mC → mC x = some v →
    testsWp prog w A ifs (compEnvC scope cl C env) (fun ok s₃ => if ok = true then wpAny (model prog w) A (eval elt (compEnvC scope cl C env)) (fun y s₄ => CompPost h₀ L m s₂ C D I oC oD oI Iv (i + 1) (ys ++ [y]) s₄) E' s₃ else CompPost h₀ L m s₂ C D I oC oD oI Iv (i + 1) ys s₃) E' { s₂ with heap := H, toks := tk }
/-- what a comprehension walks over, what a turn does, and what comes behind it -/
inductive CompUse (prog : Program) (w : World) (A : Around) (env : Env) (h₀ : Heap) (L : Addr) (m : Str → Option Value) (elt : Expr) (x : Str) (ifs : List Expr) (scope : Scope) (cl : List (Str × Addr)) (Q : Value → Shared → Prop) (it : Value) (s₂ : Shared) : Prop
  | mk (I : Addr) (n : Nat) (P : Nat → Value → Prop) (St : Nat → Heap → Prop) (nx keep : Led) (Iv : Nat → List Value → Led → Prop) (hit : it = .ref I) (hkp : ∀ i ys nx, Iv i ys nx → ∀ p ∈ keep, p ∈ nx) (Wk : Walks prog w A I (I :: keep.map Prod.fst) [I] n P St) (live : ∀ i h, St i h → ∃ o, h.get? I = some o) (hn : n ≤ sizeLine) (st : St 0 s₂.heap)
      (hI : I < s₂.heap.objs.size) (hI0 : h₀.get? I = none) (hIL : I ≠ L) (hnI : ∀ p ∈ nx, p.1 ≠ I) (F : Fr h₀ L s₂.heap m) (N : News h₀ L s₂.heap nx) (J : Iv 0 [] nx) (turn : CompTurn prog w A env h₀ L m elt x ifs scope cl s₂ I n P Iv)
      (done : ∀ D ys nD nx H tk, ys.length ≤ n → Iv n ys nx → (∀ p ∈ nx, p.1 ≠ D) → Fr h₀ L H m → News h₀ L H ((D, W.listOf ys.toArray nD) :: nx) → Q (.ref D) { s₂ with heap := H, toks := tk }) : CompUse prog w A env h₀ L m elt x ifs scope cl Q it s₂
/-- the same, where the list is bound to a name at once -/
inductive CompUseA (prog : Program) (w : World) (A : Around) (env : Env) (h₀ : Heap) (L : Addr) (m : Str → Option Value) (elt : Expr) (x y : Str) (ifs : List Expr) (scope : Scope) (cl : List (Str × Addr)) (Q : Flow → Shared → Prop) (it : Value) (s₂ : Shared) : Prop
  | mk (I : Addr) (n : Nat) (P : Nat → Value → Prop) (St : Nat → Heap → Prop) (nx keep : Led) (Iv : Nat → List Value → Led → Prop) (hit : it = .ref I) (hkp : ∀ i ys nx, Iv i ys nx → ∀ p ∈ keep, p ∈ nx) (Wk : Walks prog w A I (I :: keep.map Prod.fst) [I] n P St) (live : ∀ i h, St i h → ∃ o, h.get? I = some o) (hn : n ≤ sizeLine) (st : St 0 s₂.heap)
      (hI : I < s₂.heap.objs.size) (hI0 : h₀.get? I = none) (hIL : I ≠ L) (hnI : ∀ p ∈ nx, p.1 ≠ I) (F : Fr h₀ L s₂.heap m) (N : News h₀ L s₂.heap nx) (J : Iv 0 [] nx) (turn : CompTurn prog w A env h₀ L m elt x ifs scope cl s₂ I n P Iv)
      (done : ∀ D ys nD nx H tk, ys.length ≤ n → Iv n ys nx → (∀ p ∈ nx, p.1 ≠ D) → Fr h₀ L H (fun z => if z = y then some (.ref D) else m z) → News h₀ L H ((D, W.listOf ys.toArray nD) :: nx) → Q .next { s₂ with heap := H, toks := tk }) : CompUseA prog w A env h₀ L m elt x y ifs scope cl Q it s₂
/-- the loop of a comprehension with tests, whose tests and element may change what the ledger bears, but for what is kept -/
theorem comp_core {s₂ : Shared} {elt iter : Expr} {x : Str} {px : Pos} {ifs : List Expr} {scope : Scope} {cl : List (Str × Addr)} {pos : Pos} {I : Addr} {n : Nat} {P : Nat → Value → Prop} {St : Nat → Heap → Prop} {nx keep : Led} {Iv : Nat → List Value → Led → Prop} {Rp : Value → Addr → Result → Shared → Prop}
    (hcell : ∀ y ∈ scope.names, y.2 ≠ .cell) (hkind : scope.kind = .function) (hx : scope.names.lookup x = some .local)
    (hkp : ∀ i ys nx, Iv i ys nx → ∀ p ∈ keep, p ∈ nx) (Wk : Walks prog w A I (I :: keep.map Prod.fst) [I] n P St) (hlive : ∀ i h, St i h → ∃ o, h.get? I = some o) (hsz : n ≤ sizeLine) (hst : St 0 s₂.heap)
    (hIlt : I < s₂.heap.objs.size) (hI0 : h₀.get? I = none) (hIL : I ≠ L) (hnI : ∀ p ∈ nx, p.1 ≠ I) (F : Fr h₀ L s₂.heap m) (N : News h₀ L s₂.heap nx) (hJ : Iv 0 [] nx) (turn : CompTurn prog w A env h₀ L m elt x ifs scope cl s₂ I n P Iv)
    (hR : ∀ C D ys nD nx H tk mC, C ≠ L → h₀.get? C = none → D ≠ C → H.Ns C mC → ys.length ≤ n → Iv n ys nx → (∀ p ∈ nx, p.1 ≠ C ∧ p.1 ≠ D) → Fr h₀ L H m → News h₀ L H ((D, W.listOf ys.toArray nD) :: nx) → Rp (.ref D) C (.ok .next) { s₂ with heap := H, toks := tk }) :
    wpAny (model prog w) A (newList []) (fun acc s₃ => wpAny (model prog w) A (newFunctionEnv scope env.globals cl [] env.qual none .none (some env)) (fun cenv s₄ =>
      codeAny (model prog w) A (.compStart (.ListComp elt [⟨.Name x px, iter, ifs, 0⟩] scope pos) 0 (.ref I) acc { cenv with scope := relabel scope env }) (Rp acc cenv.locals) s₄) E s₃) E s₂ := by
  refine wpAny_newObj_type (wpAny_newFunctionEnv hcell (by intro y hy; simp at hy) (fun h₁ hns₁ hsb₁ => ?_) hkind)
  dsimp only at hns₁ hsb₁ ⊢
  generalize hH2 : s₂.heap.push { cls := .type "list", dict := none, data := .seq ([] : List Value).toArray } = H2 at hns₁ hsb₁ ⊢
  have hC : H2.objs.size = s₂.heap.objs.size + 1 := by rw [← hH2, Heap.size_push]
  have hDC : s₂.heap.objs.size ≠ H2.objs.size := by rw [hC]; exact Nat.ne_of_lt (Nat.lt_succ_self _)
  have old : ∀ b o, s₂.heap.get? b = some o → h₁.get? b = some o := fun b o e => hsb₁.extBut b o (by rw [hC]; exact Nat.ne_of_lt (Nat.lt_succ_of_lt (Heap.lt_size e))) (Heap.get?_push_of_some _ (hH2 ▸ Heap.get?_push_of_some _ e))
  have hacc : h₁.get? s₂.heap.objs.size = some (W.listOf #[] 0) := hsb₁.extBut _ _ hDC (Heap.get?_push_of_some _ (hH2 ▸ Heap.get?_push_size _ rfl))
  have fresh : ∀ a, s₂.heap.objs.size ≤ a → h₀.get? a = none := fun a ha => by
    cases e : h₀.get? a with
    | none => rfl
    | some o' => exact absurd (Heap.lt_size (F.keep _ _ e)) (Nat.not_lt.mpr ha)
  have hLlt : L < s₂.heap.objs.size := by obtain ⟨_, _, _, e, _⟩ := F.ns; exact Heap.lt_size e
  generalize hCd : H2.objs.size = C at *
  generalize hDd : s₂.heap.objs.size = D at *
  have hLlt := ltN hLlt
  have hIlt := ltN hIlt
  have hC : @Eq Nat C (D + 1) := hC
  have hCL : C ≠ L := neN (ne_up1 hLlt hC)
  have hDL : D ≠ L := neN (Nat.ne_of_gt hLlt)
  have hCI : C ≠ I := neN (ne_up1 hIlt hC)
  have hDI : D ≠ I := neN (Nat.ne_of_gt hIlt)
  have hC0 : h₀.get? C = none := fresh C (hC ▸ Nat.le_succ _)
  have hD0 : h₀.get? D = none := fresh D (Nat.le_refl _)
  have hnx : ∀ p ∈ nx, p.1 ≠ C ∧ p.1 ≠ D ∧ p.1 ≠ I := fun p hp => by
    have := ltN (Heap.lt_size (N p hp).1)
    rw [hDd] at this
    exact ⟨neN (Nat.ne_of_lt (hC ▸ Nat.lt_succ_of_lt this)), neN (Nat.ne_of_lt this), hnI p hp⟩
  have F₁ : Fr h₀ L h₁ m := F.keeps old
  have N₁ : News h₀ L h₁ ((D, W.listOf #[] 0) :: nx) := fun p hp => by
    rcases List.mem_cons.mp hp with rfl | hp
    · exact ⟨hacc, hDL, hD0⟩
    · exact ⟨old _ _ (N p hp).1, (N p hp).2⟩
  have hst₁ : St 0 h₁ := Wk.frame _ _ _ hst fun b _ o e => old b o e
  have loop : ∀ s₃ : Shared, s₃ = { s₂ with heap := h₁, toks := s₂.toks + ([] : List (Str × Value)).length } →
      codeAny (model prog w) A (.compLoop (.ListComp elt [⟨.Name x px, iter, ifs, 0⟩] scope pos) 0 (.ref I) (.ref D) (compEnvC scope cl C env)) (Rp (.ref D) C) s₃ := by
    rintro s₃ rfl
    refine codeAny_compLoop_tests
      (CompSt h₀ L C D I m St Iv n s₂) ?_ (n + 1)
      ⟨0, [], 0, nx, _, h₁, _, rfl, hst₁, hns₁, F₁, N₁, hnx, Nat.le_refl _, hJ, Nat.zero_le _, rfl⟩
    intro k s' hHi1
    first | (have hE1 := (And.left (And.right (And.right (And.right (And.right (And.right (And.right (And.right hHi1)))))))); subst hE1; have hE2 := (And.right (And.right (And.right (And.right (And.right (And.right (And.right (And.right (And.right (And.right (And.right (And.right (And.right (And.right (And.right (And.right hHi1)))))))))))))))); subst hE2; have i := (And.left hHi1); have ys := (And.left (And.right hHi1)); have nD := (And.left (And.right (And.right hHi1))); have nx := (And.left (And.right (And.right (And.right hHi1)))); have mC := (And.left (And.right (And.right (And.right (And.right hHi1))))); have H := (And.left (And.right (And.right (And.right (And.right (And.right hHi1)))))); have tk := (And.left (And.right (And.right (And.right (And.right (And.right (And.right hHi1))))))); have hst' := (And.left (And.right (And.right (And.right (And.right (And.right (And.right (And.right (And.right hHi1))))))))); have hn' := (And.left (And.right (And.right (And.right (And.right (And.right (And.right (And.right (And.right (And.right hHi1)))))))))); have F' := (And.left (And.right (And.right (And.right (And.right (And.right (And.right (And.right (And.right (And.right (And.right hHi1))))))))))); have N' := (And.left (And.right (And.right (And.right (And.right (And.right (And.right (And.right (And.right (And.right (And.right (And.right hHi1)))))))))))); have hnx' := (And.left (And.right (And.right (And.right (And.right (And.right (And.right (And.right (And.right (And.right (And.right (And.right (And.right hHi1))))))))))))); have hlen := (And.left (And.right (And.right (And.right (And.right (And.right (And.right (And.right (And.right (And.right (And.right (And.right (And.right (And.right hHi1)))))))))))))); have hJ' := (And.left (And.right (And.right (And.right (And.right (And.right (And.right (And.right (And.right (And.right (And.right (And.right (And.right (And.right (And.right hHi1))))))))))))))); have hi := (And.left (And.right (And.right (And.right (And.right (And.right (And.right (And.right (And.right (And.right (And.right (And.right (And.right (And.right (And.right (And.right hHi1)))))))))))))))); try clear hHi1) | (refine hideE fun GG hGG => ?_; obtain ⟨i, ys, nD, nx, mC, H, tk, rfl, hst', hn', F', N', hnx', hlen, hJ', hi, rfl⟩ := hHi1; refine hGG ?_; clear hGG GG)
    by_cases hlt : i < n
    · refine Wk.item i _ _ _ hlt hst' fun v h₂ tk₂ hPv hst₂ hk₂ => ?_
      have hk₂' : ∀ b o, b ≠ I → H.get? b = some o → h₂.get? b = some o := fun b o hb e => hk₂ b o (fun hm => hb (List.mem_singleton.mp hm)) e
      have F₂ := fr_but F' hk₂' hIL hI0
      have N₂ := news_but N' hk₂' (fun p hp => by
        rcases List.mem_cons.mp hp with rfl | hp
        · exact hDI
        · exact (hnx' p hp).2.2)
      have hn₂ := hn'.at' fun o e => hk₂' C o hCI e
      refine wpAny_assign_Name (wpAny_storeName_local (lookup_relabel_local hx) hn₂ (fun h₃ hn₃ hs₃ => ?_) (by simp [compEnvC, relabel, hkind]))
      have hk₃ : ∀ b o, b ≠ C → h₂.get? b = some o → h₃.get? b = some o := fun b o hb e => hs₃.extBut b o hb e
      have F₃ := fr_but F₂ hk₃ hCL hC0
      have N₃ := news_but N₂ hk₃ (fun p hp => by
        rcases List.mem_cons.mp hp with rfl | hp
        · exact fun e => hDC e
        · exact (hnx' p hp).1)
      have hst₃ : St (i + 1) h₃ := Wk.frame _ _ _ hst₂ fun b hb o e => hk₃ b o (by
        rcases List.mem_cons.mp hb with rfl | hb
        · exact Ne.symm hCI
        · have hHi2 := List.mem_map.mp hb
          first | (have hE3 := (And.right (And.right hHi2)); subst hE3; have p := (And.left hHi2); have hp := (And.left (And.right hHi2)); try clear hHi2) | (refine hideE fun GG hGG => ?_; obtain ⟨p, hp, rfl⟩ := hHi2; refine hGG ?_; clear hGG GG)
          exact (hnx' p (hkp _ _ _ hJ' p hp)).1) e
      have hHi3 := hlive _ _ hst₃
      first | (have oI := (And.left hHi3); have hoI := (And.right hHi3); try clear hHi3) | (obtain ⟨oI, hoI⟩ := hHi3)
      have hHi4 : ∃ o, h₃.get? C = some o := let ⟨o, _, _, e, _⟩ := hn₃; ⟨o, e⟩
      first | (have oC := (And.left hHi4); have hoC := (And.right hHi4); try clear hHi4) | (obtain ⟨oC, hoC⟩ := hHi4)
      have hJn : n + 1 - (i + 1) < n + 1 - i := turn_lt (by assumption)
      have fin : ∀ H' h₅ : Heap, ∀ nx', News h₀ L H' ((C, oC) :: (D, W.listOf ys.toArray nD) :: (I, oI) :: nx') → (∀ p ∈ nx', p.1 ≠ C ∧ p.1 ≠ D ∧ p.1 ≠ I) → (∀ p ∈ keep, p ∈ nx') → (∀ b o, b ≠ D → H'.get? b = some o → h₅.get? b = some o) → St (i + 1) h₅ := by
        intro H' h₅ nx' N₄ hnx₄ hkp₄ hk₅
        refine Wk.frame _ _ _ hst₃ fun b hb o e => ?_
        rcases List.mem_cons.mp hb with rfl | hb
        · refine hk₅ _ o (Ne.symm hDI) ?_
          rw [hoI] at e
          rw [← Option.some.inj e]
          exact (N₄ (_, oI) (List.mem_cons_of_mem _ (List.mem_cons_of_mem _ List.mem_cons_self))).1
        · have hHi5 := List.mem_map.mp hb
          first | (have hE4 := (And.right (And.right hHi5)); subst hE4; have p := (And.left hHi5); have hp := (And.left (And.right hHi5)); try clear hHi5) | (refine hideE fun GG hGG => ?_; obtain ⟨p, hp, rfl⟩ := hHi5; refine hGG ?_; clear hGG GG)
          have hp' := hkp _ _ _ hJ' p hp
          refine hk₅ _ o (hnx' p hp').2.1 ?_
          rw [(N₃ p (by simp [hp'])).1] at e
          rw [← Option.some.inj e]
          exact (N₄ p (by simp [hkp₄ p hp])).1
      have fin2 : ∀ H' h₅ : Heap, ∀ nx', News h₀ L H' ((C, oC) :: (D, W.listOf ys.toArray nD) :: (I, oI) :: nx') → (∀ b o, b ≠ D → H'.get? b = some o → h₅.get? b = some o) → ∃ mC', h₅.Ns C mC' := by
        intro H' h₅ nx' N₄ hk₅
        exact ⟨_, (hn₃.at' (h' := H') fun o e => by
          have e' : h₃.get? C = some o := e
          rw [hoC] at e'
          rw [← Option.some.inj e']
          exact (N₄ (C, oC) (by simp)).1).at' fun o e => hk₅ C o (Ne.symm hDC) e⟩
      refine wpAny_mono (turn i v ys nx C D oC (W.listOf ys.toArray nD) oI h₃ _ _ _ hlt hPv hlen hJ' hnx' (Ne.symm hDC) hCI hDI F₃ (fun p hp => ?_) hn₃ (by simp)) (fun ok s₃ hok => ?_) fun _ _ e => e
      · rcases List.mem_cons.mp hp with rfl | hp
        · exact ⟨hoC, hCL, hC0⟩
        · rcases List.mem_cons.mp hp with rfl | hp
          · exact N₃ _ (List.mem_cons.mpr (.inl rfl))
          · rcases List.mem_cons.mp hp with rfl | hp
            · exact ⟨hoI, hIL, hI0⟩
            · exact N₃ _ (List.mem_cons.mpr (.inr hp))
      · cases ok with
        | false =>
          simp only [Bool.false_eq_true, if_false] at hok ⊢
          first | (have hE5 := (And.left (And.right (And.right (And.right hok)))); subst hE5; have H' := (And.left hok); have tk' := (And.left (And.right hok)); have nx' := (And.left (And.right (And.right hok))); have F₄ := (And.left (And.right (And.right (And.right (And.right hok))))); have N₄ := (And.left (And.right (And.right (And.right (And.right (And.right hok)))))); have hnx₄ := (And.left (And.right (And.right (And.right (And.right (And.right (And.right hok))))))); have hJ₄ := (And.right (And.right (And.right (And.right (And.right (And.right (And.right hok))))))); try clear hok) | (refine hideE fun GG hGG => ?_; obtain ⟨H', tk', nx', rfl, F₄, N₄, hnx₄, hJ₄⟩ := hok; refine hGG ?_; clear hGG GG)
          have hHi7 := fin2 H' H' nx' N₄ fun _ _ _ e => e
          first | (have mC' := (And.left hHi7); have hmC' := (And.right hHi7); try clear hHi7) | (obtain ⟨mC', hmC'⟩ := hHi7)
          exact ⟨n + 1 - (i + 1), hJn, i + 1, ys, nD, nx', mC', H', tk', rfl, fin H' H' nx' N₄ hnx₄ (hkp _ _ _ hJ₄) (fun _ _ _ e => e), hmC', F₄, (fun p hp => N₄ p (by
            rcases List.mem_cons.mp hp with rfl | hp
            · simp
            · simp [hp])), hnx₄, Nat.le_succ_of_le hlen, hJ₄, hlt, rfl⟩
        | true =>
          simp only [if_true] at hok ⊢
          refine wpAny_mono hok (fun y s₄ h₄ => ?_) fun _ _ e => e
          first | (have hE6 := (And.left (And.right (And.right (And.right h₄)))); subst hE6; have H' := (And.left h₄); have tk' := (And.left (And.right h₄)); have nx' := (And.left (And.right (And.right h₄))); have F₄ := (And.left (And.right (And.right (And.right (And.right h₄))))); have N₄ := (And.left (And.right (And.right (And.right (And.right (And.right h₄)))))); have hnx₄ := (And.left (And.right (And.right (And.right (And.right (And.right (And.right h₄))))))); have hJ₄ := (And.right (And.right (And.right (And.right (And.right (And.right (And.right h₄))))))); try clear h₄) | (refine hideE fun GG hGG => ?_; obtain ⟨H', tk', nx', rfl, F₄, N₄, hnx₄, hJ₄⟩ := h₄; refine hGG ?_; clear hGG GG)
          have hys : ys.toArray.size ≤ sizeLine := by rw [List.size_toArray]; exact Nat.le_trans hlen (Nat.le_trans hi hsz)
          refine wpAny_list_append_plain (hsz := hys) ⟨nD, (N₄ (D, W.listOf ys.toArray nD) (by simp)).1⟩ fun h₅ hl₅ hs₅ => ?_
          first | (have nD' := (And.left hl₅); have hl₅ := (And.right hl₅); try clear hl₅) | (obtain ⟨nD', hl₅⟩ := hl₅)
          have hk₅ : ∀ b o, b ≠ D → H'.get? b = some o → h₅.get? b = some o := fun b o hb e => hs₅.extBut b o hb e
          have hHi10 := fin2 H' h₅ nx' N₄ hk₅
          first | (have mC' := (And.left hHi10); have hmC' := (And.right hHi10); try clear hHi10) | (obtain ⟨mC', hmC'⟩ := hHi10)
          refine ⟨n + 1 - (i + 1), hJn, i + 1, ys ++ [y], nD', nx', mC', h₅, tk', rfl, fin H' h₅ nx' N₄ hnx₄ (hkp _ _ _ hJ₄) hk₅, hmC', fr_but F₄ hk₅ hDL hD0, ?_, hnx₄, by rw [List.length_append]; exact Nat.succ_le_succ hlen, hJ₄, hlt, rfl⟩
          intro p hp
          rcases List.mem_cons.mp hp with rfl | hp
          · exact ⟨by rw [hl₅]; simp, hDL, hD0⟩
          · exact ⟨hk₅ _ _ (hnx₄ p hp).2.1 (N₄ p (by simp [hp])).1, (N₄ p (by simp [hp])).2⟩
    · have hin : i = n := turn_end (by assumption) (by assumption)
      subst hin
      refine Wk.done _ _ _ hst' fun h₂ tk₂ hk₂ => ?_
      have hk₂' : ∀ b o, b ≠ I → H.get? b = some o → h₂.get? b = some o := fun b o hb e => hk₂ b o (fun hm => hb (List.mem_singleton.mp hm)) e
      refine hR C D ys nD nx h₂ tk₂ _ hCL hC0 (fun e => hDC e) (hn'.at' fun o e => hk₂' C o hCI e) hlen hJ' (fun p hp => ⟨(hnx' p hp).1, (hnx' p hp).2.1⟩) (fr_but F' hk₂' hIL hI0) (news_but N' hk₂' ?_)
      intro p hp
      rcases List.mem_cons.mp hp with rfl | hp
      · exact hDI
      · exact (hnx' p hp).2.2
  exact codeAny_compStart_list (loop _ rfl) (Wk.self 0 _ _ _ hst₁ (loop _ rfl))
/-- a comprehension with tests -/
theorem comp_if {s : Shared} {elt iter : Expr} {x : Str} {px : Pos} {ifs : List Expr} {scope : Scope} {cl : List (Str × Addr)} {pos : Pos} {Q : Value → Shared → Prop} (_F : Fr h₀ L s.heap m)
    (hclos : closureFor scope env = pure cl) (hcell : ∀ y ∈ scope.names, y.2 ≠ .cell) (hkind : scope.kind = .function)
    (hnames : ∀ y ∈ scope.names, y.2 = .local → scope.names.lookup y.1 = some .local) (hx : scope.names.lookup x = some .local)
    (h : wpAny (model prog w) A (eval iter env) (fun xv s₁ => wpAny (model prog w) A (pyIter xv) (fun it s₂ => CompUse prog w A env h₀ L m elt x ifs scope cl Q it s₂) E s₁) E s)
    (hs : ∀ x, foldedSetIterable iter env x = pure x := by intro _; rfl) :
    wpAny (model prog w) A (eval (.ListComp elt [⟨.Name x px, iter, ifs, 0⟩] scope pos) env) Q E s := by
  rw [eval_ListComp]
  refine wpAny_comprehension_free (use := none) rfl hs hclos hkind hnames (wpAny_mono h (fun xv s₁ h₁ => wpAny_mono h₁ (fun it s₂ h₂ => ?_) fun _ _ e => e) fun _ _ e => e)
  first | (have hE7 := (And.left (And.right (And.right (And.right (And.right (And.right (And.right (And.right h₂)))))))); subst hE7; have I := (And.left h₂); have n := (And.left (And.right h₂)); have P := (And.left (And.right (And.right h₂))); have St := (And.left (And.right (And.right (And.right h₂)))); have nx := (And.left (And.right (And.right (And.right (And.right h₂))))); have keep := (And.left (And.right (And.right (And.right (And.right (And.right h₂)))))); have Iv := (And.left (And.right (And.right (And.right (And.right (And.right (And.right h₂))))))); have hkp := (And.left (And.right (And.right (And.right (And.right (And.right (And.right (And.right (And.right h₂))))))))); have Wk := (And.left (And.right (And.right (And.right (And.right (And.right (And.right (And.right (And.right (And.right h₂)))))))))); have hlive := (And.left (And.right (And.right (And.right (And.right (And.right (And.right (And.right (And.right (And.right (And.right h₂))))))))))); have hsz := (And.left (And.right (And.right (And.right (And.right (And.right (And.right (And.right (And.right (And.right (And.right (And.right h₂)))))))))))); have hst := (And.left (And.right (And.right (And.right (And.right (And.right (And.right (And.right (And.right (And.right (And.right (And.right (And.right h₂))))))))))))); have hIlt := (And.left (And.right (And.right (And.right (And.right (And.right (And.right (And.right (And.right (And.right (And.right (And.right (And.right (And.right h₂)))))))))))))); have hI0 := (And.left (And.right (And.right (And.right (And.right (And.right (And.right (And.right (And.right (And.right (And.right (And.right (And.right (And.right (And.right h₂))))))))))))))); have hIL := (And.left (And.right (And.right (And.right (And.right (And.right (And.right (And.right (And.right (And.right (And.right (And.right (And.right (And.right (And.right (And.right h₂)))))))))))))))); have hnI := (And.left (And.right (And.right (And.right (And.right (And.right (And.right (And.right (And.right (And.right (And.right (And.right (And.right (And.right (And.right (And.right (And.right h₂))))))))))))))))); have F := (And.left (And.right (And.right (And.right (And.right (And.right (And.right (And.right (And.right (And.right (And.right (And.right (And.right (And.right (And.right (And.right (And.right (And.right h₂)))))))))))))))))); have N := (And.left (And.right (And.right (And.right (And.right (And.right (And.right (And.right (And.right (And.right (And.right (And.right (And.right (And.right (And.right (And.right (And.right (And.right (And.right h₂))))))))))))))))))); have hJ := (And.left (And.right (And.right (And.right (And.right (And.right (And.right (And.right (And.right (And.right (And.right (And.right (And.right (And.right (And.right (And.right (And.right (And.right (And.right (And.right h₂)))))))))))))))))))); have turn := (And.left (And.right (And.right (And.right (And.right (And.right (And.right (And.right (And.right (And.right (And.right (And.right (And.right (And.right (And.right (And.right (And.right (And.right (And.right (And.right (And.right h₂))))))))))))))))))))); have done := (And.right (And.right (And.right (And.right (And.right (And.right (And.right (And.right (And.right (And.right (And.right (And.right (And.right (And.right (And.right (And.right (And.right (And.right (And.right (And.right (And.right h₂))))))))))))))))))))); try clear h₂) | (refine hideE fun GG hGG => ?_; obtain ⟨I, n, P, St, nx, keep, Iv, rfl, hkp, Wk, hlive, hsz, hst, hIlt, hI0, hIL, hnI, F, N, hJ, turn, done⟩ := h₂; refine hGG ?_; clear hGG GG)
  refine comp_core hcell hkind hx hkp Wk hlive hsz hst hIlt hI0 hIL hnI F N hJ turn fun C D ys nD nx H tk mC hCL hC0 hDC hns hlen hJ' hnx' F' N' => ?_
  refine ⟨mC, hns, fun h₃ hs₃ => ?_⟩
  have hk₃ : ∀ b o, b ≠ C → H.get? b = some o → h₃.get? b = some o := fun b o hb e => hs₃.extBut b o hb e
  refine done D ys nD nx h₃ tk hlen hJ' (fun p hp => (hnx' p hp).2) (fr_but F' hk₃ hCL hC0) (news_but N' hk₃ fun p hp => ?_)
  rcases List.mem_cons.mp hp with rfl | hp
  · exact hDC
  · exact (hnx' p hp).1
/-- the same, bound to a name at once -/
theorem comp_ifA {s : Shared} {elt iter : Expr} {x y : Str} {px py : Pos} {spos : Pos} {ifs : List Expr} {scope : Scope} {cl : List (Str × Addr)} {pos : Pos} {Q : Flow → Shared → Prop} (_F : Fr h₀ L s.heap m)
    (hLe : env.locals = L) (hsw : swapsWith (.ListComp elt [⟨.Name x px, iter, ifs, 0⟩] scope pos) (some (.Name y py)) spos.line env = pure true) (hy : env.kindOf y = some .local) (hpp : (env.scope.kind == .class || (env.scope.kind == .module && env.locals != env.globals)) = false)
    (hclos : closureFor scope env = pure cl) (hcell : ∀ z ∈ scope.names, z.2 ≠ .cell) (hkind : scope.kind = .function)
    (hnames : ∀ z ∈ scope.names, z.2 = .local → scope.names.lookup z.1 = some .local) (hx : scope.names.lookup x = some .local)
    (h : wpAny (model prog w) A (eval iter env) (fun xv s₁ => wpAny (model prog w) A (pyIter xv) (fun it s₂ => CompUseA prog w A env h₀ L m elt x y ifs scope cl Q it s₂) E s₁) E s)
    (hs : ∀ x, foldedSetIterable iter env x = pure x := by intro _; rfl) :
    wpAny (model prog w) A (exec (.Assign [.Name y py] (.ListComp elt [⟨.Name x px, iter, ifs, 0⟩] scope pos) spos) env) Q E s := by
  rw [exec_Assign_Name_used _ _ _ _ hsw]
  refine wpAny_bind (wpAny_standAt (wpAny_bind ?_))
  show wpAny _ A (do let _ ← comprehension (.ListComp elt [⟨.Name x px, iter, ifs, 0⟩] scope pos) scope env _ (newList []) false (eval iter env) (some (assign (.Name y py) env))) _ _ s
  refine wpAny_bind (wpAny_mono (wpAny_comprehension_free (use := some (assign (.Name y py) env)) (Q := fun _ s' => Q .next s') rfl hs hclos hkind hnames
    (wpAny_mono h (fun xv s₁ h₁ => wpAny_mono h₁ (fun it s₂ h₂ => ?_) fun _ _ e => e) fun _ _ e => e)) (fun _ s' hq => wpAny_pure (wpAny_pure hq)) fun _ _ e => e)
  first | (have hE8 := (And.left (And.right (And.right (And.right (And.right (And.right (And.right (And.right h₂)))))))); subst hE8; have I := (And.left h₂); have n := (And.left (And.right h₂)); have P := (And.left (And.right (And.right h₂))); have St := (And.left (And.right (And.right (And.right h₂)))); have nx := (And.left (And.right (And.right (And.right (And.right h₂))))); have keep := (And.left (And.right (And.right (And.right (And.right (And.right h₂)))))); have Iv := (And.left (And.right (And.right (And.right (And.right (And.right (And.right h₂))))))); have hkp := (And.left (And.right (And.right (And.right (And.right (And.right (And.right (And.right (And.right h₂))))))))); have Wk := (And.left (And.right (And.right (And.right (And.right (And.right (And.right (And.right (And.right (And.right h₂)))))))))); have hlive := (And.left (And.right (And.right (And.right (And.right (And.right (And.right (And.right (And.right (And.right (And.right h₂))))))))))); have hsz := (And.left (And.right (And.right (And.right (And.right (And.right (And.right (And.right (And.right (And.right (And.right (And.right h₂)))))))))))); have hst := (And.left (And.right (And.right (And.right (And.right (And.right (And.right (And.right (And.right (And.right (And.right (And.right (And.right h₂))))))))))))); have hIlt := (And.left (And.right (And.right (And.right (And.right (And.right (And.right (And.right (And.right (And.right (And.right (And.right (And.right (And.right h₂)))))))))))))); have hI0 := (And.left (And.right (And.right (And.right (And.right (And.right (And.right (And.right (And.right (And.right (And.right (And.right (And.right (And.right (And.right h₂))))))))))))))); have hIL := (And.left (And.right (And.right (And.right (And.right (And.right (And.right (And.right (And.right (And.right (And.right (And.right (And.right (And.right (And.right (And.right h₂)))))))))))))))); have hnI := (And.left (And.right (And.right (And.right (And.right (And.right (And.right (And.right (And.right (And.right (And.right (And.right (And.right (And.right (And.right (And.right (And.right h₂))))))))))))))))); have F := (And.left (And.right (And.right (And.right (And.right (And.right (And.right (And.right (And.right (And.right (And.right (And.right (And.right (And.right (And.right (And.right (And.right (And.right h₂)))))))))))))))))); have N := (And.left (And.right (And.right (And.right (And.right (And.right (And.right (And.right (And.right (And.right (And.right (And.right (And.right (And.right (And.right (And.right (And.right (And.right (And.right h₂))))))))))))))))))); have hJ := (And.left (And.right (And.right (And.right (And.right (And.right (And.right (And.right (And.right (And.right (And.right (And.right (And.right (And.right (And.right (And.right (And.right (And.right (And.right (And.right h₂)))))))))))))))))))); have turn := (And.left (And.right (And.right (And.right (And.right (And.right (And.right (And.right (And.right (And.right (And.right (And.right (And.right (And.right (And.right (And.right (And.right (And.right (And.right (And.right (And.right h₂))))))))))))))))))))); have done := (And.right (And.right (And.right (And.right (And.right (And.right (And.right (And.right (And.right (And.right (And.right (And.right (And.right (And.right (And.right (And.right (And.right (And.right (And.right (And.right (And.right h₂))))))))))))))))))))); try clear h₂) | (refine hideE fun GG hGG => ?_; obtain ⟨I, n, P, St, nx, keep, Iv, rfl, hkp, Wk, hlive, hsz, hst, hIlt, hI0, hIL, hnI, F, N, hJ, turn, done⟩ := h₂; refine hGG ?_; clear hGG GG)
  refine comp_core hcell hkind hx hkp Wk hlive hsz hst hIlt hI0 hIL hnI F N hJ turn fun C D ys nD nx H tk mC hCL hC0 hDC hns hlen hJ' hnx' F' N' => ?_
  show wpAny _ A (assign (.Name y py) env (.ref D)) _ _ _
  refine wpAny_assign_Name (wpAny_storeName_local hy (m := m) (by rw [hLe]; exact F'.ns) (fun h₄ hn₄ hs₄ => ?_) hpp)
  rw [hLe] at hn₄ hs₄
  refine ⟨_, hns.sameBut hs₄ hCL, fun h₃ hs₃ => ?_⟩
  have hk₄ : ∀ b o, b ≠ L → H.get? b = some o → h₄.get? b = some o := fun b o hb e => hs₄.extBut b o hb e
  have hk₃ : ∀ b o, b ≠ C → h₄.get? b = some o → h₃.get? b = some o := fun b o hb e => hs₃.extBut b o hb e
  have F₄ : Fr h₀ L h₄ (fun z => if z = y then some (.ref D) else m z) := ⟨hn₄, fun b o e => hk₄ b o (fun q => by
    have := Heap.lt_size e
    rw [q] at this
    exact absurd this (Nat.not_lt.mpr F'.above)) (F'.keep b o e), F'.above⟩
  have N₄ : News h₀ L h₄ ((D, W.listOf ys.toArray nD) :: nx) := fun p hp => ⟨hk₄ _ _ (N' p hp).2.1 (N' p hp).1, (N' p hp).2⟩
  refine done D ys nD nx h₃ _ hlen hJ' (fun p hp => (hnx' p hp).2) (fr_but F₄ hk₃ hCL hC0) (news_but N₄ hk₃ fun p hp => ?_)
  rcases List.mem_cons.mp hp with rfl | hp
  · exact hDC
  · exact (hnx' p hp).1
end
theorem rangeiter_liveA {n : Nat} {a : Int} {I : Addr} : ∀ i h, IsRangeIter h I (a + (i : Nat) * 1) ((n : Int) - (i : Nat)) 1 → ∃ o, h.get? I = some o := fun _ _ x => ⟨_, x⟩
theorem line_of_small {n : Nat} (h : n < 1000) : n ≤ sizeLine := line_small (Nat.le_of_lt h)
/-- the iterator over range(a, b) -/
theorem iter_rangeA {prog : Program} {w : World} {A : Around} {E : Value → Shared → Prop} {s : Shared} {r : Addr} {a b : Int} {t u v : Tok} {h₀ : Heap} {L : Addr} {mm : Str → Option Value} {R : Led} {Q : Value → Shared → Prop} (hh : A.handled = none) (F : Fr h₀ L s.heap mm) (N : News h₀ L s.heap R) (hr : IsRange s.heap r a b 1 t u v) (h0 : 0 ≤ a) (hb : 0 ≤ b) (h1 : b < 1000) (h2 : a < 1000)
    (h : ∀ I H, Fr h₀ L H mm → News h₀ L H R → I < H.objs.size → h₀.get? I = none → I ≠ L → (∀ p ∈ R, p.1 < I) → Walks prog w A I [I] [I] (b - a).toNat (fun i v => ∃ t, v = .int (a + i * 1) t) (fun i h => IsRangeIter h I (a + (i : Nat) * 1) (((b - a).toNat : Int) - (i : Nat)) 1) →
      IsRangeIter H I (a + (0 : Nat) * 1) (((b - a).toNat : Int) - (0 : Nat)) 1 → Q (.ref I) { s with heap := H }) : wpAny (model prog w) A (pyIter (.ref r)) Q E s := by
  refine wpAny_pyIter_range hr (small_one (by omega) (by omega) (by omega) (by omega)) ?_
  refine h _ _ (F.push _) (fun p hp => ⟨Heap.get?_push_of_some _ (N p hp).1, (N p hp).2⟩) (by rw [Heap.size_push]; exact Nat.lt_succ_self _) (next_is_new F) (fun e => absurd F.ns.lt (e ▸ Nat.lt_irrefl _)) (fun p hp => Heap.lt_size (N p hp).1) (Walks.range hh _ a 1 _) ?_
  rw [rangeSize_nat]
  show IsRangeIter _ _ _ _ _
  simpa using Heap.get?_push_size _ rfl
/-- the ints of a comprehension over range(a, ..) -/
def filTo (a : Int) (p : Int → Bool) (i : Nat) : List Int := ((List.range i).map fun k : Nat => a + (k : Int)).filter p
theorem filTo_succ (a : Int) (p : Int → Bool) (i : Nat) : filTo a p (i + 1) = filTo a p i ++ (if p (a + (i : Int)) = true then [a + (i : Int)] else []) := by
  unfold filTo
  rw [List.range_succ, List.map_append, List.filter_append]
  congr 1
  by_cases h : p (a + (i : Int)) = true <;> simp [h]
/-- between the turns of a comprehension that picks ints and leaves the ledger alone -/
def PickI (R : Led) (a : Int) (p : Int → Bool) (i : Nat) (ys : List Value) (nx : Led) : Prop := nx = R ∧ IntsAre ys (filTo a p i)
end N240
end
-- KeysMiss
section
open PySem PySem.W PyProof.Rows PySem.Spec PySem.Calls
set_option maxRecDepth 100000
namespace N240
theorem lk_list_keys : typeLookup (.type "list") "keys" = pure none := by rw [typeLookup_type, builtinLookup_eq_fast]; kernel_rfl
section
variable {prog : Program} {w : World} {A : Around} {E : Value → Shared → Prop} {h : Heap} {g : Array GenState} {d : Drawn} {t : Nat} {os : OsState} {a : Addr} {its : Array Value} {n : Nat}
theorem attr_raise {α : Type} {M : Model} {o : Value} {msg : Str} {Q : α → Shared → Prop} (hh : A.handled = none)
    (hq : ∀ h' e tk, (∀ b o, h.get? b = some o → h'.get? b = some o) → (∃ oe, h'.get? e = some oe ∧ oe.cls = .type "AttributeError") → E (.ref e) ⟨h', g, d, tk, os⟩) (hm : msg.length ≤ sizeLine) :
    wpAny (model prog w) A (raiseAttrError o "keys" msg : Sem α) Q E ⟨h, g, d, t, os⟩ := by
  unfold raiseAttrError
  refine wpAny_bind (wpAny_mkStr (wpAny_bind ?_) hm)
  unfold newExc newTuple
  refine wpAny_bind (wpAny_newObj_type ?_ (by size_fits))
  refine wpAny_bind (m := firstArgMember _ _) (wpAny_of_eq (a := Value.none) (by simp only [firstArgMember]; rfl) ?_)
  refine wpAny_newObj_type ?_ (by size_fits)
  dsimp only
  generalize hH1 : h.push { cls := .type "tuple", dict := none, data := .seq [Value.str msg t].toArray } = H1
  have k1 : ∀ b o, h.get? b = some o → H1.get? b = some o := fun b o hb => hH1 ▸ Heap.get?_push_of_some _ hb
  have hsz : h.objs.size ≤ H1.objs.size := by rw [← hH1, Heap.size_push]; exact Nat.le_succ _
  generalize hoe : ({ cls := .type "AttributeError", dict := none, data := .fields (#[Value.ref h.objs.size, Value.none, Value.none, Value.none, Value.bool false, Value.none] ++ ownMembersOf (Value.type "AttributeError") [Value.str msg t]) } : Obj) = oe
  have hx : (H1.push oe).get? H1.objs.size = some oe := Heap.get?_push_size _ (by rw [← hoe]; rfl)
  have k2 : ∀ b o, h.get? b = some o → (H1.push oe).get? b = some o := fun b o hb => Heap.get?_push_of_some _ (k1 b o hb)
  have hne : ∀ b o, h.get? b = some o → b ≠ H1.objs.size := fun b o hb => Nat.ne_of_lt (Nat.lt_of_lt_of_le (Heap.lt_size hb) hsz)
  generalize H1.push oe = H2 at hx k2 ⊢
  generalize H1.objs.size = e at hx hne ⊢
  have hoe2 : oe = { cls := .type "AttributeError", dict := none, data := .fields #[Value.ref h.objs.size, Value.none, Value.none, Value.none, Value.bool false, Value.none, unsetMember, unsetMember] } := hoe.symm
  subst hoe2
  clear hoe
  have hT : (⟨H2, g, d, t + 1, os⟩ : Shared).TypeIs (.ref e) "AttributeError" := ⟨_, hx, rfl⟩
  have hT' : (⟨H2, g, d, t + 1 + 1, os⟩ : Shared).TypeIs (.ref e) "AttributeError" := ⟨_, hx, rfl⟩
  have hsub : isSubtype (.type "AttributeError") (.type "AttributeError") = pure true := by rw [isSubtype_type]; kernel_rfl
  refine wpAny_bind (wpAny_mkText ?_)
  refine wpAny_bind ?_
  unfold noteAttr lacksNameAndObj
  dsimp only
  refine wpAny_bind (wpAny_bind (wpAny_isInstance hT' hsub ?_))
  repeat (any_goals (first | assumption | wp_step))
  unfold raiseNew
  refine wpAny_bind (wpAny_handled ?_)
  rw [hh]
  first
    | refine wpAny_throw ?_
    | refine wpAny_bind (wpAny_pure (wpAny_throw ?_))
  refine hq _ _ _ (fun b o hb => ?_) ⟨_, Heap.get?_update_self _ hx (Obj.isFreed_of_fields (Obj.data_mapFields rfl _)), Obj.cls_mapFields _ _⟩
  rw [Heap.get?_update_other _ _ (Ne.symm (hne b _ hb))]
  exact k2 b o hb
theorem keys_entry {tk : Tok} {Q : Fin → Shared → Prop} (hh : A.handled = none) (hx : h.get? a = some { cls := .type "list", data := .seq its n })
    (hq : ∀ h' e tk, (∀ b o, h.get? b = some o → h'.get? b = some o) → (∃ oe, h'.get? e = some oe ∧ oe.cls = .type "AttributeError") → E (.ref e) ⟨h', g, d, tk, os⟩) :
    wpAny (model prog w) A (Builtin.«object.__getattribute__» ⟨[.ref a, .str "keys" tk], []⟩) Q E ⟨h, g, d, t, os⟩ := by
  have hT : (⟨h, g, d, t, os⟩ : Shared).TypeIs (.ref a) "list" := ⟨_, hx, rfl⟩
  have f4 := lk_list_keys
  repeat (any_goals (first | assumption | wp_step))
  refine attr_raise (M := model prog w) hh hq ?_
  refine Nat.le_trans (m := 100) (by decide +kernel) (by rw [sizeLine_eq]; decide)
theorem keys_call {tk : Tok} {R : Result → Shared → Prop} (hh : A.handled = none) (hx : h.get? a = some { cls := .type "list", data := .seq its n })
    (hq : ∀ h' e tk, (∀ b o, h.get? b = some o → h'.get? b = some o) → (∃ oe, h'.get? e = some oe ∧ oe.cls = .type "AttributeError") → R (.error (.ref e)) ⟨h', g, d, tk, os⟩) :
    codeAny (model prog w) A (.call (.builtin "list.__getattribute__") ⟨[.ref a, .str "keys" tk], []⟩) R ⟨h, g, d, t, os⟩ := by
  refine codeAny_call_builtin F.slot_list_getattribute.plain F.entry_list_ga (F.slot_list_getattribute.check _ _ _ _ _ _ _ _ (show (⟨h, g, d, t, os⟩ : Shared).TypeIs (.ref a) "list" from ⟨_, hx, rfl⟩) (F.args_list_getattribute_2 _ _) (keys_entry (by first | exact hh | (simp; exact hh) | trace_state) hx ?_))
  exact hq
theorem keys_by {tk : Tok} {Q : Value → Shared → Prop} (hh : A.handled = none) (hx : h.get? a = some { cls := .type "list", data := .seq its n })
    (hq : ∀ h' e tk, (∀ b o, h.get? b = some o → h'.get? b = some o) → (∃ oe, h'.get? e = some oe ∧ oe.cls = .type "AttributeError") → E (.ref e) ⟨h', g, d, tk, os⟩) : wpAny (model prog w) A (getAttrBy (.ref a) (.str "keys" tk) false) Q E ⟨h, g, d, t, os⟩ := by
  have hT : (⟨h, g, d, t, os⟩ : Shared).TypeIs (.ref a) "list" := ⟨_, hx, rfl⟩
  have f2 := F.slot_list_getattribute.lookup
  have f3 := F.slot_list_getattribute.bind (.ref a)
  repeat (any_goals (first | assumption | wp_step))
  refine keys_call (by first | exact hh | (simp; exact hh) | trace_state) hx ?_
  intro h' e tk' k1 hHi1
  first | (have oe := (And.left hHi1); have ho := (And.left (And.right hHi1)); have hc := (And.right (And.right hHi1)); try clear hHi1) | (refine hideE fun GG hGG => ?_; obtain ⟨oe, ho, hc⟩ := hHi1; refine hGG ?_; clear hGG GG)
  have hTe : (⟨h', g, d, tk', os⟩ : Shared).TypeIs (.ref e) "AttributeError" := ⟨_, ho, hc⟩
  have hsub : isSubtype (.type "AttributeError") (.type "AttributeError") = pure true := by rw [isSubtype_type]; kernel_rfl
  have hlk : typeLookup (.type "list") "__getattr__" = pure none := by rw [typeLookup_type, builtinLookup_eq_fast]; kernel_rfl
  repeat (any_goals (first | assumption | wp_step))
  exact hq _ _ _ k1 ⟨oe, ho, hc⟩
theorem keys_missing {Q : Option Value → Shared → Prop} (hh : A.handled = none) (hx : h.get? a = some { cls := .type "list", data := .seq its n })
    (hq : ∀ h' tk, (∀ b o, h.get? b = some o → h'.get? b = some o) → Q none ⟨h', g, d, tk, os⟩) : wpAny (model prog w) A (getAttr? (.ref a) "keys") Q E ⟨h, g, d, t, os⟩ := by
  unfold getAttr? getAttrBy?
  refine wpAny_bind (wpAny_mkText (wpAny_bind (wpAny_attempt (keys_by hh hx ?_))))
  intro h' e tk' k1 hHi2
  first | (have oe := (And.left hHi2); have ho := (And.left (And.right hHi2)); have hc := (And.right (And.right hHi2)); try clear hHi2) | (refine hideE fun GG hGG => ?_; obtain ⟨oe, ho, hc⟩ := hHi2; refine hGG ?_; clear hGG GG)
  have hT : (⟨h', g, d, tk', os⟩ : Shared).TypeIs (.ref e) "AttributeError" := ⟨_, ho, hc⟩
  have hsub : isSubtype (.type "AttributeError") (.type "AttributeError") = pure true := by rw [isSubtype_type]; kernel_rfl
  dsimp only
  refine wpAny_bind (wpAny_isInstance hT hsub ?_)
  rw [if_pos rfl]
  exact wpAny_pure (hq _ _ k1)
end
section
variable {prog : Program} {w : World} {A : Around} {E : Value → Shared → Prop}
theorem entry_dul : entryFor table "dict.update.loop" = some Builtin.«dict.update.loop» := entryFor_of_tree (by kernel_rfl)
theorem plain_dul : plainId "dict.update.loop" = true := by decide +kernel
/-- a pair of an int and a value, as a tuple that stands -/
def PairAt (h : Heap) (v : Value) (k : Int) (x : Value) : Prop := ∃ t tk n, v = .ref t ∧ h.get? t = some { cls := .type "tuple", data := .seq #[.int k tk, x] n }
/-- what the pairs make -/
def pairsTo (ps : List (Int × Value)) : List (Int × Value) := ps.foldl (fun kvs p => stored kvs p.1 p.2) []
theorem pairsTo_snoc (ps : List (Int × Value)) (k : Int) (x : Value) : pairsTo (ps ++ [(k, x)]) = stored (pairsTo ps) k x := by
  unfold pairsTo
  rw [List.foldl_append]
  rfl
theorem stored_len (kvs : List (Int × Value)) (k : Int) (x : Value) : (stored kvs k x).length ≤ kvs.length + 1 := by
  unfold stored
  split <;> simp
theorem pairsTo_len (ps : List (Int × Value)) : (pairsTo ps).length ≤ ps.length := by
  have h : ∀ (ps kvs : List (Int × Value)), (ps.foldl (fun kvs p => stored kvs p.1 p.2) kvs).length ≤ kvs.length + ps.length := by
    intro ps
    induction ps with
    | nil => intro kvs; simp
    | cons p r ih =>
      intro kvs
      have h1 := ih (stored kvs p.1 p.2)
      have h2 := stored_len kvs p.1 p.2
      simp only [List.foldl_cons, List.length_cons]
      omega
  have := h ps []
  unfold pairsTo
  simp only [List.length_nil, Nat.zero_add] at this
  exact this
theorem pairItems_tuple {s : Shared} {t : Addr} {its : Array Value} {n : Nat} {Q : List Value → Shared → Prop} (ht : s.heap.get? t = some { cls := .type "tuple", data := .seq its n }) (h : Q its.toList s) :
    wpAny (model prog w) A (Builtin.Dict.pairItems (.ref t)) Q E s := by
  have hT : s.TypeIs (.ref t) "tuple" := ⟨_, ht, rfl⟩
  unfold Builtin.Dict.pairItems
  refine wpAny_bind (wpAny_typeOf hT ?_)
  rw [if_pos (by decide)]
  refine wpAny_bind ?_
  unfold seqItems?
  dsimp only
  refine wpAny_seqItems ht rfl ?_
  exact wpAny_pure h
/-- dict.update's loop over a list of pairs -/
theorem dict_loop {R : Result → Shared → Prop} {I l d : Addr} {s₀ : Shared} {items : List Value} {ps : List (Int × Value)} {St : Nat → Heap → Prop} (Wk : Walks prog w A.in1 I [I, l] [I] items.length (fun i v => items[i]? = some v) St) (hdI : d ≠ I) (hdl : d ≠ l) (hz : items.length ≤ sizeLine) (hlen : ps.length = items.length)
    (hp : ∀ h : Heap, (∀ b o, b ≠ I → b ≠ d → s₀.heap.get? b = some o → h.get? b = some o) → ∀ (i : Nat) v k x, items[i]? = some v → ps[i]? = some (k, x) → PairAt h v k x) :
    ∀ (k i : Nat) (H : Heap) (tk : Nat) (c : Tok), items.length - i = k → i ≤ items.length → St i H → H.DictOf (PySem.intKind prog w) d (pairsTo (ps.take i)) → (∀ b o, b ≠ I → b ≠ d → s₀.heap.get? b = some o → H.get? b = some o) →
      (∀ H' tk', H'.DictOf (PySem.intKind prog w) d (pairsTo ps) → (∀ b o, b ≠ I → b ≠ d → s₀.heap.get? b = some o → H'.get? b = some o) → R (.ok (.ret .none)) { s₀ with heap := H', toks := tk' }) →
      codeAny (model prog w) A (.builtin "dict.update.loop" ⟨[.ref d, .ref I, .int (i : Int) c, .none], []⟩) R { s₀ with heap := H, toks := tk } := by
  intro k
  induction k with
  | zero =>
    intro i H tk c hk hi hst hD hf hR
    have hin : i = items.length := Nat.le_antisymm hi (Nat.le_of_sub_eq_zero hk)
    subst hin
    refine codeAny_builtin entry_dul ?_
    rw [Around.under_plainId plain_dul _]
    show wpAny _ A.in1 (pyNext (.ref I) >>= _) _ _ _
    refine wpAny_bind (Wk.done _ _ _ hst fun h₂ tk₂ hk₂ => ?_)
    have hk₂' : ∀ b o, b ≠ I → H.get? b = some o → h₂.get? b = some o := fun b o hb e => hk₂ b o (fun hm => hb (List.mem_singleton.mp hm)) e
    rw [← hlen, List.take_length] at hD
    first | (have o := (And.left hD); have es := (And.left (And.right hD)); have ep := (And.left (And.right (And.right hD))); have ho := (And.left (And.right (And.right (And.right hD)))); have r := (And.right (And.right (And.right (And.right hD)))); try clear hD) | (refine hideE fun GG hGG => ?_; obtain ⟨o, es, ep, ho, r⟩ := hD; refine hGG ?_; clear hGG GG)
    show wpAny _ A.in1 (ret Value.none) _ _ _
    exact wpAny_pure (hR h₂ tk₂ ⟨o, es, ep, hk₂' _ _ hdI ho, r⟩ fun b o h1 h2 e => hk₂' b o h1 (hf b o h1 h2 e))
  | succ k ih =>
    intro i H tk c hk hi hst hD hf hR
    have hlt : i < items.length := Nat.lt_of_sub_pos (hk ▸ Nat.succ_pos k)
    refine codeAny_builtin entry_dul ?_
    rw [Around.under_plainId plain_dul _]
    show wpAny _ A.in1 (pyNext (.ref I) >>= _) _ _ _
    refine wpAny_bind (Wk.item i _ _ _ hlt hst fun v h₂ tk₂ hPv hst₂ hk₂ => ?_)
    have hk₂' : ∀ b o, b ≠ I → H.get? b = some o → h₂.get? b = some o := fun b o hb e => hk₂ b o (fun hm => hb (List.mem_singleton.mp hm)) e
    have hHi4 : ∃ p, ps[i]? = some p := ⟨_, List.getElem?_eq_getElem (hlen ▸ hlt)⟩
    first | (have kk := (And.left (And.left hHi4)); have x := (And.right (And.left hHi4)); have hpx := (And.right hHi4); try clear hHi4) | (refine hideE fun GG hGG => ?_; obtain ⟨⟨kk, x⟩, hpx⟩ := hHi4; refine hGG ?_; clear hGG GG)
    have hD₂ : h₂.DictOf (PySem.intKind prog w) d (pairsTo (ps.take i)) := by
      first | (have o := (And.left hD); have es := (And.left (And.right hD)); have ep := (And.left (And.right (And.right hD))); have ho := (And.left (And.right (And.right (And.right hD)))); have r := (And.right (And.right (And.right (And.right hD)))); try clear hD) | (refine hideE fun GG hGG => ?_; obtain ⟨o, es, ep, ho, r⟩ := hD; refine hGG ?_; clear hGG GG)
      exact ⟨o, es, ep, hk₂' _ _ hdI ho, r⟩
    have hf₂ : ∀ b o, b ≠ I → b ≠ d → s₀.heap.get? b = some o → h₂.get? b = some o := fun b o h1 h2 e => hk₂' b o h1 (hf b o h1 h2 e)
    have hHi6 := hp h₂ hf₂ i v kk x hPv hpx
    first | (have hE1 := (And.left (And.right (And.right (And.right hHi6)))); subst hE1; have t := (And.left hHi6); have tt := (And.left (And.right hHi6)); have nt := (And.left (And.right (And.right hHi6))); have ht := (And.right (And.right (And.right (And.right hHi6)))); try clear hHi6) | (refine hideE fun GG hGG => ?_; obtain ⟨t, tt, nt, rfl, ht⟩ := hHi6; refine hGG ?_; clear hGG GG)
    show wpAny _ A.in1 (holding [Value.ref t] _ >>= _) _ _ _
    refine wpAny_bind (wpAny_holding ?_)
    refine wpAny_bind (wpAny_tryCatch (pairItems_tuple (s := { s₀ with heap := h₂, toks := tk₂ }) ht ?_))
    show wpAny _ A.in1 (holding [Value.int kk tt, x] (dictSet d (.int kk tt) x)) _ _ _
    refine wpAny_holding ?_
    have hsz : (pairsTo (ps.take i)).length ≤ sizeLine := by
      have h1 := pairsTo_len (ps.take i)
      rw [List.length_take] at h1
      omega
    refine wpAny_dictSet_pairs (s := { s₀ with heap := h₂, toks := tk₂ }) (knd := PySem.intKind prog w) (k := kk) (intKind_is _ _ _ _) hD₂ (hsz := hsz) fun h₃ hD₃ hs₃ => ?_
    have e : pairsTo (ps.take (i + 1)) = stored (pairsTo (ps.take i)) kk x := by
      rw [← pairsTo_snoc]
      congr 1
      rw [List.take_succ, hpx]
      rfl
    refine wpAny_pure ⟨plainId_quiet plain_dul _, ?_⟩
    refine ih (i + 1) h₃ _ _ ((Nat.sub_succ _ _).trans (congrArg Nat.pred hk)) hlt (Wk.frame _ _ _ hst₂ fun b hb o e => ?_) (e ▸ hD₃) (fun b o h1 h2 e => ?_) hR
    · refine (hs₃.2 b ?_).trans e
      rcases List.mem_cons.mp hb with rfl | hb
      · exact Ne.symm hdI
      · rw [List.mem_singleton.mp hb]; exact Ne.symm hdl
    · exact (hs₃.2 b h2).trans (hf₂ b o h1 h2 e)
theorem call_dict_list {s : Shared} {l : Addr} {items : List Value} {ps : List (Int × Value)} {n : Nat} {Q : Value → Shared → Prop} (hh : A.handled = none) (hl : s.heap.get? l = some (W.listOf items.toArray n)) (hz : items.length ≤ sizeLine) (hlen : ps.length = items.length)
    (hp : ∀ (i : Nat) v k x, items[i]? = some v → ps[i]? = some (k, x) → PairAt s.heap v k x)
    (h : ∀ h' tk, h'.DictOf (PySem.intKind prog w) s.heap.objs.size (pairsTo ps) → (∀ b o, s.heap.get? b = some o → h'.get? b = some o) → Q (.ref s.heap.objs.size) { s with heap := h', toks := tk }) :
    wpAny (model prog w) A (call (.type "dict") [.ref l]) Q E s := by
  refine callType_codes (Q₁ := fun obj s₁ => obj = .ref s.heap.objs.size ∧ s₁ = { s with heap := s.heap.push { cls := .type "dict", data := .dict #[] } }) F.kt_called_dict (F.kt_typeCall_dict_1 _) F.entry_dict_init (kt_code_dict_new _ ⟨rfl, rfl⟩) ?_
  intro obj s₁ hHi7
  first | (have hE2 := (And.left hHi7); subst hE2; have hE3 := (And.right hHi7); subst hE3; try clear hHi7) | (obtain ⟨rfl, rfl⟩ := hHi7)
  have hnew : (s.heap.push { cls := .type "dict", data := .dict #[] }).DictOf (PySem.intKind prog w) s.heap.objs.size [] := Heap.DictOf.new s.heap
  have hk0 : ∀ b o, s.heap.get? b = some o → (s.heap.push { cls := .type "dict", data := .dict #[] }).get? b = some o := fun b o e => Heap.get?_push_of_some _ e
  have hsz0 : (s.heap.push { cls := .type "dict", data := .dict #[] }).objs.size = s.heap.objs.size + 1 := Heap.size_push ..
  refine ⟨hnew.typeIs, F.args_dict_init_2 _ _, ?_⟩
  generalize hH0 : s.heap.push { cls := .type "dict", data := .dict #[] } = H0 at hnew hk0 hsz0 ⊢
  unfold Builtin.«dict.__init__»
  refine wpAny_bind ?_
  unfold Builtin.Dict.selfAndRest
  refine wpAny_bind (wpAny_notOrdered_dict hnew.typeIs ?_)
  show wpAny _ _ (pure (s.heap.objs.size, [Value.ref l])) _ _ _
  refine wpAny_pure ?_
  show wpAny _ _ (Builtin.Dict.updateFrom "dict.__init__" s.heap.objs.size (.ref l) [] .none) _ _ _
  unfold Builtin.Dict.updateFrom
  have hl0 := hk0 _ _ hl
  have hTl : (⟨H0, s.gens, s.drawn, s.toks, s.os⟩ : Shared).TypeIs (.ref l) "list" := ⟨_, hl0, rfl⟩
  refine wpAny_bind (wpAny_typeOf hTl ?_)
  rw [if_pos (by decide)]
  refine wpAny_bind (keys_missing (by first | exact hh | (simp; exact hh)) hl0 fun h1 tk1 hk1 => ?_)
  rw [if_pos (show (none : Option Value).isNone = true from rfl)]
  refine wpAny_bind (wpAny_rule ?_)
  have hl1 := hk1 _ _ hl0
  have hls : h1.IsList l items.toArray := ⟨_, hl1, rfl, n, rfl⟩
  refine wpAny_bind (wpAny_pyIter_list (s := ⟨h1, s.gens, s.drawn, tk1, s.os⟩) hls ?_)
  dsimp only
  refine wpAny_pure ⟨plainId_quiet plain_dul _, ?_⟩
  have hlt : l < h1.objs.size := Heap.lt_size hl1
  have hne : l ≠ h1.objs.size := Nat.ne_of_lt hlt
  have hdlt : s.heap.objs.size < h1.objs.size := by
    first | (have o := (And.left hnew); have es := (And.left (And.right hnew)); have ep := (And.left (And.right (And.right hnew))); have ho := (And.left (And.right (And.right (And.right hnew)))); have hU4 := (And.right (And.right (And.right (And.right hnew)))); try clear hnew) | (refine hideE fun GG hGG => ?_; obtain ⟨o, es, ep, ho, _⟩ := hnew; refine hGG ?_; clear hGG GG)
    exact Heap.lt_size (hk1 _ _ ho)
  have hold : ∀ b o, s.heap.get? b = some o → (h1.push { cls := .type "list_iterator", data := .fields #[.ref l, .int 0 0] }).get? b = some o := fun b o e => Heap.get?_push_of_some _ (hk1 _ _ (hk0 _ _ e))
  have hw := Walks.list (prog := prog) (w := w) (A := A.in1.in1) (by first | exact hh | (simp; exact hh)) h1.objs.size l hne items.toArray
  simp only [List.size_toArray, List.getElem?_toArray] at hw
  refine dict_loop (s₀ := ⟨h1.push { cls := .type "list_iterator", data := .fields #[.ref l, .int 0 0] }, s.gens, s.drawn, tk1, s.os⟩) (items := items) (ps := ps) (l := l) (I := h1.objs.size) (Wk := hw) (Nat.ne_of_lt hdlt) (fun e => absurd (Heap.lt_size hl) (e ▸ Nat.lt_irrefl _)) hz hlen (fun hh' hk' i v k x hv hx => ?_) items.length 0 _ _ _ (by omega) (Nat.zero_le _) ?st ?_ (fun _ _ _ _ e => e) ?_
  case st => exact ⟨⟨_, Heap.get?_push_size _ rfl, rfl, rfl⟩, hls.at fun o e => Heap.get?_push_of_some _ e⟩
  · have hHi9 := hp i v k x hv hx
    first | (have hE5 := (And.left (And.right (And.right (And.right hHi9)))); subst hE5; have t := (And.left hHi9); have tk := (And.left (And.right hHi9)); have nt := (And.left (And.right (And.right hHi9))); have ht := (And.right (And.right (And.right (And.right hHi9)))); try clear hHi9) | (refine hideE fun GG hGG => ?_; obtain ⟨t, tk, nt, rfl, ht⟩ := hHi9; refine hGG ?_; clear hGG GG)
    have hts := Heap.lt_size ht
    exact ⟨t, tk, nt, rfl, hk' _ _ (Nat.ne_of_lt (Nat.lt_trans hts hdlt)) (Nat.ne_of_lt hts) (hold _ _ ht)⟩
  · first | (have o := (And.left hnew); have es := (And.left (And.right hnew)); have ep := (And.left (And.right (And.right hnew))); have ho := (And.left (And.right (And.right (And.right hnew)))); have r := (And.right (And.right (And.right (And.right hnew)))); try clear hnew) | (refine hideE fun GG hGG => ?_; obtain ⟨o, es, ep, ho, r⟩ := hnew; refine hGG ?_; clear hGG GG)
    exact ⟨o, es, ep, Heap.get?_push_of_some _ (hk1 _ _ ho), r⟩
  · intro H' tk' hD hf
    refine ⟨rfl, h H' tk' hD fun b o e => hf b o ?_ ?_ (hold _ _ e)⟩
    · exact Nat.ne_of_lt (Nat.lt_trans (Heap.lt_size e) hdlt)
    · exact Nat.ne_of_lt (Heap.lt_size e)
end
end N240
end
-- KitF
section
open PySem PySem.W PyProof.Rows PySem.Spec PySem.Calls
namespace N240
section
variable {prog : Program} {w : World} {A : Around} {E : Value → Shared → Prop} {s : Shared} {h₀ : Heap} {L : Addr} {m : Str → Option Value} {R : Led}
theorem ints_of : ∀ {vs : List Value} {kvs : List (Int × Value)}, vs.length = kvs.length → (∀ (j : Nat) v, vs[j]? = some v → ∃ k x, kvs[j]? = some (k, x) ∧ (PySem.intKind prog w).is k v = true) → IntsAre vs (kvs.map (·.1)) := by
  intro vs
  induction vs with
  | nil =>
    intro kvs h _
    cases kvs with
    | nil => exact .nil
    | cons => cases h
  | cons v r ih =>
    intro kvs h hv
    cases kvs with
    | nil => cases h
    | cons y q =>
      obtain ⟨k', x', e1, e2⟩ := hv 0 v rfl
      have e3 := Option.some.inj e1
      rw [e3]
      obtain ⟨t, e4⟩ := Value.isInt_shape e2
      rw [e4]
      exact .cons _ _ (ih (Nat.succ.inj h) fun j u hu => hv (j + 1) u hu)
/-- sorted over a dict of ints -/
theorem sorted_dict {d : Addr} {kvs : List (Int × Value)} {Q : Value → Shared → Prop} (hh : A.handled = none) (F : Fr h₀ L s.heap m) (N : News h₀ L s.heap R) (lo : (d == sysModules) = false) (hD : s.heap.DictOf (PySem.intKind prog w) d kvs) (hn : kvs.length < 64)
    (h : ∀ B vs' ns' e h' tk, Fr h₀ L h' m → News h₀ L h' ((B, W.listOf (List.toArray vs') e) :: R) → (∀ q ∈ R, q.1 < B) → IntsAre vs' ns' → ns'.Perm (kvs.map (·.1)) → ns'.Pairwise (· ≤ ·) → Q (.ref B) { s with heap := h', toks := tk }) :
    wpAny (model prog w) A (call (.builtin "sorted") [.ref d]) Q E s := by
  obtain ⟨ep, hat⟩ := hD.dictAt
  refine kdu_sorted (kdl_dict (knd := PySem.intKind prog w) (kvs := kvs) (ep := ep) lo) hh F N hat (by rw [sizeLine_eq]; omega) fun B h' tk vs F' N' l1 hl hv => ?_
  have hB := N' (B, listOf vs.toArray 0) List.mem_cons_self
  have hI : IntsAre vs (kvs.map (·.1)) := ints_of (prog := prog) (w := w) hl hv
  refine wpAny_call_entry PyProof.Rows.slot_list_sort ⟨_, hB.1, rfl⟩ PyProof.Rows.entry_list_sort (list_sort_tree (s := { s with heap := h', toks := tk }) (n := 0) (vs := vs) hB.1 hI (by omega) fun out ns' hI' hp hP => ⟨.none, rfl, ?_⟩) (PyProof.Rows.args_list_sort _)
  obtain ⟨e, he⟩ := sortedHeap_at (out := out) hB.1
  have old : ∀ b o, b ≠ B → h'.get? b = some o → (sortedHeap h' B vs out).get? b = some o := fun b o hb ho => (sortedHeap_old hb (Heap.lt_size ho)).trans ho
  refine h B out.toList ns' e _ tk (fr_but F' old hB.2.1 hB.2.2) ?_ l1 hI' hp hP
  intro q hq
  rcases List.mem_cons.mp hq with rfl | hq
  · exact ⟨by rw [he], hB.2⟩
  · exact ⟨old _ _ (Nat.ne_of_lt (l1 q hq)) (N' q (List.mem_cons_of_mem _ hq)).1, (N' q (List.mem_cons_of_mem _ hq)).2⟩
end
theorem stored_keys (kvs : List (Int × Value)) (k : Int) (x : Value) : (stored kvs k x).map (·.1) = if k ∈ kvs.map (·.1) then kvs.map (·.1) else kvs.map (·.1) ++ [k] := by
  unfold stored
  have e : (kvs.any fun kv => decide (kv.1 = k)) = true ↔ k ∈ kvs.map (·.1) := by
    simp [List.any_eq_true]
  by_cases h : k ∈ kvs.map (·.1)
  · rw [if_pos (e.mpr h), if_pos h, keys_map_store]
  · rw [if_neg (fun q => h (e.mp q)), if_neg h]
    simp
theorem pairs_keys (ps : List (Int × Value)) : ((pairsTo ps).map (·.1)).Nodup ∧ ∀ k, k ∈ (pairsTo ps).map (·.1) ↔ k ∈ ps.map (·.1) := by
  have h : ∀ (ps kvs : List (Int × Value)), (kvs.map (·.1)).Nodup → ((ps.foldl (fun kvs p => stored kvs p.1 p.2) kvs).map (·.1)).Nodup ∧ ∀ k, k ∈ (ps.foldl (fun kvs p => stored kvs p.1 p.2) kvs).map (·.1) ↔ k ∈ kvs.map (·.1) ∨ k ∈ ps.map (·.1) := by
    intro ps
    induction ps with
    | nil => intro kvs hn; simpa using hn
    | cons p r ih =>
      intro kvs hn
      have hs := stored_keys kvs p.1 p.2
      have hn' : ((stored kvs p.1 p.2).map (·.1)).Nodup := by
        rw [hs]
        split
        · exact hn
        · rename_i hk
          exact List.nodup_append.mpr ⟨hn, by simp, fun a ha b hb => by rw [List.mem_singleton.mp hb]; rintro rfl; exact hk ha⟩
      obtain ⟨a, b⟩ := ih _ hn'
      refine ⟨a, fun k => ?_⟩
      rw [List.foldl_cons, b k, hs]
      by_cases hk : p.1 ∈ kvs.map (·.1)
      · rw [if_pos hk]
        simp only [List.map_cons, List.mem_cons]
        constructor
        · rintro (h | h)
          · exact .inl h
          · exact .inr (.inr h)
        · rintro (h | rfl | h)
          · exact .inl h
          · exact .inl hk
          · exact .inr h
      · rw [if_neg hk]
        simp only [List.map_cons, List.mem_cons, List.mem_append, List.not_mem_nil, or_false]
        constructor
        · rintro ((h | h) | h)
          · exact .inl h
          · exact .inr (.inl h)
          · exact .inr (.inr h)
        · rintro (h | h | h)
          · exact .inl (.inl h)
          · exact .inl (.inr h)
          · exact .inr h
  have := h ps [] List.nodup_nil
  simpa [pairsTo] using this
abbrev tup2 (a b : Int) (ta tb : Tok) (n : Nat) : Obj := { cls := .type "tuple", data := .seq #[.int a ta, .int b tb] n }
/-- a pair of ints in the ledger -/
inductive Tup2 (R : Led) (v : Value) (a b : Int) : Prop
  | mk (t : Addr) (ta tb : Tok) (n : Nat) (e : v = .ref t) (hm : (t, tup2 a b ta tb n) ∈ R) : Tup2 R v a b
theorem Tup2.mono {R R' : Led} {v : Value} {a b : Int} (h : Tup2 R v a b) (hs : ∀ p ∈ R, p.2.cls = .type "tuple" → p ∈ R') : Tup2 R' v a b := by
  cases h with | mk t ta tb n e hm => exact .mk t ta tb n e (hs _ hm rfl)
theorem Tup2.key {w : World} {R : Led} {v : Value} {a b : Int} (h : Tup2 R v a b) : KeyV w R v [a, b] := by
  cases h with | mk t ta tb n e hm => exact .mk t a b ta tb n e rfl hm
/-- between the turns of a comprehension that makes pairs -/
def PairI (K : Led) (f : Int → Int × Int) (ns : List Int) (i : Nat) (ys : List Value) (nx : Led) : Prop :=
  (∀ p ∈ K, p ∈ nx) ∧ Paired (fun v k => Tup2 nx v (f k).1 (f k).2) ys (ns.take i)
section
variable {prog : Program} {w : World} {A : Around} {E : Value → Shared → Prop} {s : Shared} {h₀ : Heap} {L : Addr} {m : Str → Option Value} {R : Led}
/-- the iterator over a list of the ledger -/
theorem iter_listA {l : Addr} {vs : List Value} {n : Nat} {Q : Value → Shared → Prop} (hh : A.handled = none) (F : Fr h₀ L s.heap m) (N : News h₀ L s.heap R) (hm : (l, W.listOf vs.toArray n) ∈ R)
    (h : ∀ I H St, Fr h₀ L H m → News h₀ L H R → I < H.objs.size → h₀.get? I = none → I ≠ L → (∀ p ∈ R, p.1 < I) → Walks prog w A I (I :: [(l, W.listOf vs.toArray n)].map Prod.fst) [I] vs.length (fun i v => vs[i]? = some v) St → (∀ i h, St i h → ∃ o, h.get? I = some o) → St 0 H → Q (.ref I) { s with heap := H }) :
    wpAny (model prog w) A (pyIter (.ref l)) Q E s := by
  have hl := (N _ hm).1
  have hls : s.heap.IsList l vs.toArray := ⟨_, hl, rfl, n, rfl⟩
  have hne : l ≠ s.heap.objs.size := Nat.ne_of_lt (Heap.lt_size hl)
  refine wpAny_pyIter_list hls ?_
  have hw := Walks.list (prog := prog) (w := w) (A := A) hh s.heap.objs.size l hne vs.toArray
  simp only [List.size_toArray, List.getElem?_toArray] at hw
  refine h s.heap.objs.size _ _ (F.push _) (fun p hp => ⟨Heap.get?_push_of_some _ (N p hp).1, (N p hp).2⟩) (by rw [Heap.size_push]; exact Nat.lt_succ_self _) (next_is_new F) (fun e => absurd F.ns.lt (e ▸ Nat.lt_irrefl _)) (fun p hp => Heap.lt_size (N p hp).1) hw ?_ ⟨⟨_, Heap.get?_push_size _ rfl, rfl, rfl⟩, hls.at fun o e => Heap.get?_push_of_some _ e⟩
  intro i h st
  obtain ⟨o, ho, _⟩ := iter_not_solid st.1
  exact ⟨o, ho⟩
/-- dict over a list of pairs of the ledger -/
theorem dict_L {l : Addr} {vs : List Value} {xs : List Int} {n : Nat} {z : Int} {Q : Value → Shared → Prop} (hh : A.handled = none) (F : Fr h₀ L s.heap m) (N : News h₀ L s.heap R) (hbig : sysModules < h₀.objs.size) (hm : (l, W.listOf vs.toArray n) ∈ R)
    (hp : Paired (fun v k => Tup2 R v k z) vs xs) (hz : vs.length ≤ sizeLine)
    (h : ∀ d h' tk kvs, Fr h₀ L h' m → News h₀ L h' R → (d == sysModules) = false → h'.DictOf (PySem.intKind prog w) d kvs → (kvs.map (·.1)).Nodup → (∀ k, k ∈ kvs.map (·.1) ↔ k ∈ xs) → kvs.length ≤ xs.length → Q (.ref d) { s with heap := h', toks := tk }) :
    wpAny (model prog w) A (call (.type "dict") [.ref l]) Q E s := by
  have hk : ∃ ps : List (Int × Value), ps.map (·.1) = xs ∧ ps.length = vs.length ∧ ∀ (i : Nat) v k x, vs[i]? = some v → ps[i]? = some (k, x) → PairAt s.heap v k x := by
    clear h hm hz
    induction hp with
    | nil => exact ⟨[], rfl, rfl, fun i v k x h => by simp at h⟩
    | cons hd _ ih =>
      obtain ⟨ps, e1, e2, e3⟩ := ih
      obtain ⟨t, ta, tb, nn, rfl, hmem⟩ := hd
      refine ⟨(_, .int z tb) :: ps, by rw [List.map_cons, e1], by simp [e2], fun i v k x hv hx => ?_⟩
      cases i with
      | zero =>
        obtain rfl := Option.some.inj hv
        obtain ⟨rfl, rfl⟩ := Prod.mk.inj (Option.some.inj hx)
        exact ⟨t, ta, nn, rfl, (N _ hmem).1⟩
      | succ i => exact e3 i v k x hv hx
  obtain ⟨ps, e1, e2, e3⟩ := hk
  refine call_dict_list hh (N _ hm).1 hz e2 e3 fun h' tk hD hold => ?_
  obtain ⟨g1, g2⟩ := pairs_keys ps
  refine h _ h' tk (pairsTo ps) (F.kept hold) (fun p hp => ⟨hold _ _ (N p hp).1, (N p hp).2⟩) (F.notModules hbig) hD g1 (fun k => by rw [g2 k, e1]) ?_
  have := pairsTo_len ps
  rw [← e1, List.length_map]
  exact this
end
/-- what is sorted and without doubles is the slots -/
theorem slots_sorted {ns ks xs : List Int} (hp : ns.Perm ks) (ho : ns.Pairwise (· ≤ ·)) (hn : ks.Nodup) (hm : ∀ k, k ∈ ks ↔ k ∈ xs) (h3 : ∀ x ∈ xs, 0 ≤ x ∧ x < 3) (slots : List Int) (hs : slots = [0, 1, 2].filter fun s => decide (s ∈ xs)) : ns = slots := by
  subst hs
  refine lks_uniq ?_ ho ?_
  · refine hp.trans ((List.perm_ext_iff_of_nodup hn ?_).mpr fun k => ?_)
    · exact List.Pairwise.filter _ (show ([0, 1, 2] : List Int).Pairwise (· ≠ ·) by decide)
    · rw [hm k, List.mem_filter]
      constructor
      · intro hk
        obtain ⟨a, b⟩ := h3 k hk
        refine ⟨?_, by simpa using hk⟩
        exact (by decide : ∀ k ∈ ([0, 1, 2] : List Int), k ∈ [0, 1, 2]) k (by rcases int3 a (Int.le_of_lt_add_one b) with rfl | rfl | rfl <;> decide)
      · rintro ⟨_, hk⟩
        simpa using hk
  · exact List.Pairwise.filter _ (by decide)
theorem pair_turn {h₀ hA : Heap} {L C D I Dk : Addr} {m : Str → Option Value} {s₂ : Shared} {oC oD oI : Obj} {a b : Int} {ta tb : Tok} {n i : Nat} {nx K : Led} {ys : List Value} {ns : List Int} {f : Int → Int × Int} {k : Int} {tk : Nat} (FA : Fr h₀ L hA m)
    (NA : News h₀ L hA ((Dk, tup2 a b ta tb n) :: (C, oC) :: (D, oD) :: (I, oI) :: nx)) (lA : AllLt Dk ((C, oC) :: (D, oD) :: (I, oI) :: nx)) (hoff : ∀ p ∈ nx, p.1 ≠ C ∧ p.1 ≠ D ∧ p.1 ≠ I) (hK : ∀ p ∈ K, p ∈ nx)
    (hys : Paired (fun v k => Tup2 nx v (f k).1 (f k).2) ys (ns.take i)) (hk : ns[i]? = some k) (hf : f k = (a, b)) : CompPost h₀ L m s₂ C D I oC oD oI (PairI K f ns) (i + 1) (ys ++ [.ref Dk]) { s₂ with heap := hA, toks := tk } := by
  have hlt := allLt_iff lA
  refine ⟨hA, tk, (Dk, tup2 a b ta tb n) :: nx, rfl, FA, news_sub NA ?_, ?_, ⟨fun p hp => List.mem_cons_of_mem _ (hK p hp), ?_⟩⟩
  · intro p hp
    simp only [List.mem_cons] at hp ⊢
    rcases hp with h | h | h | h | h <;> simp [h]
  · intro p hp
    rcases List.mem_cons.mp hp with rfl | hp
    · exact ⟨Ne.symm (Nat.ne_of_lt (hlt (C, oC) (by simp))), Ne.symm (Nat.ne_of_lt (hlt (D, oD) (by simp))), Ne.symm (Nat.ne_of_lt (hlt (I, oI) (by simp)))⟩
    · exact hoff p hp
  · rw [List.take_succ, hk]
    refine Paired.snoc (hys.mono fun _ _ k => k.mono fun p hp _ => List.mem_cons_of_mem _ hp) ?_
    rw [hf]
    exact ⟨Dk, _, _, _, rfl, List.mem_cons_self⟩
/-- the sum of two lists of the ledger -/
theorem add_L {prog : Program} {w : World} {A : Around} {E : Value → Shared → Prop} {s : Shared} {h₀ : Heap} {L : Addr} {m : Str → Option Value} {R : Led} {a b : Addr} {us ws : List Value} {n k : Nat} {Q : Value → Shared → Prop} (F : Fr h₀ L s.heap m) (N : News h₀ L s.heap R) (ma : (a, W.listOf us.toArray n) ∈ R) (mb : (b, W.listOf ws.toArray k) ∈ R) (hz : us.length + ws.length ≤ sizeLine)
    (h : ∀ D h', Fr h₀ L h' m → News h₀ L h' ((D, W.listOf (us ++ ws).toArray 0) :: R) → (∀ p ∈ R, p.1 < D) → Q (.ref D) { s with heap := h' }) : wpAny (model prog w) A (binaryOp .Add (.ref a) (.ref b)) Q E s :=
  add_lists F N ⟨_, (N _ ma).1, rfl, n, rfl⟩ ⟨_, (N _ mb).1, rfl, k, rfl⟩ (fun h' F' N' => h _ h' F' N' fun p hp => Heap.lt_size (N p hp).1) hz
theorem Paired.app {α β : Type} {F : α → β → Prop} {l₁ : List α} {l₂ : List β} {m₁ : List α} {m₂ : List β} (p : Paired F l₁ l₂) (h : Paired F m₁ m₂) : Paired F (l₁ ++ m₁) (l₂ ++ m₂) := by
  induction p with
  | nil => exact h
  | cons a _ ih => exact .cons a ih
theorem Paired.keys {w : World} {R R' : Led} {kd : Int} {vs : List Value} {xs : List Int} (p : Paired (fun v s => Tup2 R v kd s) vs xs) (hs : ∀ p ∈ R, p.2.cls = .type "tuple" → p ∈ R') : Paired (KeyV w R') vs (xs.map fun s => [kd, s]) := by
  induction p with
  | nil => exact .nil
  | cons a _ ih => exact .cons (a.mono hs).key ih
end N240
end
-- KitG
section
open PySem PySem.W PyProof.Rows PySem.Spec PySem.Calls
namespace N240
abbrev iK (w : World) := PySem.intKind pg w
abbrev tK (w : World) := PySem.tupleKind (PySem.intKind pg w)
/-- a dict with tuples as keys, as an object -/
def TObj (w : World) (o : Obj) (xs : List (List Int × Addr × Value)) : Prop := o.ExactDict ∧ ∃ es ep, o.data = .dict es ep ∧ es.toList = xs.map (entryOfKey (tK w)) ∧ (xs.map (·.1)).Nodup
def KeysIn (w : World) (R : Led) (xs : List (List Int × Addr × Value)) : Prop := ∀ x ∈ xs, KeyV w R (.ref x.2.1) x.1
theorem KeyV.is {w : World} {h₀ h : Heap} {L t : Addr} {R : Led} {k : List Int} (N : News h₀ L h R) (hk : KeyV w R (.ref t) k) : (tK w).is h k t := by
  obtain ⟨t', a, b, ta, tb, n, e, rfl, hm⟩ := hk
  injection e with e
  subst e
  exact ⟨_, _, n, (N _ hm).1, rfl, rfl, .cons (intKind_is _ _ _ _) (.cons (intKind_is _ _ _ _) .nil)⟩
theorem KeysIn.mono {w : World} {R R' : Led} {xs : List (List Int × Addr × Value)} (h : KeysIn w R xs) (hs : ∀ p ∈ R, p.2.cls = .type "tuple" → p ∈ R') : KeysIn w R' xs := fun x hx => (h x hx).mono hs
theorem TObj.at {w : World} {h₀ h : Heap} {L d : Addr} {R : Led} {o : Obj} {xs : List (List Int × Addr × Value)} (N : News h₀ L h R) (hm : (d, o) ∈ R) (ho : TObj w o xs) (hk : KeysIn w R xs) : h.DictOfH (tK w) d xs := by
  obtain ⟨a, es, ep, b, c, n⟩ := ho
  exact ⟨o, es, ep, (N _ hm).1, a, b, c, fun x hx => (hk x hx).is N, n⟩
theorem TObj.of {w : World} {h : Heap} {d : Addr} {xs : List (List Int × Addr × Value)} (x : h.DictOfH (tK w) d xs) : ∃ o, h.get? d = some o ∧ TObj w o xs := by
  obtain ⟨o, es, ep, ho, a, b, c, _, n⟩ := x
  exact ⟨o, ho, a, es, ep, b, c, n⟩
theorem TObj.cls {w : World} {o : Obj} {xs : List (List Int × Addr × Value)} (h : TObj w o xs) : o.cls = .type "dict" := h.1.1
theorem iobj_cls {w : World} {o : Obj} {kvs : List (Int × Value)} (h : o.IsDictOf (iK w) kvs) : o.cls = .type "dict" := h.elim fun _ h => h.elim fun _ h => h.1.1
/-- `{}` is both -/
theorem TObj.empty {w : World} {o : Obj} (h : o.IsDictOf (iK w) []) : TObj w o [] := by
  obtain ⟨es, ep, a, b, _, c, _⟩ := h
  refine ⟨a, es, ep, b, ?_, List.nodup_nil⟩
  cases hc : es.toList with
  | nil => rfl
  | cons e r => rw [hc] at c; cases c
section
variable {w : World} {A : Around} {E : Value → Shared → Prop} {s : Shared} {h₀ : Heap} {L : Addr} {m : Str → Option Value} {R : Led}
theorem updF_memO {l : Addr} {o : Obj} {R : Led} {g : Obj → Led} (U : UpdF l o R g) : (l, o) ∈ R := by
  obtain ⟨pre, post, e1, _, _⟩ := updF_split U
  rw [e1]; simp
/-- one object of the ledger is changed -/
theorem upd_O {l : Addr} {o o' : Obj} {g : Obj → Led} {h h' : Heap} (F : Fr h₀ L h m) (N : News h₀ L h R) (U : UpdF l o R g) (hl' : h'.get? l = some o') (hs' : Heap.SameBut l h h') : Fr h₀ L h' m ∧ News h₀ L h' (g o') := by
  obtain ⟨pre, post, e1, e2, h3⟩ := updF_split U
  have hm : (l, o) ∈ R := by rw [e1]; simp
  refine ⟨kas_fr F hs' (N _ hm).2.1 (N _ hm).2.2, ?_⟩
  rw [e2]
  intro q hq
  rcases List.mem_append.mp hq with hq | hq
  · exact ⟨(hs'.2 q.1 (h3 q (List.mem_append.mpr (.inl hq)))).trans (N q (by rw [e1]; simp [hq])).1, (N q (by rw [e1]; simp [hq])).2⟩
  · rcases List.mem_cons.mp hq with rfl | hq
    · exact ⟨hl', (N _ hm).2⟩
    · exact ⟨(hs'.2 q.1 (h3 q (List.mem_append.mpr (.inr hq)))).trans (N q (by rw [e1]; simp [hq])).1, (N q (by rw [e1]; simp [hq])).2⟩
/-- d[k] = v upon a dict with tuples as keys -/
theorem td_set {d t : Addr} {o : Obj} {xs : List (List Int × Addr × Value)} {k : List Int} {v : Value} {g : Obj → Led} {Q : Unit → Shared → Prop} (hu : A.in1.units < cLine) (F : Fr h₀ L s.heap m) (N : News h₀ L s.heap R) (U : UpdF d o R g) (ho : TObj w o xs) (hks : KeysIn w R xs) (hk : KeyV w R (.ref t) k) (hsz : xs.length ≤ sizeLine)
    (h : ∀ h' o' tk', TObj w o' (storedH xs k t v) → Fr h₀ L h' m → News h₀ L h' (g o') → Q () { s with heap := h', toks := tk' }) : wpAny (model pg w) A (setItem (.ref d) (.ref t) v) Q E s := by
  refine wpAny_setItem_heap (knd := tK w) (hsz := hsz) hu (hk.is N) (ho.at N (updF_memO U) hks) fun h' hd' hs' => ?_
  obtain ⟨o', hg, ho'⟩ := TObj.of hd'
  obtain ⟨F', N'⟩ := upd_O F N U hg hs'
  exact h h' o' _ ho' F' N'
/-- k in d -/
theorem td_in {d t : Addr} {o : Obj} {xs : List (List Int × Addr × Value)} {k : List Int} {Q : Value → Shared → Prop} (hu : A.in1.units < cLine) (N : News h₀ L s.heap R) (hd : (d == sysModules) = false) (hm : (d, o) ∈ R) (ho : TObj w o xs) (hks : KeysIn w R xs) (hk : KeyV w R (.ref t) k)
    (h : ∀ tk', Q (.bool (atKey xs k).isSome) { s with toks := tk' }) : wpAny (model pg w) A (compareOp .In (.ref t) (.ref d)) Q E s :=
  wpAny_in_heap (knd := tK w) hu (hk.is N) hd (ho.at N hm hks) (h _)
/-- d[k] -/
theorem td_get {d t : Addr} {o : Obj} {xs : List (List Int × Addr × Value)} {k : List Int} {p : Addr × Value} {value slice : PySem.Expr} {Q : Value → Shared → Prop} (hu : A.in1.units < cLine) (N : News h₀ L s.heap R) (hm : (d, o) ∈ R) (ho : TObj w o xs) (hks : KeysIn w R xs) (hk : KeyV w R (.ref t) k) (hp : atKey xs k = some p)
    (h : ∀ tk', Q p.2 { s with toks := tk' }) (hs : subscripted slice false (.ref d) (.ref t) = operate [.ref d, .ref t] (getItem (.ref d) (.ref t)) := by with_unfolding_all rfl) (ht : ∀ r, letTemporaryGo value (.ref d) r = pure () := by intro _; with_unfolding_all rfl) :
    wpAny (model pg w) A (subscriptTail value slice (.ref d) (.ref t)) Q E s :=
  subscriptTail_builtin (ho.at N hm hks).typeIs slot_dict_getitem.lookup (wpAny_getItem_heap (knd := tK w) hu (hk.is N) (ho.at N hm hks) hp (h _)) hs ht
/-- d[k] = v upon a dict with ints as keys -/
theorem id_set {d : Addr} {o : Obj} {kvs : List (Int × Value)} {k : Int} {u : Tok} {v : Value} {g : Obj → Led} {Q : Unit → Shared → Prop} (F : Fr h₀ L s.heap m) (N : News h₀ L s.heap R) (U : UpdF d o R g) (ho : o.IsDictOf (iK w) kvs) (hsz : kvs.length ≤ sizeLine)
    (h : ∀ h' o' tk', o'.IsDictOf (iK w) (stored kvs k v) → Fr h₀ L h' m → News h₀ L h' (g o') → Q () { s with heap := h', toks := tk' }) : wpAny (model pg w) A (setItem (.ref d) (.int k u) v) Q E s := by
  refine wpAny_setItem_pairs (knd := iK w) (hsz := hsz) (intKind_is _ _ _ _) (Heap.dictOf_iff.mpr ⟨o, (N _ (updF_memO U)).1, ho⟩) fun h' hd' hs' => ?_
  obtain ⟨o', hg, ho'⟩ := Heap.dictOf_iff.mp hd'
  obtain ⟨F', N'⟩ := upd_O F N U hg hs'
  exact h h' o' _ ho' F' N'
end
end N240
end
-- KitH
section
open PySem PySem.W PyProof.Rows PySem.Spec PySem.Calls
namespace N240
/-- a row of costs -/
def RowP (kvs : List (Int × Value)) (row : List (Int × Int)) : Prop := Paired (fun q e => q.1 = e.1 ∧ ∃ t, q.2 = Value.int e.2 t) kvs row
inductive RowV (w : World) (R : Led) (v : Value) (row : List (Int × Int)) : Prop
  | mk (Di : Addr) (oi : Obj) (kvs : List (Int × Value)) (e : v = .ref Di) (a : (Di, oi) ∈ R) (b : oi.IsDictOf (iK w) kvs) (c : RowP kvs row) (d : (Di == sysModules) = false) : RowV w R v row
/-- a table of costs -/
def TabO (w : World) (R : Led) (o : Obj) (T : List (List Int × List (Int × Int))) : Prop := ∃ xs, TObj w o xs ∧ KeysIn w R xs ∧ Paired (fun x r => x.1 = r.1 ∧ RowV w R x.2.2 r.2) xs T
def GoodRow (vs : List Int) (row : List (Int × Int)) : Prop := row.map (·.1) = vs ∧ ∀ e ∈ row, 0 ≤ e.2 ∧ e.2 ≤ 3
/-- the source of draws -/
inductive SrcIn (src : Addr) (R : Led) : Prop
  | mk (dg mx : Int) (td tm : Tok) (n : Nat) (a : 0 ≤ dg) (b : 0 ≤ mx) (c : mx < 2147483647) (d : (src, W.listOf #[.int dg td, .int mx tm] n) ∈ R) : SrcIn src R
theorem RowV.mono {w : World} {R R' : Led} {v : Value} {row : List (Int × Int)} (h : RowV w R v row) (hs : ∀ p ∈ R, p.2.cls = .type "dict" → p ∈ R') : RowV w R' v row := by
  cases h with | mk Di oi kvs e a b c d => exact .mk Di oi kvs e (hs _ a (iobj_cls b)) b c d
theorem TabO.mono {w : World} {R R' : Led} {o : Obj} {T : List (List Int × List (Int × Int))} (h : TabO w R o T) (hs : ∀ p ∈ R, p.2.cls = .type "dict" ∨ p.2.cls = .type "tuple" → p ∈ R') : TabO w R' o T := by
  obtain ⟨xs, a, b, c⟩ := h
  exact ⟨xs, a, b.mono fun p hp e => hs p hp (.inr e), c.mono fun _ _ k => ⟨k.1, k.2.mono fun p hp e => hs p hp (.inl e)⟩⟩
theorem SrcIn.mono {src : Addr} {R R' : Led} (h : SrcIn src R) (hs : ∀ p ∈ R, p.1 = src → p ∈ R') : SrcIn src R' := by
  cases h with | mk dg mx td tm n a b c d => exact .mk dg mx td tm n a b c (hs _ d rfl)
/-- a ledger with two entries ahead -/
theorem reform2 {h₀ h : Heap} {L a b : Addr} {o o' : Obj} {R : Led} (N : News h₀ L h R) (x : (a, o) ∈ R) (y : (b, o') ∈ R) (hne : a ≠ b) :
    ∃ R7, (∀ p ∈ R, p.1 ≠ a → p.1 ≠ b → p ∈ R7) ∧ (∀ p ∈ R7, p ∈ R) ∧ (∀ p ∈ R7, p.1 ≠ a ∧ p.1 ≠ b) ∧ News h₀ L h ((a, o) :: (b, o') :: R7) := by
  refine ⟨off a (off b R), fun p hp h1 h2 => mem_off (mem_off hp h2) h1, fun p hp => (of_off (of_off hp).1).1, fun p hp => ⟨off_ne p hp, (of_off (of_off hp).1).2⟩, ?_⟩
  intro p hp
  rcases List.mem_cons.mp hp with rfl | hp
  · exact N _ x
  · rcases List.mem_cons.mp hp with rfl | hp
    · exact N _ y
    · exact N _ (of_off (of_off hp).1).1
theorem atKey_new {xs : List (List Int × Addr × Value)} {k : List Int} (h : k ∉ xs.map (·.1)) : atKey xs k = none := by
  refine atKey_none_of_get fun j p hj => h ?_
  exact List.mem_map.mpr ⟨(k, p), List.mem_of_getElem? hj, rfl⟩
theorem stored_new {kvs : List (Int × Value)} {k : Int} {v : Value} (h : k ∉ kvs.map (·.1)) : stored kvs k v = kvs ++ [(k, v)] := by
  unfold stored
  rw [if_neg]
  intro e
  obtain ⟨x, hx, hk⟩ := List.any_eq_true.mp e
  exact h (List.mem_map.mpr ⟨x, hx, of_decide_eq_true hk⟩)
theorem Paired.maps {α β γ : Type} {F : α → β → Prop} {f : α → γ} {g : β → γ} {l₁ : List α} {l₂ : List β} (h : Paired F l₁ l₂) (hf : ∀ a b, F a b → f a = g b) : l₁.map f = l₂.map g := by
  induction h with
  | nil => rfl
  | cons x _ ih => rw [List.map_cons, List.map_cons, hf _ _ x, ih]
theorem RowP.keys {kvs : List (Int × Value)} {row : List (Int × Int)} (h : RowP kvs row) : kvs.map (·.1) = row.map (·.1) := Paired.maps h fun _ _ x => x.1
theorem Paired.keysT {w : World} {R : Led} {xs : List (List Int × Addr × Value)} {T : List (List Int × List (Int × Int))} (h : Paired (fun x r => x.1 = r.1 ∧ RowV w R x.2.2 r.2) xs T) : xs.map (·.1) = T.map (·.1) := Paired.maps h fun _ _ x => x.1
theorem Paired.at {α β : Type} {F : α → β → Prop} {l₁ : List α} {l₂ : List β} (h : Paired F l₁ l₂) : ∀ (i : Nat) a, l₁[i]? = some a → ∃ b, l₂[i]? = some b ∧ F a b := by
  induction h with
  | nil => intro i a h; cases h
  | cons x _ ih =>
    intro i a h
    cases i with
    | zero => exact ⟨_, rfl, Option.some.inj h ▸ x⟩
    | succ i => exact ih i a h
theorem ints_at {vs : List Value} {ns : List Int} (hi : IntsAre vs ns) {i : Nat} {v : Value} (hv : vs[i]? = some v) : ∃ k t, ns[i]? = some k ∧ v = .int k t := by
  have hk : ns[i]? = some (ns[i]'(hi.length ▸ (List.getElem?_eq_some_iff.mp hv).1)) := List.getElem?_eq_getElem _
  obtain ⟨t, e⟩ := hi.get i _ hk
  exact ⟨_, t, hk, Option.some.inj (hv.symm.trans e)⟩
section
variable {prog : Program} {w : World} {A : Around} {E : Value → Shared → Prop} {s : Shared} {env : Env} {h₀ : Heap} {x : Str} {body : List Stmt} {Q : Flow → Shared → Prop}
/-- a for over a list of ints -/
theorem loop_ints {σ : Type} {l : Addr} {vs : List Value} {nn : Nat} {m₀ : Str → Option Value} {news : Led}
    {ns : List Int} (hi : IntsAre vs ns)
    (ps : σ → List (Str × Value)) (stored : List Str) (Iv : Nat → σ → Led → Prop) (c₀ : σ)
    (up : ∀ i c R R', (∀ p ∈ R, Solid p.2 ∨ p.1 < s.heap.objs.size → p ∈ R') → Iv i c R → Iv i c R')
    (hh : A.handled = none) (hl : (l, W.listOf vs.toArray nn) ∈ news)
    (F : Fr h₀ env.locals s.heap m₀) (N : News h₀ env.locals s.heap news) (h0 : Iv 0 c₀ news) (hk : ∀ p ∈ ps c₀, m₀ p.1 = some p.2)
    (turn : ∀ i k t c nx (u : Str → Option Value) h tk, ns[i]? = some k → vs[i]? = some (.int k t) → (l, W.listOf vs.toArray nn) ∈ nx → Iv i c nx → Fr h₀ env.locals h (fun y => if y = x then some (.int k t) else kstB (fun z => if stored.contains z then u z else m₀ z) (ps c) y) → News h₀ env.locals h nx →
      wpAny (model prog w) A (execs body env) (LPost h₀ env.locals x [(l, W.listOf vs.toArray nn)] nx ps stored m₀ (Iv (i + 1)) { s with heap := h, toks := tk } Q) E { s with heap := h, toks := tk })
    (done : ∀ c nx (u : Str → Option Value) h tk, (l, W.listOf vs.toArray nn) ∈ nx → Iv vs.length c nx → Fr h₀ env.locals h (fun y => if y = x then u y else kstB (fun z => if stored.contains z then u z else m₀ z) (ps c) y) → News h₀ env.locals h nx → Q .next { s with heap := h, toks := tk }) :
    wpAny (model prog w) A (pyIter (.ref l)) (fun it s₂ => LoopAtV prog w A h₀ env x body Q E it s₂) E s := by
  refine loop_list ps stored Iv c₀ up hh hl F N h0 hk (fun i v c nx u h tk hv => ?_) done
  obtain ⟨k, t, hk, rfl⟩ := ints_at hi hv
  exact turn i k t c nx u h tk hk hv
/-- a for over a list of keys -/
theorem loop_keys {σ : Type} {l : Addr} {vs : List Value} {nn : Nat} {m₀ : Str → Option Value} {news : Led}
    {w₂ : World} {R₀ : Led} {ks : List (List Int)} (hp : Paired (KeyV w₂ R₀) vs ks)
    (ps : σ → List (Str × Value)) (stored : List Str) (Iv : Nat → σ → Led → Prop) (c₀ : σ)
    (up : ∀ i c R R', (∀ p ∈ R, Solid p.2 ∨ p.1 < s.heap.objs.size → p ∈ R') → Iv i c R → Iv i c R')
    (hh : A.handled = none) (hl : (l, W.listOf vs.toArray nn) ∈ news)
    (F : Fr h₀ env.locals s.heap m₀) (N : News h₀ env.locals s.heap news) (h0 : Iv 0 c₀ news) (hk : ∀ p ∈ ps c₀, m₀ p.1 = some p.2)
    (turn : ∀ i t kd sl tkd tsl nt c nx (u : Str → Option Value) h tk, ks[i]? = some [kd, sl] → vs[i]? = some (.ref t) → (t, ({ cls := .type "tuple", data := .seq #[.int kd tkd, .int sl tsl] nt } : Obj)) ∈ R₀ → (l, W.listOf vs.toArray nn) ∈ nx → Iv i c nx → Fr h₀ env.locals h (fun y => if y = x then some (.ref t) else kstB (fun z => if stored.contains z then u z else m₀ z) (ps c) y) → News h₀ env.locals h nx →
      wpAny (model prog w) A (execs body env) (LPost h₀ env.locals x [(l, W.listOf vs.toArray nn)] nx ps stored m₀ (Iv (i + 1)) { s with heap := h, toks := tk } Q) E { s with heap := h, toks := tk })
    (done : ∀ c nx (u : Str → Option Value) h tk, (l, W.listOf vs.toArray nn) ∈ nx → Iv vs.length c nx → Fr h₀ env.locals h (fun y => if y = x then u y else kstB (fun z => if stored.contains z then u z else m₀ z) (ps c) y) → News h₀ env.locals h nx → Q .next { s with heap := h, toks := tk }) :
    wpAny (model prog w) A (pyIter (.ref l)) (fun it s₂ => LoopAtV prog w A h₀ env x body Q E it s₂) E s := by
  refine loop_list ps stored Iv c₀ up hh hl F N h0 hk (fun i v c nx u h tk hv => ?_) done
  obtain ⟨k, hk, h2⟩ := Paired.at hp i v hv
  cases h2 with | mk t a b ta tb n e ek hm =>
  subst e ek
  exact turn i t a b ta tb n c nx u h tk hk hv hm
end
theorem not_mem_take {α : Type} {l : List α} : ∀ {i : Nat} {a : α}, l.Nodup → l[i]? = some a → a ∉ l.take i := by
  induction l with
  | nil => intro i a _ h; cases h
  | cons x r ih =>
    intro i a hn h
    cases i with
    | zero => exact List.not_mem_nil
    | succ i =>
      rw [List.nodup_cons] at hn
      rw [List.getElem?_cons_succ] at h
      rw [List.take_succ_cons, List.mem_cons]
      exact fun e => e.elim (fun e => hn.1 (e ▸ List.mem_of_getElem? h)) (ih hn.2 h)
theorem dict_ne_tuple {o : Obj} (h : o.cls = .type "dict") : o.cls ≠ .type "tuple" := fun e => by rw [h] at e; injection e with e; exact absurd e (by decide)
theorem list_ne_tuple {its : Array Value} {n : Nat} : (W.listOf its n).cls ≠ .type "tuple" := fun e => tl_ne (by exact e.symm)
theorem list_ne_dict {its : Array Value} {n : Nat} : (W.listOf its n).cls ≠ .type "dict" := fun e => by injection e with e; exact absurd e (by decide)
theorem atKey_last {xs : List (List Int × Addr × Value)} {k : List Int} {a : Addr} {v : Value} (h : k ∉ xs.map (·.1)) : atKey (xs ++ [(k, a, v)]) k = some (a, v) := by
  have e := atKey_new h
  unfold atKey at e ⊢
  rw [List.find?_append]
  cases hc : xs.find? fun x => decide (x.1 = k) with
  | some y => rw [hc] at e; cases e
  | none => simp
theorem src_ne {src : Addr} {h₀ h : Heap} {L : Addr} {R : Led} {p : Addr × Obj} (N : News h₀ L h R) (hs : SrcIn src R) (hp : p ∈ R) (hc : p.2.cls = .type "tuple" ∨ p.2.cls = .type "dict") : p.1 ≠ src := by
  obtain ⟨_, _, _, _, _, _, _, _, hm⟩ := hs
  refine ne_of_obj N (o := p.2) hp hm (cls_ne ?_)
  rcases hc with hc | hc <;> rw [hc]
  · exact fun e => list_ne_tuple e.symm
  · exact fun e => list_ne_dict e.symm
theorem head2 {a b : Addr} {o : Obj} {R : Led} (h : a ≠ b) (hR : ∀ p ∈ R, p.1 ≠ a ∧ p.1 ≠ b) : ∀ q ∈ (b, o) :: R, q.1 ≠ a := by
  intro q hq
  rcases List.mem_cons.mp hq with rfl | hq
  · exact Ne.symm h
  · exact (hR q hq).1
theorem tuple_keys_no_ints {w : World} {o : Obj} {x : List Int × Addr × Value} {xs : List (List Int × Addr × Value)} {kvs : List (Int × Value)} (h : TObj w o (x :: xs)) (hi : o.IsDictOf (iK w) kvs) : False := by
  obtain ⟨_, es, ep, e1, e2, _⟩ := h
  obtain ⟨es', ep', _, e1', hk, _⟩ := hi
  rw [e1] at e1'
  injection e1' with e3 e4
  subst e3
  have hm : entryOfKey (tK w) x ∈ es.toList := by rw [e2]; exact List.mem_cons_self
  obtain ⟨k, hk1, _⟩ := hk _ (by simpa using hm)
  have hk2 : Value.isInt k (Value.ref x.2.1) = true := hk1
  obtain ⟨t, ht⟩ := Value.isInt_shape hk2
  cases ht
theorem rows_keep {w : World} {h₀ h : Heap} {L df : Addr} {R R' : Led} {o : Obj} {xs : List (List Int × Addr × Value)} {T : List (List Int × List (Int × Int))} (N : News h₀ L h R) (hm : (df, o) ∈ R) (to : TObj w o xs)
    (pr : Paired (fun x r => x.1 = r.1 ∧ RowV w R x.2.2 r.2) xs T) (hs : ∀ p ∈ R, p.2.cls = .type "dict" → p.1 ≠ df → p ∈ R') : Paired (fun x r => x.1 = r.1 ∧ RowV w R' x.2.2 r.2) xs T := by
  cases xs with
  | nil => cases pr; exact .nil
  | cons y ys =>
    refine pr.mono fun _ _ k => ⟨k.1, ?_⟩
    obtain ⟨Di, oi, kvs, e, a, b, c, d⟩ := k.2
    refine ⟨Di, oi, kvs, e, hs _ a (iobj_cls b) ?_, b, c, d⟩
    rintro rfl
    have := news_fun N a hm
    subst this
    exact tuple_keys_no_ints to b
end N240
end
-- KitI
section
open PySem PySem.W PyProof.Rows PySem.Spec PySem.Calls
namespace N240
theorem TObj.lit {w : World} {o : Obj} {xs : List (List Int × Addr × Value)} (h : TObj w o xs) : ∃ ep, o = W.dictOf (xs.map (entryOfKey (tK w))) ep := by
  first | (have a := (And.left h); have es := (And.left (And.right h)); have ep := (And.left (And.right (And.right h))); have b := (And.left (And.right (And.right (And.right h)))); have c := (And.left (And.right (And.right (And.right (And.right h))))); have hU1 := (And.right (And.right (And.right (And.right (And.right h))))); try clear h) | (refine hideE fun GG hGG => ?_; obtain ⟨a, es, ep, b, c, _⟩ := h; refine hGG ?_; clear hGG GG)
  first | (have a1 := (And.left a); have a2 := (And.left (And.right a)); have a3 := (And.right (And.right a)); try clear a) | (refine hideE fun GG hGG => ?_; obtain ⟨a1, a2, a3⟩ := a; refine hGG ?_; clear hGG GG)
  refine ⟨ep, ?_⟩
  first | (have o1 := (And.left o); have o2 := (And.left (And.right o)); have o3 := (And.left (And.right (And.right o))); have o4 := (And.right (And.right (And.right o))); try clear o) | (refine hideE fun GG hGG => ?_; obtain ⟨o1, o2, o3, o4⟩ := o; refine hGG ?_; clear hGG GG)
  simp only at a1 a2 a3 b
  subst a1 a2 a3 b
  unfold W.dictOf
  congr 2
  rw [← c]
section
variable {prog : Program} {w : World} {A : Around} {E : Value → Shared → Prop} {s : Shared} {h₀ : Heap} {L : Addr} {m : Str → Option Value} {R : Led}
theorem kdl_raw {d : Addr} {es : Array DictEntry} {ep : Nat} (lo : (d == sysModules) = false) : KdlSrc prog w "dict" d d es.size (fun i v => ∃ e, es[i]? = some e ∧ v = e.key) (fun h => RawAt h d es ep) where
  type := fun _ hm => ⟨_, hm, rfl⟩
  there := fun _ hm => ⟨Heap.lt_size hm, Heap.lt_size hm⟩
  keep := fun _ _ hm hk => hk d (.inl rfl) _ hm
  notList := by decide
  notTuple := by decide
  hint := fun _ _ _ _ hm hq => kdl_hint_dict ⟨_, hm, rfl⟩ hq
  iter := fun A s hh hm => ⟨_, _, (fun _ _ hq => iter_raw lo hm fun h' e => by subst e; exact hq), walks_raw hh _ d (Nat.ne_of_lt (Heap.lt_size hm)) es ep, ⟨⟨_, Heap.get?_push_size _ rfl, rfl, rfl⟩, Heap.get?_push_of_some _ hm⟩⟩
/-- a sort that finds all in order -/
theorem asc_wp {cmp : Nat → Nat → (Bool → Shared → Prop) → Shared → Prop} {p : Array Nat} {Q : Nat → Shared → Prop} : ∀ (f n : Nat), (∀ k, n ≤ k → k < n + f → ∀ C : Bool → Shared → Prop, C false s → cmp (p.getD k 0) (p.getD (k - 1) 0) C s) → Q (n + f) s → (kas_asc p f n).kasWp cmp Q s
  | 0, _, _, h => h
  | f + 1, n, hc, h => by
    show cmp _ _ _ s
    refine hc n (Nat.le_refl _) (Nat.lt_add_of_pos_right (Nat.succ_pos f)) _ ?_
    show (if false = true then KasT.ret n else kas_asc p f (n + 1)).kasWp cmp Q s
    rw [if_neg (by decide)]
    exact asc_wp f (n + 1) (fun k h1 h2 => hc k (Nat.le_of_succ_le h1) (Nat.add_right_comm n 1 f ▸ h2)) (Nat.add_right_comm n 1 f ▸ h)
theorem sort_wp {cmp : Nat → Nat → (Bool → Shared → Prop) → Shared → Prop} {n : Nat} (h2 : 2 ≤ n) {Q : Array Nat → Shared → Prop} (hc : ∀ k, 1 ≤ k → k < n → ∀ C : Bool → Shared → Prop, C false s → cmp k (k - 1) C s) (h : Q (List.toArray (List.range n)) s) : (kas_sort n).kasWp cmp Q s := by
  have hg : ∀ k, k < n → (List.toArray (List.range n)).getD k 0 = k := fun k hk => by simp [Array.getD, hk]
  unfold kas_sort kas_count
  rw [KasT.kasWp_bind, KasT.kasWp_bind]
  refine asc_wp (n - 1) 1 (fun k h1 h3 C hC => ?_) ?_
  · have e : 1 + (n - 1) = n := Nat.add_sub_cancel' (Nat.le_of_succ_le h2)
    have h4 : k < n := e ▸ h3
    rw [hg k h4, hg (k - 1) (Nat.lt_of_le_of_lt (Nat.sub_le k 1) h4)]
    exact hc k h1 h4 C hC
  · have e : 1 + (n - 1) = n := Nat.add_sub_cancel' (Nat.le_of_succ_le h2)
    rw [e]
    simp only [beq_self_eq_true, if_true]
    show (if n < n then _ else KasT.ret _).kasWp cmp Q s
    rw [if_neg (Nat.lt_irrefl _)]
    exact h
/-- a list of one item or none stays -/
theorem sort_short {a : Addr} {vs : List Value} {n : Nat} {P : PySem.Fin → Shared → Prop} (ho : s.heap.get? a = some (seqObj "list" vs.toArray n)) (h2 : vs.length < 2)
    (h : P (.done (.ret .none)) { s with heap := sortedHeap s.heap a vs vs.toArray }) : wpAny (model prog w) A (Builtin.«list.sort» ⟨[.ref a], []⟩) P E s := by
  rw [list_sort_plain]
  have ha : a < s.heap.objs.size := Heap.lt_size ho
  refine wpAny_bind (listItems_at ho rfl ?_)
  refine wpAny_bind (listUpdate_at ho rfl ?_)
  have hHi4 : ∃ e1, (s.heap.update a (Obj.mapSeq fun _ => #[])).get? a = some (seqObj "list" #[] e1) := ⟨_, get?_update_seq ho (fun _ => #[])⟩
  first | (have e1 := (And.left hHi4); have ho1 := (And.right hHi4); try clear hHi4) | (obtain ⟨e1, ho1⟩ := hHi4)
  refine wpAny_bind (seqEpoch_at ho1 rfl ?_)
  refine wpAny_bind (wpAny_newTuple ?_ (by show vs.length ≤ _; rw [sizeLine_eq]; omega))
  refine wpAny_bind (wpAny_newList ?_)
  refine wpAny_holding ?_
  have ho6 : (((s.heap.update a (Obj.mapSeq fun _ => #[])).push (seqObj "tuple" vs.toArray 0)).push (seqObj "list" #[] 0)).get? a = some (seqObj "list" #[] e1) := by
    rw [Heap.get?_push_ne _ _ _ (by rw [size_push', Heap.size_update]; exact Nat.ne_of_lt (Nat.lt_succ_of_lt ha)), Heap.get?_push_ne _ _ _ (by rw [Heap.size_update]; exact Nat.ne_of_lt ha)]
    exact ho1
  show wpAny (model prog w) A _ P E { s with heap := ((s.heap.update a (Obj.mapSeq fun _ => #[])).push (seqObj "tuple" vs.toArray 0)).push (seqObj "list" #[] 0) }
  dsimp only
  have hlt : vs.toArray.size < 2 := by simpa using h2
  rw [if_pos hlt, if_pos hlt]
  refine wpAny_bind (wpAny_pure ?_)
  rw [StateT.run_pure]
  refine wpAny_bind (wpAny_pure ?_)
  dsimp only
  have e : (arrOf (SortSt.mk' general' (vs.toArray.zip vs.toArray) #[] 7 none)).map (·.2) = vs.toArray := by
    show (vs.toArray.zip vs.toArray).map (·.2) = vs.toArray
    exact Array.ext (by simp) fun i h1 h2 => by simp
  rw [e]
  refine wpAny_bind (seqEpoch_at ho6 rfl ?_)
  refine wpAny_bind (listUpdate_at ho6 rfl ?_ (hsz2 := by rw [List.size_toArray, sizeLine_eq]; omega))
  simp only [bne_self_eq_false, Bool.false_eq_true, if_false]
  exact wpAny_pure h
/-- the order of keys -/
def KLt (a b : List Int) : Prop := ∃ x y u v, a = [x, y] ∧ b = [u, v] ∧ (x < u ∨ (x = u ∧ y < v))
theorem key_later {x y : Addr} {a b c d : Int} {ta tb tc td : Tok} {n k : Nat} {C : Bool → Shared → Prop} (hx : s.heap.get? x = some (tup2 a b ta tb n)) (hy : s.heap.get? y = some (tup2 c d tc td k)) (hlt : c < a ∨ (c = a ∧ d < b)) (h : C false s) :
    wpAny (model prog w) A (keyLt' (tuples' true) (.ref x) (.ref y)) C E s := by
  refine kat_lt (b := true) hx rfl hy rfl ?_
  refine kat_cons (wpAny_eqBool_int ?_)
  by_cases e : a = c
  · subst e
    rw [beq_self_eq_true]
    refine kat_yes (kat_cons (wpAny_eqBool_int ?_))
    have hb : (b == d) = false := by rw [beq_eq_false_iff_ne]; omega
    rw [hb]
    refine kat_no (kat_one _ _ (PySem.wpAny_lt_int ?_))
    show C (decide (b < d)) s
    have e2 : decide (b < d) = false := by rw [decide_eq_false_iff_not]; omega
    rw [e2]
    exact h
  · have hb : (a == c) = false := by rw [beq_eq_false_iff_ne]; exact e
    rw [hb]
    refine kat_no (oneLt_int ?_)
    have e2 : decide (a < c) = false := by rw [decide_eq_false_iff_not]; omega
    rw [e2]
    exact h
theorem tups_of {h : Heap} {w : World} : ∀ {xs : List (List Int × Addr × Value)}, News h₀ L h R → KeysIn w R xs → ∃ fs, KatTups h (xs.map fun x => Value.ref x.2.1) fs ∧ fs.length = xs.length ∧ ∀ v ∈ fs, ∃ a t, v = Value.int a t
  | [], _, _ => ⟨[], trivial, rfl, fun _ h => nomatch h⟩
  | x :: r, N, hk => by
    have hHi5 := tups_of (xs := r) N fun y hy => hk y (List.mem_cons_of_mem _ hy)
    first | (have fs := (And.left hHi5); have a := (And.left (And.right hHi5)); have b := (And.left (And.right (And.right hHi5))); have c := (And.right (And.right (And.right hHi5))); try clear hHi5) | (refine hideE fun GG hGG => ?_; obtain ⟨fs, a, b, c⟩ := hHi5; refine hGG ?_; clear hGG GG)
    have hHi6 := hk x List.mem_cons_self
    first | (have t := (And.left hHi6); have u := (And.left (And.right hHi6)); have v := (And.left (And.right (And.right hHi6))); have tu := (And.left (And.right (And.right (And.right hHi6)))); have tv := (And.left (And.right (And.right (And.right (And.right hHi6))))); have n := (And.left (And.right (And.right (And.right (And.right (And.right hHi6)))))); have e := (And.left (And.right (And.right (And.right (And.right (And.right (And.right hHi6))))))); have hU2 := (And.left (And.right (And.right (And.right (And.right (And.right (And.right (And.right hHi6)))))))); have hm := (And.right (And.right (And.right (And.right (And.right (And.right (And.right (And.right hHi6)))))))); try clear hHi6) | (refine hideE fun GG hGG => ?_; obtain ⟨t, u, v, tu, tv, n, e, _, hm⟩ := hHi6; refine hGG ?_; clear hGG GG)
    injection e with e
    refine ⟨.int u tu :: fs, ?_, by simp [b], fun z hz => ?_⟩
    · rw [List.map_cons, e]
      exact KatTups.cons (N _ hm).1 rfl rfl rfl a
    · rcases List.mem_cons.mp hz with rfl | hz
      · exact ⟨_, _, rfl⟩
      · exact c z hz
theorem sorted_tdict {d : Addr} {o : Obj} {xs : List (List Int × Addr × Value)} {Q : Value → Shared → Prop} (hh : A.handled = none) (F : Fr h₀ L s.heap m) (N : News h₀ L s.heap R) (lo : (d == sysModules) = false) (hm : (d, o) ∈ R) (to : TObj w o xs) (hk : KeysIn w R xs) (hn : xs.length < 64) (asc : (xs.map (·.1)).Pairwise KLt)
    (h : ∀ B e h' tk, Fr h₀ L h' m → News h₀ L h' ((B, W.listOf (List.toArray (xs.map fun x => Value.ref x.2.1)) e) :: R) → (∀ q ∈ R, q.1 < B) → Q (.ref B) { s with heap := h', toks := tk }) :
    wpAny (model prog w) A (call (.builtin "sorted") [.ref d]) Q E s := by
  have hHi7 := to.lit
  first | (have hE3 := (And.right hHi7); subst hE3; have ep := (And.left hHi7); try clear hHi7) | (obtain ⟨ep, rfl⟩ := hHi7)
  have hat : RawAt s.heap d (xs.map (entryOfKey (tK w))).toArray ep := (N _ hm).1
  refine kdu_sorted (kdl_raw lo) hh F N hat (by rw [sizeLine_eq]; simp; omega) fun B h' tk vs F' N' l1 hl hv => ?_
  obtain rfl : vs = xs.map fun x => Value.ref x.2.1 := by
    refine List.ext_getElem? fun i => ?_
    by_cases hi : i < vs.length
    · have hHi8 := hv i vs[i] (List.getElem?_eq_getElem hi)
      first | (have e := (And.left hHi8); have he := (And.left (And.right hHi8)); have hve := (And.right (And.right hHi8)); try clear hHi8) | (refine hideE fun GG hGG => ?_; obtain ⟨e, he, hve⟩ := hHi8; refine hGG ?_; clear hGG GG)
      rw [List.getElem?_eq_getElem hi, hve]
      rw [List.getElem?_toArray, List.getElem?_map] at he
      rw [List.getElem?_map]
      cases hx : xs[i]? with
      | none => rw [hx] at he; cases he
      | some x => rw [hx] at he; rw [← Option.some.inj he]; rfl
    · have h1 : vs[i]? = none := List.getElem?_eq_none (by omega)
      have h2 : xs[i]? = none := List.getElem?_eq_none (by simp at hl; omega)
      rw [h1, List.getElem?_map, h2]
      rfl
  clear hl hv
  have hB := N' _ List.mem_cons_self
  by_cases h2 : xs.length < 2
  · refine wpAny_call_entry PyProof.Rows.slot_list_sort ⟨_, hB.1, rfl⟩ PyProof.Rows.entry_list_sort (sort_short (s := { s with heap := h', toks := tk }) (n := 0) hB.1 (by simpa using h2) ⟨.none, rfl, ?_⟩) (PyProof.Rows.args_list_sort _)
    have hHi9 := sortedHeap_at (out := (xs.map fun x => Value.ref x.2.1).toArray) hB.1
    first | (have e := (And.left hHi9); have he := (And.right hHi9); try clear hHi9) | (obtain ⟨e, he⟩ := hHi9)
    have old : ∀ b o, b ≠ B → h'.get? b = some o → (sortedHeap h' B (xs.map fun x => Value.ref x.2.1) (xs.map fun x => Value.ref x.2.1).toArray).get? b = some o := fun b o hb ho => (sortedHeap_old hb (Heap.lt_size ho)).trans ho
    refine h B e _ tk (fr_but F' old hB.2.1 hB.2.2) ?_ l1
    intro q hq
    rcases List.mem_cons.mp hq with rfl | hq
    · exact ⟨by rw [he], hB.2⟩
    · exact ⟨old _ _ (Nat.ne_of_lt (l1 q hq)) (N' q (List.mem_cons_of_mem _ hq)).1, (N' q (List.mem_cons_of_mem _ hq)).2⟩
  · have hlen : (xs.map fun x => Value.ref x.2.1).length = xs.length := by simp
    refine kat_lsort (s := { s with heap := h', toks := tk }) F' N' (UpdF.head fun q hq => Nat.ne_of_lt (l1 q hq)) (vs := xs.map fun x => Value.ref x.2.1) (by simp) (by rw [hlen]; omega) (by rw [hlen]; omega) ?_
    intro e1 h'' F'' N''
    (try dsimp only at N'')
    have NR : News h₀ L h'' R := fun p hp => N'' p (List.mem_cons_of_mem _ hp)
    have hHi10 := tups_of NR hk
    first | (have fs := (And.left hHi10); have ft := (And.left (And.right hHi10)); have fl := (And.left (And.right (And.right hHi10))); have fi := (And.right (And.right (And.right hHi10))); try clear hHi10) | (refine hideE fun GG hGG => ?_; obtain ⟨fs, ft, fl, fi⟩ := hHi10; refine hGG ?_; clear hGG GG)
    refine kat_kind (T := .type "int") ft (by rw [fl]; omega) (fun v hv => ?_) (by decide) ?_
    · have hHi11 := fi v hv
      first | (have hE4 := (And.right (And.right hHi11)); subst hE4; have a := (And.left hHi11); have t := (And.left (And.right hHi11)); try clear hHi11) | (refine hideE fun GG hGG => ?_; obtain ⟨a, t, rfl⟩ := hHi11; refine hGG ?_; clear hGG GG)
      exact Looks.now
    have hT : (Value.type "int" != Value.type "tuple") = true := by decide
    rw [hT]
    have get : ∀ (i : Nat) (hi : i < xs.length), (xs.map fun x => Value.ref x.2.1).getD i Value.none = Value.ref xs[i].2.1 := fun i hi => by simp [hi]
    refine sort_wp (by rw [hlen]; omega) (fun k h1 h3 C hC => ?_) ?_
    · rw [hlen] at h3
      show wpAny (model prog w) _ (keyLt' (tuples' true) ((xs.map fun x => Value.ref x.2.1).getD k Value.none) ((xs.map fun x => Value.ref x.2.1).getD (k - 1) Value.none)) C (fun _ _ => False) _
      rw [get k h3, get (k - 1) (by omega)]
      have hlt : KLt (xs[k - 1]'(by omega)).1 xs[k].1 := by
        have := List.pairwise_iff_getElem.mp asc (k - 1) k (by simp; omega) (by simpa using h3) (by omega)
        simpa using this
      have hHi12 := hk xs[k] (List.getElem_mem _)
      first | (have t := (And.left hHi12); have a := (And.left (And.right hHi12)); have b := (And.left (And.right (And.right hHi12))); have ta := (And.left (And.right (And.right (And.right hHi12)))); have tb := (And.left (And.right (And.right (And.right (And.right hHi12))))); have n := (And.left (And.right (And.right (And.right (And.right (And.right hHi12)))))); have e := (And.left (And.right (And.right (And.right (And.right (And.right (And.right hHi12))))))); have e2 := (And.left (And.right (And.right (And.right (And.right (And.right (And.right (And.right hHi12)))))))); have hmt := (And.right (And.right (And.right (And.right (And.right (And.right (And.right (And.right hHi12)))))))); try clear hHi12) | (refine hideE fun GG hGG => ?_; obtain ⟨t, a, b, ta, tb, n, e, e2, hmt⟩ := hHi12; refine hGG ?_; clear hGG GG)
      have hHi13 := hk (xs[k - 1]'(by omega)) (List.getElem_mem _)
      first | (have t' := (And.left hHi13); have a' := (And.left (And.right hHi13)); have b' := (And.left (And.right (And.right hHi13))); have ta' := (And.left (And.right (And.right (And.right hHi13)))); have tb' := (And.left (And.right (And.right (And.right (And.right hHi13))))); have n' := (And.left (And.right (And.right (And.right (And.right (And.right hHi13)))))); have e' := (And.left (And.right (And.right (And.right (And.right (And.right (And.right hHi13))))))); have e2' := (And.left (And.right (And.right (And.right (And.right (And.right (And.right (And.right hHi13)))))))); have hmt' := (And.right (And.right (And.right (And.right (And.right (And.right (And.right (And.right hHi13)))))))); try clear hHi13) | (refine hideE fun GG hGG => ?_; obtain ⟨t', a', b', ta', tb', n', e', e2', hmt'⟩ := hHi13; refine hGG ?_; clear hGG GG)
      injection e with e
      injection e' with e'
      rw [e, e']
      first | (have x := (And.left hlt); have y := (And.left (And.right hlt)); have u := (And.left (And.right (And.right hlt))); have v := (And.left (And.right (And.right (And.right hlt)))); have f1 := (And.left (And.right (And.right (And.right (And.right hlt))))); have f2 := (And.left (And.right (And.right (And.right (And.right (And.right hlt)))))); have f3 := (And.right (And.right (And.right (And.right (And.right (And.right hlt)))))); try clear hlt) | (refine hideE fun GG hGG => ?_; obtain ⟨x, y, u, v, f1, f2, f3⟩ := hlt; refine hGG ?_; clear hGG GG)
      rw [e2'] at f1
      rw [e2] at f2
      have hHi15 : a' = x ∧ b' = y := by simpa using f1
      first | (have hE5 := (And.left hHi15); subst hE5; have hE6 := (And.right hHi15); subst hE6; try clear hHi15) | (obtain ⟨rfl, rfl⟩ := hHi15)
      have hHi16 : a = u ∧ b = v := by simpa using f2
      first | (have hE7 := (And.left hHi16); subst hE7; have hE8 := (And.right hHi16); subst hE8; try clear hHi16) | (obtain ⟨rfl, rfl⟩ := hHi16)
      exact key_later (NR _ hmt).1 (NR _ hmt').1 (by omega) hC
    · refine KasFin.intro F'' N'' (UpdF.head fun q hq => Nat.ne_of_lt (l1 q hq)) fun h3 c F3 N3 => ?_
      refine h B c h3 tk F3 ?_ l1
      have e : ((List.toArray (List.range (xs.map fun x => Value.ref x.2.1).length)).toList.map fun i => (xs.map fun x => Value.ref x.2.1).getD i Value.none) = xs.map fun x => Value.ref x.2.1 := by
        refine List.ext_getElem (by simp) fun i h1 h2 => ?_
        have hi : i < xs.length := by simpa using h2
        simp [hi]
      rw [e] at N3
      exact N3
end
end N240
end
-- KitJ
section
open PySem PySem.W PyProof.Rows PySem.Spec PySem.Calls
namespace N240
abbrev Tab := List (List Int × List (Int × Int))
abbrev CMap := List (List Int × Int)
def getM (M : CMap) (k : List Int) : Option Int := (M.find? fun q => decide (q.1 = k)).map (·.2)
def rowGet (row : List (Int × Int)) (v : Int) : Int := ((row.find? fun e => decide (e.1 = v)).map (·.2)).getD 0
def cost1 (M : CMap) (r : List Int × List (Int × Int)) : Int := match getM M r.1 with | some v => rowGet r.2 v | none => 4
def totTo (T : Tab) (M : CMap) (i : Nat) : Int := ((T.take i).map (cost1 M)).sum
def mods (M : CMap) : List Int := M.map fun q => q.2 % 3
def last2 (l : List Int) : Int := match l.drop (l.length - 2) with | [a, b] => if a = b then 1 else 0 | _ => 0
def lsize (T : Tab) (toll : Int) (M : CMap) : Int := totTo T M T.length + toll * last2 (mods M)
/-- a conditioning -/
def MapO (w : World) (R : Led) (o : Obj) (M : CMap) : Prop := ∃ xs, TObj w o xs ∧ KeysIn w R xs ∧ Paired (fun x q => x.1 = q.1 ∧ ∃ t, x.2.2 = Value.int q.2 t) xs M
theorem MapO.mono {w : World} {R R' : Led} {o : Obj} {M : CMap} (h : MapO w R o M) (hs : ∀ p ∈ R, p.2.cls = .type "tuple" → p ∈ R') : MapO w R' o M :=
  let ⟨xs, a, b, c⟩ := h
  ⟨xs, a, b.mono hs, c⟩
def GoodMap (T : Tab) (M : CMap) : Prop := (M.map (·.1)).Pairwise KLt ∧ M.length ≤ 6 ∧ ∀ q ∈ M, 0 ≤ q.2 ∧ ∀ r ∈ T, r.1 = q.1 → q.2 ∈ r.2.map (·.1)
theorem map_at {xs : List (List Int × Addr × Value)} {M : CMap} (h : Paired (fun x q => x.1 = q.1 ∧ ∃ t, x.2.2 = Value.int q.2 t) xs M) (k : List Int) :
    (atKey xs k = none ∧ getM M k = none) ∨ ∃ a v t, atKey xs k = some (a, Value.int v t) ∧ getM M k = some v ∧ (k, v) ∈ M := by
  induction h with
  | nil => exact .inl ⟨rfl, rfl⟩
  | @cons x q xs M hd r ih =>
    obtain ⟨e, t, et⟩ := hd
    by_cases hk : x.1 = k
    · refine .inr ⟨x.2.1, q.2, t, ?_, ?_, ?_⟩
      · unfold atKey
        rw [List.find?_cons_of_pos (by simpa using hk)]
        simp [← et]
      · unfold getM
        rw [List.find?_cons_of_pos (by rw [← e]; simpa using hk)]
        rfl
      · rw [← hk, e]
        exact List.mem_cons_self
    · have e1 : atKey (x :: xs) k = atKey xs k := by unfold atKey; rw [List.find?_cons_of_neg (by simpa using hk)]
      have e2 : getM (q :: M) k = getM M k := by unfold getM; rw [List.find?_cons_of_neg (by rw [← e]; simpa using hk)]
      rw [e1, e2]
      rcases ih with h | ⟨a, v, t, h1, h2, h3⟩
      · exact .inl h
      · exact .inr ⟨a, v, t, h1, h2, List.mem_cons_of_mem _ h3⟩
theorem row_at {kvs : List (Int × Value)} {row : List (Int × Int)} (h : RowP kvs row) {v : Int} (hv : v ∈ row.map (·.1)) : ∃ t, valueAt kvs v = some (.int (rowGet row v) t) := by
  induction h with
  | nil => cases hv
  | @cons x q xs M hd r ih =>
    obtain ⟨e, t, et⟩ := hd
    by_cases hk : x.1 = v
    · refine ⟨t, ?_⟩
      unfold valueAt rowGet
      rw [List.find?_cons_of_pos (by simpa using hk), List.find?_cons_of_pos (by rw [← e]; simpa using hk)]
      simp [et]
    · have e1 : valueAt (x :: xs) v = valueAt xs v := by unfold valueAt; rw [List.find?_cons_of_neg (by simpa using hk)]
      have e2 : rowGet (q :: M) v = rowGet M v := by unfold rowGet; rw [List.find?_cons_of_neg (by rw [← e]; simpa using hk)]
      rw [e1, e2]
      refine ih ?_
      rw [List.map_cons] at hv
      rcases List.mem_cons.mp hv with h | h
      · exact absurd (e.trans h.symm) hk
      · exact h
theorem totTo_succ {T : Tab} {M : CMap} {i : Nat} {r : List Int × List (Int × Int)} (h : T[i]? = some r) : totTo T M (i + 1) = totTo T M i + cost1 M r := by
  unfold totTo
  rw [List.take_succ, h]
  simp
theorem Paired.keysM {xs : List (List Int × Addr × Value)} {M : CMap} (h : Paired (fun x q => x.1 = q.1 ∧ ∃ t, x.2.2 = Value.int q.2 t) xs M) : xs.map (·.1) = M.map (·.1) := by
  induction h with
  | nil => rfl
  | cons a _ ih => rw [List.map_cons, List.map_cons, a.1, ih]
/-- a ledger with one entry ahead, and all of it -/
theorem reformA {h₀ h : Heap} {L a : Addr} {o : Obj} {R : Led} (N : News h₀ L h R) (x : (a, o) ∈ R) : ∃ R7, (∀ p ∈ R, p ∈ (a, o) :: R7) ∧ (∀ p ∈ (a, o) :: R7, p ∈ R) ∧ News h₀ L h ((a, o) :: R7) := by
  refine ⟨off a R, fun p hp => ?_, fun p hp => ?_, news_head N x⟩
  · by_cases e : p.1 = a
    · have : p.2 = o := news_fun N (a := a) (by rw [← e]; exact hp) x
      have e2 : p = (a, o) := Prod.ext e this
      rw [e2]
      exact List.mem_cons_self
    · exact List.mem_cons_of_mem _ (mem_off hp e)
  · rcases List.mem_cons.mp hp with rfl | hp
    · exact x
    · exact (of_off hp).1
theorem id_get_int {w : World} {A : Around} {E : Value → Shared → Prop} {s : Shared} {h₀ : Heap} {L : Addr} {R : Led} {d : Addr} {o : Obj} {kvs : List (Int × Value)} {k n : Int} {u t : Tok} {value slice : PySem.Expr} {Q : Value → Shared → Prop} (N : News h₀ L s.heap R) (hm : (d, o) ∈ R) (ho : o.IsDictOf (iK w) kvs) (hp : valueAt kvs k = some (.int n t))
    (h : ∀ tk', Q (.int n t) { s with toks := tk' }) (hs : subscripted slice false (.ref d) (.int k u) = operate [.ref d, .int k u] (getItem (.ref d) (.int k u)) := by with_unfolding_all rfl) :
    wpAny (model pg w) A (subscriptTail value slice (.ref d) (.int k u)) Q E s :=
  have hd : s.heap.DictOf (iK w) d kvs := Heap.dictOf_iff.mpr ⟨o, (N _ hm).1, ho⟩
  subscriptTail_builtin_flat hd.typeIs slot_dict_getitem.lookup (wpAny_getItem_of (knd := iK w) (intKind_is _ _ _ _) hd.mapOf hp ⟨(fun _ e => nomatch e), h _⟩) hs
theorem last2_idx : ∀ n : Nat, max 0 (min (-2 + (n : Int)) n) = max 0 (min ((n - 2 : Nat) : Int) n)
  | 0 => by decide
  | 1 => by decide
  | n + 2 => congrArg (fun x => max 0 (min x ((n + 2 : Nat) : Int))) (by
      show -2 + ((n : Int) + 2) = (n : Int)
      rw [Int.add_comm (n : Int) 2, ← Int.add_assoc]
      exact Int.zero_add _)
theorem pick_last2 {vs : List Value} {ns : List Int} (hi : IntsAre vs ns) : IntsAre (slicePick vs.toArray (some (-2)) none none).toList (ns.drop (ns.length - 2)) := by
  have e : slicePick vs.toArray (some (-2)) none none = slicePick vs.toArray (some (((vs.length - 2 : Nat)) : Int)) none none := by
    unfold slicePick
    have : sliceBounds (some (-2)) none none vs.toArray.size = sliceBounds (some (((vs.length - 2 : Nat)) : Int)) none none vs.toArray.size := by
      unfold sliceBounds
      simp only [List.size_toArray, Option.getD_none]
      congr 1
      rw [if_pos (by decide), if_pos (by decide)]
      rw [if_pos (by decide), if_neg (Int.not_lt.mpr (Int.natCast_nonneg _))]
      exact last2_idx _
    rw [this]
  rw [e]
  have h := slice_ints_fromW hi (x := ((vs.length - 2 : Nat) : Int)) (by omega)
  rw [← hi.length]
  simpa using h
theorem slice_last2 {w : World} {A : Around} {E : Value → Shared → Prop} {s : Shared} {h₀ : Heap} {L : Addr} {m : Str → Option Value} {R : Led} {l : Addr} {vs : List Value} {ns : List Int} {n : Nat} {t : Tok} {value slice : PySem.Expr} {ops : List Value} {Q : Value → Shared → Prop} (F : Fr h₀ L s.heap m) (N : News h₀ L s.heap R) (hm : (l, W.listOf vs.toArray n) ∈ R) (hi : IntsAre vs ns) (hz : vs.length ≤ sizeLine)
    (h : ∀ D h' us, Fr h₀ L h' m → News h₀ L h' ((D, W.listOf (List.toArray us) 0) :: R) → (∀ p ∈ R, p.1 < D) → IntsAre us (ns.drop (ns.length - 2)) → Q (.ref D) { s with heap := h' })
    (hs : subscripted slice false (.ref l) (.ref s.heap.objs.size) = operate ops (getItem (.ref l) (.ref s.heap.objs.size)) := by with_unfolding_all rfl) :
    wpAny (model pg w) A (subscriptTail value slice (.ref l) (.ref s.heap.objs.size)) Q E { s with heap := s.heap.push { cls := .type "slice", data := .fields #[.int (-2) t, .none, .none] } } := by
  have hl : s.heap.IsList l vs.toArray := ⟨_, (N _ hm).1, rfl, n, rfl⟩
  refine tail_any (Heap.IsList.typeIs (s := { s with heap := s.heap.push { cls := .type "slice", data := .fields #[.int (-2) t, .none, .none] } }) (hl.push _)) list_getitem_lookup
    (wpAny_getItem_list_slice (lo := some (-2)) (hi := none) (st := none) (hl.push _) (Heap.IsSliceOf.new ..) ?_ ?_ ?_ (by decide) ?_ (by simpa using hz)) hs
  · exact .int _ _
  · exact .none
  · exact .none
  have N1 := News.push (F.push { cls := .type "slice", data := .fields #[.int (-2) t, .none, .none] }) (N.grown fun _ _ e => Heap.get?_push_of_some _ e) { cls := .type "list", data := .seq (slicePick vs.toArray (some (-2)) none none) }
  have e : (slicePick vs.toArray (some (-2)) none none) = (slicePick vs.toArray (some (-2)) none none).toList.toArray := by simp
  rw [e] at N1 ⊢
  exact h _ _ _ ((F.push _).push _) N1 (fun p hp => by rw [Heap.size_push]; exact Nat.lt_succ_of_lt (Heap.lt_size (N p hp).1)) (pick_last2 hi)
end N240
end
-- KitK
section
open PySem PySem.W PyProof.Rows PySem.Spec PySem.Calls
set_option maxRecDepth 100000
namespace N240
theorem filter_le_one {α : Type} (f : α → Int) (a : Int) : ∀ {l : List α}, (l.map f).Nodup → (l.filter fun e => f e == a).length ≤ 1
  | [], _ => by simp
  | x :: r, h => by
    rw [List.map_cons, List.nodup_cons] at h
    by_cases e : f x = a
    · rw [List.filter_cons_of_pos (by simpa using e)]
      have : (r.filter fun e => f e == a) = [] := by
        rw [List.filter_eq_nil_iff]
        intro y hy hya
        exact h.1 (List.mem_map.mpr ⟨y, hy, by rw [e]; simpa using hya⟩)
      rw [this]
      exact Nat.le_refl _
    · rw [List.filter_cons_of_neg (by simpa using e)]
      exact filter_le_one f a h.2
def sixKeys : List (List Int) := [[0, 0], [0, 1], [0, 2], [1, 0], [1, 1], [1, 2]]
def hashK (k : List Int) : Int := reduceHash (Builtin.Tuple.tupleHashOf (k.map hashInt))
theorem hash_six : ∀ a ∈ sixKeys, ∀ b ∈ sixKeys, hashK a = hashK b → a = b := by decide +kernel
theorem hash_nodup {w : World} : ∀ {xs : List (List Int × Addr × Value)}, (∀ x ∈ xs, x.1 ∈ sixKeys) → (xs.map (·.1)).Nodup → (xs.map fun x => (tK w).hash x.1).Nodup
  | [], _, _ => List.nodup_nil
  | x :: r, h6, hn => by
    rw [List.map_cons, List.nodup_cons] at hn ⊢
    refine ⟨fun hm => hn.1 ?_, hash_nodup (fun y hy => h6 y (List.mem_cons_of_mem _ hy)) hn.2⟩
    have hHi1 := List.mem_map.mp hm
    first | (have y := (And.left hHi1); have hy := (And.left (And.right hHi1)); have e := (And.right (And.right hHi1)); try clear hHi1) | (refine hideE fun GG hGG => ?_; obtain ⟨y, hy, e⟩ := hHi1; refine hGG ?_; clear hGG GG)
    have e2 : y.1 = x.1 := hash_six _ (h6 y (List.mem_cons_of_mem _ hy)) _ (h6 x List.mem_cons_self) e
    exact List.mem_map.mpr ⟨y, hy, e2⟩
section
variable {w : World} {A : Around} {E : Value → Shared → Prop} {s : Shared} {h₀ : Heap} {L : Addr} {m : Str → Option Value} {R : Led}
theorem quietEq_tuple {t : Addr} {k : List Int} {Q : Bool → Shared → Prop} (hk : (tK w).is s.heap k t) (h : Q false s) : wpAny (model pg w) A (Builtin.Dict.quietEq (.ref t)) Q E s := by
  first | (have o := (And.left hk); have its := (And.left (And.right hk)); have n := (And.left (And.right (And.right hk))); have ho := (And.left (And.right (And.right (And.right hk)))); have hc := (And.left (And.right (And.right (And.right (And.right hk))))); have hd := (And.left (And.right (And.right (And.right (And.right (And.right hk)))))); have hU1 := (And.right (And.right (And.right (And.right (And.right (And.right hk)))))); try clear hk) | (refine hideE fun GG hGG => ?_; obtain ⟨o, its, n, ho, hc, hd, _⟩ := hk; refine hGG ?_; clear hGG GG)
  unfold Builtin.Dict.quietEq
  have hT : s.TypeIs (.ref t) "tuple" := ⟨o, ho, hc⟩
  have hl : typeLookup (.type "tuple") "__eq__" = pure (some (.builtin "tuple.__eq__")) := by rw [typeLookup_type, builtinLookup_eq_fast]; kernel_rfl
  refine wpAny_bind (wpAny_specialOf hT hl ?_)
  exact wpAny_pure h
/-- the entries that are copied into an empty dict -/
theorem entries_copy {nm : String} {d : Addr} {xs : List (List Int × Addr × Value)} {Q : Array DictEntry → Shared → Prop} (hd : s.heap.DictOfH (tK w) d xs) (h6 : ∀ x ∈ xs, x.1 ∈ sixKeys) (h : Q (xs.map (entryOfKey (tK w))).toArray s) : wpAny (model pg w) A (Builtin.Dict.entriesForEmpty nm d) Q E s := by
  first | (have o := (And.left hd); have es := (And.left (And.right hd)); have ep := (And.left (And.right (And.right hd))); have ho := (And.left (And.right (And.right (And.right hd)))); have hU2 := (And.left (And.right (And.right (And.right (And.right hd))))); have hdat := (And.left (And.right (And.right (And.right (And.right (And.right hd)))))); have he := (And.left (And.right (And.right (And.right (And.right (And.right (And.right hd))))))); have his := (And.left (And.right (And.right (And.right (And.right (And.right (And.right (And.right hd)))))))); have hn := (And.right (And.right (And.right (And.right (And.right (And.right (And.right (And.right hd)))))))); try clear hd) | (refine hideE fun GG hGG => ?_; obtain ⟨o, es, ep, ho, _, hdat, he, his, hn⟩ := hd; refine hGG ?_; clear hGG GG)
  have hes : es = (xs.map (entryOfKey (tK w))).toArray := by rw [← he]
  unfold Builtin.Dict.entriesForEmpty
  refine wpAny_bind (wpAny_dictEntries ho hdat ?_)
  refine wpAny_bind ?_
  rw [← Array.forIn_toList, he]
  refine wpAny_forIn_list _ (fun rest _ s' => s' = s ∧ ∀ e ∈ rest, e ∈ xs.map (entryOfKey (tK w))) _ ?_ ?_ _ _ ⟨rfl, fun e he => he⟩
  · intro e rest b s' hHi4
    first | (have hE3 := (And.left hHi4); subst hE3; have hr := (And.right hHi4); try clear hHi4) | (obtain ⟨rfl, hr⟩ := hHi4)
    have hHi5 := List.mem_map.mp (hr e List.mem_cons_self)
    first | (have hE4 := (And.right (And.right hHi5)); subst hE4; have x := (And.left hHi5); have hx := (And.left (And.right hHi5)); try clear hHi5) | (refine hideE fun GG hGG => ?_; obtain ⟨x, hx, rfl⟩ := hHi5; refine hGG ?_; clear hGG GG)
    refine wpAny_bind (quietEq_tuple (k := x.1) (his x hx) ?_)
    have hf : ¬ (es.filter fun y => y.hash == (entryOfKey (tK w) x).hash).size > 1 := by
      have h1 := filter_le_one (fun y : DictEntry => y.hash) (entryOfKey (tK w) x).hash (l := xs.map (entryOfKey (tK w))) (by rw [List.map_map]; exact hash_nodup h6 hn)
      rw [← Array.length_toList, Array.toList_filter, he]
      omega
    rw [if_pos (show (!false) = true from rfl), if_neg hf]
    exact wpAny_pure ⟨rfl, fun e he => hr e (List.mem_cons_of_mem _ he)⟩
  · intro b s' hHi6
    first | (have hE5 := (And.left hHi6); subst hE5; have hU6 := (And.right hHi6); try clear hHi6) | (obtain ⟨rfl, _⟩ := hHi6)
    rw [hes]
    exact wpAny_pure h
theorem keyPart_ref {xs : List (List Int × Addr × Value)} (h : xs ≠ []) : ((xs.map (entryOfKey (tK w))).toArray.all fun e => (keyPart e.key).isSome) = false := by
  cases xs with
  | nil => exact absurd rfl h
  | cons x r => simp [entryOfKey, keyPart]
/-- what dict.update does with a dict of tuples into an empty dict -/
theorem merge_tuples {nm : String} {d o : Addr} {xs : List (List Int × Addr × Value)} {Q : Unit → Shared → Prop} (hdo : d ≠ o) (hoS : (o == sysModules) = false) (hd : s.heap.get? d = some { cls := .type "dict", data := .dict #[] }) (ho : s.heap.DictOfH (tK w) o xs) (h6 : ∀ x ∈ xs, x.1 ∈ sixKeys) (hz : xs.length ≤ sizeLine)
    (hQ : ∀ h' ep', h'.get? d = some (W.dictOf (xs.map (entryOfKey (tK w))) ep') → Heap.SameBut d s.heap h' → Q () { s with heap := h' }) :
    wpAny (model pg w) A (Builtin.Dict.mergeDict nm d o) Q E s := by
  have hHi7 := id ho
  first | (have oo := (And.left hHi7); have es := (And.left (And.right hHi7)); have ep := (And.left (And.right (And.right hHi7))); have hoo := (And.left (And.right (And.right (And.right hHi7)))); have hc := (And.left (And.right (And.right (And.right (And.right hHi7))))); have hdat := (And.left (And.right (And.right (And.right (And.right (And.right hHi7)))))); have he := (And.left (And.right (And.right (And.right (And.right (And.right (And.right hHi7))))))); have his := (And.left (And.right (And.right (And.right (And.right (And.right (And.right (And.right hHi7)))))))); have hn := (And.right (And.right (And.right (And.right (And.right (And.right (And.right (And.right hHi7)))))))); try clear hHi7) | (refine hideE fun GG hGG => ?_; obtain ⟨oo, es, ep, hoo, hc, hdat, he, his, hn⟩ := hHi7; refine hGG ?_; clear hGG GG)
  have hes : es = (xs.map (entryOfKey (tK w))).toArray := by rw [← he]
  unfold Builtin.Dict.mergeDict
  rw [if_neg (by simpa using hdo)]
  unfold Builtin.Dict.showsAll
  rw [if_neg (by rw [hoS]; exact Bool.false_ne_true)]
  refine wpAny_bind (wpAny_pure ?_)
  refine wpAny_bind (wpAny_dictEntries hoo hdat ?_)
  dsimp only
  by_cases hx : xs = []
  · subst hx
    have hes0 : es = #[] := by rw [hes]; rfl
    subst hes0
    rw [if_neg (by simp)]
    refine wpAny_bind (wpAny_dictEpoch hoo hdat ?_)
    refine wpAny_bind (wpAny_dictEntries hoo hdat ?_)
    refine wpAny_bind ?_
    rw [Std.Legacy.Range.forIn_eq_forIn_range']
    simp only [Std.Legacy.Range.size, Nat.sub_zero, Nat.add_sub_cancel, Nat.div_one]
    show wpAny _ _ (forIn (List.range' 0 0) PUnit.unit _) _ _ _
    rw [List.range'_zero, List.forIn_nil]
    refine wpAny_pure (wpAny_pure (hQ s.heap 0 hd (Heap.SameBut.refl _ _)))
  · have hk := keyPart_ref (w := w) hx
    rw [← hes] at hk
    rw [hk, Bool.and_false]
    rw [if_pos (show (!false) = true from rfl)]
    refine wpAny_bind (wpAny_dictEntries hd rfl ?_)
    rw [if_pos (show (#[] : Array DictEntry).isEmpty = true from rfl)]
    refine wpAny_bind (entries_copy ho h6 ?_)
    rw [if_pos (by cases xs with | nil => exact absurd rfl hx | cons x r => rfl)]
    refine wpAny_bind (wpAny_updateDictKeysTo hd rfl (wpAny_pure (hQ _ 1 ?_ (Heap.SameBut.update ..))) (by simp; omega))
    exact Heap.get?_update_self _ hd rfl
theorem td_copy {src : Addr} {o : Obj} {xs : List (List Int × Addr × Value)} {Q : Value → Shared → Prop} (FF : Fr h₀ L s.heap m) (N : News h₀ L s.heap R) (hbig : sysModules < h₀.objs.size) (hoS : (src == sysModules) = false) (hm : (src, o) ∈ R) (ho : TObj w o xs) (hks : KeysIn w R xs) (h6 : ∀ x ∈ xs, x.1 ∈ sixKeys) (hz : xs.length ≤ sizeLine)
    (h : ∀ d h' o', Fr h₀ L h' m → News h₀ L h' ((d, o') :: R) → (∀ p ∈ R, p.1 < d) → (d == sysModules) = false → TObj w o' xs → Q (.ref d) { s with heap := h' }) : wpAny (model pg w) A (call (.type "dict") [.ref src]) Q E s := by
  refine callType_codes (Q₁ := fun obj s₁ => obj = .ref s.heap.objs.size ∧ s₁ = { s with heap := s.heap.push { cls := .type "dict", data := .dict #[] } }) F.kt_called_dict (F.kt_typeCall_dict_1 _) F.entry_dict_init (kt_code_dict_new _ ⟨rfl, rfl⟩) ?_
  intro obj s₁ hHi8
  first | (have hE7 := (And.left hHi8); subst hE7; have hE8 := (And.right hHi8); subst hE8; try clear hHi8) | (obtain ⟨rfl, rfl⟩ := hHi8)
  have hnew : (s.heap.push { cls := .type "dict", data := .dict #[] }).get? s.heap.objs.size = some { cls := .type "dict", data := .dict #[] } := Heap.get?_push_size _ rfl
  have hT : ({ s with heap := s.heap.push { cls := .type "dict", data := .dict #[] } } : Shared).TypeIs (.ref s.heap.objs.size) "dict" := ⟨_, hnew, rfl⟩
  have N0 : News h₀ L (s.heap.push { cls := .type "dict", data := .dict #[] }) R := fun p hp => ⟨Heap.get?_push_of_some _ (N p hp).1, (N p hp).2⟩
  have ho' : (s.heap.push { cls := .type "dict", data := .dict #[] }).DictOfH (tK w) src xs := ho.at N0 hm hks
  have hdo : s.heap.objs.size ≠ src := fun e => absurd (Heap.lt_size (N _ hm).1) (by rw [← e]; exact Nat.lt_irrefl _)
  refine ⟨hT, F.args_dict_init_2 _ _, ?_⟩
  unfold Builtin.«dict.__init__»
  refine wpAny_bind ?_
  unfold Builtin.Dict.selfAndRest
  refine wpAny_bind (wpAny_notOrdered_dict hT ?_)
  show wpAny _ _ (pure (s.heap.objs.size, [Value.ref src])) _ _ _
  refine wpAny_pure ?_
  show wpAny _ _ (Builtin.Dict.updateFrom "dict.__init__" s.heap.objs.size (.ref src) [] .none) _ _ _
  unfold Builtin.Dict.updateFrom
  have hTs : ({ s with heap := s.heap.push { cls := .type "dict", data := .dict #[] } } : Shared).TypeIs (.ref src) "dict" := ho'.typeIs
  refine wpAny_bind (wpAny_typeOf hTs ?_)
  rw [if_neg (by decide)]
  refine wpAny_bind ?_
  unfold Builtin.Dict.merge
  refine wpAny_bind ?_
  unfold Builtin.Dict.readDirectly
  refine wpAny_bind (wpAny_isInstance hTs isSubtype_dict_dict ?_)
  simp only [Bool.not_true, Bool.false_eq_true, if_false]
  refine wpAny_bind (wpAny_specialOf hTs F.slot_dict_iter.lookup (wpAny_pure ?_))
  simp only [beq_self_eq_true, if_true]
  refine wpAny_bind (wpAny_pure ?_)
  refine merge_tuples (s := { s with heap := s.heap.push { cls := .type "dict", data := .dict #[] } }) hdo hoS hnew ho' h6 hz fun h' ep' hd' hs' => ?_
  show wpAny _ _ (Builtin.Dict.addKeywords s.heap.objs.size [] >>= _) _ _ _
  refine wpAny_bind (wpAny_pure (wpAny_pure ⟨rfl, ?_⟩))
  have old : ∀ b o, s.heap.get? b = some o → h'.get? b = some o := fun b o e => (hs'.2 b (Nat.ne_of_lt (Heap.lt_size e))).trans (Heap.get?_push_of_some _ e)
  have hHi9 := id ho
  first | (have hU9 := (And.left hHi9); have hU10 := (And.left (And.right hHi9)); have hU11 := (And.left (And.right (And.right hHi9))); have hU12 := (And.left (And.right (And.right (And.right hHi9)))); have hU13 := (And.left (And.right (And.right (And.right (And.right hHi9))))); have hnd := (And.right (And.right (And.right (And.right (And.right hHi9))))); try clear hHi9) | (refine hideE fun GG hGG => ?_; obtain ⟨_, _, _, _, _, hnd⟩ := hHi9; refine hGG ?_; clear hGG GG)
  refine h s.heap.objs.size h' _ (FF.kept old) (N.kept_cons FF old (Nat.le_refl _) hd') (fun p hp => Heap.lt_size (N p hp).1) (FF.notModules hbig) ⟨⟨rfl, rfl, rfl⟩, _, ep', rfl, rfl, hnd⟩
end
end N240
end
-- KitL
section
open PySem PySem.W PyProof.Rows PySem.Spec PySem.Calls
namespace N240
/-- a reference to a conditioning of the ledger -/
inductive DictV (w : World) (B : Addr) (R : Led) (v : Value) (M : CMap) : Prop
  | mk (d : Addr) (o : Obj) (e : v = .ref d) (lb : B < d) (lo : (d == sysModules) = false) (a : (d, o) ∈ R) (b : MapO w R o M) : DictV w B R v M
theorem MapO.cls {w : World} {R : Led} {o : Obj} {M : CMap} (h : MapO w R o M) : o.cls = .type "dict" := h.elim fun _ h => h.1.cls
theorem DictV.mono {w : World} {B : Addr} {R R' : Led} {v : Value} {M : CMap} (h : DictV w B R v M) (hs : ∀ p ∈ R, p.2.cls = .type "dict" ∨ p.2.cls = .type "tuple" → p ∈ R') : DictV w B R' v M := by
  cases h with | mk d o e lb lo a b => exact .mk d o e lb lo (hs _ a (.inl b.cls)) (b.mono fun p hp hc => hs p hp (.inr hc))
/-- a list of conditionings -/
def DictsAt (w : World) (B : Addr) (R : Led) (a : Addr) (Ms : List CMap) : Prop := ∃ vs n, (a, W.listOf vs.toArray n) ∈ R ∧ Paired (DictV w B R) vs Ms ∧ vs.Nodup
theorem DictsAt.mono {w : World} {B : Addr} {R R' : Led} {a : Addr} {Ms : List CMap} (h : DictsAt w B R a Ms) (hs : ∀ p ∈ R, p.1 = a ∨ p.2.cls = .type "dict" ∨ p.2.cls = .type "tuple" → p ∈ R') : DictsAt w B R' a Ms := by
  obtain ⟨vs, n, a1, b, c⟩ := h
  exact ⟨vs, n, hs _ a1 (.inl rfl), b.mono fun _ _ k => k.mono fun p hp hc => hs p hp (.inr hc), c⟩
theorem DictV.upd {w : World} {B : Addr} {R R' : Led} {v : Value} {M : CMap} (h : DictV w B R v M) (hs : ∀ p ∈ R, p.1 ≠ B → p ∈ R') (ht : ∀ p ∈ R, p.2.cls = .type "tuple" → p.1 ≠ B) : DictV w B R' v M := by
  cases h with | mk d o e lb lo a b => exact .mk d o e lb lo (hs _ a (Nat.ne_of_gt lb)) (b.mono fun p hp hc => hs p hp (ht p hp hc))
theorem DictsAt.upd {w : World} {bo a : Addr} {R R' : Led} {Ms : List CMap} (h : DictsAt w bo R a Ms) (hs : ∀ p ∈ R, p.1 ≠ bo → p ∈ R') (ha : a ≠ bo) (ht : ∀ p ∈ R, p.2.cls = .type "tuple" → p.1 ≠ bo) : DictsAt w bo R' a Ms := by
  obtain ⟨vs, n, y, b, c⟩ := h
  exact ⟨vs, n, hs _ y ha, b.mono fun _ _ k => k.upd hs ht, c⟩
/-- what stands between two questions: the static part, the dicts told and their copies -/
def AskW (w : World) (K : Led) (B row cop : Addr) (R : Led) (Ms : List CMap) : Prop := (∀ p ∈ K, p ∈ R) ∧ DictsAt w B R row Ms ∧ DictsAt w B R cop Ms
/-- a question: the answer is the size; what stood but for the two lists stands -/
def AskOk (w : World) (p : Program) (loose : List Str) (mean : ExcName → Option Value) (mg mb : Str → Option Value) (K : Led) (row cop : Addr) (f : Addr) (T : Tab) (toll : Int) : Prop :=
  ∀ (B : Addr) (R : Led) (Ms : List CMap) (d : Addr) (o : Obj) (M : CMap), AskW w K B row cop R Ms → B < d → Ms.length ≤ 1000 → (d == sysModules) = false → (d, o) ∈ R → MapO w R o M → GoodMap T M → (∀ q ∈ M, q.1 ∈ sixKeys) →
    (∀ vs n, (row, W.listOf vs n) ∈ R → Value.ref d ∉ vs.toList) →
    FnOk w p loose mean mg mb 6 60 (.ref f) [.ref d] R (fun v R' => (∃ t, v = .int (lsize T toll M) t) ∧ AskW w K B row cop R' (Ms ++ [M]) ∧ (∀ q ∈ R, q.1 ≠ row → q.1 ≠ cop → q ∈ R') ∧ ∃ vs n, (row, W.listOf vs n) ∈ R' ∧ vs.toList.getLast? = some (.ref d))
end N240
end
-- Take
section
open PySem PySem.W PyProof.Rows PySem.Spec PySem.Calls
namespace N240
variable {w : World} {p : Program} {loose : List Str} {mean : ExcName → Option Value} {mg mb : Str → Option Value}
/-- what a draw leaves -/
inductive TakeP (top : Int) (n : Nat) (g : Obj → Led) (v : Value) (news' : Led) : Prop
  | mk (d' m' : Int) (td' tm' tv : Tok) (r : Int) (a1 : 0 ≤ d') (a2 : 0 ≤ m') (a3 : m' < 2147483647) (a4 : 0 ≤ r) (a5 : r < top) (a6 : v = .int r tv) (a7 : news' = g (W.listOf #[.int d' td', .int m' tm'] n)) : TakeP top n g v news'
theorem take_mul {dg y : Int} : IntMulOk ([dg, y.fmod 2147483647].getD (Int.toNat 1) 0) ([dg, y.fmod 2147483647].getD (Int.toNat 1) 0) := by
  have e : [dg, y.fmod 2147483647].getD (Int.toNat 1) 0 = y.fmod 2147483647 := rfl
  rw [e]
  exact IntMulOk.of_left (PySem.intBits_le_64 (by have := fmod_lo y (n := 2147483647) (by decide); omega) (by have := fmod_hi y (n := 2147483647) (by decide); omega))
section
local macro_rules | `(tactic| mul_fits) => `(tactic| exact take_mul)
set_option maxRecDepth 100000 in
set_option maxHeartbeats 8000000 in
theorem take_ok {src : Addr} {dg mx top : Int} {td tm tt : Tok} {n : Nat} {rest : Led} (hd0 : 0 ≤ dg) (hm0 : 0 ≤ mx) (hm1 : mx < 2147483647) (ht : 2 ≤ top) (ht5 : top ≤ 5) (ho : ∀ q ∈ rest, q.1 ≠ src) :
    FnOk w p loose mean mg mb 1 8 (.ref 103) [.ref src, .int top tt] ((src, W.listOf #[.int dg td, .int mx tm] n) :: rest)
      (TakeP top n fun o => (src, o) :: rest) := by
  unfold FnOk
  intro dp un gd cn cs a ccd cl outer A₀ base h₀ L m s Q E B F X N T hk hd hu hret
  w_top off
  have hFill : PySem.Challenge.rw_nz0240_01 = PySem.Challenge.rw_nz0240_01 ∧ N240.hd.heap_39 = N240.hd.heap_39 → True := fun _ => trivial
  (first | (revert hFill; k_fill; intro hFill; clear hFill))
  refine wpAny_call ?_
  k_dflt (refine' code_def ?k1 ?k2 ?k3 ?k4 ?k5 ?kA ?kF ?kK ?k6 ?k7 ?k8 ?k9 ?kB ?_ ?c2 ?c3 ?c4 ?c5; (case kA => exact rfl); (case kF => exact rfl); (case kK => assumption); (case k1 => k_asm); (case k2 => k_asm); (case k3 => k_asm); (case k4 => k_asm); (case k5 => k_asm); (case k6 => k_is); (case k7 => k_is); (case k8 => ktr_room); (case k9 => exact BindsTo.of_eq rfl); (case c5 => decide); (case kB => exact locs rfl); (case c2 => exact rfl); (case c3 => exact rfl); (case c4 => exact rfl); k_whole)
  intro g' L' h' FG' F' N' B' X' T'
  (try dsimp only)
  ((try show wpAny _ _ _ _ _ _); (try k_fold))
  replace F' : Fr g' L' h' (fun y => List.lookup y [(Str.ofString "top", Value.int top tt), (Str.ofString "source", Value.ref src)]) := F'
  k_steps
  · have e1 : [dg, mx].getD (Int.toNat 0) 0 = dg := rfl
    simp only [e1] at *
    refine' hret _ _ _ _ ?_ ?_ ⟨_, _, _, _, _, _, ?_, hm0, hm1, ?_, ?_, rfl, rfl⟩
    · k_asm
    · k_asm
    · exact Int.fdiv_nonneg hd0 (by omega)
    · exact fmod_lo _ (by omega)
    · exact fmod_hi _ (by omega)
  · have e1 : [dg, mx].getD (Int.toNat 1) 0 = mx := rfl
    refine' hret _ _ _ _ ?_ ?_ ⟨_, _, _, _, _, _, hd0, ?_, ?_, ?_, ?_, rfl, rfl⟩
    · k_asm
    · k_asm
    · exact fmod_lo _ (by decide)
    · exact fmod_hi _ (by decide)
    · exact fmod_lo _ (by omega)
    · exact fmod_hi _ (by omega)
end
theorem take_okU {src : Addr} {dg mx top : Int} {td tm tt : Tok} {n : Nat} {R : Led} {g : Obj → Led} (U : UpdF src (W.listOf #[.int dg td, .int mx tm] n) R g) (hd0 : 0 ≤ dg) (hm0 : 0 ≤ mx) (hm1 : mx < 2147483647) (ht : 2 ≤ top) (ht5 : top ≤ 5) :
    FnOk w p loose mean mg mb 1 8 (.ref 103) [.ref src, .int top tt] R
      (TakeP top n g) := by
  have hHi1 := updF_split U
  first | (have pre := (And.left hHi1); have post := (And.left (And.right hHi1)); have e1 := (And.left (And.right (And.right hHi1))); have e2 := (And.left (And.right (And.right (And.right hHi1)))); have h3 := (And.right (And.right (And.right (And.right hHi1)))); try clear hHi1) | (refine hideE fun GG hGG => ?_; obtain ⟨pre, post, e1, e2, h3⟩ := hHi1; refine hGG ?_; clear hGG GG)
  refine (take_ok (td := td) (tm := tm) (n := n) (rest := pre ++ post) hd0 hm0 hm1 ht ht5 h3).re (fun q hq => ?_) ?_
  · rw [e1]
    simp only [List.mem_cons, List.mem_append] at hq ⊢
    rcases hq with h | h | h
    · exact .inr (.inl h)
    · exact .inl h
    · exact .inr (.inr h)
  · intro v n' hHi2
    first | (have hE1 := (And.right (And.right (And.right (And.right (And.right (And.right (And.right (And.right (And.right (And.right (And.right (And.right hHi2)))))))))))); subst hE1; have d' := (And.left hHi2); have m' := (And.left (And.right hHi2)); have td' := (And.left (And.right (And.right hHi2))); have tm' := (And.left (And.right (And.right (And.right hHi2)))); have tv := (And.left (And.right (And.right (And.right (And.right hHi2))))); have r := (And.left (And.right (And.right (And.right (And.right (And.right hHi2)))))); have a1 := (And.left (And.right (And.right (And.right (And.right (And.right (And.right hHi2))))))); have a2 := (And.left (And.right (And.right (And.right (And.right (And.right (And.right (And.right hHi2)))))))); have a3 := (And.left (And.right (And.right (And.right (And.right (And.right (And.right (And.right (And.right hHi2))))))))); have a4 := (And.left (And.right (And.right (And.right (And.right (And.right (And.right (And.right (And.right (And.right hHi2)))))))))); have a5 := (And.left (And.right (And.right (And.right (And.right (And.right (And.right (And.right (And.right (And.right (And.right hHi2))))))))))); have a6 := (And.left (And.right (And.right (And.right (And.right (And.right (And.right (And.right (And.right (And.right (And.right (And.right hHi2)))))))))))); try clear hHi2) | (refine hideE fun GG hGG => ?_; obtain ⟨d', m', td', tm', tv, r, a1, a2, a3, a4, a5, a6, rfl⟩ := hHi2; refine hGG ?_; clear hGG GG)
    refine ⟨pre ++ (src, W.listOf #[.int d' td', .int m' tm'] n) :: post, ?_, d', m', td', tm', tv, r, a1, a2, a3, a4, a5, a6, (e2 _).symm⟩
    intro q hq
    simp only [List.mem_cons, List.mem_append] at hq ⊢
    rcases hq with h | h | h
    · exact .inr (.inl h)
    · exact .inl h
    · exact .inr (.inr h)
end N240
end
-- Scan
section
open PySem PySem.W PyProof.Rows PySem.Spec PySem.Calls
namespace N240
variable {w : World} {p : Program} {loose : List Str} {mean : ExcName → Option Value} {mg mb : Str → Option Value}
def MenuP (a b c : Int) : Prop := (a, b, c) = (0, 8, 0) ∨ (a, b, c) = (0, 0, 0) ∨ (a, b, c) = (1, 8, 0) ∨ (a, b, c) = (1, 8, 1)
abbrev tup3 (a b c : Int) (ta tb tc : Tok) (n : Nat) : Obj := { cls := .type "tuple", data := .seq #[.int a ta, .int b tb, .int c tc] n }
theorem menu5 {prog : Program} {A : Around} {E : Value → Shared → Prop} {s : Shared} {h₀ : Heap} {L src l t0 t1 t2 t3 t4 : Addr} {k : Int} {u : Tok} {n n0 n1 n2 n3 n4 : Nat} {R : Led} {value slice : PySem.Expr} {Q : Value → Shared → Prop} {a0 a1 a2 a3 a4 b0 b1 b2 b3 b4 c0 c1 c2 c3 c4 : Tok}
    (N : News h₀ L s.heap ((l, W.listOf #[.ref t0, .ref t1, .ref t2, .ref t3, .ref t4] n) :: (t4, tup3 1 8 1 a4 b4 c4 n4) :: (t3, tup3 0 8 0 a3 b3 c3 n3) :: (t2, tup3 1 8 0 a2 b2 c2 n2) :: (t1, tup3 0 0 0 a1 b1 c1 n1) :: (t0, tup3 0 8 0 a0 b0 c0 n0) :: R))
    (h0 : 0 ≤ k) (h5 : k < 5) (l0 : @LT.lt Nat _ src t0) (l1 : @LT.lt Nat _ src t1) (l2 : @LT.lt Nat _ src t2) (l3 : @LT.lt Nat _ src t3) (l4 : @LT.lt Nat _ src t4)
    (hs : subscripted slice false (.ref l) (.int k u) = operate [.ref l, .int k u] (getItem (.ref l) (.int k u)))
    (h : ∀ t a b c ta tb tc m, News h₀ L s.heap ((t, tup3 a b c ta tb tc m) :: R) → @LT.lt Nat _ src t → MenuP a b c → Q (.ref t) s) :
    wpAny (model prog w) A (subscriptTail value slice (.ref l) (.int k u)) Q E s := by
  have hl : s.heap.IsList l #[.ref t0, .ref t1, .ref t2, .ref t3, .ref t4] := ⟨_, (N _ (List.mem_cons.mpr (.inl rfl))).1, rfl, n, rfl⟩
  have key : ∀ (i : Nat) t a b c ta tb tc m, k = i → (t, tup3 a b c ta tb tc m) ∈ ((l, W.listOf #[.ref t0, .ref t1, .ref t2, .ref t3, .ref t4] n) :: (t4, tup3 1 8 1 a4 b4 c4 n4) :: (t3, tup3 0 8 0 a3 b3 c3 n3) :: (t2, tup3 1 8 0 a2 b2 c2 n2) :: (t1, tup3 0 0 0 a1 b1 c1 n1) :: (t0, tup3 0 8 0 a0 b0 c0 n0) :: R) →
      @LT.lt Nat _ src t → MenuP a b c → (#[Value.ref t0, .ref t1, .ref t2, .ref t3, .ref t4] : Array Value)[i]? = some (.ref t) → wpAny (model prog w) A (subscriptTail value slice (.ref l) (.int k u)) Q E s := by
    intro i t a b c ta tb tc m hi hm hlt hp hx
    subst hi
    refine tail_any hl.typeIs slot_list_getitem.lookup (wpAny_getItem_list hl h0 (by omega) (by simpa using hx) (h t a b c ta tb tc m (fun q hq => ?_) hlt hp)) hs
    rcases List.mem_cons.mp hq with rfl | hq
    · exact N _ hm
    · exact N q (by simp [hq])
  have hc := int5 h0 h5
  rcases hc with e | e | e | e | e
  · exact key 0 t0 _ _ _ a0 b0 c0 n0 e (by simp) l0 (.inl rfl) rfl
  · exact key 1 t1 _ _ _ a1 b1 c1 n1 e (by simp) l1 (.inr (.inl rfl)) rfl
  · exact key 2 t2 _ _ _ a2 b2 c2 n2 e (by simp) l2 (.inr (.inr (.inl rfl))) rfl
  · exact key 3 t3 _ _ _ a3 b3 c3 n3 e (by simp) l3 (.inl rfl) rfl
  · exact key 4 t4 _ _ _ a4 b4 c4 n4 e (by simp) l4 (.inr (.inr (.inr rfl))) rfl
/-- a Scan as the ledger bears it -/
inductive ScanAt (w : World) (R : Led) (x : Addr) (dc ac : List Int) (st en hi : Int) : Prop
  | mk (dx D D1 D2 : Addr) (ys1 ys2 : List Value) (n1 n2 nn : Nat) (t1 t2 t3 t4 t5 t6 t7 u1 u2 u3 u4 : Tok) (a1 : (x, instObj 85 dx) ∈ R)
    (a2 : (dx, W.dictOf [⟨PyData.keyHash w.params (Str.ofString "places"), .str (Str.ofString "places") t1, .ref D⟩, ⟨PyData.keyHash w.params (Str.ofString "dc_slots"), .str (Str.ofString "dc_slots") t2, .ref D1⟩,
      ⟨PyData.keyHash w.params (Str.ofString "ac_slots"), .str (Str.ofString "ac_slots") t3, .ref D2⟩, ⟨PyData.keyHash w.params (Str.ofString "start"), .str (Str.ofString "start") t4, .int st u1⟩,
      ⟨PyData.keyHash w.params (Str.ofString "end"), .str (Str.ofString "end") t5, .int en u2⟩, ⟨PyData.keyHash w.params (Str.ofString "high"), .str (Str.ofString "high") t6, .int hi u3⟩,
      ⟨PyData.keyHash w.params (Str.ofString "low"), .str (Str.ofString "low") t7, .int 0 u4⟩] nn) ∈ R)
    (a3 : (D1, W.listOf ys1.toArray n1) ∈ R) (a4 : IntsAre ys1 dc) (a5 : (D2, W.listOf ys2.toArray n2) ∈ R) (a6 : IntsAre ys2 ac) : ScanAt w R x dc ac st en hi
/-- what a drawn scan is -/
def ScanOk (dc ac : List Int) (st en hi : Int) : Prop := MenuP st en hi ∧ 1 ≤ dc.length ∧ dc.length ≤ 3 ∧ ac.length ≤ 3 ∧ (∀ x ∈ dc, 0 ≤ x ∧ x < 3) ∧ ∀ x ∈ ac, 0 ≤ x ∧ x < 3
/-- the draw's source in the ledger's head -/
inductive ScanP (w : World) (src : Addr) (rest : Led) (v : Value) (news' : Led) : Prop
  | mk (dg mx : Int) (td tm : Tok) (n : Nat) (R' : Led) (a1 : 0 ≤ dg) (a2 : 0 ≤ mx) (a3 : mx < 2147483647) (e : news' = (src, W.listOf #[.int dg td, .int mx tm] n) :: R') (k : ∀ p ∈ rest, p ∈ R') (o : ∀ q ∈ R', q.1 ≠ src)
      (x : Addr) (dc ac : List Int) (st en hi : Int) (ev : v = Value.ref x) (hA : ScanAt w R' x dc ac st en hi) (hO : ScanOk dc ac st en hi) : ScanP w src rest v news'
theorem scan_fin {h₀ h : Heap} {L : Addr} {m : Str → Option Value} {s : Shared} {Q : Value → Shared → Prop} {src x dx D t D1 D2 : Addr} {c : Addr × Obj} {o1 o2 : Obj} {rest : Led} {dg mx st en hi : Int} {td tm : Tok} {n nD1 nD2 nn tk : Nat} {ys1 ys2 : List Value} {dc ac : List Int}
    {t1 t2 t3 t4 t5 t6 t7 u1 u2 u3 u4 : Tok}
    (hret : ∀ (v : Value) (news' : Led) (h' : Heap) (tk' : Nat), Fr h₀ L h' m → News h₀ L h' news' → ScanP w src rest v news' → Q v { s with heap := h', toks := tk' })
    (F : Fr h₀ L h m)
    (N : News h₀ L h ((x, instObj 85 dx) :: (dx, W.dictOf [⟨PyData.keyHash w.params (Str.ofString "places"), .str (Str.ofString "places") t1, .ref D⟩, ⟨PyData.keyHash w.params (Str.ofString "dc_slots"), .str (Str.ofString "dc_slots") t2, .ref D1⟩,
      ⟨PyData.keyHash w.params (Str.ofString "ac_slots"), .str (Str.ofString "ac_slots") t3, .ref D2⟩, ⟨PyData.keyHash w.params (Str.ofString "start"), .str (Str.ofString "start") t4, .int st u1⟩,
      ⟨PyData.keyHash w.params (Str.ofString "end"), .str (Str.ofString "end") t5, .int en u2⟩, ⟨PyData.keyHash w.params (Str.ofString "high"), .str (Str.ofString "high") t6, .int hi u3⟩,
      ⟨PyData.keyHash w.params (Str.ofString "low"), .str (Str.ofString "low") t7, .int 0 u4⟩] nn) :: (D, o1) :: (t, o2) :: (D2, W.listOf ys2.toArray nD2) :: (src, W.listOf #[.int dg td, .int mx tm] n) :: (D1, W.listOf ys1.toArray nD1) :: c :: rest))
    (h1 : 0 ≤ dg) (h2 : 0 ≤ mx) (h3 : mx < 2147483647) (i1 : IntsAre ys1 dc) (i2 : IntsAre ys2 ac) (ok : ScanOk dc ac st en hi) (ho : ∀ q ∈ rest, q.1 ≠ src) (e1 : @LT.lt Nat _ src x) (e2 : @LT.lt Nat _ src dx) (e3 : D1 ≠ src) (e4 : D2 ≠ src) :
    Q (.ref x) { s with heap := h, toks := tk } := by
  refine hret (.ref x) _ h tk F (news_sub N ?_) ⟨dg, mx, td, tm, n, (x, instObj 85 dx) :: (dx, _) :: (D2, W.listOf ys2.toArray nD2) :: (D1, W.listOf ys1.toArray nD1) :: rest, h1, h2, h3, rfl, ?_, ?_, x, dc, ac, st, en, hi, rfl,
    ⟨dx, D, D1, D2, ys1, ys2, nD1, nD2, nn, t1, t2, t3, t4, t5, t6, t7, u1, u2, u3, u4, List.mem_cons.mpr (.inl rfl), List.mem_cons.mpr (.inr (List.mem_cons.mpr (.inl rfl))), ?_, i1, ?_, i2⟩, ok⟩
  · intro p hp
    simp only [List.mem_cons] at hp ⊢
    rcases hp with h | h | h | h | h | h <;> simp [h]
  · intro p hp
    simp [hp]
  · intro q hq
    simp only [List.mem_cons] at hq
    rcases hq with rfl | rfl | rfl | rfl | hq
    · exact Nat.ne_of_gt e1
    · exact Nat.ne_of_gt e2
    · exact e4
    · exact e3
    · exact ho q hq
  · simp
  · simp
/-- between the turns of the two lists of slots -/
inductive ScanI (src : Addr) (rest : Led) (i : Nat) (ys : List Value) (nx : Led) : Prop
  | mk (dg mx : Int) (td tm : Tok) (n : Nat) (ns : List Int) (hl : ys.length = i) (e : nx = (src, W.listOf #[.int dg td, .int mx tm] n) :: rest) (a1 : 0 ≤ dg) (a2 : 0 ≤ mx) (a3 : mx < 2147483647) (hi : IntsAre ys ns) (h3 : ∀ x ∈ ns, 0 ≤ x ∧ x < 3) : ScanI src rest i ys nx
theorem rangeiter_live {n : Nat} {I : Addr} : ∀ i h, IsRangeIter h I (0 + (i : Nat) * 1) ((n : Int) - (i : Nat)) 1 → ∃ o, h.get? I = some o := fun _ _ x => ⟨_, x⟩
/-- the iterator over range(m) -/
theorem iter_range {prog : Program} {A : Around} {E : Value → Shared → Prop} {s : Shared} {r : Addr} {m : Int} {t u v : Tok} {h₀ : Heap} {L : Addr} {mm : Str → Option Value} {R : Led} {Q : Value → Shared → Prop} (hh : A.handled = none) (F : Fr h₀ L s.heap mm) (N : News h₀ L s.heap R) (hr : IsRange s.heap r 0 m 1 t u v) (h0 : 0 ≤ m) (h1 : m < 100)
    (h : ∀ I H, Fr h₀ L H mm → News h₀ L H R → I < H.objs.size → h₀.get? I = none → I ≠ L → (∀ p ∈ R, p.1 < I) → Walks prog w A I [I] [I] m.toNat (fun i v => ∃ t, v = .int (0 + i * 1) t) (fun i h => IsRangeIter h I (0 + (i : Nat) * 1) ((m.toNat : Int) - (i : Nat)) 1) →
      IsRangeIter H I (0 + (0 : Nat) * 1) ((m.toNat : Int) - (0 : Nat)) 1 → Q (.ref I) { s with heap := H }) : wpAny (model prog w) A (pyIter (.ref r)) Q E s := by
  refine wpAny_pyIter_range hr (small_one (by decide) (by decide) (by omega) (by omega)) ?_
  refine h _ _ (F.push _) (fun p hp => ⟨Heap.get?_push_of_some _ (N p hp).1, (N p hp).2⟩) (by rw [Heap.size_push]; exact Nat.lt_succ_self _) (next_is_new F) (fun e => absurd F.ns.lt (e ▸ Nat.lt_irrefl _)) (fun p hp => Heap.lt_size (N p hp).1) (Walks.range hh _ 0 1 _) ?_
  rw [range_one h0]
  show IsRangeIter _ _ _ _ _
  simpa using Heap.get?_push_size _ rfl
section
set_option maxRecDepth 100000 in
set_option maxHeartbeats 8000000 in
theorem scan_ok {src : Addr} {dg mx : Int} {td tm : Tok} {n : Nat} {rest : Led} (hd0 : 0 ≤ dg) (hm0 : 0 ≤ mx) (hm1 : mx < 2147483647) (ho : ∀ q ∈ rest, q.1 ≠ src) :
    FnOk w p loose mean mg mb 4 40 (.ref 108) [.ref src] ((src, W.listOf #[.int dg td, .int mx tm] n) :: rest)
      (ScanP w src rest) := by
  unfold FnOk
  intro dp un gd cn cs a ccd cl outer A₀ base h₀ L m s Q E B F X N T hk hd hu hret
  w_top off
  have hFill : PySem.Challenge.rw_nz0240_01 = PySem.Challenge.rw_nz0240_01 ∧ N240.hd.heap_39 = N240.hd.heap_39 → True := fun _ => trivial
  (first | (revert hFill; k_fill; intro hFill; clear hFill))
  refine wpAny_call ?_
  k_dflt (refine' code_defC ?k1 ?k2 ?k3 ?k4 ?k5 ?kA ?kF ?kK ?k6 ?k7 ?k8 ?k9 ?kB ?kD ?_ ?c2 ?c3 ?c4; (case kA => exact rfl); (case kF => exact rfl); (case kK => assumption); (case k1 => k_asm); (case k2 => k_asm); (case k3 => k_asm); (case k4 => k_asm); (case k5 => k_asm); (case k6 => k_is); (case k7 => k_is); (case k8 => ktr_room); (case k9 => exact BindsTo.of_eq rfl); (case kB => exact rfl); (case kD => decide +kernel); (case c2 => exact rfl); (case c3 => exact rfl); (case c4 => exact rfl); k_whole)
  intro g' L' h' tk' cells' FG' F' N' Y' B' X' T' l1
  (try k_lt l1)
  have hHi1 := CellsAre.one Y'
  first | (have oc := (And.left hHi1); have hE := (And.left (And.right hHi1)); have hoc := (And.right (And.right hHi1)); try clear hHi1) | (refine hideE fun GG hGG => ?_; obtain ⟨oc, hE, hoc⟩ := hHi1; refine hGG ?_; clear hGG GG)
  subst hE
  clear Y'
  (try simp only [List.cons_append, List.nil_append] at N')
  (try dsimp only)
  ((try show wpAny _ _ _ _ _ _); (try k_fold))
  replace F' : Fr g' L' h' (fun y => List.lookup y []) := F'
  repeat' ((fail_if_success (with_reducible show wpAny _ _ (call (Value.ref 103) _) _ _ _)); (first | (k_unfold; (try dsimp only)) | (k_end; wrow_close) | walk1 | (dsimp only; walk1) | (leave1; walk_say "STEP leave1"; try dsimp only)))
  k_dflt (refine' FnOk.useH ?k1 ?k2 ?k3 ?k4 ?k5 ?kK (take_okU ?kU ?kp ?kq ?kr ?ks ?kt) ?kd ?ku ?_; (case k1 => k_asm); (case k2 => k_asm); (case k3 => k_asm); (case k4 => k_asm); (case k5 => k_asm); (case kK => first | exact rfl | assumption); (case kd => ktr_room); (case ku => ktr_units)); (case kU => k_updF); (case kp => assumption); (case kq => assumption); (case kr => assumption); (case ks => decide); (case kt => decide)
  intro GG hGG _ _ h1 tk1 F1 N1 hHi2
  first | (have hE1 := (And.left (And.right (And.right (And.right (And.right (And.right (And.right (And.right (And.right (And.right (And.right (And.right hHi2)))))))))))); subst hE1; have hE2 := (And.right (And.right (And.right (And.right (And.right (And.right (And.right (And.right (And.right (And.right (And.right (And.right hHi2)))))))))))); subst hE2; have dg1 := (And.left hHi2); have mx1 := (And.left (And.right hHi2)); have td1 := (And.left (And.right (And.right hHi2))); have tm1 := (And.left (And.right (And.right (And.right hHi2)))); have tv1 := (And.left (And.right (And.right (And.right (And.right hHi2))))); have r1 := (And.left (And.right (And.right (And.right (And.right (And.right hHi2)))))); have hdg1 := (And.left (And.right (And.right (And.right (And.right (And.right (And.right hHi2))))))); have hmx1 := (And.left (And.right (And.right (And.right (And.right (And.right (And.right (And.right hHi2)))))))); have hmy1 := (And.left (And.right (And.right (And.right (And.right (And.right (And.right (And.right (And.right hHi2))))))))); have hr1 := (And.left (And.right (And.right (And.right (And.right (And.right (And.right (And.right (And.right (And.right hHi2)))))))))); have hs1 := (And.left (And.right (And.right (And.right (And.right (And.right (And.right (And.right (And.right (And.right (And.right hHi2))))))))))); try clear hHi2) | (obtain ⟨dg1, mx1, td1, tm1, tv1, r1, hdg1, hmx1, hmy1, hr1, hs1, rfl, rfl⟩ := hHi2)
  refine hGG _ _ _ ?_
  clear hGG GG
  (try dsimp only at N1)
  repeat' ((fail_if_success (with_reducible show wpAny _ _ (call (Value.ref 103) _) _ _ _)); (first | (k_unfold; (try dsimp only)) | (k_end; wrow_close) | walk1 | (dsimp only; walk1) | (leave1; walk_say "STEP leave1"; try dsimp only)))
  k_dflt (refine' FnOk.useH ?k1 ?k2 ?k3 ?k4 ?k5 ?kK (take_okU ?kU ?kp ?kq ?kr ?ks ?kt) ?kd ?ku ?_; (case k1 => k_asm); (case k2 => k_asm); (case k3 => k_asm); (case k4 => k_asm); (case k5 => k_asm); (case kK => first | exact rfl | assumption); (case kd => ktr_room); (case ku => ktr_units)); (case kU => k_updF); (case kp => assumption); (case kq => assumption); (case kr => assumption); (case ks => decide); (case kt => decide)
  intro GG hGG _ _ h2 tk2 F2 N2 hHi3
  first | (have hE3 := (And.left (And.right (And.right (And.right (And.right (And.right (And.right (And.right (And.right (And.right (And.right (And.right hHi3)))))))))))); subst hE3; have hE4 := (And.right (And.right (And.right (And.right (And.right (And.right (And.right (And.right (And.right (And.right (And.right (And.right hHi3)))))))))))); subst hE4; have dg2 := (And.left hHi3); have mx2 := (And.left (And.right hHi3)); have td2 := (And.left (And.right (And.right hHi3))); have tm2 := (And.left (And.right (And.right (And.right hHi3)))); have tv2 := (And.left (And.right (And.right (And.right (And.right hHi3))))); have r2 := (And.left (And.right (And.right (And.right (And.right (And.right hHi3)))))); have hdg2 := (And.left (And.right (And.right (And.right (And.right (And.right (And.right hHi3))))))); have hmx2 := (And.left (And.right (And.right (And.right (And.right (And.right (And.right (And.right hHi3)))))))); have hmy2 := (And.left (And.right (And.right (And.right (And.right (And.right (And.right (And.right (And.right hHi3))))))))); have hr2 := (And.left (And.right (And.right (And.right (And.right (And.right (And.right (And.right (And.right (And.right hHi3)))))))))); have hs2 := (And.left (And.right (And.right (And.right (And.right (And.right (And.right (And.right (And.right (And.right (And.right hHi3))))))))))); try clear hHi3) | (obtain ⟨dg2, mx2, td2, tm2, tv2, r2, hdg2, hmx2, hmy2, hr2, hs2, rfl, rfl⟩ := hHi3)
  refine hGG _ _ _ ?_
  clear hGG GG
  (try dsimp only at N2)
  repeat' ((fail_if_success (with_reducible show wpAny _ _ (subscriptTail (Expr.List _ _) _ _ _) _ _ _)); (first | (k_unfold; (try dsimp only)) | (k_end; wrow_close) | walk1 | (dsimp only; walk1) | (leave1; walk_say "STEP leave1"; try dsimp only)))
  k_dflt (refine' menu5 (src := src) (by assumption) ?h0 ?h5 ?l0 ?l1 ?l2 ?l3 ?l4 ?hs ?_; (case h0 => assumption); (case h5 => assumption); (case l0 => first | (walk_at "<"; done) | omega); (case l1 => first | (walk_at "<"; done) | omega); (case l2 => first | (walk_at "<"; done) | omega); (case l3 => first | (walk_at "<"; done) | omega); (case l4 => first | (walk_at "<"; done) | omega); (case hs => with_unfolding_all rfl))
  intro t9 a9 b9 c9 ta9 tb9 tc9 m9 N9 hlt9 hmenu
  repeat' ((fail_if_success (with_reducible show wpAny _ _ (eval (Expr.ListComp _ _ _ _) _) _ _ _)); (first | (k_unfold; (try dsimp only)) | (k_end; wrow_close) | walk1 | (dsimp only; walk1) | (leave1; walk_say "STEP leave1"; try dsimp only)))
  k_dflt (refine' comp_if (x := Str.ofString "k") (h₀ := g') (L := L') (by assumption) ?hclos ?hcell ?hkind ?hnames ?hx ?_ ?hs; (case hclos => with_unfolding_all rfl); (case hcell => decide); (case hkind => rfl); (case hnames => decide); (case hx => rfl); (case hs => intro _; with_unfolding_all rfl))
  repeat' ((fail_if_success (with_reducible show wpAny _ _ (pyIter _) _ _ _)); (first | (k_unfold; (try dsimp only)) | (k_end; wrow_close) | walk1 | (dsimp only; walk1) | (leave1; walk_say "STEP leave1"; try dsimp only)))
  k_dflt (refine' iter_range ?ha (by assumption) (by assumption) (by assumption) ?hb ?hc ?_; (case ha => rfl); (case hb => exact many_ge (by assumption)); (case hc => exact many_lt (by assumption)))
  intro I1 H1 F1 N1 hI1 hI2 hI3 hI4 W1 st1
  refine ⟨I1, _, _, _, (src, W.listOf #[.int dg2 td2, .int mx2 tm2] n) :: (L' + 1, oc) :: rest, [], ScanI src ((L' + 1, oc) :: rest), rfl, (fun _ _ _ _ _ h => nomatch h), W1, rangeiter_live, ?_, st1, hI1, hI2, hI3, ?_, F1, news_sub N1 ?_, ⟨_, _, _, _, _, [], rfl, rfl, hdg2, hmx2, hmy2, .nil, fun _ h => nomatch h⟩, ?_, ?_⟩
  · exact line_of_small (many_nat (by assumption))
  · intro p hp
    refine Nat.ne_of_lt (hI4 p ?_)
    simp only [List.mem_cons] at hp ⊢
    rcases hp with h | h | h <;> simp [h]
  · intro p hp
    simp only [List.mem_cons] at hp ⊢
    rcases hp with h | h | h <;> simp [h]
  · intro i v ys nx C D oC oD oI H tk mC E' hin _ hlen hHi4 hoff hCD hCI hDI F3 N3 hC hk3
    first | (have hE5 := (And.left (And.right (And.right (And.right (And.right (And.right (And.right (And.right hHi4)))))))); subst hE5; have dg3 := (And.left hHi4); have mx3 := (And.left (And.right hHi4)); have td3 := (And.left (And.right (And.right hHi4))); have tm3 := (And.left (And.right (And.right (And.right hHi4)))); have n3 := (And.left (And.right (And.right (And.right (And.right hHi4))))); have ns := (And.left (And.right (And.right (And.right (And.right (And.right hHi4)))))); have hlq := (And.left (And.right (And.right (And.right (And.right (And.right (And.right hHi4))))))); have b1 := (And.left (And.right (And.right (And.right (And.right (And.right (And.right (And.right (And.right hHi4))))))))); have b2 := (And.left (And.right (And.right (And.right (And.right (And.right (And.right (And.right (And.right (And.right hHi4)))))))))); have b3 := (And.left (And.right (And.right (And.right (And.right (And.right (And.right (And.right (And.right (And.right (And.right hHi4))))))))))); have hys := (And.left (And.right (And.right (And.right (And.right (And.right (And.right (And.right (And.right (And.right (And.right (And.right hHi4)))))))))))); have hns := (And.right (And.right (And.right (And.right (And.right (And.right (And.right (And.right (And.right (And.right (And.right (And.right hHi4)))))))))))); try clear hHi4) | (refine hideE fun GG hGG => ?_; obtain ⟨dg3, mx3, td3, tm3, n3, ns, hlq, rfl, b1, b2, b3, hys, hns⟩ := hHi4; refine hGG ?_; clear hGG GG)
    refine wpAny_tests_nil ?_
    rw [if_pos rfl]
    ((try show wpAny _ _ _ _ _ _); (try k_fold))
    repeat' ((fail_if_success (with_reducible show wpAny _ _ (call (Value.ref 103) _) _ _ _)); (first | (k_unfold; (try dsimp only)) | (k_end; wrow_close) | walk1 | (dsimp only; walk1) | (leave1; walk_say "STEP leave1"; try dsimp only)))
    have hI0 : I1 ≠ src := Ne.symm (Nat.ne_of_lt (hI4 (src, W.listOf #[.int dg2 td2, .int mx2 tm2] n) (by simp)))
    have hoff0 := hoff (src, W.listOf #[.int dg3 td3, .int mx3 tm3] n3) (by simp)
    k_dflt (refine' FnOk.useH ?k1 ?k2 ?k3 ?k4 ?k5 ?kK (take_okU ?kU ?kp ?kq ?kr ?ks ?kt) ?kd ?ku ?_; (case k1 => k_asm); (case k2 => k_asm); (case k3 => k_asm); (case k4 => k_asm); (case k5 => k_asm); (case kK => first | exact rfl | assumption); (case kd => ktr_room); (case ku => ktr_units)); (case kU => exact UpdF.tail (Ne.symm hoff0.1) (UpdF.tail (Ne.symm hoff0.2.1) (UpdF.tail hI0 (UpdF.head (by k_all))))); (case kp => assumption); (case kq => assumption); (case kr => assumption); (case ks => decide); (case kt => decide)
    intro GG hGG _ _ h4 tk4 F4 N4 hHi5
    first | (have hE6 := (And.left (And.right (And.right (And.right (And.right (And.right (And.right (And.right (And.right (And.right (And.right (And.right hHi5)))))))))))); subst hE6; have hE7 := (And.right (And.right (And.right (And.right (And.right (And.right (And.right (And.right (And.right (And.right (And.right (And.right hHi5)))))))))))); subst hE7; have dg4 := (And.left hHi5); have mx4 := (And.left (And.right hHi5)); have td4 := (And.left (And.right (And.right hHi5))); have tm4 := (And.left (And.right (And.right (And.right hHi5)))); have tv4 := (And.left (And.right (And.right (And.right (And.right hHi5))))); have r4 := (And.left (And.right (And.right (And.right (And.right (And.right hHi5)))))); have hdg4 := (And.left (And.right (And.right (And.right (And.right (And.right (And.right hHi5))))))); have hmx4 := (And.left (And.right (And.right (And.right (And.right (And.right (And.right (And.right hHi5)))))))); have hmy4 := (And.left (And.right (And.right (And.right (And.right (And.right (And.right (And.right (And.right hHi5))))))))); have hr4 := (And.left (And.right (And.right (And.right (And.right (And.right (And.right (And.right (And.right (And.right hHi5)))))))))); have hs4 := (And.left (And.right (And.right (And.right (And.right (And.right (And.right (And.right (And.right (And.right (And.right hHi5))))))))))); try clear hHi5) | (obtain ⟨dg4, mx4, td4, tm4, tv4, r4, hdg4, hmx4, hmy4, hr4, hs4, rfl, rfl⟩ := hHi5)
    refine hGG _ _ _ ?_
    clear hGG GG
    k_unfold
    refine ⟨h4, tk4, _, rfl, F4, N4, ?_, ⟨_, _, _, _, _, ns ++ [r4], by simp [hlq], rfl, hdg4, hmx4, hmy4, hys.append (.cons _ _ .nil), ?_⟩⟩
    · intro p hp
      rcases List.mem_cons.mp hp with rfl | hp
      · exact hoff0
      · exact hoff p (List.mem_cons.mpr (.inr hp))
    · intro x hx
      rcases List.mem_append.mp hx with hx | hx
      · exact hns x hx
      · rw [List.mem_singleton.mp hx]; exact ⟨hr4, hs4⟩
  intro D1 ys1 nD1 nx1 H1' tk1' _ hHi6 hD1 F5 N5
  ((try show wpAny _ _ _ _ _ _); (try k_fold))
  first | (have hE8 := (And.left (And.right (And.right (And.right (And.right (And.right (And.right (And.right hHi6)))))))); subst hE8; have dg5 := (And.left hHi6); have mx5 := (And.left (And.right hHi6)); have td5 := (And.left (And.right (And.right hHi6))); have tm5 := (And.left (And.right (And.right (And.right hHi6)))); have n5 := (And.left (And.right (And.right (And.right (And.right hHi6))))); have ns1 := (And.left (And.right (And.right (And.right (And.right (And.right hHi6)))))); have hlen1 := (And.left (And.right (And.right (And.right (And.right (And.right (And.right hHi6))))))); have hdg5 := (And.left (And.right (And.right (And.right (And.right (And.right (And.right (And.right (And.right hHi6))))))))); have hmx5 := (And.left (And.right (And.right (And.right (And.right (And.right (And.right (And.right (And.right (And.right hHi6)))))))))); have hmy5 := (And.left (And.right (And.right (And.right (And.right (And.right (And.right (And.right (And.right (And.right (And.right hHi6))))))))))); have hys1 := (And.left (And.right (And.right (And.right (And.right (And.right (And.right (And.right (And.right (And.right (And.right (And.right hHi6)))))))))))); have hns1 := (And.right (And.right (And.right (And.right (And.right (And.right (And.right (And.right (And.right (And.right (And.right (And.right hHi6)))))))))))); try clear hHi6) | (refine hideE fun GG hGG => ?_; obtain ⟨dg5, mx5, td5, tm5, n5, ns1, hlen1, rfl, hdg5, hmx5, hmy5, hys1, hns1⟩ := hHi6; refine hGG ?_; clear hGG GG)
  have hD1s := neN (Ne.symm (hD1 (src, W.listOf #[.int dg5 td5, .int mx5 tm5] n5) (by simp)))
  have hD1L := neN (Ne.symm (hD1 (L' + 1, oc) (by simp)))
  (try dsimp only)
  ((try show wpAny _ _ _ _ _ _); (try k_fold))
  repeat' ((fail_if_success (with_reducible show wpAny _ _ (eval (Expr.ListComp _ _ _ _) _) _ _ _)); (first | (k_unfold; (try dsimp only)) | (k_end; wrow_close) | walk1 | (dsimp only; walk1) | (leave1; walk_say "STEP leave1"; try dsimp only)))
  k_dflt (refine' comp_if (x := Str.ofString "k") (h₀ := g') (L := L') (by assumption) ?hclos ?hcell ?hkind ?hnames ?hx ?_ ?hs; (case hclos => with_unfolding_all rfl); (case hcell => decide); (case hkind => rfl); (case hnames => decide); (case hx => rfl); (case hs => intro _; with_unfolding_all rfl))
  repeat' ((fail_if_success (with_reducible show wpAny _ _ (pyIter _) _ _ _)); (first | (k_unfold; (try dsimp only)) | (k_end; wrow_close) | walk1 | (dsimp only; walk1) | (leave1; walk_say "STEP leave1"; try dsimp only)))
  k_dflt (refine' iter_range ?ha (by assumption) (by assumption) (by assumption) ?hb ?hc ?_; (case ha => rfl); (case hb => exact many_ge (by assumption)); (case hc => exact many_lt (by assumption)))
  intro I1 H1 F1 N1 hI1 hI2 hI3 hI4 W1 st1
  refine ⟨I1, _, _, _, (src, W.listOf #[.int dg5 td5, .int mx5 tm5] n5) :: (D1, W.listOf ys1.toArray nD1) :: (L' + 1, oc) :: rest, [], ScanI src ((D1, W.listOf ys1.toArray nD1) :: (L' + 1, oc) :: rest), rfl, (fun _ _ _ _ _ h => nomatch h), W1, rangeiter_live, ?_, st1, hI1, hI2, hI3, ?_, F1, news_sub N1 ?_, ⟨_, _, _, _, _, [], rfl, rfl, hdg5, hmx5, hmy5, .nil, fun _ h => nomatch h⟩, ?_, ?_⟩
  · exact line_of_small (many_nat (by assumption))
  · intro p hp
    refine Nat.ne_of_lt (hI4 p ?_)
    simp only [List.mem_cons] at hp ⊢
    rcases hp with h | h | h | h <;> simp [h]
  · intro p hp
    simp only [List.mem_cons] at hp ⊢
    rcases hp with h | h | h | h <;> simp [h]
  · intro i v ys nx C D oC oD oI H tk mC E' hin _ hlen hHi7 hoff hCD hCI hDI F3 N3 hC hk3
    first | (have hE9 := (And.left (And.right (And.right (And.right (And.right (And.right (And.right (And.right hHi7)))))))); subst hE9; have dg3 := (And.left hHi7); have mx3 := (And.left (And.right hHi7)); have td3 := (And.left (And.right (And.right hHi7))); have tm3 := (And.left (And.right (And.right (And.right hHi7)))); have n3 := (And.left (And.right (And.right (And.right (And.right hHi7))))); have ns := (And.left (And.right (And.right (And.right (And.right (And.right hHi7)))))); have hlq := (And.left (And.right (And.right (And.right (And.right (And.right (And.right hHi7))))))); have b1 := (And.left (And.right (And.right (And.right (And.right (And.right (And.right (And.right (And.right hHi7))))))))); have b2 := (And.left (And.right (And.right (And.right (And.right (And.right (And.right (And.right (And.right (And.right hHi7)))))))))); have b3 := (And.left (And.right (And.right (And.right (And.right (And.right (And.right (And.right (And.right (And.right (And.right hHi7))))))))))); have hys := (And.left (And.right (And.right (And.right (And.right (And.right (And.right (And.right (And.right (And.right (And.right (And.right hHi7)))))))))))); have hns := (And.right (And.right (And.right (And.right (And.right (And.right (And.right (And.right (And.right (And.right (And.right (And.right hHi7)))))))))))); try clear hHi7) | (refine hideE fun GG hGG => ?_; obtain ⟨dg3, mx3, td3, tm3, n3, ns, hlq, rfl, b1, b2, b3, hys, hns⟩ := hHi7; refine hGG ?_; clear hGG GG)
    refine wpAny_tests_nil ?_
    rw [if_pos rfl]
    ((try show wpAny _ _ _ _ _ _); (try k_fold))
    repeat' ((fail_if_success (with_reducible show wpAny _ _ (call (Value.ref 103) _) _ _ _)); (first | (k_unfold; (try dsimp only)) | (k_end; wrow_close) | walk1 | (dsimp only; walk1) | (leave1; walk_say "STEP leave1"; try dsimp only)))
    have hI0 : I1 ≠ src := Ne.symm (Nat.ne_of_lt (hI4 (src, W.listOf #[.int dg5 td5, .int mx5 tm5] n5) (by simp)))
    have hoff0 := hoff (src, W.listOf #[.int dg3 td3, .int mx3 tm3] n3) (by simp)
    k_dflt (refine' FnOk.useH ?k1 ?k2 ?k3 ?k4 ?k5 ?kK (take_okU ?kU ?kp ?kq ?kr ?ks ?kt) ?kd ?ku ?_; (case k1 => k_asm); (case k2 => k_asm); (case k3 => k_asm); (case k4 => k_asm); (case k5 => k_asm); (case kK => first | exact rfl | assumption); (case kd => ktr_room); (case ku => ktr_units)); (case kU => exact UpdF.tail (Ne.symm hoff0.1) (UpdF.tail (Ne.symm hoff0.2.1) (UpdF.tail hI0 (UpdF.head (by k_all))))); (case kp => assumption); (case kq => assumption); (case kr => assumption); (case ks => decide); (case kt => decide)
    intro GG hGG _ _ h4 tk4 F4 N4 hHi8
    first | (have hE10 := (And.left (And.right (And.right (And.right (And.right (And.right (And.right (And.right (And.right (And.right (And.right (And.right hHi8)))))))))))); subst hE10; have hE11 := (And.right (And.right (And.right (And.right (And.right (And.right (And.right (And.right (And.right (And.right (And.right (And.right hHi8)))))))))))); subst hE11; have dg4 := (And.left hHi8); have mx4 := (And.left (And.right hHi8)); have td4 := (And.left (And.right (And.right hHi8))); have tm4 := (And.left (And.right (And.right (And.right hHi8)))); have tv4 := (And.left (And.right (And.right (And.right (And.right hHi8))))); have r4 := (And.left (And.right (And.right (And.right (And.right (And.right hHi8)))))); have hdg4 := (And.left (And.right (And.right (And.right (And.right (And.right (And.right hHi8))))))); have hmx4 := (And.left (And.right (And.right (And.right (And.right (And.right (And.right (And.right hHi8)))))))); have hmy4 := (And.left (And.right (And.right (And.right (And.right (And.right (And.right (And.right (And.right hHi8))))))))); have hr4 := (And.left (And.right (And.right (And.right (And.right (And.right (And.right (And.right (And.right (And.right hHi8)))))))))); have hs4 := (And.left (And.right (And.right (And.right (And.right (And.right (And.right (And.right (And.right (And.right (And.right hHi8))))))))))); try clear hHi8) | (obtain ⟨dg4, mx4, td4, tm4, tv4, r4, hdg4, hmx4, hmy4, hr4, hs4, rfl, rfl⟩ := hHi8)
    refine hGG _ _ _ ?_
    clear hGG GG
    k_unfold
    refine ⟨h4, tk4, _, rfl, F4, N4, ?_, ⟨_, _, _, _, _, ns ++ [r4], by simp [hlq], rfl, hdg4, hmx4, hmy4, hys.append (.cons _ _ .nil), ?_⟩⟩
    · intro p hp
      rcases List.mem_cons.mp hp with rfl | hp
      · exact hoff0
      · exact hoff p (List.mem_cons.mpr (.inr hp))
    · intro x hx
      rcases List.mem_append.mp hx with hx | hx
      · exact hns x hx
      · rw [List.mem_singleton.mp hx]; exact ⟨hr4, hs4⟩
  intro D2 ys2 nD2 nx2 H2' tk2' _ hHi9 hD2 F6 N6
  ((try show wpAny _ _ _ _ _ _); (try k_fold))
  first | (have hE12 := (And.left (And.right (And.right (And.right (And.right (And.right (And.right (And.right hHi9)))))))); subst hE12; have dg6 := (And.left hHi9); have mx6 := (And.left (And.right hHi9)); have td6 := (And.left (And.right (And.right hHi9))); have tm6 := (And.left (And.right (And.right (And.right hHi9)))); have n6 := (And.left (And.right (And.right (And.right (And.right hHi9))))); have ns2 := (And.left (And.right (And.right (And.right (And.right (And.right hHi9)))))); have hlen2 := (And.left (And.right (And.right (And.right (And.right (And.right (And.right hHi9))))))); have hdg6 := (And.left (And.right (And.right (And.right (And.right (And.right (And.right (And.right (And.right hHi9))))))))); have hmx6 := (And.left (And.right (And.right (And.right (And.right (And.right (And.right (And.right (And.right (And.right hHi9)))))))))); have hmy6 := (And.left (And.right (And.right (And.right (And.right (And.right (And.right (And.right (And.right (And.right (And.right hHi9))))))))))); have hys2 := (And.left (And.right (And.right (And.right (And.right (And.right (And.right (And.right (And.right (And.right (And.right (And.right hHi9)))))))))))); have hns2 := (And.right (And.right (And.right (And.right (And.right (And.right (And.right (And.right (And.right (And.right (And.right (And.right hHi9)))))))))))); try clear hHi9) | (refine hideE fun GG hGG => ?_; obtain ⟨dg6, mx6, td6, tm6, n6, ns2, hlen2, rfl, hdg6, hmx6, hmy6, hys2, hns2⟩ := hHi9; refine hGG ?_; clear hGG GG)
  have hD2s := neN (Ne.symm (hD2 (src, W.listOf #[.int dg6 td6, .int mx6 tm6] n6) (by simp)))
  have hD2L := neN (Ne.symm (hD2 (L' + 1, oc) (by simp)))
  have hD21 := neN (Ne.symm (hD2 (D1, W.listOf ys1.toArray nD1) (by simp)))
  (try dsimp only)
  ((try show wpAny _ _ _ _ _ _); (try k_fold))
  k_steps
  have hl1 := hys1.length
  have hl2 := hys2.length
  refine scan_fin (w := w) hret (by k_asm) (by k_asm) hdg6 hmx6 hmy6 hys1 hys2 ⟨hmenu, ?_, ?_, ?_, hns1, hns2⟩ ho (by first | (walk_at "<"; done) | omega) (by first | (walk_at "<"; done) | omega) hD1s hD2s
  · exact (many_len (by assumption) hl1 (by assumption) (by assumption)).1
  · exact (many_len (by assumption) hl1 (by assumption) (by assumption)).2
  · exact (many_len (by assumption) hl2 (by assumption) (by assumption)).2
end
end N240
end
section
local macro_rules | `(tactic| walk_at "call builtin:list.append") => `(tactic| (k_dflt refine' N240.append_L (by k_asm) (by k_asm) (by k_updF) (by assumption) ?_; intro h9 n9 F9 N9; try dsimp only at N9))
local macro_rules | `(tactic| walk_at "compareOp In int ref") => `(tactic| k_dflt (refine' N240.in_ledger (by k_asm) (by k_mem) (by assumption) ?_))
-- Keys
section
open PySem PySem.W PyProof.Rows PySem.Spec PySem.Calls
namespace N240
variable {w : World} {p : Program} {loose : List Str} {mean : ExcName → Option Value} {mg mb : Str → Option Value}
/-- the slots that are named, ascending -/
def slotsOf (xs : List Int) : List Int := [0, 1, 2].filter fun s => decide (s ∈ xs)
def keysOf (dc ac : List Int) (st en hi : Int) : List (List Int) :=
  (if st = 0 ∧ hi = 0 then (slotsOf dc).map fun s => [0, s] else []) ++ (if 0 < en ∧ hi = 0 then (slotsOf ac).map fun s => [1, s] else [])
/-- the first j slots of those that are named -/
def slotsTo (xs : List Int) (j : Nat) : List Int := ((List.range j).map fun k : Nat => (k : Int)).filter fun s => decide (s ∈ xs)
theorem slotsTo_three (xs : List Int) : slotsTo xs 3 = slotsOf xs := rfl
theorem slotsTo_succ (xs : List Int) (j : Nat) : slotsTo xs (j + 1) = slotsTo xs j ++ (if (j : Int) ∈ xs then [(j : Int)] else []) := by
  unfold slotsTo
  rw [List.range_succ, List.map_append, List.filter_append]
  congr 1
  by_cases h : (j : Int) ∈ xs <;> simp [h]
/-- the keys of one kind -/
def keysPart (kd : Int) (b : Bool) (hi : Int) (xs : List Int) : List (List Int) := if b = true ∧ hi = 0 then xs.map fun s => [kd, s] else []
def keysPre (dc ac : List Int) (st en hi : Int) (i : Nat) : List (List Int) :=
  (if 0 < i then keysPart 0 (st == 0) hi (slotsOf dc) else []) ++ (if 1 < i then keysPart 1 (decide (0 < en)) hi (slotsOf ac) else [])
theorem keysPre_two (dc ac : List Int) (st en hi : Int) : keysPre dc ac st en hi 2 = keysOf dc ac st en hi := by
  simp [keysPre, keysPart, keysOf]
theorem slotsTo_len (xs : List Int) (j : Nat) : (slotsTo xs j).length ≤ j := by
  unfold slotsTo
  exact Nat.le_trans (List.length_filter_le _ _) (by simp)
theorem keysPart_len (kd : Int) (b : Bool) (hi : Int) (xs : List Int) : (keysPart kd b hi xs).length ≤ xs.length := by
  unfold keysPart
  split <;> simp
theorem keysLen (dc ac : List Int) (st en hi : Int) (i : Nat) (kd : Int) (b : Bool) (xs : List Int) (j : Nat) : (keysPre dc ac st en hi i ++ keysPart kd b hi (slotsTo xs j)).length ≤ 6 + j := by
  have h1 := keysPart_len kd b hi (slotsTo xs j)
  have h2 := slotsTo_len xs j
  have h3 := keysPart_len 0 (st == 0) hi (slotsOf dc)
  have h4 := keysPart_len 1 (decide (0 < en)) hi (slotsOf ac)
  have h5 := slotsTo_len dc 3
  have h6 := slotsTo_len ac 3
  rw [slotsTo_three] at h5 h6
  have h7 : (keysPre dc ac st en hi i).length ≤ 6 := by
    unfold keysPre
    rw [List.length_append]
    by_cases h1 : 0 < i <;> by_cases h2 : 1 < i <;> simp only [h1, h2, if_true, if_false, List.length_nil] <;> omega
  rw [List.length_append]
  omega
abbrev kindT (kd : Int) (tk : Tok) (d : Addr) (b : Bool) (n : Nat) : Obj := { cls := .type "tuple", data := .seq #[.int kd tk, .ref d, .bool b] n }
def KindAt (R : Led) (t : Addr) (kd : Int) (d : Addr) (b : Bool) : Prop := ∃ tk n, (t, kindT kd tk d b n) ∈ R
/-- between the turns of a loop that fills a list with keys -/
def LstI (w : World) (K : Led) (f : Addr) (ks : Nat → List (List Int)) (i : Nat) (c : List Value × Nat) (nx : Led) : Prop :=
  (∀ p ∈ K, p ∈ nx) ∧ (f, W.listOf c.1.toArray c.2) ∈ nx ∧ Paired (KeyV w nx) c.1 (ks i)
theorem LstI.up {w : World} {K : Led} {f b : Addr} {ks : Nat → List (List Int)} (hK : ∀ p ∈ K, p.1 < b) (hf : f < b) :
    ∀ i c R R', (∀ p ∈ R, Solid p.2 ∨ p.1 < b → p ∈ R') → LstI w K f ks i c R → LstI w K f ks i c R' := by
  intro i c R R' hs hHi1
  first | (have a := (And.left hHi1); have d := (And.left (And.right hHi1)); have e := (And.right (And.right hHi1)); try clear hHi1) | (refine hideE fun GG hGG => ?_; obtain ⟨a, d, e⟩ := hHi1; refine hGG ?_; clear hGG GG)
  exact ⟨fun p hp => hs p (a p hp) (.inr (hK p hp)), hs _ d (.inr hf), e.mono fun _ _ k => k.mono fun p hp hc => hs p hp (.inl (solid_cls hc))⟩
/-- one turn's tuple -/
inductive KindI (K R : Led) (dc ac : List Int) (st en hi : Int) (i : Nat) (v : Value) : Prop
  | mk (t : Addr) (kd : Int) (DD : Addr) (ysX : List Value) (nX : Nat) (xs : List Int) (b : Bool) (tkk : Tok) (nk : Nat) (e : v = .ref t) (m : (t, kindT kd tkk DD b nk) ∈ K) (m2 : (DD, W.listOf ysX.toArray nX) ∈ R) (hI : IntsAre ysX xs) (ek : keysPre dc ac st en hi (i + 1) = keysPre dc ac st en hi i ++ keysPart kd b hi (slotsOf xs)) : KindI K R dc ac st en hi i v
section
set_option maxRecDepth 100000 in
set_option maxHeartbeats 8000000 in
theorem keys_ok {x : Addr} {dc ac : List Int} {st en hi : Int} {R : Led} (hs : ScanAt w R x dc ac st en hi) (ok : ScanOk dc ac st en hi) :
    FnOk w p loose mean mg mb 2 16 (.ref 115) [.ref x] R
      (fun v news' => ∃ a, v = .ref a ∧ (∀ p ∈ R, p ∈ news') ∧ (∀ q ∈ R, q.1 < a) ∧ KeysAt w news' a (keysOf dc ac st en hi)) := by
  first | (have dx := (And.left hs); have D := (And.left (And.right hs)); have D1 := (And.left (And.right (And.right hs))); have D2 := (And.left (And.right (And.right (And.right hs)))); have ys1 := (And.left (And.right (And.right (And.right (And.right hs))))); have ys2 := (And.left (And.right (And.right (And.right (And.right (And.right hs)))))); have n1 := (And.left (And.right (And.right (And.right (And.right (And.right (And.right hs))))))); have n2 := (And.left (And.right (And.right (And.right (And.right (And.right (And.right (And.right hs)))))))); have nn := (And.left (And.right (And.right (And.right (And.right (And.right (And.right (And.right (And.right hs))))))))); have t1 := (And.left (And.right (And.right (And.right (And.right (And.right (And.right (And.right (And.right (And.right hs)))))))))); have t2 := (And.left (And.right (And.right (And.right (And.right (And.right (And.right (And.right (And.right (And.right (And.right hs))))))))))); have t3 := (And.left (And.right (And.right (And.right (And.right (And.right (And.right (And.right (And.right (And.right (And.right (And.right hs)))))))))))); have t4 := (And.left (And.right (And.right (And.right (And.right (And.right (And.right (And.right (And.right (And.right (And.right (And.right (And.right hs))))))))))))); have t5 := (And.left (And.right (And.right (And.right (And.right (And.right (And.right (And.right (And.right (And.right (And.right (And.right (And.right (And.right hs)))))))))))))); have t6 := (And.left (And.right (And.right (And.right (And.right (And.right (And.right (And.right (And.right (And.right (And.right (And.right (And.right (And.right (And.right hs))))))))))))))); have t7 := (And.left (And.right (And.right (And.right (And.right (And.right (And.right (And.right (And.right (And.right (And.right (And.right (And.right (And.right (And.right (And.right hs)))))))))))))))); have u1 := (And.left (And.right (And.right (And.right (And.right (And.right (And.right (And.right (And.right (And.right (And.right (And.right (And.right (And.right (And.right (And.right (And.right hs))))))))))))))))); have u2 := (And.left (And.right (And.right (And.right (And.right (And.right (And.right (And.right (And.right (And.right (And.right (And.right (And.right (And.right (And.right (And.right (And.right (And.right hs)))))))))))))))))); have u3 := (And.left (And.right (And.right (And.right (And.right (And.right (And.right (And.right (And.right (And.right (And.right (And.right (And.right (And.right (And.right (And.right (And.right (And.right (And.right hs))))))))))))))))))); have u4 := (And.left (And.right (And.right (And.right (And.right (And.right (And.right (And.right (And.right (And.right (And.right (And.right (And.right (And.right (And.right (And.right (And.right (And.right (And.right (And.right hs)))))))))))))))))))); have m1 := (And.left (And.right (And.right (And.right (And.right (And.right (And.right (And.right (And.right (And.right (And.right (And.right (And.right (And.right (And.right (And.right (And.right (And.right (And.right (And.right (And.right hs))))))))))))))))))))); have m2 := (And.left (And.right (And.right (And.right (And.right (And.right (And.right (And.right (And.right (And.right (And.right (And.right (And.right (And.right (And.right (And.right (And.right (And.right (And.right (And.right (And.right (And.right hs)))))))))))))))))))))); have m3 := (And.left (And.right (And.right (And.right (And.right (And.right (And.right (And.right (And.right (And.right (And.right (And.right (And.right (And.right (And.right (And.right (And.right (And.right (And.right (And.right (And.right (And.right (And.right hs))))))))))))))))))))))); have i1 := (And.left (And.right (And.right (And.right (And.right (And.right (And.right (And.right (And.right (And.right (And.right (And.right (And.right (And.right (And.right (And.right (And.right (And.right (And.right (And.right (And.right (And.right (And.right (And.right hs)))))))))))))))))))))))); have m4 := (And.left (And.right (And.right (And.right (And.right (And.right (And.right (And.right (And.right (And.right (And.right (And.right (And.right (And.right (And.right (And.right (And.right (And.right (And.right (And.right (And.right (And.right (And.right (And.right (And.right hs))))))))))))))))))))))))); have i2 := (And.right (And.right (And.right (And.right (And.right (And.right (And.right (And.right (And.right (And.right (And.right (And.right (And.right (And.right (And.right (And.right (And.right (And.right (And.right (And.right (And.right (And.right (And.right (And.right (And.right hs))))))))))))))))))))))))); try clear hs) | (refine hideE fun GG hGG => ?_; obtain ⟨dx, D, D1, D2, ys1, ys2, n1, n2, nn, t1, t2, t3, t4, t5, t6, t7, u1, u2, u3, u4, m1, m2, m3, i1, m4, i2⟩ := hs; refine hGG ?_; clear hGG GG)
  unfold FnOk
  intro dp un gd cn cs a ccd cl outer A₀ base h₀ L m s Q E B F X N T hk hd hu hret
  w_top off
  have hFill : PySem.Challenge.rw_nz0240_01 = PySem.Challenge.rw_nz0240_01 ∧ N240.hd.heap_39 = N240.hd.heap_39 → True := fun _ => trivial
  (first | (revert hFill; k_fill; intro hFill; clear hFill))
  refine wpAny_call ?_
  k_dflt (refine' code_def ?k1 ?k2 ?k3 ?k4 ?k5 ?kA ?kF ?kK ?k6 ?k7 ?k8 ?k9 ?kB ?_ ?c2 ?c3 ?c4 ?c5; (case kA => exact rfl); (case kF => exact rfl); (case kK => assumption); (case k1 => k_asm); (case k2 => k_asm); (case k3 => k_asm); (case k4 => k_asm); (case k5 => k_asm); (case k6 => k_is); (case k7 => k_is); (case k8 => ktr_room); (case k9 => exact BindsTo.of_eq rfl); (case c5 => decide); (case kB => exact locs rfl); (case c2 => exact rfl); (case c3 => exact rfl); (case c4 => exact rfl); k_whole)
  intro g' L' h' FG' F' N' B' X' T'
  (try dsimp only)
  ((try show wpAny _ _ _ _ _ _); (try k_fold))
  replace F' : Fr g' L' h' (fun y => List.lookup y [(Str.ofString "scan", Value.ref x)]) := F'
  repeat' ((fail_if_success (with_reducible show wpAny _ _ (pyIter _) _ _ _)); (first | (k_unfold; (try dsimp only)) | (k_end; wrow_close) | walk1 | (dsimp only; walk1) | (leave1; walk_say "STEP leave1"; try dsimp only)))
  rename_i f9 h91 l91 h92 Da h93 l92 Db h94 l93 li h95 F9 N9 l94
  have hli := memOf N9 List.mem_cons_self
  have hR9 := fun p (hp : p ∈ R) => memOf N9 (List.mem_cons_of_mem _ (List.mem_cons_of_mem _ (List.mem_cons_of_mem _ (List.mem_cons_of_mem _ hp))))
  have hf9 := memOf N9 (List.mem_cons_of_mem _ (List.mem_cons_of_mem _ (List.mem_cons_of_mem _ List.mem_cons_self)))
  have hta := memOf N9 (List.mem_cons_of_mem _ (List.mem_cons_of_mem _ List.mem_cons_self))
  have htb := memOf N9 (List.mem_cons_of_mem _ List.mem_cons_self)
  have hlt : ∀ p ∈ R, p.1 ≠ f9 := fun p hp => Nat.ne_of_lt (l91 p hp)
  have hHi3 := reform N9 hf9
  first | (have K := (And.left hHi3); have hkeep := (And.left (And.right hHi3)); have hsub := (And.left (And.right (And.right hHi3))); have hneK := (And.left (And.right (And.right (And.right hHi3)))); have NK := (And.right (And.right (And.right (And.right hHi3)))); try clear hHi3) | (refine hideE fun GG hGG => ?_; obtain ⟨K, hkeep, hsub, hneK, NK⟩ := hHi3; refine hGG ?_; clear hGG GG)
  have kR := fun p hp => hkeep p (hR9 p hp) (hlt p hp)
  have kli := hkeep _ hli (neN (by omega))
  have kta := hkeep _ hta (neN (by omega))
  have ktb := hkeep _ htb (neN (by omega))
  refine loop_listT (x := Str.ofString "kind") (fun _ => []) [Str.ofString "kind", Str.ofString "slots", Str.ofString "is_used", Str.ofString "slot"] (LstI w K f9 (keysPre dc ac st en hi)) (([], 0) : List Value × Nat) rfl
    (LstI.up (fun p hp => news_lt N9 p (hsub p hp)) (news_lt N9 _ hf9)) rfl (vs := [.ref Da, .ref Db]) hli F9 N9 ⟨hsub, hf9, .nil⟩ (fun _ h => nomatch h) ?_ ?_
  · intro i v c nx u h6 tk6 hv hl6 hHi4 F6 N6
    ((try show wpAny _ _ _ _ _ _); (try k_fold))
    first | (have hK6 := (And.left hHi4); have hf6 := (And.left (And.right hHi4)); have hp6 := (And.right (And.right hHi4)); try clear hHi4) | (refine hideE fun GG hGG => ?_; obtain ⟨hK6, hf6, hp6⟩ := hHi4; refine hGG ?_; clear hGG GG)
    have hkey : KindI K R dc ac st en hi i v := by
      match i, hv with
      | 0, hv => exact ⟨Da, 0, D1, ys1, n1, dc, _, _, _, (Option.some.inj hv).symm, kta, m3, i1, by simp [keysPre]⟩
      | 1, hv => exact ⟨Db, 1, D2, ys2, n2, ac, _, _, _, (Option.some.inj hv).symm, ktb, m4, i2, by simp [keysPre]⟩
    first | (have hE1 := (And.left (And.right (And.right (And.right (And.right (And.right (And.right (And.right (And.right (And.right hkey)))))))))); subst hE1; have t := (And.left hkey); have kd := (And.left (And.right hkey)); have DD := (And.left (And.right (And.right hkey))); have ysX := (And.left (And.right (And.right (And.right hkey)))); have nX := (And.left (And.right (And.right (And.right (And.right hkey))))); have xs := (And.left (And.right (And.right (And.right (And.right (And.right hkey)))))); have b := (And.left (And.right (And.right (And.right (And.right (And.right (And.right hkey))))))); have tkk := (And.left (And.right (And.right (And.right (And.right (And.right (And.right (And.right hkey)))))))); have nk := (And.left (And.right (And.right (And.right (And.right (And.right (And.right (And.right (And.right hkey))))))))); have hkK := (And.left (And.right (And.right (And.right (And.right (And.right (And.right (And.right (And.right (And.right (And.right hkey))))))))))); have hDD := (And.left (And.right (And.right (And.right (And.right (And.right (And.right (And.right (And.right (And.right (And.right (And.right hkey)))))))))))); have iX := (And.left (And.right (And.right (And.right (And.right (And.right (And.right (And.right (And.right (And.right (And.right (And.right (And.right hkey))))))))))))); have hpre := (And.right (And.right (And.right (And.right (And.right (And.right (And.right (And.right (And.right (And.right (And.right (And.right (And.right hkey))))))))))))); try clear hkey) | (refine hideE fun GG hGG => ?_; obtain ⟨t, kd, DD, ysX, nX, xs, b, tkk, nk, rfl, hkK, hDD, iX, hpre⟩ := hkey; refine hGG ?_; clear hGG GG)
    have hHi6 := reform N6 hf6
    first | (have R7 := (And.left hHi6); have hkeep7 := (And.left (And.right hHi6)); have hsub7 := (And.left (And.right (And.right hHi6))); have hne7 := (And.left (And.right (And.right (And.right hHi6)))); have N7 := (And.right (And.right (And.right (And.right hHi6)))); try clear hHi6) | (refine hideE fun GG hGG => ?_; obtain ⟨R7, hkeep7, hsub7, hne7, N7⟩ := hHi6; refine hGG ?_; clear hGG GG)
    replace F6 : Fr g' L' h6 _ := F6
    replace N7 : News g' L' h6 _ := N7
    have K7 : ∀ p ∈ K, p ∈ R7 := fun p hp => hkeep7 p (hK6 p hp) (hneK p hp)
    have q1 := K7 _ (kR _ m1)
    have q2 := K7 _ (kR _ m2)
    have q3 := K7 _ (kR _ hDD)
    have q4 := K7 _ hkK
    clear N9 F9 l94
    ((try show wpAny _ _ _ _ _ _); (try k_fold))
    repeat' ((fail_if_success (with_reducible show wpAny _ _ (exec (Stmt.For _ _ _ _ _) _) _ _ _)); (first | (k_unfold; (try dsimp only)) | (k_end; wrow_close) | walk1 | (dsimp only; walk1) | (leave1; walk_say "STEP leave1"; try dsimp only)))
    rename_i h8 F8 N8
    with_unfolding_all refine For_invVF F8 (by rfl) (by rfl) ?_
    repeat' ((fail_if_success (with_reducible show wpAny _ _ (pyIter _) _ _ _)); (first | (k_unfold; (try dsimp only)) | (k_end; wrow_close) | walk1 | (dsimp only; walk1) | (leave1; walk_say "STEP leave1"; try dsimp only)))
    rename_i h10 tk10 tt1 tt2 tt3 hr10 F10 N10 hk10
    refine loop_range (fun _ => []) [Str.ofString "slot"] (LstI w R7 f9 fun j => keysPre dc ac st en hi i ++ keysPart kd b hi (slotsTo xs j)) ((c.1, c.2) : List Value × Nat)
      (LstI.up (fun p hp => news_lt N10 p (List.mem_cons_of_mem _ hp)) (news_lt N10 _ List.mem_cons_self)) rfl hr10 (by decide) (by decide) F10 N10 ⟨fun p hp => List.mem_cons_of_mem _ hp, List.mem_cons_self, ?_⟩ (fun _ h => nomatch h) ?_ ?_
    · have e0 : keysPre dc ac st en hi i ++ keysPart kd b hi (slotsTo xs 0) = keysPre dc ac st en hi i := by simp [keysPart, slotsTo]
      show Paired _ c.1 (keysPre dc ac st en hi i ++ keysPart kd b hi (slotsTo xs 0))
      rw [e0]
      exact hp6.mono fun _ _ k => k.mono fun p hp hc => List.mem_cons_of_mem _ (hkeep7 p hp fun e => by
        have := news_fun N6 (a := f9) (o := p.2) (by rw [← e]; exact hp) hf6
        rw [this] at hc
        exact tl_ne hc.symm)
    · intro j c2 nx2 u2 h11 tk11 ti hj hHi7 F11 N11
      ((try show wpAny _ _ _ _ _ _); (try k_fold))
      first | (have hK11 := (And.left hHi7); have hf11 := (And.left (And.right hHi7)); have hp11 := (And.right (And.right hHi7)); try clear hHi7) | (refine hideE fun GG hGG => ?_; obtain ⟨hK11, hf11, hp11⟩ := hHi7; refine hGG ?_; clear hGG GG)
      have hHi8 := reform N11 hf11
      first | (have R12 := (And.left hHi8); have hkeep12 := (And.left (And.right hHi8)); have hsub12 := (And.left (And.right (And.right hHi8))); have hne12 := (And.left (And.right (And.right (And.right hHi8)))); have N12 := (And.right (And.right (And.right (And.right hHi8)))); try clear hHi8) | (refine hideE fun GG hGG => ?_; obtain ⟨R12, hkeep12, hsub12, hne12, N12⟩ := hHi8; refine hGG ?_; clear hGG GG)
      replace F11 : Fr g' L' h11 _ := F11
      replace N12 : News g' L' h11 _ := N12
      have q1 := hkeep12 _ (hK11 _ q1) (hne7 _ q1)
      have q2 := hkeep12 _ (hK11 _ q2) (hne7 _ q2)
      have q3 := hkeep12 _ (hK11 _ q3) (hne7 _ q3)
      (try clear F10 N10 hr10 hk10)
      have hz : c2.1.length ≤ sizeLine := line_small (by have e1 := hp11.length; dsimp only at e1; have := keysLen dc ac st en hi i kd b xs j; omega)
      ((try show wpAny _ _ _ _ _ _); (try k_fold))
      k_steps
      · rename_i hb hmj hh tkx Dk hA FA NA lA hB nB FB NB
        show LEnd g' L' _ [] nx2 _ _ _ _ _ _
        refine ⟨hB, _, _, _, (c2.1 ++ [.ref Dk], nB), rfl, FB, NB, ?_, (fun _ h => nomatch h), ⟨?_, ?_, ?_⟩, (fun _ h => nomatch h), fun z hz _ hc => fr_same hz hc⟩
        · intro p hp hn
          exact List.mem_cons_of_mem _ (List.mem_cons_of_mem _ (hkeep12 p hp (ns_off N11 hf11 solid_list hp hn)))
        · intro p hp
          exact List.mem_cons_of_mem _ (List.mem_cons_of_mem _ (hkeep12 p (hK11 p hp) (hne7 p hp)))
        · exact List.mem_cons_of_mem _ List.mem_cons_self
        · show Paired _ (c2.1 ++ [.ref Dk]) (keysPre dc ac st en hi i ++ keysPart kd b hi (slotsTo xs (j + 1)))
          have e : keysPart kd b hi (slotsTo xs (j + 1)) = keysPart kd b hi (slotsTo xs j) ++ [[kd, (j : Int)]] := by
            rw [slotsTo_succ]
            unfold keysPart
            rw [if_pos hmj, if_pos ⟨hb, hh⟩, if_pos ⟨hb, hh⟩]
            simp
          rw [e, ← List.append_assoc]
          refine Paired.snoc (hp11.mono fun _ _ k => k.mono fun p hp hc => List.mem_cons_of_mem _ (List.mem_cons_of_mem _ (hkeep12 p hp (tup_off N11 hf11 hp hc)))) ⟨Dk, _, _, _, _, _, rfl, rfl, List.mem_cons_self⟩
      all_goals
        have e : keysPart kd b hi (slotsTo xs (j + 1)) = keysPart kd b hi (slotsTo xs j) := by
          rw [slotsTo_succ]
          unfold keysPart
          simp_all
        refine (?_ : LEnd g' L' _ [] nx2 _ _ _ _ _ _)
        refine ⟨h11, _, _, nx2, c2, rfl, F11, N11, fun p hp _ => hp, (fun _ h => nomatch h), ⟨hK11, hf11, ?_⟩, (fun _ h => nomatch h), fun z hz _ hc => fr_same hz hc⟩
        show Paired _ c2.1 (keysPre dc ac st en hi i ++ keysPart kd b hi (slotsTo xs (j + 1)))
        rw [e]
        exact hp11
    · intro c2 nx2 u2 h11 tk11 hHi9 F11 N11
      ((try show wpAny _ _ _ _ _ _); (try k_fold))
      first | (have hK11 := (And.left hHi9); have hf11 := (And.left (And.right hHi9)); have hp11 := (And.right (And.right hHi9)); try clear hHi9) | (refine hideE fun GG hGG => ?_; obtain ⟨hK11, hf11, hp11⟩ := hHi9; refine hGG ?_; clear hGG GG)
      clear F10 N10 hr10 hk10
      (try dsimp only)
      k_steps
      show LEnd g' L' _ _ nx _ _ _ _ _ _
      refine ⟨h11, _, _, nx2, c2, rfl, F11, N11, ?_, ?_, ⟨?_, hf11, ?_⟩, (fun _ h => nomatch h), ?_⟩
      · intro p hp hn
        exact hK11 p (hkeep7 p hp (ns_off N6 hf6 solid_list hp hn))
      · intro p hp
        rw [List.mem_singleton.mp hp]
        exact hK11 _ (K7 _ kli)
      · intro p hp
        exact hK11 p (K7 p hp)
      · rw [hpre]
        exact hp11
      · intro z hz _ hc
        have hc' : z ≠ Str.ofString "kind" ∧ z ≠ Str.ofString "slots" ∧ z ≠ Str.ofString "is_used" ∧ z ≠ Str.ofString "slot" := by simpa using hc
        have hHi10 := hc'
        first | (have e1 := (And.left hHi10); have e2 := (And.left (And.right hHi10)); have e3 := (And.left (And.right (And.right hHi10))); have e4 := (And.right (And.right (And.right hHi10))); try clear hHi10) | (refine hideE fun GG hGG => ?_; obtain ⟨e1, e2, e3, e4⟩ := hHi10; refine hGG ?_; clear hGG GG)
        have hc2 : [Str.ofString "slot"].contains z = false := by simpa using e4
        dsimp only [kstB]
        rw [if_neg e4, hc2]
        simp only [Bool.false_eq_true, if_false]
        rw [if_neg e3, if_neg e2, if_neg e1, hc]
        rfl
  · intro c2 nx2 u2 h11 tk11 hl11 hHi11 F11 N11
    ((try show wpAny _ _ _ _ _ _); (try k_fold))
    first | (have hK11 := (And.left hHi11); have hf11 := (And.left (And.right hHi11)); have hp11 := (And.right (And.right hHi11)); try clear hHi11) | (refine hideE fun GG hGG => ?_; obtain ⟨hK11, hf11, hp11⟩ := hHi11; refine hGG ?_; clear hGG GG)
    replace F11 : Fr g' L' h11 _ := F11
    replace N11 : News g' L' h11 _ := N11
    clear F9 N9 l94
    (try dsimp only)
    k_steps
    refine hret _ nx2 _ _ (by k_asm) (by k_asm) ⟨f9, rfl, fun p hp => hK11 p (kR p hp), l91, c2.1, c2.2, hf11, ?_⟩
    rw [← keysPre_two]
    exact hp11
end
end N240
end
section
local macro_rules | `(tactic| walk_at "call type:range") => `(tactic| (k_dflt (first | refine' range1_rows (by k_asm) (by k_asm) ?_ | refine' range2_rows (by k_asm) (by k_asm) ?_); intro _ _ _ _ _ _ _ _ _))
-- Vals
section
open PySem PySem.W PyProof.Rows PySem.Spec PySem.Calls
namespace N240
variable {w : World} {p : Program} {loose : List Str} {mean : ExcName → Option Value} {mg mb : Str → Option Value}
def dcVals (most : Int) : List Int := if most = 0 then [16, 0] else if most = 1 then [16, 0, 17] else [16, 0, 17, 32, 33, 34]
/-- a new list of ints -/
inductive NewInts (R : Led) (ns : List Int) (v : Value) (news' : Led) : Prop
  | mk (a : Addr) (vs : List Value) (n : Nat) (e : v = .ref a) (k : ∀ p ∈ R, p ∈ news') (l : ∀ q ∈ R, q.1 < a) (m : (a, W.listOf vs.toArray n) ∈ news') (i : IntsAre vs ns) : NewInts R ns v news'
/-- between the turns of a loop that fills a list with ints -/
def IntI (K : Led) (f : Addr) (ks : Nat → List Int) (i : Nat) (c : List Value × Nat) (nx : Led) : Prop :=
  (∀ p ∈ K, p ∈ nx) ∧ (f, W.listOf c.1.toArray c.2) ∈ nx ∧ IntsAre c.1 (ks i)
theorem IntI.up {K : Led} {f b : Addr} {ks : Nat → List Int} (hK : ∀ p ∈ K, p.1 < b) (hf : f < b) :
    ∀ i c R R', (∀ p ∈ R, Solid p.2 ∨ p.1 < b → p ∈ R') → IntI K f ks i c R → IntI K f ks i c R' := by
  intro i c R R' hs hHi1
  first | (have a := (And.left hHi1); have d := (And.left (And.right hHi1)); have e := (And.right (And.right hHi1)); try clear hHi1) | (refine hideE fun GG hGG => ?_; obtain ⟨a, d, e⟩ := hHi1; refine hGG ?_; clear hGG GG)
  exact ⟨fun p hp => hs p (a p hp) (.inr (hK p hp)), hs _ d (.inr hf), e⟩
def dcRow (up j : Nat) : List Int := ((List.range j).map fun low : Nat => 16 * (up : Int) + (low : Int)).filter fun v => decide (v ≠ 16)
def dcTo (i : Nat) : List Int := [16] ++ ((List.range i).map fun up => dcRow up (up + 1)).flatten
theorem dcRow_succ (up j : Nat) : dcRow up (j + 1) = dcRow up j ++ (if 16 * (up : Int) + (j : Int) ≠ 16 then [16 * (up : Int) + (j : Int)] else []) := by
  unfold dcRow
  rw [List.range_succ, List.map_append, List.filter_append]
  congr 1
  by_cases h : 16 * (up : Int) + (j : Int) = 16 <;> simp [h]
theorem dcTo_succ (i : Nat) : dcTo (i + 1) = dcTo i ++ dcRow i (i + 1) := by
  unfold dcTo
  rw [List.range_succ, List.map_append, List.flatten_append, List.append_assoc]
  simp
theorem dcRow_len (up j : Nat) : (dcRow up j).length ≤ j := by
  unfold dcRow
  exact Nat.le_trans (List.length_filter_le _ _) (by simp)
theorem dcTo_len (i : Nat) (h : i ≤ 3) : (dcTo i).length ≤ 50 := (by decide : ∀ i < 4, (dcTo i).length ≤ 50) i (Nat.lt_succ_of_le h)
theorem dc_room {a b c j : Nat} (e : a = b + c) (h : c ≤ j) (h2 : b ≤ 50) (h3 : j ≤ 3) : a ≤ 1000 := e ▸ Nat.le_trans (Nat.add_le_add h2 (Nat.le_trans h h3)) (by decide)
theorem dcTo_vals {most : Int} (h0 : 0 ≤ most) (h2 : most ≤ 2) : dcTo (most + 1).toNat = dcVals most := by
  have hc := int3 h0 h2
  rcases hc with rfl | rfl | rfl <;> decide
section
set_option maxRecDepth 100000 in
set_option maxHeartbeats 8000000 in
theorem dc_ok {most : Int} {t : Tok} {R : Led} (h0 : 0 ≤ most) (h2 : most ≤ 2) : FnOk w p loose mean mg mb 2 16 (.ref 28) [.int most t] R (NewInts R (dcVals most)) := by
  unfold FnOk
  intro dp un gd cn cs a ccd cl outer A₀ base h₀ L m s Q E B F X N T hk hd hu hret
  w_top off
  have hFill : PySem.Challenge.rw_nz0240_01 = PySem.Challenge.rw_nz0240_01 ∧ N240.hd.heap_39 = N240.hd.heap_39 → True := fun _ => trivial
  (first | (revert hFill; k_fill; intro hFill; clear hFill))
  refine wpAny_call ?_
  k_dflt (refine' code_def ?k1 ?k2 ?k3 ?k4 ?k5 ?kA ?kF ?kK ?k6 ?k7 ?k8 ?k9 ?kB ?_ ?c2 ?c3 ?c4 ?c5; (case kA => exact rfl); (case kF => exact rfl); (case kK => assumption); (case k1 => k_asm); (case k2 => k_asm); (case k3 => k_asm); (case k4 => k_asm); (case k5 => k_asm); (case k6 => k_is); (case k7 => k_is); (case k8 => ktr_room); (case k9 => exact BindsTo.of_eq rfl); (case c5 => decide); (case kB => exact locs rfl); (case c2 => exact rfl); (case c3 => exact rfl); (case c4 => exact rfl); k_whole)
  intro g' L' h' FG' F' N' B' X' T'
  (try dsimp only)
  ((try show wpAny _ _ _ _ _ _); (try k_fold))
  replace F' : Fr g' L' h' (fun y => List.lookup y [(Str.ofString "most", Value.int most t)]) := F'
  repeat' ((fail_if_success (with_reducible show wpAny _ _ (exec (Stmt.For _ _ _ _ _) _) _ _ _)); (first | (k_unfold; (try dsimp only)) | (k_end; wrow_close) | walk1 | (dsimp only; walk1) | (leave1; walk_say "STEP leave1"; try dsimp only)))
  rename_i f9 h91 l91 h92 F92 N92
  with_unfolding_all refine For_invVF F92 (by rfl) (by rfl) ?_
  repeat' ((fail_if_success (with_reducible show wpAny _ _ (pyIter _) _ _ _)); (first | (k_unfold; (try dsimp only)) | (k_end; wrow_close) | walk1 | (dsimp only; walk1) | (leave1; walk_say "STEP leave1"; try dsimp only)))
  rename_i h10 tk10 tt1 tt2 tt3 hr10 F10 N10 hk10
  refine loop_range (x := Str.ofString "up") (fun _ => []) [Str.ofString "up", Str.ofString "low"] (IntI R f9 dcTo) (([.int 16 196], 0) : List Value × Nat)
    (IntI.up (fun p hp => news_lt N10 p (List.mem_cons_of_mem _ hp)) (news_lt N10 _ List.mem_cons_self)) rfl hr10 (by omega) (by omega) F10 N10 ⟨fun p hp => List.mem_cons_of_mem _ hp, List.mem_cons_self, .cons _ _ .nil⟩ (fun _ h => nomatch h) ?_ ?_
  · intro i c nx u h6 tk6 ti hi hHi2 F6 N6
    ((try show wpAny _ _ _ _ _ _); (try k_fold))
    first | (have hK6 := (And.left hHi2); have hf6 := (And.left (And.right hHi2)); have hp6 := (And.right (And.right hHi2)); try clear hHi2) | (refine hideE fun GG hGG => ?_; obtain ⟨hK6, hf6, hp6⟩ := hHi2; refine hGG ?_; clear hGG GG)
    have hHi3 := reform N6 hf6
    first | (have R7 := (And.left hHi3); have hkeep7 := (And.left (And.right hHi3)); have hsub7 := (And.left (And.right (And.right hHi3))); have hne7 := (And.left (And.right (And.right (And.right hHi3)))); have N7 := (And.right (And.right (And.right (And.right hHi3)))); try clear hHi3) | (refine hideE fun GG hGG => ?_; obtain ⟨R7, hkeep7, hsub7, hne7, N7⟩ := hHi3; refine hGG ?_; clear hGG GG)
    replace F6 : Fr g' L' h6 _ := F6
    replace N7 : News g' L' h6 _ := N7
    have K7 : ∀ p ∈ R, p ∈ R7 := fun p hp => hkeep7 p (hK6 p hp) (Nat.ne_of_lt (l91 p hp))
    clear F10 N10 hr10 hk10
    ((try show wpAny _ _ _ _ _ _); (try k_fold))
    repeat' ((fail_if_success (with_reducible show wpAny _ _ (exec (Stmt.For _ _ _ _ _) _) _ _ _)); (first | (k_unfold; (try dsimp only)) | (k_end; wrow_close) | walk1 | (dsimp only; walk1) | (leave1; walk_say "STEP leave1"; try dsimp only)))
    with_unfolding_all refine For_invVF F6 (by rfl) (by rfl) ?_
    repeat' ((fail_if_success (with_reducible show wpAny _ _ (pyIter _) _ _ _)); (first | (k_unfold; (try dsimp only)) | (k_end; wrow_close) | walk1 | (dsimp only; walk1) | (leave1; walk_say "STEP leave1"; try dsimp only)))
    rename_i h20 tk20 tt4 tt5 tt6 hr20 F20 N20 hk20
    refine loop_range (x := Str.ofString "low") (fun _ => []) [Str.ofString "low"] (IntI R7 f9 fun j => dcTo i ++ dcRow i j) ((c.1, c.2) : List Value × Nat)
      (IntI.up (fun p hp => news_lt N20 p (List.mem_cons_of_mem _ hp)) (news_lt N20 _ List.mem_cons_self)) rfl hr20 (by omega) (by omega) F20 N20 ⟨fun p hp => List.mem_cons_of_mem _ hp, List.mem_cons_self, ?_⟩ (fun _ h => nomatch h) ?_ ?_
    · have e0 : dcTo i ++ dcRow i 0 = dcTo i := by simp [dcRow]
      show IntsAre c.1 (dcTo i ++ dcRow i 0)
      rw [e0]
      exact hp6
    · intro j c2 nx2 u2 h11 tk11 tj hj hHi4 F11 N11
      ((try show wpAny _ _ _ _ _ _); (try k_fold))
      first | (have hK11 := (And.left hHi4); have hf11 := (And.left (And.right hHi4)); have hp11 := (And.right (And.right hHi4)); try clear hHi4) | (refine hideE fun GG hGG => ?_; obtain ⟨hK11, hf11, hp11⟩ := hHi4; refine hGG ?_; clear hGG GG)
      have hHi5 := reform N11 hf11
      first | (have R12 := (And.left hHi5); have hkeep12 := (And.left (And.right hHi5)); have hsub12 := (And.left (And.right (And.right hHi5))); have hne12 := (And.left (And.right (And.right (And.right hHi5)))); have N12 := (And.right (And.right (And.right (And.right hHi5)))); try clear hHi5) | (refine hideE fun GG hGG => ?_; obtain ⟨R12, hkeep12, hsub12, hne12, N12⟩ := hHi5; refine hGG ?_; clear hGG GG)
      replace F11 : Fr g' L' h11 _ := F11
      replace N12 : News g' L' h11 _ := N12
      clear F20 N20 hr20 hk20
      have hz : c2.1.length ≤ sizeLine := line_small (by have e1 := hp11.length; dsimp only at e1; have e2 := dcRow_len i j; have e3 := dcTo_len i (by omega); rw [List.length_append] at e1; exact dc_room e1 e2 e3 (by omega))
      ((try show wpAny _ _ _ _ _ _); (try k_fold))
      k_steps
      · rename_i hne tkA hB nB FB NB
        refine (?_ : LEnd g' L' _ [] nx2 _ _ _ _ _ _)
        refine ⟨hB, _, _, _, (c2.1 ++ [.int (16 * (i : Int) + (j : Int)) (tkA + 1 + 1)], nB), rfl, FB, NB, ?_, (fun _ h => nomatch h), ⟨?_, ?_, ?_⟩, (fun _ h => nomatch h), fun z hz _ hc => fr_same hz hc⟩
        · intro p hp hn
          exact List.mem_cons_of_mem _ (hkeep12 p hp (ns_off N11 hf11 solid_list hp hn))
        · intro p hp
          exact List.mem_cons_of_mem _ (hkeep12 p (hK11 p hp) (hne7 p hp))
        · exact List.mem_cons_self
        · show IntsAre (c2.1 ++ [_]) (dcTo i ++ dcRow i (j + 1))
          rw [dcRow_succ, if_pos hne, ← List.append_assoc]
          exact hp11.append (.cons _ _ .nil)
      · rename_i heq
        refine (?_ : LEnd g' L' _ [] nx2 _ _ _ _ _ _)
        refine ⟨h11, _, _, nx2, c2, rfl, F11, N11, fun p hp _ => hp, (fun _ h => nomatch h), ⟨hK11, hf11, ?_⟩, (fun _ h => nomatch h), fun z hz _ hc => fr_same hz hc⟩
        show IntsAre c2.1 (dcTo i ++ dcRow i (j + 1))
        rw [dcRow_succ, if_neg (by simpa using heq), List.append_nil]
        exact hp11
    · intro c2 nx2 u2 h11 tk11 hHi6 F11 N11
      ((try show wpAny _ _ _ _ _ _); (try k_fold))
      first | (have hK11 := (And.left hHi6); have hf11 := (And.left (And.right hHi6)); have hp11 := (And.right (And.right hHi6)); try clear hHi6) | (refine hideE fun GG hGG => ?_; obtain ⟨hK11, hf11, hp11⟩ := hHi6; refine hGG ?_; clear hGG GG)
      clear F20 N20 hr20 hk20
      (try dsimp only)
      k_steps
      refine (?_ : LEnd g' L' _ [] nx _ _ _ _ _ _)
      refine ⟨h11, _, _, nx2, c2, rfl, F11, N11, ?_, (fun _ h => nomatch h), ⟨?_, hf11, ?_⟩, (fun _ h => nomatch h), ?_⟩
      · intro p hp hn
        exact hK11 p (hkeep7 p hp (ns_off N6 hf6 solid_list hp hn))
      · intro p hp
        exact hK11 p (K7 p hp)
      · show IntsAre c2.1 (dcTo (i + 1))
        rw [dcTo_succ]
        exact hp11
      · intro z hz _ hc
        have hc' : z ≠ Str.ofString "up" ∧ z ≠ Str.ofString "low" := by simpa using hc
        have hc2 : [Str.ofString "low"].contains z = false := by simpa using hc'.2
        dsimp only [kstB]
        rw [if_neg hc'.2, hc2]
        simp only [Bool.false_eq_true, if_false]
        rw [if_neg hc'.1, hc]
        rfl
  · intro c2 nx2 u2 h11 tk11 hHi7 F11 N11
    ((try show wpAny _ _ _ _ _ _); (try k_fold))
    first | (have hK11 := (And.left hHi7); have hf11 := (And.left (And.right hHi7)); have hp11 := (And.right (And.right hHi7)); try clear hHi7) | (refine hideE fun GG hGG => ?_; obtain ⟨hK11, hf11, hp11⟩ := hHi7; refine hGG ?_; clear hGG GG)
    replace F11 : Fr g' L' h11 _ := F11
    replace N11 : News g' L' h11 _ := N11
    clear F10 N10 hr10 hk10
    (try dsimp only)
    k_steps
    refine hret _ nx2 _ _ (by k_asm) (by k_asm) ⟨f9, _, _, rfl, hK11, l91, hf11, ?_⟩
    rw [← dcTo_vals h0 h2]
    exact hp11
end
end N240
end
-- AcV
section
open PySem PySem.W PyProof.Rows PySem.Spec PySem.Calls
namespace N240
variable {w : World} {p : Program} {loose : List Str} {mean : ExcName → Option Value} {mg mb : Str → Option Value}
def acVals (n : Int) : List Int := if n = 1 then [] else if n = 2 then [1, 2, 3] else [5, 1, 2, 3, 4, 6, 7, 8]
theorem ints_erase {vs : List Value} {ns : List Int} (h : IntsAre vs ns) : ∀ (j : Nat), IntsAre (vs.eraseIdx j) (ns.eraseIdx j) := by
  induction h with
  | nil => exact fun _ => .nil
  | cons _ _ h ih =>
    intro j
    cases j with
    | zero => exact h
    | succ j => exact .cons _ _ (ih j)
theorem ac_box {n : Int} (h1 : 1 ≤ n) (h3 : n ≤ 3) : n * n ≤ 9 ∧ 1 ≤ n * n := by rcases int3u h1 h3 with rfl | rfl | rfl <;> decide
theorem ac_in {n : Int} (h1 : 1 ≤ n) (h3 : n ≤ 3) (e3 : ¬ n = 3) : ¬ (5 : Int) ∈ rangeKs 1 (n * n - 1).toNat ∧ acVals n = rangeKs 1 (n * n - 1 : Int).toNat := by
  rcases int3u h1 h3 with rfl | rfl | rfl
  · decide +kernel
  · decide +kernel
  · exact absurd rfl e3
section
local macro_rules | `(tactic| walk_at "call builtin:list.remove") => `(tactic| (k_dflt refine' remove_L (by k_asm) (by k_asm) (by k_updF) (by assumption) (by assumption) (by assumption) ?_; intro h9 n9 F9 N9; try dsimp only at N9))
local macro_rules | `(tactic| walk_at "call builtin:list.insert") => `(tactic| (k_dflt refine' insert_L (by k_asm) (by k_asm) (by k_updF) (Nat.le_trans (List.length_eraseIdx_le _ _) (by assumption)) ?_; intro h9 n9 F9 N9; try dsimp only at N9))
set_option maxRecDepth 100000 in
set_option maxHeartbeats 8000000 in
theorem ac_ok {n : Int} {t : Tok} {R : Led} (h1 : 1 ≤ n) (h3 : n ≤ 3) : FnOk w p loose mean mg mb 2 16 (.ref 35) [.int n t] R (NewInts R (acVals n)) := by
  unfold FnOk
  intro dp un gd cn cs a ccd cl outer A₀ base h₀ L m s Q E B F X N T hk hd hu hret
  w_top off
  have hFill : PySem.Challenge.rw_nz0240_01 = PySem.Challenge.rw_nz0240_01 ∧ N240.hd.heap_39 = N240.hd.heap_39 → True := fun _ => trivial
  (first | (revert hFill; k_fill; intro hFill; clear hFill))
  refine wpAny_call ?_
  k_dflt (refine' code_def ?k1 ?k2 ?k3 ?k4 ?k5 ?kA ?kF ?kK ?k6 ?k7 ?k8 ?k9 ?kB ?_ ?c2 ?c3 ?c4 ?c5; (case kA => exact rfl); (case kF => exact rfl); (case kK => assumption); (case k1 => k_asm); (case k2 => k_asm); (case k3 => k_asm); (case k4 => k_asm); (case k5 => k_asm); (case k6 => k_is); (case k7 => k_is); (case k8 => ktr_room); (case k9 => exact BindsTo.of_eq rfl); (case c5 => decide); (case kB => exact locs rfl); (case c2 => exact rfl); (case c3 => exact rfl); (case c4 => exact rfl); k_whole)
  intro g' L' h' FG' F' N' B' X' T'
  (try dsimp only)
  ((try show wpAny _ _ _ _ _ _); (try k_fold))
  replace F' : Fr g' L' h' (fun y => List.lookup y [(Str.ofString "n", Value.int n t)]) := F'
  repeat' ((fail_if_success (with_reducible show wpAny _ _ (call (Value.type "list") _) _ _ _)); (first | (k_unfold; (try dsimp only)) | (k_end; wrow_close) | walk1 | (dsimp only; walk1) | (leave1; walk_say "STEP leave1"; try dsimp only)))
  rename_i h7 tk7 t7 u7 v7 r7 F7 N7 k7
  have hnn := ac_box h1 h3
  refine kll_range (n := (n * n - 1).toNat) rfl F7 N7 r7 ?_ ?_ (by omega) ?_
  · exact small_one (by decide) (by decide) (by omega) (by omega)
  · exact rangeSize_nat _ _
  intro D us c h8 tk8 F8 N8 l8 i8
  have hz : us.length ≤ sizeLine := line_small (by rw [i8.length, rangeKs_length]; omega)
  clear N7 F7 r7 k7
  (try dsimp only)
  by_cases e3 : n = 3
  · subst e3
    have hj : (rangeKs 1 (3 * 3 - 1 : Int).toNat).findIdx? (· == (5 : Int)) = some 4 := by decide +kernel
    k_steps
    refine hret _ _ _ _ (by k_asm) (by k_asm) ⟨D, _, _, rfl, fun p hp => List.mem_cons_of_mem _ hp, l8, List.mem_cons_self, ?_⟩
    have e : acVals 3 = 5 :: (rangeKs 1 (3 * 3 - 1 : Int).toNat).eraseIdx 4 := by decide +kernel
    rw [e]
    exact .cons _ _ (ints_erase i8 4)
  · have hj := (ac_in h1 h3 e3).1
    k_steps
    refine hret _ _ _ _ (by k_asm) (by k_asm) ⟨D, _, _, rfl, fun p hp => List.mem_cons_of_mem _ hp, l8, List.mem_cons_self, ?_⟩
    rw [(ac_in h1 h3 e3).2]
    exact i8
end
end N240
end
-- LVals
section
open PySem PySem.W PyProof.Rows PySem.Spec PySem.Calls
namespace N240
variable {w : World} {p : Program} {loose : List Str} {mean : ExcName → Option Value} {mg mb : Str → Option Value}
def kindVals (kd n most : Int) : List Int := if kd = 1 then acVals n else dcVals most
theorem nn_box {n : Int} (h1 : 1 ≤ n) (h3 : n ≤ 3) : 0 ≤ n * n ∧ n * n < 1000 ∧ (n * n - 1).toNat < 1000 := by rcases int3u h1 h3 with rfl | rfl | rfl <;> decide
theorem mo_box {n : Int} (h0 : 0 ≤ n) (h2 : n ≤ 2) : 0 ≤ 16 * n + 16 ∧ 16 * n + 16 < 1000 ∧ (16 * n + 16 - 0).toNat < 1000 := by rcases int3 h0 h2 with rfl | rfl | rfl <;> decide
theorem kv_one {kd n most : Int} (hq : kd = 1) (h1 : 1 ≤ n) (h3 : n ≤ 3) : kindVals kd n most = (List.replicate (if decide (5 < n * n) = true then (1 : Int) else 0).toNat [5]).flatten ++ filTo 1 (fun v => decide (v ≠ 5)) (n * n - 1).toNat := by
  unfold kindVals
  rw [if_pos hq]
  rcases int3u h1 h3 with rfl | rfl | rfl <;> decide +kernel
theorem kv_zero {kd n most : Int} (hq : ¬ kd = 1) (h0 : 0 ≤ most) (h2 : most ≤ 2) : kindVals kd n most = [16] ++ filTo 0 (fun v => decide (v % 16 ≤ v / 16) && decide (v ≠ 16)) (16 * most + 16 - 0).toNat := by
  unfold kindVals
  rw [if_neg hq]
  rcases int3 h0 h2 with rfl | rfl | rfl <;> decide +kernel
theorem pick_yes {a : Int} {p : Int → Bool} {i : Nat} {ys : List Value} {tv : Tok} (h : p (a + (i : Int) * 1) = true) (hys : IntsAre ys (filTo a p i)) : IntsAre (ys ++ [.int (a + (i : Int) * 1) tv]) (filTo a p (i + 1)) := by
  rw [Int.mul_one] at *
  rw [filTo_succ, if_pos h]
  exact hys.append (.cons _ _ .nil)
theorem pick_no {a : Int} {p : Int → Bool} {i : Nat} {ys : List Value} (h : p (a + (i : Int) * 1) = false) (hys : IntsAre ys (filTo a p i)) : IntsAre ys (filTo a p (i + 1)) := by
  rw [Int.mul_one] at h
  rw [filTo_succ, if_neg (by rw [h]; decide), List.append_nil]
  exact hys
theorem rep_len {b : Bool} {v : Value} : (List.replicate (if b = true then (1 : Int) else 0).toNat [v]).flatten.length ≤ 1 := by cases b <;> simp
theorem dc_yes {k : Int} (h : k.fmod 16 ≤ k.fdiv 16) (hne : ¬ k = 16) : (decide (k % 16 ≤ k / 16) && decide (k ≠ 16)) = true := by
  rw [Int.fmod_eq_emod_of_nonneg _ (by decide), Int.fdiv_eq_ediv_of_nonneg _ (by decide)] at h
  rw [decide_eq_true h, decide_eq_true hne]
  rfl
theorem dc_no {k : Int} (h : ¬ k.fmod 16 ≤ k.fdiv 16) : (decide (k % 16 ≤ k / 16) && decide (k ≠ 16)) = false := by
  rw [Int.fmod_eq_emod_of_nonneg _ (by decide), Int.fdiv_eq_ediv_of_nonneg _ (by decide)] at h
  rw [decide_eq_false h]
  rfl
section
set_option maxRecDepth 100000 in
set_option maxHeartbeats 8000000 in
theorem lv_ok {kd n most : Int} {t t1 t2 : Tok} {R : Led} (hkd : kd = 0 ∨ kd = 1) (h1 : 1 ≤ n) (h3 : n ≤ 3) (h0 : 0 ≤ most) (h2 : most ≤ 2) : FnOk w p loose mean mg mb 2 16 (.ref 120) [.int kd t, .int n t1, .int most t2] R (NewInts R (kindVals kd n most)) := by
  unfold FnOk
  intro dp un gd cn cs a ccd cl outer A₀ base h₀ L m s Q E B F X N T hk hd hu hret
  w_top off
  have hFill : PySem.Challenge.rw_nz0240_01 = PySem.Challenge.rw_nz0240_01 ∧ N240.hd.heap_39 = N240.hd.heap_39 → True := fun _ => trivial
  (first | (revert hFill; k_fill; intro hFill; clear hFill))
  refine wpAny_call ?_
  k_dflt (refine' code_def ?k1 ?k2 ?k3 ?k4 ?k5 ?kA ?kF ?kK ?k6 ?k7 ?k8 ?k9 ?kB ?_ ?c2 ?c3 ?c4 ?c5; (case kA => exact rfl); (case kF => exact rfl); (case kK => assumption); (case k1 => k_asm); (case k2 => k_asm); (case k3 => k_asm); (case k4 => k_asm); (case k5 => k_asm); (case k6 => k_is); (case k7 => k_is); (case k8 => ktr_room); (case k9 => exact BindsTo.of_eq rfl); (case c5 => decide); (case kB => exact locs rfl); (case c2 => exact rfl); (case c3 => exact rfl); (case c4 => exact rfl); k_whole)
  intro g' L' h' FG' F' N' B' X' T'
  (try dsimp only)
  ((try show wpAny _ _ _ _ _ _); (try k_fold))
  replace F' : Fr g' L' h' (fun y => List.lookup y [(Str.ofString "most", Value.int most t2), (Str.ofString "n", Value.int n t1), (Str.ofString "kind", Value.int kd t)]) := F'
  repeat' ((fail_if_success (with_reducible show wpAny _ _ (eval (Expr.ListComp _ _ _ _) _) _ _ _)); (first | (k_unfold; (try dsimp only)) | (k_end; wrow_close) | walk1 | (dsimp only; walk1) | (leave1; walk_say "STEP leave1"; try dsimp only)))
  · rename_i hq la ha Fa Na lta Db hb Fb Nb ib nb sb eb1 eb2 eb3 ltb
    have hnn := nn_box h1 h3
    k_dflt (refine' comp_if (x := Str.ofString "value") (h₀ := g') (L := L') (by assumption) ?hclos ?hcell ?hkind ?hnames ?hx ?_ ?hs; (case hclos => with_unfolding_all rfl); (case hcell => decide); (case hkind => rfl); (case hnames => decide); (case hx => rfl); (case hs => intro _; with_unfolding_all rfl))
    repeat' ((fail_if_success (with_reducible show wpAny _ _ (pyIter _) _ _ _)); (first | (k_unfold; (try dsimp only)) | (k_end; wrow_close) | walk1 | (dsimp only; walk1) | (leave1; walk_say "STEP leave1"; try dsimp only)))
    clear Fb Nb
    rename_i h10 tk10 tt1 tt2 tt3 r10 F10 N10 k10
    k_dflt (refine' iter_rangeA ?ha F10 N10 r10 ?hb ?hb0 ?hb1 ?hc ?_; (case ha => rfl); (case hb => decide); (case hb0 => exact hnn.1); (case hb1 => exact hnn.2.1); (case hc => decide))
    intro I1 H1 F1 N1 hI1 hI2 hI3 hI4 W1 st1
    refine ⟨I1, _, _, _, _, [], PickI _ 1 (fun v => decide (v ≠ 5)), rfl, (fun _ _ _ _ _ h => nomatch h), W1, rangeiter_liveA, ?_, st1, hI1, hI2, hI3, fun p hp => Nat.ne_of_lt (hI4 p hp), F1, N1, ⟨rfl, .nil⟩, ?_, ?_⟩
    · exact line_of_small hnn.2.2
    · intro i v ys nx C D oC oD oI H tk mC E' hin hP hlen hHi1 hoff hCD hCI hDI F3 N3 hC hk3
      first | (have hE1 := (And.left hHi1); subst hE1; have hys := (And.right hHi1); try clear hHi1) | (obtain ⟨rfl, hys⟩ := hHi1)
      first | (have hE2 := (And.right hP); subst hE2; have tv := (And.left hP); try clear hP) | (obtain ⟨tv, rfl⟩ := hP)
      refine wpAny_tests_one ?_
      ((try show wpAny _ _ _ _ _ _); (try k_fold))
      k_steps
      · rename_i hne
        refine ⟨H, _, _, rfl, F3, N3, hoff, rfl, ?_⟩
        exact pick_yes (decide_eq_true hne) hys
      · rename_i heq
        refine ⟨H, _, _, rfl, F3, N3, hoff, rfl, ?_⟩
        exact pick_no (decide_eq_false fun h => h heq) hys
    intro D1 ys1 nD1 nx1 H1' tk1' hlen1 hHi3 hD1 F5 N5
    ((try show wpAny _ _ _ _ _ _); (try k_fold))
    first | (have hE3 := (And.left hHi3); subst hE3; have hys1 := (And.right hHi3); try clear hHi3) | (obtain ⟨rfl, hys1⟩ := hHi3)
    (try dsimp only)
    ((try show wpAny _ _ _ _ _ _); (try k_fold))
    have hzz : (List.replicate (if decide (5 < n * n) = true then (1 : Int) else 0).toNat [Value.int 5 tk]).flatten.length + ys1.length ≤ sizeLine := line_small (Nat.le_trans (Nat.add_le_add rep_len (Nat.le_trans hlen1 (Nat.le_of_lt_succ hnn.2.2))) (by decide))
    clear eb1 eb2 eb3 sb
    k_steps
    refine hret _ _ _ _ (by k_asm) (by k_asm) ⟨_, _, _, rfl, fun p hp => by simp [hp], fun p hp => ?_, List.mem_cons_self, ?_⟩
    · exact news_lt N5 p (by simp [hp])
    · rw [kv_one hq h1 h3]
      exact ib.append hys1
  · rename_i hq la ha Fa Na lta
    have hnn := mo_box h0 h2
    k_dflt (refine' comp_if (x := Str.ofString "value") (h₀ := g') (L := L') (by assumption) ?hclos ?hcell ?hkind ?hnames ?hx ?_ ?hs; (case hclos => with_unfolding_all rfl); (case hcell => decide); (case hkind => rfl); (case hnames => decide); (case hx => rfl); (case hs => intro _; with_unfolding_all rfl))
    repeat' ((fail_if_success (with_reducible show wpAny _ _ (pyIter _) _ _ _)); (first | (k_unfold; (try dsimp only)) | (k_end; wrow_close) | walk1 | (dsimp only; walk1) | (leave1; walk_say "STEP leave1"; try dsimp only)))
    clear Fa Na
    rename_i h10 tk10 tt1 tt2 tt3 r10 F10 N10 k10
    k_dflt (refine' iter_rangeA ?ha F10 N10 r10 ?hb ?hb0 ?hb1 ?hc ?_; (case ha => rfl); (case hb => decide); (case hb0 => exact hnn.1); (case hb1 => exact hnn.2.1); (case hc => decide))
    intro I1 H1 F1 N1 hI1 hI2 hI3 hI4 W1 st1
    refine ⟨I1, _, _, _, _, [], PickI _ 0 (fun v => decide (v % 16 ≤ v / 16) && decide (v ≠ 16)), rfl, (fun _ _ _ _ _ h => nomatch h), W1, rangeiter_liveA, ?_, st1, hI1, hI2, hI3, fun p hp => Nat.ne_of_lt (hI4 p hp), F1, N1, ⟨rfl, .nil⟩, ?_, ?_⟩
    · exact line_of_small hnn.2.2
    · intro i v ys nx C D oC oD oI H tk mC E' hin hP hlen hHi4 hoff hCD hCI hDI F3 N3 hC hk3
      first | (have hE4 := (And.left hHi4); subst hE4; have hys := (And.right hHi4); try clear hHi4) | (obtain ⟨rfl, hys⟩ := hHi4)
      first | (have hE5 := (And.right hP); subst hE5; have tv := (And.left hP); try clear hP) | (obtain ⟨tv, rfl⟩ := hP)
      refine wpAny_tests_one ?_
      ((try show wpAny _ _ _ _ _ _); (try k_fold))
      k_steps
      · rename_i hle hne
        refine ⟨H, _, _, rfl, F3, N3, hoff, rfl, ?_⟩
        exact pick_yes (p := fun v => decide (v % 16 ≤ v / 16) && decide (v ≠ 16)) (dc_yes hle hne) hys
      · rename_i hle heq
        refine ⟨H, _, _, rfl, F3, N3, hoff, rfl, ?_⟩
        exact pick_no (p := fun v => decide (v % 16 ≤ v / 16) && decide (v ≠ 16)) (by rw [heq]; decide) hys
      · rename_i hle
        refine ⟨H, _, _, rfl, F3, N3, hoff, rfl, ?_⟩
        exact pick_no (p := fun v => decide (v % 16 ≤ v / 16) && decide (v ≠ 16)) (dc_no hle) hys
    intro D1 ys1 nD1 nx1 H1' tk1' hlen1 hHi6 hD1 F5 N5
    ((try show wpAny _ _ _ _ _ _); (try k_fold))
    first | (have hE6 := (And.left hHi6); subst hE6; have hys1 := (And.right hHi6); try clear hHi6) | (obtain ⟨rfl, hys1⟩ := hHi6)
    (try dsimp only)
    ((try show wpAny _ _ _ _ _ _); (try k_fold))
    k_steps
    refine hret _ _ _ _ (by k_asm) (by k_asm) ⟨_, _, _, rfl, fun p hp => by simp [hp], fun p hp => ?_, List.mem_cons_self, ?_⟩
    · exact news_lt N5 p (by simp [hp])
    · rw [kv_zero hq h0 h2]
      exact IntsAre.append (.cons _ _ .nil) hys1
end
end N240
end
end
end
-- Costs
section
open PySem PySem.W PyProof.Rows PySem.Spec PySem.Calls
namespace N240
variable {w : World} {p : Program} {loose : List Str} {mean : ExcName → Option Value} {mg mb : Str → Option Value}
def keyVals (n most : Int) (k : List Int) : List Int := kindVals (k.headD 0) n most
def GoodTab (n most : Int) (T : List (List Int × List (Int × Int))) : Prop := ∀ r ∈ T, GoodRow (keyVals n most r.1) r.2
def GoodKeys (ks : List (List Int)) : Prop := ks.Nodup ∧ ks.length ≤ 6 ∧ ∀ k ∈ ks, ∃ kd sl, k = [kd, sl] ∧ (kd = 0 ∨ kd = 1)
/-- between the turns over the keys -/
inductive CostI (w : World) (rest : Led) (src d : Addr) (ks : List (List Int)) (n most : Int) (i : Nat) (u : Unit) (nx : Led) : Prop
  | mk (k : ∀ p ∈ rest, p ∈ nx) (s : SrcIn src nx) (o : Obj) (T : List (List Int × List (Int × Int))) (m : (d, o) ∈ nx) (h : TabO w nx o T) (e : T.map (·.1) = ks.take i) (g : GoodTab n most T) : CostI w rest src d ks n most i u nx
theorem CostI.up {w : World} {rest : Led} {src d b : Addr} {ks : List (List Int)} {n most : Int} (hK : ∀ p ∈ rest, p.1 < b) (hs : src < b) (hd : d < b) :
    ∀ i c R R', (∀ p ∈ R, Solid p.2 ∨ p.1 < b → p ∈ R') → CostI w rest src d ks n most i c R → CostI w rest src d ks n most i c R' := by
  intro i c R R' hx hHi1
  first | (have a := (And.left hHi1); have e := (And.left (And.right hHi1)); have o := (And.left (And.right (And.right hHi1))); have T := (And.left (And.right (And.right (And.right hHi1)))); have f := (And.left (And.right (And.right (And.right (And.right hHi1))))); have g := (And.left (And.right (And.right (And.right (And.right (And.right hHi1)))))); have h := (And.left (And.right (And.right (And.right (And.right (And.right (And.right hHi1))))))); have j := (And.right (And.right (And.right (And.right (And.right (And.right (And.right hHi1))))))); try clear hHi1) | (refine hideE fun GG hGG => ?_; obtain ⟨a, e, o, T, f, g, h, j⟩ := hHi1; refine hGG ?_; clear hGG GG)
  exact ⟨fun p hp => hx p (a p hp) (.inr (hK p hp)), e.mono fun p hp q => hx p hp (.inr (q ▸ hs)), o, T, hx _ f (.inr hd), g.mono fun p hp q => hx p hp (.inl (q.elim (fun q => solid_cls q) fun q => solid_cls q)), h, j⟩
/-- between the turns over the values -/
inductive RowI (w : World) (K : Led) (src D : Addr) (vs : List Int) (j : Nat) (u : Unit) (nx : Led) : Prop
  | mk (k : ∀ p ∈ K, p ∈ nx) (s : SrcIn src nx) (oi : Obj) (kvs : List (Int × Value)) (row : List (Int × Int)) (m : (D, oi) ∈ nx) (d : oi.IsDictOf (iK w) kvs) (r : RowP kvs row) (g : GoodRow (vs.take j) row) : RowI w K src D vs j u nx
theorem RowI.up {w : World} {K : Led} {src D b : Addr} {vs : List Int} (hK : ∀ p ∈ K, p.1 < b) (hs : src < b) (hd : D < b) :
    ∀ i c R R', (∀ p ∈ R, Solid p.2 ∨ p.1 < b → p ∈ R') → RowI w K src D vs i c R → RowI w K src D vs i c R' := by
  intro i c R R' hx hHi2
  first | (have a := (And.left hHi2); have e := (And.left (And.right hHi2)); have o := (And.left (And.right (And.right hHi2))); have kvs := (And.left (And.right (And.right (And.right hHi2)))); have row := (And.left (And.right (And.right (And.right (And.right hHi2))))); have f := (And.left (And.right (And.right (And.right (And.right (And.right hHi2)))))); have g := (And.left (And.right (And.right (And.right (And.right (And.right (And.right hHi2))))))); have g2 := (And.left (And.right (And.right (And.right (And.right (And.right (And.right (And.right hHi2)))))))); have g3 := (And.right (And.right (And.right (And.right (And.right (And.right (And.right (And.right hHi2)))))))); try clear hHi2) | (refine hideE fun GG hGG => ?_; obtain ⟨a, e, o, kvs, row, f, g, g2, g3⟩ := hHi2; refine hGG ?_; clear hGG GG)
  exact ⟨fun p hp => hx p (a p hp) (.inr (hK p hp)), e.mono fun p hp q => hx p hp (.inr (q ▸ hs)), o, kvs, row, hx _ f (.inr hd), g, g2, g3⟩
/-- what the table's making leaves -/
inductive CostsP (w : World) (rest : Led) (src : Addr) (ks : List (List Int)) (n most : Int) (v : Value) (news' : Led) : Prop
  | mk (d : Addr) (o : Obj) (T : List (List Int × List (Int × Int))) (e : v = .ref d) (lo : (d == sysModules) = false) (k : ∀ p ∈ rest, p ∈ news') (s : SrcIn src news') (l : ∀ q ∈ rest, q.1 ≠ d) (m : (d, o) ∈ news') (t : TabO w news' o T) (ek : T.map (·.1) = ks) (g : GoodTab n most T) : CostsP w rest src ks n most v news'
theorem kindVals_nodup (kd n most : Int) : (kindVals kd n most).Nodup := by
  unfold kindVals acVals dcVals
  split
  · split
    · decide
    · split <;> decide
  · split
    · decide
    · split <;> decide
theorem kindVals_len (kd n most : Int) : (kindVals kd n most).length ≤ 8 := by
  unfold kindVals acVals dcVals
  split
  · split
    · decide
    · split <;> decide
  · split
    · decide
    · split <;> decide
theorem lt_of_src {src b : Addr} {R : Led} (h : SrcIn src R) (hl : ∀ p ∈ R, p.1 < b) : src < b := by
  cases h with | mk _ _ _ _ _ _ _ _ hm => exact hl _ hm
section
set_option maxRecDepth 100000 in
set_option maxHeartbeats 8000000 in
theorem costs_ok {src K : Addr} {dg mx n most : Int} {td tm tn tmo : Tok} {nS : Nat} {ks : List (List Int)} {rest : Led} (hd0 : 0 ≤ dg) (hm0 : 0 ≤ mx) (hm1 : mx < 2147483647) (ho : ∀ q ∈ rest, q.1 ≠ src) (h1 : 1 ≤ n) (h3 : n ≤ 3) (h0 : 0 ≤ most) (h2 : most ≤ 2)
    (hK : KeysAt w rest K ks) (hg : GoodKeys ks) :
    FnOk w p loose mean mg mb 4 40 (.ref 127) [.ref src, .ref K, .int n tn, .int most tmo] ((src, W.listOf #[.int dg td, .int mx tm] nS) :: rest)
      (CostsP w rest src ks n most) := by
  first | (have vsK := (And.left hK); have nK := (And.left (And.right hK)); have mK := (And.left (And.right (And.right hK))); have pK := (And.right (And.right (And.right hK))); try clear hK) | (refine hideE fun GG hGG => ?_; obtain ⟨vsK, nK, mK, pK⟩ := hK; refine hGG ?_; clear hGG GG)
  unfold FnOk
  intro dp un gd cn cs a ccd cl outer A₀ base h₀ L m s Q E B F X N T hk hd hu hret
  w_top off
  have hFill : PySem.Challenge.rw_nz0240_01 = PySem.Challenge.rw_nz0240_01 ∧ N240.hd.heap_39 = N240.hd.heap_39 → True := fun _ => trivial
  (first | (revert hFill; k_fill; intro hFill; clear hFill))
  refine wpAny_call ?_
  k_dflt (refine' code_def ?k1 ?k2 ?k3 ?k4 ?k5 ?kA ?kF ?kK ?k6 ?k7 ?k8 ?k9 ?kB ?_ ?c2 ?c3 ?c4 ?c5; (case kA => exact rfl); (case kF => exact rfl); (case kK => assumption); (case k1 => k_asm); (case k2 => k_asm); (case k3 => k_asm); (case k4 => k_asm); (case k5 => k_asm); (case k6 => k_is); (case k7 => k_is); (case k8 => ktr_room); (case k9 => exact BindsTo.of_eq rfl); (case c5 => decide); (case kB => exact locs rfl); (case c2 => exact rfl); (case c3 => exact rfl); (case c4 => exact rfl); k_whole)
  intro g' L' h' FG' F' N' B' X' T'
  (try dsimp only)
  ((try show wpAny _ _ _ _ _ _); (try k_fold))
  replace F' : Fr g' L' h' (fun y => List.lookup y [(Str.ofString "most", Value.int most tmo), (Str.ofString "n", Value.int n tn), (Str.ofString "keys", Value.ref K), (Str.ofString "source", Value.ref src)]) := F'
  repeat' ((fail_if_success (with_reducible show wpAny _ _ (exec (Stmt.For _ _ _ _ _) _) _ _ _)); (first | (k_unfold; (try dsimp only)) | (k_end; wrow_close) | walk1 | (dsimp only; walk1) | (leave1; walk_say "STEP leave1"; try dsimp only)))
  rename_i df h8 od lo8 hs8 fs8 hi8 fi8 l8 h9 F9 N9
  have hdl := allLt_iff (R := (src, W.listOf #[.int dg td, .int mx tm] nS) :: rest) l8
  with_unfolding_all refine For_invVF F9 (by rfl) (by rfl) ?_
  repeat' ((fail_if_success (with_reducible show wpAny _ _ (pyIter _) _ _ _)); (first | (k_unfold; (try dsimp only)) | (k_end; wrow_close) | walk1 | (dsimp only; walk1) | (leave1; walk_say "STEP leave1"; try dsimp only)))
  have lt9 := news_lt N9
  refine loop_keys pK (x := Str.ofString "key") (fun _ => []) [Str.ofString "key", Str.ofString "value"] (CostI w rest src df ks n most) () (CostI.up (fun p hp => lt9 p (by simp [hp])) (lt9 (src, W.listOf #[.int dg td, .int mx tm] nS) (by simp)) (lt9 (df, od) (by simp))) rfl (vs := vsK) (nn := nK) (by simp [mK]) F9 N9
    ⟨fun p hp => by simp [hp], ⟨dg, mx, td, tm, nS, hd0, hm0, hm1, by simp⟩, od, [], by simp, ⟨[], TObj.empty hi8, (fun _ h => nomatch h), .nil⟩, rfl, (fun _ h => nomatch h)⟩ (fun _ h => nomatch h) ?_ ?_
  · intro i t kd sl tkd tsl nt c nx u h6 tk6 hki hv hkm hl6 hHi4 F6 N6
    ((try show wpAny _ _ _ _ _ _); (try k_fold))
    first | (have hK6 := (And.left hHi4); have hS6 := (And.left (And.right hHi4)); have o6 := (And.left (And.right (And.right hHi4))); have T6 := (And.left (And.right (And.right (And.right hHi4)))); have hd6 := (And.left (And.right (And.right (And.right (And.right hHi4))))); have hT6 := (And.left (And.right (And.right (And.right (And.right (And.right hHi4)))))); have hTk := (And.left (And.right (And.right (And.right (And.right (And.right (And.right hHi4))))))); have hTg := (And.right (And.right (And.right (And.right (And.right (And.right (And.right hHi4))))))); try clear hHi4) | (refine hideE fun GG hGG => ?_; obtain ⟨hK6, hS6, o6, T6, hd6, hT6, hTk, hTg⟩ := hHi4; refine hGG ?_; clear hGG GG)
    have hHi5 := hg.2.2 _ (List.mem_of_getElem? hki)
    first | (have kd' := (And.left hHi5); have sl' := (And.left (And.right hHi5)); have ek := (And.left (And.right (And.right hHi5))); have hkd := (And.right (And.right (And.right hHi5))); try clear hHi5) | (refine hideE fun GG hGG => ?_; obtain ⟨kd', sl', ek, hkd⟩ := hHi5; refine hGG ?_; clear hGG GG)
    have ek2 : kd' = kd ∧ sl' = sl := by simpa using ek.symm
    rw [ek2.1] at hkd
    have hkm6 := hK6 _ hkm
    have hHi6 := reform N6 hd6
    first | (have R7 := (And.left hHi6); have hkeep7 := (And.left (And.right hHi6)); have hsub7 := (And.left (And.right (And.right hHi6))); have hne7 := (And.left (And.right (And.right (And.right hHi6)))); have N7 := (And.right (And.right (And.right (And.right hHi6)))); try clear hHi6) | (refine hideE fun GG hGG => ?_; obtain ⟨R7, hkeep7, hsub7, hne7, N7⟩ := hHi6; refine hGG ?_; clear hGG GG)
    replace F6 : Fr g' L' h6 _ := F6
    replace N7 : News g' L' h6 _ := N7
    have hneK : ∀ p ∈ rest, p.1 ≠ df := fun p hp => Nat.ne_of_lt (hdl p (List.mem_cons_of_mem _ hp))
    have K7 : ∀ p ∈ rest, p ∈ R7 := fun p hp => hkeep7 p (hK6 p hp) (hneK p hp)
    have q1 := K7 _ hkm
    clear F9 N9
    ((try show wpAny _ _ _ _ _ _); (try k_fold))
    repeat' ((fail_if_success (with_reducible show wpAny _ _ (setItem _ _ _) _ _ _)); (first | (k_unfold; (try dsimp only)) | (k_end; wrow_close) | walk1 | (dsimp only; walk1) | (leave1; walk_say "STEP leave1"; try dsimp only)))
    rename_i Di hD oD FD ND loD hsD fsD hiD fiD lD
    first | (have xs6 := (And.left hT6); have to6 := (And.left (And.right hT6)); have ki6 := (And.left (And.right (And.right hT6))); have pr6 := (And.right (And.right (And.right hT6))); try clear hT6) | (refine hideE fun GG hGG => ?_; obtain ⟨xs6, to6, ki6, pr6⟩ := hT6; refine hGG ?_; clear hGG GG)
    have hxs := Paired.keysT pr6
    have hnk : [kd, sl] ∉ xs6.map (·.1) := by rw [hxs, hTk]; exact not_mem_take hg.1 hki
    have hlen6 : xs6.length ≤ 1000 := by
      have e1 := pr6.length
      have e2 : T6.length = (ks.take i).length := by rw [← hTk, List.length_map]
      rw [List.length_take] at e2
      exact min_le (e1.trans e2) (Nat.le_trans hg.2.1 (by decide))
    have tup7 : ∀ p ∈ nx, p.2.cls = .type "tuple" → p ∈ R7 := fun p hp hc => hkeep7 p hp fun e => by
      have := news_fun N6 (a := df) (by rw [← e]; exact hp) hd6
      rw [this] at hc
      exact dict_ne_tuple to6.cls hc
    refine td_set (o := o6) (xs := xs6) (k := [kd, sl]) ?hu FD ND (UpdF.tail ?ne (UpdF.head fun p hp => hne7 p hp)) to6 (ki6.mono fun p hp hc => List.mem_cons_of_mem _ (List.mem_cons_of_mem _ (tup7 p hp hc))) ⟨t, kd, sl, tkd, tsl, nt, rfl, rfl, List.mem_cons_of_mem _ (List.mem_cons_of_mem _ q1)⟩ (line_small hlen6) ?_
    case hu => first | k_units | ktr_units
    case ne => exact Ne.symm (Nat.ne_of_lt lD.1)
    intro hE oE tkE toE FE NE
    (try dsimp only at NE)
    rw [storedH_new (atKey_new hnk)] at toE
    (try dsimp only)
    repeat' ((fail_if_success (with_reducible show wpAny _ _ (call (Value.ref 120) _) _ _ _)); (first | (k_unfold; (try dsimp only)) | (k_end; wrow_close) | walk1 | (dsimp only; walk1) | (leave1; walk_say "STEP leave1"; try dsimp only)))
    k_dflt (refine' FnOk.useH ?k1 ?k2 ?k3 ?k4 ?k5 ?kK (lv_ok hkd h1 h3 h0 h2) ?kd ?ku ?_; (case k1 => k_asm); (case k2 => k_asm); (case k3 => k_asm); (case k4 => k_asm); (case k5 => k_asm); (case kK => first | exact rfl | assumption); (case kd => ktr_room); (case ku => ktr_units))
    intro GG hGG vv newsV hV tkV FV NV hHi8
    first | (have hE1 := (And.left (And.right (And.right (And.right hHi8)))); subst hE1; have aV := (And.left hHi8); have vsV := (And.left (And.right hHi8)); have nV := (And.left (And.right (And.right hHi8))); have keepV := (And.left (And.right (And.right (And.right (And.right hHi8))))); have ltV := (And.left (And.right (And.right (And.right (And.right (And.right hHi8)))))); have mV := (And.left (And.right (And.right (And.right (And.right (And.right (And.right hHi8))))))); have iV := (And.right (And.right (And.right (And.right (And.right (And.right (And.right hHi8))))))); try clear hHi8) | (obtain ⟨aV, vsV, nV, rfl, keepV, ltV, mV, iV⟩ := hHi8)
    refine hGG _ _ _ ?_
    clear hGG GG
    repeat' ((fail_if_success (with_reducible show wpAny _ _ (pyIter _) _ _ _)); (first | (k_unfold; (try dsimp only)) | (k_end; wrow_close) | walk1 | (dsimp only; walk1) | (leave1; walk_say "STEP leave1"; try dsimp only)))
    have eDs : src ≠ Di := Nat.ne_of_lt (lt_of_src (SrcIn.mono hS6 fun p hp hc => hkeep7 p hp (by rw [hc]; exact Nat.ne_of_lt (hdl _ List.mem_cons_self))) fun p hp => allLt_iff lD.2 p hp)
    have edf : src ≠ df := Nat.ne_of_lt (hdl _ List.mem_cons_self)
    have hSV : SrcIn src newsV := (SrcIn.mono hS6 fun p hp hc => hkeep7 p hp (by rw [hc]; exact edf)).mono fun p hp _ => keepV p (List.mem_cons_of_mem _ (List.mem_cons_of_mem _ hp))
    have hHi9 : ∃ Kst : Led, (∀ p ∈ Kst, p ∈ newsV) ∧ (∀ p ∈ Kst, p.1 ≠ src ∧ p.1 ≠ Di) ∧ ∀ p ∈ newsV, p.1 ≠ src → p.1 ≠ Di → p ∈ Kst := ⟨off src (off Di newsV), fun p hp => (of_off (of_off hp).1).1, fun p hp => ⟨off_ne p hp, (of_off (of_off hp).1).2⟩, fun p hp h1 h2 => mem_off (mem_off hp h2) h1⟩
    first | (have Kst := (And.left hHi9); have hKst := (And.left (And.right hHi9)); have neKst := (And.left (And.right (And.right hHi9))); have mKst := (And.right (And.right (And.right hHi9))); try clear hHi9) | (refine hideE fun GG hGG => ?_; obtain ⟨Kst, hKst, neKst, mKst⟩ := hHi9; refine hGG ?_; clear hGG GG)
    have ltn := news_lt NV
    have mDi : (Di, oD) ∈ newsV := keepV _ List.mem_cons_self
    refine loop_ints iV (x := Str.ofString "value") (fun _ => []) [Str.ofString "value"] (RowI w Kst src Di (kindVals kd n most)) () (RowI.up (fun p hp => ltn p (hKst p hp)) (lt_of_src hSV ltn) (ltn _ mDi)) rfl (vs := vsV) (nn := nV) mV FV NV
      ⟨hKst, hSV, oD, [], [], mDi, hiD, .nil, rfl, (fun _ h => nomatch h)⟩ (fun _ h => nomatch h) ?_ ?_
    · intro j k2 tv c2 nx2 u2 h11 tk11 hk2 hv2 hl11 hHi10 F11 N11
      ((try show wpAny _ _ _ _ _ _); (try k_fold))
      first | (have hK11 := (And.left hHi10); have hS11 := (And.left (And.right hHi10)); have oi := (And.left (And.right (And.right hHi10))); have kvs := (And.left (And.right (And.right (And.right hHi10)))); have row := (And.left (And.right (And.right (And.right (And.right hHi10))))); have hDi := (And.left (And.right (And.right (And.right (And.right (And.right hHi10)))))); have hoi := (And.left (And.right (And.right (And.right (And.right (And.right (And.right hHi10))))))); have hrow := (And.left (And.right (And.right (And.right (And.right (And.right (And.right (And.right hHi10)))))))); have hgood := (And.right (And.right (And.right (And.right (And.right (And.right (And.right (And.right hHi10)))))))); try clear hHi10) | (refine hideE fun GG hGG => ?_; obtain ⟨hK11, hS11, oi, kvs, row, hDi, hoi, hrow, hgood⟩ := hHi10; refine hGG ?_; clear hGG GG)
      first | (have dg2 := (And.left hS11); have mx2 := (And.left (And.right hS11)); have td2 := (And.left (And.right (And.right hS11))); have tm2 := (And.left (And.right (And.right (And.right hS11)))); have nS2 := (And.left (And.right (And.right (And.right (And.right hS11))))); have b1 := (And.left (And.right (And.right (And.right (And.right (And.right hS11)))))); have b2 := (And.left (And.right (And.right (And.right (And.right (And.right (And.right hS11))))))); have b3 := (And.left (And.right (And.right (And.right (And.right (And.right (And.right (And.right hS11)))))))); have hsrc := (And.right (And.right (And.right (And.right (And.right (And.right (And.right (And.right hS11)))))))); try clear hS11) | (refine hideE fun GG hGG => ?_; obtain ⟨dg2, mx2, td2, tm2, nS2, b1, b2, b3, hsrc⟩ := hS11; refine hGG ?_; clear hGG GG)
      have hHi12 := reform2 N11 hsrc hDi eDs
      first | (have R12 := (And.left hHi12); have keep12 := (And.left (And.right hHi12)); have sub12 := (And.left (And.right (And.right hHi12))); have ne12 := (And.left (And.right (And.right (And.right hHi12)))); have N12 := (And.right (And.right (And.right (And.right hHi12)))); try clear hHi12) | (refine hideE fun GG hGG => ?_; obtain ⟨R12, keep12, sub12, ne12, N12⟩ := hHi12; refine hGG ?_; clear hGG GG)
      replace F11 : Fr g' L' h11 _ := F11
      replace N12 : News g' L' h11 _ := N12
      have q2 : (df, oE) ∈ R12 := keep12 _ (hK11 _ (mKst _ (keepV _ (List.mem_cons_of_mem _ List.mem_cons_self)) (Ne.symm edf) (Nat.ne_of_lt lD.1))) (Ne.symm edf) (Nat.ne_of_lt lD.1)
      have ets : t ≠ src := src_ne N6 hS6 hkm6 (.inl rfl)
      have etD : t ≠ Di := Nat.ne_of_lt (allLt_iff lD.2 _ q1)
      have q3 := keep12 _ (hK11 _ (mKst _ (keepV _ (List.mem_cons_of_mem _ (List.mem_cons_of_mem _ q1))) ets etD)) ets etD
      have keysE : KeysIn w ((src, W.listOf #[.int dg2 td2, .int mx2 tm2] nS2) :: (Di, oi) :: R12) (xs6 ++ [([kd, sl], t, Value.ref Di)]) := by
        intro x hx
        rcases List.mem_append.mp hx with hx | hx
        · refine (ki6 x hx).mono fun p hp hc => List.mem_cons_of_mem _ (List.mem_cons_of_mem _ ?_)
          have h7 := tup7 p hp hc
          have hD := Nat.ne_of_lt (allLt_iff lD.2 p h7)
          have hs : p.1 ≠ src := src_ne N6 hS6 hp (.inl hc)
          exact keep12 p (hK11 _ (mKst _ (keepV _ (List.mem_cons_of_mem _ (List.mem_cons_of_mem _ h7))) hs hD)) hs hD
        · rw [List.mem_singleton.mp hx]
          exact ⟨t, kd, sl, tkd, tsl, nt, rfl, rfl, List.mem_cons_of_mem _ (List.mem_cons_of_mem _ q3)⟩
      clear NE FV ND FD
      ((try show wpAny _ _ _ _ _ _); (try k_fold))
      repeat' ((fail_if_success (with_reducible show wpAny _ _ (call (Value.ref 103) _) _ _ _)); (first | (k_unfold; (try dsimp only)) | (k_end; wrow_close) | walk1 | (dsimp only; walk1) | (leave1; walk_say "STEP leave1"; try dsimp only)))
      k_dflt (refine' FnOk.useH ?k1 ?k2 ?k3 ?k4 ?k5 ?kK (take_okU ?kU ?kp ?kq ?kr ?ks ?kt) ?kd ?ku ?_; (case k1 => k_asm); (case k2 => k_asm); (case k3 => k_asm); (case k4 => k_asm); (case k5 => k_asm); (case kK => first | exact rfl | assumption); (case kd => ktr_room); (case ku => ktr_units)); (case kU => exact UpdF.head (head2 eDs ne12)); (case kp => assumption); (case kq => assumption); (case kr => assumption); (case ks => decide); (case kt => decide)
      intro GG hGG _ _ h4 tk4 F4 N4 hHi13
      first | (have hE2 := (And.left (And.right (And.right (And.right (And.right (And.right (And.right (And.right (And.right (And.right (And.right (And.right hHi13)))))))))))); subst hE2; have hE3 := (And.right (And.right (And.right (And.right (And.right (And.right (And.right (And.right (And.right (And.right (And.right (And.right hHi13)))))))))))); subst hE3; have dg4 := (And.left hHi13); have mx4 := (And.left (And.right hHi13)); have td4 := (And.left (And.right (And.right hHi13))); have tm4 := (And.left (And.right (And.right (And.right hHi13)))); have tv4 := (And.left (And.right (And.right (And.right (And.right hHi13))))); have r4 := (And.left (And.right (And.right (And.right (And.right (And.right hHi13)))))); have hdg4 := (And.left (And.right (And.right (And.right (And.right (And.right (And.right hHi13))))))); have hmx4 := (And.left (And.right (And.right (And.right (And.right (And.right (And.right (And.right hHi13)))))))); have hmy4 := (And.left (And.right (And.right (And.right (And.right (And.right (And.right (And.right (And.right hHi13))))))))); have hr4 := (And.left (And.right (And.right (And.right (And.right (And.right (And.right (And.right (And.right (And.right hHi13)))))))))); have hs4 := (And.left (And.right (And.right (And.right (And.right (And.right (And.right (And.right (And.right (And.right (And.right hHi13))))))))))); try clear hHi13) | (obtain ⟨dg4, mx4, td4, tm4, tv4, r4, hdg4, hmx4, hmy4, hr4, hs4, rfl, rfl⟩ := hHi13)
      refine hGG _ _ _ ?_
      clear hGG GG
      (try dsimp only at N4)
      repeat' ((fail_if_success (with_reducible show wpAny _ _ (subscriptTail _ _ _ _) _ _ _)); (first | (k_unfold; (try dsimp only)) | (k_end; wrow_close) | walk1 | (dsimp only; walk1) | (leave1; walk_say "STEP leave1"; try dsimp only)))
      k_dflt (refine' td_get (k := [kd, sl]) (p := (t, Value.ref Di)) (o := oE) (xs := xs6 ++ [([kd, sl], t, Value.ref Di)]) ?hu N4 ?hm toE ?hks ?hk (atKey_last hnk) ?_ ?hs ?ht; (case hu => first | k_units | ktr_units); (case hm => exact List.mem_cons_of_mem _ (List.mem_cons_of_mem _ q2)); (case hks => exact keysE.mono fun p hp hc => by simp only [List.mem_cons] at hp ⊢; rcases hp with h | h | h; (· rw [h] at hc; exact absurd hc list_ne_tuple); (· exact .inr (.inl h)); (· exact .inr (.inr h))); (case hk => exact ⟨t, kd, sl, tkd, tsl, nt, rfl, rfl, List.mem_cons_of_mem _ (List.mem_cons_of_mem _ q3)⟩); (case hs => with_unfolding_all rfl); (case ht => intro _; with_unfolding_all rfl))
      intro tk5
      dsimp only
      repeat' ((fail_if_success (with_reducible show wpAny _ _ (setItem _ _ _) _ _ _)); (first | (k_unfold; (try dsimp only)) | (k_end; wrow_close) | walk1 | (dsimp only; walk1) | (leave1; walk_say "STEP leave1"; try dsimp only)))
      have hkn : k2 ∉ kvs.map (·.1) := by
        rw [RowP.keys hrow, hgood.1]
        exact not_mem_take (kindVals_nodup kd n most) hk2
      have hlk : kvs.length ≤ 1000 := by
        have e1 := hrow.length
        have e2 : row.length = ((kindVals kd n most).take j).length := by rw [← hgood.1, List.length_map]
        rw [List.length_take] at e2
        exact min_le (e1.trans e2) (Nat.le_trans (kindVals_len kd n most) (by decide))
      refine id_set (o := oi) (kvs := kvs) F4 N4 (UpdF.tail eDs (UpdF.head fun p hp => (ne12 p hp).2)) hoi (line_small hlk) ?_
      intro h5 o5 tk55 ho5 F5 N5
      (try dsimp only at N5)
      rw [stored_new hkn] at ho5
      (try dsimp only)
      k_steps
      refine (?_ : LEnd g' L' _ [(aV, W.listOf vsV.toArray nV)] nx2 _ _ _ _ _ _)
      have stay : ∀ p ∈ nx2, p.1 ≠ src → p.1 ≠ Di → p ∈ (src, W.listOf #[.int dg4 td4, .int mx4 tm4] nS2) :: (Di, o5) :: R12 := fun p hp h1 h2 => List.mem_cons_of_mem _ (List.mem_cons_of_mem _ (keep12 p hp h1 h2))
      refine ⟨h5, _, _, _, (), rfl, F5, N5, ?_, ?_, ⟨?_, ⟨dg4, mx4, td4, tm4, nS2, hdg4, hmx4, hmy4, List.mem_cons_self⟩, o5, _, row ++ [(k2, r4)], List.mem_cons_of_mem _ List.mem_cons_self, ho5, Paired.snoc hrow ⟨rfl, tv4, rfl⟩, ?_, ?_⟩, (fun _ h => nomatch h), fun z hz _ hc => fr_same hz hc⟩
      · intro p hp hn
        exact stay p hp (ns_off N11 hsrc solid_list hp hn) (ns_off N11 hDi (solid_cls (iobj_cls hoi)) hp hn)
      · intro p hp
        rw [List.mem_singleton.mp hp]
        exact stay _ hl11 (Ne.symm (Nat.ne_of_lt (lt_of_src (SrcIn.mono hS6 fun p hp hc => hkeep7 p hp (by rw [hc]; exact edf)) fun p hp => ltV p (List.mem_cons_of_mem _ (List.mem_cons_of_mem _ hp))))) (Ne.symm (Nat.ne_of_lt (ltV (Di, oD) List.mem_cons_self)))
      · intro p hp
        exact stay p (hK11 p hp) (neKst p hp).1 (neKst p hp).2
      · rw [List.map_append, hgood.1, List.take_succ, hk2]
        rfl
      · intro e he
        rcases List.mem_append.mp he with he | he
        · exact hgood.2 e he
        · rw [List.mem_singleton.mp he]
          exact ⟨hr4, by dsimp only; omega⟩
    · intro c2 nx2 u2 h11 tk11 hl11 hHi14 F11 N11
      ((try show wpAny _ _ _ _ _ _); (try k_fold))
      first | (have hK11 := (And.left hHi14); have hS11 := (And.left (And.right hHi14)); have oi := (And.left (And.right (And.right hHi14))); have kvs := (And.left (And.right (And.right (And.right hHi14)))); have row := (And.left (And.right (And.right (And.right (And.right hHi14))))); have hDi := (And.left (And.right (And.right (And.right (And.right (And.right hHi14)))))); have hoi := (And.left (And.right (And.right (And.right (And.right (And.right (And.right hHi14))))))); have hrow := (And.left (And.right (And.right (And.right (And.right (And.right (And.right (And.right hHi14)))))))); have hgood := (And.right (And.right (And.right (And.right (And.right (And.right (And.right (And.right hHi14)))))))); try clear hHi14) | (refine hideE fun GG hGG => ?_; obtain ⟨hK11, hS11, oi, kvs, row, hDi, hoi, hrow, hgood⟩ := hHi14; refine hGG ?_; clear hGG GG)
      clear NE FV ND FD
      (try dsimp only)
      k_steps
      refine (?_ : LEnd g' L' _ [(K, W.listOf vsK.toArray nK)] nx _ _ _ _ _ _)
      have toN : ∀ p ∈ R7, p.1 ≠ src → p ∈ nx2 := fun p hp hs => hK11 p (mKst p (keepV p (List.mem_cons_of_mem _ (List.mem_cons_of_mem _ hp))) hs (Nat.ne_of_lt (allLt_iff lD.2 p hp)))
      refine ⟨h11, _, _, nx2, (), rfl, F11, N11, ?_, ?_, ⟨fun p hp => toN p (K7 p hp) (ho p hp), hS11, oE, T6 ++ [([kd, sl], row)], ?_, ⟨_, toE, ?_, Paired.snoc (rows_keep N6 hd6 to6 pr6 ?_) ⟨rfl, Di, oi, kvs, rfl, hDi, hoi, hrow, loD⟩⟩, ?_, ?_⟩, (fun _ h => nomatch h), ?_⟩
      · intro p hp hn
        exact toN p (hkeep7 p hp (ns_off N6 hd6 (solid_cls to6.cls) hp hn)) (by obtain ⟨_, _, _, _, _, _, _, _, hm⟩ := hS6; exact ns_off N6 hm solid_list hp hn)
      · intro p hp
        rw [List.mem_singleton.mp hp]
        exact toN _ (K7 _ mK) (ho _ mK)
      · exact hK11 _ (mKst _ (keepV _ (List.mem_cons_of_mem _ List.mem_cons_self)) (Ne.symm edf) (Nat.ne_of_lt lD.1))
      · intro x hx
        rcases List.mem_append.mp hx with hx | hx
        · exact (ki6 x hx).mono fun p hp hc => toN p (tup7 p hp hc) (src_ne N6 hS6 hp (.inl hc))
        · rw [List.mem_singleton.mp hx]
          exact ⟨t, kd, sl, tkd, tsl, nt, rfl, rfl, toN _ q1 (src_ne N6 hS6 hkm6 (.inl rfl))⟩
      · intro p hp hc hne
        exact toN p (hkeep7 p hp hne) (src_ne N6 hS6 hp (.inr hc))
      · rw [List.map_append, hTk, List.take_succ, hki]
        rfl
      · intro r hr
        rcases List.mem_append.mp hr with hr | hr
        · exact hTg r hr
        · rw [List.mem_singleton.mp hr]
          rw [List.take_of_length_le (Nat.le_of_eq iV.length.symm)] at hgood
          exact hgood
      · intro z hz _ hc
        have hc' : z ≠ Str.ofString "key" ∧ z ≠ Str.ofString "value" := by simpa using hc
        have hc2 : [Str.ofString "value"].contains z = false := by simpa using hc'.2
        dsimp only [kstB]
        rw [if_neg hc'.2, hc2]
        simp only [Bool.false_eq_true, if_false]
        rw [if_neg hc'.1, hc]
        rfl
  · intro c nx u h6 tk6 hl6 hHi15 F6 N6
    ((try show wpAny _ _ _ _ _ _); (try k_fold))
    first | (have hK6 := (And.left hHi15); have hS6 := (And.left (And.right hHi15)); have o6 := (And.left (And.right (And.right hHi15))); have T6 := (And.left (And.right (And.right (And.right hHi15)))); have hd6 := (And.left (And.right (And.right (And.right (And.right hHi15))))); have hT6 := (And.left (And.right (And.right (And.right (And.right (And.right hHi15)))))); have hTk := (And.left (And.right (And.right (And.right (And.right (And.right (And.right hHi15))))))); have hTg := (And.right (And.right (And.right (And.right (And.right (And.right (And.right hHi15))))))); try clear hHi15) | (refine hideE fun GG hGG => ?_; obtain ⟨hK6, hS6, o6, T6, hd6, hT6, hTk, hTg⟩ := hHi15; refine hGG ?_; clear hGG GG)
    replace F6 : Fr g' L' h6 _ := F6
    replace N6 : News g' L' h6 _ := N6
    clear F9 N9
    (try dsimp only)
    k_steps
    refine hret _ nx _ _ (by k_asm) (by k_asm) ⟨df, o6, T6, rfl, lo8, hK6, hS6, fun q hq => Nat.ne_of_lt (hdl q (List.mem_cons_of_mem _ hq)), hd6, hT6, ?_, hTg⟩
    rw [hTk, List.take_of_length_le (Nat.le_of_eq pK.length.symm)]
end
end N240
end
-- Best
section
open PySem PySem.W PyProof.Rows PySem.Spec PySem.Calls
namespace N240
variable {w : World} {p : Program} {loose : List Str} {mean : ExcName → Option Value} {mg mb : Str → Option Value}
/-- the first of the best -/
def bestStep (T : Tab) (toll : Int) (M : CMap) (k : List Int) (b : Option (Int × Int)) (v : Int) : Option (Int × Int) :=
  match b with
  | none => some (v, lsize T toll (M ++ [(k, v)]))
  | some q => if lsize T toll (M ++ [(k, v)]) < q.2 then some (v, lsize T toll (M ++ [(k, v)])) else some q
def bestOf (T : Tab) (toll : Int) (M : CMap) (k : List Int) (ns : List Int) : Option (Int × Int) := ns.foldl (bestStep T toll M k) none
theorem bestOf_succ {T : Tab} {toll : Int} {M : CMap} {k ns : List Int} {i : Nat} {v : Int} (h : ns[i]? = some v) : bestOf T toll M k (ns.take (i + 1)) = bestStep T toll M k (bestOf T toll M k (ns.take i)) v := by
  unfold bestOf
  rw [List.take_succ, h]
  simp
theorem bestOf_some {T : Tab} {toll : Int} {M : CMap} {k ns : List Int} (h : ns ≠ []) : ∃ q, bestOf T toll M k ns = some q := by
  have key : ∀ (l : List Int) (b : Option (Int × Int)), (b.isSome = true ∨ l ≠ []) → (l.foldl (bestStep T toll M k) b).isSome = true := by
    intro l
    induction l with
    | nil => exact fun b h => h.elim id fun h => absurd rfl h
    | cons v r ih =>
      intro b _
      refine ih _ (.inl ?_)
      unfold bestStep
      split
      · rfl
      · split <;> rfl
  exact Option.isSome_iff_exists.mp (key ns none (.inr h))
/-- what the name found holds -/
def FoundV (R : Led) (val : Value) : Option (Int × Int) → Prop
  | none => val = .none
  | some q => Tup2 R val q.1 q.2
theorem FoundV.mono {R R' : Led} {val : Value} {b : Option (Int × Int)} (h : FoundV R val b) (hs : ∀ p ∈ R, p.2.cls = .type "tuple" → p ∈ R') : FoundV R' val b := by
  cases b with
  | none => exact h
  | some q => exact Tup2.mono h hs
/-- between the turns over the values -/
def BestI (w : World) (K R : Led) (bo row cop : Addr) (T : Tab) (toll : Int) (M : CMap) (Ms : List CMap) (k ns : List Int) (i : Nat) (c : Value) (nx : Led) : Prop :=
  AskW w K bo row cop nx (Ms ++ (ns.take i).map fun v => M ++ [(k, v)]) ∧ (∀ q ∈ R, q.1 ≠ row → q.1 ≠ cop → q ∈ nx) ∧ FoundV nx c (bestOf T toll M k (ns.take i))
theorem AskW.mono {w : World} {K : Led} {bo row cop : Addr} {R R' : Led} {Ms : List CMap} (h : AskW w K bo row cop R Ms) (hs : ∀ p ∈ R, p ∈ K ∨ p.1 = row ∨ p.1 = cop ∨ p.2.cls = .type "dict" ∨ p.2.cls = .type "tuple" → p ∈ R') : AskW w K bo row cop R' Ms :=
  ⟨fun p hp => hs p (h.1 p hp) (.inl hp), h.2.1.mono fun p hp hc => hs p hp (.inr (hc.elim .inl fun q => .inr (.inr q))), h.2.2.mono fun p hp hc => hs p hp (.inr (.inr hc))⟩
theorem AskW.off {w : World} {K : Led} {bo row cop : Addr} {R : Led} {Ms : List CMap} {h₀ h : Heap} {L : Addr} (ha : AskW w K bo row cop R Ms) (N : News h₀ L h R) {p : Addr × Obj} (hp : p ∈ R) (hc : ∀ its n, p.2 ≠ W.listOf its n) : p.1 ≠ row ∧ p.1 ≠ cop :=
  ⟨let ⟨_, _, hm, _⟩ := ha.2.1; ne_of_obj N (o := p.2) hp hm (hc _ _), let ⟨_, _, hm, _⟩ := ha.2.2; ne_of_obj N (o := p.2) hp hm (hc _ _)⟩
theorem AskW.tup {w : World} {K : Led} {bo row cop : Addr} {R : Led} {Ms : List CMap} {h₀ h : Heap} {L : Addr} (ha : AskW w K bo row cop R Ms) (N : News h₀ L h R) (p : Addr × Obj) (hp : p ∈ R) (hc : p.2.cls = .type "tuple") : p.1 ≠ row ∧ p.1 ≠ cop :=
  ha.off N hp fun _ _ e => list_ne_tuple (by rw [← e]; exact hc)
theorem AskW.dct {w : World} {K : Led} {bo row cop : Addr} {R : Led} {Ms : List CMap} {h₀ h : Heap} {L : Addr} (ha : AskW w K bo row cop R Ms) (N : News h₀ L h R) (p : Addr × Obj) (hp : p ∈ R) (hc : p.2.cls = .type "dict") : p.1 ≠ row ∧ p.1 ≠ cop :=
  ha.off N hp fun _ _ e => list_ne_dict (by rw [← e]; exact hc)
theorem AskW.solid {w : World} {K : Led} {bo row cop : Addr} {R : Led} {Ms : List CMap} {h₀ h : Heap} {L : Addr} (ha : AskW w K bo row cop R Ms) (N : News h₀ L h R) (p : Addr × Obj) (hp : p ∈ R) (hc : ¬ Solid p.2) : p.1 ≠ row ∧ p.1 ≠ cop :=
  ha.off N hp fun _ _ e => hc (by rw [e]; exact solid_list)
theorem BestI.up {w : World} {K R : Led} {bo row cop b : Addr} {T : Tab} {toll : Int} {M : CMap} {Ms : List CMap} {k ns : List Int} (hK : ∀ p ∈ K, p.1 < b) (hR : ∀ p ∈ R, p.1 < b) (hr : row < b) (hc : cop < b) :
    ∀ i c R1 R2, (∀ p ∈ R1, Solid p.2 ∨ p.1 < b → p ∈ R2) → BestI w K R bo row cop T toll M Ms k ns i c R1 → BestI w K R bo row cop T toll M Ms k ns i c R2 := by
  intro i c R1 R2 hx hHi1
  first | (have a1 := (And.left hHi1); have a2 := (And.left (And.right hHi1)); have a3 := (And.right (And.right hHi1)); try clear hHi1) | (refine hideE fun GG hGG => ?_; obtain ⟨a1, a2, a3⟩ := hHi1; refine hGG ?_; clear hGG GG)
  refine ⟨a1.mono fun p hp hq => hx p hp ?_, fun q hq h1 h2 => hx q (a2 q hq h1 h2) (.inr (hR q hq)), a3.mono fun p hp hq => hx p hp (.inl (solid_cls hq))⟩
  rcases hq with h | h | h | h | h
  · exact .inr (hK p h)
  · exact .inr (h ▸ hr)
  · exact .inr (h ▸ hc)
  · exact .inl (solid_cls h)
  · exact .inl (solid_cls h)
theorem best_new {w : World} {K R : Led} {bo row cop V : Addr} {T : Tab} {toll : Int} {M : CMap} {Ms : List CMap} {k ns : List Int} {vs : List Value} {nV i : Nat} {g h' : Heap} {L' : Addr} {u m₀ : Str → Option Value} {c' c0 sv dv kv : Value} {nx nx' : Led} {s₁ : Shared} {tk : Nat}
    (F' : Fr g L' h' fun y => if y = Str.ofString "found" then some c' else if y = Str.ofString "size" then some sv else if y = Str.ofString "tried" then some dv else if y = Str.ofString "value" then some kv else if y = Str.ofString "found" then some c0 else if [Str.ofString "value", Str.ofString "tried", Str.ofString "size"].contains y = true then u y else m₀ y)
    (N' : News g L' h' nx') (hs : ∀ p ∈ nx, ¬ Solid p.2 → p ∈ nx') (hl : (V, W.listOf vs.toArray nV) ∈ nx') (hI : BestI w K R bo row cop T toll M Ms k ns (i + 1) c' nx') :
    LEnd g L' (Str.ofString "value") [(V, W.listOf vs.toArray nV)] nx (fun c => [(Str.ofString "found", c)]) [Str.ofString "value", Str.ofString "tried", Str.ofString "size"] m₀ (BestI w K R bo row cop T toll M Ms k ns (i + 1)) s₁ { s₁ with heap := h', toks := tk } := by
  refine ⟨h', tk, _, nx', c', rfl, F', N', hs, fun p hp => by rw [List.mem_singleton.mp hp]; exact hl, hI, fun p hp => ?_, fun z hz hn hc => ?_⟩
  · rw [List.mem_singleton.mp hp]
    exact if_pos rfl
  · have hz2 : z ≠ Str.ofString "found" := hn _ List.mem_cons_self
    have hz3 : z ≠ Str.ofString "size" := fun e => by rw [e] at hc; exact absurd hc (by decide)
    have hz4 : z ≠ Str.ofString "tried" := fun e => by rw [e] at hc; exact absurd hc (by decide)
    show (if z = Str.ofString "found" then some c' else if z = Str.ofString "size" then some sv else if z = Str.ofString "tried" then some dv else if z = Str.ofString "value" then some kv else if z = Str.ofString "found" then some c0 else if [Str.ofString "value", Str.ofString "tried", Str.ofString "size"].contains z = true then u z else m₀ z) = _
    rw [if_neg hz2, if_neg hz3, if_neg hz4, if_neg hz, if_neg hz2, hc]
    rfl
theorem best_same {w : World} {K R : Led} {bo row cop V : Addr} {T : Tab} {toll : Int} {M : CMap} {Ms : List CMap} {k ns : List Int} {vs : List Value} {nV i : Nat} {g h' : Heap} {L' : Addr} {u m₀ : Str → Option Value} {c0 sv dv kv : Value} {nx nx' : Led} {s₁ : Shared} {tk : Nat}
    (F' : Fr g L' h' fun y => if y = Str.ofString "size" then some sv else if y = Str.ofString "tried" then some dv else if y = Str.ofString "value" then some kv else if y = Str.ofString "found" then some c0 else if [Str.ofString "value", Str.ofString "tried", Str.ofString "size"].contains y = true then u y else m₀ y)
    (N' : News g L' h' nx') (hs : ∀ p ∈ nx, ¬ Solid p.2 → p ∈ nx') (hl : (V, W.listOf vs.toArray nV) ∈ nx') (hI : BestI w K R bo row cop T toll M Ms k ns (i + 1) c0 nx') :
    LEnd g L' (Str.ofString "value") [(V, W.listOf vs.toArray nV)] nx (fun c => [(Str.ofString "found", c)]) [Str.ofString "value", Str.ofString "tried", Str.ofString "size"] m₀ (BestI w K R bo row cop T toll M Ms k ns (i + 1)) s₁ { s₁ with heap := h', toks := tk } := by
  have hns : Str.ofString "found" ≠ Str.ofString "size" := by decide
  have hnt : Str.ofString "found" ≠ Str.ofString "tried" := by decide
  have hnv : Str.ofString "found" ≠ Str.ofString "value" := by decide
  refine ⟨h', tk, _, nx', c0, rfl, F', N', hs, fun p hp => by rw [List.mem_singleton.mp hp]; exact hl, hI, fun p hp => ?_, fun z hz hn hc => ?_⟩
  · rw [List.mem_singleton.mp hp]
    exact (if_neg hns).trans ((if_neg hnt).trans ((if_neg hnv).trans (if_pos rfl)))
  · have hz2 : z ≠ Str.ofString "found" := hn _ List.mem_cons_self
    have hz3 : z ≠ Str.ofString "size" := fun e => by rw [e] at hc; exact absurd hc (by decide)
    have hz4 : z ≠ Str.ofString "tried" := fun e => by rw [e] at hc; exact absurd hc (by decide)
    show (if z = Str.ofString "size" then some sv else if z = Str.ofString "tried" then some dv else if z = Str.ofString "value" then some kv else if z = Str.ofString "found" then some c0 else if [Str.ofString "value", Str.ofString "tried", Str.ofString "size"].contains z = true then u z else m₀ z) = _
    rw [if_neg hz3, if_neg hz4, if_neg hz, if_neg hz2, hc]
    rfl
section
set_option maxRecDepth 100000 in
set_option maxHeartbeats 400000 in
theorem best_ok {K : Led} {bo row cop f cond tK V : Addr} {Tb : Tab} {toll : Int} {M : CMap} {Ms : List CMap} {k ns : List Int} {vs : List Value} {nV : Nat} {ob : Obj} {R : Led} (hf : AskOk w p loose mean mg mb K row cop f Tb toll) (ha : AskW w K bo row cop R Ms) (lc : (cond == sysModules) = false) (mc : (cond, ob) ∈ R) (hM : MapO w R ob M) (hk0 : KeyV w R (.ref tK) k) (mV : (V, W.listOf vs.toArray nV) ∈ R) (iV : IntsAre vs ns) (h6x : ∀ q ∈ M, q.1 ∈ sixKeys) (hgM : GoodMap Tb M) {ocf : Value} {odf : Option Addr} {fdf : FuncData} {slf : Array (Option Value)} (mf : (f, (⟨ocf, odf, .func fdf, slf⟩ : Obj)) ∈ K) (hgood : ∀ v ∈ ns, GoodMap Tb (M ++ [(k, v)])) (hnk : k ∉ M.map (·.1)) (hk6 : k ∈ sixKeys) (hMs : Ms.length + ns.length ≤ 900) (hVr : V ≠ row) (hVc : V ≠ cop) (hne : ns ≠ []) (hB : bo ≤ cond) :
    FnOk w p loose mean mg mb 8 80 (.ref 42) [.ref cond, .ref tK, .ref V, .ref f] R (fun v R' => AskW w K bo row cop R' (Ms ++ ns.map fun v => M ++ [(k, v)]) ∧ (∀ q ∈ R, q.1 ≠ row → q.1 ≠ cop → q ∈ R') ∧ ∃ q, bestOf Tb toll M k ns = some q ∧ Tup2 R' v q.1 q.2) := by
  unfold FnOk
  intro dp un gd cn cs a ccd cl outer A₀ base h₀ L m s Q E B F X N T hk hd hu hret
  w_top off
  have hFill : PySem.Challenge.rw_nz0240_01 = PySem.Challenge.rw_nz0240_01 ∧ N240.hd.heap_39 = N240.hd.heap_39 → True := fun _ => trivial
  (first | (revert hFill; k_fill; intro hFill; clear hFill))
  refine wpAny_call ?_
  k_dflt (refine' code_def ?k1 ?k2 ?k3 ?k4 ?k5 ?kA ?kF ?kK ?k6 ?k7 ?k8 ?k9 ?kB ?_ ?c2 ?c3 ?c4 ?c5; (case kA => exact rfl); (case kF => exact rfl); (case kK => assumption); (case k1 => k_asm); (case k2 => k_asm); (case k3 => k_asm); (case k4 => k_asm); (case k5 => k_asm); (case k6 => k_is); (case k7 => k_is); (case k8 => ktr_room); (case k9 => exact BindsTo.of_eq rfl); (case c5 => decide); (case kB => exact locs rfl); (case c2 => exact rfl); (case c3 => exact rfl); (case c4 => exact rfl); k_whole)
  intro g' L' h' FG' F' N' B' X' T'
  (try dsimp only)
  ((try show wpAny _ _ _ _ _ _); (try k_fold))
  replace F' : Fr g' L' h' (fun y => List.lookup y [(Str.ofString "size_of", Value.ref f), (Str.ofString "values", Value.ref V), (Str.ofString "key", Value.ref tK), (Str.ofString "conditioning", Value.ref cond)]) := F'
  repeat' ((fail_if_success (with_reducible show wpAny _ _ (exec (Stmt.For _ _ _ _ _) _) _ _ _)); (first | (k_unfold; (try dsimp only)) | (k_end; wrow_close) | walk1 | (dsimp only; walk1) | (leave1; walk_say "STEP leave1"; try dsimp only)))
  rename_i h9 F9 N9
  have lt9 := news_lt N9
  have hHi2 := id ha
  first | (have aK := (And.left hHi2); have aR := (And.left (And.right hHi2)); have aC := (And.right (And.right hHi2)); try clear hHi2) | (refine hideE fun GG hGG => ?_; obtain ⟨aK, aR, aC⟩ := hHi2; refine hGG ?_; clear hGG GG)
  have ltr : row < h9.objs.size := let ⟨_, _, hm, _⟩ := aR; lt9 _ hm
  have ltc : cop < h9.objs.size := let ⟨_, _, hm, _⟩ := aC; lt9 _ hm
  have hHi3 := id hM
  first | (have xs := (And.left hHi3); have to := (And.left (And.right hHi3)); have ki := (And.left (And.right (And.right hHi3))); have pm := (And.right (And.right (And.right hHi3))); try clear hHi3) | (refine hideE fun GG hGG => ?_; obtain ⟨xs, to, ki, pm⟩ := hHi3; refine hGG ?_; clear hGG GG)
  have h6k : ∀ x ∈ xs, x.1 ∈ sixKeys := fun x hx => by
    have : x.1 ∈ M.map (·.1) := by rw [← Paired.keysM pm]; exact List.mem_map.mpr ⟨x, hx, rfl⟩
    have hHi4 := List.mem_map.mp this
    first | (have q := (And.left hHi4); have hq := (And.left (And.right hHi4)); have e := (And.right (And.right hHi4)); try clear hHi4) | (refine hideE fun GG hGG => ?_; obtain ⟨q, hq, e⟩ := hHi4; refine hGG ?_; clear hGG GG)
    exact e ▸ h6x q hq
  have hlx : xs.length ≤ 6 := by rw [pm.length]; exact hgM.2.1
  have ecr : cond ≠ row := let ⟨_, _, hm, _⟩ := aR; ne_of_obj N9 mc hm (cls_ne (by rw [to.cls]; exact fun e => list_ne_dict e.symm))
  have ecc : cond ≠ cop := let ⟨_, _, hm, _⟩ := aC; ne_of_obj N9 mc hm (cls_ne (by rw [to.cls]; exact fun e => list_ne_dict e.symm))
  have tupR : ∀ p ∈ R, p.2.cls = .type "tuple" → p.1 ≠ row ∧ p.1 ≠ cop := fun p hp hc => ⟨let ⟨_, _, hm, _⟩ := aR; ne_of_obj N9 (o := p.2) hp hm (cls_ne (by rw [hc]; exact fun e => list_ne_tuple e.symm)), let ⟨_, _, hm, _⟩ := aC; ne_of_obj N9 (o := p.2) hp hm (cls_ne (by rw [hc]; exact fun e => list_ne_tuple e.symm))⟩
  with_unfolding_all refine For_invVF F9 (by rfl) (by rfl) ?_
  repeat' ((fail_if_success (with_reducible show wpAny _ _ (pyIter _) _ _ _)); (first | (k_unfold; (try dsimp only)) | (k_end; wrow_close) | walk1 | (dsimp only; walk1) | (leave1; walk_say "STEP leave1"; try dsimp only)))
  refine loop_ints iV (x := Str.ofString "value") (fun c => [(Str.ofString "found", c)]) [Str.ofString "value", Str.ofString "tried", Str.ofString "size"] (BestI w K R bo row cop Tb toll M Ms k ns) Value.none (BestI.up (fun p hp => lt9 p (aK p hp)) lt9 ltr ltc) rfl (vs := vs) (nn := nV) mV F9 N9
    ⟨by simpa using ha, fun q hq _ _ => hq, rfl⟩ ?hk ?_ ?_
  case hk =>
    intro p hp
    rw [List.mem_singleton.mp hp]
    exact if_pos rfl
  · intro i k2 tv c nx u h6 tk6 hk2 hv hl6 hHi5 F6 N6
    ((try show wpAny _ _ _ _ _ _); (try k_fold))
    first | (have hA6 := (And.left hHi5); have hR6 := (And.left (And.right hHi5)); have hF6 := (And.right (And.right hHi5)); try clear hHi5) | (refine hideE fun GG hGG => ?_; obtain ⟨hA6, hR6, hF6⟩ := hHi5; refine hGG ?_; clear hGG GG)
    replace F6 : Fr g' L' h6 _ := F6
    replace N6 : News g' L' h6 nx := N6
    clear F9 N9
    dsimp only [kstB] at F6
    ((try show wpAny _ _ _ _ _ _); (try k_fold))
    have tupN : ∀ p ∈ nx, p.2.cls = .type "tuple" → p.1 ≠ row ∧ p.1 ≠ cop := hA6.tup N6
    have solN : ∀ p ∈ nx, ¬ Solid p.2 → p.1 ≠ row ∧ p.1 ≠ cop := hA6.solid N6
    repeat' ((fail_if_success (with_reducible show wpAny _ _ (call (Value.type "dict") _) _ _ _)); (first | (k_unfold; (try dsimp only)) | (k_end; wrow_close) | walk1 | (dsimp only; walk1) | (leave1; walk_say "STEP leave1"; try dsimp only)))
    have mc6 := hR6 _ mc ecr ecc
    have kiN : KeysIn w nx xs := ki.mono fun p hp hc => hR6 p hp (tupR p hp hc).1 (tupR p hp hc).2
    have hkN : KeyV w nx (.ref tK) k := hk0.mono fun p hp hc => hR6 p hp (tupR p hp hc).1 (tupR p hp hc).2
    refine td_copy (xs := xs) F6 N6 (modules_low (Top.nolimit T')) lc mc6 to kiN h6k (line_small (by omega)) ?_
    intro dT hT oT FT NT lT loT toT
    repeat' ((fail_if_success (with_reducible show wpAny _ _ (setItem _ _ _) _ _ _)); (first | (k_unfold; (try dsimp only)) | (k_end; wrow_close) | walk1 | (dsimp only; walk1) | (leave1; walk_say "STEP leave1"; try dsimp only)))
    rename_i hS FS NS
    refine td_set (o := oT) (xs := xs) (k := k) ?hu FS NS (UpdF.head fun p hp => Nat.ne_of_lt (lT p hp)) toT (kiN.mono fun p hp _ => List.mem_cons_of_mem _ hp) (hkN.mono fun p hp _ => List.mem_cons_of_mem _ hp) (line_small (by omega)) ?_
    case hu => first | k_units | ktr_units
    intro hE oE tkE toE FE NE
    (try dsimp only at NE)
    (try dsimp only)
    have mfE : (f, (⟨ocf, odf, .func fdf, slf⟩ : Obj)) ∈ (dT, oE) :: nx := List.mem_cons_of_mem _ (hA6.1 _ mf)
    repeat' ((fail_if_success (with_reducible show wpAny _ _ (callWith (Value.ref f) _ _ _) _ _ _)); (first | (k_unfold; (try dsimp only)) | (k_end; wrow_close) | walk1 | (dsimp only; walk1) | (leave1; walk_say "STEP leave1"; try dsimp only)))
    refine callWith_F (FnAt.of NE mfE) ?_
    repeat' ((fail_if_success (with_reducible show wpAny _ _ (call (Value.ref f) _) _ _ _)); (fail_if_success (with_reducible show FnAt _ _ ∧ _)); (first | (k_unfold; (try dsimp only)) | (k_end; wrow_close) | walk1 | (dsimp only; walk1) | (leave1; walk_say "STEP leave1"; try dsimp only)))
    refine ⟨FnAt.of NE mfE, ?_⟩
    rw [storedH_new (atKey_new (by rw [Paired.keysM pm]; exact hnk))] at toE
    have hME : MapO w ((dT, oE) :: nx) oE (M ++ [(k, k2)]) := ⟨_, toE, by
      intro x hx
      rcases List.mem_append.mp hx with hx | hx
      · exact (kiN x hx).mono fun p hp _ => List.mem_cons_of_mem _ hp
      · rw [List.mem_singleton.mp hx]
        exact hkN.mono fun p hp _ => List.mem_cons_of_mem _ hp, Paired.snoc pm ⟨rfl, tv, rfl⟩⟩
    have hAE : AskW w K bo row cop ((dT, oE) :: nx) (Ms ++ (ns.take i).map fun v => M ++ [(k, v)]) := hA6.mono fun p hp _ => List.mem_cons_of_mem _ hp
    refine FnOk.use B' FE X' NE T' ?kK (hf _ _ _ dT oE (M ++ [(k, k2)]) hAE (Nat.lt_of_le_of_lt hB (lT _ mc6)) ?l1 loT List.mem_cons_self hME (hgood k2 (List.mem_of_getElem? hk2)) ?l2 ?l3) ?kd ?ku ?_
    case kK => first | exact rfl | assumption
    case l1 => rw [List.length_append, List.length_map, List.length_take]; exact Nat.le_trans (Nat.add_le_add_left (Nat.min_le_right _ _) _) (Nat.le_trans hMs (by decide))
    case l2 =>
      intro q hq
      rcases List.mem_append.mp hq with hq | hq
      · exact h6x q hq
      · rw [List.mem_singleton.mp hq]; exact hk6
    case l3 =>
      intro vs' n' hm hv'
      have hHi6 := hA6.2.1
      first | (have vr := (And.left hHi6); have nr := (And.left (And.right hHi6)); have hmr := (And.left (And.right (And.right hHi6))); have pr := (And.left (And.right (And.right (And.right hHi6)))); have hU1 := (And.right (And.right (And.right (And.right hHi6)))); try clear hHi6) | (refine hideE fun GG hGG => ?_; obtain ⟨vr, nr, hmr, pr, _⟩ := hHi6; refine hGG ?_; clear hGG GG)
      have e := news_fun NE hm (List.mem_cons_of_mem _ hmr)
      have e2 : vs' = vr.toArray := by injection e with _ _ e3 _; injection e3
      rw [e2] at hv'
      have hHi7 := List.mem_iff_getElem?.mp hv'
      first | (have j := (And.left hHi7); have hj := (And.right hHi7); try clear hHi7) | (obtain ⟨j, hj⟩ := hHi7)
      have hHi8 := Paired.at pr j _ hj
      first | (have M' := (And.left hHi8); have hU2 := (And.left (And.right hHi8)); have d' := (And.left (And.right (And.right hHi8))); have o' := (And.left (And.right (And.right (And.right hHi8)))); have e3 := (And.left (And.right (And.right (And.right (And.right hHi8))))); have hU3 := (And.left (And.right (And.right (And.right (And.right (And.right hHi8)))))); have hU4 := (And.left (And.right (And.right (And.right (And.right (And.right (And.right hHi8))))))); have hm' := (And.left (And.right (And.right (And.right (And.right (And.right (And.right (And.right hHi8)))))))); have hU5 := (And.right (And.right (And.right (And.right (And.right (And.right (And.right (And.right hHi8)))))))); try clear hHi8) | (refine hideE fun GG hGG => ?_; obtain ⟨M', _, d', o', e3, _, _, hm', _⟩ := hHi8; refine hGG ?_; clear hGG GG)
      injection e3 with e3
      exact absurd (lT _ hm') (by rw [← e3]; exact Nat.lt_irrefl _)
    case kd => ktr_room
    case ku => ktr_units
    intro vz R8 h8 tk8 F8 N8 hHi9
    first | (have hE6 := (And.right (And.left hHi9)); subst hE6; have tz := (And.left (And.left hHi9)); have hA8 := (And.left (And.right hHi9)); have hk8 := (And.left (And.right (And.right hHi9))); have hU7 := (And.right (And.right (And.right hHi9))); try clear hHi9) | (refine hideE fun GG hGG => ?_; obtain ⟨⟨tz, rfl⟩, hA8, hk8, _⟩ := hHi9; refine hGG ?_; clear hGG GG)
    have inR8 : ∀ q ∈ R, q.1 ≠ row → q.1 ≠ cop → q ∈ R8 := fun q hq h1 h2 => hk8 q (List.mem_cons_of_mem _ (hR6 q hq h1 h2)) h1 h2
    have hAn : AskW w K bo row cop R8 (Ms ++ (ns.take (i + 1)).map fun v => M ++ [(k, v)]) := by
      rw [List.take_succ, hk2]
      simpa using hA8
    have hsol : ∀ p ∈ nx, ¬ Solid p.2 → p ∈ R8 := fun p hp hs => hk8 p (List.mem_cons_of_mem _ hp) (solN p hp hs).1 (solN p hp hs).2
    have mV8 := hk8 _ (List.mem_cons_of_mem _ hl6) hVr hVc
    have hF8 : FoundV R8 c (bestOf Tb toll M k (ns.take i)) := hF6.mono fun p hp hc => hk8 p (List.mem_cons_of_mem _ hp) (tupN p hp hc).1 (tupN p hp hc).2
    have hst : bestOf Tb toll M k (ns.take (i + 1)) = bestStep Tb toll M k (bestOf Tb toll M k (ns.take i)) k2 := bestOf_succ hk2
    cases hb : bestOf Tb toll M k (ns.take i) with
    | none =>
      rw [hb] at hF8 hst
      obtain rfl : c = .none := hF8
      k_steps
      rename_i lD hA FA NA
      refine best_new FA NA (fun p hp hq => List.mem_cons_of_mem _ (hsol p hp hq)) (List.mem_cons_of_mem _ mV8) ⟨hAn.mono fun p hp _ => List.mem_cons_of_mem _ hp, fun q hq h1 h2 => List.mem_cons_of_mem _ (inR8 q hq h1 h2), ?_⟩
      rw [hst]
      exact ⟨_, _, _, _, rfl, List.mem_cons_self⟩
    | some q =>
      rw [hb] at hF8 hst
      first | (have hE8 := (And.left (And.right (And.right (And.right (And.right hF8))))); subst hE8; have tt := (And.left hF8); have ta := (And.left (And.right hF8)); have tb := (And.left (And.right (And.right hF8))); have nt := (And.left (And.right (And.right (And.right hF8)))); have mtt := (And.right (And.right (And.right (And.right (And.right hF8))))); try clear hF8) | (refine hideE fun GG hGG => ?_; obtain ⟨tt, ta, tb, nt, rfl, mtt⟩ := hF8; refine hGG ?_; clear hGG GG)
      k_steps
      · rename_i hlt lD hA FA NA
        refine best_new FA NA (fun p hp hq => List.mem_cons_of_mem _ (hsol p hp hq)) (List.mem_cons_of_mem _ mV8) ⟨hAn.mono fun p hp _ => List.mem_cons_of_mem _ hp, fun q hq h1 h2 => List.mem_cons_of_mem _ (inR8 q hq h1 h2), ?_⟩
        rw [hst]
        unfold bestStep
        dsimp only
        rw [if_pos (by assumption)]
        exact ⟨_, _, _, _, rfl, List.mem_cons_self⟩
      · rename_i FA NA tk0 hlt
        refine best_same FA NA hsol mV8 ⟨hAn, inR8, ?_⟩
        rw [hst]
        unfold bestStep
        dsimp only
        rw [if_neg hlt]
        exact ⟨_, _, _, _, rfl, mtt⟩
  · intro c nx u h6 tk6 hl6 hHi11 F6 N6
    ((try show wpAny _ _ _ _ _ _); (try k_fold))
    first | (have hA6 := (And.left hHi11); have hR6 := (And.left (And.right hHi11)); have hF6 := (And.right (And.right hHi11)); try clear hHi11) | (refine hideE fun GG hGG => ?_; obtain ⟨hA6, hR6, hF6⟩ := hHi11; refine hGG ?_; clear hGG GG)
    replace F6 : Fr g' L' h6 _ := F6
    replace N6 : News g' L' h6 nx := N6
    clear F9 N9
    dsimp only [kstB] at F6
    rw [iV.length, List.take_of_length_le (Nat.le_refl _)] at hA6 hF6
    k_steps
    refine hret _ _ _ _ (by k_asm) (by k_asm) ⟨hA6, hR6, ?_⟩
    have hHi12 := bestOf_some (T := Tb) (toll := toll) (M := M) (k := k) hne
    first | (have q := (And.left hHi12); have hq := (And.right hHi12); try clear hHi12) | (obtain ⟨q, hq⟩ := hHi12)
    rw [hq] at hF6
    exact ⟨q, hq, hF6⟩
end
end N240
end
-- KitM
section
open PySem PySem.W PyProof.Rows PySem.Spec PySem.Calls
namespace N240
/-- the greedy choice, key by key: the choice, and what was asked -/
def gStep (T : Tab) (toll n most : Int) (st : CMap × List CMap) (k : List Int) : CMap × List CMap :=
  match bestOf T toll st.1 k (keyVals n most k) with
  | none => st
  | some q => (st.1 ++ [(k, q.1)], st.2 ++ (keyVals n most k).map fun v => st.1 ++ [(k, v)])
def gTo (T : Tab) (toll n most : Int) (ks : List (List Int)) (i : Nat) : CMap × List CMap := (ks.take i).foldl (gStep T toll n most) ([], [])
theorem gTo_succ {T : Tab} {toll n most : Int} {ks : List (List Int)} {i : Nat} {k : List Int} (h : ks[i]? = some k) : gTo T toll n most ks (i + 1) = gStep T toll n most (gTo T toll n most ks i) k := by
  unfold gTo
  rw [List.take_succ, h]
  simp
def GoodAll (T : Tab) (n most : Int) (ks : List (List Int)) : Prop := ks.Pairwise KLt ∧ GoodKeys ks ∧ T.map (·.1) = ks ∧ GoodTab n most T ∧ ∀ k ∈ ks, k ∈ sixKeys
def GI (n most : Int) (ks : List (List Int)) (i : Nat) (st : CMap × List CMap) : Prop := (st.1.map (·.1)).Sublist (ks.take i) ∧ (∀ q ∈ st.1, q.2 ∈ keyVals n most q.1) ∧ st.2.length ≤ 8 * i
theorem bestStep_fold {T : Tab} {toll : Int} {M : CMap} {k : List Int} : ∀ (l : List Int) (b : Option (Int × Int)) (q : Int × Int), l.foldl (bestStep T toll M k) b = some q → b = some q ∨ (q.1 ∈ l ∧ q.2 = lsize T toll (M ++ [(k, q.1)]))
  | [], b, q, h => .inl h
  | v :: r, b, q, h => by
    rw [List.foldl_cons] at h
    rcases bestStep_fold r _ q h with h | h
    · unfold bestStep at h
      split at h
      · rw [← Option.some.inj h]
        exact .inr ⟨List.mem_cons_self, rfl⟩
      · split at h
        · rw [← Option.some.inj h]
          exact .inr ⟨List.mem_cons_self, rfl⟩
        · exact .inl h
    · exact .inr ⟨List.mem_cons_of_mem _ h.1, h.2⟩
theorem bestOf_mem {T : Tab} {toll : Int} {M : CMap} {k ns : List Int} {q : Int × Int} (h : bestOf T toll M k ns = some q) : q.1 ∈ ns ∧ q.2 = lsize T toll (M ++ [(k, q.1)]) := by
  rcases bestStep_fold ns none q h with h | h
  · cases h
  · exact h
theorem GI.step {T : Tab} {toll n most : Int} {ks : List (List Int)} {i : Nat} {k : List Int} {st : CMap × List CMap} (hk : ks[i]? = some k) (h : GI n most ks i st) : GI n most ks (i + 1) (gStep T toll n most st k) := by
  unfold gStep
  have hsub : (ks.take i).Sublist (ks.take (i + 1)) := by
    rw [List.take_succ]
    exact List.sublist_append_left _ _
  split
  · exact ⟨h.1.trans hsub, h.2.1, Nat.le_trans h.2.2 (Nat.mul_le_mul_left 8 (Nat.le_succ i))⟩
  · rename_i q hq
    refine ⟨?_, ?_, ?_⟩
    · rw [List.map_append, List.take_succ, hk]
      exact h.1.append (List.Sublist.refl _)
    · intro x hx
      rcases List.mem_append.mp hx with hx | hx
      · exact h.2.1 x hx
      · rw [List.mem_singleton.mp hx]
        exact (bestOf_mem hq).1
    · have e1 := h.2.2
      have e2 := kindVals_len (k.headD 0) n most
      show (st.2 ++ _).length ≤ _
      rw [List.length_append, List.length_map]
      unfold keyVals
      exact Nat.add_le_add e1 e2
theorem gI_to (T : Tab) (toll n most : Int) (ks : List (List Int)) : ∀ i, i ≤ ks.length → GI n most ks i (gTo T toll n most ks i)
  | 0, _ => ⟨by simp [gTo], by simp [gTo], by simp [gTo]⟩
  | i + 1, h => by
    have hk : ks[i]? = some ks[i] := List.getElem?_eq_getElem h
    rw [gTo_succ hk]
    exact (gI_to T toll n most ks i (Nat.le_of_succ_le h)).step hk
theorem kindVals_nonneg (kd n most : Int) : ∀ v ∈ kindVals kd n most, 0 ≤ v := by
  unfold kindVals acVals dcVals
  split
  · split
    · decide
    · split <;> decide
  · split
    · decide
    · split <;> decide
theorem GoodAll.tab {T : Tab} {n most : Int} {ks : List (List Int)} (hg : GoodAll T n most ks) {k : List Int} {v : Int} (hv : v ∈ keyVals n most k) : 0 ≤ v ∧ ∀ r ∈ T, r.1 = k → v ∈ r.2.map (·.1) :=
  ⟨kindVals_nonneg _ _ _ v hv, fun r hr e => by rw [(hg.2.2.2.1 r hr).1, e]; exact hv⟩
theorem GI.good {T : Tab} {n most : Int} {ks : List (List Int)} {i : Nat} {st : CMap × List CMap} (hg : GoodAll T n most ks) (h : GI n most ks i st) : GoodMap T st.1 := by
  refine ⟨(hg.1.sublist (List.take_sublist i ks)).sublist h.1, ?_, fun q hq => hg.tab (h.2.1 q hq)⟩
  have e1 := h.1.length_le
  have e2 := hg.2.1.2.1
  rw [List.length_map, List.length_take] at e1
  exact Nat.le_trans e1 (Nat.le_trans (Nat.min_le_right _ _) e2)
theorem GI.next {T : Tab} {n most : Int} {ks : List (List Int)} {i : Nat} {st : CMap × List CMap} {k : List Int} (hg : GoodAll T n most ks) (h : GI n most ks i st) (hk : ks[i]? = some k) {v : Int} (hv : v ∈ keyVals n most k) : GoodMap T (st.1 ++ [(k, v)]) := by
  have e : ks.take (i + 1) = ks.take i ++ [k] := by rw [List.take_succ, hk]; rfl
  refine ⟨?_, ?_, ?_⟩
  · refine ((hg.1.sublist (List.take_sublist (i + 1) ks)).sublist ?_)
    rw [List.map_append, e]
    exact h.1.append (List.Sublist.refl _)
  · have e1 := h.1.length_le
    have e2 := hg.2.1.2.1
    have e3 : i < ks.length := (List.getElem?_eq_some_iff.mp hk).1
    rw [List.length_map, List.length_take] at e1
    rw [List.length_append, List.length_singleton]
    exact Nat.le_trans (Nat.succ_le_succ (Nat.le_trans e1 (Nat.min_le_left _ _))) (Nat.le_trans e3 e2)
  · intro q hq
    rcases List.mem_append.mp hq with hq | hq
    · exact hg.tab (h.2.1 q hq)
    · rw [List.mem_singleton.mp hq]
      exact hg.tab hv
theorem GI.new {n most : Int} {ks : List (List Int)} {i : Nat} {st : CMap × List CMap} {k : List Int} (hn : ks.Nodup) (h : GI n most ks i st) (hk : ks[i]? = some k) : k ∉ st.1.map (·.1) :=
  fun hm => not_mem_take hn hk (h.1.subset hm)
theorem GI.six {T : Tab} {n most : Int} {ks : List (List Int)} {i : Nat} {st : CMap × List CMap} (hg : GoodAll T n most ks) (h : GI n most ks i st) : ∀ q ∈ st.1, q.1 ∈ sixKeys := fun q hq =>
  hg.2.2.2.2 _ (List.mem_of_mem_take (h.1.subset (List.mem_map.mpr ⟨q, hq, rfl⟩)))
theorem kindVals_dc (n most : Int) : kindVals 0 n most = dcVals most := by unfold kindVals; rw [if_neg (by decide)]
theorem kindVals_ac (n most : Int) : kindVals 1 n most = acVals n := by unfold kindVals; rw [if_pos rfl]
theorem dcVals_ne (most : Int) : dcVals most ≠ [] := by
  unfold dcVals
  split
  · decide
  · split <;> decide
end N240
end
-- KitQ
section
open PySem PySem.W PyProof.Rows PySem.Spec PySem.Calls
namespace N240
/-- no cell -/
def NC (o : Obj) : Prop := (∀ v, o.data ≠ .cell v) ∧ ∀ v, o.data ≠ .fields v
section
variable {M : Model} {A : Around} {E : Value → Shared → Prop} {s : Shared} {h₀ : Heap} {L a : Addr} {m : Str → Option Value} {cn : Str} {cs : Scope} {ccd : Value} {cl : List (Str × Addr)}
  {x : Str} {v : Value} {Q : Unit → Shared → Prop} {R : Led} {c : Addr} {o : Obj} {v₀ : Option Value}
theorem cell_set (F : Fr h₀ L s.heap m) (N : News h₀ L s.heap R) (hm : (c, o) ∈ R) (hd : o.data = .cell v₀) (hc : cl.lookup x = some c)
    (h : ∀ h' o' R', Fr h₀ L h' m → News h₀ L h' R' → o'.data = .cell (some v) → (c, o') ∈ R' → (∀ p ∈ R, p.1 ≠ c → p ∈ R') → (∀ p ∈ R, NC p.2 → p ∈ R') → Q () { s with heap := h' })
    (hk : cs.kind = .function := by rfl) (hx : (envX cn cs L a ccd cl).kindOf x = some .cell := by rfl) : wpAny M A (storeName (envX cn cs L a ccd cl) x v) Q E s := by
  have N2 := news_head N hm
  refine storeX_C F N2 hc (UpdF.head off_ne) hd (fun h' o' F' N' d' => ?_) hk hx
  have k1 : ∀ p ∈ R, p.1 ≠ c → p ∈ (c, o') :: off c R := fun p hp hn => List.mem_cons_of_mem _ (mem_off hp hn)
  refine h h' o' _ F' N' d' List.mem_cons_self k1 fun p hp hn => k1 p hp fun e => ?_
  have e2 : p.2 = o := news_fun N (a := c) (by rw [← e]; exact hp) hm
  exact hn.1 _ (e2 ▸ hd)
end
theorem NC.seq {o : Obj} {xs : Array Value} {n : Nat} (h : o.data = .seq xs n) : NC o := ⟨fun v e => Data.noConfusion (h.symm.trans e), fun v e => Data.noConfusion (h.symm.trans e)⟩
theorem NC.dict {o : Obj} {es : Array DictEntry} {n : Nat} (h : o.data = .dict es n) : NC o := ⟨fun v e => Data.noConfusion (h.symm.trans e), fun v e => Data.noConfusion (h.symm.trans e)⟩
theorem KeyV.nc {w : World} {R R' : Led} {v : Value} {k : List Int} (h : KeyV w R v k) (hs : ∀ p ∈ R, NC p.2 → p ∈ R') : KeyV w R' v k := by
  cases h with | mk t a b ta tb n e ek hm => exact .mk t a b ta tb n e ek (hs _ hm (NC.seq rfl))
theorem KeysAt.nc {w : World} {R R' : Led} {a : Addr} {ks : List (List Int)} (h : KeysAt w R a ks) (hs : ∀ p ∈ R, NC p.2 → p ∈ R') : KeysAt w R' a ks := by
  obtain ⟨vs, n, hm, hf⟩ := h
  exact ⟨vs, n, hs _ hm (NC.seq rfl), hf.mono fun _ _ k => k.nc hs⟩
theorem ScanAt.nc {w : World} {R R' : Led} {x : Addr} {dc ac : List Int} {st en hi : Int} (h : ScanAt w R x dc ac st en hi) (hs : ∀ p ∈ R, NC p.2 → p ∈ R') : ScanAt w R' x dc ac st en hi := by
  obtain ⟨dx, D, D1, D2, ys1, ys2, n1, n2, nn, t1, t2, t3, t4, t5, t6, t7, u1, u2, u3, u4, m1, m2, m3, i1, m4, i2⟩ := h
  refine ⟨dx, D, D1, D2, ys1, ys2, n1, n2, nn, t1, t2, t3, t4, t5, t6, t7, u1, u2, u3, u4, hs _ m1 ⟨fun _ e => ?_, fun _ e => ?_⟩, hs _ m2 (NC.dict rfl), hs _ m3 (NC.seq rfl), i1, hs _ m4 (NC.seq rfl), i2⟩ <;> cases e
theorem RowV.nc {w : World} {R R' : Led} {v : Value} {row : List (Int × Int)} (h : RowV w R v row) (hs : ∀ p ∈ R, NC p.2 → p ∈ R') : RowV w R' v row := by
  cases h with | mk Di oi kvs e a b c d => exact .mk Di oi kvs e (hs _ a (by obtain ⟨es, ep, _, b2, _⟩ := b; exact NC.dict b2)) b c d
theorem TabO.nc {w : World} {R R' : Led} {o : Obj} {T : List (List Int × List (Int × Int))} (h : TabO w R o T) (hs : ∀ p ∈ R, NC p.2 → p ∈ R') : TabO w R' o T := by
  obtain ⟨xs, a, b, c⟩ := h
  exact ⟨xs, a, fun x hx => (b x hx).nc hs, c.mono fun _ _ k => ⟨k.1, k.2.nc hs⟩⟩
theorem TObj.nc {w : World} {o : Obj} {xs : List (List Int × Addr × Value)} (h : TObj w o xs) : NC o := by
  obtain ⟨_, es, ep, b, _⟩ := h
  exact NC.dict b
theorem gen_led {h₀ h : Heap} {L : Addr} {x y : Addr × Obj} {r : Led} (N : News h₀ L h (x :: y :: r)) : ∃ R, News h₀ L h R ∧ x ∈ R ∧ y ∈ R ∧ (∀ q ∈ r, q ∈ R) ∧ ∀ q ∈ R, q = x ∨ q = y ∨ q ∈ r :=
  ⟨_, N, List.mem_cons_self, List.mem_cons_of_mem _ List.mem_cons_self, fun _ hq => List.mem_cons_of_mem _ (List.mem_cons_of_mem _ hq), fun q hq => by
    rcases List.mem_cons.mp hq with h | h
    · exact .inl h
    · rcases List.mem_cons.mp h with h | h
      · exact .inr (.inl h)
      · exact .inr (.inr h)⟩
theorem off_tab {h₀ h : Heap} {L a : Addr} {R : Led} {ps : Array Value} (N : News h₀ L h R) (hm : (a, tabObj ps) ∈ R) {q : Addr × Obj} (hq : q ∈ R) (hn : NC q.2) : q ∈ off a R :=
  mem_off hq fun e => by
    have e2 : q.2 = tabObj ps := news_fun N (a := a) (by rw [← e]; exact hq) hm
    exact hn.2 _ (by rw [e2])
end N240
end
-- KitR
section
open PySem PySem.W PyProof.Rows PySem.Spec PySem.Calls
namespace N240
def dataK (k : List Int) : PyData := .tuple (k.map PyData.int)
theorem canLay_ints : ∀ k : List Int, PyData.canLayAll0 (k.map PyData.int) = true
  | [] => rfl
  | _ :: r => by simp [PyData.canLayAll0, PyData.canLay0, canLay_ints r]
theorem depth_ints : ∀ k : List Int, PyData.depthAll (k.map PyData.int) = 0
  | [] => rfl
  | _ :: r => by simp [PyData.depthAll, PyData.depth, depth_ints r]
theorem canLay_keys : ∀ ks : List (List Int), PyData.canLayAll0 (ks.map dataK) = true
  | [] => rfl
  | k :: r => by simp [PyData.canLayAll0, PyData.canLay0, dataK, canLay_ints, canLay_keys r]
theorem depth_keys : ∀ ks : List (List Int), PyData.depthAll (ks.map dataK) ≤ 1
  | [] => Nat.zero_le _
  | k :: r => by simp [PyData.depthAll, PyData.depth, dataK, depth_ints, depth_keys r]
theorem shaped_keys (ks : List (List Int)) : SeqAt.shaped (.list (ks.map dataK)) = true := by
  have h := depth_keys ks
  have e : PyData.depth (.list (ks.map dataK)) ≤ 64 := by
    simp only [PyData.depth]
    omega
  simp only [SeqAt.shaped, PyData.canLay0, canLay_keys, Bool.true_and]
  exact decide_eq_true e
theorem reads_keyAll {w : World} {h₀ h : Heap} {L : Addr} {R : Led} (N : News h₀ L h R)  {vs : List Value} {ks : List (List Int)} (p : Paired (KeyV w R) vs ks) : ∃ as, ReadsAll h vs (ks.map dataK) as := by
  induction p with
  | nil => exact ⟨_, .nil⟩
  | cons hk _ ih =>
    obtain ⟨as, q⟩ := ih
    obtain ⟨t, a, b, ta, tb, n, rfl, rfl, hm⟩ := hk
    exact ⟨_, .cons (reads_tuple_at (N _ hm).1 rfl rfl (.cons (.int _ _) (.cons (.int _ _) .nil))) q⟩
theorem reads_keys {w : World} {h₀ h : Heap} {L a : Addr} {R : Led} {ks : List (List Int)} (N : News h₀ L h R) (hk : KeysAt w R a ks) : ∃ as, Reads h (.ref a) (.list (ks.map dataK)) as := by
  obtain ⟨vs, n, hm, hp⟩ := hk
  obtain ⟨as, q⟩ := reads_keyAll N hp
  exact ⟨_, reads_list_at (N _ hm).1 rfl rfl q⟩
theorem ne_keys {w : World} {A : Around} {E : Value → Shared → Prop} {s : Shared} {h₀ : Heap} {L a b : Addr} {R : Led} {ks : List (List Int)} {Q : Value → Shared → Prop} (N : News h₀ L s.heap R) (ha : KeysAt w R a ks) (hb : KeysAt w R b ks) (hu : A.units + 64 < cLine) (h : Q (.bool false) s) :
    wpAny (model pg w) A (compareOp .NotEq (.ref a) (.ref b)) Q E s := by
  obtain ⟨as, ra⟩ := reads_keys N ha
  obtain ⟨bs, rb⟩ := reads_keys N hb
  refine ne_dataH ra rb (shaped_keys ks) (shaped_keys ks) hu ?_
  rw [PySem.SeqAt.eqv_refl _ (SeqAt.canLay_of_shaped (shaped_keys ks))]
  exact h
end N240
end
-- KitS
section
open PySem PySem.W PyProof.Rows PySem.Spec PySem.Calls
namespace N240
theorem keysOf_sub (dc ac : List Int) (st en hi : Int) : (keysOf dc ac st en hi).Sublist sixKeys := by
  have e : sixKeys = ([0, 1, 2] : List Int).map (fun s => [0, s]) ++ ([0, 1, 2] : List Int).map (fun s => [1, s]) := by decide
  rw [e]
  unfold keysOf
  refine List.Sublist.append ?_ ?_
  · split
    · exact (List.filter_sublist).map _
    · exact List.nil_sublist _
  · split
    · exact (List.filter_sublist).map _
    · exact List.nil_sublist _
theorem klt_pair {a b c d : Int} (h : a < c ∨ (a = c ∧ b < d)) : KLt [a, b] [c, d] := ⟨a, b, c, d, rfl, rfl, h⟩
theorem six_pair : sixKeys.Pairwise KLt := by
  unfold sixKeys
  refine .cons ?_ (.cons ?_ (.cons ?_ (.cons ?_ (.cons ?_ (.cons ?_ .nil)))))
  all_goals
    intro k hk
    simp only [List.mem_cons, List.not_mem_nil, or_false] at hk
  · rcases hk with rfl | rfl | rfl | rfl | rfl <;> exact klt_pair (by decide)
  · rcases hk with rfl | rfl | rfl | rfl <;> exact klt_pair (by decide)
  · rcases hk with rfl | rfl | rfl <;> exact klt_pair (by decide)
  · rcases hk with rfl | rfl <;> exact klt_pair (by decide)
  · rcases hk with rfl <;> exact klt_pair (by decide)
theorem six_nodup : sixKeys.Nodup := by decide
theorem keysOf_good (dc ac : List Int) (st en hi : Int) : GoodKeys (keysOf dc ac st en hi) := by
  have h := keysOf_sub dc ac st en hi
  refine ⟨six_nodup.sublist h, Nat.le_trans h.length_le (by decide), fun k hk => ?_⟩
  have hm := h.subset hk
  have all : ∀ k ∈ sixKeys, ∃ kd sl, k = [kd, sl] ∧ (kd = 0 ∨ kd = 1) := by
    intro k hk
    simp only [sixKeys, List.mem_cons, List.not_mem_nil, or_false] at hk
    rcases hk with h | h | h | h | h | h <;> exact ⟨_, _, h, by decide⟩
  exact all k hm
theorem keysOf_all {T : Tab} {n most : Int} {dc ac : List Int} {st en hi : Int} (h1 : T.map (·.1) = keysOf dc ac st en hi) (h2 : GoodTab n most T) : GoodAll T n most (keysOf dc ac st en hi) :=
  ⟨six_pair.sublist (keysOf_sub dc ac st en hi), keysOf_good dc ac st en hi, h1, h2, fun _ hk => (keysOf_sub dc ac st en hi).subset hk⟩
end N240
end
-- SKeys
section
open PySem PySem.W PyProof.Rows PySem.Spec PySem.Calls
namespace N240
variable {w : World} {p : Program} {loose : List Str} {mean : ExcName → Option Value} {mg mb : Str → Option Value}
theorem hi_zero {dc ac : List Int} {st en hi : Int} (ok : ScanOk dc ac st en hi) (h : ¬ 0 < hi) : hi = 0 := by
  rcases ok.1 with h | h | h | h <;> simp only [Prod.mk.injEq] at h <;> omega
theorem slots_len (xs : List Int) : (slotsOf xs).length ≤ 3 := slotsTo_three xs ▸ slotsTo_len xs 3
/-- what a turn that makes a pair leaves -/
inductive PairNew (h₀ : Heap) (L : Addr) (m : Str → Option Value) (s₂ : Shared) (R' : Led) (p : Int × Int) (y : Value) (s₄ : Shared) : Prop
  | mk (Dk : Addr) (hA : Heap) (tk : Nat) (ta tb : Tok) (n : Nat) (e1 : y = .ref Dk) (e2 : s₄ = { s₂ with heap := hA, toks := tk }) (F : Fr h₀ L hA m) (N : News h₀ L hA ((Dk, tup2 p.1 p.2 ta tb n) :: R')) (l : ∀ p ∈ R', p.1 < Dk) : PairNew h₀ L m s₂ R' p y s₄
theorem pairs_turn {prog : Program} {A : Around} {env : Env} {h₀ : Heap} {L I : Addr} {m : Str → Option Value} {elt : Expr} {x : Str} {scope : Scope} {cl : List (Str × Addr)} {s₂ : Shared} {n : Nat} {vs : List Value} {ns : List Int} {f : Int → Int × Int} {K : Led} (hi : IntsAre vs ns)
    (turn : ∀ k tv C mC H tk E' R', H.Ns C mC → mC x = some (.int k tv) → Fr h₀ L H m → News h₀ L H R' → wpAny (model prog w) A (eval elt (compEnvC scope cl C env)) (PairNew h₀ L m s₂ R' (f k)) E' { s₂ with heap := H, toks := tk }) :
    CompTurn prog w A env h₀ L m elt x [] scope cl s₂ I n (fun i v => vs[i]? = some v) (PairI K f ns) := by
  intro i v ys nx C D oC oD oI H tk mC E' hin hP hlen hI hoff hCD hCI hDI F N hC hx
  have hHi1 := ints_at hi hP
  first | (have hE1 := (And.right (And.right (And.right hHi1))); subst hE1; have k := (And.left hHi1); have tv := (And.left (And.right hHi1)); have hk := (And.left (And.right (And.right hHi1))); try clear hHi1) | (refine hideE fun GG hGG => ?_; obtain ⟨k, tv, hk, rfl⟩ := hHi1; refine hGG ?_; clear hGG GG)
  refine wpAny_tests_nil ?_
  rw [if_pos rfl]
  refine wpAny_mono (turn k tv C mC H tk E' _ hC hx F N) (fun y s₄ q => ?_) fun _ _ e => e
  cases q with | mk Dk hA tk' ta tb n e1 e2 FA NA lA =>
  subst e1 e2
  exact pair_turn (K := K) FA NA (allLt_of lA) hoff hI.1 hI.2 hk rfl
/-- what the first part of the keys leaves -/
inductive SkI (w : World) (h₀ : Heap) (L : Addr) (R : Led) (m : Str → Option Value) (s : Shared) (ks : List (List Int)) (fl : Flow) (s' : Shared) : Prop
  | mk (e1 : fl = .next) (Dr : Addr) (ysr : List Value) (nDr : Nat) (nxr : Led) (H : Heap) (tk : Nat) (e : s' = { s with heap := H, toks := tk }) (F : Fr h₀ L H (fun y => if y = Str.ofString "found" then some (.ref Dr) else m y)) (N : News h₀ L H ((Dr, W.listOf ysr.toArray nDr) :: nxr))
      (k : ∀ p ∈ R, p ∈ nxr) (l : ∀ q ∈ nxr, q.1 ≠ Dr) (hl : ysr.length ≤ 8) (hK : Paired (KeyV w ((Dr, W.listOf ysr.toArray nDr) :: nxr)) ysr ks) : SkI w h₀ L R m s ks fl s'
theorem if_found {A : Around} {E : Value → Shared → Prop} {env : Env} {h₀ : Heap} {L : Addr} {m : Str → Option Value} {s : Shared} {c : Expr} {b e : List Stmt} {pos : Pos} {Q : Flow → Shared → Prop} {R : Led} {ks : List (List Int)} (_F : Fr h₀ L s.heap m)
    (h1 : wpAny (model pg w) A (exec (.If c b e pos) env) (SkI w h₀ L R m s ks) E s)
    (h2 : ∀ Dr ysr nDr nxr H tk, Fr h₀ L H (fun y => if y = Str.ofString "found" then some (.ref Dr) else m y) → News h₀ L H ((Dr, W.listOf ysr.toArray nDr) :: nxr) → (∀ p ∈ R, p ∈ nxr) → (∀ q ∈ nxr, q.1 ≠ Dr) → ysr.length ≤ 8 → Paired (KeyV w ((Dr, W.listOf ysr.toArray nDr) :: nxr)) ysr ks → Q .next { s with heap := H, toks := tk }) :
    wpAny (model pg w) A (exec (.If c b e pos) env) Q E s := by
  refine wpAny_mono h1 (fun fl s' q => ?_) fun _ _ e => e
  cases q with | mk e1 Dr ysr nDr nxr H tk e F N k l hl hK =>
  subst e1 e
  exact h2 Dr ysr nDr nxr H tk F N k l hl hK
theorem fr_put {h₀ h : Heap} {L : Addr} {m : Str → Option Value} {x : Str} {v : Value} (F : Fr h₀ L h m) (e : m x = some v) : Fr h₀ L h (fun y => if y = x then some v else m y) := by
  have e2 : (fun y => if y = x then some v else m y) = m := funext fun y => by
    by_cases h : y = x
    · rw [if_pos h, h, e]
    · rw [if_neg h]
  exact e2.symm ▸ F
theorem keysOf_zero {dc ac : List Int} {st en hi : Int} (h : hi = 0) : keysOf dc ac st en hi = (if st = 0 then (slotsOf dc).map fun s => [0, s] else []) ++ (if 0 < en then (slotsOf ac).map fun s => [1, s] else []) := by
  unfold keysOf
  simp only [h, and_true]
section
local macro_rules | `(tactic| walk_at "binaryOp Add ref ref") => `(tactic| (k_dflt refine' add_L (by k_asm) (by k_asm) (by k_mem) (by k_mem) (by assumption) ?_; intro D9 h9 F9 N9 l9))
set_option maxRecDepth 100000 in
set_option maxHeartbeats 8000000 in
theorem sk_ok {x : Addr} {dc ac : List Int} {st en hi : Int} {R : Led} (hs : ScanAt w R x dc ac st en hi) (ok : ScanOk dc ac st en hi) :
    FnOk w p loose mean mg mb 3 30 (.ref 47) [.ref x] R
      (fun v news' => ∃ a, v = .ref a ∧ (∀ p ∈ R, p ∈ news') ∧ (∀ q ∈ R, q.1 ≠ a) ∧ KeysAt w news' a (keysOf dc ac st en hi)) := by
  first | (have dx := (And.left hs); have D := (And.left (And.right hs)); have D1 := (And.left (And.right (And.right hs))); have D2 := (And.left (And.right (And.right (And.right hs)))); have ys1 := (And.left (And.right (And.right (And.right (And.right hs))))); have ys2 := (And.left (And.right (And.right (And.right (And.right (And.right hs)))))); have n1 := (And.left (And.right (And.right (And.right (And.right (And.right (And.right hs))))))); have n2 := (And.left (And.right (And.right (And.right (And.right (And.right (And.right (And.right hs)))))))); have nn := (And.left (And.right (And.right (And.right (And.right (And.right (And.right (And.right (And.right hs))))))))); have t1 := (And.left (And.right (And.right (And.right (And.right (And.right (And.right (And.right (And.right (And.right hs)))))))))); have t2 := (And.left (And.right (And.right (And.right (And.right (And.right (And.right (And.right (And.right (And.right (And.right hs))))))))))); have t3 := (And.left (And.right (And.right (And.right (And.right (And.right (And.right (And.right (And.right (And.right (And.right (And.right hs)))))))))))); have t4 := (And.left (And.right (And.right (And.right (And.right (And.right (And.right (And.right (And.right (And.right (And.right (And.right (And.right hs))))))))))))); have t5 := (And.left (And.right (And.right (And.right (And.right (And.right (And.right (And.right (And.right (And.right (And.right (And.right (And.right (And.right hs)))))))))))))); have t6 := (And.left (And.right (And.right (And.right (And.right (And.right (And.right (And.right (And.right (And.right (And.right (And.right (And.right (And.right (And.right hs))))))))))))))); have t7 := (And.left (And.right (And.right (And.right (And.right (And.right (And.right (And.right (And.right (And.right (And.right (And.right (And.right (And.right (And.right (And.right hs)))))))))))))))); have u1 := (And.left (And.right (And.right (And.right (And.right (And.right (And.right (And.right (And.right (And.right (And.right (And.right (And.right (And.right (And.right (And.right (And.right hs))))))))))))))))); have u2 := (And.left (And.right (And.right (And.right (And.right (And.right (And.right (And.right (And.right (And.right (And.right (And.right (And.right (And.right (And.right (And.right (And.right (And.right hs)))))))))))))))))); have u3 := (And.left (And.right (And.right (And.right (And.right (And.right (And.right (And.right (And.right (And.right (And.right (And.right (And.right (And.right (And.right (And.right (And.right (And.right (And.right hs))))))))))))))))))); have u4 := (And.left (And.right (And.right (And.right (And.right (And.right (And.right (And.right (And.right (And.right (And.right (And.right (And.right (And.right (And.right (And.right (And.right (And.right (And.right (And.right hs)))))))))))))))))))); have m1 := (And.left (And.right (And.right (And.right (And.right (And.right (And.right (And.right (And.right (And.right (And.right (And.right (And.right (And.right (And.right (And.right (And.right (And.right (And.right (And.right (And.right hs))))))))))))))))))))); have m2 := (And.left (And.right (And.right (And.right (And.right (And.right (And.right (And.right (And.right (And.right (And.right (And.right (And.right (And.right (And.right (And.right (And.right (And.right (And.right (And.right (And.right (And.right hs)))))))))))))))))))))); have m3 := (And.left (And.right (And.right (And.right (And.right (And.right (And.right (And.right (And.right (And.right (And.right (And.right (And.right (And.right (And.right (And.right (And.right (And.right (And.right (And.right (And.right (And.right (And.right hs))))))))))))))))))))))); have i1 := (And.left (And.right (And.right (And.right (And.right (And.right (And.right (And.right (And.right (And.right (And.right (And.right (And.right (And.right (And.right (And.right (And.right (And.right (And.right (And.right (And.right (And.right (And.right (And.right hs)))))))))))))))))))))))); have m4 := (And.left (And.right (And.right (And.right (And.right (And.right (And.right (And.right (And.right (And.right (And.right (And.right (And.right (And.right (And.right (And.right (And.right (And.right (And.right (And.right (And.right (And.right (And.right (And.right (And.right hs))))))))))))))))))))))))); have i2 := (And.right (And.right (And.right (And.right (And.right (And.right (And.right (And.right (And.right (And.right (And.right (And.right (And.right (And.right (And.right (And.right (And.right (And.right (And.right (And.right (And.right (And.right (And.right (And.right (And.right hs))))))))))))))))))))))))); try clear hs) | (refine hideE fun GG hGG => ?_; obtain ⟨dx, D, D1, D2, ys1, ys2, n1, n2, nn, t1, t2, t3, t4, t5, t6, t7, u1, u2, u3, u4, m1, m2, m3, i1, m4, i2⟩ := hs; refine hGG ?_; clear hGG GG)
  unfold FnOk
  intro dp un gd cn cs a ccd cl outer A₀ base h₀ L m s Q E B F X N T hk hd hu hret
  w_top off
  have hFill : PySem.Challenge.rw_nz0240_01 = PySem.Challenge.rw_nz0240_01 ∧ N240.hd.heap_39 = N240.hd.heap_39 → True := fun _ => trivial
  (first | (revert hFill; k_fill; intro hFill; clear hFill))
  refine wpAny_call ?_
  k_dflt (refine' code_def ?k1 ?k2 ?k3 ?k4 ?k5 ?kA ?kF ?kK ?k6 ?k7 ?k8 ?k9 ?kB ?_ ?c2 ?c3 ?c4 ?c5; (case kA => exact rfl); (case kF => exact rfl); (case kK => assumption); (case k1 => k_asm); (case k2 => k_asm); (case k3 => k_asm); (case k4 => k_asm); (case k5 => k_asm); (case k6 => k_is); (case k7 => k_is); (case k8 => ktr_room); (case k9 => exact BindsTo.of_eq rfl); (case c5 => decide); (case kB => exact locs rfl); (case c2 => exact rfl); (case c3 => exact rfl); (case c4 => exact rfl); k_whole)
  intro g' L' h' FG' F' N' B' X' T'
  (try dsimp only)
  ((try show wpAny _ _ _ _ _ _); (try k_fold))
  replace F' : Fr g' L' h' (fun y => List.lookup y [(Str.ofString "scan", Value.ref x)]) := F'
  repeat' ((fail_if_success (with_reducible show wpAny _ _ (exec (Stmt.If _ _ _ _) _) _ _ _)); (first | (k_unfold; (try dsimp only)) | (k_end; wrow_close) | walk1 | (dsimp only; walk1) | (leave1; walk_say "STEP leave1"; try dsimp only)))
  (first | (k_unfold; (try dsimp only)) | (k_end; wrow_close) | walk1 | (dsimp only; walk1) | (leave1; walk_say "STEP leave1"; try dsimp only))
  repeat' ((fail_if_success (with_reducible show wpAny _ _ (exec (Stmt.If _ _ _ _) _) _ _ _)); (first | (k_unfold; (try dsimp only)) | (k_end; wrow_close) | walk1 | (dsimp only; walk1) | (leave1; walk_say "STEP leave1"; try dsimp only)))
  · rename_i hhi l9 h9 F9' N9' l91 kF' kN' Tc' kX'
    refine hret _ ((l9, W.listOf #[] 0) :: R) _ _ (by k_asm) (by k_asm) ⟨l9, rfl, fun p hp => List.mem_cons_of_mem _ hp, ?_, [], 0, List.mem_cons_self, ?_⟩
    · exact fun q hq => Nat.ne_of_lt (l91 q hq)
    · unfold keysOf
      rw [if_neg (fun e => by omega), if_neg (fun e => by omega)]
      exact .nil
  · rename_i hhi tk9 l9 hz9 l91 h92 F92 N92
    have hh0 := hi_zero ok hhi
    refine if_found (w := w) (R := R) (ks := if st = 0 then (slotsOf dc).map fun s => [0, s] else []) F92 ?_ ?_
    · ((try show wpAny _ _ _ _ _ _); (try k_fold))
      repeat' ((fail_if_success (with_reducible show wpAny _ _ (exec (Stmt.Assign _ (Expr.ListComp _ _ _ _) _) _) _ _ _)); (first | (k_unfold; (try dsimp only)) | (k_end; wrow_close) | walk1 | (dsimp only; walk1) | (leave1; walk_say "STEP leave1"; try dsimp only)))
      · rename_i hst
        k_dflt (refine' comp_ifA (x := Str.ofString "slot") (y := Str.ofString "found") (h₀ := g') (L := L') (by k_asm) ?hLe ?hsw ?hy ?hpp ?hclos ?hcell ?hkind ?hnames ?hx ?_ ?hs; (case hLe => rfl); (case hsw => with_unfolding_all rfl); (case hy => with_unfolding_all rfl); (case hpp => with_unfolding_all rfl); (case hclos => with_unfolding_all rfl); (case hcell => decide); (case hkind => rfl); (case hnames => decide); (case hx => rfl); (case hs => intro _; with_unfolding_all rfl))
        repeat' ((fail_if_success (with_reducible show wpAny _ _ (eval (Expr.ListComp _ _ _ _) _) _ _ _)); (first | (k_unfold; (try dsimp only)) | (k_end; wrow_close) | walk1 | (dsimp only; walk1) | (leave1; walk_say "STEP leave1"; try dsimp only)))
        k_dflt (refine' comp_if (x := Str.ofString "slot") (h₀ := g') (L := L') (by k_asm) ?hclos ?hcell ?hkind ?hnames ?hx ?_ ?hs; (case hclos => with_unfolding_all rfl); (case hcell => decide); (case hkind => rfl); (case hnames => decide); (case hx => rfl); (case hs => intro _; with_unfolding_all rfl))
        repeat' ((fail_if_success (with_reducible show wpAny _ _ (pyIter _) _ _ _)); (first | (k_unfold; (try dsimp only)) | (k_end; wrow_close) | walk1 | (dsimp only; walk1) | (leave1; walk_say "STEP leave1"; try dsimp only)))
        k_dflt (refine' iter_listA (n := n1) (vs := ys1) ?hh F92 N92 ?hm ?_; (case hh => rfl); (case hm => exact (List.mem_cons_of_mem _ m3)))
        intro I1 H1 St1 F1 N1 hI1 hI2 hI3 hI4 W1 live1 st1
        refine ⟨I1, _, _, _, _, [(D1, W.listOf ys1.toArray n1)], PairI ((l9, W.listOf #[] 0) :: R) (fun s => (s, 0)) dc, rfl, (fun i ys nx hI p hp => hI.1 p (by rw [List.mem_singleton.mp hp]; exact (List.mem_cons_of_mem _ m3))), W1, live1, ?_, st1, hI1, hI2, hI3, fun p hp => Nat.ne_of_lt (hI4 p hp), F1, N1, ⟨fun p hp => hp, .nil⟩, ?_, ?_⟩
        · exact line_small (by have := i1.length; have := ok.2.2.1; omega)
        · refine pairs_turn (K := ((l9, W.listOf #[] 0) :: R)) (f := (fun s => (s, 0))) i1 fun k tv C mC H tk E' R3 hC hk3 F3 N3 => ?_
          ((try show wpAny _ _ _ _ _ _); (try k_fold))
          k_steps
          rename_i Dk hA FA NA lA
          exact .mk Dk hA _ _ _ _ rfl rfl FA NA lA
        intro Dq ysq nDq nxq Hq tkq hlenq hHi3 hDq Fq Nq
        ((try show wpAny _ _ _ _ _ _); (try k_fold))
        first | (have hKq := (And.left hHi3); have hysq := (And.right hHi3); try clear hHi3) | (obtain ⟨hKq, hysq⟩ := hHi3)
        repeat' ((fail_if_success (with_reducible show wpAny _ _ (call (Value.type "dict") _) _ _ _)); (first | (k_unfold; (try dsimp only)) | (k_end; wrow_close) | walk1 | (dsimp only; walk1) | (leave1; walk_say "STEP leave1"; try dsimp only)))
        rw [List.take_of_length_le (Nat.le_of_eq i1.length.symm)] at hysq
        refine dict_L rfl Fq Nq (modules_low (Top.nolimit T')) List.mem_cons_self (hysq.mono fun _ _ k => k.mono fun p hp _ => List.mem_cons_of_mem _ hp) (line_small (by have := i1.length; have := ok.2.2.1; omega)) ?_
        intro dd hdd tkd kvs Fd Nd lod Dd nodd memd lend
        repeat' ((fail_if_success (with_reducible show wpAny _ _ (call (Value.builtin "sorted") _) _ _ _)); (first | (k_unfold; (try dsimp only)) | (k_end; wrow_close) | walk1 | (dsimp only; walk1) | (leave1; walk_say "STEP leave1"; try dsimp only)))
        refine sorted_dict rfl Fd Nd lod Dd (by have := ok.2.2.1; omega) ?_
        intro B vsB nsB eB hB tkB FB NB lB iB pB oB
        obtain rfl : nsB = slotsOf dc := slots_sorted pB oB nodd memd ok.2.2.2.2.1 _ rfl
        repeat' ((fail_if_success (with_reducible show wpAny _ _ (pyIter _) _ _ _)); (first | (k_unfold; (try dsimp only)) | (k_end; wrow_close) | walk1 | (dsimp only; walk1) | (leave1; walk_say "STEP leave1"; try dsimp only)))
        k_dflt (refine' iter_listA (n := eB) (vs := vsB) ?hh FB NB ?hm ?_; (case hh => rfl); (case hm => exact List.mem_cons_self))
        intro I1 H1 St1 F1 N1 hI1 hI2 hI3 hI4 W1 live1 st1
        refine ⟨I1, _, _, _, _, [(B, W.listOf vsB.toArray eB)], PairI ((B, W.listOf vsB.toArray eB) :: (Dq, W.listOf ysq.toArray nDq) :: nxq) (fun s => (0, s)) (slotsOf dc), rfl, (fun i ys nx hI p hp => hI.1 p (by rw [List.mem_singleton.mp hp]; exact List.mem_cons_self)), W1, live1, ?_, st1, hI1, hI2, hI3, fun p hp => Nat.ne_of_lt (hI4 p hp), F1, N1, ⟨fun p hp => hp, .nil⟩, ?_, ?_⟩
        · exact line_small (by have := iB.length; have := (slots_len dc); omega)
        · refine pairs_turn (K := ((B, W.listOf vsB.toArray eB) :: (Dq, W.listOf ysq.toArray nDq) :: nxq)) (f := (fun s => (0, s))) iB fun k tv C mC H tk E' R3 hC hk3 F3 N3 => ?_
          ((try show wpAny _ _ _ _ _ _); (try k_fold))
          k_steps
          rename_i Dk hA FA NA lA
          exact .mk Dk hA _ _ _ _ rfl rfl FA NA lA
        intro Dr ysr nDr nxr Hr tkr hlenr hHi4 hDr Fr' Nr
        ((try show wpAny _ _ _ _ _ _); (try k_fold))
        first | (have hKr := (And.left hHi4); have hysr := (And.right hHi4); try clear hHi4) | (obtain ⟨hKr, hysr⟩ := hHi4)
        rw [List.take_of_length_le (Nat.le_of_eq iB.length.symm)] at hysr
        (try dsimp only)
        k_steps
        refine .mk rfl Dr ysr nDr nxr Hr tkr rfl Fr' Nr (fun p hp => hKr p (List.mem_cons_of_mem _ (List.mem_cons_of_mem _ (hKq p (List.mem_cons_of_mem _ hp))))) hDr (len_le hysr.length (slots_len dc) (by decide)) ?_
        rw [if_pos hst]
        exact Paired.keys hysr fun p hp _ => List.mem_cons_of_mem _ hp
      · rename_i hst
        refine .mk rfl l9 [] 0 R h92 _ rfl (fr_put F92 (if_pos rfl)) N92 (fun p hp => hp) (fun q hq => Nat.ne_of_lt (l91 q hq)) (Nat.zero_le _) ?_
        rw [if_neg hst]
        exact .nil
    · intro Dr ysr nDr nxr H2 tk2 Fr' Nr qR hDr hlr hKr
      have q1 := qR _ m1
      have q2 := qR _ m2
      (try dsimp only)
      ((try show wpAny _ _ _ _ _ _); (try k_fold))
      repeat' ((fail_if_success (with_reducible show wpAny _ _ (eval (Expr.ListComp _ _ _ _) _) _ _ _)); (first | (k_unfold; (try dsimp only)) | (k_end; wrow_close) | walk1 | (dsimp only; walk1) | (leave1; walk_say "STEP leave1"; try dsimp only)))
      · rename_i hen
        k_dflt (refine' comp_if (x := Str.ofString "slot") (h₀ := g') (L := L') (by k_asm) ?hclos ?hcell ?hkind ?hnames ?hx ?_ ?hs; (case hclos => with_unfolding_all rfl); (case hcell => decide); (case hkind => rfl); (case hnames => decide); (case hx => rfl); (case hs => intro _; with_unfolding_all rfl))
        repeat' ((fail_if_success (with_reducible show wpAny _ _ (eval (Expr.ListComp _ _ _ _) _) _ _ _)); (first | (k_unfold; (try dsimp only)) | (k_end; wrow_close) | walk1 | (dsimp only; walk1) | (leave1; walk_say "STEP leave1"; try dsimp only)))
        k_dflt (refine' comp_if (x := Str.ofString "slot") (h₀ := g') (L := L') (by k_asm) ?hclos ?hcell ?hkind ?hnames ?hx ?_ ?hs; (case hclos => with_unfolding_all rfl); (case hcell => decide); (case hkind => rfl); (case hnames => decide); (case hx => rfl); (case hs => intro _; with_unfolding_all rfl))
        repeat' ((fail_if_success (with_reducible show wpAny _ _ (pyIter _) _ _ _)); (first | (k_unfold; (try dsimp only)) | (k_end; wrow_close) | walk1 | (dsimp only; walk1) | (leave1; walk_say "STEP leave1"; try dsimp only)))
        k_dflt (refine' iter_listA (n := n2) (vs := ys2) ?hh Fr' Nr ?hm ?_; (case hh => rfl); (case hm => exact (List.mem_cons_of_mem _ (qR _ m4))))
        intro I1 H1 St1 F1 N1 hI1 hI2 hI3 hI4 W1 live1 st1
        refine ⟨I1, _, _, _, _, [(D2, W.listOf ys2.toArray n2)], PairI ((Dr, W.listOf ysr.toArray nDr) :: nxr) (fun s => (s, 0)) ac, rfl, (fun i ys nx hI p hp => hI.1 p (by rw [List.mem_singleton.mp hp]; exact (List.mem_cons_of_mem _ (qR _ m4)))), W1, live1, ?_, st1, hI1, hI2, hI3, fun p hp => Nat.ne_of_lt (hI4 p hp), F1, N1, ⟨fun p hp => hp, .nil⟩, ?_, ?_⟩
        · exact line_small (by have := i2.length; have := ok.2.2.2.1; omega)
        · refine pairs_turn (K := ((Dr, W.listOf ysr.toArray nDr) :: nxr)) (f := (fun s => (s, 0))) i2 fun k tv C mC H tk E' R3 hC hk3 F3 N3 => ?_
          ((try show wpAny _ _ _ _ _ _); (try k_fold))
          k_steps
          rename_i Dk hA FA NA lA
          exact .mk Dk hA _ _ _ _ rfl rfl FA NA lA
        intro Dq ysq nDq nxq Hq tkq hlenq hHi5 hDq Fq Nq
        ((try show wpAny _ _ _ _ _ _); (try k_fold))
        first | (have hKq := (And.left hHi5); have hysq := (And.right hHi5); try clear hHi5) | (obtain ⟨hKq, hysq⟩ := hHi5)
        repeat' ((fail_if_success (with_reducible show wpAny _ _ (call (Value.type "dict") _) _ _ _)); (first | (k_unfold; (try dsimp only)) | (k_end; wrow_close) | walk1 | (dsimp only; walk1) | (leave1; walk_say "STEP leave1"; try dsimp only)))
        rw [List.take_of_length_le (Nat.le_of_eq i2.length.symm)] at hysq
        refine dict_L rfl Fq Nq (modules_low (Top.nolimit T')) List.mem_cons_self (hysq.mono fun _ _ k => k.mono fun p hp _ => List.mem_cons_of_mem _ hp) (line_small (by have := i2.length; have := ok.2.2.2.1; omega)) ?_
        intro dd hdd tkd kvs Fd Nd lod Dd nodd memd lend
        repeat' ((fail_if_success (with_reducible show wpAny _ _ (call (Value.builtin "sorted") _) _ _ _)); (first | (k_unfold; (try dsimp only)) | (k_end; wrow_close) | walk1 | (dsimp only; walk1) | (leave1; walk_say "STEP leave1"; try dsimp only)))
        refine sorted_dict rfl Fd Nd lod Dd (by have := ok.2.2.2.1; omega) ?_
        intro B vsB nsB eB hB tkB FB NB lB iB pB oB
        obtain rfl : nsB = slotsOf ac := slots_sorted pB oB nodd memd ok.2.2.2.2.2 _ rfl
        repeat' ((fail_if_success (with_reducible show wpAny _ _ (pyIter _) _ _ _)); (first | (k_unfold; (try dsimp only)) | (k_end; wrow_close) | walk1 | (dsimp only; walk1) | (leave1; walk_say "STEP leave1"; try dsimp only)))
        k_dflt (refine' iter_listA (n := eB) (vs := vsB) ?hh FB NB ?hm ?_; (case hh => rfl); (case hm => exact List.mem_cons_self))
        intro I1 H1 St1 F1 N1 hI1 hI2 hI3 hI4 W1 live1 st1
        refine ⟨I1, _, _, _, _, [(B, W.listOf vsB.toArray eB)], PairI ((B, W.listOf vsB.toArray eB) :: (Dq, W.listOf ysq.toArray nDq) :: nxq) (fun s => (1, s)) (slotsOf ac), rfl, (fun i ys nx hI p hp => hI.1 p (by rw [List.mem_singleton.mp hp]; exact List.mem_cons_self)), W1, live1, ?_, st1, hI1, hI2, hI3, fun p hp => Nat.ne_of_lt (hI4 p hp), F1, N1, ⟨fun p hp => hp, .nil⟩, ?_, ?_⟩
        · exact line_small (by have := iB.length; have := (slots_len ac); omega)
        · refine pairs_turn (K := ((B, W.listOf vsB.toArray eB) :: (Dq, W.listOf ysq.toArray nDq) :: nxq)) (f := (fun s => (1, s))) iB fun k tv C mC H tk E' R3 hC hk3 F3 N3 => ?_
          ((try show wpAny _ _ _ _ _ _); (try k_fold))
          k_steps
          rename_i Dk hA FA NA lA
          exact .mk Dk hA _ _ _ _ rfl rfl FA NA lA
        intro Dv ysv nDv nxv Hv tkv hlenv hHi6 hDv Fv Nv
        ((try show wpAny _ _ _ _ _ _); (try k_fold))
        first | (have hKv := (And.left hHi6); have hysv := (And.right hHi6); try clear hHi6) | (obtain ⟨hKv, hysv⟩ := hHi6)
        rw [List.take_of_length_le (Nat.le_of_eq iB.length.symm)] at hysv
        clear FB NB lB Fd Nd Fq Nq Fr' Nr
        have hz : ysr.length + ysv.length ≤ sizeLine := line_small (Nat.le_trans (Nat.add_le_add hlr (Nat.le_of_eq hysv.length)) (Nat.le_trans (Nat.add_le_add_left (slots_len ac) 8) (by decide)))
        have toV : ∀ p ∈ (Dr, W.listOf ysr.toArray nDr) :: nxr, p ∈ nxv := fun p hp => hKv p (List.mem_cons_of_mem _ (List.mem_cons_of_mem _ (hKq p hp)))
        have q3 := toV _ List.mem_cons_self
        (try k_unfold)
        (try dsimp only)
        ((try show wpAny _ _ _ _ _ _); (try k_fold))
        k_steps
        rename_i D9 h9 l9' h9' F9' N9' kF' kN' Tc' kX'
        refine hret _ ((D9, W.listOf (ysr ++ ysv).toArray 0) :: (Dv, W.listOf ysv.toArray nDv) :: nxv) _ _ (by k_asm) (by k_asm) ⟨D9, rfl, fun p hp => List.mem_cons_of_mem _ (List.mem_cons_of_mem _ (toV p (List.mem_cons_of_mem _ (qR p hp)))), ?_, _, _, List.mem_cons_self, ?_⟩
        · intro q hq
          exact Nat.ne_of_lt (l9' q (List.mem_cons_of_mem _ (toV q (List.mem_cons_of_mem _ (qR q hq)))))
        · rw [keysOf_zero hh0, if_pos hen]
          exact Paired.app (hKr.mono fun _ _ k => k.mono fun p hp _ => List.mem_cons_of_mem _ (List.mem_cons_of_mem _ (toV p hp))) (Paired.keys hysv fun p hp _ => List.mem_cons_of_mem _ (List.mem_cons_of_mem _ hp))
      · rename_i hen _ _ _ _
        refine hret _ ((Dr, W.listOf ysr.toArray nDr) :: nxr) _ _ (by k_asm) (by k_asm) ⟨Dr, rfl, fun p hp => List.mem_cons_of_mem _ (qR p hp), fun q hq => hDr q (qR q hq), _, _, List.mem_cons_self, ?_⟩
        rw [keysOf_zero hh0, if_neg hen, List.append_nil]
        exact hKr
end
end N240
end
-- Kept
section
open PySem PySem.W PyProof.Rows PySem.Spec PySem.Calls
namespace N240
variable {w : World} {p : Program} {loose : List Str} {mean : ExcName → Option Value} {mg mb : Str → Option Value}
section
set_option maxRecDepth 100000 in
set_option maxHeartbeats 400000 in
theorem kept_ok {row cop told : Addr} {ot : Obj} {xs : List (List Int × Addr × Value)} {rs ccs : List Value} {n1 n2 : Nat} {rest : Led} (hne : row ≠ cop) (h1 : ∀ q ∈ rest, q.1 ≠ row ∧ q.1 ≠ cop) (lot : (told == sysModules) = false) (mt : (told, ot) ∈ rest) (tot : TObj w ot xs) (kt : KeysIn w rest xs) (h6 : ∀ x ∈ xs, x.1 ∈ sixKeys) (hx : xs.length ≤ 6) (hr : rs.length ≤ sizeLine) (hc : ccs.length ≤ sizeLine) :
    FnOk w p loose mean mg mb 2 16 (.ref 146) [.ref row, .ref cop, .ref told] ((row, W.listOf rs.toArray n1) :: (cop, W.listOf ccs.toArray n2) :: rest)
      (fun v news' => ∃ d o' n1' n2', v = .none ∧ (d == sysModules) = false ∧ TObj w o' xs ∧ (∀ q ∈ rest, q.1 < d) ∧ row < d ∧ cop < d ∧ news' = (d, o') :: (row, W.listOf (rs ++ [Value.ref told]).toArray n1') :: (cop, W.listOf (ccs ++ [Value.ref d]).toArray n2') :: rest) := by
  unfold FnOk
  intro dp un gd cn cs a ccd cl outer A₀ base h₀ L m s Q E B F X N T hk hd hu hret
  w_top off
  have hFill : PySem.Challenge.rw_nz0240_01 = PySem.Challenge.rw_nz0240_01 ∧ N240.hd.heap_39 = N240.hd.heap_39 → True := fun _ => trivial
  (first | (revert hFill; k_fill; intro hFill; clear hFill))
  refine wpAny_call ?_
  k_dflt (refine' code_def ?k1 ?k2 ?k3 ?k4 ?k5 ?kA ?kF ?kK ?k6 ?k7 ?k8 ?k9 ?kB ?_ ?c2 ?c3 ?c4 ?c5; (case kA => exact rfl); (case kF => exact rfl); (case kK => assumption); (case k1 => k_asm); (case k2 => k_asm); (case k3 => k_asm); (case k4 => k_asm); (case k5 => k_asm); (case k6 => k_is); (case k7 => k_is); (case k8 => ktr_room); (case k9 => exact BindsTo.of_eq rfl); (case c5 => decide); (case kB => exact locs rfl); (case c2 => exact rfl); (case c3 => exact rfl); (case c4 => exact rfl); k_whole)
  intro g' L' h' FG' F' N' B' X' T'
  (try dsimp only)
  ((try show wpAny _ _ _ _ _ _); (try k_fold))
  replace F' : Fr g' L' h' (fun y => List.lookup y [(Str.ofString "told", Value.ref told), (Str.ofString "copies", Value.ref cop), (Str.ofString "row", Value.ref row)]) := F'
  repeat' ((fail_if_success (with_reducible show wpAny _ _ (call (Value.builtin "list.append") _) _ _ _)); (first | (k_unfold; (try dsimp only)) | (k_end; wrow_close) | walk1 | (dsimp only; walk1) | (leave1; walk_say "STEP leave1"; try dsimp only)))
  k_dflt (refine' append_L ?F ?N (UpdF.head (head2 hne h1)) ?z ?_; (case F => k_asm); (case N => k_asm); (case z => assumption))
  intro h2 n2a F2 N2
  (try dsimp only at N2)
  repeat' ((fail_if_success (with_reducible show wpAny _ _ (call (Value.type "dict") _) _ _ _)); (first | (k_unfold; (try dsimp only)) | (k_end; wrow_close) | walk1 | (dsimp only; walk1) | (leave1; walk_say "STEP leave1"; try dsimp only)))
  refine td_copy (xs := xs) F2 N2 (modules_low (Top.nolimit T')) lot (by simp [mt]) tot (kt.mono fun p hp _ => by simp [hp]) h6 (line_small (by omega)) ?_
  intro d h3 o3 F3 N3 l3 lo3 to3
  have hdr : row < d := l3 (row, _) List.mem_cons_self
  have hdc : cop < d := l3 (cop, W.listOf ccs.toArray n2) (by simp)
  repeat' ((fail_if_success (with_reducible show wpAny _ _ (call (Value.builtin "list.append") _) _ _ _)); (first | (k_unfold; (try dsimp only)) | (k_end; wrow_close) | walk1 | (dsimp only; walk1) | (leave1; walk_say "STEP leave1"; try dsimp only)))
  k_dflt (refine' append_L ?F ?N (UpdF.tail ?a (UpdF.tail ?b (UpdF.head fun q hq => (h1 q hq).2))) ?z ?_; (case F => k_asm); (case N => k_asm); (case a => exact Ne.symm (Nat.ne_of_lt hdc)); (case b => exact hne); (case z => assumption))
  intro h4 n4 F4 N4
  (try dsimp only at N4)
  k_steps
  refine hret _ _ _ _ (by k_asm) (by k_asm) ⟨d, o3, _, _, rfl, lo3, to3, fun q hq => l3 q (by simp [hq]), hdr, hdc, rfl⟩
end
end N240
end
-- Size
section
open PySem PySem.W PyProof.Rows PySem.Spec PySem.Calls
namespace N240
variable {w : World} {p : Program} {loose : List Str} {mean : ExcName → Option Value} {mg mb : Str → Option Value}
def SizeI (R : Led) (T : Tab) (M : CMap) (i : Nat) (c : Int × Tok) (nx : Led) : Prop := (∀ p ∈ R, p ∈ nx) ∧ c.1 = totTo T M i
theorem size_end {g' h' : Heap} {L : Addr} {n : Int} {t : Tok} {kv tv : Value} {u m₀ : Str → Option Value} {R nx nx' : Led} {l : Addr × Obj} {T : Tab} {M : CMap} {i : Nat} {s₁ : Shared} {tk : Nat}
    (F' : Fr g' L h' fun y => if y = Str.ofString "total" then some (Value.int n t) else if y = Str.ofString "key" then some kv else if y = Str.ofString "total" then some tv else if [Str.ofString "key"].contains y = true then u y else m₀ y)
    (N' : News g' L h' nx') (hnx : ∀ p ∈ nx, p ∈ nx') (hl : l ∈ nx) (hI : SizeI R T M i (n, t) nx') :
    LEnd g' L (Str.ofString "key") [l] nx (fun c : Int × Tok => [(Str.ofString "total", Value.int c.1 c.2)]) [Str.ofString "key"] m₀ (SizeI R T M i) s₁ { s₁ with heap := h', toks := tk } := by
  refine ⟨h', tk, _, nx', (n, t), rfl, F', N', fun p hp _ => hnx p hp, fun p hp => by rw [List.mem_singleton.mp hp]; exact hnx _ hl, hI, fun p hp => ?_, fun z hz hn hc => ?_⟩
  · rw [List.mem_singleton.mp hp]
    exact if_pos rfl
  · have hz2 : z ≠ Str.ofString "total" := hn _ List.mem_cons_self
    rw [if_neg hz2, if_neg hz, if_neg hz2, hc]
    rfl
def ModI (K : Led) (ns : List Int) (i : Nat) (ys : List Value) (nx : Led) : Prop := nx = K ∧ IntsAre ys (ns.take i)
theorem drop2_cases (ns : List Int) : ns.drop (ns.length - 2) = [] ∨ (∃ a, ns.drop (ns.length - 2) = [a]) ∨ ∃ a b, ns.drop (ns.length - 2) = [a, b] := by
  have hl : (ns.drop (ns.length - 2)).length ≤ 2 := by rw [List.length_drop]; omega
  match h : ns.drop (ns.length - 2) with
  | [] => exact .inl rfl
  | [a] => exact .inr (.inl ⟨a, rfl⟩)
  | [a, b] => exact .inr (.inr ⟨a, b, rfl⟩)
  | a :: b :: c :: r => rw [h] at hl; simp at hl
theorem int_eq {n m : Int} {t : Tok} (h : n = m) : ∃ t', Value.int n t = Value.int m t' := ⟨t, by rw [h]⟩
theorem toc_nodup {w : World} {o : Obj} {xs : List (List Int × Addr × Value)} (h : TObj w o xs) : (xs.map (·.1)).Nodup := let ⟨_, _, _, _, _, n⟩ := h; n
section
set_option maxRecDepth 100000 in
set_option maxHeartbeats 200000 in
theorem size_ok {dc dt : Addr} {oz ot : Obj} {Tb : Tab} {M : CMap} {toll : Int} {t : Tok} {R : Led} (loc : (dc == sysModules) = false) (lot : (dt == sysModules) = false) (mc : (dc, oz) ∈ R) (mt : (dt, ot) ∈ R) (hT : TabO w R oz Tb) (hM : MapO w R ot M) (hg : GoodMap Tb M) :
    FnOk w p loose mean mg mb 3 30 (.ref 132) [.ref dc, .int toll t, .ref dt] R (fun v news' => (∃ t, v = .int (lsize Tb toll M) t) ∧ ∀ p ∈ R, p ∈ news') := by
  first | (have xc := (And.left hT); have toc := (And.left (And.right hT)); have kc := (And.left (And.right (And.right hT))); have pc := (And.right (And.right (And.right hT))); try clear hT) | (refine hideE fun GG hGG => ?_; obtain ⟨xc, toc, kc, pc⟩ := hT; refine hGG ?_; clear hGG GG)
  first | (have xt := (And.left hM); have tot := (And.left (And.right hM)); have kt := (And.left (And.right (And.right hM))); have pt := (And.right (And.right (And.right hM))); try clear hM) | (refine hideE fun GG hGG => ?_; obtain ⟨xt, tot, kt, pt⟩ := hM; refine hGG ?_; clear hGG GG)
  have hHi3 := toc.lit
  first | (have ec := (And.left hHi3); have hec := (And.right hHi3); try clear hHi3) | (obtain ⟨ec, hec⟩ := hHi3)
  unfold FnOk
  intro dp un gd cn cs a ccd cl outer A₀ base h₀ L m s Q E B F X N T hk hd hu hret
  w_top off
  have hFill : PySem.Challenge.rw_nz0240_01 = PySem.Challenge.rw_nz0240_01 ∧ N240.hd.heap_39 = N240.hd.heap_39 → True := fun _ => trivial
  (first | (revert hFill; k_fill; intro hFill; clear hFill))
  refine wpAny_call ?_
  k_dflt (refine' code_defC ?k1 ?k2 ?k3 ?k4 ?k5 ?kA ?kF ?kK ?k6 ?k7 ?k8 ?k9 ?kB ?kD ?_ ?c2 ?c3 ?c4; (case kA => exact rfl); (case kF => exact rfl); (case kK => assumption); (case k1 => k_asm); (case k2 => k_asm); (case k3 => k_asm); (case k4 => k_asm); (case k5 => k_asm); (case k6 => k_is); (case k7 => k_is); (case k8 => ktr_room); (case k9 => exact BindsTo.of_eq rfl); (case kB => exact rfl); (case kD => decide +kernel); (case c2 => exact rfl); (case c3 => exact rfl); (case c4 => exact rfl); k_whole)
  intro g' L' h' tk' cells' FG' F' N' Y' B' X' T' l1
  (try k_lt l1)
  have hHi4 := CellsAre.one Y'
  first | (have oc := (And.left hHi4); have hE := (And.left (And.right hHi4)); have hoc := (And.right (And.right hHi4)); try clear hHi4) | (refine hideE fun GG hGG => ?_; obtain ⟨oc, hE, hoc⟩ := hHi4; refine hGG ?_; clear hGG GG)
  subst hE
  clear Y'
  (try simp only [List.cons_append, List.nil_append] at N')
  (try dsimp only)
  ((try show wpAny _ _ _ _ _ _); (try k_fold))
  repeat' ((fail_if_success (with_reducible show wpAny _ _ (exec (Stmt.For _ _ _ _ _) _) _ _ _)); (first | (k_unfold; (try dsimp only)) | (k_end; wrow_close) | walk1 | (dsimp only; walk1) | (leave1; walk_say "STEP leave1"; try dsimp only)))
  rename_i h9 F9 N9
  subst hec
  with_unfolding_all refine For_invVF F9 (by rfl) (by rfl) ?_
  repeat' ((fail_if_success (with_reducible show wpAny _ _ (pyIter _) _ _ _)); (first | (k_unfold; (try dsimp only)) | (k_end; wrow_close) | walk1 | (dsimp only; walk1) | (leave1; walk_say "STEP leave1"; try dsimp only)))
  have lt9 := news_lt N9
  refine loop_dict (x := Str.ofString "key") (fun c => [(Str.ofString "total", Value.int c.1 c.2)]) [Str.ofString "key"] (SizeI ((L' + 1, oc) :: R) Tb M) ((0, tk') : Int × Tok) ?up rfl loc (List.mem_cons_of_mem _ mc) F9 N9 ⟨fun p hp => hp, rfl⟩ ?hk ?_ ?_
  case up =>
    intro i c R1 R2 hx hHi5
    first | (have a1 := (And.left hHi5); have a2 := (And.right hHi5); try clear hHi5) | (obtain ⟨a1, a2⟩ := hHi5)
    exact ⟨fun p hp => hx p (a1 p hp) (.inr (lt9 p hp)), a2⟩
  case hk =>
    intro p hp
    rw [List.mem_singleton.mp hp]
    exact if_pos rfl
  · intro i e c nx u h6 tk6 hv hl6 hHi6 F6 N6
    ((try show wpAny _ _ _ _ _ _); (try k_fold))
    first | (have hK6 := (And.left hHi6); have hS6 := (And.right hHi6); try clear hHi6) | (obtain ⟨hK6, hS6⟩ := hHi6)
    have hHi7 : ∃ x, xc[i]? = some x ∧ e = entryOfKey (tK w) x := by
      rw [List.getElem?_map] at hv
      cases hx : xc[i]? with
      | none => rw [hx] at hv; cases hv
      | some x => rw [hx] at hv; exact ⟨x, rfl, (Option.some.inj hv).symm⟩
    first | (have hE1 := (And.right (And.right hHi7)); subst hE1; have x := (And.left hHi7); have hx := (And.left (And.right hHi7)); try clear hHi7) | (refine hideE fun GG hGG => ?_; obtain ⟨x, hx, rfl⟩ := hHi7; refine hGG ?_; clear hGG GG)
    have hHi8 := Paired.at pc i x hx
    first | (have r := (And.left hHi8); have hr := (And.left (And.right hHi8)); have exr := (And.left (And.right (And.right hHi8))); have Di := (And.left (And.right (And.right (And.right hHi8)))); have oi := (And.left (And.right (And.right (And.right (And.right hHi8))))); have kvs := (And.left (And.right (And.right (And.right (And.right (And.right hHi8)))))); have eDi := (And.left (And.right (And.right (And.right (And.right (And.right (And.right hHi8))))))); have mDi := (And.left (And.right (And.right (And.right (And.right (And.right (And.right (And.right hHi8)))))))); have hoi := (And.left (And.right (And.right (And.right (And.right (And.right (And.right (And.right (And.right hHi8))))))))); have hrow := (And.left (And.right (And.right (And.right (And.right (And.right (And.right (And.right (And.right (And.right hHi8)))))))))); have hU2 := (And.right (And.right (And.right (And.right (And.right (And.right (And.right (And.right (And.right (And.right hHi8)))))))))); try clear hHi8) | (refine hideE fun GG hGG => ?_; obtain ⟨r, hr, exr, Di, oi, kvs, eDi, mDi, hoi, hrow, _⟩ := hHi8; refine hGG ?_; clear hGG GG)
    have kx := (kc x (List.mem_of_getElem? hx)).mono (R' := nx) fun p hp _ => hK6 p (List.mem_cons_of_mem _ hp)
    replace F6 : Fr g' L' h6 _ := F6
    have hHi9 := reformA N6 (hK6 _ List.mem_cons_self)
    first | (have R7 := (And.left hHi9); have to7 := (And.left (And.right hHi9)); have of7 := (And.left (And.right (And.right hHi9))); have N7 := (And.right (And.right (And.right hHi9))); try clear hHi9) | (refine hideE fun GG hGG => ?_; obtain ⟨R7, to7, of7, N7⟩ := hHi9; refine hGG ?_; clear hGG GG)
    replace N7 : News g' L' h6 ((L' + 1, oc) :: R7) := N7
    have hK7 : ∀ p ∈ R, p ∈ (L' + 1, oc) :: R7 := fun p hp => to7 p (hK6 p (List.mem_cons_of_mem _ hp))
    clear N6
    clear F9 N9
    dsimp only [kstB, entryOfKey] at F6
    ((try show wpAny _ _ _ _ _ _); (try k_fold))
    repeat' ((fail_if_success (with_reducible show wpAny _ _ (eval (Expr.IfExp _ _ _ _) _) _ _ _)); (first | (k_unfold; (try dsimp only)) | (k_end; wrow_close) | walk1 | (dsimp only; walk1) | (leave1; walk_say "STEP leave1"; try dsimp only)))
    refine IfExp_ ?_
    repeat' ((fail_if_success (with_reducible show wpAny _ _ (compareOp _ _ _) _ _ _)); (first | (k_unfold; (try dsimp only)) | (k_end; wrow_close) | walk1 | (dsimp only; walk1) | (leave1; walk_say "STEP leave1"; try dsimp only)))
    have kx7 := kx.mono (R' := (L' + 1, oc) :: R7) fun p hp _ => to7 p hp
    have kt7 : KeysIn w ((L' + 1, oc) :: R7) xt := kt.mono fun p hp _ => hK7 p hp
    have kc7 : KeysIn w ((L' + 1, oc) :: R7) xc := kc.mono fun p hp _ => hK7 p hp
    have mt7 := hK7 _ mt
    have mc7 := hK7 _ mc
    have mD7 := hK7 _ mDi
    have hrT : r ∈ Tb := List.mem_of_getElem? hr
    rcases map_at pt x.1 with ⟨ha, hg0⟩ | ⟨a', v', t', ha, hg0, hmem⟩
    · refine td_in (o := ot) (xs := xt) (k := x.1) ?hu N7 lot mt7 tot kt7 kx7 fun tk5 => ?_
      case hu => first | k_units | ktr_units
      rw [ha]
      dsimp only [Option.isSome]
      k_steps
      rename_i hA FA NA
      refine size_end FA NA to7 hl6 ⟨fun p hp => to7 p (hK6 p hp), ?_⟩
      show c.1 + 4 = totTo Tb M (i + 1)
      rw [totTo_succ hr, hS6]
      unfold cost1
      rw [← exr, hg0]
    · refine td_in (o := ot) (xs := xt) (k := x.1) ?hu N7 lot mt7 tot kt7 kx7 fun tk5 => ?_
      case hu => first | k_units | ktr_units
      rw [ha]
      dsimp only [Option.isSome]
      repeat' ((fail_if_success (with_reducible show wpAny _ _ (subscriptTail _ _ _ _) _ _ _)); (first | (k_unfold; (try dsimp only)) | (k_end; wrow_close) | walk1 | (dsimp only; walk1) | (leave1; walk_say "STEP leave1"; try dsimp only)))
      k_dflt (refine' td_get (k := x.1) (p := x.2) (o := W.dictOf (xc.map (entryOfKey (tK w))) ec) (xs := xc) ?hu N7 ?hm toc ?hks ?hk ?hp ?_ ?hs ?ht; (case hu => first | k_units | ktr_units); (case hm => exact mc7); (case hks => exact kc7); (case hk => exact kx7); (case hp => exact atKey_of_get (toc_nodup toc) hx); (case hs => with_unfolding_all rfl); (case ht => intro _; with_unfolding_all rfl))
      intro tk6'
      dsimp only
      repeat' ((fail_if_success (with_reducible show wpAny _ _ (subscriptTail _ _ _ _) _ _ _)); (first | (k_unfold; (try dsimp only)) | (k_end; wrow_close) | walk1 | (dsimp only; walk1) | (leave1; walk_say "STEP leave1"; try dsimp only)))
      k_dflt (refine' td_get (k := x.1) (p := (a', Value.int v' t')) (o := ot) (xs := xt) ?hu N7 ?hm tot ?hks ?hk ha ?_ ?hs ?ht; (case hu => first | k_units | ktr_units); (case hm => exact mt7); (case hks => exact kt7); (case hk => exact kx7); (case hs => with_unfolding_all rfl); (case ht => intro _; with_unfolding_all rfl))
      intro tk7
      dsimp only
      rw [eDi]
      have hHi10 := row_at hrow ((hg.2.2 _ hmem).2 r hrT exr.symm)
      first | (have tr' := (And.left hHi10); have hva := (And.right hHi10); try clear hHi10) | (obtain ⟨tr', hva⟩ := hHi10)
      repeat' ((fail_if_success (with_reducible show wpAny _ _ (subscriptTail _ _ _ _) _ _ _)); (first | (k_unfold; (try dsimp only)) | (k_end; wrow_close) | walk1 | (dsimp only; walk1) | (leave1; walk_say "STEP leave1"; try dsimp only)))
      k_dflt (refine' id_get_int (o := oi) (kvs := kvs) N7 ?hm hoi hva ?_ ?hs; (case hm => exact mD7); (case hs => with_unfolding_all rfl))
      intro tk8
      k_steps
      rename_i hA FA NA
      refine size_end FA NA to7 hl6 ⟨fun p hp => to7 p (hK6 p hp), ?_⟩
      show c.1 + rowGet r.2 v' = totTo Tb M (i + 1)
      rw [totTo_succ hr, hS6]
      unfold cost1
      rw [← exr, hg0]
  · intro c nx u h6 tk6 hl6 hHi11 F6 N6
    ((try show wpAny _ _ _ _ _ _); (try k_fold))
    first | (have hK6 := (And.left hHi11); have hS6 := (And.right hHi11); try clear hHi11) | (obtain ⟨hK6, hS6⟩ := hHi11)
    have hHi12 := reformA N6 (hK6 _ List.mem_cons_self)
    first | (have R7 := (And.left hHi12); have to7 := (And.left (And.right hHi12)); have of7 := (And.left (And.right (And.right hHi12))); have N7 := (And.right (And.right (And.right hHi12))); try clear hHi12) | (refine hideE fun GG hGG => ?_; obtain ⟨R7, to7, of7, N7⟩ := hHi12; refine hGG ?_; clear hGG GG)
    replace N7 : News g' L' h6 ((L' + 1, oc) :: R7) := N7
    replace F6 : Fr g' L' h6 _ := F6
    have hK7 : ∀ p ∈ R, p ∈ (L' + 1, oc) :: R7 := fun p hp => to7 p (hK6 p (List.mem_cons_of_mem _ hp))
    clear N6 F9 N9
    dsimp only [kstB] at F6
    (try dsimp only)
    ((try show wpAny _ _ _ _ _ _); (try k_fold))
    repeat' ((fail_if_success (with_reducible show wpAny _ _ (exec (Stmt.Assign _ (Expr.ListComp _ _ _ _) _) _) _ _ _)); (fail_if_success (with_reducible show wpAny _ _ (eval (Expr.ListComp _ _ _ _) _) _ _ _)); (first | (k_unfold; (try dsimp only)) | (k_end; wrow_close) | walk1 | (dsimp only; walk1) | (leave1; walk_say "STEP leave1"; try dsimp only)))
    have mt7 := hK7 _ mt
    have kt7 : KeysIn w ((L' + 1, oc) :: R7) xt := kt.mono fun p hp _ => hK7 p hp
    have hlx : xt.length ≤ 6 := by rw [pt.length]; exact hg.2.1
    k_dflt (refine' comp_if (x := Str.ofString "key") (h₀ := g') (L := L') F6 ?hclos ?hcell ?hkind ?hnames ?hx ?_ ?hs; (case hclos => with_unfolding_all rfl); (case hcell => decide); (case hkind => rfl); (case hnames => decide); (case hx => rfl); (case hs => intro _; with_unfolding_all rfl))
    repeat' ((fail_if_success (with_reducible show wpAny _ _ (call (Value.builtin "sorted") _) _ _ _)); (first | (k_unfold; (try dsimp only)) | (k_end; wrow_close) | walk1 | (dsimp only; walk1) | (leave1; walk_say "STEP leave1"; try dsimp only)))
    refine sorted_tdict rfl F6 N7 lot mt7 tot kt7 (by omega) (by rw [Paired.keysM pt]; exact hg.1) ?_
    intro B eB hB tkB FB NB lB
    repeat' ((fail_if_success (with_reducible show wpAny _ _ (pyIter _) _ _ _)); (first | (k_unfold; (try dsimp only)) | (k_end; wrow_close) | walk1 | (dsimp only; walk1) | (leave1; walk_say "STEP leave1"; try dsimp only)))
    k_dflt (refine' iter_listA (n := eB) (vs := xt.map fun x => Value.ref x.2.1) ?hh FB NB ?hm ?_; (case hh => rfl); (case hm => exact List.mem_cons_self))
    intro I1 H1 St1 F1 N1 hI1 hI2 hI3 hI4 W1 live1 st1
    refine ⟨I1, _, _, _, _, [(B, W.listOf (List.toArray (xt.map fun x => Value.ref x.2.1)) eB)], ModI ((B, W.listOf (List.toArray (xt.map fun x => Value.ref x.2.1)) eB) :: (L' + 1, oc) :: R7) (mods M), rfl, (fun i ys nx hI p hp => by rw [hI.1, List.mem_singleton.mp hp]; exact List.mem_cons_self), W1, live1, ?_, st1, hI1, hI2, hI3, fun p hp => Nat.ne_of_lt (hI4 p hp), F1, N1, ⟨rfl, .nil⟩, ?_, ?_⟩
    · exact line_small (by rw [List.length_map]; omega)
    · intro i v ys' nx C Dd oC oD oI H tk mC E' hin hP hlen hHi13 hoff hCD hCI hDI F3 N3 hC hk3
      first | (have hE3 := (And.left hHi13); subst hE3; have hys := (And.right hHi13); try clear hHi13) | (obtain ⟨rfl, hys⟩ := hHi13)
      have hHi14 : ∃ x, xt[i]? = some x ∧ v = Value.ref x.2.1 := by
        rw [List.getElem?_map] at hP
        cases hx : xt[i]? with
        | none => rw [hx] at hP; cases hP
        | some x => rw [hx] at hP; exact ⟨x, rfl, (Option.some.inj hP).symm⟩
      first | (have hE4 := (And.right (And.right hHi14)); subst hE4; have x := (And.left hHi14); have hx := (And.left (And.right hHi14)); try clear hHi14) | (refine hideE fun GG hGG => ?_; obtain ⟨x, hx, rfl⟩ := hHi14; refine hGG ?_; clear hGG GG)
      have hHi15 := Paired.at pt i x hx
      first | (have q := (And.left hHi15); have hq := (And.left (And.right hHi15)); have exq := (And.left (And.right (And.right hHi15))); have tq := (And.left (And.right (And.right (And.right hHi15)))); have etq := (And.right (And.right (And.right (And.right hHi15)))); try clear hHi15) | (refine hideE fun GG hGG => ?_; obtain ⟨q, hq, exq, tq, etq⟩ := hHi15; refine hGG ?_; clear hGG GG)
      refine wpAny_tests_nil ?_
      rw [if_pos rfl]
      ((try show wpAny _ _ _ _ _ _); (try k_fold))
      repeat' ((fail_if_success (with_reducible show wpAny _ _ (subscriptTail _ _ _ _) _ _ _)); (first | (k_unfold; (try dsimp only)) | (k_end; wrow_close) | walk1 | (dsimp only; walk1) | (leave1; walk_say "STEP leave1"; try dsimp only)))
      k_dflt (refine' td_get (k := x.1) (p := x.2) (o := ot) (xs := xt) ?hu N3 ?hm tot ?hks ?hk ?hp ?_ ?hs ?ht; (case hu => first | k_units | ktr_units); (case hm => exact List.mem_cons_of_mem _ (List.mem_cons_of_mem _ (List.mem_cons_of_mem _ (List.mem_cons_of_mem _ mt7)))); (case hks => exact kt7.mono fun p hp _ => List.mem_cons_of_mem _ (List.mem_cons_of_mem _ (List.mem_cons_of_mem _ (List.mem_cons_of_mem _ hp)))); (case hk => exact (kt7 x (List.mem_of_getElem? hx)).mono fun p hp _ => List.mem_cons_of_mem _ (List.mem_cons_of_mem _ (List.mem_cons_of_mem _ (List.mem_cons_of_mem _ hp)))); (case hp => exact atKey_of_get (toc_nodup tot) hx); (case hs => with_unfolding_all rfl); (case ht => intro _; with_unfolding_all rfl))
      intro tk5
      rw [etq]
      k_steps
      show CompPost g' L' _ _ _ _ _ _ _ _ _ _ _ _
      refine ⟨H, _, _, rfl, F3, N3, hoff, rfl, ?_⟩
      have hq2 : (mods M)[i]? = some (q.2 % 3) := by unfold mods; rw [List.getElem?_map, hq]; rfl
      rw [List.take_succ, hq2]
      refine hys.append ?_
      rw [Int.fmod_eq_emod_of_nonneg _ (by decide)]
      exact .cons _ _ .nil
    · intro Dq ysq nDq nxq Hq tkq hlenq hHi16 hDq Fq Nq
      ((try show wpAny _ _ _ _ _ _); (try k_fold))
      first | (have hE5 := (And.left hHi16); subst hE5; have hysq := (And.right hHi16); try clear hHi16) | (obtain ⟨rfl, hysq⟩ := hHi16)
      (try dsimp only)
      ((try show wpAny _ _ _ _ _ _); (try k_fold))
      repeat' ((fail_if_success (with_reducible show wpAny _ _ (subscriptTail _ _ _ _) _ _ _)); (first | (k_unfold; (try dsimp only)) | (k_end; wrow_close) | walk1 | (dsimp only; walk1) | (leave1; walk_say "STEP leave1"; try dsimp only)))
      rw [List.take_of_length_le (by unfold mods; rw [List.length_map, List.length_map, pt.length]; exact Nat.le_refl _)] at hysq
      k_dflt (refine' slice_last2 Fq Nq List.mem_cons_self hysq ?hz ?_ ?hs; (case hz => exact line_small (by have := hysq.length; unfold mods at this; rw [List.length_map] at this; have := hg.2.1; omega)); (case hs => with_unfolding_all rfl))
      intro Dz hz uz Fz Nz lz iz
      have hcase := drop2_cases (mods M)
      have hS7 : c.1 = totTo Tb M Tb.length := by rw [hS6, List.length_map, pc.length]
      have inR : ∀ p ∈ R, p ∈ (Dz, W.listOf (List.toArray uz) 0) :: (Dq, W.listOf ysq.toArray nDq) :: (B, W.listOf (List.toArray (xt.map fun x => Value.ref x.2.1)) eB) :: (L' + 1, oc) :: R7 := fun p hp => List.mem_cons_of_mem _ (List.mem_cons_of_mem _ (List.mem_cons_of_mem _ (hK7 p hp)))
      have hfin : lsize Tb toll M = totTo Tb M Tb.length + toll * last2 (mods M) := rfl
      unfold last2 at hfin
      rcases hcase with e | ⟨x0, e⟩ | ⟨x0, x1, e⟩
      · rw [e] at iz hfin
        cases iz
        k_steps
        refine hret _ _ _ _ (by k_asm) (by k_asm) ⟨int_eq ?_, ?_⟩
        · rw [hfin, hS7]
          rfl
        · exact fun p hp => inR p hp
      · rw [e] at iz hfin
        have hHi17 : ∃ u0, uz = [Value.int x0 u0] := by cases iz with | cons _ t h => cases h; exact ⟨t, rfl⟩
        first | (have hE6 := (And.right hHi17); subst hE6; have u0 := (And.left hHi17); try clear hHi17) | (obtain ⟨u0, rfl⟩ := hHi17)
        k_steps
        refine hret _ _ _ _ (by k_asm) (by k_asm) ⟨int_eq ?_, ?_⟩
        · rw [hfin, hS7]
          rfl
        · exact fun p hp => inR p hp
      · rw [e] at iz hfin
        have hHi18 : ∃ u0 u1, uz = [Value.int x0 u0, Value.int x1 u1] := by cases iz with | cons _ t h => cases h with | cons _ t2 h2 => cases h2; exact ⟨t, t2, rfl⟩
        first | (have hE7 := (And.right (And.right hHi18)); subst hE7; have u0 := (And.left hHi18); have u1 := (And.left (And.right hHi18)); try clear hHi18) | (refine hideE fun GG hGG => ?_; obtain ⟨u0, u1, rfl⟩ := hHi18; refine hGG ?_; clear hGG GG)
        k_steps
        have hx01 : (if ([x0, x1].getD (Int.toNat 0) 0 == [x0, x1].getD (Int.toNat 1) 0) = true then (1 : Int) else 0) = if x0 = x1 then 1 else 0 := by
          show (if (x0 == x1) = true then (1 : Int) else 0) = _
          by_cases h : x0 = x1 <;> simp [h]
        refine hret _ _ _ _ (by k_asm) (by k_asm) ⟨int_eq ?_, ?_⟩
        · rw [hfin, hS7, hx01]
        · exact fun p hp => inR p hp
end
end N240
end
-- Ask
section
open PySem PySem.W PyProof.Rows PySem.Spec PySem.Calls
namespace N240
variable {w : World} {p : Program} {loose : List Str} {mean : ExcName → Option Value} {mg mb : Str → Option Value}
/-- the statements of a def of the given part -/
def bodyAt (K : Frag) (a : Addr) : List Stmt := match K.lookup a with
  | some ⟨_, _, .func fd, _⟩ => (match fd.body with
    | .stmts b => b
    | _ => [])
  | _ => []
section
local macro_rules | `(tactic| walk_at "eval Name") => `(tactic| (k_here; k_dflt (refine' nameX_F (by k_asm) rfl (by assumption) (by assumption) ?_ rfl rfl; k_whole)))
set_option maxRecDepth 100000 in
set_option maxHeartbeats 400000 in
theorem ask_ok {K : Led} {row cop f c' dCo a1 a2 a3 a4 : Addr} {oc o1 o2 o3 o4 oCo : Obj} {Tb : Tab} {toll : Int} {tt t' : Tok} {nm nm2 qual : Str} {params : Arguments} {body : List Stmt} {scope : Scope} {doc pm ct : Value} {pos : Pos} {vs' : Array Value}
    (hst : (bodyAt (N240.hd.heap_39 w.params) 156)[5]? = some (.FunctionDef nm params body [] none [] scope none nm2 pos))
    (mf : (f, fnMade nm qual params body scope [(Str.ofString "toll", a4), (Str.ofString "row", a3), (Str.ofString "costs", a2), (Str.ofString "copies", a1)] doc pm c' ct) ∈ K) (mc : (c', oc) ∈ K) (hoc : oc.data = .fields vs') (hvs : vs'[1]? = some (.str qual t'))
    (m1 : (a1, o1) ∈ K) (e1 : o1.data = .cell (some (.ref cop))) (m2 : (a2, o2) ∈ K) (e2 : o2.data = .cell (some (.ref dCo))) (m3 : (a3, o3) ∈ K) (e3 : o3.data = .cell (some (.ref row))) (m4 : (a4, o4) ∈ K) (e4 : o4.data = .cell (some (.int toll tt)))
    (mCo : (dCo, oCo) ∈ K) (loCo : (dCo == sysModules) = false) (hTb : TabO w K oCo Tb) (hKr : ∀ q ∈ K, q.1 ≠ row ∧ q.1 ≠ cop) (hrc : row ≠ cop) :
    AskOk w p loose mean mg mb K row cop f Tb toll := by
  with_unfolding_all cases hst
  intro bo R Ms d o M hA hBd hlen lo md hM hg h6 hnr
  have hHi1 := id hA
  first | (have aK := (And.left hHi1); have vr := (And.left (And.left (And.right hHi1))); have nr := (And.left (And.right (And.left (And.right hHi1)))); have mr := (And.left (And.right (And.right (And.left (And.right hHi1))))); have pr := (And.left (And.right (And.right (And.right (And.left (And.right hHi1)))))); have dr := (And.right (And.right (And.right (And.right (And.left (And.right hHi1)))))); have vc := (And.left (And.right (And.right hHi1))); have nc := (And.left (And.right (And.right (And.right hHi1)))); have mcp := (And.left (And.right (And.right (And.right (And.right hHi1))))); have pc := (And.left (And.right (And.right (And.right (And.right (And.right hHi1)))))); have dc := (And.right (And.right (And.right (And.right (And.right (And.right hHi1)))))); try clear hHi1) | (refine hideE fun GG hGG => ?_; obtain ⟨aK, ⟨vr, nr, mr, pr, dr⟩, ⟨vc, nc, mcp, pc, dc⟩⟩ := hHi1; refine hGG ?_; clear hGG GG)
  unfold FnOk
  intro dp un gd cn cs a ccd cl outer A₀ base h₀ L m s Q E B F X N T hk hd hu hret
  w_top off
  have hFill : PySem.Challenge.rw_nz0240_01 = PySem.Challenge.rw_nz0240_01 ∧ N240.hd.heap_39 = N240.hd.heap_39 → True := fun _ => trivial
  (first | (revert hFill; k_fill; intro hFill; clear hFill))
  refine wpAny_call ?_
  k_dflt (refine' code_nest B F X N T rfl rfl ?kK (aK _ mf) (codeRec_news N (aK _ mc) hoc hvs) ?k8 ?k9 ?kB ?_ ?c2 ?c3 ?c4 ?c5; (case kK => assumption); (case k8 => ktr_room); (case k9 => exact BindsTo.of_eq rfl); (case c5 => decide); (case kB => exact locs rfl); (case c2 => exact rfl); (case c3 => exact rfl); (case c4 => exact rfl))
  intro g' L' h' FG' F' N' B' X' T'
  (try dsimp only)
  ((try show wpAny _ _ _ _ _ _); (try k_fold))
  have n1 := aK _ m1
  have n2 := aK _ m2
  have n3 := aK _ m3
  have n4 := aK _ m4
  repeat' ((fail_if_success (with_reducible show wpAny _ _ (call (Value.ref 146) _) _ _ _)); (first | (k_unfold; (try dsimp only)) | (k_end; wrow_close) | walk1 | (dsimp only; walk1) | (leave1; walk_say "STEP leave1"; try dsimp only)))
  have hHi2 := id hM
  first | (have xs := (And.left hHi2); have to := (And.left (And.right hHi2)); have ki := (And.left (And.right (And.right hHi2))); have pm := (And.right (And.right (And.right hHi2))); try clear hHi2) | (refine hideE fun GG hGG => ?_; obtain ⟨xs, to, ki, pm⟩ := hHi2; refine hGG ?_; clear hGG GG)
  have h6k : ∀ x ∈ xs, x.1 ∈ sixKeys := fun x hx => by
    have : x.1 ∈ M.map (·.1) := by rw [← Paired.keysM pm]; exact List.mem_map.mpr ⟨x, hx, rfl⟩
    have hHi3 := List.mem_map.mp this
    first | (have q := (And.left hHi3); have hq := (And.left (And.right hHi3)); have e := (And.right (And.right hHi3)); try clear hHi3) | (refine hideE fun GG hGG => ?_; obtain ⟨q, hq, e⟩ := hHi3; refine hGG ?_; clear hGG GG)
    exact e ▸ h6 q hq
  have hlx : xs.length ≤ 6 := by rw [pm.length]; exact hg.2.1
  have tupN := hA.tup N'
  have dctN := hA.dct N'
  have hHi4 := reform2 N' mr mcp hrc
  first | (have R7 := (And.left hHi4); have keep7 := (And.left (And.right hHi4)); have sub7 := (And.left (And.right (And.right hHi4))); have ne7 := (And.left (And.right (And.right (And.right hHi4)))); have N7 := (And.right (And.right (And.right (And.right hHi4)))); try clear hHi4) | (refine hideE fun GG hGG => ?_; obtain ⟨R7, keep7, sub7, ne7, N7⟩ := hHi4; refine hGG ?_; clear hGG GG)
  have md7 := keep7 _ md (dctN _ md hM.cls).1 (dctN _ md hM.cls).2
  have ki7 : KeysIn w R7 xs := ki.mono fun q hq hc => keep7 q hq (tupN q hq hc).1 (tupN q hq hc).2
  have K7 : ∀ q ∈ K, q ∈ R7 := fun q hq => keep7 q (aK q hq) (hKr q hq).1 (hKr q hq).2
  clear N'
  have hkp := kept_ok (w := w) (p := p) (loose := loose) (mean := mean) (mg := mg) (mb := mb) (rs := vr) (ccs := vc) (n1 := nr) (n2 := nc) hrc ne7 lo md7 to ki7 h6k hlx (line_small (by rw [pr.length]; exact hlen)) (line_small (by rw [pc.length]; exact hlen))
  k_dflt (refine' FnOk.useH ?k1 ?k2 ?k3 ?k4 ?k5 ?kK (hkp) ?kd ?ku ?_; (case k1 => k_asm); (case k2 => k_asm); (case k3 => k_asm); (case k4 => k_asm); (case k5 => k_asm); (case kK => first | exact rfl | assumption); (case kd => ktr_room); (case ku => ktr_units))
  intro GG hGG _ newsK hK tkK FK NK hHi5
  first | (have hE1 := (And.left (And.right (And.right (And.right (And.right hHi5))))); subst hE1; have hE2 := (And.right (And.right (And.right (And.right (And.right (And.right (And.right (And.right (And.right (And.right hHi5)))))))))); subst hE2; have dn := (And.left hHi5); have on := (And.left (And.right hHi5)); have nr' := (And.left (And.right (And.right hHi5))); have nc' := (And.left (And.right (And.right (And.right hHi5)))); have lon := (And.left (And.right (And.right (And.right (And.right (And.right hHi5)))))); have ton := (And.left (And.right (And.right (And.right (And.right (And.right (And.right hHi5))))))); have ltn := (And.left (And.right (And.right (And.right (And.right (And.right (And.right (And.right hHi5)))))))); have rln := (And.left (And.right (And.right (And.right (And.right (And.right (And.right (And.right (And.right hHi5))))))))); have cln := (And.left (And.right (And.right (And.right (And.right (And.right (And.right (And.right (And.right (And.right hHi5)))))))))); try clear hHi5) | (obtain ⟨dn, on, nr', nc', rfl, lon, ton, ltn, rln, cln, rfl⟩ := hHi5)
  refine hGG _ _ _ ?_
  clear hGG GG
  have n1 := K7 _ m1
  have n2 := K7 _ m2
  have n3 := K7 _ m3
  have n4 := K7 _ m4
  have inK : ∀ q ∈ R7, q ∈ (dn, on) :: (row, W.listOf (vr ++ [Value.ref d]).toArray nr') :: (cop, W.listOf (vc ++ [Value.ref dn]).toArray nc') :: R7 := fun q hq => List.mem_cons_of_mem _ (List.mem_cons_of_mem _ (List.mem_cons_of_mem _ hq))
  have n1 := inK _ (K7 _ m1)
  have n2 := inK _ (K7 _ m2)
  have n3 := inK _ (K7 _ m3)
  have n4 := inK _ (K7 _ m4)
  repeat' ((fail_if_success (with_reducible show wpAny _ _ (call (Value.ref 132) _) _ _ _)); (first | (k_unfold; (try dsimp only)) | (k_end; wrow_close) | walk1 | (dsimp only; walk1) | (leave1; walk_say "STEP leave1"; try dsimp only)))
  have hsz := size_ok (w := w) (p := p) (loose := loose) (mean := mean) (mg := mg) (mb := mb) (toll := toll) (t := tt) loCo lo (inK _ (K7 _ mCo)) (inK _ md7) (hTb.mono fun q hq _ => inK q (K7 q hq)) (hM.mono fun q hq hc => inK q (keep7 q hq (tupN q hq hc).1 (tupN q hq hc).2)) hg
  k_dflt (refine' FnOk.useH ?k1 ?k2 ?k3 ?k4 ?k5 ?kK (hsz) ?kd ?ku ?_; (case k1 => k_asm); (case k2 => k_asm); (case k3 => k_asm); (case k4 => k_asm); (case k5 => k_asm); (case kK => first | exact rfl | assumption); (case kd => ktr_room); (case ku => ktr_units))
  intro GG hGG _ R8 h8 tk8 F8 N8 hHi6
  first | (have hE3 := (And.right (And.left hHi6)); subst hE3; have tz := (And.left (And.left hHi6)); have keep8 := (And.right hHi6); try clear hHi6) | (obtain ⟨⟨tz, rfl⟩, keep8⟩ := hHi6)
  refine hGG _ _ _ ?_
  clear hGG GG
  k_steps
  have to8 : ∀ q ∈ R, q.1 ≠ row → q.1 ≠ cop → q ∈ R8 := fun q hq e1 e2 => keep8 q (inK q (keep7 q hq e1 e2))
  have dv8 : ∀ v m, DictV w bo R v m → DictV w bo R8 v m := fun v m hv => hv.mono fun q hq hc => hc.elim (fun e => to8 q hq (dctN q hq e).1 (dctN q hq e).2) fun e => to8 q hq (tupN q hq e).1 (tupN q hq e).2
  have hM8 : MapO w R8 o M := hM.mono fun q hq hc => to8 q hq (tupN q hq hc).1 (tupN q hq hc).2
  have hMn : MapO w R8 on M := ⟨xs, ton, ki7.mono fun q hq _ => keep8 q (inK q hq), pm⟩
  have hdn : d < dn := ltn _ md7
  refine hret _ R8 _ _ (by k_asm) (by k_asm) ⟨⟨tz, rfl⟩, ⟨fun q hq => keep8 q (inK q (K7 q hq)), ⟨vr ++ [Value.ref d], nr', keep8 _ (List.mem_cons_of_mem _ List.mem_cons_self), Paired.snoc (pr.mono dv8) ⟨d, o, rfl, hBd, lo, keep8 _ (inK _ md7), hM8⟩, ?_⟩, ⟨vc ++ [Value.ref dn], nc', keep8 _ (List.mem_cons_of_mem _ (List.mem_cons_of_mem _ List.mem_cons_self)), Paired.snoc (pc.mono dv8) ⟨dn, on, rfl, Nat.lt_trans hBd hdn, lon, keep8 _ List.mem_cons_self, hMn⟩, ?_⟩⟩, to8, (vr ++ [Value.ref d]).toArray, nr', keep8 _ (List.mem_cons_of_mem _ List.mem_cons_self), ?_⟩
  · refine List.nodup_append.mpr ⟨dr, by simp, ?_⟩
    intro x hx y hy e
    rw [List.mem_singleton.mp hy] at e
    exact hnr _ _ mr (by rw [← e]; simpa using hx)
  · refine List.nodup_append.mpr ⟨dc, by simp, ?_⟩
    intro x hx y hy e
    rw [List.mem_singleton.mp hy] at e
    have hHi7 := List.mem_iff_getElem?.mp hx
    first | (have j := (And.left hHi7); have hj := (And.right hHi7); try clear hHi7) | (obtain ⟨j, hj⟩ := hHi7)
    have hHi8 := Paired.at pc j _ hj
    first | (have M' := (And.left hHi8); have hU4 := (And.left (And.right hHi8)); have d' := (And.left (And.right (And.right hHi8))); have o' := (And.left (And.right (And.right (And.right hHi8)))); have e3 := (And.left (And.right (And.right (And.right (And.right hHi8))))); have hU5 := (And.left (And.right (And.right (And.right (And.right (And.right hHi8)))))); have hU6 := (And.left (And.right (And.right (And.right (And.right (And.right (And.right hHi8))))))); have hm' := (And.left (And.right (And.right (And.right (And.right (And.right (And.right (And.right hHi8)))))))); have hM' := (And.right (And.right (And.right (And.right (And.right (And.right (And.right (And.right hHi8)))))))); try clear hHi8) | (refine hideE fun GG hGG => ?_; obtain ⟨M', _, d', o', e3, _, _, hm', hM'⟩ := hHi8; refine hGG ?_; clear hGG GG)
    rw [e] at e3
    injection e3 with e3
    have := ltn _ (keep7 _ hm' (dctN _ hm' hM'.cls).1 (dctN _ hm' hM'.cls).2)
    exact absurd this (by rw [← e3]; exact Nat.lt_irrefl _)
  · simp
end
end N240
end
-- Chosen
section
open PySem PySem.W PyProof.Rows PySem.Spec PySem.Calls
namespace N240
variable {w : World} {p : Program} {loose : List Str} {mean : ExcName → Option Value} {mg mb : Str → Option Value}
/-- between the turns over the keys -/
inductive ChI (w : World) (K R : Led) (row cop dC : Addr) (T : Tab) (toll n most : Int) (ks : List (List Int)) (i : Nat) (u : Unit) (nx : Led) : Prop
  | mk (o : Obj) (a1 : (dC, o) ∈ nx) (a2 : MapO w nx o (gTo T toll n most ks i).1) (a3 : AskW w K dC row cop nx (gTo T toll n most ks i).2) (a4 : ∀ q ∈ R, q.1 ≠ row → q.1 ≠ cop → q.1 ≠ dC → q ∈ nx) : ChI w K R row cop dC T toll n most ks i u nx
/-- what the choice leaves -/
inductive ChP (w : World) (K R : Led) (row cop : Addr) (T : Tab) (toll n most : Int) (ks : List (List Int)) (v : Value) (R' : Led) : Prop
  | mk (d : Addr) (o : Obj) (e : v = .ref d) (lo : (d == sysModules) = false) (m : (d, o) ∈ R') (hM : MapO w R' o (gTo T toll n most ks ks.length).1) (hA : AskW w K d row cop R' (gTo T toll n most ks ks.length).2) (k : ∀ q ∈ R, q.1 ≠ row → q.1 ≠ cop → q ∈ R') : ChP w K R row cop T toll n most ks v R'
theorem ChI.up {w : World} {K R : Led} {row cop dC b : Addr} {T : Tab} {toll n most : Int} {ks : List (List Int)} (hK : ∀ p ∈ K, p.1 < b) (hR : ∀ p ∈ R, p.1 < b) (hr : row < b) (hc : cop < b) (hd : dC < b) :
    ∀ i c R1 R2, (∀ p ∈ R1, Solid p.2 ∨ p.1 < b → p ∈ R2) → ChI w K R row cop dC T toll n most ks i c R1 → ChI w K R row cop dC T toll n most ks i c R2 := by
  intro i c R1 R2 hx hHi1
  first | (have o := (And.left hHi1); have a1 := (And.left (And.right hHi1)); have a2 := (And.left (And.right (And.right hHi1))); have a3 := (And.left (And.right (And.right (And.right hHi1)))); have a4 := (And.right (And.right (And.right (And.right hHi1)))); try clear hHi1) | (refine hideE fun GG hGG => ?_; obtain ⟨o, a1, a2, a3, a4⟩ := hHi1; refine hGG ?_; clear hGG GG)
  refine ⟨o, hx _ a1 (.inr hd), a2.mono fun p hp hq => hx p hp (.inl (solid_cls hq)), a3.mono fun p hp hq => hx p hp ?_, fun q hq h1 h2 h3 => hx q (a4 q hq h1 h2 h3) (.inr (hR q hq))⟩
  rcases hq with h | h | h | h | h
  · exact .inr (hK p h)
  · exact .inr (h ▸ hr)
  · exact .inr (h ▸ hc)
  · exact .inl (solid_cls h)
  · exact .inl (solid_cls h)
theorem chosen_len {Tb : Tab} {toll n most : Int} {ks : List (List Int)} {i : Nat} {k ns : List Int} (hg : GoodAll Tb n most ks) (hgi : GI n most ks i (gTo Tb toll n most ks i)) (hi : i < ks.length) (hns : keyVals n most k = ns) : (gTo Tb toll n most ks i).2.length + ns.length ≤ 900 := by
  have e1 := hgi.2.2
  have e2 := hg.2.1.2.1
  have e3 := kindVals_len (k.headD 0) n most
  have e4 : (kindVals (k.headD 0) n most).length = ns.length := congrArg List.length hns
  exact Nat.le_trans (Nat.add_le_add (Nat.le_trans e1 (Nat.mul_le_mul_left 8 (Nat.le_trans (Nat.le_of_lt hi) e2))) (e4 ▸ e3)) (by decide)
theorem keyVals_dc (n most sl : Int) : keyVals n most [0, sl] = dcVals most := kindVals_dc n most
theorem keyVals_ac (n most sl : Int) : keyVals n most [1, sl] = acVals n := kindVals_ac n most
theorem AskW.upd {w : World} {K : Led} {bo row cop : Addr} {R R' : Led} {Ms : List CMap} (h : AskW w K bo row cop R Ms) (hs : ∀ p ∈ R, p.1 ≠ bo → p ∈ R') (hK : ∀ p ∈ K, p.1 ≠ bo) (hr : row ≠ bo) (hc : cop ≠ bo) (ht : ∀ p ∈ R, p.2.cls = .type "tuple" → p.1 ≠ bo) : AskW w K bo row cop R' Ms := by
  exact ⟨fun p hp => hs p (h.1 p hp) (hK p hp), h.2.1.upd hs hr ht, h.2.2.upd hs hc ht⟩
theorem ScanAt.mono {w : World} {R R' : Led} {x : Addr} {dc ac : List Int} {st en hi : Int} (h : ScanAt w R x dc ac st en hi) (hs : ∀ p ∈ R, p ∈ R') : ScanAt w R' x dc ac st en hi := by
  first | (have dx := (And.left h); have D := (And.left (And.right h)); have D1 := (And.left (And.right (And.right h))); have D2 := (And.left (And.right (And.right (And.right h)))); have ys1 := (And.left (And.right (And.right (And.right (And.right h))))); have ys2 := (And.left (And.right (And.right (And.right (And.right (And.right h)))))); have n1 := (And.left (And.right (And.right (And.right (And.right (And.right (And.right h))))))); have n2 := (And.left (And.right (And.right (And.right (And.right (And.right (And.right (And.right h)))))))); have nn := (And.left (And.right (And.right (And.right (And.right (And.right (And.right (And.right (And.right h))))))))); have t1 := (And.left (And.right (And.right (And.right (And.right (And.right (And.right (And.right (And.right (And.right h)))))))))); have t2 := (And.left (And.right (And.right (And.right (And.right (And.right (And.right (And.right (And.right (And.right (And.right h))))))))))); have t3 := (And.left (And.right (And.right (And.right (And.right (And.right (And.right (And.right (And.right (And.right (And.right (And.right h)))))))))))); have t4 := (And.left (And.right (And.right (And.right (And.right (And.right (And.right (And.right (And.right (And.right (And.right (And.right (And.right h))))))))))))); have t5 := (And.left (And.right (And.right (And.right (And.right (And.right (And.right (And.right (And.right (And.right (And.right (And.right (And.right (And.right h)))))))))))))); have t6 := (And.left (And.right (And.right (And.right (And.right (And.right (And.right (And.right (And.right (And.right (And.right (And.right (And.right (And.right (And.right h))))))))))))))); have t7 := (And.left (And.right (And.right (And.right (And.right (And.right (And.right (And.right (And.right (And.right (And.right (And.right (And.right (And.right (And.right (And.right h)))))))))))))))); have u1 := (And.left (And.right (And.right (And.right (And.right (And.right (And.right (And.right (And.right (And.right (And.right (And.right (And.right (And.right (And.right (And.right (And.right h))))))))))))))))); have u2 := (And.left (And.right (And.right (And.right (And.right (And.right (And.right (And.right (And.right (And.right (And.right (And.right (And.right (And.right (And.right (And.right (And.right (And.right h)))))))))))))))))); have u3 := (And.left (And.right (And.right (And.right (And.right (And.right (And.right (And.right (And.right (And.right (And.right (And.right (And.right (And.right (And.right (And.right (And.right (And.right (And.right h))))))))))))))))))); have u4 := (And.left (And.right (And.right (And.right (And.right (And.right (And.right (And.right (And.right (And.right (And.right (And.right (And.right (And.right (And.right (And.right (And.right (And.right (And.right (And.right h)))))))))))))))))))); have m1 := (And.left (And.right (And.right (And.right (And.right (And.right (And.right (And.right (And.right (And.right (And.right (And.right (And.right (And.right (And.right (And.right (And.right (And.right (And.right (And.right (And.right h))))))))))))))))))))); have m2 := (And.left (And.right (And.right (And.right (And.right (And.right (And.right (And.right (And.right (And.right (And.right (And.right (And.right (And.right (And.right (And.right (And.right (And.right (And.right (And.right (And.right (And.right h)))))))))))))))))))))); have m3 := (And.left (And.right (And.right (And.right (And.right (And.right (And.right (And.right (And.right (And.right (And.right (And.right (And.right (And.right (And.right (And.right (And.right (And.right (And.right (And.right (And.right (And.right (And.right h))))))))))))))))))))))); have i1 := (And.left (And.right (And.right (And.right (And.right (And.right (And.right (And.right (And.right (And.right (And.right (And.right (And.right (And.right (And.right (And.right (And.right (And.right (And.right (And.right (And.right (And.right (And.right (And.right h)))))))))))))))))))))))); have m4 := (And.left (And.right (And.right (And.right (And.right (And.right (And.right (And.right (And.right (And.right (And.right (And.right (And.right (And.right (And.right (And.right (And.right (And.right (And.right (And.right (And.right (And.right (And.right (And.right (And.right h))))))))))))))))))))))))); have i2 := (And.right (And.right (And.right (And.right (And.right (And.right (And.right (And.right (And.right (And.right (And.right (And.right (And.right (And.right (And.right (And.right (And.right (And.right (And.right (And.right (And.right (And.right (And.right (And.right (And.right h))))))))))))))))))))))))); try clear h) | (refine hideE fun GG hGG => ?_; obtain ⟨dx, D, D1, D2, ys1, ys2, n1, n2, nn, t1, t2, t3, t4, t5, t6, t7, u1, u2, u3, u4, m1, m2, m3, i1, m4, i2⟩ := h; refine hGG ?_; clear hGG GG)
  exact ⟨dx, D, D1, D2, ys1, ys2, n1, n2, nn, t1, t2, t3, t4, t5, t6, t7, u1, u2, u3, u4, hs _ m1, hs _ m2, hs _ m3, i1, hs _ m4, i2⟩
section
set_option maxRecDepth 100000 in
set_option maxHeartbeats 1600000 in
theorem chosen_ok {K R : Led} {row cop f x : Addr} {Tb : Tab} {toll n most : Int} {tn tmo : Tok} {dc ac : List Int} {st en hi : Int} {n1 n2 : Nat} {ocf : Value} {odf : Option Addr} {fdf : FuncData} {slf : Array (Option Value)} (hf : AskOk w p loose mean mg mb K row cop f Tb toll) (mf : (f, (⟨ocf, odf, .func fdf, slf⟩ : Obj)) ∈ K)
    (hKR : ∀ q ∈ K, q ∈ R) (mr : (row, W.listOf #[] n1) ∈ R) (mcp : (cop, W.listOf #[] n2) ∈ R) (hs : ScanAt w R x dc ac st en hi) (ok : ScanOk dc ac st en hi) (hg : GoodAll Tb n most (keysOf dc ac st en hi)) (h1 : 1 ≤ n) (h3 : n ≤ 3) (h0 : 0 ≤ most) (h2 : most ≤ 2) (hKr : ∀ q ∈ K, q.1 ≠ row ∧ q.1 ≠ cop) :
    FnOk w p loose mean mg mb 12 140 (.ref 54) [.ref x, .int n tn, .int most tmo, .ref f] R
      (ChP w K R row cop Tb toll n most (keysOf dc ac st en hi)) := by
  unfold FnOk
  intro dp un gd cn cs a ccd cl outer A₀ base h₀ L m s Q E B F X N T hk hd hu hret
  w_top off
  have hFill : PySem.Challenge.rw_nz0240_01 = PySem.Challenge.rw_nz0240_01 ∧ N240.hd.heap_39 = N240.hd.heap_39 → True := fun _ => trivial
  (first | (revert hFill; k_fill; intro hFill; clear hFill))
  refine wpAny_call ?_
  k_dflt (refine' code_def ?k1 ?k2 ?k3 ?k4 ?k5 ?kA ?kF ?kK ?k6 ?k7 ?k8 ?k9 ?kB ?_ ?c2 ?c3 ?c4 ?c5; (case kA => exact rfl); (case kF => exact rfl); (case kK => assumption); (case k1 => k_asm); (case k2 => k_asm); (case k3 => k_asm); (case k4 => k_asm); (case k5 => k_asm); (case k6 => k_is); (case k7 => k_is); (case k8 => ktr_room); (case k9 => exact BindsTo.of_eq rfl); (case c5 => decide); (case kB => exact locs rfl); (case c2 => exact rfl); (case c3 => exact rfl); (case c4 => exact rfl); k_whole)
  intro g' L' h' FG' F' N' B' X' T'
  (try dsimp only)
  ((try show wpAny _ _ _ _ _ _); (try k_fold))
  replace F' : Fr g' L' h' (fun y => List.lookup y [(Str.ofString "size_of", Value.ref f), (Str.ofString "most", Value.int most tmo), (Str.ofString "n", Value.int n tn), (Str.ofString "scan", Value.ref x)]) := F'
  repeat' ((fail_if_success (with_reducible show wpAny _ _ (exec (Stmt.For _ _ _ _ _) _) _ _ _)); (first | (k_unfold; (try dsimp only)) | (k_end; wrow_close) | walk1 | (dsimp only; walk1) | (leave1; walk_say "STEP leave1"; try dsimp only)))
  rename_i dC h8 oC l8 lo8 hs8 fs8 hi8 fi8 h9 F9 N9
  with_unfolding_all refine For_invVF F9 (by rfl) (by rfl) ?_
  repeat' ((fail_if_success (with_reducible show wpAny _ _ (call (Value.ref 47) _) _ _ _)); (first | (k_unfold; (try dsimp only)) | (k_end; wrow_close) | walk1 | (dsimp only; walk1) | (leave1; walk_say "STEP leave1"; try dsimp only)))
  have hdl := l8
  k_dflt (refine' FnOk.useH ?k1 ?k2 ?k3 ?k4 ?k5 ?kK (sk_ok (w := w) (R := (dC, oC) :: R) (hs.mono fun q hq => List.mem_cons_of_mem _ hq) ok) ?kd ?ku ?_; (case k1 => k_asm); (case k2 => k_asm); (case k3 => k_asm); (case k4 => k_asm); (case k5 => k_asm); (case kK => first | exact rfl | assumption); (case kd => ktr_room); (case ku => ktr_units))
  intro GG hGG _ newsS hS tkS FS NS hHi3
  first | (have hE1 := (And.left (And.right hHi3)); subst hE1; have aK := (And.left hHi3); have keepS := (And.left (And.right (And.right hHi3))); have neS := (And.left (And.right (And.right (And.right hHi3)))); have vsK := (And.left (And.right (And.right (And.right (And.right hHi3))))); have nK := (And.left (And.right (And.right (And.right (And.right (And.right hHi3)))))); have mK := (And.left (And.right (And.right (And.right (And.right (And.right (And.right hHi3))))))); have pK := (And.right (And.right (And.right (And.right (And.right (And.right (And.right hHi3))))))); try clear hHi3) | (obtain ⟨aK, rfl, keepS, neS, vsK, nK, mK, pK⟩ := hHi3)
  refine hGG _ _ _ ?_
  clear hGG GG
  clear F9 N9
  repeat' ((fail_if_success (with_reducible show wpAny _ _ (pyIter _) _ _ _)); (first | (k_unfold; (try dsimp only)) | (k_end; wrow_close) | walk1 | (dsimp only; walk1) | (leave1; walk_say "STEP leave1"; try dsimp only)))
  have ltS := news_lt NS
  have mdS : (dC, oC) ∈ newsS := keepS _ List.mem_cons_self
  have mrS : (row, W.listOf #[] n1) ∈ newsS := keepS _ (List.mem_cons_of_mem _ mr)
  have mcS : (cop, W.listOf #[] n2) ∈ newsS := keepS _ (List.mem_cons_of_mem _ mcp)
  have akr : aK ≠ row := Ne.symm (neS _ (List.mem_cons_of_mem _ mr))
  have akc : aK ≠ cop := Ne.symm (neS _ (List.mem_cons_of_mem _ mcp))
  have akd : aK ≠ dC := Ne.symm (neS (dC, oC) List.mem_cons_self)
  have drw : row ≠ dC := Nat.ne_of_lt (hdl _ mr)
  have dcp : cop ≠ dC := Nat.ne_of_lt (hdl _ mcp)
  refine loop_keys pK (x := Str.ofString "key") (fun _ => []) [Str.ofString "key", Str.ofString "values"] (ChI w K newsS row cop dC Tb toll n most (keysOf dc ac st en hi)) () (ChI.up (fun q hq => ltS q (keepS _ (List.mem_cons_of_mem _ (hKR q hq)))) ltS (ltS _ mrS) (ltS _ mcS) (ltS _ mdS)) rfl (vs := vsK) (nn := nK) mK FS NS
    ⟨oC, mdS, ⟨[], TObj.empty hi8, (fun _ h => nomatch h), .nil⟩, ⟨fun q hq => keepS _ (List.mem_cons_of_mem _ (hKR q hq)), ⟨[], n1, mrS, .nil, List.nodup_nil⟩, ⟨[], n2, mcS, .nil, List.nodup_nil⟩⟩, fun q hq _ _ _ => hq⟩ (fun _ h => nomatch h) ?_ ?_
  · intro i t kd sl tkd tsl nt c nx u h6 tk6 hki hv hkm hl6 hHi4 F6 N6
    ((try show wpAny _ _ _ _ _ _); (try k_fold))
    first | (have o6 := (And.left hHi4); have hd6 := (And.left (And.right hHi4)); have hM6 := (And.left (And.right (And.right hHi4))); have hA6 := (And.left (And.right (And.right (And.right hHi4)))); have hR6 := (And.right (And.right (And.right (And.right hHi4)))); try clear hHi4) | (refine hideE fun GG hGG => ?_; obtain ⟨o6, hd6, hM6, hA6, hR6⟩ := hHi4; refine hGG ?_; clear hGG GG)
    replace F6 : Fr g' L' h6 _ := F6
    replace N6 : News g' L' h6 nx := N6
    have hgi := gI_to Tb toll n most (keysOf dc ac st en hi) i (by have := (List.getElem?_eq_some_iff.mp hki).1; omega)
    have hkd : kd = 0 ∨ kd = 1 := by
      have hHi5 := hg.2.1.2.2 _ (List.mem_of_getElem? hki)
      first | (have kd' := (And.left hHi5); have sl' := (And.left (And.right hHi5)); have ek := (And.left (And.right (And.right hHi5))); have hkd := (And.right (And.right (And.right hHi5))); try clear hHi5) | (refine hideE fun GG hGG => ?_; obtain ⟨kd', sl', ek, hkd⟩ := hHi5; refine hGG ?_; clear hGG GG)
      have ek2 : kd' = kd ∧ sl' = sl := by simpa using ek.symm
      rw [← ek2.1]; exact hkd
    have tupS : ∀ q ∈ newsS, q.2.cls = .type "tuple" → q ∈ nx := fun q hq hc => hR6 q hq (ne_of_obj NS (o := q.2) hq mrS (cls_ne (by rw [hc]; exact fun e => list_ne_tuple e.symm))) (ne_of_obj NS (o := q.2) hq mcS (cls_ne (by rw [hc]; exact fun e => list_ne_tuple e.symm))) (ne_of_obj NS (o := q.2) hq mdS (cls_ne (by rw [hc]; exact fun e => dict_ne_tuple (iobj_cls hi8) e.symm)))
    have hk6 := tupS _ hkm rfl
    have tupN := hA6.tup N6
    have solN := hA6.solid N6
    have solD : ∀ q ∈ nx, ¬ Solid q.2 → q.1 ≠ dC := fun q hq hn => ns_off N6 hd6 (solid_cls hM6.cls) hq hn
    clear FS NS
    ((try show wpAny _ _ _ _ _ _); (try k_fold))
    repeat' ((fail_if_success (with_reducible show wpAny _ _ (eval (Expr.IfExp _ _ _ _) _) _ _ _)); (first | (k_unfold; (try dsimp only)) | (k_end; wrow_close) | walk1 | (dsimp only; walk1) | (leave1; walk_say "STEP leave1"; try dsimp only)))
    refine IfExp_ ?_
    rcases hkd with rfl | rfl
    · repeat' ((fail_if_success (with_reducible show wpAny _ _ (call (Value.ref 28) _) _ _ _)); (first | (k_unfold; (try dsimp only)) | (k_end; wrow_close) | walk1 | (dsimp only; walk1) | (leave1; walk_say "STEP leave1"; try dsimp only)))
      k_dflt (refine' FnOk.useH ?k1 ?k2 ?k3 ?k4 ?k5 ?kK (dc_ok h0 h2) ?kd ?ku ?_; (case k1 => k_asm); (case k2 => k_asm); (case k3 => k_asm); (case k4 => k_asm); (case k5 => k_asm); (case kK => first | exact rfl | assumption); (case kd => ktr_room); (case ku => ktr_units))
      intro GG hGG _ newsV hV tkV FV NV hHi6
      first | (have hE2 := (And.left (And.right (And.right (And.right hHi6)))); subst hE2; have aV := (And.left hHi6); have vsV := (And.left (And.right hHi6)); have nV := (And.left (And.right (And.right hHi6))); have subV := (And.left (And.right (And.right (And.right (And.right hHi6))))); have ltV := (And.left (And.right (And.right (And.right (And.right (And.right hHi6)))))); have mV := (And.left (And.right (And.right (And.right (And.right (And.right (And.right hHi6))))))); have iV := (And.right (And.right (And.right (And.right (And.right (And.right (And.right hHi6))))))); try clear hHi6) | (obtain ⟨aV, vsV, nV, rfl, subV, ltV, mV, iV⟩ := hHi6)
      refine hGG _ _ _ ?_
      clear hGG GG
      clear F6
      repeat' ((fail_if_success (with_reducible show wpAny _ _ (compareOp _ _ _ _) _ _ _)); (fail_if_success (with_reducible show wpAny _ _ (call (Value.ref 42) _) _ _ _)); (first | (k_unfold; (try dsimp only)) | (k_end; wrow_close) | walk1 | (dsimp only; walk1) | (leave1; walk_say "STEP leave1"; try dsimp only)))
      rename_i aE hE FE NE lE
      have hns := keyVals_dc n most sl
      have ltrV : aV ≠ row := let ⟨_, _, hm, _⟩ := hA6.2.1; Ne.symm (Nat.ne_of_lt (ltV _ hm))
      have ltcV : aV ≠ cop := let ⟨_, _, hm, _⟩ := hA6.2.2; Ne.symm (Nat.ne_of_lt (ltV _ hm))
      have hil : i < (keysOf dc ac st en hi).length := (List.getElem?_eq_some_iff.mp hki).1
      have inE : ∀ q ∈ nx, q ∈ (aE, W.listOf #[] 0) :: newsV := fun q hq => List.mem_cons_of_mem _ (subV q hq)
      refine ke_ne_ints (News.isList NE (List.mem_cons_of_mem _ mV)) (by is_list) iV .nil (by ke_room) ?_
      have hne := dcVals_ne most
      rw [decide_eq_false hne]
      repeat' ((fail_if_success (with_reducible show wpAny _ _ (call (Value.ref 42) _) _ _ _)); (first | (k_unfold; (try dsimp only)) | (k_end; wrow_close) | walk1 | (dsimp only; walk1) | (leave1; walk_say "STEP leave1"; try dsimp only)))
      have hb := best_ok (w := w) (p := p) (loose := loose) (mean := mean) (mg := mg) (mb := mb) hf (hA6.mono fun q hq _ => inE q hq) lo8 (inE _ hd6) (hM6.mono fun q hq _ => inE q hq) ⟨t, 0, sl, tkd, tsl, nt, rfl, rfl, inE _ hk6⟩ (List.mem_cons_of_mem _ mV) iV (hgi.six hg) (hgi.good hg) mf (fun v hv => hgi.next hg hki (by rw [hns]; exact hv)) (hgi.new hg.2.1.1 hki) (hg.2.2.2.2 _ (List.mem_of_getElem? hki)) (chosen_len hg hgi hil hns) ltrV ltcV hne (Nat.le_refl _)
      k_dflt (refine' FnOk.useH ?k1 ?k2 ?k3 ?k4 ?k5 ?kK (hb) ?kd ?ku ?_; (case k1 => k_asm); (case k2 => k_asm); (case k3 => k_asm); (case k4 => k_asm); (case k5 => k_asm); (case kK => first | exact rfl | assumption); (case kd => ktr_room); (case ku => ktr_units))
      intro GG hGG vz R8 hh8 tk8 F8 N8 hHi7
      first | (have hE3 := (And.left (And.right (And.right (And.right (And.right (And.right (And.right (And.right (And.right hHi7))))))))); subst hE3; have hA8 := (And.left hHi7); have hk8 := (And.left (And.right hHi7)); have q := (And.left (And.right (And.right hHi7))); have hq := (And.left (And.right (And.right (And.right hHi7)))); have tp := (And.left (And.right (And.right (And.right (And.right hHi7))))); have tpa := (And.left (And.right (And.right (And.right (And.right (And.right hHi7)))))); have tpb := (And.left (And.right (And.right (And.right (And.right (And.right (And.right hHi7))))))); have tpn := (And.left (And.right (And.right (And.right (And.right (And.right (And.right (And.right hHi7)))))))); have mtp := (And.right (And.right (And.right (And.right (And.right (And.right (And.right (And.right (And.right hHi7))))))))); try clear hHi7) | (obtain ⟨hA8, hk8, q, hq, tp, tpa, tpb, tpn, rfl, mtp⟩ := hHi7)
      refine hGG _ _ _ ?_
      clear hGG GG
      repeat' ((fail_if_success (with_reducible show wpAny _ _ (setItem _ _ _) _ _ _)); (first | (k_unfold; (try dsimp only)) | (k_end; wrow_close) | walk1 | (dsimp only; walk1) | (leave1; walk_say "STEP leave1"; try dsimp only)))
      have md8 := hk8 _ (inE _ hd6) (Ne.symm drw) (Ne.symm dcp)
      first | (have xs6 := (And.left hM6); have to6 := (And.left (And.right hM6)); have ki6 := (And.left (And.right (And.right hM6))); have pm6 := (And.right (And.right (And.right hM6))); try clear hM6) | (refine hideE fun GG hGG => ?_; obtain ⟨xs6, to6, ki6, pm6⟩ := hM6; refine hGG ?_; clear hGG GG)
      have tup8 : ∀ q ∈ nx, q.2.cls = .type "tuple" → q ∈ R8 := fun q hq hc => let ⟨r1, r2⟩ := tupN q hq hc; hk8 q (inE q hq) r1 r2
      have hHi9 := reform N8 md8
      first | (have R9 := (And.left hHi9); have keep9 := (And.left (And.right hHi9)); have sub9 := (And.left (And.right (And.right hHi9))); have ne9 := (And.left (And.right (And.right (And.right hHi9)))); have N9 := (And.right (And.right (And.right (And.right hHi9)))); try clear hHi9) | (refine hideE fun GG hGG => ?_; obtain ⟨R9, keep9, sub9, ne9, N9⟩ := hHi9; refine hGG ?_; clear hGG GG)
      have ltd : ∀ q ∈ newsS, q.1 < dC → q.1 ≠ dC := fun q _ h => Nat.ne_of_lt h
      have tupd : ∀ q ∈ R8, q.2.cls = .type "tuple" → q.1 ≠ dC := fun q hq hc => ne_of_obj N8 (o := q.2) hq md8 (cls_ne (by rw [hc]; exact fun e => dict_ne_tuple to6.cls e.symm))
      have ki9 : KeysIn w R9 xs6 := ki6.mono fun q hq hc => keep9 q (tup8 q hq hc) (tupd q (tup8 q hq hc) hc)
      have mk9 := keep9 _ (tup8 _ hk6 rfl) (tupd _ (tup8 _ hk6 rfl) rfl)
      have eks := Paired.keysM pm6
      have hnk := hgi.new hg.2.1.1 hki
      refine td_set (o := o6) (xs := xs6) (k := [0, sl]) ?hu F8 N9 (UpdF.head fun p hp => ne9 p hp) to6 (ki9.mono fun p hp _ => List.mem_cons_of_mem _ hp) ⟨t, 0, sl, tkd, tsl, nt, rfl, rfl, List.mem_cons_of_mem _ mk9⟩ (line_small (by rw [pm6.length]; have := (hgi.good hg).2.1; omega)) ?_
      case hu => first | k_units | ktr_units
      intro h5 o5 tk5 to5 F5 N5
      (try dsimp only at N5)
      (try dsimp only)
      rw [storedH_new (atKey_new (by rw [eks]; exact hnk))] at to5
      k_steps
      refine (?_ : LEnd g' L' _ [(aK, W.listOf vsK.toArray nK)] nx _ _ _ _ _ _)
      have hst : gTo Tb toll n most (keysOf dc ac st en hi) (i + 1) = ((gTo Tb toll n most (keysOf dc ac st en hi) i).1 ++ [([0, sl], q.1)], (gTo Tb toll n most (keysOf dc ac st en hi) i).2 ++ (dcVals most).map fun v => (gTo Tb toll n most (keysOf dc ac st en hi) i).1 ++ [([0, sl], v)]) := by
        rw [gTo_succ hki]
        unfold gStep
        rw [hns, hq]
      refine ⟨h5, _, _, _, (), rfl, F5, N5, ?_, ?_, ⟨o5, List.mem_cons_self, ?_, ?_, ?_⟩, (fun _ h => nomatch h), ?_⟩
      · intro y hy hn
        exact List.mem_cons_of_mem _ (keep9 _ (hk8 _ (inE _ hy) (solN y hy hn).1 (solN y hy hn).2) (solD y hy hn))
      · intro y hy
        rw [List.mem_singleton.mp hy]
        exact List.mem_cons_of_mem _ (keep9 _ (hk8 _ (inE _ hl6) akr akc) akd)
      · rw [hst]
        refine ⟨_, to5, ?_, Paired.snoc pm6 ⟨rfl, tpa, rfl⟩⟩
        intro y hy
        rcases List.mem_append.mp hy with hy | hy
        · exact (ki9 y hy).mono fun z hz _ => List.mem_cons_of_mem _ hz
        · rw [List.mem_singleton.mp hy]
          exact ⟨t, 0, sl, tkd, tsl, nt, rfl, rfl, List.mem_cons_of_mem _ mk9⟩
      · rw [hst]
        exact hA8.upd (fun y hy hn => List.mem_cons_of_mem _ (keep9 y hy hn)) (fun y hy => Nat.ne_of_lt (hdl y (hKR y hy))) drw dcp tupd
      · intro y hy e1 e2 e3
        exact List.mem_cons_of_mem _ (keep9 _ (hk8 _ (inE _ (hR6 y hy e1 e2 e3)) e1 e2) e3)
      · intro z hz _ hc
        have hc' : z ≠ Str.ofString "key" ∧ z ≠ Str.ofString "values" := by simpa using hc
        dsimp only [kstB]
        rw [if_neg hc'.2, if_neg hc'.1, hc]
        rfl
    · repeat' ((fail_if_success (with_reducible show wpAny _ _ (call (Value.ref 35) _) _ _ _)); (first | (k_unfold; (try dsimp only)) | (k_end; wrow_close) | walk1 | (dsimp only; walk1) | (leave1; walk_say "STEP leave1"; try dsimp only)))
      k_dflt (refine' FnOk.useH ?k1 ?k2 ?k3 ?k4 ?k5 ?kK (ac_ok h1 h3) ?kd ?ku ?_; (case k1 => k_asm); (case k2 => k_asm); (case k3 => k_asm); (case k4 => k_asm); (case k5 => k_asm); (case kK => first | exact rfl | assumption); (case kd => ktr_room); (case ku => ktr_units))
      intro GG hGG _ newsV hV tkV FV NV hHi10
      first | (have hE4 := (And.left (And.right (And.right (And.right hHi10)))); subst hE4; have aV := (And.left hHi10); have vsV := (And.left (And.right hHi10)); have nV := (And.left (And.right (And.right hHi10))); have subV := (And.left (And.right (And.right (And.right (And.right hHi10))))); have ltV := (And.left (And.right (And.right (And.right (And.right (And.right hHi10)))))); have mV := (And.left (And.right (And.right (And.right (And.right (And.right (And.right hHi10))))))); have iV := (And.right (And.right (And.right (And.right (And.right (And.right (And.right hHi10))))))); try clear hHi10) | (obtain ⟨aV, vsV, nV, rfl, subV, ltV, mV, iV⟩ := hHi10)
      refine hGG _ _ _ ?_
      clear hGG GG
      clear F6
      repeat' ((fail_if_success (with_reducible show wpAny _ _ (compareOp _ _ _ _) _ _ _)); (fail_if_success (with_reducible show wpAny _ _ (call (Value.ref 42) _) _ _ _)); (first | (k_unfold; (try dsimp only)) | (k_end; wrow_close) | walk1 | (dsimp only; walk1) | (leave1; walk_say "STEP leave1"; try dsimp only)))
      rename_i aE hE FE NE lE
      have hns := keyVals_ac n most sl
      have ltrV : aV ≠ row := let ⟨_, _, hm, _⟩ := hA6.2.1; Ne.symm (Nat.ne_of_lt (ltV _ hm))
      have ltcV : aV ≠ cop := let ⟨_, _, hm, _⟩ := hA6.2.2; Ne.symm (Nat.ne_of_lt (ltV _ hm))
      have hil : i < (keysOf dc ac st en hi).length := (List.getElem?_eq_some_iff.mp hki).1
      have inE : ∀ q ∈ nx, q ∈ (aE, W.listOf #[] 0) :: newsV := fun q hq => List.mem_cons_of_mem _ (subV q hq)
      refine ke_ne_ints (News.isList NE (List.mem_cons_of_mem _ mV)) (by is_list) iV .nil (by ke_room) ?_
      by_cases hne : acVals n = []
      · rw [decide_eq_true hne]
        k_steps
        refine (?_ : LEnd g' L' _ [(aK, W.listOf vsK.toArray nK)] nx _ _ _ _ _ _)
        have hst : gTo Tb toll n most (keysOf dc ac st en hi) (i + 1) = gTo Tb toll n most (keysOf dc ac st en hi) i := by
          rw [gTo_succ hki]
          unfold gStep
          rw [hns, hne]
          rfl
        refine ⟨hE, _, _, _, (), rfl, FE, NE, ?_, ?_, ⟨o6, inE _ hd6, ?_, ?_, ?_⟩, (fun _ h => nomatch h), ?_⟩
        · exact fun y hy _ => inE y hy
        · intro y hy
          rw [List.mem_singleton.mp hy]
          exact inE _ hl6
        · rw [hst]
          exact hM6.mono fun y hy _ => inE y hy
        · rw [hst]
          exact hA6.mono fun y hy _ => inE y hy
        · exact fun y hy e1 e2 e3 => inE y (hR6 y hy e1 e2 e3)
        · intro z hz _ hc
          have hc' : z ≠ Str.ofString "key" ∧ z ≠ Str.ofString "values" := by simpa using hc
          dsimp only [kstB]
          rw [if_neg hc'.2, if_neg hc'.1, hc]
          rfl
      · rw [decide_eq_false hne]
        repeat' ((fail_if_success (with_reducible show wpAny _ _ (call (Value.ref 42) _) _ _ _)); (first | (k_unfold; (try dsimp only)) | (k_end; wrow_close) | walk1 | (dsimp only; walk1) | (leave1; walk_say "STEP leave1"; try dsimp only)))
        have hb := best_ok (w := w) (p := p) (loose := loose) (mean := mean) (mg := mg) (mb := mb) hf (hA6.mono fun q hq _ => inE q hq) lo8 (inE _ hd6) (hM6.mono fun q hq _ => inE q hq) ⟨t, 1, sl, tkd, tsl, nt, rfl, rfl, inE _ hk6⟩ (List.mem_cons_of_mem _ mV) iV (hgi.six hg) (hgi.good hg) mf (fun v hv => hgi.next hg hki (by rw [hns]; exact hv)) (hgi.new hg.2.1.1 hki) (hg.2.2.2.2 _ (List.mem_of_getElem? hki)) (chosen_len hg hgi hil hns) ltrV ltcV hne (Nat.le_refl _)
        k_dflt (refine' FnOk.useH ?k1 ?k2 ?k3 ?k4 ?k5 ?kK (hb) ?kd ?ku ?_; (case k1 => k_asm); (case k2 => k_asm); (case k3 => k_asm); (case k4 => k_asm); (case k5 => k_asm); (case kK => first | exact rfl | assumption); (case kd => ktr_room); (case ku => ktr_units))
        intro GG hGG vz R8 hh8 tk8 F8 N8 hHi11
        first | (have hE5 := (And.left (And.right (And.right (And.right (And.right (And.right (And.right (And.right (And.right hHi11))))))))); subst hE5; have hA8 := (And.left hHi11); have hk8 := (And.left (And.right hHi11)); have q := (And.left (And.right (And.right hHi11))); have hq := (And.left (And.right (And.right (And.right hHi11)))); have tp := (And.left (And.right (And.right (And.right (And.right hHi11))))); have tpa := (And.left (And.right (And.right (And.right (And.right (And.right hHi11)))))); have tpb := (And.left (And.right (And.right (And.right (And.right (And.right (And.right hHi11))))))); have tpn := (And.left (And.right (And.right (And.right (And.right (And.right (And.right (And.right hHi11)))))))); have mtp := (And.right (And.right (And.right (And.right (And.right (And.right (And.right (And.right (And.right hHi11))))))))); try clear hHi11) | (obtain ⟨hA8, hk8, q, hq, tp, tpa, tpb, tpn, rfl, mtp⟩ := hHi11)
        refine hGG _ _ _ ?_
        clear hGG GG
        repeat' ((fail_if_success (with_reducible show wpAny _ _ (setItem _ _ _) _ _ _)); (first | (k_unfold; (try dsimp only)) | (k_end; wrow_close) | walk1 | (dsimp only; walk1) | (leave1; walk_say "STEP leave1"; try dsimp only)))
        have md8 := hk8 _ (inE _ hd6) (Ne.symm drw) (Ne.symm dcp)
        first | (have xs6 := (And.left hM6); have to6 := (And.left (And.right hM6)); have ki6 := (And.left (And.right (And.right hM6))); have pm6 := (And.right (And.right (And.right hM6))); try clear hM6) | (refine hideE fun GG hGG => ?_; obtain ⟨xs6, to6, ki6, pm6⟩ := hM6; refine hGG ?_; clear hGG GG)
        have tup8 : ∀ q ∈ nx, q.2.cls = .type "tuple" → q ∈ R8 := fun q hq hc => let ⟨r1, r2⟩ := tupN q hq hc; hk8 q (inE q hq) r1 r2
        have hHi13 := reform N8 md8
        first | (have R9 := (And.left hHi13); have keep9 := (And.left (And.right hHi13)); have sub9 := (And.left (And.right (And.right hHi13))); have ne9 := (And.left (And.right (And.right (And.right hHi13)))); have N9 := (And.right (And.right (And.right (And.right hHi13)))); try clear hHi13) | (refine hideE fun GG hGG => ?_; obtain ⟨R9, keep9, sub9, ne9, N9⟩ := hHi13; refine hGG ?_; clear hGG GG)
        have ltd : ∀ q ∈ newsS, q.1 < dC → q.1 ≠ dC := fun q _ h => Nat.ne_of_lt h
        have tupd : ∀ q ∈ R8, q.2.cls = .type "tuple" → q.1 ≠ dC := fun q hq hc => ne_of_obj N8 (o := q.2) hq md8 (cls_ne (by rw [hc]; exact fun e => dict_ne_tuple to6.cls e.symm))
        have ki9 : KeysIn w R9 xs6 := ki6.mono fun q hq hc => keep9 q (tup8 q hq hc) (tupd q (tup8 q hq hc) hc)
        have mk9 := keep9 _ (tup8 _ hk6 rfl) (tupd _ (tup8 _ hk6 rfl) rfl)
        have eks := Paired.keysM pm6
        have hnk := hgi.new hg.2.1.1 hki
        refine td_set (o := o6) (xs := xs6) (k := [1, sl]) ?hu F8 N9 (UpdF.head fun p hp => ne9 p hp) to6 (ki9.mono fun p hp _ => List.mem_cons_of_mem _ hp) ⟨t, 1, sl, tkd, tsl, nt, rfl, rfl, List.mem_cons_of_mem _ mk9⟩ (line_small (by rw [pm6.length]; have := (hgi.good hg).2.1; omega)) ?_
        case hu => first | k_units | ktr_units
        intro h5 o5 tk5 to5 F5 N5
        (try dsimp only at N5)
        (try dsimp only)
        rw [storedH_new (atKey_new (by rw [eks]; exact hnk))] at to5
        k_steps
        refine (?_ : LEnd g' L' _ [(aK, W.listOf vsK.toArray nK)] nx _ _ _ _ _ _)
        have hst : gTo Tb toll n most (keysOf dc ac st en hi) (i + 1) = ((gTo Tb toll n most (keysOf dc ac st en hi) i).1 ++ [([1, sl], q.1)], (gTo Tb toll n most (keysOf dc ac st en hi) i).2 ++ (acVals n).map fun v => (gTo Tb toll n most (keysOf dc ac st en hi) i).1 ++ [([1, sl], v)]) := by
          rw [gTo_succ hki]
          unfold gStep
          rw [hns, hq]
        refine ⟨h5, _, _, _, (), rfl, F5, N5, ?_, ?_, ⟨o5, List.mem_cons_self, ?_, ?_, ?_⟩, (fun _ h => nomatch h), ?_⟩
        · intro y hy hn
          exact List.mem_cons_of_mem _ (keep9 _ (hk8 _ (inE _ hy) (solN y hy hn).1 (solN y hy hn).2) (solD y hy hn))
        · intro y hy
          rw [List.mem_singleton.mp hy]
          exact List.mem_cons_of_mem _ (keep9 _ (hk8 _ (inE _ hl6) akr akc) akd)
        · rw [hst]
          refine ⟨_, to5, ?_, Paired.snoc pm6 ⟨rfl, tpa, rfl⟩⟩
          intro y hy
          rcases List.mem_append.mp hy with hy | hy
          · exact (ki9 y hy).mono fun z hz _ => List.mem_cons_of_mem _ hz
          · rw [List.mem_singleton.mp hy]
            exact ⟨t, 1, sl, tkd, tsl, nt, rfl, rfl, List.mem_cons_of_mem _ mk9⟩
        · rw [hst]
          exact hA8.upd (fun y hy hn => List.mem_cons_of_mem _ (keep9 y hy hn)) (fun y hy => Nat.ne_of_lt (hdl y (hKR y hy))) drw dcp tupd
        · intro y hy e1 e2 e3
          exact List.mem_cons_of_mem _ (keep9 _ (hk8 _ (inE _ (hR6 y hy e1 e2 e3)) e1 e2) e3)
        · intro z hz _ hc
          have hc' : z ≠ Str.ofString "key" ∧ z ≠ Str.ofString "values" := by simpa using hc
          dsimp only [kstB]
          rw [if_neg hc'.2, if_neg hc'.1, hc]
          rfl
  · intro c nx u h6 tk6 hl6 hHi14 F6 N6
    ((try show wpAny _ _ _ _ _ _); (try k_fold))
    first | (have o6 := (And.left hHi14); have hd6 := (And.left (And.right hHi14)); have hM6 := (And.left (And.right (And.right hHi14))); have hA6 := (And.left (And.right (And.right (And.right hHi14)))); have hR6 := (And.right (And.right (And.right (And.right hHi14)))); try clear hHi14) | (refine hideE fun GG hGG => ?_; obtain ⟨o6, hd6, hM6, hA6, hR6⟩ := hHi14; refine hGG ?_; clear hGG GG)
    replace F6 : Fr g' L' h6 _ := F6
    replace N6 : News g' L' h6 nx := N6
    clear FS NS
    (try dsimp only)
    k_steps
    have eL : vsK.length = (keysOf dc ac st en hi).length := pK.length
    rw [eL] at hM6 hA6
    refine hret _ nx _ _ (by k_asm) (by k_asm) ⟨dC, o6, rfl, lo8, hd6, hM6, hA6, fun q hq e1 e2 => hR6 q (keepS q (List.mem_cons_of_mem _ hq)) e1 e2 (Nat.ne_of_lt (hdl q hq))⟩
end
end N240
end
-- Walk
section
open PySem PySem.W PyProof.Rows PySem.Spec PySem.Calls
namespace N240
variable {w : World} {p : Program} {loose : List Str} {mean : ExcName → Option Value} {mg mb : Str → Option Value}
/-- between the turns over the keys -/
inductive WalkI (w : World) (R : Led) (dD aA : Addr) (T : Tab) (toll n most : Int) (ks : List (List Int)) (i : Nat) (u : Unit) (nx : Led) : Prop
  | mk (o : Obj) (a1 : (dD, o) ∈ nx) (a2 : MapO w nx o (gTo T toll n most ks i).1) (a3 : DictsAt w dD nx aA (gTo T toll n most ks i).2) (a4 : ∀ q ∈ R, q ∈ nx) : WalkI w R dD aA T toll n most ks i u nx
/-- what the walk leaves -/
inductive WalkP (w : World) (R : Led) (T : Tab) (toll n most : Int) (ks : List (List Int)) (v : Value) (R' : Led) : Prop
  | mk (t dD aA : Addr) (nt : Nat) (oD : Obj) (e : v = .ref t) (m : (t, ({ cls := .type "tuple", data := .seq #[.ref dD, .ref aA] nt } : Obj)) ∈ R') (lo : (dD == sysModules) = false) (mD : (dD, oD) ∈ R') (hM : MapO w R' oD (gTo T toll n most ks ks.length).1) (hA : DictsAt w dD R' aA (gTo T toll n most ks ks.length).2) (k : ∀ q ∈ R, q ∈ R') : WalkP w R T toll n most ks v R'
theorem WalkI.up {w : World} {R : Led} {dD aA b : Addr} {T : Tab} {toll n most : Int} {ks : List (List Int)} (hR : ∀ p ∈ R, p.1 < b) (hd : dD < b) (ha : aA < b) :
    ∀ i c R1 R2, (∀ p ∈ R1, Solid p.2 ∨ p.1 < b → p ∈ R2) → WalkI w R dD aA T toll n most ks i c R1 → WalkI w R dD aA T toll n most ks i c R2 := by
  intro i c R1 R2 hx hHi1
  first | (have o := (And.left hHi1); have a1 := (And.left (And.right hHi1)); have a2 := (And.left (And.right (And.right hHi1))); have a3 := (And.left (And.right (And.right (And.right hHi1)))); have a4 := (And.right (And.right (And.right (And.right hHi1)))); try clear hHi1) | (refine hideE fun GG hGG => ?_; obtain ⟨o, a1, a2, a3, a4⟩ := hHi1; refine hGG ?_; clear hGG GG)
  refine ⟨o, hx _ a1 (.inr hd), a2.mono fun p hp hq => hx p hp (.inl (solid_cls hq)), a3.mono fun p hp hq => hx p hp ?_, fun q hq => hx q (a4 q hq) (.inr (hR q hq))⟩
  rcases hq with h | h | h
  · exact .inr (h ▸ ha)
  · exact .inl (solid_cls h)
  · exact .inl (solid_cls h)
/-- what the name best holds -/
def FoundW (R : Led) (val : Value) : Option (Int × Int) → Prop
  | none => val = .none
  | some q => Tup2 R val q.2 q.1
theorem FoundW.mono {R R' : Led} {val : Value} {b : Option (Int × Int)} (h : FoundW R val b) (hs : ∀ p ∈ R, p.2.cls = .type "tuple" → p ∈ R') : FoundW R' val b := by
  cases b with
  | none => exact h
  | some q => exact Tup2.mono h hs
/-- between the turns over the values -/
def BestJ (w : World) (K : Led) (dD aA : Addr) (T : Tab) (toll : Int) (M : CMap) (Ms : List CMap) (k ns : List Int) (i : Nat) (c : Value) (nx : Led) : Prop :=
  DictsAt w dD nx aA (Ms ++ (ns.take i).map fun v => M ++ [(k, v)]) ∧ (∀ q ∈ K, q ∈ nx) ∧ FoundW nx c (bestOf T toll M k (ns.take i))
theorem BestJ.up {w : World} {K : Led} {dD aA b : Addr} {T : Tab} {toll : Int} {M : CMap} {Ms : List CMap} {k ns : List Int} (hK : ∀ p ∈ K, p.1 < b) (ha : aA < b) :
    ∀ i c R1 R2, (∀ p ∈ R1, Solid p.2 ∨ p.1 < b → p ∈ R2) → BestJ w K dD aA T toll M Ms k ns i c R1 → BestJ w K dD aA T toll M Ms k ns i c R2 := by
  intro i c R1 R2 hx hHi2
  first | (have a1 := (And.left hHi2); have a2 := (And.left (And.right hHi2)); have a3 := (And.right (And.right hHi2)); try clear hHi2) | (refine hideE fun GG hGG => ?_; obtain ⟨a1, a2, a3⟩ := hHi2; refine hGG ?_; clear hGG GG)
  refine ⟨a1.mono fun p hp hq => hx p hp ?_, fun q hq => hx q (a2 q hq) (.inr (hK q hq)), a3.mono fun p hp hq => hx p hp (.inl (solid_cls hq))⟩
  rcases hq with h | h | h
  · exact .inr (h ▸ ha)
  · exact .inl (solid_cls h)
  · exact .inl (solid_cls h)
section
set_option maxRecDepth 100000 in
set_option maxHeartbeats 400000 in
theorem walk_ok {R : Led} {dCo aK : Addr} {oCo : Obj} {Tb : Tab} {toll n most : Int} {tt tn tmo : Tok} {ks : List (List Int)} (mCo : (dCo, oCo) ∈ R) (loCo : (dCo == sysModules) = false) (hTb : TabO w R oCo Tb) (hK : KeysAt w R aK ks) (hg : GoodAll Tb n most ks) (h1 : 1 ≤ n) (h3 : n ≤ 3) (h0 : 0 ≤ most) (h2 : most ≤ 2) :
    FnOk w p loose mean mg mb 6 60 (.ref 139) [.ref dCo, .int toll tt, .ref aK, .int n tn, .int most tmo] R
      (WalkP w R Tb toll n most ks) := by
  first | (have vsK := (And.left hK); have nK := (And.left (And.right hK)); have mK := (And.left (And.right (And.right hK))); have pK := (And.right (And.right (And.right hK))); try clear hK) | (refine hideE fun GG hGG => ?_; obtain ⟨vsK, nK, mK, pK⟩ := hK; refine hGG ?_; clear hGG GG)
  unfold FnOk
  intro dp un gd cn cs a ccd cl outer A₀ base h₀ L m s Q E B F X N T hk hd hu hret
  w_top off
  have hFill : PySem.Challenge.rw_nz0240_01 = PySem.Challenge.rw_nz0240_01 ∧ N240.hd.heap_39 = N240.hd.heap_39 → True := fun _ => trivial
  (first | (revert hFill; k_fill; intro hFill; clear hFill))
  refine wpAny_call ?_
  k_dflt (refine' code_def ?k1 ?k2 ?k3 ?k4 ?k5 ?kA ?kF ?kK ?k6 ?k7 ?k8 ?k9 ?kB ?_ ?c2 ?c3 ?c4 ?c5; (case kA => exact rfl); (case kF => exact rfl); (case kK => assumption); (case k1 => k_asm); (case k2 => k_asm); (case k3 => k_asm); (case k4 => k_asm); (case k5 => k_asm); (case k6 => k_is); (case k7 => k_is); (case k8 => ktr_room); (case k9 => exact BindsTo.of_eq rfl); (case c5 => decide); (case kB => exact locs rfl); (case c2 => exact rfl); (case c3 => exact rfl); (case c4 => exact rfl); k_whole)
  intro g' L' h' FG' F' N' B' X' T'
  (try dsimp only)
  ((try show wpAny _ _ _ _ _ _); (try k_fold))
  replace F' : Fr g' L' h' (fun y => List.lookup y [(Str.ofString "most", Value.int most tmo), (Str.ofString "n", Value.int n tn), (Str.ofString "keys", Value.ref aK), (Str.ofString "toll", Value.int toll tt), (Str.ofString "costs", Value.ref dCo)]) := F'
  repeat' ((fail_if_success (with_reducible show wpAny _ _ (exec (Stmt.For _ _ _ _ _) _) _ _ _)); (first | (k_unfold; (try dsimp only)) | (k_end; wrow_close) | walk1 | (dsimp only; walk1) | (leave1; walk_say "STEP leave1"; try dsimp only)))
  rename_i dD hx1 oD lD loD hsD fsD hiD fiD aA hx2 lA aT hx3 lT hy1 hy2 h9 F9 N9
  with_unfolding_all refine For_invVF F9 (by rfl) (by rfl) ?_
  repeat' ((fail_if_success (with_reducible show wpAny _ _ (pyIter _) _ _ _)); (first | (k_unfold; (try dsimp only)) | (k_end; wrow_close) | walk1 | (dsimp only; walk1) | (leave1; walk_say "STEP leave1"; try dsimp only)))
  have lt9 := news_lt N9
  have inR : ∀ q ∈ R, q ∈ (aT, ({ cls := .type "tuple", data := .seq #[.ref dD, .ref aA] } : Obj)) :: (aA, W.listOf #[] 0) :: (dD, oD) :: R := fun q hq => List.mem_cons_of_mem _ (List.mem_cons_of_mem _ (List.mem_cons_of_mem _ hq))
  have hdl : ∀ q ∈ R, q.1 < dD := lD
  have dAne : dD < aA := lA.1
  refine loop_keys pK (x := Str.ofString "key") (fun _ => []) [Str.ofString "key", Str.ofString "best", Str.ofString "value", Str.ofString "one"] (WalkI w R dD aA Tb toll n most ks) () (WalkI.up (fun p hp => lt9 p (inR p hp)) (lt9 (dD, oD) (by simp)) (lt9 (aA, W.listOf #[] 0) (by simp))) rfl (vs := vsK) (nn := nK) (inR _ mK) F9 N9
    ⟨oD, by simp, ⟨[], TObj.empty hiD, (fun _ h => nomatch h), .nil⟩, ⟨[], 0, by simp, .nil, List.nodup_nil⟩, inR⟩ (fun _ h => nomatch h) ?_ ?_
  · intro i t kd sl tkd tsl nt c nx u h6 tk6 hki hv hkm hl6 hHi4 F6 N6
    ((try show wpAny _ _ _ _ _ _); (try k_fold))
    first | (have o6 := (And.left hHi4); have hd6 := (And.left (And.right hHi4)); have hM6 := (And.left (And.right (And.right hHi4))); have hA6 := (And.left (And.right (And.right (And.right hHi4)))); have hR6 := (And.right (And.right (And.right (And.right hHi4)))); try clear hHi4) | (refine hideE fun GG hGG => ?_; obtain ⟨o6, hd6, hM6, hA6, hR6⟩ := hHi4; refine hGG ?_; clear hGG GG)
    replace F6 : Fr g' L' h6 _ := F6
    replace N6 : News g' L' h6 nx := N6
    have hgi := gI_to Tb toll n most ks i (by have := (List.getElem?_eq_some_iff.mp hki).1; omega)
    have hkd : kd = 0 ∨ kd = 1 := by
      have hHi5 := hg.2.1.2.2 _ (List.mem_of_getElem? hki)
      first | (have kd' := (And.left hHi5); have sl' := (And.left (And.right hHi5)); have ek := (And.left (And.right (And.right hHi5))); have hkd := (And.right (And.right (And.right hHi5))); try clear hHi5) | (refine hideE fun GG hGG => ?_; obtain ⟨kd', sl', ek, hkd⟩ := hHi5; refine hGG ?_; clear hGG GG)
      have ek2 : kd' = kd ∧ sl' = sl := by simpa using ek.symm
      rw [← ek2.1]; exact hkd
    have hkm6 := hR6 _ hkm
    have solA : ∀ q ∈ nx, ¬ Solid q.2 → q.1 ≠ aA ∧ q.1 ≠ dD := fun q hq hn => ⟨let ⟨_, _, m, _⟩ := hA6; ns_off N6 m solid_list hq hn, ns_off N6 hd6 (solid_cls hM6.cls) hq hn⟩
    have tupA : ∀ q ∈ nx, q.2.cls = .type "tuple" → q.1 ≠ aA := fun q hq hc => let ⟨_, _, m, _⟩ := hA6; ne_of_obj N6 (o := q.2) hq m (cls_ne (by rw [hc]; exact fun e => list_ne_tuple e.symm))
    clear F9 N9
    ((try show wpAny _ _ _ _ _ _); (try k_fold))
    repeat' ((fail_if_success (with_reducible show wpAny _ _ (call (Value.ref 120) _) _ _ _)); (first | (k_unfold; (try dsimp only)) | (k_end; wrow_close) | walk1 | (dsimp only; walk1) | (leave1; walk_say "STEP leave1"; try dsimp only)))
    k_dflt (refine' FnOk.useH ?k1 ?k2 ?k3 ?k4 ?k5 ?kK (lv_ok hkd h1 h3 h0 h2) ?kd ?ku ?_; (case k1 => k_asm); (case k2 => k_asm); (case k3 => k_asm); (case k4 => k_asm); (case k5 => k_asm); (case kK => first | exact rfl | assumption); (case kd => ktr_room); (case ku => ktr_units))
    intro GG hGG vv newsV hV tkV FV NV hHi6
    first | (have hE1 := (And.left (And.right (And.right (And.right hHi6)))); subst hE1; have aV := (And.left hHi6); have vsV := (And.left (And.right hHi6)); have nV := (And.left (And.right (And.right hHi6))); have keepV := (And.left (And.right (And.right (And.right (And.right hHi6))))); have ltV := (And.left (And.right (And.right (And.right (And.right (And.right hHi6)))))); have mV := (And.left (And.right (And.right (And.right (And.right (And.right (And.right hHi6))))))); have iV := (And.right (And.right (And.right (And.right (And.right (And.right (And.right hHi6))))))); try clear hHi6) | (obtain ⟨aV, vsV, nV, rfl, keepV, ltV, mV, iV⟩ := hHi6)
    refine hGG _ _ _ ?_
    clear hGG GG
    repeat' ((fail_if_success (with_reducible show wpAny _ _ (pyIter _) _ _ _)); (first | (k_unfold; (try dsimp only)) | (k_end; wrow_close) | walk1 | (dsimp only; walk1) | (leave1; walk_say "STEP leave1"; try dsimp only)))
    have hHi7 := id hM6
    first | (have xs := (And.left hHi7); have to6 := (And.left (And.right hHi7)); have ki6 := (And.left (And.right (And.right hHi7))); have pm6 := (And.right (And.right (And.right hHi7))); try clear hHi7) | (refine hideE fun GG hGG => ?_; obtain ⟨xs, to6, ki6, pm6⟩ := hHi7; refine hGG ?_; clear hGG GG)
    have h6k : ∀ x ∈ xs, x.1 ∈ sixKeys := fun x hx => by
      have : x.1 ∈ ((gTo Tb toll n most ks i).1).map (·.1) := by rw [← Paired.keysM pm6]; exact List.mem_map.mpr ⟨x, hx, rfl⟩
      have hHi8 := List.mem_map.mp this
      first | (have q := (And.left hHi8); have hq := (And.left (And.right hHi8)); have e := (And.right (And.right hHi8)); try clear hHi8) | (refine hideE fun GG hGG => ?_; obtain ⟨q, hq, e⟩ := hHi8; refine hGG ?_; clear hGG GG)
      exact e ▸ hgi.six hg q hq
    have hlx : xs.length ≤ 6 := by rw [pm6.length]; exact (hgi.good hg).2.1
    have hnk := hgi.new hg.2.1.1 hki
    have ltn := news_lt NV
    have maV : aA < hV.objs.size := let ⟨_, _, m, _⟩ := hA6; ltn _ (keepV _ m)
    have hAV := hA6.mono fun q hq _ => keepV q hq
    have aVa : aV ≠ aA := let ⟨_, _, m, _⟩ := hA6; Ne.symm (Nat.ne_of_lt (ltV _ m))
    have Ra : ∀ q ∈ R, q.1 ≠ aA := fun q hq => Nat.ne_of_lt (Nat.lt_trans (hdl q hq) dAne)
    have toK : ∀ q ∈ nx, q.1 ≠ aA → q ∈ off aA newsV := fun q hq e => mem_off (keepV q hq) e
    have dne : dD ≠ aA := Nat.ne_of_lt dAne
    have kval : keyVals n most [kd, sl] = kindVals kd n most := rfl
    refine loop_ints iV (x := Str.ofString "value") (fun c => [(Str.ofString "best", c)]) [Str.ofString "value", Str.ofString "one"] (BestJ w (off aA newsV) dD aA Tb toll (gTo Tb toll n most ks i).1 (gTo Tb toll n most ks i).2 [kd, sl] (kindVals kd n most)) Value.none (BestJ.up (fun p hp => ltn p (of_off hp).1) maV) rfl (vs := vsV) (nn := nV) mV FV NV
      ⟨by simpa using hAV, fun q hq => (of_off hq).1, rfl⟩ ?hk ?turn ?done
    case hk =>
      intro q hq
      rw [List.mem_singleton.mp hq]
      exact if_pos rfl
    case turn =>
      intro j k2 tv c nx2 u2 h11 tk11 hk2 hv2 hl11 hHi9 F11 N11
      ((try show wpAny _ _ _ _ _ _); (try k_fold))
      first | (have va := (And.left (And.left hHi9)); have na := (And.left (And.right (And.left hHi9))); have ma := (And.left (And.right (And.right (And.left hHi9)))); have pa := (And.left (And.right (And.right (And.right (And.left hHi9))))); have da := (And.right (And.right (And.right (And.right (And.left hHi9))))); have hK11 := (And.left (And.right hHi9)); have hF11 := (And.right (And.right hHi9)); try clear hHi9) | (refine hideE fun GG hGG => ?_; obtain ⟨⟨va, na, ma, pa, da⟩, hK11, hF11⟩ := hHi9; refine hGG ?_; clear hGG GG)
      have hHi10 := reform N11 ma
      first | (have R12 := (And.left hHi10); have keep12 := (And.left (And.right hHi10)); have sub12 := (And.left (And.right (And.right hHi10))); have ne12 := (And.left (And.right (And.right (And.right hHi10)))); have N12 := (And.right (And.right (And.right (And.right hHi10)))); try clear hHi10) | (refine hideE fun GG hGG => ?_; obtain ⟨R12, keep12, sub12, ne12, N12⟩ := hHi10; refine hGG ?_; clear hGG GG)
      replace F11 : Fr g' L' h11 _ := F11
      replace N12 : News g' L' h11 _ := N12
      dsimp only [kstB] at F11
      have in12 : ∀ q ∈ nx, q.1 ≠ aA → q ∈ R12 := fun q hq e => keep12 q (hK11 q (toK q hq e)) e
      have md12 := in12 _ hd6 dne
      have ki12 : KeysIn w R12 xs := ki6.mono fun q hq hc => in12 q hq (tupA q hq hc)
      have R12in : ∀ q ∈ R, q ∈ R12 := fun q hq => in12 q (hR6 q hq) (Ra q hq)
      have hkm12 := R12in _ hkm
      clear NV FV
      ((try show wpAny _ _ _ _ _ _); (try k_fold))
      repeat' ((fail_if_success (with_reducible show wpAny _ _ (call (Value.type "dict") _) _ _ _)); (first | (k_unfold; (try dsimp only)) | (k_end; wrow_close) | walk1 | (dsimp only; walk1) | (leave1; walk_say "STEP leave1"; try dsimp only)))
      refine td_copy (xs := xs) F11 N12 (modules_low (Top.nolimit T')) loD (List.mem_cons_of_mem _ md12) to6 (ki12.mono fun q hq _ => List.mem_cons_of_mem _ hq) h6k (line_small (by omega)) ?_
      intro dT hT oT FT NT lT' loT toT
      repeat' ((fail_if_success (with_reducible show wpAny _ _ (setItem _ _ _) _ _ _)); (first | (k_unfold; (try dsimp only)) | (k_end; wrow_close) | walk1 | (dsimp only; walk1) | (leave1; walk_say "STEP leave1"; try dsimp only)))
      rename_i hS FS NS
      refine td_set (o := oT) (xs := xs) (k := [kd, sl]) ?hu FS NS (UpdF.head fun p hp => Nat.ne_of_lt (lT' p hp)) toT (ki12.mono fun p hp _ => List.mem_cons_of_mem _ (List.mem_cons_of_mem _ hp)) ⟨t, kd, sl, tkd, tsl, nt, rfl, rfl, List.mem_cons_of_mem _ (List.mem_cons_of_mem _ hkm12)⟩ (line_small (by omega)) ?_
      case hu => first | k_units | ktr_units
      intro hE oE tkE toE FE NE
      (try dsimp only at NE)
      (try dsimp only)
      have adT : aA < dT := lT' (aA, W.listOf va.toArray na) List.mem_cons_self
      repeat' ((fail_if_success (with_reducible show wpAny _ _ (call (Value.builtin "list.append") _) _ _ _)); (first | (k_unfold; (try dsimp only)) | (k_end; wrow_close) | walk1 | (dsimp only; walk1) | (leave1; walk_say "STEP leave1"; try dsimp only)))
      k_dflt (refine' append_L FE NE (UpdF.tail (Ne.symm (Nat.ne_of_lt adT)) (UpdF.head ne12)) ?z ?_)
      case z => exact line_small (by have e1 := pa.length; have e2 := chosen_len hg hgi (List.getElem?_eq_some_iff.mp hki).1 kval; rw [List.length_append, List.length_map, List.length_take] at e1; exact e1 ▸ Nat.le_trans (Nat.add_le_add_left (Nat.min_le_right _ _) _) (Nat.le_trans e2 (by decide)))
      intro hP nP FP NP
      (try dsimp only at NP)
      rw [storedH_new (atKey_new (by rw [Paired.keysM pm6]; exact hnk))] at toE
      have inP : ∀ q ∈ R12, q ∈ (dT, oE) :: (aA, W.listOf (va ++ [Value.ref dT]).toArray nP) :: R12 := fun q hq => List.mem_cons_of_mem _ (List.mem_cons_of_mem _ hq)
      have hME : MapO w ((dT, oE) :: (aA, W.listOf (va ++ [Value.ref dT]).toArray nP) :: R12) oE ((gTo Tb toll n most ks i).1 ++ [([kd, sl], k2)]) := ⟨_, toE, by
        intro x hx
        rcases List.mem_append.mp hx with hx | hx
        · exact (ki12 x hx).mono fun p hp _ => inP p hp
        · rw [List.mem_singleton.mp hx]
          exact ⟨t, kd, sl, tkd, tsl, nt, rfl, rfl, inP _ hkm12⟩, Paired.snoc pm6 ⟨rfl, tv, rfl⟩⟩
      have hgE := hgi.next hg hki (v := k2) (by rw [kval]; exact List.mem_of_getElem? hk2)
      have hsz := size_ok (w := w) (p := p) (loose := loose) (mean := mean) (mg := mg) (mb := mb) (toll := toll) (t := tt) loCo loT (inP _ (R12in _ mCo)) List.mem_cons_self (hTb.mono fun q hq _ => inP q (R12in q hq)) hME hgE
      have tup11 : ∀ q ∈ nx2, q.2.cls = .type "tuple" → q.1 ≠ aA := fun q hq hc => ne_of_obj N11 (o := q.2) hq ma (cls_ne (by rw [hc]; exact fun e => list_ne_tuple e.symm))
      have dct11 : ∀ q ∈ nx2, q.2.cls = .type "dict" → q.1 ≠ aA := fun q hq hc => ne_of_obj N11 (o := q.2) hq ma (cls_ne (by rw [hc]; exact fun e => list_ne_dict e.symm))
      have hF12 : FoundW ((dT, oE) :: (aA, W.listOf (va ++ [Value.ref dT]).toArray nP) :: R12) c (bestOf Tb toll (gTo Tb toll n most ks i).1 [kd, sl] ((kindVals kd n most).take j)) := hF11.mono fun q hq hc => inP q (keep12 q hq (tup11 q hq hc))
      have hst : bestOf Tb toll (gTo Tb toll n most ks i).1 [kd, sl] ((kindVals kd n most).take (j + 1)) = bestStep Tb toll (gTo Tb toll n most ks i).1 [kd, sl] (bestOf Tb toll (gTo Tb toll n most ks i).1 [kd, sl] ((kindVals kd n most).take j)) k2 := bestOf_succ hk2
      have hdv : ∀ {R8 : Led}, (∀ q ∈ (dT, oE) :: (aA, W.listOf (va ++ [Value.ref dT]).toArray nP) :: R12, q ∈ R8) → DictsAt w dD R8 aA ((gTo Tb toll n most ks i).2 ++ ((kindVals kd n most).take (j + 1)).map fun v => (gTo Tb toll n most ks i).1 ++ [([kd, sl], v)]) := by
        intro R8 up8
        have eT : (gTo Tb toll n most ks i).2 ++ ((kindVals kd n most).take (j + 1)).map (fun v => (gTo Tb toll n most ks i).1 ++ [([kd, sl], v)]) = ((gTo Tb toll n most ks i).2 ++ ((kindVals kd n most).take j).map fun v => (gTo Tb toll n most ks i).1 ++ [([kd, sl], v)]) ++ [(gTo Tb toll n most ks i).1 ++ [([kd, sl], k2)]] := by
          rw [List.take_succ, hk2]
          simp
        rw [eT]
        refine ⟨va ++ [Value.ref dT], nP, up8 _ (List.mem_cons_of_mem _ List.mem_cons_self), Paired.snoc (pa.mono fun v m hv => hv.mono fun q hq hc => up8 q (inP q (keep12 q hq (hc.elim (dct11 q hq) (tup11 q hq))))) ⟨dT, oE, rfl, Nat.lt_trans dAne adT, loT, up8 _ List.mem_cons_self, hME.mono fun q hq _ => up8 q hq⟩, ?_⟩
        refine List.nodup_append.mpr ⟨da, by simp, ?_⟩
        intro x hx y hy e
        rw [List.mem_singleton.mp hy] at e
        have hHi11 := List.mem_iff_getElem?.mp hx
        first | (have j' := (And.left hHi11); have hj := (And.right hHi11); try clear hHi11) | (obtain ⟨j', hj⟩ := hHi11)
        have hHi12 := Paired.at pa j' _ hj
        first | (have M' := (And.left hHi12); have hU2 := (And.left (And.right hHi12)); have d' := (And.left (And.right (And.right hHi12))); have o' := (And.left (And.right (And.right (And.right hHi12)))); have e3 := (And.left (And.right (And.right (And.right (And.right hHi12))))); have hU3 := (And.left (And.right (And.right (And.right (And.right (And.right hHi12)))))); have hU4 := (And.left (And.right (And.right (And.right (And.right (And.right (And.right hHi12))))))); have hm' := (And.left (And.right (And.right (And.right (And.right (And.right (And.right (And.right hHi12)))))))); have hM' := (And.right (And.right (And.right (And.right (And.right (And.right (And.right (And.right hHi12)))))))); try clear hHi12) | (refine hideE fun GG hGG => ?_; obtain ⟨M', _, d', o', e3, _, _, hm', hM'⟩ := hHi12; refine hGG ?_; clear hGG GG)
        rw [e] at e3
        injection e3 with e3
        have := lT' _ (List.mem_cons_of_mem _ (keep12 _ hm' (dct11 _ hm' hM'.cls)))
        exact absurd this (by rw [← e3]; exact Nat.lt_irrefl _)
      cases hb : bestOf Tb toll (gTo Tb toll n most ks i).1 [kd, sl] ((kindVals kd n most).take j) with
      | none =>
        rw [hb] at hF12 hst
        obtain rfl : c = .none := hF12
        repeat' ((fail_if_success (with_reducible show wpAny _ _ (call (Value.ref 132) _) _ _ _)); (first | (k_unfold; (try dsimp only)) | (k_end; wrow_close) | walk1 | (dsimp only; walk1) | (leave1; walk_say "STEP leave1"; try dsimp only)))
        k_dflt (refine' FnOk.useH ?k1 ?k2 ?k3 ?k4 ?k5 ?kK (hsz) ?kd ?ku ?_; (case k1 => k_asm); (case k2 => k_asm); (case k3 => k_asm); (case k4 => k_asm); (case k5 => k_asm); (case kK => first | exact rfl | assumption); (case kd => ktr_room); (case ku => ktr_units))
        intro GG hGG _ R8 h8 tk8 F8 N8 hHi13
        first | (have hE5 := (And.right (And.left hHi13)); subst hE5; have tz := (And.left (And.left hHi13)); have keep8 := (And.right hHi13); try clear hHi13) | (obtain ⟨⟨tz, rfl⟩, keep8⟩ := hHi13)
        refine hGG _ _ _ ?_
        clear hGG GG
        k_steps
        refine (?_ : LEnd g' L' _ [(aV, W.listOf vsV.toArray nV)] nx2 _ _ _ _ _ _)
        refine' ⟨_, _, _, _, _, rfl, by assumption, by assumption, fun y hy hn => List.mem_cons_of_mem _ (keep8 _ (inP _ (keep12 y hy (ns_off N11 ma solid_list hy hn)))), ?q3, ⟨hdv fun y hy => List.mem_cons_of_mem _ (keep8 y hy), fun y hy => List.mem_cons_of_mem _ (keep8 _ (inP _ (keep12 y (hK11 y hy) (off_ne y hy)))), ?q6⟩, ?q4, ?q5⟩
        case q4 =>
          intro q hq
          rw [List.mem_singleton.mp hq]
          exact if_pos rfl
        case q3 =>
          intro y hy
          rw [List.mem_singleton.mp hy]
          exact List.mem_cons_of_mem _ (keep8 _ (inP _ (keep12 _ hl11 aVa)))
        case q6 =>
          rw [hst]
          first
            | exact ⟨_, _, _, _, rfl, List.mem_cons_self⟩
            | (unfold bestStep; dsimp only; rw [if_pos (by assumption)]; exact ⟨_, _, _, _, rfl, List.mem_cons_self⟩)
        case q5 =>
          intro z hz hn hc
          have hz1 : z ≠ Str.ofString "best" := hn _ List.mem_cons_self
          have hz3 : z ≠ Str.ofString "one" := fun e => by rw [e] at hc; exact absurd hc (by decide)
          simp only [if_neg hz, if_neg hz1, if_neg hz3, hc, Bool.false_eq_true, if_false]
          (try rfl)
      | some q =>
        rw [hb] at hF12 hst
        first | (have hE6 := (And.left (And.right (And.right (And.right (And.right hF12))))); subst hE6; have tq := (And.left hF12); have ta := (And.left (And.right hF12)); have tb := (And.left (And.right (And.right hF12))); have nq := (And.left (And.right (And.right (And.right hF12)))); have mtq := (And.right (And.right (And.right (And.right (And.right hF12))))); try clear hF12) | (refine hideE fun GG hGG => ?_; obtain ⟨tq, ta, tb, nq, rfl, mtq⟩ := hF12; refine hGG ?_; clear hGG GG)
        repeat' ((fail_if_success (with_reducible show wpAny _ _ (call (Value.ref 132) _) _ _ _)); (first | (k_unfold; (try dsimp only)) | (k_end; wrow_close) | walk1 | (dsimp only; walk1) | (leave1; walk_say "STEP leave1"; try dsimp only)))
        k_dflt (refine' FnOk.useH ?k1 ?k2 ?k3 ?k4 ?k5 ?kK (hsz) ?kd ?ku ?_; (case k1 => k_asm); (case k2 => k_asm); (case k3 => k_asm); (case k4 => k_asm); (case k5 => k_asm); (case kK => first | exact rfl | assumption); (case kd => ktr_room); (case ku => ktr_units))
        intro GG hGG _ R8 h8 tk8 F8 N8 hHi15
        first | (have hE7 := (And.right (And.left hHi15)); subst hE7; have tz := (And.left (And.left hHi15)); have keep8 := (And.right hHi15); try clear hHi15) | (obtain ⟨⟨tz, rfl⟩, keep8⟩ := hHi15)
        refine hGG _ _ _ ?_
        clear hGG GG
        have mtq8 := keep8 _ mtq
        repeat' ((fail_if_success (with_reducible show wpAny _ _ (call (Value.ref 132) _) _ _ _)); (first | (k_unfold; (try dsimp only)) | (k_end; wrow_close) | walk1 | (dsimp only; walk1) | (leave1; walk_say "STEP leave1"; try dsimp only)))
        · have hsz2 := hsz.mono (R' := R8) keep8 fun _ _ h => h
          k_dflt (refine' FnOk.useH ?k1 ?k2 ?k3 ?k4 ?k5 ?kK (hsz2) ?kd ?ku ?_; (case k1 => k_asm); (case k2 => k_asm); (case k3 => k_asm); (case k4 => k_asm); (case k5 => k_asm); (case kK => first | exact rfl | assumption); (case kd => ktr_room); (case ku => ktr_units))
          intro GG hGG _ R10 h10 tk10 F10 N10 hHi16
          first | (have hE8 := (And.right (And.left hHi16)); subst hE8; have tz2 := (And.left (And.left hHi16)); have keep10 := (And.right hHi16); try clear hHi16) | (obtain ⟨⟨tz2, rfl⟩, keep10⟩ := hHi16)
          refine hGG _ _ _ ?_
          clear hGG GG
          have keep8 := keep10
          k_steps
          refine (?_ : LEnd g' L' _ [(aV, W.listOf vsV.toArray nV)] nx2 _ _ _ _ _ _)
          refine' ⟨_, _, _, _, _, rfl, by assumption, by assumption, fun y hy hn => List.mem_cons_of_mem _ (keep8 _ (inP _ (keep12 y hy (ns_off N11 ma solid_list hy hn)))), ?q3, ⟨hdv fun y hy => List.mem_cons_of_mem _ (keep8 y hy), fun y hy => List.mem_cons_of_mem _ (keep8 _ (inP _ (keep12 y (hK11 y hy) (off_ne y hy)))), ?q6⟩, ?q4, ?q5⟩
          case q4 =>
            intro q hq
            rw [List.mem_singleton.mp hq]
            exact if_pos rfl
          case q3 =>
            intro y hy
            rw [List.mem_singleton.mp hy]
            exact List.mem_cons_of_mem _ (keep8 _ (inP _ (keep12 _ hl11 aVa)))
          case q6 =>
            rw [hst]
            first
              | exact ⟨_, _, _, _, rfl, List.mem_cons_self⟩
              | (unfold bestStep; dsimp only; rw [if_pos (by assumption)]; exact ⟨_, _, _, _, rfl, List.mem_cons_self⟩)
          case q5 =>
            intro z hz hn hc
            have hz1 : z ≠ Str.ofString "best" := hn _ List.mem_cons_self
            have hz3 : z ≠ Str.ofString "one" := fun e => by rw [e] at hc; exact absurd hc (by decide)
            simp only [if_neg hz, if_neg hz1, if_neg hz3, hc, Bool.false_eq_true, if_false]
            (try rfl)
        ·
          refine (?_ : LEnd g' L' _ [(aV, W.listOf vsV.toArray nV)] nx2 _ _ _ _ _ _)
          refine' ⟨_, _, _, _, _, rfl, by assumption, by assumption, fun y hy hn => (keep8 _ (inP _ (keep12 y hy (ns_off N11 ma solid_list hy hn)))), ?q3, ⟨hdv keep8, fun y hy => (keep8 _ (inP _ (keep12 y (hK11 y hy) (off_ne y hy)))), ?q6⟩, ?q4, ?q5⟩
          case q4 =>
            intro q hq
            rw [List.mem_singleton.mp hq]
            dsimp only
            repeat' (first | exact if_pos rfl | refine (if_neg (by decide)).trans ?_)
          case q3 =>
            intro y hy
            rw [List.mem_singleton.mp hy]
            exact (keep8 _ (inP _ (keep12 _ hl11 aVa)))
          case q6 =>
            rw [hst]
            unfold bestStep
            dsimp only
            rw [if_neg (by assumption)]
            exact ⟨_, _, _, _, rfl, mtq8⟩
          case q5 =>
            intro z hz hn hc
            have hz1 : z ≠ Str.ofString "best" := hn _ List.mem_cons_self
            have hz3 : z ≠ Str.ofString "one" := fun e => by rw [e] at hc; exact absurd hc (by decide)
            simp only [if_neg hz, if_neg hz1, if_neg hz3, hc, Bool.false_eq_true, if_false]
            (try rfl)
    case done =>
      intro c nx2 u2 h11 tk11 hl11 hHi17 F11 N11
      ((try show wpAny _ _ _ _ _ _); (try k_fold))
      first | (have hA11 := (And.left hHi17); have hK11 := (And.left (And.right hHi17)); have hF11 := (And.right (And.right hHi17)); try clear hHi17) | (refine hideE fun GG hGG => ?_; obtain ⟨hA11, hK11, hF11⟩ := hHi17; refine hGG ?_; clear hGG GG)
      replace F11 : Fr g' L' h11 _ := F11
      replace N11 : News g' L' h11 nx2 := N11
      clear NV FV
      dsimp only [kstB] at F11
      rw [iV.length, List.take_of_length_le (Nat.le_refl _)] at hA11 hF11
      have md11 := hK11 _ (toK _ hd6 dne)
      have in11 : ∀ q ∈ nx, q.1 ≠ aA → q ∈ nx2 := fun q hq e => hK11 q (toK q hq e)
      have hst : gTo Tb toll n most ks (i + 1) = gStep Tb toll n most (gTo Tb toll n most ks i) [kd, sl] := gTo_succ hki
      unfold gStep at hst
      rw [kval] at hst
      cases hb : bestOf Tb toll (gTo Tb toll n most ks i).1 [kd, sl] (kindVals kd n most) with
      | none =>
        rw [hb] at hF11 hst
        obtain rfl : c = .none := hF11
        have hnil : kindVals kd n most = [] := by
          refine Classical.byContradiction fun hne => ?_
          have hHi18 := bestOf_some (T := Tb) (toll := toll) (M := (gTo Tb toll n most ks i).1) (k := [kd, sl]) hne
          first | (have q := (And.left hHi18); have hq := (And.right hHi18); try clear hHi18) | (obtain ⟨q, hq⟩ := hHi18)
          rw [hb] at hq
          cases hq
        rw [hnil, List.map_nil, List.append_nil] at hA11
        k_steps
        refine (?_ : LEnd g' L' _ [(aK, W.listOf vsK.toArray nK)] nx _ _ _ _ _ _)
        refine ⟨h11, _, _, nx2, (), rfl, by assumption, by assumption, fun y hy hn => in11 y hy (solA y hy hn).1, ?_, ⟨o6, md11, ?_, ?_, fun y hy => in11 y (hR6 y hy) (Ra y hy)⟩, (fun _ h => nomatch h), ?_⟩
        · intro y hy
          rw [List.mem_singleton.mp hy]
          exact in11 _ (hR6 _ mK) (Ra _ mK)
        · rw [hst]
          exact hM6.mono fun y hy hc => in11 y hy (tupA y hy hc)
        · rw [hst]
          exact hA11
        · intro z hz _ hc
          have hc' : z ≠ Str.ofString "key" ∧ z ≠ Str.ofString "best" ∧ z ≠ Str.ofString "value" ∧ z ≠ Str.ofString "one" := by simpa using hc
          have hc2 : [Str.ofString "value", Str.ofString "one"].contains z = false := by simpa using ⟨hc'.2.2.1, hc'.2.2.2⟩
          (try dsimp only [kstB])
          simp only [if_neg hz, if_neg hc'.2.1, if_neg hc'.2.2.1, hc2, hc, Bool.false_eq_true, if_false]
          (try rfl)
      | some q =>
        rw [hb] at hF11 hst
        first | (have hE9 := (And.left (And.right (And.right (And.right (And.right hF11))))); subst hE9; have tq := (And.left hF11); have ta := (And.left (And.right hF11)); have tb := (And.left (And.right (And.right hF11))); have nq := (And.left (And.right (And.right (And.right hF11)))); have mtq := (And.right (And.right (And.right (And.right (And.right hF11))))); try clear hF11) | (refine hideE fun GG hGG => ?_; obtain ⟨tq, ta, tb, nq, rfl, mtq⟩ := hF11; refine hGG ?_; clear hGG GG)
        repeat' ((fail_if_success (with_reducible show wpAny _ _ (setItem _ _ _) _ _ _)); (first | (k_unfold; (try dsimp only)) | (k_end; wrow_close) | walk1 | (dsimp only; walk1) | (leave1; walk_say "STEP leave1"; try dsimp only)))
        have hHi20 := reform N11 md11
        first | (have R13 := (And.left hHi20); have keep13 := (And.left (And.right hHi20)); have sub13 := (And.left (And.right (And.right hHi20))); have ne13 := (And.left (And.right (And.right (And.right hHi20)))); have N13 := (And.right (And.right (And.right (And.right hHi20)))); try clear hHi20) | (refine hideE fun GG hGG => ?_; obtain ⟨R13, keep13, sub13, ne13, N13⟩ := hHi20; refine hGG ?_; clear hGG GG)
        have tupd : ∀ y ∈ nx2, y.2.cls = .type "tuple" → y.1 ≠ dD := fun y hy hc => ne_of_obj N11 (o := y.2) hy md11 (cls_ne (by rw [hc]; exact fun e => dict_ne_tuple to6.cls e.symm))
        have ki11 : KeysIn w nx2 xs := ki6.mono fun q hq hc => in11 q hq (tupA q hq hc)
        have ki13 : KeysIn w R13 xs := ki11.mono fun q hq hc => keep13 q hq (tupd q hq hc)
        have mkm := keep13 _ (in11 _ hkm6 (tupA _ hkm6 rfl)) (tupd _ (in11 _ hkm6 (tupA _ hkm6 rfl)) rfl)
        refine td_set (o := o6) (xs := xs) (k := [kd, sl]) ?hu (by assumption) N13 (UpdF.head fun p hp => ne13 p hp) to6 (ki13.mono fun p hp _ => List.mem_cons_of_mem _ hp) ⟨t, kd, sl, tkd, tsl, nt, rfl, rfl, List.mem_cons_of_mem _ mkm⟩ (line_small (by omega)) ?_
        case hu => first | k_units | ktr_units
        intro h5 o5 tk5 to5 F5 N5
        (try dsimp only at N5)
        (try dsimp only)
        rw [storedH_new (atKey_new (by rw [Paired.keysM pm6]; exact hnk))] at to5
        k_steps
        refine (?_ : LEnd g' L' _ [(aK, W.listOf vsK.toArray nK)] nx _ _ _ _ _ _)
        refine ⟨h5, _, _, _, (), rfl, F5, N5, fun y hy hn => List.mem_cons_of_mem _ (keep13 y (in11 y hy (solA y hy hn).1) (solA y hy hn).2), ?_, ⟨o5, List.mem_cons_self, ?_, ?_, fun y hy => List.mem_cons_of_mem _ (keep13 y (in11 y (hR6 y hy) (Ra y hy)) (Nat.ne_of_lt (hdl y hy)))⟩, (fun _ h => nomatch h), ?_⟩
        · intro y hy
          rw [List.mem_singleton.mp hy]
          exact List.mem_cons_of_mem _ (keep13 _ (in11 _ (hR6 _ mK) (Ra _ mK)) (Nat.ne_of_lt (hdl _ mK)))
        · rw [hst]
          refine ⟨_, to5, ?_, Paired.snoc pm6 ⟨rfl, tb, rfl⟩⟩
          intro y hy
          rcases List.mem_append.mp hy with hy | hy
          · exact (ki13 y hy).mono fun z hz _ => List.mem_cons_of_mem _ hz
          · rw [List.mem_singleton.mp hy]
            exact ⟨t, kd, sl, tkd, tsl, nt, rfl, rfl, List.mem_cons_of_mem _ mkm⟩
        · rw [hst]
          exact hA11.upd (fun y hy hn => List.mem_cons_of_mem _ (keep13 y hy hn)) (Ne.symm dne) tupd
        · intro z hz _ hc
          have hc' : z ≠ Str.ofString "key" ∧ z ≠ Str.ofString "best" ∧ z ≠ Str.ofString "value" ∧ z ≠ Str.ofString "one" := by simpa using hc
          have hc2 : [Str.ofString "value", Str.ofString "one"].contains z = false := by simpa using ⟨hc'.2.2.1, hc'.2.2.2⟩
          (try dsimp only [kstB])
          simp only [if_neg hz, if_neg hc'.2.1, if_neg hc'.2.2.1, hc2, hc, Bool.false_eq_true, if_false]
          (try rfl)
  · intro c nx u h6 tk6 hl6 hHi21 F6 N6
    ((try show wpAny _ _ _ _ _ _); (try k_fold))
    first | (have o6 := (And.left hHi21); have hd6 := (And.left (And.right hHi21)); have hM6 := (And.left (And.right (And.right hHi21))); have hA6 := (And.left (And.right (And.right (And.right hHi21)))); have hR6 := (And.right (And.right (And.right (And.right hHi21)))); try clear hHi21) | (refine hideE fun GG hGG => ?_; obtain ⟨o6, hd6, hM6, hA6, hR6⟩ := hHi21; refine hGG ?_; clear hGG GG)
    replace F6 : Fr g' L' h6 _ := F6
    replace N6 : News g' L' h6 nx := N6
    clear F9 N9
    dsimp only [kstB] at F6
    rw [show vsK.length = ks.length from pK.length] at hM6 hA6
    k_steps
    refine hret _ _ _ _ (by k_asm) (by k_asm) ⟨_, dD, aA, _, o6, rfl, List.mem_cons_self, loD, List.mem_cons_of_mem _ hd6, hM6.mono fun y hy _ => List.mem_cons_of_mem _ hy, hA6.mono fun y hy _ => List.mem_cons_of_mem _ hy, fun q hq => List.mem_cons_of_mem _ (hR6 q hq)⟩
end
end N240
end
-- KitN
section
open PySem PySem.W PyProof.Rows PySem.Spec PySem.Calls
namespace N240
section
variable {prog : Program} {w : World} {K : Type} [DecidableEq K] {knd : HeapKind prog w K} {A : Around} {E : Value → Shared → Prop} {s : Shared}
/-- two dicts that hold the same keys in the same order, with equal values -/
theorem td_samePairs {nm : String} {a b : Addr} {oa ob : Obj} {es es' : Array DictEntry} {ep ep' : Nat} {xa xb : List (K × Addr × Value)} {Q : Bool → Shared → Prop} (ha : (a == sysModules) = false) (hb : (b == sysModules) = false)
    (hoa : s.heap.get? a = some oa) (hda : oa.data = .dict es ep) (hea : es.toList = xa.map (entryOfKey knd)) (hisa : ∀ x ∈ xa, knd.is s.heap x.1 x.2.1)
    (hob : s.heap.get? b = some ob) (hdb : ob.data = .dict es' ep') (heb : es'.toList = xb.map (entryOfKey knd)) (hisb : ∀ x ∈ xb, knd.is s.heap x.1 x.2.1) (hnb : (xb.map (·.1)).Nodup)
    (hl : xa.length = xb.length) (hv : ∀ (i : Nat) k p, xa[i]? = some (k, p) → ∃ p', xb[i]? = some (k, p') ∧ SeqAt.EqAt A s p.2 p'.2 true) (hu : knd.room A) (h : Q true s) :
    wpAny (model prog w) A (Builtin.Dict.samePairs nm a b) Q E s := by
  have hla : es.size = xa.length := size_of_entries hea
  have hlb : es'.size = xb.length := size_of_entries heb
  unfold Builtin.Dict.samePairs Builtin.Dict.showsAll
  rw [if_neg (show ¬ (a == sysModules) = true by rw [ha]; exact Bool.false_ne_true), if_neg (show ¬ (b == sysModules) = true by rw [hb]; exact Bool.false_ne_true)]
  refine wpAny_bind (wpAny_pure (wpAny_bind (wpAny_pure ?_)))
  refine wpAny_bind (wpAny_dictEntries hoa hda ?_)
  dsimp only
  refine wpAny_bind (wpAny_dictEntries hob hdb ?_)
  have hsz : es.size = es'.size := by rw [hla, hlb, hl]
  rw [if_neg (by rw [hsz]; simp)]
  refine wpAny_bind (wpAny_dictEpoch hoa hda ?_)
  refine wpAny_bind ?_
  rw [Std.Legacy.Range.forIn_eq_forIn_range']
  simp only [Std.Legacy.Range.size, Nat.sub_zero, Nat.add_sub_cancel, Nat.div_one]
  refine wpAny_forIn_list _ (fun rest q s' => s' = s ∧ q = (none, ()) ∧ ∃ i, rest = List.range' i (es.size - i) ∧ i ≤ es.size) _ ?_ ?_ _ _ ⟨rfl, rfl, 0, by simp, Nat.zero_le _⟩
  · intro x rest q s' hHi1
    first | (have hE1 := (And.left hHi1); subst hE1; have hE2 := (And.left (And.right hHi1)); subst hE2; have i := (And.left (And.right (And.right hHi1))); have hr := (And.left (And.right (And.right (And.right hHi1)))); have hi := (And.right (And.right (And.right (And.right hHi1)))); try clear hHi1) | (refine hideE fun GG hGG => ?_; obtain ⟨rfl, rfl, i, hr, hi⟩ := hHi1; refine hGG ?_; clear hGG GG)
    have hlt : i < es.size := by
      rcases Nat.lt_or_ge i es.size with h | h
      · exact h
      · rw [Nat.sub_eq_zero_of_le h] at hr; simp at hr
    have hHi2 : x = i ∧ rest = List.range' (i + 1) (es.size - (i + 1)) := by
      have e : es.size - i = (es.size - (i + 1)) + 1 := (Nat.succ_pred_eq_of_pos (Nat.sub_pos_of_lt hlt)).symm
      rw [e, List.range'_succ] at hr
      injection hr with h1 h2
      exact ⟨h1, h2⟩
    first | (have hE3 := (And.left hHi2); subst hE3; have hrest := (And.right hHi2); try clear hHi2) | (obtain ⟨rfl, hrest⟩ := hHi2)
    refine wpAny_bind (wpAny_dictEntries hoa hda ?_)
    have hHi3 : ∃ y, xa[x]? = some y := ⟨xa[x]'(by rw [← hla]; exact hlt), List.getElem?_eq_getElem _⟩
    first | (have k := (And.left (And.left hHi3)); have ad := (And.left (And.right (And.left hHi3))); have v := (And.right (And.right (And.left hHi3))); have hkv := (And.right hHi3); try clear hHi3) | (refine hideE fun GG hGG => ?_; obtain ⟨⟨k, ad, v⟩, hkv⟩ := hHi3; refine hGG ?_; clear hGG GG)
    have hex : es[x]? = some ⟨knd.hash k, .ref ad, v⟩ := by rw [entry_at hea x, hkv]; rfl
    rw [hex]
    have hkey : knd.is s'.heap k ad := hisa _ (List.mem_of_getElem? hkv)
    have hHi4 := hv x k (ad, v) hkv
    first | (have p' := (And.left hHi4); have hp' := (And.left (And.right hHi4)); have heq := (And.right (And.right hHi4)); try clear hHi4) | (refine hideE fun GG hGG => ?_; obtain ⟨p', hp', heq⟩ := hHi4; refine hGG ?_; clear hGG GG)
    refine wpAny_bind (wpAny_holding (wpAny_bind (wpAny_dictFind_heap (knd := knd) hu hkey hob hdb heb hisb hnb (fun hno => absurd hp' (hno x p')) fun j p hj => ?_)))
    have ejx : j = x := idxH_unique hnb hj hp'
    subst ejx
    rw [hp'] at hj
    have epp : p' = p := by
      have := Option.some.inj hj
      exact (Prod.mk.inj this).2
    subst epp
    have hex' : es'[j]? = some ⟨knd.hash k, .ref p'.1, p'.2⟩ := by rw [entry_at heb j, hp']; rfl
    refine wpAny_bind (wpAny_dictEntries hob hdb ?_)
    rw [hex']
    refine wpAny_holding (heq prog w _ _ ?_)
    show wpAny _ _ (if (!true) = true then _ else _) _ _ _
    rw [if_neg (by decide)]
    refine wpAny_bind (wpAny_dictEpoch hoa hda ?_)
    rw [if_neg (by simp)]
    exact wpAny_pure ⟨rfl, rfl, j + 1, hrest, hlt⟩
  · intro q s' hHi5
    first | (have hE4 := (And.left hHi5); subst hE4; have hE5 := (And.left (And.right hHi5)); subst hE5; have i := (And.left (And.right (And.right hHi5))); have hr := (And.left (And.right (And.right (And.right hHi5)))); have hi := (And.right (And.right (And.right (And.right hHi5)))); try clear hHi5) | (refine hideE fun GG hGG => ?_; obtain ⟨rfl, rfl, i, hr, hi⟩ := hHi5; refine hGG ?_; clear hGG GG)
    refine wpAny_pure ?_
    exact h
end
section
variable {w : World} {A : Around} {s : Shared}
theorem KeyV.isAny {prog' : Program} {w' : World} {h₀ h : Heap} {L t : Addr} {R : Led} {k : List Int} (N : News h₀ L h R) (hk : KeyV w R (.ref t) k) : (tupleKind (PySem.intKind prog' w')).is h k t := by
  first | (have hE6 := (And.left (And.right (And.right (And.right (And.right (And.right (And.right (And.right hk)))))))); subst hE6; have t' := (And.left hk); have a := (And.left (And.right hk)); have b := (And.left (And.right (And.right hk))); have ta := (And.left (And.right (And.right (And.right hk)))); have tb := (And.left (And.right (And.right (And.right (And.right hk))))); have n := (And.left (And.right (And.right (And.right (And.right (And.right hk)))))); have e := (And.left (And.right (And.right (And.right (And.right (And.right (And.right hk))))))); have hm := (And.right (And.right (And.right (And.right (And.right (And.right (And.right (And.right hk)))))))); try clear hk) | (refine hideE fun GG hGG => ?_; obtain ⟨t', a, b, ta, tb, n, e, rfl, hm⟩ := hk; refine hGG ?_; clear hGG GG)
  injection e with e
  subst e
  exact ⟨_, _, n, (N _ hm).1, rfl, rfl, .cons (intKind_is _ _ _ _) (.cons (intKind_is _ _ _ _) .nil)⟩
/-- two conditionings that say the same -/
theorem td_pairs {prog' : Program} {w' : World} {E : Value → Shared → Prop} {nm : String} {h₀ : Heap} {L a b : Addr} {R : Led} {oa ob : Obj} {M : CMap} {Q : Bool → Shared → Prop} (N : News h₀ L s.heap R) (ha : (a == sysModules) = false) (hb : (b == sysModules) = false) (ma : (a, oa) ∈ R) (mb : (b, ob) ∈ R) (hA : MapO w R oa M) (hB : MapO w R ob M) (hu : A.units < cLine) (h : Q true s) :
    wpAny (model prog' w') A (Builtin.Dict.samePairs nm a b) Q E s := by
  first | (have xa := (And.left hA); have hU7 := (And.left (And.left (And.right hA))); have es := (And.left (And.right (And.left (And.right hA)))); have ep := (And.left (And.right (And.right (And.left (And.right hA))))); have hda := (And.left (And.right (And.right (And.right (And.left (And.right hA)))))); have hea := (And.left (And.right (And.right (And.right (And.right (And.left (And.right hA))))))); have hna := (And.right (And.right (And.right (And.right (And.right (And.left (And.right hA))))))); have ka := (And.left (And.right (And.right hA))); have pa := (And.right (And.right (And.right hA))); try clear hA) | (refine hideE fun GG hGG => ?_; obtain ⟨xa, ⟨_, es, ep, hda, hea, hna⟩, ka, pa⟩ := hA; refine hGG ?_; clear hGG GG)
  first | (have xb := (And.left hB); have hU8 := (And.left (And.left (And.right hB))); have es' := (And.left (And.right (And.left (And.right hB)))); have ep' := (And.left (And.right (And.right (And.left (And.right hB))))); have hdb := (And.left (And.right (And.right (And.right (And.left (And.right hB)))))); have heb := (And.left (And.right (And.right (And.right (And.right (And.left (And.right hB))))))); have hnb := (And.right (And.right (And.right (And.right (And.right (And.left (And.right hB))))))); have kb := (And.left (And.right (And.right hB))); have pb := (And.right (And.right (And.right hB))); try clear hB) | (refine hideE fun GG hGG => ?_; obtain ⟨xb, ⟨_, es', ep', hdb, heb, hnb⟩, kb, pb⟩ := hB; refine hGG ?_; clear hGG GG)
  refine td_samePairs (knd := tupleKind (PySem.intKind prog' w')) (xa := xa) (xb := xb) ha hb (N _ ma).1 hda hea (fun x hx => KeyV.isAny N (ka x hx)) (N _ mb).1 hdb heb (fun x hx => KeyV.isAny N (kb x hx)) hnb (pa.length.trans pb.length.symm) (fun i k p hi => ?_) hu h
  have hHi9 := Paired.at pa i _ hi
  first | (have q := (And.left hHi9); have hq := (And.left (And.right hHi9)); have e1 := (And.left (And.right (And.right hHi9))); have t := (And.left (And.right (And.right (And.right hHi9)))); have e2 := (And.right (And.right (And.right (And.right hHi9)))); try clear hHi9) | (refine hideE fun GG hGG => ?_; obtain ⟨q, hq, e1, t, e2⟩ := hHi9; refine hGG ?_; clear hGG GG)
  have hib : i < xb.length := by
    rw [pb.length]
    exact (List.getElem?_eq_some_iff.mp hq).1
  have hj : xb[i]? = some xb[i] := List.getElem?_eq_getElem hib
  have hHi10 := Paired.at pb i _ hj
  first | (have q2 := (And.left hHi10); have hq2 := (And.left (And.right hHi10)); have f1 := (And.left (And.right (And.right hHi10))); have t2 := (And.left (And.right (And.right (And.right hHi10)))); have f2 := (And.right (And.right (And.right (And.right hHi10)))); try clear hHi10) | (refine hideE fun GG hGG => ?_; obtain ⟨q2, hq2, f1, t2, f2⟩ := hHi10; refine hGG ?_; clear hGG GG)
  rw [hq] at hq2
  have eq2 : q = q2 := Option.some.inj hq2
  subst eq2
  refine ⟨xb[i].2, ?_, ?_⟩
  · rw [hj]
    have : xb[i].1 = k := f1.trans e1.symm
    rw [← this]
  · have e2' : p.2 = Value.int q.2 t := e2
    rw [e2', f2]
    have x := SeqAt.EqAt.int_int (A := A) (s := s) q.2 t q.2 t2
    simpa using x
theorem td_eq_rc {h₀ : Heap} {L a b : Addr} {R : Led} {oa ob : Obj} {M : CMap} (N : News h₀ L s.heap R) (ha : (a == sysModules) = false) (hb : (b == sysModules) = false) (ma : (a, oa) ∈ R) (mb : (b, ob) ∈ R) (hA : MapO w R oa M) (hB : MapO w R ob M) (hu : A.units < cLine) (hu1 : A.in1.units < cLine) :
    SeqAt.RcAt A s (.ref a) (.ref b) true := by
  intro prog' w' E Q h
  have ta : s.TypeIs (.ref a) "dict" := ⟨_, (N _ ma).1, hA.cls⟩
  have tb : s.TypeIs (.ref b) "dict" := ⟨_, (N _ mb).1, hB.cls⟩
  refine wpAny_richCompare_same_room (op := .Eq) ta tb PySem.F.slot_dict_eq (wpAny_call_entry PySem.F.slot_dict_eq ta PySem.F.entry_dict_eq ?_ (PySem.F.args_dict_eq_2 _ _)) hu
  show wpAny _ _ (Builtin.Dict.dictSlotArgs "__eq__" ⟨[.ref a, .ref b], []⟩ >>= _) _ _ s
  refine wpAny_bind ?_
  unfold Builtin.Dict.dictSlotArgs
  refine wpAny_bind (wpAny_notOrdered_dict ta ?_)
  show wpAny _ _ (pure (Value.ref a, Value.ref b)) _ _ s
  refine wpAny_pure ?_
  refine wpAny_bind (wpAny_isInstance (T := "dict") tb PySem.F.sub_dict_dict ?_)
  simp only [Bool.not_true, Bool.false_eq_true, if_false]
  refine wpAny_bind (wpAny_pure (wpAny_bind (wpAny_pure ?_)))
  refine wpAny_bind (td_pairs N ha hb ma mb hA hB hu1 ?_)
  refine wpAny_pure ⟨_, rfl, ?_, ?_⟩
  · exact fun x => nomatch x
  · simpa using h
theorem td_ne {pg' : Program} {w' : World} {E : Value → Shared → Prop} {Q : Value → Shared → Prop} {h₀ : Heap} {L a b : Addr} {R : Led} {oa ob : Obj} {M : CMap} (N : News h₀ L s.heap R) (ha : (a == sysModules) = false) (hb : (b == sysModules) = false) (ma : (a, oa) ∈ R) (mb : (b, ob) ∈ R) (hA : MapO w R oa M) (hB : MapO w R ob M) (hu : A.units < cLine) (hu1 : A.in1.units < cLine) (h : Q (.bool false) s) :
    wpAny (model pg' w') A (compareOp .NotEq (.ref a) (.ref b)) Q E s := by
  have ta : s.TypeIs (.ref a) "dict" := ⟨_, (N _ ma).1, hA.cls⟩
  have tb : s.TypeIs (.ref b) "dict" := ⟨_, (N _ mb).1, hB.cls⟩
  refine wpAny_richCompare_same_room (op := .NotEq) ta tb PySem.F.slot_dict_ne (wpAny_call_entry PySem.F.slot_dict_ne ta PySem.F.entry_dict_ne ?_ (PySem.F.args_dict_ne_2 _ _)) hu
  show wpAny _ _ (Builtin.Dict.dictSlotArgs "__ne__" ⟨[.ref a, .ref b], []⟩ >>= _) _ _ s
  refine wpAny_bind ?_
  unfold Builtin.Dict.dictSlotArgs
  refine wpAny_bind (wpAny_notOrdered_dict ta ?_)
  show wpAny _ _ (pure (Value.ref a, Value.ref b)) _ _ s
  refine wpAny_pure ?_
  refine wpAny_bind (wpAny_isInstance (T := "dict") tb PySem.F.sub_dict_dict ?_)
  simp only [Bool.not_true, Bool.false_eq_true, if_false]
  refine wpAny_bind (wpAny_pure (wpAny_bind (wpAny_pure ?_)))
  refine wpAny_bind (td_pairs N ha hb ma mb hA hB hu1 ?_)
  refine wpAny_pure ⟨_, rfl, ?_, ?_⟩
  · exact fun x => nomatch x
  · simpa using h
/-- two lists of conditionings that say the same -/
theorem tds_ne {pg' : Program} {w' : World} {E : Value → Shared → Prop} {Q : Value → Shared → Prop} {h₀ : Heap} {L a b b1 b2 : Addr} {R : Led} {Ms : List CMap} (N : News h₀ L s.heap R) (hA : DictsAt w b1 R a Ms) (hB : DictsAt w b2 R b Ms) (hu : A.units < cLine) (hu1 : A.in1.units < cLine) (hu2 : A.in1.in1.units < cLine) (h : Q (.bool false) s) :
    wpAny (model pg' w') A (compareOp .NotEq (.ref a) (.ref b)) Q E s := by
  first | (have va := (And.left hA); have na := (And.left (And.right hA)); have ma := (And.left (And.right (And.right hA))); have pa := (And.left (And.right (And.right (And.right hA)))); have hU9 := (And.right (And.right (And.right (And.right hA)))); try clear hA) | (refine hideE fun GG hGG => ?_; obtain ⟨va, na, ma, pa, _⟩ := hA; refine hGG ?_; clear hGG GG)
  first | (have vb := (And.left hB); have nb := (And.left (And.right hB)); have mb := (And.left (And.right (And.right hB))); have pb := (And.left (And.right (And.right (And.right hB)))); have hU10 := (And.right (And.right (And.right (And.right hB)))); try clear hB) | (refine hideE fun GG hGG => ?_; obtain ⟨vb, nb, mb, pb, _⟩ := hB; refine hGG ?_; clear hGG GG)
  have hl : va.length = vb.length := pa.length.trans pb.length.symm
  have x := SeqAt.RcNeAt.lists (A := A) (s := s) (l := a) (b := b) (items := va.toArray) (items2 := vb.toArray) (e := fun _ => true) (News.isList N ma) (News.isList N mb) (by simpa using hl) hu (fun j h1 h2 => by
    have h1' : j < va.length := by simpa using h1
    have h2' : j < vb.length := by simpa using h2
    have g1 : va[j]? = some va[j] := List.getElem?_eq_getElem h1'
    have g2 : vb[j]? = some vb[j] := List.getElem?_eq_getElem h2'
    have hHi13 := Paired.at pa j _ g1
    first | (have M1 := (And.left hHi13); have hM1 := (And.left (And.right hHi13)); have d1 := (And.left (And.right (And.right hHi13))); have o1 := (And.left (And.right (And.right (And.right hHi13)))); have e1 := (And.left (And.right (And.right (And.right (And.right hHi13))))); have hU11 := (And.left (And.right (And.right (And.right (And.right (And.right hHi13)))))); have l1 := (And.left (And.right (And.right (And.right (And.right (And.right (And.right hHi13))))))); have m1 := (And.left (And.right (And.right (And.right (And.right (And.right (And.right (And.right hHi13)))))))); have p1 := (And.right (And.right (And.right (And.right (And.right (And.right (And.right (And.right hHi13)))))))); try clear hHi13) | (refine hideE fun GG hGG => ?_; obtain ⟨M1, hM1, d1, o1, e1, _, l1, m1, p1⟩ := hHi13; refine hGG ?_; clear hGG GG)
    have hHi14 := Paired.at pb j _ g2
    first | (have M2 := (And.left hHi14); have hM2 := (And.left (And.right hHi14)); have d2 := (And.left (And.right (And.right hHi14))); have o2 := (And.left (And.right (And.right (And.right hHi14)))); have e2 := (And.left (And.right (And.right (And.right (And.right hHi14))))); have hU12 := (And.left (And.right (And.right (And.right (And.right (And.right hHi14)))))); have l2 := (And.left (And.right (And.right (And.right (And.right (And.right (And.right hHi14))))))); have m2 := (And.left (And.right (And.right (And.right (And.right (And.right (And.right (And.right hHi14)))))))); have p2 := (And.right (And.right (And.right (And.right (And.right (And.right (And.right (And.right hHi14)))))))); try clear hHi14) | (refine hideE fun GG hGG => ?_; obtain ⟨M2, hM2, d2, o2, e2, _, l2, m2, p2⟩ := hHi14; refine hGG ?_; clear hGG GG)
    rw [hM1] at hM2
    have eM : M1 = M2 := Option.some.inj hM2
    subst eM
    have f1 : va.toArray[j] = .ref d1 := by simpa using e1
    have f2 : vb.toArray[j] = .ref d2 := by simpa using e2
    rw [f1, f2]
    by_cases hd : d1 = d2
    · rw [hd]
      exact SeqAt.EqAt.same _
    · exact SeqAt.EqAt.of_refs hd (td_eq_rc N l1 l2 m1 m2 p1 p2 hu1 hu2))
  refine x pg' w' E Q ?_
  have eA : (List.range va.toArray.size).all (fun _ => true) = true := by simp
  rw [eA]
  exact h
end
end N240
end
-- KitT
section
open PySem PySem.W PyProof.Rows PySem.Spec PySem.Calls
namespace N240
theorem newEnv_cell {M : Model} {A : Around} {E : Value → Shared → Prop} {s : Shared} {scope : Scope} {globals : Addr} {cl : List (Str × Addr)} {qual : Str} {outer : Env} {x : Str} {Q : Env → Shared → Prop}
    (hcf : ∀ n, cellsFrom n scope.names cl = (x, n) :: cl) (hpc : ∀ h, pushCells h scope.names = h.push { cls := .type "cell", data := .cell none })
    (h : Q { scope, locals := s.heap.objs.size, globals, cells := (x, s.heap.objs.size + 1) :: cl, qual, func := none, code := outer.code, frame := outer.frame, builtins := outer.builtins }
      { s with heap := (s.heap.push { cls := .type "dict", data := .dict #[] }).push { cls := .type "cell", data := .cell none } }) :
    wpAny M A (newFunctionEnv scope globals cl [] qual none .none (some outer)) Q E s := by
  simp only [newFunctionEnv, Option.isSome_some, if_true]
  refine wpAny_bind (wpAny_alloc ?_)
  refine wpAny_bind (wpAny_layCells _ (fun name kind cells => by cases hkc : kind == NameKind.cell <;> simp [hkc]) _ _ _ _ ?_)
  rw [show ({ s with heap := s.heap.push { cls := .type "dict", data := .dict #[] } } : Shared).heap.objs.size = s.heap.objs.size + 1 from Heap.size_push .., hcf, hpc]
  refine wpAny_bind ?_
  rw [List.forIn_nil]
  exact wpAny_pure (wpAny_pure h)
section
variable {prog : Program} {w : World} {A : Around} {E : Value → Shared → Prop} {env : Env} {h₀ : Heap} {L : Addr} {m : Str → Option Value}
/-- the state between the turns -/
inductive CellSt (h₀ : Heap) (L C cc D I : Addr) (m : Str → Option Value) (St : Nat → Heap → Prop) (Iv : Nat → Led → Prop) (n : Nat) (s₂ : Shared) (k : Nat) (s' : Shared) : Prop
  | mk (i : Nat) (oc : Obj) (vv : Option Value) (nD : Nat) (nx : Led) (mC : Str → Option Value) (H : Heap) (tk : Nat) (e : s' = { s₂ with heap := H, toks := tk }) (st : St i H) (hn : H.Ns C mC) (F : Fr h₀ L H m) (N : News h₀ L H ((cc, oc) :: (D, W.listOf #[] nD) :: nx)) (hd : oc.data = .cell vv) (off : ∀ p ∈ nx, p.1 ≠ C ∧ p.1 ≠ cc ∧ p.1 ≠ D ∧ p.1 ≠ I) (J : Iv i nx) (hi : i ≤ n) (ek : k = n + 1 - i) : CellSt h₀ L C cc D I m St Iv n s₂ k s'
/-- what a turn of that comprehension leaves -/
inductive CellPost (h₀ : Heap) (L : Addr) (m : Str → Option Value) (s₂ : Shared) (C cc D I : Addr) (oC oc oD oI : Obj) (Iv : Nat → Led → Prop) (i : Nat) (ok : Bool) (s₃ : Shared) : Prop
  | mk (eo : ok = false) (H' : Heap) (tk' : Nat) (nx' : Led) (e : s₃ = { s₂ with heap := H', toks := tk' }) (F : Fr h₀ L H' m) (N : News h₀ L H' ((C, oC) :: (cc, oc) :: (D, oD) :: (I, oI) :: nx')) (off : ∀ p ∈ nx', p.1 ≠ C ∧ p.1 ≠ cc ∧ p.1 ≠ D ∧ p.1 ≠ I) (J : Iv i nx') : CellPost h₀ L m s₂ C cc D I oC oc oD oI Iv i ok s₃
/-- what a comprehension of that kind walks over, what a turn does, and what comes behind it -/
inductive CellUse (prog : Program) (w : World) (A : Around) (env : Env) (h₀ : Heap) (L : Addr) (m : Str → Option Value) (x : Str) (ifs : List Expr) (scope : Scope) (cl : List (Str × Addr)) (Q : Value → Shared → Prop) (it : Value) (s₂ : Shared) : Prop
  | mk (I : Addr) (n : Nat) (P : Nat → Value → Prop) (St : Nat → Heap → Prop) (nx : Led) (Iv : Nat → Led → Prop) (hit : it = .ref I) (Wk : Walks prog w A I [I] [I] n P St) (live : ∀ i h, St i h → ∃ o, h.get? I = some o) (hn : n ≤ sizeLine) (st : St 0 s₂.heap)
      (hI : I < s₂.heap.objs.size) (hI0 : h₀.get? I = none) (hIL : I ≠ L) (hnI : ∀ p ∈ nx, p.1 ≠ I) (F : Fr h₀ L s₂.heap m) (N : News h₀ L s₂.heap nx) (J : Iv 0 nx)
      (turn : ∀ i v nx C cc D oC oc oD oI H tk E', i < n → P i v → Iv i nx → (∀ p ∈ nx, p.1 ≠ C ∧ p.1 ≠ cc ∧ p.1 ≠ D ∧ p.1 ≠ I) → Fr h₀ L H m → News h₀ L H ((C, oC) :: (cc, oc) :: (D, oD) :: (I, oI) :: nx) → oc.data = .cell (some v) →
        testsWp prog w A ifs (compEnvC scope ((x, cc) :: cl) C env) (CellPost h₀ L m s₂ C cc D I oC oc oD oI Iv (i + 1)) E' { s₂ with heap := H, toks := tk })
      (done : ∀ D nD nx H tk, Iv n nx → (∀ p ∈ nx, p.1 ≠ D) → Fr h₀ L H m → News h₀ L H ((D, W.listOf #[] nD) :: nx) → Q (.ref D) { s₂ with heap := H, toks := tk }) : CellUse prog w A env h₀ L m x ifs scope cl Q it s₂
/-- a comprehension whose variable is a cell and whose tests let nothing pass -/
theorem comp_cellF {s : Shared} {elt iter : Expr} {x : Str} {px : Pos} {ifs : List Expr} {scope : Scope} {cl : List (Str × Addr)} {pos : Pos} {Q : Value → Shared → Prop}
    (hclos : closureFor scope env = pure cl) (hkind : scope.kind = .function) (hcf : ∀ n, cellsFrom n scope.names cl = (x, n) :: cl) (hpc : ∀ h, pushCells h scope.names = h.push { cls := .type "cell", data := .cell none })
    (hnames : ∀ y ∈ scope.names, y.2 = .local → scope.names.lookup y.1 = some .local) (hx : ∀ cl' C, (compEnvC scope cl' C env).kindOf x = some .cell)
    (h : wpAny (model prog w) A (eval iter env) (fun xv s₁ => wpAny (model prog w) A (pyIter xv) (fun it s₂ => CellUse prog w A env h₀ L m x ifs scope cl Q it s₂) E s₁) E s)
    (hs : ∀ x, foldedSetIterable iter env x = pure x := by intro _; rfl) :
    wpAny (model prog w) A (eval (.ListComp elt [⟨.Name x px, iter, ifs, 0⟩] scope pos) env) Q E s := by
  rw [eval_ListComp]
  refine wpAny_comprehension_free (use := none) rfl hs hclos hkind hnames (wpAny_mono h (fun xv s₁ h₁ => wpAny_mono h₁ (fun it s₂ h₂ => ?_) fun _ _ e => e) fun _ _ e => e)
  first | (have hE1 := (And.left (And.right (And.right (And.right (And.right (And.right (And.right h₂))))))); subst hE1; have I := (And.left h₂); have n := (And.left (And.right h₂)); have P := (And.left (And.right (And.right h₂))); have St := (And.left (And.right (And.right (And.right h₂)))); have nx := (And.left (And.right (And.right (And.right (And.right h₂))))); have Iv := (And.left (And.right (And.right (And.right (And.right (And.right h₂)))))); have Wk := (And.left (And.right (And.right (And.right (And.right (And.right (And.right (And.right h₂)))))))); have hlive := (And.left (And.right (And.right (And.right (And.right (And.right (And.right (And.right (And.right h₂))))))))); have hsz := (And.left (And.right (And.right (And.right (And.right (And.right (And.right (And.right (And.right (And.right h₂)))))))))); have hst := (And.left (And.right (And.right (And.right (And.right (And.right (And.right (And.right (And.right (And.right (And.right h₂))))))))))); have hIlt := (And.left (And.right (And.right (And.right (And.right (And.right (And.right (And.right (And.right (And.right (And.right (And.right h₂)))))))))))); have hI0 := (And.left (And.right (And.right (And.right (And.right (And.right (And.right (And.right (And.right (And.right (And.right (And.right (And.right h₂))))))))))))); have hIL := (And.left (And.right (And.right (And.right (And.right (And.right (And.right (And.right (And.right (And.right (And.right (And.right (And.right (And.right h₂)))))))))))))); have hnI := (And.left (And.right (And.right (And.right (And.right (And.right (And.right (And.right (And.right (And.right (And.right (And.right (And.right (And.right (And.right h₂))))))))))))))); have F := (And.left (And.right (And.right (And.right (And.right (And.right (And.right (And.right (And.right (And.right (And.right (And.right (And.right (And.right (And.right (And.right h₂)))))))))))))))); have N := (And.left (And.right (And.right (And.right (And.right (And.right (And.right (And.right (And.right (And.right (And.right (And.right (And.right (And.right (And.right (And.right (And.right h₂))))))))))))))))); have hJ := (And.left (And.right (And.right (And.right (And.right (And.right (And.right (And.right (And.right (And.right (And.right (And.right (And.right (And.right (And.right (And.right (And.right (And.right h₂)))))))))))))))))); have turn := (And.left (And.right (And.right (And.right (And.right (And.right (And.right (And.right (And.right (And.right (And.right (And.right (And.right (And.right (And.right (And.right (And.right (And.right (And.right h₂))))))))))))))))))); have done := (And.right (And.right (And.right (And.right (And.right (And.right (And.right (And.right (And.right (And.right (And.right (And.right (And.right (And.right (And.right (And.right (And.right (And.right (And.right h₂))))))))))))))))))); try clear h₂) | (refine hideE fun GG hGG => ?_; obtain ⟨I, n, P, St, nx, Iv, rfl, Wk, hlive, hsz, hst, hIlt, hI0, hIL, hnI, F, N, hJ, turn, done⟩ := h₂; refine hGG ?_; clear hGG GG)
  refine wpAny_newObj_type (newEnv_cell hcf hpc ?_)
  dsimp only
  generalize hH2 : s₂.heap.push { cls := .type "list", dict := none, data := .seq ([] : List Value).toArray } = H2
  have hC : H2.objs.size = s₂.heap.objs.size + 1 := by rw [← hH2, Heap.size_push]
  have hDC : s₂.heap.objs.size ≠ H2.objs.size := by rw [hC]; exact Nat.ne_of_lt (Nat.lt_succ_self _)
  have hns₁ : ((H2.push { cls := .type "dict", data := .dict #[] }).push { cls := .type "cell", data := .cell none }).Ns H2.objs.size (fun _ => none) := (Heap.Ns.new H2 (.type "dict")).push _
  have hcc : ((H2.push { cls := .type "dict", data := .dict #[] }).push { cls := .type "cell", data := .cell none }).get? (H2.objs.size + 1) = some { cls := .type "cell", data := .cell none } := by
    have q : ((H2.push { cls := .type "dict", data := .dict #[] }).push { cls := .type "cell", data := .cell none }).get? (H2.push { cls := .type "dict", data := .dict #[] }).objs.size = some { cls := .type "cell", data := .cell none } := Heap.get?_push_size _ rfl
    rw [Heap.size_push] at q
    exact q
  have old2 : ∀ b o, H2.get? b = some o → ((H2.push { cls := .type "dict", data := .dict #[] }).push { cls := .type "cell", data := .cell none }).get? b = some o := fun b o e => Heap.get?_push_of_some _ (Heap.get?_push_of_some _ e)
  generalize hh1 : (H2.push { cls := .type "dict", data := .dict #[] }).push { cls := .type "cell", data := .cell none } = h₁ at hns₁ hcc old2 ⊢
  have old : ∀ b o, s₂.heap.get? b = some o → h₁.get? b = some o := fun b o e => old2 _ _ (hH2 ▸ Heap.get?_push_of_some _ e)
  have hacc : h₁.get? s₂.heap.objs.size = some (W.listOf #[] 0) := old2 _ _ (hH2 ▸ Heap.get?_push_size _ rfl)
  have fresh : ∀ a, s₂.heap.objs.size ≤ a → h₀.get? a = none := fun a ha => by
    cases e : h₀.get? a with
    | none => rfl
    | some o' => exact absurd (Heap.lt_size (F.keep _ _ e)) (Nat.not_lt.mpr ha)
  have hLlt : L < s₂.heap.objs.size := by obtain ⟨_, _, _, e, _⟩ := F.ns; exact Heap.lt_size e
  generalize hCd : H2.objs.size = C at *
  generalize hDd : s₂.heap.objs.size = D at *
  have hLlt := ltN hLlt
  have hIlt := ltN hIlt
  have hC : @Eq Nat C (D + 1) := hC
  have hHi2 : ∃ cc : Addr, cc = C + 1 := ⟨_, rfl⟩
  first | (have cc := (And.left hHi2); have hccd := (And.right hHi2); try clear hHi2) | (obtain ⟨cc, hccd⟩ := hHi2)
  rw [← hccd] at hcc ⊢
  have hccd : @Eq Nat cc (C + 1) := hccd
  have hCL : C ≠ L := neN (ne_up1 hLlt hC)
  have hDL : D ≠ L := neN (Nat.ne_of_gt hLlt)
  have hcL : cc ≠ L := neN (ne_up1 (hC ▸ Nat.lt_succ_of_lt hLlt) hccd)
  have hCI : C ≠ I := neN (ne_up1 hIlt hC)
  have hDI : D ≠ I := neN (Nat.ne_of_gt hIlt)
  have hcI : cc ≠ I := neN (ne_up1 (hC ▸ Nat.lt_succ_of_lt hIlt) hccd)
  have hcC : cc ≠ C := neN (hccd ▸ Nat.succ_ne_self _)
  have hcD : cc ≠ D := neN (ne_up1 (hC ▸ Nat.lt_succ_self _) hccd)
  have hC0 : h₀.get? C = none := fresh C (hC ▸ Nat.le_succ _)
  have hD0 : h₀.get? D = none := fresh D (Nat.le_refl _)
  have hc0 : h₀.get? cc = none := fresh cc (hccd ▸ hC ▸ Nat.le_succ_of_le (Nat.le_succ _))
  have hnx : ∀ p ∈ nx, p.1 ≠ C ∧ p.1 ≠ cc ∧ p.1 ≠ D ∧ p.1 ≠ I := fun p hp => by
    have := ltN (Heap.lt_size (N p hp).1)
    rw [hDd] at this
    exact ⟨neN (Nat.ne_of_lt (hC ▸ Nat.lt_succ_of_lt this)), neN (Nat.ne_of_lt (hccd ▸ hC ▸ Nat.lt_succ_of_lt (Nat.lt_succ_of_lt this))), neN (Nat.ne_of_lt this), hnI p hp⟩
  have F₁ : Fr h₀ L h₁ m := F.keeps old
  have N₁ : News h₀ L h₁ ((cc, { cls := .type "cell", data := .cell none }) :: (D, W.listOf #[] 0) :: nx) := fun p hp => by
    rcases List.mem_cons.mp hp with rfl | hp
    · exact ⟨hcc, hcL, hc0⟩
    · rcases List.mem_cons.mp hp with rfl | hp
      · exact ⟨hacc, hDL, hD0⟩
      · exact ⟨old _ _ (N p hp).1, (N p hp).2⟩
  have hst₁ : St 0 h₁ := Wk.frame _ _ _ hst fun b _ o e => old b o e
  have loop : ∀ s₃ : Shared, s₃ = { s₂ with heap := h₁ } →
      codeAny (model prog w) A (.compLoop (.ListComp elt [⟨.Name x px, iter, ifs, 0⟩] scope pos) 0 (.ref I) (.ref D) (compEnvC scope ((x, cc) :: cl) C env)) (compPost (model prog w) A E none Q (.ref D) C) s₃ := by
    rintro s₃ rfl
    refine codeAny_compLoop_tests
      (CellSt h₀ L C cc D I m St Iv n s₂) ?_ (n + 1)
      ⟨0, _, none, 0, nx, _, h₁, _, rfl, hst₁, hns₁, F₁, N₁, rfl, hnx, hJ, Nat.zero_le _, rfl⟩
    intro k s' hHi3
    first | (have hE2 := (And.left (And.right (And.right (And.right (And.right (And.right (And.right (And.right (And.right hHi3))))))))); subst hE2; have hE3 := (And.right (And.right (And.right (And.right (And.right (And.right (And.right (And.right (And.right (And.right (And.right (And.right (And.right (And.right (And.right (And.right (And.right hHi3))))))))))))))))); subst hE3; have i := (And.left hHi3); have oc := (And.left (And.right hHi3)); have vv := (And.left (And.right (And.right hHi3))); have nD := (And.left (And.right (And.right (And.right hHi3)))); have nx := (And.left (And.right (And.right (And.right (And.right hHi3))))); have mC := (And.left (And.right (And.right (And.right (And.right (And.right hHi3)))))); have H := (And.left (And.right (And.right (And.right (And.right (And.right (And.right hHi3))))))); have tk := (And.left (And.right (And.right (And.right (And.right (And.right (And.right (And.right hHi3)))))))); have hst' := (And.left (And.right (And.right (And.right (And.right (And.right (And.right (And.right (And.right (And.right hHi3)))))))))); have hn' := (And.left (And.right (And.right (And.right (And.right (And.right (And.right (And.right (And.right (And.right (And.right hHi3))))))))))); have F' := (And.left (And.right (And.right (And.right (And.right (And.right (And.right (And.right (And.right (And.right (And.right (And.right hHi3)))))))))))); have N' := (And.left (And.right (And.right (And.right (And.right (And.right (And.right (And.right (And.right (And.right (And.right (And.right (And.right hHi3))))))))))))); have hoc := (And.left (And.right (And.right (And.right (And.right (And.right (And.right (And.right (And.right (And.right (And.right (And.right (And.right (And.right hHi3)))))))))))))); have hnx' := (And.left (And.right (And.right (And.right (And.right (And.right (And.right (And.right (And.right (And.right (And.right (And.right (And.right (And.right (And.right hHi3))))))))))))))); have hJ' := (And.left (And.right (And.right (And.right (And.right (And.right (And.right (And.right (And.right (And.right (And.right (And.right (And.right (And.right (And.right (And.right hHi3)))))))))))))))); have hi := (And.left (And.right (And.right (And.right (And.right (And.right (And.right (And.right (And.right (And.right (And.right (And.right (And.right (And.right (And.right (And.right (And.right hHi3))))))))))))))))); try clear hHi3) | (refine hideE fun GG hGG => ?_; obtain ⟨i, oc, vv, nD, nx, mC, H, tk, rfl, hst', hn', F', N', hoc, hnx', hJ', hi, rfl⟩ := hHi3; refine hGG ?_; clear hGG GG)
    by_cases hlt : i < n
    · refine Wk.item i _ _ _ hlt hst' fun v h₂ tk₂ hPv hst₂ hk₂ => ?_
      have hk₂' : ∀ b o, b ≠ I → H.get? b = some o → h₂.get? b = some o := fun b o hb e => hk₂ b o (fun hm => hb (List.mem_singleton.mp hm)) e
      have F₂ := fr_but F' hk₂' hIL hI0
      have N₂ := news_but N' hk₂' (fun p hp => by
        rcases List.mem_cons.mp hp with rfl | hp
        · exact hcI
        · rcases List.mem_cons.mp hp with rfl | hp
          · exact hDI
          · exact (hnx' p hp).2.2.2)
      have hn₂ := hn'.at' fun o e => hk₂' C o hCI e
      refine wpAny_assign_Name (wpAny_storeName_cell (c := cc) (v₀ := vv) (by simp [compEnvC, relabel, hkind]) (hx _ _) (by simp [compEnvC, List.lookup_cons]) ⟨oc, (N₂ _ List.mem_cons_self).1, hoc⟩ fun h₃ hv₃ hs₃ => ?_)
      first | (have oc' := (And.left hv₃); have hoc' := (And.left (And.right hv₃)); have hdc' := (And.right (And.right hv₃)); try clear hv₃) | (refine hideE fun GG hGG => ?_; obtain ⟨oc', hoc', hdc'⟩ := hv₃; refine hGG ?_; clear hGG GG)
      have hk₃ : ∀ b o, b ≠ cc → h₂.get? b = some o → h₃.get? b = some o := fun b o hb e => hs₃.extBut b o hb e
      have F₃ := fr_but F₂ hk₃ hcL hc0
      have N₃ : News h₀ L h₃ ((D, W.listOf #[] nD) :: nx) := news_but (fun p hp => N₂ p (List.mem_cons_of_mem _ hp)) hk₃ (fun p hp => by
        rcases List.mem_cons.mp hp with rfl | hp
        · exact Ne.symm hcD
        · exact (hnx' p hp).2.1)
      have hn₃ := hn₂.at' fun o e => hk₃ C o (Ne.symm hcC) e
      have hst₃ : St (i + 1) h₃ := Wk.frame _ _ _ hst₂ fun b hb o e => hk₃ b o (by
        rw [List.mem_singleton.mp hb]
        exact Ne.symm hcI) e
      have hHi5 := hlive _ _ hst₃
      first | (have oI := (And.left hHi5); have hoI := (And.right hHi5); try clear hHi5) | (obtain ⟨oI, hoI⟩ := hHi5)
      have hHi6 : ∃ o, h₃.get? C = some o := let ⟨o, _, _, e, _⟩ := hn₃; ⟨o, e⟩
      first | (have oC := (And.left hHi6); have hoC := (And.right hHi6); try clear hHi6) | (obtain ⟨oC, hoC⟩ := hHi6)
      refine wpAny_mono (turn i v nx C cc D oC oc' (W.listOf #[] nD) oI h₃ _ _ hlt hPv hJ' hnx' F₃ (fun p hp => ?_) hdc') (fun ok s₃ hok => ?_) fun _ _ e => e
      · rcases List.mem_cons.mp hp with rfl | hp
        · exact ⟨hoC, hCL, hC0⟩
        · rcases List.mem_cons.mp hp with rfl | hp
          · exact ⟨hoc', hcL, hc0⟩
          · rcases List.mem_cons.mp hp with rfl | hp
            · exact N₃ _ (List.mem_cons.mpr (.inl rfl))
            · rcases List.mem_cons.mp hp with rfl | hp
              · exact ⟨hoI, hIL, hI0⟩
              · exact N₃ _ (List.mem_cons.mpr (.inr hp))
      · first | (have hE4 := (And.left hok); subst hE4; have hE5 := (And.left (And.right (And.right (And.right (And.right hok))))); subst hE5; have H' := (And.left (And.right hok)); have tk' := (And.left (And.right (And.right hok))); have nx' := (And.left (And.right (And.right (And.right hok)))); have F₄ := (And.left (And.right (And.right (And.right (And.right (And.right hok)))))); have N₄ := (And.left (And.right (And.right (And.right (And.right (And.right (And.right hok))))))); have hnx₄ := (And.left (And.right (And.right (And.right (And.right (And.right (And.right (And.right hok)))))))); have hJ₄ := (And.right (And.right (And.right (And.right (And.right (And.right (And.right (And.right hok)))))))); try clear hok) | (refine hideE fun GG hGG => ?_; obtain ⟨rfl, H', tk', nx', rfl, F₄, N₄, hnx₄, hJ₄⟩ := hok; refine hGG ?_; clear hGG GG)
        rw [if_neg (by decide)]
        have hst₄ : St (i + 1) H' := Wk.frame _ _ _ hst₃ fun b hb o e => by
          rw [List.mem_singleton.mp hb] at e ⊢
          rw [hoI] at e
          rw [← Option.some.inj e]
          exact (N₄ (I, oI) (by simp)).1
        have hn₄ : H'.Ns C _ := hn₃.at' (h' := H') fun o e => by
          have e' : h₃.get? C = some o := e
          rw [hoC] at e'
          rw [← Option.some.inj e']
          exact (N₄ (C, oC) (by simp)).1
        refine ⟨n + 1 - (i + 1), turn_lt (by assumption), i + 1, oc', _, nD, nx', _, H', tk', rfl, hst₄, hn₄, F₄, fun p hp => N₄ p ?_, hdc', hnx₄, hJ₄, hlt, rfl⟩
        rcases List.mem_cons.mp hp with rfl | hp
        · simp
        · rcases List.mem_cons.mp hp with rfl | hp
          · simp
          · simp [hp]
    · have hin : i = n := turn_end (by assumption) (by assumption)
      subst hin
      refine Wk.done _ _ _ hst' fun h₂ tk₂ hk₂ => ?_
      have hk₂' : ∀ b o, b ≠ I → H.get? b = some o → h₂.get? b = some o := fun b o hb e => hk₂ b o (fun hm => hb (List.mem_singleton.mp hm)) e
      refine ⟨_, hn'.at' fun o e => hk₂' C o hCI e, fun h₃ hs₃ => ?_⟩
      have hk₃ : ∀ b o, b ≠ C → h₂.get? b = some o → h₃.get? b = some o := fun b o hb e => hs₃.extBut b o hb e
      have N' : News h₀ L H ((D, W.listOf #[] nD) :: nx) := fun p hp => N' p (List.mem_cons_of_mem _ hp)
      refine done D nD nx h₃ tk₂ hJ' (fun p hp => (hnx' p hp).2.2.1) (fr_but (fr_but F' hk₂' hIL hI0) hk₃ hCL hC0) (news_but (news_but N' hk₂' ?_) hk₃ ?_)
      · intro p hp
        rcases List.mem_cons.mp hp with rfl | hp
        · exact hDI
        · exact (hnx' p hp).2.2.2
      · intro p hp
        rcases List.mem_cons.mp hp with rfl | hp
        · exact hDC
        · exact (hnx' p hp).1
  exact codeAny_compStart_list (loop _ rfl) (Wk.self 0 _ _ _ hst₁ (loop _ rfl))
end
end N240
end
-- Ident
section
open PySem PySem.W PyProof.Rows PySem.Spec PySem.Calls
namespace N240
variable {w : World} {p : Program} {loose : List Str} {mean : ExcName → Option Value} {mg mb : Str → Option Value}
/-- the scope of a def of the given part -/
def scopeAt (K : Frag) (a : Addr) : Scope := match K.lookup a with
  | some ⟨_, _, .func fd, _⟩ => fd.scope
  | _ => default
theorem mem8 {q a b c d e f g h : Addr × Obj} {R : Led} (hq : q ∈ R) : q ∈ a :: b :: c :: d :: e :: f :: g :: h :: R := by simp [hq]
section
set_option maxRecDepth 100000 in
set_option maxHeartbeats 400000 in
theorem ident_ok {k9 : ScopeKind} {n9 : List (Str × NameKind)} {g9 c9 : Bool} {m9 : List (Str × Const)} {elt : Expr} {gens : List Comprehension} {scp : Scope} {ops : List CmpOp} {cmps : List Expr} {pos pos2 pos3 : Pos} {b1 b2 : List Stmt}
    (hsc : scopeAt (N240.hd.heap_39 w.params) 156 = ⟨k9, n9, g9, c9, m9⟩) (hst : (bodyAt (N240.hd.heap_39 w.params) 156)[9]? = some (.If (.Compare (.ListComp elt gens scp pos) ops cmps pos2) b1 b2 pos3))
    {dp un : Nat} {gd : Option (List Code)} {cn : Str} {a : Addr} {ccd : Value} {outer : List Env} {h₀ : Heap} {L : Addr} {m : Str → Option Value} {s : Shared} {Q E : Value → Shared → Prop} {R : Led} {row bo : Addr} {o3 : Obj} {Ms : List CMap}
    (F : Fr h₀ L s.heap m) (X : (N240.hd.heap_39 w.params).In h₀) (N : News h₀ L s.heap R) (T : Top p loose mean mg mb h₀) (m3 : (L + 1 + 1 + 1, o3) ∈ R) (e3 : o3.data = .cell (some (.ref row))) (hR : DictsAt w bo R row Ms) (hlen : Ms.length ≤ 900)
    (hd : dp + 10 < recursionLimit) (hu : un + 80 < cLine) (hret : ∀ l n h' tk', Fr h₀ L h' m → News h₀ L h' ((l, W.listOf #[] n) :: R) → Q (.ref l) { s with heap := h', toks := tk' }) :
    wpAny (model pg w) { handled := none, depth := dp, frames := some (envOfC cn ⟨k9, n9, g9, c9, m9⟩ L a ccd :: outer), guards := gd, units := un } (eval (.ListComp elt gens scp pos) (envOfC cn ⟨k9, n9, g9, c9, m9⟩ L a ccd)) Q E s := by
  with_unfolding_all cases hsc
  with_unfolding_all cases hst
  have hHi1 := id hR
  first | (have vr := (And.left hHi1); have nr := (And.left (And.right hHi1)); have mr := (And.left (And.right (And.right hHi1))); have pr := (And.left (And.right (And.right (And.right hHi1)))); have dr := (And.right (And.right (And.right (And.right hHi1)))); try clear hHi1) | (refine hideE fun GG hGG => ?_; obtain ⟨vr, nr, mr, pr, dr⟩ := hHi1; refine hGG ?_; clear hGG GG)
  w_top off
  have hFill : PySem.Challenge.rw_nz0240_01 = PySem.Challenge.rw_nz0240_01 ∧ N240.hd.heap_39 = N240.hd.heap_39 → True := fun _ => trivial
  (first | (revert hFill; k_fill; intro hFill; clear hFill))
  k_dflt (refine' comp_cellF (x := Str.ofString "at") (h₀ := h₀) (L := L) (m := m) ?hclos ?hkind ?hcf ?hpc ?hnames ?hx ?_ ?hs; (case hclos => with_unfolding_all rfl); (case hkind => rfl); (case hcf => exact fun _ => rfl); (case hpc => exact fun _ => rfl); (case hnames => decide); (case hx => exact fun _ _ => rfl); (case hs => intro _; with_unfolding_all rfl))
  have hvl : vr.length = Ms.length := pr.length
  repeat' ((fail_if_success (with_reducible show wpAny _ _ (call (Value.builtin "len") _) _ _ _)); (first | (k_unfold; (try dsimp only)) | (k_end; wrow_close) | walk1 | (dsimp only; walk1) | (leave1; walk_say "STEP leave1"; try dsimp only)))
  k_dflt (refine' kst_len N mr rfl ?hfit ?_; (case hfit => omega))
  repeat' ((fail_if_success (with_reducible show wpAny _ _ (pyIter _) _ _ _)); (first | (k_unfold; (try dsimp only)) | (k_end; wrow_close) | walk1 | (dsimp only; walk1) | (leave1; walk_say "STEP leave1"; try dsimp only)))
  rename_i h10 tk10 tt1 tt2 tt3 r10 F10 N10 k10
  k_dflt (refine' iter_rangeA ?ha F10 N10 r10 ?hb ?hb0 ?hb1 ?hc ?_; (case ha => rfl); (case hb => omega); (case hb0 => omega); (case hb1 => omega); (case hc => omega))
  intro I1 H1 F1 N1 hI1 hI2 hI3 hI4 W1 st1
  refine ⟨I1, _, _, _, _, fun _ nx => nx = R, rfl, W1, rangeiter_liveA, ?_, st1, hI1, hI2, hI3, fun p hp => Nat.ne_of_lt (hI4 p hp), F1, N1, rfl, ?_, ?_⟩
  · exact line_of_small (by omega)
  · rintro i v nx C cc D oC oc oD oI H tk E' hin hP rfl hoff F3 N3 hoc
    first | (have hE1 := (And.right hP); subst hE1; have tv := (And.left hP); try clear hP) | (obtain ⟨tv, rfl⟩ := hP)
    refine wpAny_tests_one ?_
    ((try show wpAny _ _ _ _ _ _); (try k_fold))
    repeat' ((fail_if_success (with_reducible show wpAny _ _ (eval (Expr.ListComp _ _ _ _) _) _ _ _)); (first | (k_unfold; (try dsimp only)) | (k_end; wrow_close) | walk1 | (dsimp only; walk1) | (leave1; walk_say "STEP leave1"; try dsimp only)))
    k_dflt (refine' comp_if (x := Str.ofString "other") (h₀ := h₀) (L := L) F3 ?hclos ?hcell ?hkind ?hnames ?hx ?_ ?hs; (case hclos => with_unfolding_all rfl); (case hcell => decide); (case hkind => rfl); (case hnames => decide); (case hx => rfl); (case hs => intro _; with_unfolding_all rfl))
    repeat' ((fail_if_success (with_reducible show wpAny _ _ (subscriptTail _ _ _ _) _ _ _)); (first | (k_unfold; (try dsimp only)) | (k_end; wrow_close) | walk1 | (dsimp only; walk1) | (leave1; walk_say "STEP leave1"; try dsimp only)))
    have hiv : i < vr.length := by omega
    have epick : kms_pick (vr.toArray).toList none (some (0 + (i : Int) * 1)) = vr.take i := by
      unfold kms_pick kms_lo kms_hi
      have e1 : ¬ (0 + (i : Int) * 1 < 0) := by rw [zero_mul1]; exact Int.not_lt.mpr (Int.natCast_nonneg i)
      have e2 : (0 + (i : Int) * 1).toNat = i := by rw [zero_mul1]; rfl
      simp only [if_neg e1, e2, List.drop_zero, Nat.sub_zero]
      rw [Nat.min_eq_left (by simpa using Nat.le_of_lt hiv)]
    have mr3 : (row, W.listOf vr.toArray nr) ∈ (C, oC) :: (cc, oc) :: (D, oD) :: (I1, oI) :: nx := by simp [mr]
    k_dflt (refine' kms_slice_lit (lo := none) (hi := some (0 + (i : Int) * 1)) (zs := vr.take i) F3 N3 (News.isList N3 mr3) ?pl ?pu epick ?_ ?hs2 ?ht2 ?hz2; (case pl => exact .none); (case pu => exact .int _ _); (case hs2 => with_unfolding_all rfl); (case ht2 => intro _; with_unfolding_all rfl); (case hz2 => exact line_of_small (by simp; omega)))
    intro D4 h4 F4 N4 l4
    repeat' ((fail_if_success (with_reducible show wpAny _ _ (pyIter _) _ _ _)); (first | (k_unfold; (try dsimp only)) | (k_end; wrow_close) | walk1 | (dsimp only; walk1) | (leave1; walk_say "STEP leave1"; try dsimp only)))
    k_dflt (refine' iter_listA (n := 0) (vs := vr.take i) ?hh F4 N4 ?hm ?_; (case hh => rfl); (case hm => exact List.mem_cons_self))
    intro I5 H5 St5 F5 N5 hI5 hJ5 hK5 hL5 W5 live5 st5
    refine ⟨I5, _, _, _, _, [(D4, W.listOf (vr.take i).toArray 0)], fun _ ys nx2 => ys = [] ∧ nx2 = (D4, W.listOf (vr.take i).toArray 0) :: (C, oC) :: (cc, oc) :: (D, oD) :: (I1, oI) :: nx, rfl, (fun i ys nx hI p hp => by rw [hI.2, List.mem_singleton.mp hp]; exact List.mem_cons_self), W5, live5, ?_, st5, hI5, hJ5, hK5, fun p hp => Nat.ne_of_lt (hL5 p hp), F5, N5, ⟨rfl, rfl⟩, ?_, ?_⟩
    · exact line_of_small (by rw [List.length_take]; exact Nat.lt_of_le_of_lt (Nat.min_le_left _ _) (Nat.lt_of_lt_of_le hiv (by rw [hvl]; exact Nat.le_trans hlen (by decide))))
    · intro j v ys nx2 C6 D6 oC6 oD6 oI6 H6 tk6 mC6 E6 hj hv hys hHi3 hoff6 hCD6 hCI6 hDI6 F6 N6 hC6 hx6
      first | (have hE2 := (And.left hHi3); subst hE2; have hE3 := (And.right hHi3); subst hE3; try clear hHi3) | (obtain ⟨rfl, rfl⟩ := hHi3)
      refine wpAny_tests_one ?_
      ((try show wpAny _ _ _ _ _ _); (try k_fold))
      repeat' ((fail_if_success (with_reducible show wpAny _ _ (subscriptTail _ _ _ _) _ _ _)); (first | (k_unfold; (try dsimp only)) | (k_end; wrow_close) | walk1 | (dsimp only; walk1) | (leave1; walk_say "STEP leave1"; try dsimp only)))
      have hi6 : vr[i]? = some vr[i] := List.getElem?_eq_getElem hiv
      have hj6 : j < i := by rw [List.length_take] at hj; exact Nat.lt_of_lt_of_le hj (Nat.min_le_left _ _)
      have hv6 : vr[j]? = some v := by rw [List.getElem?_take, if_pos hj6] at hv; exact hv
      have hHi4 := Paired.at pr i _ hi6
      first | (have M1 := (And.left hHi4); have hM1 := (And.left (And.right hHi4)); have d1 := (And.left (And.right (And.right hHi4))); have p1 := (And.left (And.right (And.right (And.right hHi4)))); have f1 := (And.left (And.right (And.right (And.right (And.right hHi4))))); have hU4 := (And.left (And.right (And.right (And.right (And.right (And.right hHi4)))))); have l1 := (And.left (And.right (And.right (And.right (And.right (And.right (And.right hHi4))))))); have q1 := (And.left (And.right (And.right (And.right (And.right (And.right (And.right (And.right hHi4)))))))); have r1 := (And.right (And.right (And.right (And.right (And.right (And.right (And.right (And.right hHi4)))))))); try clear hHi4) | (refine hideE fun GG hGG => ?_; obtain ⟨M1, hM1, d1, p1, f1, _, l1, q1, r1⟩ := hHi4; refine hGG ?_; clear hGG GG)
      have hHi5 := Paired.at pr j _ hv6
      first | (have M2 := (And.left hHi5); have hM2 := (And.left (And.right hHi5)); have d2 := (And.left (And.right (And.right hHi5))); have p2 := (And.left (And.right (And.right (And.right hHi5)))); have f2 := (And.left (And.right (And.right (And.right (And.right hHi5))))); have hU5 := (And.left (And.right (And.right (And.right (And.right (And.right hHi5)))))); have l2 := (And.left (And.right (And.right (And.right (And.right (And.right (And.right hHi5))))))); have q2 := (And.left (And.right (And.right (And.right (And.right (And.right (And.right (And.right hHi5)))))))); have r2 := (And.right (And.right (And.right (And.right (And.right (And.right (And.right (And.right hHi5)))))))); try clear hHi5) | (refine hideE fun GG hGG => ?_; obtain ⟨M2, hM2, d2, p2, f2, _, l2, q2, r2⟩ := hHi5; refine hGG ?_; clear hGG GG)
      k_dflt (refine' item_litK (vs := vr) (v := vr[i]) (News.isList N6 ?m6) ?g0 ?g1 ?g2 ?_ ?g3; (case g3 => with_unfolding_all rfl); (case m6 => exact mem8 mr); (case g0 => rw [zero_mul1]; exact Int.natCast_nonneg i); (case g1 => first | (rw [zero_mul1]; exact Int.ofNat_lt.mpr (by simpa using hiv)) | omega); (case g2 => rw [show (0 + (i : Int) * 1).toNat = i from (congrArg Int.toNat (zero_mul1 i))]; exact hi6))
      have dne : d2 ≠ d1 := by
        intro e
        have e2 : v = vr[i] := by rw [f2, f1, e]
        have e3 : vr[i]? = vr[j]? := by rw [hv6, hi6, e2]
        have := (List.getElem?_inj hiv dr).mp e3
        omega
      rw [f1]
      obtain rfl := f2
      repeat' ((fail_if_success (with_reducible show wpAny _ _ (compareOp _ _ _ _) _ _ _)); (first | (k_unfold; (try dsimp only)) | (k_end; wrow_close) | walk1 | (dsimp only; walk1) | (leave1; walk_say "STEP leave1"; try dsimp only)))
      (try (k_unfold; (try dsimp only)))
      refine wpAny_is_ref_other dne (N6 (d2, p2) (mem8 q2)).1 (N6 (d1, p1) (mem8 q1)).1 (dict_ne_tuple r2.cls) ?_
      k_steps
      show CompPost h₀ L m _ _ _ _ _ _ _ _ _ _ _
      exact ⟨H6, _, _, rfl, F6, N6, hoff6, rfl, rfl⟩
    · intro D7 ys7 n7 nx7 H7 tk7 hlen7 hHi6 hD7 F7 N7
      ((try show wpAny _ _ _ _ _ _); (try k_fold))
      first | (have hE6 := (And.left hHi6); subst hE6; have hE7 := (And.right hHi6); subst hE7; try clear hHi6) | (obtain ⟨rfl, rfl⟩ := hHi6)
      (try dsimp only)
      ((try show wpAny _ _ _ _ _ _); (try k_fold))
      repeat' ((fail_if_success (with_reducible show wpAny _ _ (compareOp _ _ _ _) _ _ _)); (first | (k_unfold; (try dsimp only)) | (k_end; wrow_close) | walk1 | (dsimp only; walk1) | (leave1; walk_say "STEP leave1"; try dsimp only)))
      rename_i N8 _
      exact .mk rfl _ _ _ rfl (by assumption) (fun q hq => N8 q (List.mem_cons_of_mem _ (List.mem_cons_of_mem _ (List.mem_cons_of_mem _ hq)))) hoff rfl
  · intro D nD nx H tk hnx hD F3 N3
    subst hnx
    exact hret D nD H tk F3 N3
end
end N240
end
-- KitU
section
open PySem PySem.W PyProof.Rows PySem.Spec PySem.Calls
namespace N240
theorem tobj_nil {w : World} : TObj w ({ cls := .type "dict", data := .dict #[] } : Obj) [] := ⟨⟨rfl, rfl, rfl⟩, _, _, rfl, rfl, List.nodup_nil⟩
section
variable {prog : Program} {w : World} {A : Around} {E : Value → Shared → Prop} {s : Shared} {h₀ : Heap} {L : Addr} {m : Str → Option Value} {R : Led}
/-- the iterator over a dict of the ledger -/
theorem iter_dictA {d : Addr} {es : List DictEntry} {ep : Nat} {Q : Value → Shared → Prop} (hh : A.handled = none) (F : Fr h₀ L s.heap m) (N : News h₀ L s.heap R) (hd : (d == sysModules) = false) (hm : (d, W.dictOf es ep) ∈ R)
    (h : ∀ I H St, Fr h₀ L H m → News h₀ L H R → I < H.objs.size → h₀.get? I = none → I ≠ L → (∀ p ∈ R, p.1 < I) → Walks prog w A I (I :: [(d, W.dictOf es ep)].map Prod.fst) [I] es.length (fun i v => ∃ e, es[i]? = some e ∧ v = e.key) St → (∀ i h, St i h → ∃ o, h.get? I = some o) → St 0 H → Q (.ref I) { s with heap := H }) :
    wpAny (model prog w) A (pyIter (.ref d)) Q E s := by
  have hl := (N _ hm).1
  have hne : d ≠ s.heap.objs.size := Nat.ne_of_lt (Heap.lt_size hl)
  refine iter_raw (es := es.toArray) (ep := ep) hd hl fun h' e => ?_
  subst e
  have hw := walks_raw (prog := prog) (w := w) (A := A) hh s.heap.objs.size d hne es.toArray ep
  simp only [List.size_toArray, List.getElem?_toArray] at hw
  refine h s.heap.objs.size _ _ (F.push _) (fun p hp => ⟨Heap.get?_push_of_some _ (N p hp).1, (N p hp).2⟩) (by rw [Heap.size_push]; exact Nat.lt_succ_self _) (next_is_new F) (fun e => absurd F.ns.lt (e ▸ Nat.lt_irrefl _)) (fun p hp => Heap.lt_size (N p hp).1) hw ?_ ⟨⟨_, Heap.get?_push_size _ rfl, rfl, by simp⟩, Heap.get?_push_of_some _ hl⟩
  intro i h st
  have hHi1 := keyiter_not_solid st.1
  first | (have o := (And.left hHi1); have ho := (And.left (And.right hHi1)); have hU1 := (And.right (And.right hHi1)); try clear hHi1) | (refine hideE fun GG hGG => ?_; obtain ⟨o, ho, _⟩ := hHi1; refine hGG ?_; clear hGG GG)
  exact ⟨o, ho⟩
end
section
variable {w : World} {A : Around} {E : Value → Shared → Prop} {env : Env} {h₀ : Heap} {L : Addr} {m : Str → Option Value}
/-- what a turn of a dict comprehension leaves -/
inductive DPost (w : World) (h₀ : Heap) (L : Addr) (m : Str → Option Value) (s₂ : Shared) (C D I : Addr) (oC oD oI : Obj) (Iv : Nat → List (List Int × Addr × Value) → Led → Prop) (i : Nat) (ys : List (List Int × Addr × Value)) (s₄ : Shared) : Prop
  | mk (H' : Heap) (tk' : Nat) (nx' : Led) (e : s₄ = { s₂ with heap := H', toks := tk' }) (F : Fr h₀ L H' m) (N : News h₀ L H' ((C, oC) :: (D, oD) :: (I, oI) :: nx')) (off : ∀ p ∈ nx', p.1 ≠ C ∧ p.1 ≠ D ∧ p.1 ≠ I) (J : Iv i ys nx') : DPost w h₀ L m s₂ C D I oC oD oI Iv i ys s₄
end
end N240
end
-- KitW
section
open PySem PySem.W PyProof.Rows PySem.Spec PySem.Calls
namespace N240
section
variable {w : World} {A : Around} {E : Value → Shared → Prop} {env : Env} {h₀ : Heap} {L : Addr} {m : Str → Option Value}
/-- the state between the turns -/
inductive DictSt (w : World) (h₀ : Heap) (L C D I : Addr) (m : Str → Option Value) (St : Nat → Heap → Prop) (Iv : Nat → List (List Int × Addr × Value) → Led → Prop) (n : Nat) (s₂ : Shared) (k : Nat) (s' : Shared) : Prop
  | mk (i : Nat) (ys : List (List Int × Addr × Value)) (oDd : Obj) (nx : Led) (mC : Str → Option Value) (H : Heap) (tk : Nat) (e : s' = { s₂ with heap := H, toks := tk }) (st : St i H) (hn : H.Ns C mC) (F : Fr h₀ L H m) (N : News h₀ L H ((D, oDd) :: nx)) (off : ∀ p ∈ nx, p.1 ≠ C ∧ p.1 ≠ D ∧ p.1 ≠ I) (hT : TObj w oDd ys) (J : Iv i ys nx) (hi : i ≤ n) (ek : k = n + 1 - i) : DictSt w h₀ L C D I m St Iv n s₂ k s'
/-- what a dict comprehension walks over, what a turn does, and what comes behind it -/
inductive DUse (w : World) (A : Around) (env : Env) (h₀ : Heap) (L : Addr) (m : Str → Option Value) (kx vx : Expr) (x y : Str) (ifs : List Expr) (scope : Scope) (cl : List (Str × Addr)) (Q : Flow → Shared → Prop) (it : Value) (s₂ : Shared) : Prop
  | mk (I : Addr) (n : Nat) (P : Nat → Value → Prop) (St : Nat → Heap → Prop) (nx keep : Led) (Iv : Nat → List (List Int × Addr × Value) → Led → Prop) (hit : it = .ref I) (hkp : ∀ i ys nx, Iv i ys nx → (∀ p ∈ keep, p ∈ nx) ∧ KeysIn w nx ys ∧ ys.length ≤ i) (Wk : Walks pg w A I (I :: keep.map Prod.fst) [I] n P St) (live : ∀ i h, St i h → ∃ o, h.get? I = some o) (hn : n ≤ sizeLine) (st : St 0 s₂.heap)
      (hI : I < s₂.heap.objs.size) (hI0 : h₀.get? I = none) (hIL : I ≠ L) (hnI : ∀ p ∈ nx, p.1 ≠ I) (F : Fr h₀ L s₂.heap m) (N : News h₀ L s₂.heap nx) (J : Iv 0 [] nx)
      (turn : ∀ i v ys nx C D oC oD oI H tk mC E', i < n → P i v → Iv i ys nx → (∀ p ∈ nx, p.1 ≠ C ∧ p.1 ≠ D ∧ p.1 ≠ I) → C ≠ D → C ≠ I → D ≠ I → Fr h₀ L H m → News h₀ L H ((C, oC) :: (D, oD) :: (I, oI) :: nx) → H.Ns C mC → mC x = some v →
        testsWp pg w A ifs (compEnvC scope cl C env) (fun ok s₃ => if ok = true then wpAny (model pg w) A (eval kx (compEnvC scope cl C env)) (fun kv s₄ => wpAny (model pg w) A (eval vx (compEnvC scope cl C env)) (fun vv s₅ => ∃ t k, kv = .ref t ∧ KeyV w nx (.ref t) k ∧ DPost w h₀ L m s₂ C D I oC oD oI (fun i ys nx' => Iv i ys nx' ∧ (∀ p ∈ nx, p ∈ nx')) (i + 1) (storedH ys k t vv) s₅) E' s₄) E' s₃ else DPost w h₀ L m s₂ C D I oC oD oI Iv (i + 1) ys s₃) E' { s₂ with heap := H, toks := tk })
      (done : ∀ D ys oD nx H tk, Iv n ys nx → TObj w oD ys → (∀ p ∈ nx, p.1 ≠ D) → (D == sysModules) = false → Fr h₀ L H (fun z => if z = y then some (.ref D) else m z) → News h₀ L H ((D, oD) :: nx) → Q .next { s₂ with heap := H, toks := tk }) : DUse w A env h₀ L m kx vx x y ifs scope cl Q it s₂
/-- a dict comprehension with tests, its keys tuples, bound to a name at once -/
theorem comp_dictTA {s : Shared} {kx vx iter : Expr} {x y : Str} {px py : Pos} {spos : Pos} {ifs : List Expr} {scope : Scope} {cl : List (Str × Addr)} {pos : Pos} {Q : Flow → Shared → Prop} (hroom : A.units < cLine)
    (hLe : env.locals = L) (hsw : swapsWith (.DictComp kx vx [⟨.Name x px, iter, ifs, 0⟩] scope pos) (some (.Name y py)) spos.line env = pure true) (hy : env.kindOf y = some .local) (hpp : (env.scope.kind == .class || (env.scope.kind == .module && env.locals != env.globals)) = false)
    (hclos : closureFor scope env = pure cl) (hcell : ∀ z ∈ scope.names, z.2 ≠ .cell) (hkind : scope.kind = .function)
    (hnames : ∀ z ∈ scope.names, z.2 = .local → scope.names.lookup z.1 = some .local) (hx : scope.names.lookup x = some .local)
    (h : wpAny (model pg w) A (eval iter env) (fun xv s₁ => wpAny (model pg w) A (pyIter xv) (fun it s₂ => DUse w A env h₀ L m kx vx x y ifs scope cl Q it s₂) E s₁) E s)
    (hbig : sysModules < h₀.objs.size) (hs : ∀ x, foldedSetIterable iter env x = pure x := by intro _; rfl) :
    wpAny (model pg w) A (exec (.Assign [.Name y py] (.DictComp kx vx [⟨.Name x px, iter, ifs, 0⟩] scope pos) spos) env) Q E s := by
  rw [exec_Assign_Name_used _ _ _ _ hsw]
  refine wpAny_bind (wpAny_standAt (wpAny_bind ?_))
  show wpAny _ A (do let _ ← comprehension (.DictComp kx vx [⟨.Name x px, iter, ifs, 0⟩] scope pos) scope env _ newDict false (eval iter env) (some (assign (.Name y py) env))) _ _ s
  refine wpAny_bind (wpAny_mono (wpAny_comprehension_free (use := some (assign (.Name y py) env)) (Q := fun _ s' => Q .next s') rfl hs hclos hkind hnames
    (wpAny_mono h (fun xv s₁ h₁ => wpAny_mono h₁ (fun it s₂ h₂ => ?_) fun _ _ e => e) fun _ _ e => e)) (fun _ s' hq => wpAny_pure (wpAny_pure hq)) fun _ _ e => e)
  first | (have hE1 := (And.left (And.right (And.right (And.right (And.right (And.right (And.right (And.right h₂)))))))); subst hE1; have I := (And.left h₂); have n := (And.left (And.right h₂)); have P := (And.left (And.right (And.right h₂))); have St := (And.left (And.right (And.right (And.right h₂)))); have nx := (And.left (And.right (And.right (And.right (And.right h₂))))); have keep := (And.left (And.right (And.right (And.right (And.right (And.right h₂)))))); have Iv := (And.left (And.right (And.right (And.right (And.right (And.right (And.right h₂))))))); have hkp := (And.left (And.right (And.right (And.right (And.right (And.right (And.right (And.right (And.right h₂))))))))); have Wk := (And.left (And.right (And.right (And.right (And.right (And.right (And.right (And.right (And.right (And.right h₂)))))))))); have hlive := (And.left (And.right (And.right (And.right (And.right (And.right (And.right (And.right (And.right (And.right (And.right h₂))))))))))); have hsz := (And.left (And.right (And.right (And.right (And.right (And.right (And.right (And.right (And.right (And.right (And.right (And.right h₂)))))))))))); have hst := (And.left (And.right (And.right (And.right (And.right (And.right (And.right (And.right (And.right (And.right (And.right (And.right (And.right h₂))))))))))))); have hIlt := (And.left (And.right (And.right (And.right (And.right (And.right (And.right (And.right (And.right (And.right (And.right (And.right (And.right (And.right h₂)))))))))))))); have hI0 := (And.left (And.right (And.right (And.right (And.right (And.right (And.right (And.right (And.right (And.right (And.right (And.right (And.right (And.right (And.right h₂))))))))))))))); have hIL := (And.left (And.right (And.right (And.right (And.right (And.right (And.right (And.right (And.right (And.right (And.right (And.right (And.right (And.right (And.right (And.right h₂)))))))))))))))); have hnI := (And.left (And.right (And.right (And.right (And.right (And.right (And.right (And.right (And.right (And.right (And.right (And.right (And.right (And.right (And.right (And.right (And.right h₂))))))))))))))))); have F := (And.left (And.right (And.right (And.right (And.right (And.right (And.right (And.right (And.right (And.right (And.right (And.right (And.right (And.right (And.right (And.right (And.right (And.right h₂)))))))))))))))))); have N := (And.left (And.right (And.right (And.right (And.right (And.right (And.right (And.right (And.right (And.right (And.right (And.right (And.right (And.right (And.right (And.right (And.right (And.right (And.right h₂))))))))))))))))))); have hJ := (And.left (And.right (And.right (And.right (And.right (And.right (And.right (And.right (And.right (And.right (And.right (And.right (And.right (And.right (And.right (And.right (And.right (And.right (And.right (And.right h₂)))))))))))))))))))); have turn := (And.left (And.right (And.right (And.right (And.right (And.right (And.right (And.right (And.right (And.right (And.right (And.right (And.right (And.right (And.right (And.right (And.right (And.right (And.right (And.right (And.right h₂))))))))))))))))))))); have done := (And.right (And.right (And.right (And.right (And.right (And.right (And.right (And.right (And.right (And.right (And.right (And.right (And.right (And.right (And.right (And.right (And.right (And.right (And.right (And.right (And.right h₂))))))))))))))))))))); try clear h₂) | (refine hideE fun GG hGG => ?_; obtain ⟨I, n, P, St, nx, keep, Iv, rfl, hkp, Wk, hlive, hsz, hst, hIlt, hI0, hIL, hnI, F, N, hJ, turn, done⟩ := h₂; refine hGG ?_; clear hGG GG)
  refine wpAny_newObj_type (wpAny_newFunctionEnv hcell (by intro z hz; simp at hz) (fun h₁ hns₁ hsb₁ => ?_) hkind)
  dsimp only at hns₁ hsb₁ ⊢
  generalize hH2 : s₂.heap.push { cls := .type "dict", dict := none, data := .dict #[] } = H2 at hns₁ hsb₁ ⊢
  have hC : H2.objs.size = s₂.heap.objs.size + 1 := by rw [← hH2, Heap.size_push]
  have hDC : s₂.heap.objs.size ≠ H2.objs.size := by rw [hC]; exact Nat.ne_of_lt (Nat.lt_succ_self _)
  have old : ∀ b o, s₂.heap.get? b = some o → h₁.get? b = some o := fun b o e => hsb₁.extBut b o (by rw [hC]; exact Nat.ne_of_lt (Nat.lt_succ_of_lt (Heap.lt_size e))) (Heap.get?_push_of_some _ (hH2 ▸ Heap.get?_push_of_some _ e))
  have hacc : h₁.get? s₂.heap.objs.size = some ({ cls := .type "dict", data := .dict #[] } : Obj) := hsb₁.extBut _ _ hDC (Heap.get?_push_of_some _ (hH2 ▸ Heap.get?_push_size _ rfl))
  have fresh : ∀ a, s₂.heap.objs.size ≤ a → h₀.get? a = none := fun a ha => by
    cases e : h₀.get? a with
    | none => rfl
    | some o' => exact absurd (Heap.lt_size (F.keep _ _ e)) (Nat.not_lt.mpr ha)
  have hLlt : L < s₂.heap.objs.size := by obtain ⟨_, _, _, e, _⟩ := F.ns; exact Heap.lt_size e
  have hlo : (s₂.heap.objs.size == sysModules) = false := F.notModules hbig
  generalize hCd : H2.objs.size = C at *
  generalize hDd : s₂.heap.objs.size = D at *
  have hLlt := ltN hLlt
  have hIlt := ltN hIlt
  have hC : @Eq Nat C (D + 1) := hC
  have hCL : C ≠ L := neN (ne_up1 hLlt hC)
  have hDL : D ≠ L := neN (Nat.ne_of_gt hLlt)
  have hCI : C ≠ I := neN (ne_up1 hIlt hC)
  have hDI : D ≠ I := neN (Nat.ne_of_gt hIlt)
  have hC0 : h₀.get? C = none := fresh C (hC ▸ Nat.le_succ _)
  have hD0 : h₀.get? D = none := fresh D (Nat.le_refl _)
  have hnx : ∀ p ∈ nx, p.1 ≠ C ∧ p.1 ≠ D ∧ p.1 ≠ I := fun p hp => by
    have := ltN (Heap.lt_size (N p hp).1)
    rw [hDd] at this
    exact ⟨neN (Nat.ne_of_lt (hC ▸ Nat.lt_succ_of_lt this)), neN (Nat.ne_of_lt this), hnI p hp⟩
  have F₁ : Fr h₀ L h₁ m := F.keeps old
  have N₁ : News h₀ L h₁ ((D, ({ cls := .type "dict", data := .dict #[] } : Obj)) :: nx) := fun p hp => by
    rcases List.mem_cons.mp hp with rfl | hp
    · exact ⟨hacc, hDL, hD0⟩
    · exact ⟨old _ _ (N p hp).1, (N p hp).2⟩
  have hst₁ : St 0 h₁ := Wk.frame _ _ _ hst fun b _ o e => old b o e
  have loop : ∀ s₃ : Shared, s₃ = { s₂ with heap := h₁, toks := s₂.toks + ([] : List (Str × Value)).length } →
      codeAny (model pg w) A (.compLoop (.DictComp kx vx [⟨.Name x px, iter, ifs, 0⟩] scope pos) 0 (.ref I) (.ref D) (compEnvC scope cl C env)) (compPost (model pg w) A E (some (assign (.Name y py) env)) (fun _ s' => Q .next s') (.ref D) C) s₃ := by
    rintro s₃ rfl
    refine codeAny_compLoop_testsD
      (DictSt w h₀ L C D I m St Iv n s₂) ?_ (n + 1)
      ⟨0, [], _, nx, _, h₁, _, rfl, hst₁, hns₁, F₁, N₁, hnx, tobj_nil, hJ, Nat.zero_le _, rfl⟩
    intro k s' hHi2
    first | (have hE2 := (And.left (And.right (And.right (And.right (And.right (And.right (And.right (And.right hHi2)))))))); subst hE2; have hE3 := (And.right (And.right (And.right (And.right (And.right (And.right (And.right (And.right (And.right (And.right (And.right (And.right (And.right (And.right (And.right (And.right hHi2)))))))))))))))); subst hE3; have i := (And.left hHi2); have ys := (And.left (And.right hHi2)); have oDd := (And.left (And.right (And.right hHi2))); have nx := (And.left (And.right (And.right (And.right hHi2)))); have mC := (And.left (And.right (And.right (And.right (And.right hHi2))))); have H := (And.left (And.right (And.right (And.right (And.right (And.right hHi2)))))); have tk := (And.left (And.right (And.right (And.right (And.right (And.right (And.right hHi2))))))); have hst' := (And.left (And.right (And.right (And.right (And.right (And.right (And.right (And.right (And.right hHi2))))))))); have hn' := (And.left (And.right (And.right (And.right (And.right (And.right (And.right (And.right (And.right (And.right hHi2)))))))))); have F' := (And.left (And.right (And.right (And.right (And.right (And.right (And.right (And.right (And.right (And.right (And.right hHi2))))))))))); have N' := (And.left (And.right (And.right (And.right (And.right (And.right (And.right (And.right (And.right (And.right (And.right (And.right hHi2)))))))))))); have hnx' := (And.left (And.right (And.right (And.right (And.right (And.right (And.right (And.right (And.right (And.right (And.right (And.right (And.right hHi2))))))))))))); have hTo := (And.left (And.right (And.right (And.right (And.right (And.right (And.right (And.right (And.right (And.right (And.right (And.right (And.right (And.right hHi2)))))))))))))); have hJ' := (And.left (And.right (And.right (And.right (And.right (And.right (And.right (And.right (And.right (And.right (And.right (And.right (And.right (And.right (And.right hHi2))))))))))))))); have hi := (And.left (And.right (And.right (And.right (And.right (And.right (And.right (And.right (And.right (And.right (And.right (And.right (And.right (And.right (And.right (And.right hHi2)))))))))))))))); try clear hHi2) | (refine hideE fun GG hGG => ?_; obtain ⟨i, ys, oDd, nx, mC, H, tk, rfl, hst', hn', F', N', hnx', hTo, hJ', hi, rfl⟩ := hHi2; refine hGG ?_; clear hGG GG)
    by_cases hlt : i < n
    · refine Wk.item i _ _ _ hlt hst' fun v h₂ tk₂ hPv hst₂ hk₂ => ?_
      have hk₂' : ∀ b o, b ≠ I → H.get? b = some o → h₂.get? b = some o := fun b o hb e => hk₂ b o (fun hm => hb (List.mem_singleton.mp hm)) e
      have F₂ := fr_but F' hk₂' hIL hI0
      have N₂ := news_but N' hk₂' (fun p hp => by
        rcases List.mem_cons.mp hp with rfl | hp
        · exact hDI
        · exact (hnx' p hp).2.2)
      have hn₂ := hn'.at' fun o e => hk₂' C o hCI e
      refine wpAny_assign_Name (wpAny_storeName_local (lookup_relabel_local hx) hn₂ (fun h₃ hn₃ hs₃ => ?_) (by simp [compEnvC, relabel, hkind]))
      have hk₃ : ∀ b o, b ≠ C → h₂.get? b = some o → h₃.get? b = some o := fun b o hb e => hs₃.extBut b o hb e
      have F₃ := fr_but F₂ hk₃ hCL hC0
      have N₃ := news_but N₂ hk₃ (fun p hp => by
        rcases List.mem_cons.mp hp with rfl | hp
        · exact fun e => hDC e
        · exact (hnx' p hp).1)
      have hst₃ : St (i + 1) h₃ := Wk.frame _ _ _ hst₂ fun b hb o e => hk₃ b o (by
        rcases List.mem_cons.mp hb with rfl | hb
        · exact Ne.symm hCI
        · have hHi3 := List.mem_map.mp hb
          first | (have hE4 := (And.right (And.right hHi3)); subst hE4; have p := (And.left hHi3); have hp := (And.left (And.right hHi3)); try clear hHi3) | (refine hideE fun GG hGG => ?_; obtain ⟨p, hp, rfl⟩ := hHi3; refine hGG ?_; clear hGG GG)
          exact (hnx' p ((hkp _ _ _ hJ').1 p hp)).1) e
      have hHi4 := hlive _ _ hst₃
      first | (have oI := (And.left hHi4); have hoI := (And.right hHi4); try clear hHi4) | (obtain ⟨oI, hoI⟩ := hHi4)
      have hHi5 : ∃ o, h₃.get? C = some o := let ⟨o, _, _, e, _⟩ := hn₃; ⟨o, e⟩
      first | (have oC := (And.left hHi5); have hoC := (And.right hHi5); try clear hHi5) | (obtain ⟨oC, hoC⟩ := hHi5)
      have hJn : n + 1 - (i + 1) < n + 1 - i := turn_lt (by assumption)
      have fin : ∀ H' h₅ : Heap, ∀ nx', News h₀ L H' ((C, oC) :: (D, oDd) :: (I, oI) :: nx') → (∀ p ∈ nx', p.1 ≠ C ∧ p.1 ≠ D ∧ p.1 ≠ I) → (∀ p ∈ keep, p ∈ nx') → (∀ b o, b ≠ D → H'.get? b = some o → h₅.get? b = some o) → St (i + 1) h₅ := by
        intro H' h₅ nx' N₄ hnx₄ hkp₄ hk₅
        refine Wk.frame _ _ _ hst₃ fun b hb o e => ?_
        rcases List.mem_cons.mp hb with rfl | hb
        · refine hk₅ _ o (Ne.symm hDI) ?_
          rw [hoI] at e
          rw [← Option.some.inj e]
          exact (N₄ (_, oI) (List.mem_cons_of_mem _ (List.mem_cons_of_mem _ List.mem_cons_self))).1
        · have hHi6 := List.mem_map.mp hb
          first | (have hE5 := (And.right (And.right hHi6)); subst hE5; have p := (And.left hHi6); have hp := (And.left (And.right hHi6)); try clear hHi6) | (refine hideE fun GG hGG => ?_; obtain ⟨p, hp, rfl⟩ := hHi6; refine hGG ?_; clear hGG GG)
          have hp' := (hkp _ _ _ hJ').1 p hp
          refine hk₅ _ o (hnx' p hp').2.1 ?_
          rw [(N₃ p (by simp [hp'])).1] at e
          rw [← Option.some.inj e]
          exact (N₄ p (by simp [hkp₄ p hp])).1
      have fin2 : ∀ H' h₅ : Heap, ∀ nx', News h₀ L H' ((C, oC) :: (D, oDd) :: (I, oI) :: nx') → (∀ b o, b ≠ D → H'.get? b = some o → h₅.get? b = some o) → ∃ mC', h₅.Ns C mC' := by
        intro H' h₅ nx' N₄ hk₅
        exact ⟨_, (hn₃.at' (h' := H') fun o e => by
          have e' : h₃.get? C = some o := e
          rw [hoC] at e'
          rw [← Option.some.inj e']
          exact (N₄ (C, oC) (by simp)).1).at' fun o e => hk₅ C o (Ne.symm hDC) e⟩
      refine wpAny_mono (turn i v ys nx C D oC oDd oI h₃ _ _ _ hlt hPv hJ' hnx' (Ne.symm hDC) hCI hDI F₃ (fun p hp => ?_) hn₃ (by simp)) (fun ok s₃ hok => ?_) fun _ _ e => e
      · rcases List.mem_cons.mp hp with rfl | hp
        · exact ⟨hoC, hCL, hC0⟩
        · rcases List.mem_cons.mp hp with rfl | hp
          · exact N₃ _ (List.mem_cons.mpr (.inl rfl))
          · rcases List.mem_cons.mp hp with rfl | hp
            · exact ⟨hoI, hIL, hI0⟩
            · exact N₃ _ (List.mem_cons.mpr (.inr hp))
      · cases ok with
        | false =>
          simp only [Bool.false_eq_true, if_false] at hok ⊢
          first | (have hE6 := (And.left (And.right (And.right (And.right hok)))); subst hE6; have H' := (And.left hok); have tk' := (And.left (And.right hok)); have nx' := (And.left (And.right (And.right hok))); have F₄ := (And.left (And.right (And.right (And.right (And.right hok))))); have N₄ := (And.left (And.right (And.right (And.right (And.right (And.right hok)))))); have hnx₄ := (And.left (And.right (And.right (And.right (And.right (And.right (And.right hok))))))); have hJ₄ := (And.right (And.right (And.right (And.right (And.right (And.right (And.right hok))))))); try clear hok) | (refine hideE fun GG hGG => ?_; obtain ⟨H', tk', nx', rfl, F₄, N₄, hnx₄, hJ₄⟩ := hok; refine hGG ?_; clear hGG GG)
          have hHi8 := fin2 H' H' nx' N₄ fun _ _ _ e => e
          first | (have mC' := (And.left hHi8); have hmC' := (And.right hHi8); try clear hHi8) | (obtain ⟨mC', hmC'⟩ := hHi8)
          exact ⟨n + 1 - (i + 1), hJn, i + 1, ys, oDd, nx', mC', H', tk', rfl, fin H' H' nx' N₄ hnx₄ (hkp _ _ _ hJ₄).1 (fun _ _ _ e => e), hmC', F₄, (fun p hp => N₄ p (by
            rcases List.mem_cons.mp hp with rfl | hp
            · simp
            · simp [hp])), hnx₄, hTo, hJ₄, hlt, rfl⟩
        | true =>
          simp only [if_true] at hok ⊢
          refine wpAny_mono hok (fun kv s₄ h₄ => wpAny_mono h₄ (fun vv s₅ h₅ => ?_) fun _ _ e => e) fun _ _ e => e
          first | (have hE7 := (And.left (And.right (And.right h₅))); subst hE7; have hE8 := (And.left (And.right (And.right (And.right (And.right (And.right (And.right (And.right h₅)))))))); subst hE8; have tt := (And.left h₅); have kk := (And.left (And.right h₅)); have hkv := (And.left (And.right (And.right (And.right h₅)))); have H' := (And.left (And.right (And.right (And.right (And.right h₅))))); have tk' := (And.left (And.right (And.right (And.right (And.right (And.right h₅)))))); have nx' := (And.left (And.right (And.right (And.right (And.right (And.right (And.right h₅))))))); have F₄ := (And.left (And.right (And.right (And.right (And.right (And.right (And.right (And.right (And.right h₅))))))))); have N₄ := (And.left (And.right (And.right (And.right (And.right (And.right (And.right (And.right (And.right (And.right h₅)))))))))); have hnx₄ := (And.left (And.right (And.right (And.right (And.right (And.right (And.right (And.right (And.right (And.right (And.right h₅))))))))))); have hJ₄ := (And.left (And.right (And.right (And.right (And.right (And.right (And.right (And.right (And.right (And.right (And.right (And.right h₅)))))))))))); have hsub := (And.right (And.right (And.right (And.right (And.right (And.right (And.right (And.right (And.right (And.right (And.right (And.right h₅)))))))))))); try clear h₅) | (refine hideE fun GG hGG => ?_; obtain ⟨tt, kk, rfl, hkv, H', tk', nx', rfl, F₄, N₄, hnx₄, hJ₄, hsub⟩ := h₅; refine hGG ?_; clear hGG GG)
          have hys : ys.length ≤ sizeLine := Nat.le_trans (hkp _ _ _ hJ').2.2 (Nat.le_trans hi hsz)
          have hD' : H'.DictOfH (tK w) D ys := TObj.at N₄ (o := oDd) (by simp) hTo ((hkp _ _ _ hJ').2.1.mono fun p hp _ => by simp [hsub p hp])
          refine wpAny_dictSet_heap (knd := tK w) (hsz := hys) hroom (KeyV.is N₄ (hkv.mono fun p hp _ => by simp [hsub p hp])) hD' fun h₅ hd₅ hs₅ => ?_
          have hHi10 := TObj.of hd₅
          first | (have o₅ := (And.left hHi10); have hg₅ := (And.left (And.right hHi10)); have ho₅ := (And.right (And.right hHi10)); try clear hHi10) | (refine hideE fun GG hGG => ?_; obtain ⟨o₅, hg₅, ho₅⟩ := hHi10; refine hGG ?_; clear hGG GG)
          have hk₅ : ∀ b o, b ≠ D → H'.get? b = some o → h₅.get? b = some o := fun b o hb e => hs₅.extBut b o hb e
          have hHi11 := fin2 H' h₅ nx' N₄ hk₅
          first | (have mC' := (And.left hHi11); have hmC' := (And.right hHi11); try clear hHi11) | (obtain ⟨mC', hmC'⟩ := hHi11)
          refine ⟨n + 1 - (i + 1), hJn, i + 1, _, o₅, nx', mC', h₅, _, rfl, fin H' h₅ nx' N₄ hnx₄ (hkp _ _ _ hJ₄).1 hk₅, hmC', fr_but F₄ hk₅ hDL hD0, ?_, hnx₄, ho₅, hJ₄, hlt, rfl⟩
          intro p hp
          rcases List.mem_cons.mp hp with rfl | hp
          · exact ⟨hg₅, hDL, hD0⟩
          · exact ⟨hk₅ _ _ (hnx₄ p hp).2.1 (N₄ p (by simp [hp])).1, (N₄ p (by simp [hp])).2⟩
    · have hin : i = n := turn_end (by assumption) (by assumption)
      subst hin
      refine Wk.done _ _ _ hst' fun h₂ tk₂ hk₂ => ?_
      have hk₂' : ∀ b o, b ≠ I → H.get? b = some o → h₂.get? b = some o := fun b o hb e => hk₂ b o (fun hm => hb (List.mem_singleton.mp hm)) e
      have hnC := hn'.at' fun o e => hk₂' C o hCI e
      have Fx := fr_but F' hk₂' hIL hI0
      show wpAny _ A (assign (.Name y py) env (.ref D)) _ _ _
      refine wpAny_assign_Name (wpAny_storeName_local hy (m := m) (by rw [hLe]; exact Fx.ns) (fun h₄ hn₄ hs₄ => ?_) hpp)
      rw [hLe] at hn₄ hs₄
      refine ⟨_, hnC.sameBut hs₄ hCL, fun h₃ hs₃ => ?_⟩
      have hk₄ : ∀ b o, b ≠ L → h₂.get? b = some o → h₄.get? b = some o := fun b o hb e => hs₄.extBut b o hb e
      have hk₃ : ∀ b o, b ≠ C → h₄.get? b = some o → h₃.get? b = some o := fun b o hb e => hs₃.extBut b o hb e
      have F₄ : Fr h₀ L h₄ (fun z => if z = y then some (.ref D) else m z) := ⟨hn₄, fun b o e => hk₄ b o (fun q => by
        have := Heap.lt_size e
        rw [q] at this
        exact absurd this (Nat.not_lt.mpr F'.above)) (Fx.keep b o e), F'.above⟩
      have N₂ := news_but N' hk₂' (fun p hp => by
        rcases List.mem_cons.mp hp with rfl | hp
        · exact hDI
        · exact (hnx' p hp).2.2)
      have N₄ : News h₀ L h₄ ((D, oDd) :: nx) := fun p hp => ⟨hk₄ _ _ (N₂ p hp).2.1 (N₂ p hp).1, (N₂ p hp).2⟩
      refine done D ys oDd nx h₃ _ hJ' hTo (fun p hp => (hnx' p hp).2.1) hlo (fr_but F₄ hk₃ hCL hC0) (news_but N₄ hk₃ ?_)
      intro p hp
      rcases List.mem_cons.mp hp with rfl | hp
      · exact hDC
      · exact (hnx' p hp).1
  exact codeAny_compStart_dict (loop _ rfl) (Wk.self 0 _ _ _ hst₁ (loop _ rfl))
end
end N240
end
-- KitV
section
open PySem PySem.W PyProof.Rows PySem.Spec PySem.Calls
namespace N240
section
variable {w : World} {A : Around} {E : Value → Shared → Prop} {s : Shared} {h₀ : Heap} {L : Addr} {m : Str → Option Value} {R : Led}
/-- a row held against `{}` -/
theorem row_ne {a b : Addr} {oa ob : Obj} {kvs : List (Int × Value)} {Q : Value → Shared → Prop} (N : News h₀ L s.heap R) (ma : (a, oa) ∈ R) (mb : (b, ob) ∈ R) (ha : oa.IsDictOf (iK w) kvs) (hb : ob.IsDictOf (iK w) []) (la : (a == sysModules) = false) (lb : (b == sysModules) = false) (hu : A.units < cLine)
    (h : Q (.bool (decide (kvs ≠ []))) s) : wpAny (model pg w) A (compareOp .NotEq (.ref a) (.ref b)) Q E s := by
  refine keq_ne (knd := iK w) (ka := kvs) (kb := []) (r := true) la lb (Heap.dictOf_iff.mpr ⟨oa, (N _ ma).1, ha⟩) (Heap.dictOf_iff.mpr ⟨ob, (N _ mb).1, hb⟩) hu (fun e => ?_) ?_
  · have : kvs = [] := List.eq_nil_of_length_eq_zero e
    subst this
    exact .nil
  · cases kvs with
    | nil => exact h
    | cons x r => exact h
/-- the least of a row's values -/
theorem min_vals {v d : Addr} {o : Obj} {kvs : List (Int × Value)} {row : List (Int × Int)} {Q : Value → Shared → Prop} (hh : A.handled = none) (F : Fr h₀ L s.heap m) (N : News h₀ L s.heap R) (hv : (v, ({ cls := .type "dict_values", data := .fields #[.ref d] } : Obj)) ∈ R) (md : (d, o) ∈ R) (hd : o.IsDictOf (iK w) kvs) (hr : RowP kvs row) (hne : row ≠ [])
    (h : ∀ h' M t tk, Fr h₀ L h' m → News h₀ L h' R → M ∈ row.map (·.2) → (∀ e ∈ row, M ≤ e.2) → Q (.int M t) { s with heap := h', toks := tk }) : wpAny (model pg w) A (call (.builtin "min") [.ref v]) Q E s := by
  have hHi1 := (kda_dict N md hd).dictAt
  first | (have ep := (And.left hHi1); have hat := (And.right hHi1); try clear hHi1) | (obtain ⟨ep, hat⟩ := hHi1)
  have K := kdl_values (prog := pg) (w := w) (r := v) (d := d) (knd := iK w) (kvs := kvs) (ep := ep)
  have hok : s.heap.IsValuesView v d ∧ s.heap.DictAt (iK w) d kvs ep := ⟨⟨_, (N _ hv).1, rfl, rfl⟩, hat⟩
  have hl : kvs.length = row.length := hr.length
  refine call_min_walkS ?_
  have hHi2 := K.iter A.in1 s hh hok
  first | (have oI := (And.left hHi2); have St := (And.left (And.right hHi2)); have hit := (And.left (And.right (And.right hHi2))); have W := (And.left (And.right (And.right (And.right hHi2)))); have st := (And.right (And.right (And.right (And.right hHi2)))); try clear hHi2) | (refine hideE fun GG hGG => ?_; obtain ⟨oI, St, hit, W, st⟩ := hHi2; refine hGG ?_; clear hGG GG)
  have hn : 0 < kvs.length := by
    rw [hl]
    cases row with
    | nil => exact absurd rfl hne
    | cons _ _ => exact Nat.succ_pos _
  have hval : ∀ (i : Nat) (v : Value), (∃ k, kvs[i]? = some (k, v)) → ∃ t, v = Value.int ((row.map (·.2)).getD i 0) t := by
    intro i u hHi3
    first | (have k := (And.left hHi3); have hk := (And.right hHi3); try clear hHi3) | (obtain ⟨k, hk⟩ := hHi3)
    have hHi4 := Paired.at hr i _ hk
    first | (have e := (And.left hHi4); have he := (And.left (And.right hHi4)); have hU1 := (And.left (And.right (And.right hHi4))); have t := (And.left (And.right (And.right (And.right hHi4)))); have et := (And.right (And.right (And.right (And.right hHi4)))); try clear hHi4) | (refine hideE fun GG hGG => ?_; obtain ⟨e, he, _, t, et⟩ := hHi4; refine hGG ?_; clear hGG GG)
    refine ⟨t, ?_⟩
    have : (row.map (·.2)).getD i 0 = e.2 := by
      rw [List.getD_eq_getElem?_getD, List.getElem?_map, he]; rfl
    rw [this]
    exact et
  refine hit _ _ ⟨s.heap.objs.size, _, _, _, kvs.length, _, _, _, rfl, W.toS, st, fun b hb => ?_, hn, CmpOf.ints_lt _ hval, fun v' s' hv' hm => ?_⟩
  · show b < (s.heap.push oI).objs.size
    rw [size_push']
    rcases List.mem_cons.mp hb with e | hb
    · rw [e]; exact Nat.lt_succ_self _
    · rw [List.mem_singleton.mp hb]; exact Nat.lt_succ_of_lt (K.there _ hok).2
  · have hk : ∀ b o, s.heap.get? b = some o → s'.heap.get? b = some o := fun b o e =>
      hm.heap b o (fun hI => absurd (Heap.lt_size e) (by rw [List.mem_singleton.mp hI]; exact Nat.lt_irrefl _)) (Heap.get?_push_of_some _ e)
    rw [Moved.eq_with hm]
    have hHi5 := hval _ _ hv'
    first | (have hE2 := (And.right hHi5); subst hE2; have t := (And.left hHi5); try clear hHi5) | (obtain ⟨t, rfl⟩ := hHi5)
    have hHi6 := argBest_lt (fun i => (row.map (·.2)).getD i 0) (kvs.length - 1)
    first | (have h1 := (And.left hHi6); have h2 := (And.right hHi6); try clear hHi6) | (obtain ⟨h1, h2⟩ := hHi6)
    refine h s'.heap _ t s'.toks (F.keeps hk) (fun p hp => ⟨hk _ _ (N p hp).1, (N p hp).2⟩) ?_ fun e he => ?_
    · exact PySem.getD_mem (by rw [List.length_map]; omega)
    · have hHi7 := List.getElem_of_mem he
      first | (have j := (And.left hHi7); have hj := (And.left (And.right hHi7)); have hje := (And.right (And.right hHi7)); try clear hHi7) | (refine hideE fun GG hGG => ?_; obtain ⟨j, hj, hje⟩ := hHi7; refine hGG ?_; clear hGG GG)
      have h3 := h2 j (by omega)
      have : (row.map (·.2)).getD j 0 = e.2 := by
        rw [List.getD_eq_getElem?_getD, List.getElem?_map, List.getElem?_eq_getElem hj, hje]; rfl
      rw [this] at h3
      exact h3
end
end N240
end
-- Least
section
open PySem PySem.W PyProof.Rows PySem.Spec PySem.Calls
namespace N240
variable {w : World} {p : Program} {loose : List Str} {mean : ExcName → Option Value} {mg mb : Str → Option Value}
/-- m is the least of a row -/
def LeastP (r : List Int × List (Int × Int)) (m : Int) : Prop := m ∈ r.2.map (·.2) ∧ ∀ e ∈ r.2, m ≤ e.2
def LeastI (K : Led) (T : Tab) (i : Nat) (ys : List Value) (nx : Led) : Prop := nx = K ∧ ∃ ms, IntsAre ys ms ∧ Paired LeastP (T.take i) ms
theorem ns_carry {h h' : Heap} {C : Addr} {m : Str → Option Value} {o : Obj} (hC : h.Ns C m) (a : h.get? C = some o) (b : h'.get? C = some o) : h'.Ns C m :=
  hC.at' fun o' e => by
    rw [a] at e
    rw [← Option.some.inj e]
    exact b
section
set_option maxRecDepth 100000 in
set_option maxHeartbeats 400000 in
theorem least_ok {dc : Addr} {oz : Obj} {Tb : Tab} {R : Led} (loc : (dc == sysModules) = false) (mc : (dc, oz) ∈ R) (hT : TabO w R oz Tb) (hne : ∀ r ∈ Tb, r.2 ≠ []) (hlen : Tb.length ≤ 6) :
    FnOk w p loose mean mg mb 3 30 (.ref 151) [.ref dc] R (fun v news' => (∃ ms t, Paired LeastP Tb ms ∧ v = .int ms.sum t) ∧ ∀ p ∈ R, p ∈ news') := by
  first | (have xc := (And.left hT); have toc := (And.left (And.right hT)); have kc := (And.left (And.right (And.right hT))); have pc := (And.right (And.right (And.right hT))); try clear hT) | (refine hideE fun GG hGG => ?_; obtain ⟨xc, toc, kc, pc⟩ := hT; refine hGG ?_; clear hGG GG)
  have hHi2 := toc.lit
  first | (have ec := (And.left hHi2); have hec := (And.right hHi2); try clear hHi2) | (obtain ⟨ec, hec⟩ := hHi2)
  have hlx : xc.length ≤ 6 := by rw [pc.length]; exact hlen
  unfold FnOk
  intro dp un gd cn cs a ccd cl outer A₀ base h₀ L m s Q E B F X N T hk hd hu hret
  w_top off
  have hFill : PySem.Challenge.rw_nz0240_01 = PySem.Challenge.rw_nz0240_01 ∧ N240.hd.heap_39 = N240.hd.heap_39 → True := fun _ => trivial
  (first | (revert hFill; k_fill; intro hFill; clear hFill))
  refine wpAny_call ?_
  k_dflt (refine' code_defC ?k1 ?k2 ?k3 ?k4 ?k5 ?kA ?kF ?kK ?k6 ?k7 ?k8 ?k9 ?kB ?kD ?_ ?c2 ?c3 ?c4; (case kA => exact rfl); (case kF => exact rfl); (case kK => assumption); (case k1 => k_asm); (case k2 => k_asm); (case k3 => k_asm); (case k4 => k_asm); (case k5 => k_asm); (case k6 => k_is); (case k7 => k_is); (case k8 => ktr_room); (case k9 => exact BindsTo.of_eq rfl); (case kB => exact rfl); (case kD => decide +kernel); (case c2 => exact rfl); (case c3 => exact rfl); (case c4 => exact rfl); k_whole)
  intro g' L' h' tk' cells' FG' F' N' Y' B' X' T' l1
  (try k_lt l1)
  have hHi3 := CellsAre.one Y'
  first | (have oc := (And.left hHi3); have hE := (And.left (And.right hHi3)); have hoc := (And.right (And.right hHi3)); try clear hHi3) | (refine hideE fun GG hGG => ?_; obtain ⟨oc, hE, hoc⟩ := hHi3; refine hGG ?_; clear hGG GG)
  subst hE
  clear Y'
  (try simp only [List.cons_append, List.nil_append] at N')
  (try dsimp only)
  ((try show wpAny _ _ _ _ _ _); (try k_fold))
  replace F' : Fr g' L' h' (fun y => List.lookup y []) := F'
  repeat' ((fail_if_success (with_reducible show wpAny _ _ (eval (Expr.ListComp _ _ _ _) _) _ _ _)); (first | (k_unfold; (try dsimp only)) | (k_end; wrow_close) | walk1 | (dsimp only; walk1) | (leave1; walk_say "STEP leave1"; try dsimp only)))
  subst hec
  k_dflt (refine' comp_if (x := Str.ofString "key") (h₀ := g') (L := L') F' ?hclos ?hcell ?hkind ?hnames ?hx ?_ ?hs; (case hclos => with_unfolding_all rfl); (case hcell => decide); (case hkind => rfl); (case hnames => decide); (case hx => rfl); (case hs => intro _; with_unfolding_all rfl))
  repeat' ((fail_if_success (with_reducible show wpAny _ _ (pyIter _) _ _ _)); (first | (k_unfold; (try dsimp only)) | (k_end; wrow_close) | walk1 | (dsimp only; walk1) | (leave1; walk_say "STEP leave1"; try dsimp only)))
  k_dflt (refine' iter_dictA (d := dc) ?hh F' N' loc ?hm ?_; (case hh => rfl); (case hm => exact List.mem_cons_of_mem _ mc))
  intro I1 H1 St1 F1 N1 hI1 hI2 hI3 hI4 W1 live1 st1
  refine ⟨I1, _, _, _, _, [(dc, W.dictOf (xc.map (entryOfKey (tK w))) ec)], LeastI ((L' + 1, oc) :: R) Tb, rfl, (fun i ys nx hI p hp => by rw [hI.1, List.mem_singleton.mp hp]; exact List.mem_cons_of_mem _ mc), W1, live1, ?_, st1, hI1, hI2, hI3, fun p hp => Nat.ne_of_lt (hI4 p hp), F1, N1, ⟨rfl, [], .nil, .nil⟩, ?_, ?_⟩
  · exact line_small (by rw [List.length_map]; omega)
  · intro i v ys' nx C Dd oC oD oI H tk mC E' hin hP hlen hHi4 hoff hCD hCI hDI F3 N3 hC hk3
    first | (have hE1 := (And.left hHi4); subst hE1; have ms := (And.left (And.right hHi4)); have hys := (And.left (And.right (And.right hHi4))); have hms := (And.right (And.right (And.right hHi4))); try clear hHi4) | (refine hideE fun GG hGG => ?_; obtain ⟨rfl, ms, hys, hms⟩ := hHi4; refine hGG ?_; clear hGG GG)
    have hHi5 : ∃ x, xc[i]? = some x ∧ v = Value.ref x.2.1 := by
      obtain ⟨e, he, hv⟩ := hP
      rw [List.getElem?_map] at he
      cases hx : xc[i]? with
      | none => rw [hx] at he; cases he
      | some x => rw [hx] at he; exact ⟨x, rfl, by rw [hv, ← Option.some.inj he]; rfl⟩
    first | (have hE2 := (And.right (And.right hHi5)); subst hE2; have x := (And.left hHi5); have hx := (And.left (And.right hHi5)); try clear hHi5) | (refine hideE fun GG hGG => ?_; obtain ⟨x, hx, rfl⟩ := hHi5; refine hGG ?_; clear hGG GG)
    have hHi6 := Paired.at pc i x hx
    first | (have r := (And.left hHi6); have hr := (And.left (And.right hHi6)); have exr := (And.left (And.right (And.right hHi6))); have Di := (And.left (And.right (And.right (And.right hHi6)))); have oi := (And.left (And.right (And.right (And.right (And.right hHi6))))); have kvs := (And.left (And.right (And.right (And.right (And.right (And.right hHi6)))))); have eDi := (And.left (And.right (And.right (And.right (And.right (And.right (And.right hHi6))))))); have mDi := (And.left (And.right (And.right (And.right (And.right (And.right (And.right (And.right hHi6)))))))); have hoi := (And.left (And.right (And.right (And.right (And.right (And.right (And.right (And.right (And.right hHi6))))))))); have hrow := (And.left (And.right (And.right (And.right (And.right (And.right (And.right (And.right (And.right (And.right hHi6)))))))))); have loD := (And.right (And.right (And.right (And.right (And.right (And.right (And.right (And.right (And.right (And.right hHi6)))))))))); try clear hHi6) | (refine hideE fun GG hGG => ?_; obtain ⟨r, hr, exr, Di, oi, kvs, eDi, mDi, hoi, hrow, loD⟩ := hHi6; refine hGG ?_; clear hGG GG)
    have up : ∀ q ∈ R, q ∈ (C, oC) :: (Dd, oD) :: (I1, oI) :: (L' + 1, oc) :: R := fun q hq => by simp [hq]
    have kc3 : KeysIn w ((C, oC) :: (Dd, oD) :: (I1, oI) :: (L' + 1, oc) :: R) xc := kc.mono fun p hp _ => up p hp
    have n3C := (N3 (C, oC) (by simp)).1
    refine wpAny_tests_one ?_
    ((try show wpAny _ _ _ _ _ _); (try k_fold))
    repeat' ((fail_if_success (with_reducible show wpAny _ _ (subscriptTail _ _ _ _) _ _ _)); (first | (k_unfold; (try dsimp only)) | (k_end; wrow_close) | walk1 | (dsimp only; walk1) | (leave1; walk_say "STEP leave1"; try dsimp only)))
    k_dflt (refine' td_get (k := x.1) (p := x.2) (o := W.dictOf (xc.map (entryOfKey (tK w))) ec) (xs := xc) ?hu N3 ?hm toc ?hks ?hk ?hp ?_ ?hs ?ht; (case hu => first | k_units | ktr_units); (case hm => exact up _ mc); (case hks => exact kc3); (case hk => exact kc3 x (List.mem_of_getElem? hx)); (case hp => exact atKey_of_get (toc_nodup toc) hx); (case hs => with_unfolding_all rfl); (case ht => intro _; with_unfolding_all rfl))
    intro tk5
    dsimp only
    rw [eDi]
    repeat' ((fail_if_success (with_reducible show wpAny _ _ (compareOp _ _ _) _ _ _)); (first | (k_unfold; (try dsimp only)) | (k_end; wrow_close) | walk1 | (dsimp only; walk1) | (leave1; walk_say "STEP leave1"; try dsimp only)))
    rename Obj.IsDictOf (intKind pg w) _ [] => hi4
    rename News _ _ _ (_ :: _) => N4
    rename Fr _ _ _ _ => F4
    rename (_ == sysModules) = false => lo4
    have hC4 := ns_carry hC n3C (N4 (C, oC) (by simp)).1
    clear hC
    have hkv : kvs ≠ [] := by
      intro e
      have hl := hrow.length
      rw [e] at hl
      exact hne r (List.mem_of_getElem? hr) (List.eq_nil_of_length_eq_zero hl.symm)
    k_dflt (refine' row_ne (kvs := kvs) N4 ?ma ?mb hoi hi4 loD lo4 ?hu ?_; (case ma => exact List.mem_cons_of_mem _ (up _ mDi)); (case mb => exact List.mem_cons_self); (case hu => first | k_units | ktr_units))
    rw [decide_eq_true hkv]
    repeat' ((fail_if_success (with_reducible show wpAny _ _ (subscriptTail _ _ _ _) _ _ _)); (first | (k_unfold; (try dsimp only)) | (k_end; wrow_close) | walk1 | (dsimp only; walk1) | (leave1; walk_say "STEP leave1"; try dsimp only)))
    k_dflt (refine' td_get (k := x.1) (p := x.2) (o := W.dictOf (xc.map (entryOfKey (tK w))) ec) (xs := xc) ?hu N4 ?hm toc ?hks ?hk ?hp ?_ ?hs ?ht; (case hu => first | k_units | ktr_units); (case hm => exact List.mem_cons_of_mem _ (up _ mc)); (case hks => exact kc3.mono fun p hp _ => List.mem_cons_of_mem _ hp); (case hk => exact (kc3.mono fun p hp _ => List.mem_cons_of_mem _ hp) x (List.mem_of_getElem? hx)); (case hp => exact atKey_of_get (toc_nodup toc) hx); (case hs => with_unfolding_all rfl); (case ht => intro _; with_unfolding_all rfl))
    intro tk6
    dsimp only
    rw [eDi]
    have mDi4 := fun q => List.mem_cons_of_mem q (up _ mDi)
    repeat' ((fail_if_success (with_reducible show wpAny _ _ (getMethod _ _ _) _ _ _)); (first | (k_unfold; (try dsimp only)) | (k_end; wrow_close) | walk1 | (dsimp only; walk1) | (leave1; walk_say "STEP leave1"; try dsimp only)))
    k_dflt (refine' kdl_method (knd := PySem.intKind _ _) PySem.F.slot_dict_values PySem.F.type_dict_values N4 (mDi4 _) hoi ?_)
    repeat' ((fail_if_success (with_reducible show wpAny _ _ (call (Value.builtin "dict.values") _) _ _ _)); (first | (k_unfold; (try dsimp only)) | (k_end; wrow_close) | walk1 | (dsimp only; walk1) | (leave1; walk_say "STEP leave1"; try dsimp only)))
    k_dflt (refine' kdl_view_values (knd := PySem.intKind _ _) F4 N4 (mDi4 _) hoi loD ?_)
    intro Dv h7 F7 N7 l7
    repeat' ((fail_if_success (with_reducible show wpAny _ _ (call (Value.builtin "min") _) _ _ _)); (first | (k_unfold; (try dsimp only)) | (k_end; wrow_close) | walk1 | (dsimp only; walk1) | (leave1; walk_say "STEP leave1"; try dsimp only)))
    k_dflt (refine' min_vals (kvs := kvs) (row := r.2) ?hh F7 N7 List.mem_cons_self (List.mem_cons_of_mem _ (mDi4 _)) hoi hrow ?hn ?_; (case hh => rfl); (case hn => exact hne r (List.mem_of_getElem? hr)))
    intro h8 M t8 tk8 F8 N8 hM hle
    k_steps
    refine ⟨h8, _, _, rfl, F8, (fun q hq => N8 q (List.mem_cons_of_mem _ (List.mem_cons_of_mem _ hq))), hoff, rfl, ms ++ [M], hys.append (.cons _ _ .nil), ?_⟩
    rw [List.take_succ, hr]
    exact Paired.snoc hms ⟨hM, hle⟩
  · intro Dq ysq nDq nxq Hq tkq hlenq hHi7 hDq Fq Nq
    ((try show wpAny _ _ _ _ _ _); (try k_fold))
    first | (have hE3 := (And.left hHi7); subst hE3; have ms := (And.left (And.right hHi7)); have hys := (And.left (And.right (And.right hHi7))); have hms := (And.right (And.right (And.right hHi7))); try clear hHi7) | (refine hideE fun GG hGG => ?_; obtain ⟨rfl, ms, hys, hms⟩ := hHi7; refine hGG ?_; clear hGG GG)
    (try dsimp only)
    ((try show wpAny _ _ _ _ _ _); (try k_fold))
    repeat' ((fail_if_success (with_reducible show wpAny _ _ (call (Value.builtin "sum") _) _ _ _)); (first | (k_unfold; (try dsimp only)) | (k_end; wrow_close) | walk1 | (dsimp only; walk1) | (leave1; walk_say "STEP leave1"; try dsimp only)))
    k_dflt (refine' PyProof.Rows.LSm.sum_ints Fq Nq ?hh (News.isList Nq List.mem_cons_self) hys ?_; (case hh => rfl))
    intro h9 tk9 t9 F9 N9
    k_steps
    refine hret _ _ _ _ (by k_asm) (by k_asm) ⟨⟨ms, t9, ?_, rfl⟩, fun q hq => List.mem_cons_of_mem _ (List.mem_cons_of_mem _ hq)⟩
    rw [List.length_map, List.take_of_length_le (by rw [pc.length]; exact Nat.le_refl _)] at hms
    exact hms
end
end N240
end
-- Own
section
open PySem PySem.W PyProof.Rows PySem.Spec PySem.Calls
namespace N240
variable {w : World} {p : Program} {loose : List Str} {mean : ExcName → Option Value} {mg mb : Str → Option Value}
/-- a table without its empty rows -/
def ownT (T : Tab) : Tab := T.filter fun r => !r.2.isEmpty
def OwnI (w : World) (R : Led) (T : Tab) (i : Nat) (ys : List (List Int × Addr × Value)) (nx : Led) : Prop := nx = R ∧ KeysIn w R ys ∧ Paired (fun x r => x.1 = r.1 ∧ RowV w R x.2.2 r.2) ys (ownT (T.take i))
theorem ownT_succ {T : Tab} {i : Nat} {r : List Int × List (Int × Int)} (h : T[i]? = some r) : ownT (T.take (i + 1)) = ownT (T.take i) ++ (if r.2 = [] then [] else [r]) := by
  unfold ownT
  rw [List.take_add_one, h, List.filter_append]
  first | (have k := (And.left r); have l := (And.right r); try clear r) | (obtain ⟨k, l⟩ := r)
  cases l <;> rfl
theorem ownT_len (T : Tab) (i : Nat) : (ownT (T.take i)).length ≤ i := by
  unfold ownT
  exact Nat.le_trans (List.length_filter_le _ _) (by rw [List.length_take]; exact Nat.min_le_left _ _)
theorem ownT_new {T : Tab} {i : Nat} {r : List Int × List (Int × Int)} (hn : (T.map (·.1)).Nodup) (h : T[i]? = some r) : r.1 ∉ (ownT (T.take i)).map (·.1) := by
  intro hm
  have hHi2 := List.mem_map.mp hm
  first | (have q := (And.left hHi2); have hq := (And.left (And.right hHi2)); have e := (And.right (And.right hHi2)); try clear hHi2) | (refine hideE fun GG hGG => ?_; obtain ⟨q, hq, e⟩ := hHi2; refine hGG ?_; clear hGG GG)
  have hq2 : q ∈ T.take i := (List.mem_filter.mp hq).1
  have h1 : (T.map (·.1))[i]? = some r.1 := by rw [List.getElem?_map, h]; rfl
  refine not_mem_take hn h1 ?_
  rw [← List.map_take]
  exact List.mem_map.mpr ⟨q, hq2, e⟩
section
set_option maxRecDepth 100000 in
set_option maxHeartbeats 400000 in
theorem own_ok {k9 : ScopeKind} {n9 : List (Str × NameKind)} {g9 c9 : Bool} {m9 : List (Str × Const)} {kx vx : Expr} {gens : List Comprehension} {scp : Scope} {pos pos2 px : Pos}
    (hsc : scopeAt (N240.hd.heap_39 w.params) 156 = ⟨k9, n9, g9, c9, m9⟩) (hst : (bodyAt (N240.hd.heap_39 w.params) 156)[10]? = some (.Assign [.Name (Str.ofString "own") px] (.DictComp kx vx gens scp pos) pos2))
    {dp un : Nat} {gd : Option (List Code)} {cn : Str} {a : Addr} {ccd : Value} {outer : List Env} {h₀ : Heap} {L : Addr} {m : Str → Option Value} {s : Shared} {Q : Flow → Shared → Prop} {E : Value → Shared → Prop} {R : Led} {dc : Addr} {o2 oz : Obj} {Tb : Tab}
    (F : Fr h₀ L s.heap m) (X : (N240.hd.heap_39 w.params).In h₀) (N : News h₀ L s.heap R) (T : Top p loose mean mg mb h₀) (m2 : (L + 1 + 1, o2) ∈ R) (e2 : o2.data = .cell (some (.ref dc))) (loc : (dc == sysModules) = false) (mc : (dc, oz) ∈ R) (hT : TabO w R oz Tb) (hlen : Tb.length ≤ 6)
    (hd : dp + 10 < recursionLimit) (hu : un + 80 < cLine) (hret : ∀ D oD h' tk', Fr h₀ L h' (fun z => if z = Str.ofString "own" then some (.ref D) else m z) → News h₀ L h' ((D, oD) :: R) → (D == sysModules) = false → (∀ p ∈ R, p.1 ≠ D) → TabO w R oD (ownT Tb) → Q .next { s with heap := h', toks := tk' }) :
    wpAny (model pg w) { handled := none, depth := dp, frames := some (envOfC cn ⟨k9, n9, g9, c9, m9⟩ L a ccd :: outer), guards := gd, units := un } (exec (.Assign [.Name (Str.ofString "own") px] (.DictComp kx vx gens scp pos) pos2) (envOfC cn ⟨k9, n9, g9, c9, m9⟩ L a ccd)) Q E s := by
  with_unfolding_all cases hsc
  with_unfolding_all cases hst
  first | (have xc := (And.left hT); have toc := (And.left (And.right hT)); have kc := (And.left (And.right (And.right hT))); have pc := (And.right (And.right (And.right hT))); try clear hT) | (refine hideE fun GG hGG => ?_; obtain ⟨xc, toc, kc, pc⟩ := hT; refine hGG ?_; clear hGG GG)
  have hHi4 := toc.lit
  first | (have ec := (And.left hHi4); have hec := (And.right hHi4); try clear hHi4) | (obtain ⟨ec, hec⟩ := hHi4)
  have hlx : xc.length ≤ 6 := by rw [pc.length]; exact hlen
  have hnd : (Tb.map (·.1)).Nodup := by rw [← Paired.keysT pc]; exact toc_nodup toc
  subst hec
  w_top off
  have hFill : PySem.Challenge.rw_nz0240_01 = PySem.Challenge.rw_nz0240_01 ∧ N240.hd.heap_39 = N240.hd.heap_39 → True := fun _ => trivial
  (first | (revert hFill; k_fill; intro hFill; clear hFill))
  k_dflt (refine' comp_dictTA (x := Str.ofString "key") (h₀ := h₀) (L := L) (m := m) ?hroom ?hLe ?hsw ?hy ?hpp ?hclos ?hcell ?hkind ?hnames ?hx ?_ ?hbig ?hs; (case hroom => first | k_units | ktr_units); (case hLe => rfl); (case hsw => with_unfolding_all rfl); (case hy => with_unfolding_all rfl); (case hpp => with_unfolding_all rfl); (case hclos => with_unfolding_all rfl); (case hcell => decide); (case hkind => rfl); (case hnames => decide); (case hx => rfl); (case hbig => exact modules_low (Top.nolimit T)); (case hs => intro _; with_unfolding_all rfl))
  repeat' ((fail_if_success (with_reducible show wpAny _ _ (pyIter _) _ _ _)); (first | (k_unfold; (try dsimp only)) | (k_end; wrow_close) | walk1 | (dsimp only; walk1) | (leave1; walk_say "STEP leave1"; try dsimp only)))
  k_dflt (refine' iter_dictA (d := dc) ?hh F N loc ?hm ?_; (case hh => rfl); (case hm => exact mc))
  intro I1 H1 St1 F1 N1 hI1 hI2 hI3 hI4 W1 live1 st1
  refine ⟨I1, _, _, _, _, [(dc, W.dictOf (xc.map (entryOfKey (tK w))) ec)], OwnI w R Tb, rfl, (fun i ys nx hI => ⟨fun p hp => by rw [hI.1, List.mem_singleton.mp hp]; exact mc, by rw [hI.1]; exact hI.2.1, by rw [hI.2.2.length]; exact ownT_len _ _⟩), W1, live1, ?_, st1, hI1, hI2, hI3, fun p hp => Nat.ne_of_lt (hI4 p hp), F1, N1, ⟨rfl, (fun _ h => nomatch h), .nil⟩, ?_, ?_⟩
  · exact line_small (by rw [List.length_map]; omega)
  · intro i v ys nx C Dd oC oD oI H tk mC E' hin hP hHi5 hoff hCD hCI hDI F3 N3 hC hk3
    first | (have hE1 := (And.left hHi5); subst hE1; have hky := (And.left (And.right hHi5)); have hpy := (And.right (And.right hHi5)); try clear hHi5) | (refine hideE fun GG hGG => ?_; obtain ⟨rfl, hky, hpy⟩ := hHi5; refine hGG ?_; clear hGG GG)
    have hHi6 : ∃ x, xc[i]? = some x ∧ v = Value.ref x.2.1 := by
      obtain ⟨e, he, hv⟩ := hP
      rw [List.getElem?_map] at he
      cases hx : xc[i]? with
      | none => rw [hx] at he; cases he
      | some x => rw [hx] at he; exact ⟨x, rfl, by rw [hv, ← Option.some.inj he]; rfl⟩
    first | (have hE2 := (And.right (And.right hHi6)); subst hE2; have x := (And.left hHi6); have hx := (And.left (And.right hHi6)); try clear hHi6) | (refine hideE fun GG hGG => ?_; obtain ⟨x, hx, rfl⟩ := hHi6; refine hGG ?_; clear hGG GG)
    have hHi7 := Paired.at pc i x hx
    first | (have r := (And.left hHi7); have hr := (And.left (And.right hHi7)); have exr := (And.left (And.right (And.right hHi7))); have Di := (And.left (And.right (And.right (And.right hHi7)))); have oi := (And.left (And.right (And.right (And.right (And.right hHi7))))); have kvs := (And.left (And.right (And.right (And.right (And.right (And.right hHi7)))))); have eDi := (And.left (And.right (And.right (And.right (And.right (And.right (And.right hHi7))))))); have mDi := (And.left (And.right (And.right (And.right (And.right (And.right (And.right (And.right hHi7)))))))); have hoi := (And.left (And.right (And.right (And.right (And.right (And.right (And.right (And.right (And.right hHi7))))))))); have hrow := (And.left (And.right (And.right (And.right (And.right (And.right (And.right (And.right (And.right (And.right hHi7)))))))))); have loD := (And.right (And.right (And.right (And.right (And.right (And.right (And.right (And.right (And.right (And.right hHi7)))))))))); try clear hHi7) | (refine hideE fun GG hGG => ?_; obtain ⟨r, hr, exr, Di, oi, kvs, eDi, mDi, hoi, hrow, loD⟩ := hHi7; refine hGG ?_; clear hGG GG)
    have up : ∀ q ∈ nx, q ∈ (C, oC) :: (Dd, oD) :: (I1, oI) :: nx := fun q hq => by simp [hq]
    have kc3 : KeysIn w ((C, oC) :: (Dd, oD) :: (I1, oI) :: nx) xc := kc.mono fun p hp _ => up p hp
    have n3C := (N3 (C, oC) (by simp)).1
    refine wpAny_tests_one ?_
    ((try show wpAny _ _ _ _ _ _); (try k_fold))
    repeat' ((fail_if_success (with_reducible show wpAny _ _ (subscriptTail _ _ _ _) _ _ _)); (first | (k_unfold; (try dsimp only)) | (k_end; wrow_close) | walk1 | (dsimp only; walk1) | (leave1; walk_say "STEP leave1"; try dsimp only)))
    k_dflt (refine' td_get (k := x.1) (p := x.2) (o := W.dictOf (xc.map (entryOfKey (tK w))) ec) (xs := xc) ?hu N3 ?hm toc ?hks ?hk ?hp ?_ ?hs ?ht; (case hu => first | k_units | ktr_units); (case hm => exact up _ mc); (case hks => exact kc3); (case hk => exact kc3 x (List.mem_of_getElem? hx)); (case hp => exact atKey_of_get (toc_nodup toc) hx); (case hs => with_unfolding_all rfl); (case ht => intro _; with_unfolding_all rfl))
    intro tk5
    dsimp only
    rw [eDi]
    repeat' ((fail_if_success (with_reducible show wpAny _ _ (compareOp _ _ _) _ _ _)); (first | (k_unfold; (try dsimp only)) | (k_end; wrow_close) | walk1 | (dsimp only; walk1) | (leave1; walk_say "STEP leave1"; try dsimp only)))
    rename Obj.IsDictOf (intKind pg w) _ [] => hi4
    rename News _ _ _ (_ :: _) => N4
    rename Fr _ _ _ _ => F4
    rename (_ == sysModules) = false => lo4
    have hC4 := ns_carry hC n3C (N4 (C, oC) (by simp)).1
    clear hC
    have hkv : kvs = [] ↔ r.2 = [] := by
      have hl := hrow.length
      constructor
      · intro e
        rw [e] at hl
        exact List.eq_nil_of_length_eq_zero hl.symm
      · intro e
        rw [e] at hl
        exact List.eq_nil_of_length_eq_zero hl
    k_dflt (refine' row_ne (kvs := kvs) N4 ?ma ?mb hoi hi4 loD lo4 ?hu ?_; (case ma => exact List.mem_cons_of_mem _ (up _ mDi)); (case mb => exact List.mem_cons_self); (case hu => first | k_units | ktr_units))
    by_cases hrn : r.2 = []
    · have hf : ¬ (kvs ≠ []) := fun h => h (hkv.mpr hrn)
      rw [decide_eq_false hf]
      k_steps
      show DPost w h₀ L m _ _ _ _ _ _ _ _ _ _ _
      refine ⟨_, _, _, rfl, F4, (fun q hq => N4 q (List.mem_cons_of_mem _ hq)), hoff, rfl, hky, ?_⟩
      rw [ownT_succ hr, if_pos hrn, List.append_nil]
      exact hpy
    · have hf : kvs ≠ [] := fun h => hrn (hkv.mp h)
      rw [decide_eq_true hf]
      repeat' ((fail_if_success (with_reducible show wpAny _ _ (subscriptTail _ _ _ _) _ _ _)); (first | (k_unfold; (try dsimp only)) | (k_end; wrow_close) | walk1 | (dsimp only; walk1) | (leave1; walk_say "STEP leave1"; try dsimp only)))
      k_dflt (refine' td_get (k := x.1) (p := x.2) (o := W.dictOf (xc.map (entryOfKey (tK w))) ec) (xs := xc) ?hu N4 ?hm toc ?hks ?hk ?hp ?_ ?hs ?ht; (case hu => first | k_units | ktr_units); (case hm => exact List.mem_cons_of_mem _ (up _ mc)); (case hks => exact kc3.mono fun p hp _ => List.mem_cons_of_mem _ hp); (case hk => exact (kc3.mono fun p hp _ => List.mem_cons_of_mem _ hp) x (List.mem_of_getElem? hx)); (case hp => exact atKey_of_get (toc_nodup toc) hx); (case hs => with_unfolding_all rfl); (case ht => intro _; with_unfolding_all rfl))
      intro tk6
      dsimp only
      have hk0 := kc x (List.mem_of_getElem? hx)
      have hnk : x.1 ∉ ys.map (·.1) := by
        rw [Paired.keysT hpy, exr]
        exact ownT_new hnd hr
      refine ⟨x.2.1, x.1, rfl, hk0, ?_⟩
      rw [storedH_new (atKey_new hnk)]
      refine ⟨_, _, _, rfl, F4, (fun q hq => N4 q (List.mem_cons_of_mem _ hq)), hoff, ⟨rfl, ?_, ?_⟩, fun _ h => h⟩
      · intro y hy
        rcases List.mem_append.mp hy with hy | hy
        · exact hky y hy
        · rw [List.mem_singleton.mp hy]
          exact hk0
      · rw [ownT_succ hr, if_neg hrn]
        exact Paired.snoc hpy ⟨exr, Di, oi, kvs, eDi, mDi, hoi, hrow, loD⟩
  · intro D7 ys7 oD7 nx7 H7 tk7 hHi8 hTo hD7 lo7 F7 N7
    ((try show wpAny _ _ _ _ _ _); (try k_fold))
    first | (have hE3 := (And.left hHi8); subst hE3; have hky := (And.left (And.right hHi8)); have hpy := (And.right (And.right hHi8)); try clear hHi8) | (refine hideE fun GG hGG => ?_; obtain ⟨rfl, hky, hpy⟩ := hHi8; refine hGG ?_; clear hGG GG)
    refine hret D7 oD7 H7 tk7 F7 N7 lo7 hD7 ⟨ys7, hTo, hky, ?_⟩
    rw [List.length_map, List.take_of_length_le (by rw [pc.length]; exact Nat.le_refl _)] at hpy
    exact hpy
end
end N240
end
-- PLaw
section
open PySem PySem.W PyProof.Rows PySem.Spec PySem.Calls
namespace N240
theorem getM_new {M : CMap} {k : List Int} {v : Int} (h : k ∉ M.map (·.1)) : getM (M ++ [(k, v)]) k = some v := by
  unfold getM
  rw [List.find?_append]
  have e : (M.find? fun q => decide (q.1 = k)) = none := by
    rw [List.find?_eq_none]
    intro q hq he
    exact h (List.mem_map.mpr ⟨q, hq, of_decide_eq_true he⟩)
  rw [e]
  simp
theorem getM_old {M : CMap} {k k' : List Int} {v : Int} (h : k' ≠ k) : getM (M ++ [(k, v)]) k' = getM M k' := by
  unfold getM
  rw [List.find?_append]
  cases (M.find? fun q => decide (q.1 = k')) with
  | some q => rfl
  | none =>
    rw [List.find?_cons_of_neg (by simpa using Ne.symm h)]
    rfl
theorem cost1_new {M : CMap} {r : List Int × List (Int × Int)} {v : Int} (h : r.1 ∉ M.map (·.1)) : cost1 (M ++ [(r.1, v)]) r = rowGet r.2 v := by
  unfold cost1
  rw [getM_new h]
theorem cost1_old {M : CMap} {r : List Int × List (Int × Int)} {k : List Int} {v : Int} (h : r.1 ≠ k) : cost1 (M ++ [(k, v)]) r = cost1 M r := by
  unfold cost1
  rw [getM_old h]
theorem sum_old {M : CMap} {k : List Int} {v : Int} : ∀ {T : Tab}, k ∉ T.map (·.1) → T.map (cost1 (M ++ [(k, v)])) = T.map (cost1 M)
  | [], _ => rfl
  | r :: T, h => by
    rw [List.map_cons, List.mem_cons, not_or] at h
    rw [List.map_cons, List.map_cons, cost1_old (Ne.symm h.1), sum_old h.2]
theorem sum_diff {M : CMap} {r : List Int × List (Int × Int)} {v u : Int} : ∀ {T : Tab}, (T.map (·.1)).Nodup → r ∈ T → r.1 ∉ M.map (·.1) →
    (T.map (cost1 (M ++ [(r.1, v)]))).sum + rowGet r.2 u = (T.map (cost1 (M ++ [(r.1, u)]))).sum + rowGet r.2 v
  | [], _, h, _ => nomatch h
  | x :: T, hn, h, hm => by
    rw [List.map_cons, List.nodup_cons] at hn
    rw [List.map_cons, List.map_cons, List.sum_cons, List.sum_cons]
    rcases List.mem_cons.mp h with e | h
    · subst e
      rw [cost1_new hm, cost1_new hm, sum_old hn.1, sum_old hn.1]
      omega
    · have hne : x.1 ≠ r.1 := fun e => hn.1 (by rw [e]; exact List.mem_map.mpr ⟨r, h, rfl⟩)
      have ih := sum_diff (v := v) (u := u) hn.2 h hm
      rw [cost1_old hne, cost1_old hne]
      omega
theorem lsize_flat (T : Tab) (M : CMap) : lsize T 0 M = (T.map (cost1 M)).sum := by
  unfold lsize totTo
  rw [List.take_of_length_le (Nat.le_refl _), Int.zero_mul, Int.add_zero]
/-- the choice is the first least -/
theorem bestStep_le {T : Tab} {toll : Int} {M : CMap} {k : List Int} : ∀ (l : List Int) (b : Option (Int × Int)) (q : Int × Int), l.foldl (bestStep T toll M k) b = some q → (∀ p, b = some p → q.2 ≤ p.2) ∧ ∀ v ∈ l, q.2 ≤ lsize T toll (M ++ [(k, v)])
  | [], b, q, h => ⟨fun p hp => by
      have h : b = some q := h
      rw [h] at hp
      rw [Option.some.inj hp]
      exact Int.le_refl _, fun _ hv => nomatch hv⟩
  | v :: r, b, q, h => by
    rw [List.foldl_cons] at h
    obtain ⟨h1, h2⟩ := bestStep_le r _ q h
    refine ⟨fun p hp => ?_, fun u hu => ?_⟩
    · subst hp
      unfold bestStep at h1
      dsimp only at h1
      split at h1
      · rename_i hlt
        have := h1 _ rfl
        dsimp only at this
        omega
      · exact h1 _ rfl
    · rcases List.mem_cons.mp hu with e | hu
      · subst e
        unfold bestStep at h1
        split at h1
        · exact h1 _ rfl
        · rename_i p
          split at h1
          · exact h1 _ rfl
          · have := h1 _ rfl
            omega
      · exact h2 u hu
theorem bestOf_le {T : Tab} {toll : Int} {M : CMap} {k ns : List Int} {q : Int × Int} (h : bestOf T toll M k ns = some q) : ∀ v ∈ ns, q.2 ≤ lsize T toll (M ++ [(k, v)]) := (bestStep_le ns none q h).2
theorem rowGet_at : ∀ {row : List (Int × Int)}, (row.map (·.1)).Nodup → ∀ e ∈ row, rowGet row e.1 = e.2
  | [], _, e, h => nomatch h
  | x :: r, hn, e, h => by
    rw [List.map_cons, List.nodup_cons] at hn
    rcases List.mem_cons.mp h with h | h
    · subst h
      unfold rowGet
      rw [List.find?_cons_of_pos (by simp)]
      rfl
    · have hne : x.1 ≠ e.1 := fun q => hn.1 (by rw [q]; exact List.mem_map.mpr ⟨e, h, rfl⟩)
      have ih := rowGet_at hn.2 e h
      unfold rowGet at ih ⊢
      rw [List.find?_cons_of_neg (by simpa using hne)]
      exact ih
theorem gTo_mem {T : Tab} {toll n most : Int} {ks : List (List Int)} {i : Nat} (hi : i ≤ ks.length) : ∀ q ∈ (gTo T toll n most ks i).1, q.1 ∈ ks.take i := fun q hq => (gI_to T toll n most ks i hi).1.subset (List.mem_map.mpr ⟨q, hq, rfl⟩)
/-- with no toll each key's own choice is the least of its row -/
theorem greedy_least {T : Tab} {n most : Int} {ks : List (List Int)} (hg : GoodAll T n most ks) : ∀ i, i ≤ ks.length → ∀ (j : Nat) (r : List Int × List (Int × Int)), j < i → T[j]? = some r → r.2 ≠ [] → LeastP r (cost1 (gTo T 0 n most ks i).1 r)
  | 0, _, _, _, hj, _, _ => absurd hj (Nat.not_lt_zero _)
  | i + 1, hi, j, r, hj, hr, hne => by
    obtain ⟨hpw, hgk, hks, hgt, hsix⟩ := hg
    have hn : ks.Nodup := hgk.1
    have hnT : (T.map (·.1)).Nodup := by rw [hks]; exact hn
    have hki : ks[i]? = some ks[i] := List.getElem?_eq_getElem hi
    have hrk : ks[j]? = some r.1 := by rw [← hks, List.getElem?_map, hr]; rfl
    have hrT : r ∈ T := List.mem_of_getElem? hr
    have hrow := hgt r hrT
    rw [gTo_succ hki]
    unfold gStep
    by_cases hji : j = i
    · subst hji
      have ek : r.1 = ks[j] := by rw [hki] at hrk; exact (Option.some.inj hrk).symm
      have hvals : keyVals n most r.1 ≠ [] := by
        intro e
        rw [← hrow.1] at e
        exact hne (List.map_eq_nil_iff.mp e)
      rw [← ek]
      obtain ⟨q, hq⟩ := bestOf_some (T := T) (toll := 0) (M := (gTo T 0 n most ks j).1) (k := r.1) hvals
      rw [hq]
      dsimp only
      have hnew : r.1 ∉ (gTo T 0 n most ks j).1.map (·.1) := (gI_to T 0 n most ks j (by omega)).new hn hrk
      rw [cost1_new hnew]
      obtain ⟨hm, hs⟩ := bestOf_mem hq
      have hnd : (r.2.map (·.1)).Nodup := by rw [hrow.1]; exact kindVals_nodup _ _ _
      rw [← hrow.1] at hm
      obtain ⟨e, he, ee⟩ := List.mem_map.mp hm
      refine ⟨?_, fun x hx => ?_⟩
      · rw [← ee, rowGet_at hnd e he]
        exact List.mem_map.mpr ⟨e, he, rfl⟩
      · have hxv : x.1 ∈ keyVals n most r.1 := by rw [← hrow.1]; exact List.mem_map.mpr ⟨x, hx, rfl⟩
        have hle := bestOf_le hq x.1 hxv
        rw [hs, lsize_flat, lsize_flat] at hle
        have hd := sum_diff (v := q.1) (u := x.1) hnT hrT hnew
        rw [rowGet_at hnd x hx] at hd
        omega
    · have ih := greedy_least ⟨hpw, hgk, hks, hgt, hsix⟩ i (by omega) j r (by omega) hr hne
      have hne2 : r.1 ≠ ks[i] := by
        intro e
        rw [e, ← hki] at hrk
        have hjl : j < ks.length := by omega
        exact hji ((List.getElem?_inj hjl hn).mp hrk)
      split
      · exact ih
      · dsimp only
        rw [cost1_old hne2]
        exact ih
theorem least_one {r : List Int × List (Int × Int)} {a b : Int} (ha : LeastP r a) (hb : LeastP r b) : a = b := by
  obtain ⟨x, hx, ex⟩ := List.mem_map.mp ha.1
  obtain ⟨y, hy, ey⟩ := List.mem_map.mp hb.1
  have h1 := ha.2 y hy
  have h2 := hb.2 x hx
  omega
theorem least_sum {f : List Int × List (Int × Int) → Int} {T : Tab} {ms : List Int} (p : Paired LeastP T ms) : (∀ r ∈ T, LeastP r (f r)) → (T.map f).sum = ms.sum := by
  induction p with
  | nil => exact fun _ => rfl
  | cons a _ ih =>
    intro h
    rw [List.map_cons, List.sum_cons, List.sum_cons, least_one (h _ List.mem_cons_self) a, ih fun r hr => h r (List.mem_cons_of_mem _ hr)]
/-- without a toll no other conditioning costs less -/
theorem law_plain {T : Tab} {n most : Int} {ks : List (List Int)} {ms : List Int} (hg : GoodAll T n most ks) (h : Paired LeastP (ownT T) ms) : lsize (ownT T) 0 (gTo T 0 n most ks ks.length).1 = ms.sum := by
  rw [lsize_flat]
  refine least_sum h fun r hr => ?_
  obtain ⟨hm, hf⟩ := List.mem_filter.mp hr
  obtain ⟨j, hj, e⟩ := List.getElem_of_mem hm
  have hl : T.length = ks.length := by rw [← hg.2.2.1, List.length_map]
  refine greedy_least hg ks.length (Nat.le_refl _) j r (by omega) (by rw [List.getElem?_eq_getElem hj, e]) fun e2 => ?_
  rw [e2] at hf
  exact absurd hf (by decide)
theorem ownT_good {T : Tab} {M : CMap} (h : GoodMap T M) : GoodMap (ownT T) M := ⟨h.1, h.2.1, fun q hq => ⟨(h.2.2 q hq).1, fun r hr e => (h.2.2 q hq).2 r (List.mem_filter.mp hr).1 e⟩⟩
theorem ownT_ne {T : Tab} : ∀ r ∈ ownT T, r.2 ≠ [] := fun r hr e => by
  have := (List.mem_filter.mp hr).2
  rw [e] at this
  exact absurd this (by decide)
end N240
end
-- LEnd1
section
open PySem PySem.W PyProof.Rows PySem.Spec PySem.Calls
namespace N240
set_option maxRecDepth 100000 in
set_option maxHeartbeats 400000 in
theorem law_end {cl : Str → Option Addr} {mean : ExcName → Option Value} {ns : List Int} {sA : Shared} {L h : Heap} {l : Addr} {m : Str → Option Value} {R : Led} {ps : Array Value} {tk : Nat} (hg : sA.gens = #[]) (F : Fr L l h m) (N : News L l h R) (hT : (153, tabObj ps) ∈ R) :
    GoodW PySem.Challenge.rw_nz0240_01.row.claim cl mean [ofPy (PyData.list (ns.map PyData.int))] { heap := L, gens := sA.gens, drawn := sA.drawn, toks := sA.toks, os := sA.os } (Except.ok (Flow.ret (Value.bool true))) { heap := h, gens := sA.gens, drawn := sA.drawn, toks := tk, os := sA.os } ∧ GrownAll [(155, 153)] h := by
  refine ⟨?_, ⟨ps, (N _ hT).1⟩, trivial⟩
  refine goodW_bool F hg (raisesW_false ?_) ?_
  · wrow_none_raised
  · kc_post
end N240
end
-- KitP
section
open PySem PySem.W PyProof.Rows PySem.Spec PySem.Calls
namespace N240
section
variable {prog : Program} {w : World} {A : Around} {E : Value → Shared → Prop} {s : Shared} {env : Env} {h₀ : Heap} {x : Str} {body : List Stmt} {Q : Flow → Shared → Prop}
/-- a for over a list of the given heap -/
theorem loop_listB {σ : Type} {l : Addr} {vs : List Value} {m₀ : Str → Option Value} {news : Led}
    (ps : σ → List (Str × Value)) (stored : List Str) (Iv : Nat → σ → Led → Prop) (c₀ : σ)
    (up : ∀ i c R R', (∀ p ∈ R, Solid p.2 ∨ p.1 < s.heap.objs.size → p ∈ R') → Iv i c R → Iv i c R')
    (hh : A.handled = none) (hl : h₀.IsList l vs.toArray)
    (F : Fr h₀ env.locals s.heap m₀) (N : News h₀ env.locals s.heap news) (h0 : Iv 0 c₀ news) (hk : ∀ p ∈ ps c₀, m₀ p.1 = some p.2)
    (turn : ∀ i v c nx (u : Str → Option Value) h tk, vs[i]? = some v → Iv i c nx → Fr h₀ env.locals h (fun y => if y = x then some v else kstB (fun z => if stored.contains z then u z else m₀ z) (ps c) y) → News h₀ env.locals h nx →
      wpAny (model prog w) A (execs body env) (LPost h₀ env.locals x [] nx ps stored m₀ (Iv (i + 1)) { s with heap := h, toks := tk } Q) E { s with heap := h, toks := tk })
    (done : ∀ c nx (u : Str → Option Value) h tk, Iv vs.length c nx → Fr h₀ env.locals h (fun y => if y = x then u y else kstB (fun z => if stored.contains z then u z else m₀ z) (ps c) y) → News h₀ env.locals h nx → Q .next { s with heap := h, toks := tk }) :
    wpAny (model prog w) A (pyIter (.ref l)) (fun it s₂ => LoopAtV prog w A h₀ env x body Q E it s₂) E s := by
  have hls : s.heap.IsList l vs.toArray := hl.at fun o e => F.keep l o e
  have hHi1 := id hl
  first | (have ol := (And.left hHi1); have hol := (And.left (And.right hHi1)); have hU1 := (And.right (And.right hHi1)); try clear hHi1) | (refine hideE fun GG hGG => ?_; obtain ⟨ol, hol, _⟩ := hHi1; refine hGG ?_; clear hGG GG)
  have hlt : l < h₀.objs.size := Heap.lt_size hol
  have hne : l ≠ s.heap.objs.size := Nat.ne_of_lt (Nat.lt_trans (Nat.lt_of_lt_of_le hlt F.above) F.ns.lt)
  refine wpAny_pyIter_list hls ?_
  have W := Walks.list (prog := prog) (w := w) hh s.heap.objs.size l hne vs.toArray
  have hlen : vs.toArray.size = vs.length := by simp
  rw [hlen] at W
  have hnI : ∀ p ∈ news, p.1 ≠ s.heap.objs.size := fun p hp => Nat.ne_of_lt (Heap.lt_size (N p hp).1)
  have hI0 : h₀.get? s.heap.objs.size = none := next_is_new F
  refine loop_core (keep := []) (n := vs.length) ps stored Iv c₀ up W (fun i h st => iter_not_solid st.1) hI0 (List.mem_cons_self ..) (fun hm => (List.mem_cons.mp hm).elim (fun e => absurd F.ns.lt (e ▸ Nat.lt_irrefl _)) fun hm => absurd (Nat.lt_of_lt_of_le hlt F.above) ((List.mem_singleton.mp hm) ▸ Nat.lt_irrefl _)) hnI (fun _ h => nomatch h)
    (fun b hb => (List.mem_cons.mp hb).elim .inl fun e => .inr (.inr (by rw [List.mem_singleton.mp e, hol]; exact Option.some_ne_none _))) ⟨⟨_, Heap.get?_push_size _ rfl, rfl, rfl⟩, hls.at fun o e => Heap.get?_push_of_some _ e⟩ (F.push _) (fun p hp => ⟨Heap.get?_push_of_some _ (N p hp).1, (N p hp).2⟩) h0 hk
    (fun i v c nx u h tk hin hP _ => turn i v c nx u h tk (by simpa using hP)) fun c nx u h tk _ => done c nx u h tk
end
/-- a contract of a def that reads a list of the given heap -/
def FnOkB (w : World) (p : Program) (loose : List Str) (mean : ExcName → Option Value) (mg mb : Str → Option Value) (d u : Nat) (f : Value) (l : Addr) (xs : List Value) (news : Led) (Post : Value → Led → Prop) : Prop :=
  ∀ (dp un : Nat) (gd : Option (List Code)) (cn : Str) (cs : Scope) (a : Addr) (ccd : Value) (cl : List (Str × Addr)) (outer : List Env) (A₀ : Around) (base h₀ : Heap) (L : Addr) (m : Str → Option Value) (s : Shared) (Q E : Value → Shared → Prop),
    h₀.IsList l xs.toArray → Below A₀ base outer h₀ → Fr h₀ L s.heap m → (N240.hd.heap_39 w.params).In h₀ → News h₀ L s.heap news → Top p loose mean mg mb h₀ → cs.kind = .function → dp + d < recursionLimit → un + u < cLine →
    (∀ v news' h' tk', Fr h₀ L h' m → News h₀ L h' news' → Post v news' → Q v { s with heap := h', toks := tk' }) →
    wpAny (model pg w) (ktrTop dp un gd cn cs L a ccd cl outer) (call f [.ref l]) Q E s
end N240
end
-- Pool
section
open PySem PySem.W PyProof.Rows PySem.Spec PySem.Calls
open PySem.Builtin.Int (intBits)
namespace N240
variable {w : World} {p : Program} {loose : List Str} {mean : ExcName → Option Value} {mg mb : Str → Option Value}
def PoolI (R : Led) (i : Nat) (c : (Int × Tok) × (Int × Tok)) (nx : Led) : Prop :=
  (∀ p ∈ R, p ∈ nx) ∧ 0 ≤ c.1.1 ∧ intBits c.1.1 ≤ i * 1048577 ∧ 0 ≤ c.2.1 ∧ c.2.1 < 2147483647
theorem PoolI.up {R : Led} {b : Addr} (hK : ∀ p ∈ R, p.1 < b) : ∀ i c R1 R2, (∀ p ∈ R1, Solid p.2 ∨ p.1 < b → p ∈ R2) → PoolI R i c R1 → PoolI R i c R2 := by
  intro i c R1 R2 hx hHi1
  first | (have a := (And.left hHi1); have e := (And.right hHi1); try clear hHi1) | (obtain ⟨a, e⟩ := hHi1)
  exact ⟨fun p hp => hx p (a p hp) (.inr (hK p hp)), e⟩
theorem ten18 : (10 : Int) ^ (Int.toNat 18) = 1000000000000000000 := by decide
/-- what the pool leaves -/
inductive PoolP (R : Led) (v : Value) (R' : Led) : Prop
  | mk (a : Addr) (dg : Int) (td : Tok) (mx : Int) (tm : Tok) (n : Nat) (e : v = .ref a) (k : ∀ q ∈ R, q ∈ R') (l : ∀ q ∈ R, q.1 < a) (m : (a, W.listOf #[.int dg td, .int mx tm] n) ∈ R') (h1 : 0 ≤ dg) (h2 : 0 ≤ mx) (h3 : mx < 2147483647) : PoolP R v R'
theorem bits_neg {k : Int} (h : k < 0) (hk : intBits k ≤ 1048576) : intBits (-1 - k) ≤ 1048576 := intBits_le_of_natAbs (by omega) hk
theorem pool_bits {dg k : Int} {i : Nat} (h1 : intBits dg ≤ i * 1048577) (h2 : intBits k ≤ 1048576) : intBits (dg * k + k) ≤ (i + 1) * 1048577 := by
  have h3 := intBits_add_le (intBits_mul_le h1 h2) h2
  have h4 : max (i * 1048577 + 1048576) 1048576 = i * 1048577 + 1048576 := Nat.max_eq_left (Nat.le_add_left _ _)
  rw [h4] at h3
  omega
theorem PoolI.to {R nx : Led} {i : Nat} {dg mx x : Int} {td tm : Tok} (h : ∀ p ∈ R, p ∈ nx) (h0 : 0 ≤ dg) (hb : intBits dg ≤ (i + 1) * 1048577) (he : mx = x.fmod 2147483647) : PoolI R (i + 1) ((dg, td), (mx, tm)) nx :=
  ⟨h, h0, hb, he ▸ Int.fmod_nonneg_of_pos _ (by decide), he ▸ Int.fmod_lt_of_pos _ (by decide)⟩
section
local macro_rules | `(tactic| mul_fits) => `(tactic| assumption)
set_option maxRecDepth 100000 in
set_option maxHeartbeats 400000 in
theorem pool_ok {l : Addr} {vs : List Value} {ns : List Int} {R : Led} (hi : IntsAre vs ns) (hlen : ns.length ≤ 63) (hb : ∀ x ∈ ns, intBits x ≤ 1048576) :
    FnOkB w p loose mean mg mb 2 20 (.ref 96) l vs R (PoolP R) := by
  unfold FnOkB
  intro dp un gd cn cs a ccd cl outer A₀ base h₀ L m s Q E hlsB B F X N T hk hd hu hret
  w_top off
  have hFill : PySem.Challenge.rw_nz0240_01 = PySem.Challenge.rw_nz0240_01 ∧ N240.hd.heap_39 = N240.hd.heap_39 → True := fun _ => trivial
  (first | (revert hFill; k_fill; intro hFill; clear hFill))
  refine wpAny_call ?_
  k_dflt (refine' code_def ?k1 ?k2 ?k3 ?k4 ?k5 ?kA ?kF ?kK ?k6 ?k7 ?k8 ?k9 ?kB ?_ ?c2 ?c3 ?c4 ?c5; (case kA => exact rfl); (case kF => exact rfl); (case kK => assumption); (case k1 => k_asm); (case k2 => k_asm); (case k3 => k_asm); (case k4 => k_asm); (case k5 => k_asm); (case k6 => k_is); (case k7 => k_is); (case k8 => ktr_room); (case k9 => exact BindsTo.of_eq rfl); (case c5 => decide); (case kB => exact locs rfl); (case c2 => exact rfl); (case c3 => exact rfl); (case c4 => exact rfl); k_whole)
  intro g' L' h' FG' F' N' B' X' T'
  (try dsimp only)
  ((try show wpAny _ _ _ _ _ _); (try k_fold))
  repeat' ((fail_if_success (with_reducible show wpAny _ _ (exec (Stmt.For _ _ _ _ _) _) _ _ _)); (first | (k_unfold; (try dsimp only)) | (k_end; wrow_close) | walk1 | (dsimp only; walk1) | (leave1; walk_say "STEP leave1"; try dsimp only)))
  rename_i tk0 aT hT lT hA hB h9 F9 N9
  have lt9 := news_lt N9
  have hlg : g'.IsList l vs.toArray := hlsB.at fun o e => FG'.keep l o e
  with_unfolding_all refine For_invVF F9 (by rfl) (by rfl) ?_
  repeat' ((fail_if_success (with_reducible show wpAny _ _ (pyIter _) _ _ _)); (first | (k_unfold; (try dsimp only)) | (k_end; wrow_close) | walk1 | (dsimp only; walk1) | (leave1; walk_say "STEP leave1"; try dsimp only)))
  refine loop_listB (x := Str.ofString "number") (fun c => [(Str.ofString "digits", Value.int c.1.1 c.1.2), (Str.ofString "mixed", Value.int c.2.1 c.2.2)]) [Str.ofString "number", Str.ofString "size"] (PoolI R) ((0, tk0), (83, tk0 + 1)) (PoolI.up fun q hq => lt9 q (List.mem_cons_of_mem _ hq)) rfl hlg F9 N9 ⟨fun q hq => List.mem_cons_of_mem _ hq, by show (0 : Int) ≤ 0; decide, by show intBits 0 ≤ 0 * 1048577; decide, by show (0 : Int) ≤ 83; decide, by show (83 : Int) < 2147483647; decide⟩ ?hk ?turn ?done
  case hk =>
    intro q hq
    rcases List.mem_cons.mp hq with e | hq
    · rw [e]
      dsimp only
      exact (if_neg (by decide)).trans (if_pos rfl)
    · rw [List.mem_singleton.mp hq]
      exact if_pos rfl
  case turn =>
    intro i v hHi2 nx u h6 tk6 hv hHi3 F6 N6
    ((try show wpAny _ _ _ _ _ _); (try k_fold))
    first | (have dg := (And.left (And.left hHi2)); have td := (And.right (And.left hHi2)); have mx := (And.left (And.right hHi2)); have tm := (And.right (And.right hHi2)); try clear hHi2) | (refine hideE fun GG hGG => ?_; obtain ⟨⟨dg, td⟩, mx, tm⟩ := hHi2; refine hGG ?_; clear hGG GG)
    first | (have hR6 := (And.left hHi3); have hd0 := (And.left (And.right hHi3)); have hdb := (And.left (And.right (And.right hHi3))); have hm0 := (And.left (And.right (And.right (And.right hHi3)))); have hm1 := (And.right (And.right (And.right (And.right hHi3)))); try clear hHi3) | (refine hideE fun GG hGG => ?_; obtain ⟨hR6, hd0, hdb, hm0, hm1⟩ := hHi3; refine hGG ?_; clear hGG GG)
    replace F6 : Fr g' L' h6 _ := F6
    replace N6 : News g' L' h6 nx := N6
    clear F9 N9
    dsimp only [kstB] at F6
    dsimp only at hd0 hdb hm0 hm1
    have hHi4 := ints_at hi hv
    first | (have hE1 := (And.right (And.right (And.right hHi4))); subst hE1; have k := (And.left hHi4); have tv := (And.left (And.right hHi4)); have hk := (And.left (And.right (And.right hHi4))); try clear hHi4) | (refine hideE fun GG hGG => ?_; obtain ⟨k, tv, hk, rfl⟩ := hHi4; refine hGG ?_; clear hGG GG)
    have hil : i < 63 := Nat.lt_of_lt_of_le (List.getElem?_eq_some_iff.mp hk).1 hlen
    have hkb := hb k (List.mem_of_getElem? hk)
    have mul1 : IntMulOk dg k := mulOk_of_bits hdb hkb (Nat.le_trans (Nat.add_le_add_right (Nat.mul_le_mul_right 1048577 (Nat.le_of_lt hil)) 1048576) (by decide))
    have mul2 : IntMulOk dg (-1 - k) := mulOk_of_bits hdb (intBits_sub_le (m := 1) (n := 1048576) (by decide) hkb) (by omega)
    ((try show wpAny _ _ _ _ _ _); (try k_fold))
    repeat' ((fail_if_success (with_reducible show wpAny _ _ (eval (Expr.IfExp _ _ _ _) _) _ _ _)); (first | (k_unfold; (try dsimp only)) | (k_end; wrow_close) | walk1 | (dsimp only; walk1) | (leave1; walk_say "STEP leave1"; try dsimp only)))
    refine IfExp_ ?_
    k_steps
    ·
      refine (?_ : LEnd g' L' _ [] nx _ _ _ _ _ _)
      refine' ⟨_, _, _, _, ((_, _), (_, _)), rfl, by assumption, by assumption, fun p hp _ => hp, (fun _ h => nomatch h), PoolI.to hR6 ?q1 ?q2 ?q3, ?q4, ?q5⟩
      case q4 =>
        intro q hq
        rcases List.mem_cons.mp hq with e | hq
        · rw [e]
          dsimp only
          repeat' (first | exact if_pos rfl | refine (if_neg (by decide)).trans ?_)
        · rw [List.mem_singleton.mp hq]
          dsimp only
          repeat' (first | exact if_pos rfl | refine (if_neg (by decide)).trans ?_)
      case q3 => exact rfl
      case q1 => first | assumption | (have e18 := ten18; first | exact Int.add_nonneg (Int.mul_nonneg hd0 (by omega)) (by omega))
      case q2 => first | exact pool_bits hdb hkb | exact pool_bits hdb (bits_neg (by omega) hkb) | exact Nat.le_trans hdb (by omega)
      case q5 =>
        intro z hz hn hc
        have hz1 : z ≠ Str.ofString "digits" := hn _ List.mem_cons_self
        have hz2 : z ≠ Str.ofString "mixed" := hn _ (List.mem_cons_of_mem _ List.mem_cons_self)
        have hz3 : z ≠ Str.ofString "size" := fun e => by rw [e] at hc; exact absurd hc (by decide)
        simp only [if_neg hz, if_neg hz1, if_neg hz2, if_neg hz3, hc, Bool.false_eq_true, if_false]
    ·
      refine (?_ : LEnd g' L' _ [] nx _ _ _ _ _ _)
      refine' ⟨_, _, _, _, ((_, _), (_, _)), rfl, by assumption, by assumption, fun p hp _ => hp, (fun _ h => nomatch h), PoolI.to hR6 ?q1 ?q2 ?q3, ?q4, ?q5⟩
      case q4 =>
        intro q hq
        rcases List.mem_cons.mp hq with e | hq
        · rw [e]
          dsimp only
          repeat' (first | exact if_pos rfl | refine (if_neg (by decide)).trans ?_)
        · rw [List.mem_singleton.mp hq]
          dsimp only
          repeat' (first | exact if_pos rfl | refine (if_neg (by decide)).trans ?_)
      case q3 => exact rfl
      case q1 => first | assumption | (have e18 := ten18; first | exact Int.add_nonneg (Int.mul_nonneg hd0 (by omega)) (by omega))
      case q2 => first | exact pool_bits hdb hkb | exact pool_bits hdb (bits_neg (by omega) hkb) | exact Nat.le_trans hdb (by omega)
      case q5 =>
        intro z hz hn hc
        have hz1 : z ≠ Str.ofString "digits" := hn _ List.mem_cons_self
        have hz2 : z ≠ Str.ofString "mixed" := hn _ (List.mem_cons_of_mem _ List.mem_cons_self)
        have hz3 : z ≠ Str.ofString "size" := fun e => by rw [e] at hc; exact absurd hc (by decide)
        simp only [if_neg hz, if_neg hz1, if_neg hz2, if_neg hz3, hc, Bool.false_eq_true, if_false]
    ·
      refine (?_ : LEnd g' L' _ [] nx _ _ _ _ _ _)
      refine' ⟨_, _, _, _, ((_, _), (_, _)), rfl, by assumption, by assumption, fun p hp _ => hp, (fun _ h => nomatch h), PoolI.to hR6 ?q1 ?q2 ?q3, ?q4, ?q5⟩
      case q4 =>
        intro q hq
        rcases List.mem_cons.mp hq with e | hq
        · rw [e]
          dsimp only
          repeat' (first | exact if_pos rfl | refine (if_neg (by decide)).trans ?_)
        · rw [List.mem_singleton.mp hq]
          dsimp only
          repeat' (first | exact if_pos rfl | refine (if_neg (by decide)).trans ?_)
      case q3 => exact rfl
      case q1 => first | assumption | (have e18 := ten18; first | exact Int.add_nonneg (Int.mul_nonneg hd0 (by omega)) (by omega))
      case q2 => first | exact pool_bits hdb hkb | exact pool_bits hdb (bits_neg (by omega) hkb) | exact Nat.le_trans hdb (by omega)
      case q5 =>
        intro z hz hn hc
        have hz1 : z ≠ Str.ofString "digits" := hn _ List.mem_cons_self
        have hz2 : z ≠ Str.ofString "mixed" := hn _ (List.mem_cons_of_mem _ List.mem_cons_self)
        have hz3 : z ≠ Str.ofString "size" := fun e => by rw [e] at hc; exact absurd hc (by decide)
        simp only [if_neg hz, if_neg hz1, if_neg hz2, if_neg hz3, hc, Bool.false_eq_true, if_false]
    ·
      refine (?_ : LEnd g' L' _ [] nx _ _ _ _ _ _)
      refine' ⟨_, _, _, _, ((_, _), (_, _)), rfl, by assumption, by assumption, fun p hp _ => hp, (fun _ h => nomatch h), PoolI.to hR6 ?q1 ?q2 ?q3, ?q4, ?q5⟩
      case q4 =>
        intro q hq
        rcases List.mem_cons.mp hq with e | hq
        · rw [e]
          dsimp only
          repeat' (first | exact if_pos rfl | refine (if_neg (by decide)).trans ?_)
        · rw [List.mem_singleton.mp hq]
          dsimp only
          repeat' (first | exact if_pos rfl | refine (if_neg (by decide)).trans ?_)
      case q3 => exact rfl
      case q1 => first | assumption | (have e18 := ten18; first | exact Int.add_nonneg (Int.mul_nonneg hd0 (by omega)) (by omega))
      case q2 => first | exact pool_bits hdb hkb | exact pool_bits hdb (bits_neg (by omega) hkb) | exact Nat.le_trans hdb (by omega)
      case q5 =>
        intro z hz hn hc
        have hz1 : z ≠ Str.ofString "digits" := hn _ List.mem_cons_self
        have hz2 : z ≠ Str.ofString "mixed" := hn _ (List.mem_cons_of_mem _ List.mem_cons_self)
        have hz3 : z ≠ Str.ofString "size" := fun e => by rw [e] at hc; exact absurd hc (by decide)
        simp only [if_neg hz, if_neg hz1, if_neg hz2, if_neg hz3, hc, Bool.false_eq_true, if_false]
  case done =>
    intro hHi5 nx u h6 tk6 hHi6 F6 N6
    ((try show wpAny _ _ _ _ _ _); (try k_fold))
    first | (have dg := (And.left (And.left hHi5)); have td := (And.right (And.left hHi5)); have mx := (And.left (And.right hHi5)); have tm := (And.right (And.right hHi5)); try clear hHi5) | (refine hideE fun GG hGG => ?_; obtain ⟨⟨dg, td⟩, mx, tm⟩ := hHi5; refine hGG ?_; clear hGG GG)
    first | (have hR6 := (And.left hHi6); have hd0 := (And.left (And.right hHi6)); have hdb := (And.left (And.right (And.right hHi6))); have hm0 := (And.left (And.right (And.right (And.right hHi6)))); have hm1 := (And.right (And.right (And.right (And.right hHi6)))); try clear hHi6) | (refine hideE fun GG hGG => ?_; obtain ⟨hR6, hd0, hdb, hm0, hm1⟩ := hHi6; refine hGG ?_; clear hGG GG)
    replace F6 : Fr g' L' h6 _ := F6
    replace N6 : News g' L' h6 nx := N6
    clear F9 N9
    dsimp only [kstB] at F6
    k_steps
    refine hret _ _ _ _ (by k_asm) (by k_asm) ⟨_, dg, _, mx, _, _, rfl, fun q hq => List.mem_cons_of_mem _ (hR6 q hq), fun q hq => ?_, List.mem_cons_self, hd0, hm0, hm1⟩
    have h7 := hR6 q hq
    k_dflt (revert h7; revert q; intro q _ h7; first | exact l1 q h7 | (apply_assumption; exact h7))
end
end N240
end
-- LawA
section
open PySem PySem.W PyProof.Rows PySem.Spec PySem.Calls
namespace N240
section
set_option maxRecDepth 100000 in
set_option maxHeartbeats 3000000 in
theorem lawx : PySem.Challenge.rw_nz0240_01.Holds := by
  refine N240.hd ?_
  k_go0
  show wpAny _ _ _ _ _ _
  k_fold
  repeat' ((fail_if_success (with_reducible show wpAny _ _ (call (Value.ref 96) _) _ _ _)); (first | (k_unfold; (try dsimp only)) | (k_end; wrow_close) | walk1 | (dsimp only; walk1) | (leave1; walk_say "STEP leave1"; try dsimp only)))
  rename World => w
  rename Shared => sA
  rename Fr _ _ _ _ => F0
  rename News _ _ _ _ => N0
  rename Frag.In _ _ => X0
  rename Top _ _ _ _ _ _ => T0
  rename Below _ _ _ _ => B0
  rename Heap.IsList _ _ _ => hls
  rename IntsAre _ _ => hia
  rename CodeHd _ _ _ => hcode
  rename ¬ ((63 : Nat) : Int) < _ => hlen
  rename PyData.layable0 _ = true => hlay
  rename CellsAre _ _ _ => hcells
  clear hcells
  rename_i hh1 htk1 o4 o3 o2 o1 d4 d3 d2 d1 l153
  k_dflt (refine' (pool_ok hia (by omega) (fun x hx => PySem.intBits_le_of_item hx hlay)) _ _ _ _ _ _ _ _ _ _ _ _ _ _ _ _ _ hls B0 F0 X0 N0 T0 ?kk ?kd ?ku ?_)
  case kk => rfl
  case kd => decide +kernel
  case ku => decide +kernel
  intro _ R1 h1 tk1 F1 N1 hHi1
  first | (have hE1 := (And.left (And.right (And.right (And.right (And.right (And.right (And.right hHi1))))))); subst hE1; have src := (And.left hHi1); have dg := (And.left (And.right hHi1)); have td := (And.left (And.right (And.right hHi1))); have mx := (And.left (And.right (And.right (And.right hHi1)))); have tm := (And.left (And.right (And.right (And.right (And.right hHi1))))); have nS := (And.left (And.right (And.right (And.right (And.right (And.right hHi1)))))); have keep1 := (And.left (And.right (And.right (And.right (And.right (And.right (And.right (And.right hHi1)))))))); have lt1 := (And.left (And.right (And.right (And.right (And.right (And.right (And.right (And.right (And.right hHi1))))))))); have ms1 := (And.left (And.right (And.right (And.right (And.right (And.right (And.right (And.right (And.right (And.right hHi1)))))))))); have hd0 := (And.left (And.right (And.right (And.right (And.right (And.right (And.right (And.right (And.right (And.right (And.right hHi1))))))))))); have hm0 := (And.left (And.right (And.right (And.right (And.right (And.right (And.right (And.right (And.right (And.right (And.right (And.right hHi1)))))))))))); have hm1 := (And.right (And.right (And.right (And.right (And.right (And.right (And.right (And.right (And.right (And.right (And.right (And.right hHi1)))))))))))); try clear hHi1) | (refine hideE fun GG hGG => ?_; obtain ⟨src, dg, td, mx, tm, nS, rfl, keep1, lt1, ms1, hd0, hm0, hm1⟩ := hHi1; refine hGG ?_; clear hGG GG)
  have hHi2 := reform N1 ms1
  first | (have R2 := (And.left hHi2); have keep2 := (And.left (And.right hHi2)); have sub2 := (And.left (And.right (And.right hHi2))); have ne2 := (And.left (And.right (And.right (And.right hHi2)))); have N2 := (And.right (And.right (And.right (And.right hHi2)))); try clear hHi2) | (refine hideE fun GG hGG => ?_; obtain ⟨R2, keep2, sub2, ne2, N2⟩ := hHi2; refine hGG ?_; clear hGG GG)
  clear N1
  repeat' ((fail_if_success (with_reducible show wpAny _ _ (call (Value.ref 108) _) _ _ _)); (first | (k_unfold; (try dsimp only)) | (k_end; wrow_close) | walk1 | (dsimp only; walk1) | (leave1; walk_say "STEP leave1"; try dsimp only)))
  rename Fr _ _ _ _ => F2
  rename News _ _ _ _ => N3
  k_dflt (refine' FnOk.useH B0 F2 X0 N3 T0 ?kK (scan_ok hd0 hm0 hm1 ne2) ?kd ?ku ?_; (case kK => rfl); (case kd => decide +kernel); (case ku => decide +kernel))
  intro GG hGG _ _ h3 tk3 F3 N3 hHi3
  first | (have hE2 := (And.left (And.right (And.right (And.right (And.right (And.right (And.right (And.right (And.right (And.right hHi3)))))))))); subst hE2; have hE3 := (And.left (And.right (And.right (And.right (And.right (And.right (And.right (And.right (And.right (And.right (And.right (And.right (And.right (And.right (And.right (And.right (And.right (And.right (And.right hHi3))))))))))))))))))); subst hE3; have dg3 := (And.left hHi3); have mx3 := (And.left (And.right hHi3)); have td3 := (And.left (And.right (And.right hHi3))); have tm3 := (And.left (And.right (And.right (And.right hHi3)))); have nS3 := (And.left (And.right (And.right (And.right (And.right hHi3))))); have R3 := (And.left (And.right (And.right (And.right (And.right (And.right hHi3)))))); have hd3 := (And.left (And.right (And.right (And.right (And.right (And.right (And.right hHi3))))))); have hm3 := (And.left (And.right (And.right (And.right (And.right (And.right (And.right (And.right hHi3)))))))); have hx3 := (And.left (And.right (And.right (And.right (And.right (And.right (And.right (And.right (And.right hHi3))))))))); have keep3 := (And.left (And.right (And.right (And.right (And.right (And.right (And.right (And.right (And.right (And.right (And.right hHi3))))))))))); have ne3 := (And.left (And.right (And.right (And.right (And.right (And.right (And.right (And.right (And.right (And.right (And.right (And.right hHi3)))))))))))); have x := (And.left (And.right (And.right (And.right (And.right (And.right (And.right (And.right (And.right (And.right (And.right (And.right (And.right hHi3))))))))))))); have dc := (And.left (And.right (And.right (And.right (And.right (And.right (And.right (And.right (And.right (And.right (And.right (And.right (And.right (And.right hHi3)))))))))))))); have ac := (And.left (And.right (And.right (And.right (And.right (And.right (And.right (And.right (And.right (And.right (And.right (And.right (And.right (And.right (And.right hHi3))))))))))))))); have st := (And.left (And.right (And.right (And.right (And.right (And.right (And.right (And.right (And.right (And.right (And.right (And.right (And.right (And.right (And.right (And.right hHi3)))))))))))))))); have en := (And.left (And.right (And.right (And.right (And.right (And.right (And.right (And.right (And.right (And.right (And.right (And.right (And.right (And.right (And.right (And.right (And.right hHi3))))))))))))))))); have hi := (And.left (And.right (And.right (And.right (And.right (And.right (And.right (And.right (And.right (And.right (And.right (And.right (And.right (And.right (And.right (And.right (And.right (And.right hHi3)))))))))))))))))); have hsA := (And.left (And.right (And.right (And.right (And.right (And.right (And.right (And.right (And.right (And.right (And.right (And.right (And.right (And.right (And.right (And.right (And.right (And.right (And.right (And.right hHi3)))))))))))))))))))); have hsO := (And.right (And.right (And.right (And.right (And.right (And.right (And.right (And.right (And.right (And.right (And.right (And.right (And.right (And.right (And.right (And.right (And.right (And.right (And.right (And.right hHi3)))))))))))))))))))); try clear hHi3) | (obtain ⟨dg3, mx3, td3, tm3, nS3, R3, hd3, hm3, hx3, rfl, keep3, ne3, x, dc, ac, st, en, hi, rfl, hsA, hsO⟩ := hHi3)
  refine hGG _ _ _ ?_
  clear hGG GG
  repeat' ((fail_if_success (with_reducible show wpAny _ _ (call (Value.ref 103) _) _ _ _)); (first | (k_unfold; (try dsimp only)) | (k_end; wrow_close) | walk1 | (dsimp only; walk1) | (leave1; walk_say "STEP leave1"; try dsimp only)))
  k_dflt (refine' FnOk.useH B0 F3 X0 N3 T0 ?kK (take_ok hd3 hm3 hx3 (by decide) (by decide) ne3) ?kd ?ku ?_; (case kK => rfl); (case kd => decide +kernel); (case ku => decide +kernel))
  intro GG hGG _ _ h4 tk4 F4 N4 hHi4
  first | (have hE4 := (And.left (And.right (And.right (And.right (And.right (And.right (And.right (And.right (And.right (And.right (And.right (And.right hHi4)))))))))))); subst hE4; have hE5 := (And.right (And.right (And.right (And.right (And.right (And.right (And.right (And.right (And.right (And.right (And.right (And.right hHi4)))))))))))); subst hE5; have dg4 := (And.left hHi4); have mx4 := (And.left (And.right hHi4)); have td4 := (And.left (And.right (And.right hHi4))); have tm4 := (And.left (And.right (And.right (And.right hHi4)))); have tv4 := (And.left (And.right (And.right (And.right (And.right hHi4))))); have r4 := (And.left (And.right (And.right (And.right (And.right (And.right hHi4)))))); have hd4 := (And.left (And.right (And.right (And.right (And.right (And.right (And.right hHi4))))))); have hm4 := (And.left (And.right (And.right (And.right (And.right (And.right (And.right (And.right hHi4)))))))); have hx4 := (And.left (And.right (And.right (And.right (And.right (And.right (And.right (And.right (And.right hHi4))))))))); have ha4 := (And.left (And.right (And.right (And.right (And.right (And.right (And.right (And.right (And.right (And.right hHi4)))))))))); have hb4 := (And.left (And.right (And.right (And.right (And.right (And.right (And.right (And.right (And.right (And.right (And.right hHi4))))))))))); try clear hHi4) | (obtain ⟨dg4, mx4, td4, tm4, tv4, r4, hd4, hm4, hx4, ha4, hb4, rfl, rfl⟩ := hHi4)
  refine hGG _ _ _ ?_
  clear hGG GG
  repeat' ((fail_if_success (with_reducible show wpAny _ _ (call (Value.ref 103) _) _ _ _)); (first | (k_unfold; (try dsimp only)) | (k_end; wrow_close) | walk1 | (dsimp only; walk1) | (leave1; walk_say "STEP leave1"; try dsimp only)))
  k_dflt (refine' FnOk.useH B0 F4 X0 N4 T0 ?kK (take_ok hd4 hm4 hx4 (by decide) (by decide) ne3) ?kd ?ku ?_; (case kK => rfl); (case kd => decide +kernel); (case ku => decide +kernel))
  intro GG hGG _ _ h5 tk5 F5 N5 hHi5
  first | (have hE6 := (And.left (And.right (And.right (And.right (And.right (And.right (And.right (And.right (And.right (And.right (And.right (And.right hHi5)))))))))))); subst hE6; have hE7 := (And.right (And.right (And.right (And.right (And.right (And.right (And.right (And.right (And.right (And.right (And.right (And.right hHi5)))))))))))); subst hE7; have dg5 := (And.left hHi5); have mx5 := (And.left (And.right hHi5)); have td5 := (And.left (And.right (And.right hHi5))); have tm5 := (And.left (And.right (And.right (And.right hHi5)))); have tv5 := (And.left (And.right (And.right (And.right (And.right hHi5))))); have r5 := (And.left (And.right (And.right (And.right (And.right (And.right hHi5)))))); have hd5 := (And.left (And.right (And.right (And.right (And.right (And.right (And.right hHi5))))))); have hm5 := (And.left (And.right (And.right (And.right (And.right (And.right (And.right (And.right hHi5)))))))); have hx5 := (And.left (And.right (And.right (And.right (And.right (And.right (And.right (And.right (And.right hHi5))))))))); have ha5 := (And.left (And.right (And.right (And.right (And.right (And.right (And.right (And.right (And.right (And.right hHi5)))))))))); have hb5 := (And.left (And.right (And.right (And.right (And.right (And.right (And.right (And.right (And.right (And.right (And.right hHi5))))))))))); try clear hHi5) | (obtain ⟨dg5, mx5, td5, tm5, tv5, r5, hd5, hm5, hx5, ha5, hb5, rfl, rfl⟩ := hHi5)
  refine hGG _ _ _ ?_
  clear hGG GG
  repeat' ((fail_if_success (with_reducible show wpAny _ _ (call (Value.ref 103) _) _ _ _)); (first | (k_unfold; (try dsimp only)) | (k_end; wrow_close) | walk1 | (dsimp only; walk1) | (leave1; walk_say "STEP leave1"; try dsimp only)))
  k_dflt (refine' FnOk.useH B0 F5 X0 N5 T0 ?kK (take_ok hd5 hm5 hx5 (by decide) (by decide) ne3) ?kd ?ku ?_; (case kK => rfl); (case kd => decide +kernel); (case ku => decide +kernel))
  intro GG hGG _ _ h6 tk6 F6 N6 hHi6
  first | (have hE8 := (And.left (And.right (And.right (And.right (And.right (And.right (And.right (And.right (And.right (And.right (And.right (And.right hHi6)))))))))))); subst hE8; have hE9 := (And.right (And.right (And.right (And.right (And.right (And.right (And.right (And.right (And.right (And.right (And.right (And.right hHi6)))))))))))); subst hE9; have dg6 := (And.left hHi6); have mx6 := (And.left (And.right hHi6)); have td6 := (And.left (And.right (And.right hHi6))); have tm6 := (And.left (And.right (And.right (And.right hHi6)))); have tv6 := (And.left (And.right (And.right (And.right (And.right hHi6))))); have r6 := (And.left (And.right (And.right (And.right (And.right (And.right hHi6)))))); have hd6 := (And.left (And.right (And.right (And.right (And.right (And.right (And.right hHi6))))))); have hm6 := (And.left (And.right (And.right (And.right (And.right (And.right (And.right (And.right hHi6)))))))); have hx6 := (And.left (And.right (And.right (And.right (And.right (And.right (And.right (And.right (And.right hHi6))))))))); have ha6 := (And.left (And.right (And.right (And.right (And.right (And.right (And.right (And.right (And.right (And.right hHi6)))))))))); have hb6 := (And.left (And.right (And.right (And.right (And.right (And.right (And.right (And.right (And.right (And.right (And.right hHi6))))))))))); try clear hHi6) | (obtain ⟨dg6, mx6, td6, tm6, tv6, r6, hd6, hm6, hx6, ha6, hb6, rfl, rfl⟩ := hHi6)
  refine hGG _ _ _ ?_
  clear hGG GG
  repeat' ((fail_if_success (with_reducible show wpAny _ _ (storeName _ (Str.ofString "toll") _) _ _ _)); (first | (k_unfold; (try dsimp only)) | (k_end; wrow_close) | walk1 | (dsimp only; walk1) | (leave1; walk_say "STEP leave1"; try dsimp only)))
  rename Fr _ _ _ _ => F7
  rename News _ _ _ _ => N7
  have up3 : ∀ q ∈ [(_, o4), (_, o3), (_, o2), (_, o1), (153, tabObj #[])], q ∈ R3 := fun q hq => keep3 q (keep2 q (keep1 q hq) (Nat.ne_of_lt (lt1 q hq)))
  have mc4 := up3 (_, o4) List.mem_cons_self
  have mc3 := up3 (_, o3) (List.mem_cons_of_mem _ List.mem_cons_self)
  have mc2 := up3 (_, o2) (List.mem_cons_of_mem _ (List.mem_cons_of_mem _ List.mem_cons_self))
  have mc1 := up3 (_, o1) (List.mem_cons_of_mem _ (List.mem_cons_of_mem _ (List.mem_cons_of_mem _ List.mem_cons_self)))
  have mtb := up3 (153, tabObj #[]) (List.mem_cons_of_mem _ (List.mem_cons_of_mem _ (List.mem_cons_of_mem _ (List.mem_cons_of_mem _ List.mem_cons_self))))
  k_dflt (refine' cell_set F7 N7 (List.mem_cons_of_mem _ (List.mem_cons_of_mem _ mc4)) d4 rfl ?_ rfl rfl)
  intro h8 o4' R8 F8 N8 e4 mc4' keep8 nc8
  repeat' ((fail_if_success (with_reducible show wpAny _ _ (call (Value.ref 115) _) _ _ _)); (first | (k_unfold; (try dsimp only)) | (k_end; wrow_close) | walk1 | (dsimp only; walk1) | (leave1; walk_say "STEP leave1"; try dsimp only)))
  k_dflt (refine' FnOk.useH B0 F8 X0 N8 T0 ?kK (keys_ok (hsA.nc fun q hq hn => nc8 q (List.mem_cons_of_mem _ (List.mem_cons_of_mem _ hq)) hn) hsO) ?kd ?ku ?_; (case kK => rfl); (case kd => decide +kernel); (case ku => decide +kernel))
  intro GG hGG _ R9 h9 tk9 F9 N9 hHi7
  first | (have hE10 := (And.left (And.right hHi7)); subst hE10; have aKy := (And.left hHi7); have keep9 := (And.left (And.right (And.right hHi7))); have lt9 := (And.left (And.right (And.right (And.right hHi7)))); have hK9 := (And.right (And.right (And.right (And.right hHi7)))); try clear hHi7) | (obtain ⟨aKy, rfl, keep9, lt9, hK9⟩ := hHi7)
  refine hGG _ _ _ ?_
  clear hGG GG
  repeat' ((fail_if_success (with_reducible show wpAny _ _ (call (Value.ref 47) _) _ _ _)); (first | (k_unfold; (try dsimp only)) | (k_end; wrow_close) | walk1 | (dsimp only; walk1) | (leave1; walk_say "STEP leave1"; try dsimp only)))
  rename Fr _ _ _ _ => F10
  rename News _ _ _ _ => N10
  have hs9 := hsA.nc fun q hq hn => keep9 q (nc8 q (List.mem_cons_of_mem _ (List.mem_cons_of_mem _ hq)) hn)
  k_dflt (refine' FnOk.useH B0 F10 X0 N10 T0 ?kK (sk_ok hs9 hsO) ?kd ?ku ?_; (case kK => rfl); (case kd => decide +kernel); (case ku => decide +kernel))
  intro GG hGG _ R11 h11 tk11 F11 N11 hHi8
  first | (have hE11 := (And.left (And.right hHi8)); subst hE11; have aSk := (And.left hHi8); have keep11 := (And.left (And.right (And.right hHi8))); have ne11 := (And.left (And.right (And.right (And.right hHi8)))); have hK11 := (And.right (And.right (And.right (And.right hHi8)))); try clear hHi8) | (obtain ⟨aSk, rfl, keep11, ne11, hK11⟩ := hHi8)
  refine hGG _ _ _ ?_
  clear hGG GG
  repeat' ((fail_if_success (with_reducible show wpAny _ _ (compareOp _ _ _ _) _ _ _)); (first | (k_unfold; (try dsimp only)) | (k_end; wrow_close) | walk1 | (dsimp only; walk1) | (leave1; walk_say "STEP leave1"; try dsimp only)))
  k_dflt (refine' ne_keys N11 hK11 (hK9.mono fun q hq _ => keep11 q hq) (by ke_room) ?_)
  repeat' ((fail_if_success (with_reducible show wpAny _ _ (call (Value.ref 28) _) _ _ _)); (first | (k_unfold; (try dsimp only)) | (k_end; wrow_close) | walk1 | (dsimp only; walk1) | (leave1; walk_say "STEP leave1"; try dsimp only)))
  k_dflt (refine' FnOk.useH B0 F11 X0 N11 T0 ?kK (dc_ok ha5 (by omega)) ?kd ?ku ?_; (case kK => rfl); (case kd => decide +kernel); (case ku => decide +kernel))
  intro GG hGG _ R12 h12 tk12 F12 N12 hHi9
  first | (have hE12 := (And.left (And.right (And.right (And.right hHi9)))); subst hE12; have aD := (And.left hHi9); have vsD := (And.left (And.right hHi9)); have nD := (And.left (And.right (And.right hHi9))); have keep12 := (And.left (And.right (And.right (And.right (And.right hHi9))))); have lt12 := (And.left (And.right (And.right (And.right (And.right (And.right hHi9)))))); have mD := (And.left (And.right (And.right (And.right (And.right (And.right (And.right hHi9))))))); have iD := (And.right (And.right (And.right (And.right (And.right (And.right (And.right hHi9))))))); try clear hHi9) | (obtain ⟨aD, vsD, nD, rfl, keep12, lt12, mD, iD⟩ := hHi9)
  refine hGG _ _ _ ?_
  clear hGG GG
  repeat' ((fail_if_success (with_reducible show wpAny _ _ (call (Value.ref 120) _) _ _ _)); (first | (k_unfold; (try dsimp only)) | (k_end; wrow_close) | walk1 | (dsimp only; walk1) | (leave1; walk_say "STEP leave1"; try dsimp only)))
  k_dflt (refine' FnOk.useH B0 F12 X0 N12 T0 ?kK (lv_ok (.inl rfl) (by omega) (by omega) ha5 (by omega)) ?kd ?ku ?_; (case kK => rfl); (case kd => decide +kernel); (case ku => decide +kernel))
  intro GG hGG _ R13 h13 tk13 F13 N13 hHi10
  first | (have hE13 := (And.left (And.right (And.right (And.right hHi10)))); subst hE13; have aE := (And.left hHi10); have vsE := (And.left (And.right hHi10)); have nE := (And.left (And.right (And.right hHi10))); have keep13 := (And.left (And.right (And.right (And.right (And.right hHi10))))); have lt13 := (And.left (And.right (And.right (And.right (And.right (And.right hHi10)))))); have mE := (And.left (And.right (And.right (And.right (And.right (And.right (And.right hHi10))))))); have iE := (And.right (And.right (And.right (And.right (And.right (And.right (And.right hHi10))))))); try clear hHi10) | (obtain ⟨aE, vsE, nE, rfl, keep13, lt13, mE, iE⟩ := hHi10)
  refine hGG _ _ _ ?_
  clear hGG GG
  repeat' ((fail_if_success (with_reducible show wpAny _ _ (compareOp _ _ _ _) _ _ _)); (first | (k_unfold; (try dsimp only)) | (k_end; wrow_close) | walk1 | (dsimp only; walk1) | (leave1; walk_say "STEP leave1"; try dsimp only)))
  k_dflt (refine' ke_ne_ints (News.isList N13 (keep13 _ mD)) (News.isList N13 mE) iD iE (by ke_room) ?_)
  rw [decide_eq_true (kindVals_dc (1 + r4) r5).symm]
  repeat' ((fail_if_success (with_reducible show wpAny _ _ (call (Value.ref 35) _) _ _ _)); (first | (k_unfold; (try dsimp only)) | (k_end; wrow_close) | walk1 | (dsimp only; walk1) | (leave1; walk_say "STEP leave1"; try dsimp only)))
  k_dflt (refine' FnOk.useH B0 F13 X0 N13 T0 ?kK (ac_ok (by omega) (by omega)) ?kd ?ku ?_; (case kK => rfl); (case kd => decide +kernel); (case ku => decide +kernel))
  intro GG hGG _ R14 h14 tk14 F14 N14 hHi11
  first | (have hE14 := (And.left (And.right (And.right (And.right hHi11)))); subst hE14; have aF := (And.left hHi11); have vsF := (And.left (And.right hHi11)); have nF := (And.left (And.right (And.right hHi11))); have keep14 := (And.left (And.right (And.right (And.right (And.right hHi11))))); have lt14 := (And.left (And.right (And.right (And.right (And.right (And.right hHi11)))))); have mF := (And.left (And.right (And.right (And.right (And.right (And.right (And.right hHi11))))))); have iF := (And.right (And.right (And.right (And.right (And.right (And.right (And.right hHi11))))))); try clear hHi11) | (obtain ⟨aF, vsF, nF, rfl, keep14, lt14, mF, iF⟩ := hHi11)
  refine hGG _ _ _ ?_
  clear hGG GG
  repeat' ((fail_if_success (with_reducible show wpAny _ _ (call (Value.ref 120) _) _ _ _)); (first | (k_unfold; (try dsimp only)) | (k_end; wrow_close) | walk1 | (dsimp only; walk1) | (leave1; walk_say "STEP leave1"; try dsimp only)))
  k_dflt (refine' FnOk.useH B0 F14 X0 N14 T0 ?kK (lv_ok (.inr rfl) (by omega) (by omega) ha5 (by omega)) ?kd ?ku ?_; (case kK => rfl); (case kd => decide +kernel); (case ku => decide +kernel))
  intro GG hGG _ R15 h15 tk15 F15 N15 hHi12
  first | (have hE15 := (And.left (And.right (And.right (And.right hHi12)))); subst hE15; have aG := (And.left hHi12); have vsG := (And.left (And.right hHi12)); have nG := (And.left (And.right (And.right hHi12))); have keep15 := (And.left (And.right (And.right (And.right (And.right hHi12))))); have lt15 := (And.left (And.right (And.right (And.right (And.right (And.right hHi12)))))); have mG := (And.left (And.right (And.right (And.right (And.right (And.right (And.right hHi12))))))); have iG := (And.right (And.right (And.right (And.right (And.right (And.right (And.right hHi12))))))); try clear hHi12) | (obtain ⟨aG, vsG, nG, rfl, keep15, lt15, mG, iG⟩ := hHi12)
  refine hGG _ _ _ ?_
  clear hGG GG
  repeat' ((fail_if_success (with_reducible show wpAny _ _ (compareOp _ _ _ _) _ _ _)); (first | (k_unfold; (try dsimp only)) | (k_end; wrow_close) | walk1 | (dsimp only; walk1) | (leave1; walk_say "STEP leave1"; try dsimp only)))
  k_dflt (refine' ke_ne_ints (News.isList N15 (keep15 _ mF)) (News.isList N15 mG) iF iG (by ke_room) ?_)
  rw [decide_eq_true (kindVals_ac (1 + r4) r5).symm]
  repeat' ((fail_if_success (with_reducible show wpAny _ _ (call (Value.ref 127) _) _ _ _)); (first | (k_unfold; (try dsimp only)) | (k_end; wrow_close) | walk1 | (dsimp only; walk1) | (leave1; walk_say "STEP leave1"; try dsimp only)))
  have up8 : ∀ q ∈ R8, q ∈ R15 := fun q hq => keep15 q (keep14 q (keep13 q (keep12 q (keep11 q (keep9 q hq)))))
  have ms8 := nc8 _ (List.mem_cons_of_mem _ List.mem_cons_self) ⟨(fun _ e => nomatch e), (fun _ e => nomatch e)⟩
  have hHi13 := reform N15 (up8 _ ms8)
  first | (have R16 := (And.left hHi13); have keep16 := (And.left (And.right hHi13)); have sub16 := (And.left (And.right (And.right hHi13))); have ne16 := (And.left (And.right (And.right (And.right hHi13)))); have N16 := (And.right (And.right (And.right (And.right hHi13)))); try clear hHi13) | (refine hideE fun GG hGG => ?_; obtain ⟨R16, keep16, sub16, ne16, N16⟩ := hHi13; refine hGG ?_; clear hGG GG)
  have ks15 : KeysAt w R15 aKy (keysOf dc ac st en hi) := hK9.mono fun q hq _ => keep15 q (keep14 q (keep13 q (keep12 q (keep11 q hq))))
  have ks16 : KeysAt w R16 aKy (keysOf dc ac st en hi) := ks15.mono fun q hq hc => keep16 q hq (hc.elim (fun e => by rw [e.1]; exact Ne.symm (Nat.ne_of_lt (lt9 _ ms8))) fun e => ne_of_obj N15 (o := q.2) hq (up8 _ ms8) (cls_ne (by rw [e]; exact fun e => list_ne_tuple e.symm)))
  (try clear N14)
  (try clear N13)
  (try clear N12)
  (try clear N11)
  (try clear N10)
  (try clear N8)
  (try clear F14)
  (try clear F13)
  (try clear F12)
  (try clear F11)
  (try clear F10)
  (try clear F9)
  (try clear F8)
  k_dflt (refine' FnOk.useH B0 F15 X0 N16 T0 ?kK (costs_ok hd6 hm6 hx6 ne16 (by omega) (by omega) ha5 (by omega) ks16 (keysOf_good dc ac st en hi)) ?kd ?ku ?_; (case kK => rfl); (case kd => decide +kernel); (case ku => decide +kernel))
  intro GG hGG _ R17 h17 tk17 F17 N17 hHi14
  first | (have hE16 := (And.left (And.right (And.right (And.right hHi14)))); subst hE16; have dCo := (And.left hHi14); have oCo := (And.left (And.right hHi14)); have Tb := (And.left (And.right (And.right hHi14))); have loCo := (And.left (And.right (And.right (And.right (And.right hHi14))))); have keep17 := (And.left (And.right (And.right (And.right (And.right (And.right hHi14)))))); have src17 := (And.left (And.right (And.right (And.right (And.right (And.right (And.right hHi14))))))); have neCo := (And.left (And.right (And.right (And.right (And.right (And.right (And.right (And.right hHi14)))))))); have mCo := (And.left (And.right (And.right (And.right (And.right (And.right (And.right (And.right (And.right hHi14))))))))); have hTb := (And.left (And.right (And.right (And.right (And.right (And.right (And.right (And.right (And.right (And.right hHi14)))))))))); have hTk := (And.left (And.right (And.right (And.right (And.right (And.right (And.right (And.right (And.right (And.right (And.right hHi14))))))))))); have hTg := (And.right (And.right (And.right (And.right (And.right (And.right (And.right (And.right (And.right (And.right (And.right hHi14))))))))))); try clear hHi14) | (obtain ⟨dCo, oCo, Tb, rfl, loCo, keep17, src17, neCo, mCo, hTb, hTk, hTg⟩ := hHi14)
  refine hGG _ _ _ ?_
  clear hGG GG
  repeat' ((fail_if_success (with_reducible show wpAny _ _ (storeName _ (Str.ofString "costs") _) _ _ _)); (first | (k_unfold; (try dsimp only)) | (k_end; wrow_close) | walk1 | (dsimp only; walk1) | (leave1; walk_say "STEP leave1"; try dsimp only)))
  rename_i row hq1 lq1 cop hq2 lq2 aT hq3 lq3 hq4 F18 N18
  (try clear N16)
  (try clear F15)
  (try clear F17)
  have up17 : ∀ q ∈ R15, q.1 ≠ src → q ∈ R17 := fun q hq e => keep17 q (keep16 q hq e)
  have upc : ∀ q ∈ R3, q.1 ≠ sA.heap.objs.size + 1 + 1 + 1 + 1 → q ∈ R17 := fun q hq e => up17 q (up8 q (keep8 q (List.mem_cons_of_mem _ (List.mem_cons_of_mem _ hq)) e)) (ne3 q hq)
  have m4 := up17 _ (up8 _ mc4') (by have := lt1 (_, o4) List.mem_cons_self; exact Nat.ne_of_lt this)
  have m3 := upc _ mc3 (by show sA.heap.objs.size + 1 + 1 + 1 ≠ _; omega)
  have m2 := upc _ mc2 (by show sA.heap.objs.size + 1 + 1 ≠ _; omega)
  have m1 := upc _ mc1 (by show sA.heap.objs.size + 1 ≠ _; omega)
  have mt := upc _ mtb (by show (153 : Nat) ≠ sA.heap.objs.size + 1 + 1 + 1 + 1; omega)
  have ks17 : KeysAt w R17 aKy (keysOf dc ac st en hi) := ks16.mono fun q hq _ => keep17 q hq
  have sc17 : ScanAt w R17 x dc ac st en hi := hsA.nc fun q hq hn => up17 q (up8 q (nc8 q (List.mem_cons_of_mem _ (List.mem_cons_of_mem _ hq)) hn)) (ne3 q hq)
  k_dflt (refine' cell_set F18 N18 (List.mem_cons_of_mem _ (List.mem_cons_of_mem _ (List.mem_cons_of_mem _ m2))) d2 rfl ?_ rfl rfl)
  intro h19 o2' R19 F19 N19 e2 m2' keep19 nc19
  (try clear N18)
  (try clear F18)
  repeat' ((fail_if_success (with_reducible show wpAny _ _ (storeName _ (Str.ofString "row") _) _ _ _)); (first | (k_unfold; (try dsimp only)) | (k_end; wrow_close) | walk1 | (dsimp only; walk1) | (leave1; walk_say "STEP leave1"; try dsimp only)))
  k_dflt (refine' cell_set F19 N19 (keep19 _ (List.mem_cons_of_mem _ (List.mem_cons_of_mem _ (List.mem_cons_of_mem _ m3))) (by show sA.heap.objs.size + 1 + 1 + 1 ≠ _; omega)) d3 rfl ?_ rfl rfl)
  intro h20 o3' R20 F20 N20 e3 m3' keep20 nc20
  (try clear N19)
  (try clear F19)
  repeat' ((fail_if_success (with_reducible show wpAny _ _ (storeName _ (Str.ofString "copies") _) _ _ _)); (first | (k_unfold; (try dsimp only)) | (k_end; wrow_close) | walk1 | (dsimp only; walk1) | (leave1; walk_say "STEP leave1"; try dsimp only)))
  k_dflt (refine' cell_set F20 N20 (keep20 _ (keep19 _ (List.mem_cons_of_mem _ (List.mem_cons_of_mem _ (List.mem_cons_of_mem _ m1))) (by show sA.heap.objs.size + 1 ≠ _; omega)) (by show sA.heap.objs.size + 1 ≠ _; omega)) d1 rfl ?_ rfl rfl)
  intro h21 o1' R21 F21 N21 e1 m1' keep21 nc21
  (try clear N20)
  (try clear F20)
  have nc18 : ∀ q ∈ R17, NC q.2 → q ∈ R21 := fun q hq hn => nc21 q (nc20 q (nc19 q (List.mem_cons_of_mem _ (List.mem_cons_of_mem _ (List.mem_cons_of_mem _ hq))) hn) hn) hn
  have ks21 := ks17.nc nc18
  have sc21 := sc17.nc nc18
  have tb21 := hTb.nc nc18
  have mCo21 := nc18 _ mCo (let ⟨_, a, _⟩ := hTb; a.nc)
  have mrow := nc21 _ (nc20 _ (nc19 (row, W.listOf #[] 0) (List.mem_cons_of_mem _ (List.mem_cons_of_mem _ List.mem_cons_self)) ⟨(fun _ e => nomatch e), (fun _ e => nomatch e)⟩) ⟨(fun _ e => nomatch e), (fun _ e => nomatch e)⟩) ⟨(fun _ e => nomatch e), (fun _ e => nomatch e)⟩
  have mcop := nc21 _ (nc20 _ (nc19 (cop, W.listOf #[] 0) (List.mem_cons_of_mem _ List.mem_cons_self) ⟨(fun _ e => nomatch e), (fun _ e => nomatch e)⟩) ⟨(fun _ e => nomatch e), (fun _ e => nomatch e)⟩) ⟨(fun _ e => nomatch e), (fun _ e => nomatch e)⟩
  have mt21 := keep21 _ (keep20 _ (keep19 _ (List.mem_cons_of_mem _ (List.mem_cons_of_mem _ (List.mem_cons_of_mem _ mt))) (by show (153 : Nat) ≠ sA.heap.objs.size + 1 + 1; omega)) (by show (153 : Nat) ≠ sA.heap.objs.size + 1 + 1 + 1; omega)) (by show (153 : Nat) ≠ sA.heap.objs.size + 1; omega)
  have m2' := keep21 _ (keep20 _ m2' (by show sA.heap.objs.size + 1 + 1 ≠ _; omega)) (by show sA.heap.objs.size + 1 + 1 ≠ _; omega)
  have m3' := keep21 _ m3' (by show sA.heap.objs.size + 1 + 1 + 1 ≠ _; omega)
  have m4' := keep21 _ (keep20 _ (keep19 _ (List.mem_cons_of_mem _ (List.mem_cons_of_mem _ (List.mem_cons_of_mem _ m4))) (by show sA.heap.objs.size + 1 + 1 + 1 + 1 ≠ _; omega)) (by show sA.heap.objs.size + 1 + 1 + 1 + 1 ≠ _; omega)) (by show sA.heap.objs.size + 1 + 1 + 1 + 1 ≠ _; omega)
  repeat' ((fail_if_success (with_reducible show wpAny _ _ (exec (Stmt.FunctionDef _ _ _ _ _ _ _ _ _ _) _) _ _ _)); (first | (k_unfold; (try dsimp only)) | (k_end; wrow_close) | walk1 | (dsimp only; walk1) | (leave1; walk_say "STEP leave1"; try dsimp only)))
  k_dflt (refine' nestDef_K ?d0 ?k0 ?a0 ?_; (case d0 => exact rfl); (case k0 => exact rfl); (case a0 => exact rfl))
  k_dflt (refine' nest_K F21 (news_head N21 mt21) T0 hcode rfl (UpdF.head off_ne) ?t ?n ?cl ?_; (case t => kn_triples); (case n => kn_among); (case cl => exact rfl))
  intro f' c' oc' vs' t' ct' dc' h22 tk22 F22 N22 d1' d2' l1 l2
  (try dsimp only at N22)
  have hHi15 := gen_led N22
  first | (have R22 := (And.left hHi15); have M22 := (And.left (And.right hHi15)); have mf22 := (And.left (And.right (And.right hHi15))); have mc22 := (And.left (And.right (And.right (And.right hHi15)))); have k22 := (And.left (And.right (And.right (And.right (And.right hHi15))))); have r22 := (And.right (And.right (And.right (And.right (And.right hHi15))))); try clear hHi15) | (refine hideE fun GG hGG => ?_; obtain ⟨R22, M22, mf22, mc22, k22, r22⟩ := hHi15; refine hGG ?_; clear hGG GG)
  have u22 : ∀ q ∈ R21, NC q.2 → q ∈ R22 := fun q hq hn => k22 q (List.mem_cons_of_mem _ (off_tab N21 mt21 hq hn))
  have v22 : ∀ q ∈ R21, q.1 ≠ 153 → q ∈ R22 := fun q hq hn => k22 q (List.mem_cons_of_mem _ (mem_off hq hn))
  clear N22 F21
  clear N21
  have rowlt : row < c' := l1 _ (List.mem_cons_of_mem _ (mem_off mrow (by have := lq1 _ mt; show row ≠ 153; exact Ne.symm (Nat.ne_of_lt this))))
  have coplt : cop < c' := l1 _ (List.mem_cons_of_mem _ (mem_off mcop (by have := lq1 _ mt; have h2 := lq2.1; show cop ≠ 153; exact Ne.symm (Nat.ne_of_lt (Nat.lt_trans this h2)))))
  have inK : ∀ q ∈ R22, q.1 ≠ row → q.1 ≠ cop → q ∈ off row (off cop R22) := fun q hq e1 e2 => mem_off (mem_off hq e2) e1
  have ltr : ∀ q ∈ R17, q.1 ≠ row ∧ q.1 ≠ cop := fun q hq => ⟨Nat.ne_of_lt (lq1 q hq), Nat.ne_of_lt (Nat.lt_trans (lq1 q hq) lq2.1)⟩
  have mK2 := inK _ (v22 _ m2' (by show sA.heap.objs.size + 1 + 1 ≠ (153 : Nat); omega)) (ltr _ m2).1 (ltr _ m2).2
  have mK3 := inK _ (v22 _ m3' (by show sA.heap.objs.size + 1 + 1 + 1 ≠ (153 : Nat); omega)) (ltr _ m3).1 (ltr _ m3).2
  have mK4 := inK _ (v22 _ m4' (by show sA.heap.objs.size + 1 + 1 + 1 + 1 ≠ (153 : Nat); omega)) (ltr _ m4).1 (ltr _ m4).2
  have mK1 := inK _ (v22 _ m1' (by show sA.heap.objs.size + 1 ≠ (153 : Nat); omega)) (ltr _ m1).1 (ltr _ m1).2
  have mKf := inK _ mf22 (Ne.symm (Nat.ne_of_lt (Nat.lt_trans rowlt l2))) (Ne.symm (Nat.ne_of_lt (Nat.lt_trans coplt l2)))
  have mKc := inK _ mc22 (Ne.symm (Nat.ne_of_lt rowlt)) (Ne.symm (Nat.ne_of_lt coplt))
  have ncK : ∀ q ∈ R17, NC q.2 → q ∈ off row (off cop R22) := fun q hq hn => inK q (u22 q (nc18 q hq hn) hn) (ltr q hq).1 (ltr q hq).2
  have mKCo := ncK _ mCo (let ⟨_, a, _⟩ := hTb; a.nc)
  have hKr : ∀ q ∈ off row (off cop R22), q.1 ≠ row ∧ q.1 ≠ cop := fun q hq => ⟨off_ne q hq, (of_off (of_off hq).1).2⟩
  have hKR : ∀ q ∈ off row (off cop R22), q ∈ R22 := fun q hq => (of_off (of_off hq).1).1
  have hask := (fun (p9 : Program) (l9 : List Str) (m9 : ExcName → Option Value) (mg9 mb9 : Str → Option Value) (h9 : Heap) (_ : Top p9 l9 m9 mg9 mb9 h9) => ask_ok (w := w) (p := p9) (loose := l9) (mean := m9) (mg := mg9) (mb := mb9) (by with_unfolding_all rfl) mKf mKc d1' d2' mK1 e1 mK2 e2 mK3 e3 mK4 e4 mKCo loCo (hTb.nc ncK) hKr (Nat.ne_of_lt lq2.1)) _ _ _ _ _ _ T0
  have hgA := keysOf_all hTk hTg
  have mrow22 := u22 _ mrow ⟨(fun _ e => nomatch e), (fun _ e => nomatch e)⟩
  have mcop22 := u22 _ mcop ⟨(fun _ e => nomatch e), (fun _ e => nomatch e)⟩
  have sc22 := sc21.nc u22
  have ks22 := ks21.nc u22
  repeat' ((fail_if_success (with_reducible show wpAny _ _ (call (Value.ref 54) _) _ _ _)); (first | (k_unfold; (try dsimp only)) | (k_end; wrow_close) | walk1 | (dsimp only; walk1) | (leave1; walk_say "STEP leave1"; try dsimp only)))
  rename Fr _ _ _ _ => F23
  rename News _ _ _ _ => N23
  k_dflt (refine' FnOk.useH B0 F23 X0 N23 T0 ?kK (chosen_ok hask mKf hKR mrow22 mcop22 sc22 hsO hgA (by omega) (by omega) ha5 (by omega) hKr) ?kd ?ku ?_; (case kK => rfl); (case kd => decide +kernel); (case ku => decide +kernel))
  intro GG hGG _ R24 h24 tk24 F24 N24 hHi16
  first | (have hE17 := (And.left (And.right (And.right hHi16))); subst hE17; have dFo := (And.left hHi16); have oFo := (And.left (And.right hHi16)); have loFo := (And.left (And.right (And.right (And.right hHi16)))); have mFo := (And.left (And.right (And.right (And.right (And.right hHi16))))); have hMF := (And.left (And.right (And.right (And.right (And.right (And.right hHi16)))))); have hAF := (And.left (And.right (And.right (And.right (And.right (And.right (And.right hHi16))))))); have keep24 := (And.right (And.right (And.right (And.right (And.right (And.right (And.right hHi16))))))); try clear hHi16) | (obtain ⟨dFo, oFo, rfl, loFo, mFo, hMF, hAF, keep24⟩ := hHi16)
  refine hGG _ _ _ ?_
  clear hGG GG
  have nm1 := hAF.1 _ mK1
  have nm2 := hAF.1 _ mK2
  have nm3 := hAF.1 _ mK3
  have nm4 := hAF.1 _ mK4
  repeat' ((fail_if_success (with_reducible show wpAny _ _ (call (Value.ref 139) _) _ _ _)); (first | (k_unfold; (try dsimp only)) | (k_end; wrow_close) | walk1 | (dsimp only; walk1) | (leave1; walk_say "STEP leave1"; try dsimp only)))
  rename Fr _ _ _ _ => F25
  rename News _ _ _ _ => N25
  have up24 : ∀ q ∈ R17, NC q.2 → q ∈ R24 := fun q hq hn => keep24 q (u22 q (nc18 q hq hn) hn) (ltr q hq).1 (ltr q hq).2
  have mCo24 := hAF.1 _ mKCo
  k_dflt (refine' FnOk.useH B0 F25 X0 N25 T0 ?kK (walk_ok (toll := r6) (tt := tv6) mCo24 loCo (hTb.nc up24) (ks17.nc up24) hgA (by omega) (by omega) ha5 (by omega)) ?kd ?ku ?_; (case kK => rfl); (case kd => decide +kernel); (case ku => decide +kernel))
  intro GG hGG _ R26 h26 tk26 F26 N26 hHi17
  first | (have hE18 := (And.left (And.right (And.right (And.right (And.right (And.right hHi17)))))); subst hE18; have tW := (And.left hHi17); have dDu := (And.left (And.right hHi17)); have aAs := (And.left (And.right (And.right hHi17))); have nW := (And.left (And.right (And.right (And.right hHi17)))); have oDu := (And.left (And.right (And.right (And.right (And.right hHi17))))); have mtW := (And.left (And.right (And.right (And.right (And.right (And.right (And.right hHi17))))))); have loDu := (And.left (And.right (And.right (And.right (And.right (And.right (And.right (And.right hHi17)))))))); have mDu := (And.left (And.right (And.right (And.right (And.right (And.right (And.right (And.right (And.right hHi17))))))))); have hMD := (And.left (And.right (And.right (And.right (And.right (And.right (And.right (And.right (And.right (And.right hHi17)))))))))); have hDA := (And.left (And.right (And.right (And.right (And.right (And.right (And.right (And.right (And.right (And.right (And.right hHi17))))))))))); have keep26 := (And.right (And.right (And.right (And.right (And.right (And.right (And.right (And.right (And.right (And.right (And.right hHi17))))))))))); try clear hHi17) | (obtain ⟨tW, dDu, aAs, nW, oDu, rfl, mtW, loDu, mDu, hMD, hDA, keep26⟩ := hHi17)
  refine hGG _ _ _ ?_
  clear hGG GG
  have nm1 := keep26 _ nm1
  have nm2 := keep26 _ nm2
  have nm3 := keep26 _ nm3
  have nm4 := keep26 _ nm4
  repeat' ((fail_if_success (with_reducible show wpAny _ _ (compareOp _ _ _ _) _ _ _)); (first | (k_unfold; (try dsimp only)) | (k_end; wrow_close) | walk1 | (dsimp only; walk1) | (leave1; walk_say "STEP leave1"; try dsimp only)))
  rename Fr _ _ _ _ => F27
  rename News _ _ _ _ => N27
  have dR : DictsAt w dFo R26 row _ := hAF.2.1.mono fun q hq _ => keep26 q hq
  have dC : DictsAt w dFo R26 cop _ := hAF.2.2.mono fun q hq _ => keep26 q hq
  have hMF26 := hMF.mono fun q hq _ => keep26 q hq
  k_dflt (refine' td_ne N27 loFo loDu (keep26 _ mFo) mDu hMF26 hMD (by ke_room) (by ke_room) ?_)
  repeat' ((fail_if_success (with_reducible show wpAny _ _ (compareOp _ _ _ _) _ _ _)); (first | (k_unfold; (try dsimp only)) | (k_end; wrow_close) | walk1 | (dsimp only; walk1) | (leave1; walk_say "STEP leave1"; try dsimp only)))
  k_dflt (refine' tds_ne N27 dC hDA (by ke_room) (by ke_room) (by ke_room) ?_)
  repeat' ((fail_if_success (with_reducible show wpAny _ _ (compareOp _ _ _ _) _ _ _)); (first | (k_unfold; (try dsimp only)) | (k_end; wrow_close) | walk1 | (dsimp only; walk1) | (leave1; walk_say "STEP leave1"; try dsimp only)))
  k_dflt (refine' tds_ne N27 dR dC (by ke_room) (by ke_room) (by ke_room) ?_)
  repeat' ((fail_if_success (with_reducible show wpAny _ _ (eval (Expr.ListComp _ _ _ _) _) _ _ _)); (first | (k_unfold; (try dsimp only)) | (k_end; wrow_close) | walk1 | (dsimp only; walk1) | (leave1; walk_say "STEP leave1"; try dsimp only)))
  have gil := gI_to Tb r6 (1 + r4) r5 (keysOf dc ac st en hi) (keysOf dc ac st en hi).length (Nat.le_refl _)
  have hl6 := (keysOf_good dc ac st en hi).2.1
  k_dflt (refine' ident_ok (by with_unfolding_all rfl) (by with_unfolding_all rfl) F27 X0 N27 T0 nm3 e3 dR ?hlen ?hd ?hu ?_)
  case hlen => have := gil.2.2; omega
  case hd => decide +kernel
  case hu => decide +kernel
  intro lI nI h28 tk28 F28 N28
  repeat' ((fail_if_success (with_reducible show wpAny _ _ (exec (Stmt.Assign _ (Expr.DictComp _ _ _ _ _) _) _) _ _ _)); (first | (k_unfold; (try dsimp only)) | (k_end; wrow_close) | walk1 | (dsimp only; walk1) | (leave1; walk_say "STEP leave1"; try dsimp only)))
  rename Fr _ _ _ _ => F30
  rename News _ _ _ _ => N30
  have N31 : News _ _ _ R26 := fun q hq => N30 q (List.mem_cons_of_mem _ (List.mem_cons_of_mem _ hq))
  clear N30
  have mCo26 := keep26 _ mCo24
  have tb26 : TabO w R26 oCo Tb := (hTb.nc up24).mono fun q hq _ => keep26 q hq
  have hlT : Tb.length ≤ 6 := by rw [← List.length_map (f := fun x : List Int × List (Int × Int) => x.1), hTk]; exact hl6
  k_dflt (refine' own_ok (by with_unfolding_all rfl) (by with_unfolding_all rfl) F30 X0 N31 T0 nm2 e2 loCo mCo26 tb26 hlT ?hd ?hu ?_)
  case hd => decide +kernel
  case hu => decide +kernel
  intro dO oO h32 tk32 F32 N32 loO neO tbO
  have mT22 := k22 _ List.mem_cons_self
  have mT26 := keep26 _ (keep24 _ mT22 (ltr _ mt).1 (ltr _ mt).2)
  iterate 8 (first | (k_unfold; (try dsimp only)) | (k_end; wrow_close) | walk1 | (dsimp only; walk1) | (leave1; walk_say "STEP leave1"; try dsimp only))
  by_cases hr6 : 0 < r6
  · rw [decide_eq_true hr6, if_pos rfl]
    dsimp only
    (try k_unfold)
    (try dsimp only)
    exact law_end (by assumption) F32 N32 (List.mem_cons_of_mem _ mT26)
  · rw [decide_eq_false hr6, if_neg (by decide)]
    repeat' ((fail_if_success (with_reducible show wpAny _ _ (call (Value.ref 132) _) _ _ _)); (first | (k_unfold; (try dsimp only)) | (k_end; wrow_close) | walk1 | (dsimp only; walk1) | (leave1; walk_say "STEP leave1"; try dsimp only)))
    have tbO2 : TabO w ((dO, oO) :: R26) oO (ownT Tb) := tbO.mono fun q hq _ => List.mem_cons_of_mem _ hq
    have hMF2 : MapO w ((dO, oO) :: R26) oFo _ := hMF26.mono fun q hq _ => List.mem_cons_of_mem _ hq
    have mO2 : (dO, oO) ∈ (dO, oO) :: R26 := List.mem_cons_self
    have mF2 : (dFo, oFo) ∈ (dO, oO) :: R26 := List.mem_cons_of_mem _ (keep26 _ mFo)
    have gm2 := ownT_good (gil.good hgA)
    k_dflt (refine' FnOk.useH B0 F32 X0 N32 T0 ?kK (size_ok loO loFo mO2 mF2 tbO2 hMF2 gm2) ?kd ?ku ?_; (case kK => rfl); (case kd => decide +kernel); (case ku => decide +kernel))
    intro GG hGG _ R33 h33 tk33 F33 N33 hHi18
    first | (have hE19 := (And.right (And.left hHi18)); subst hE19; have t33 := (And.left (And.left hHi18)); have keep33 := (And.right hHi18); try clear hHi18) | (obtain ⟨⟨t33, rfl⟩, keep33⟩ := hHi18)
    refine hGG _ _ _ ?_
    clear hGG GG
    repeat' ((fail_if_success (with_reducible show wpAny _ _ (call (Value.ref 151) _) _ _ _)); (first | (k_unfold; (try dsimp only)) | (k_end; wrow_close) | walk1 | (dsimp only; walk1) | (leave1; walk_say "STEP leave1"; try dsimp only)))
    have tbO3 : TabO w R33 oO (ownT Tb) := tbO2.mono fun q hq _ => keep33 _ hq
    have mO3 := keep33 _ mO2
    have hlO : (ownT Tb).length ≤ 6 := Nat.le_trans (List.length_filter_le _ _) hlT
    k_dflt (refine' FnOk.useH B0 F33 X0 N33 T0 ?kK (least_ok loO mO3 tbO3 ownT_ne hlO) ?kd ?ku ?_; (case kK => rfl); (case kd => decide +kernel); (case ku => decide +kernel))
    intro GG hGG _ R34 h34 tk34 F34 N34 hHi19
    first | (have hE20 := (And.right (And.right (And.right (And.left hHi19)))); subst hE20; have ms := (And.left (And.left hHi19)); have t34 := (And.left (And.right (And.left hHi19))); have hms := (And.left (And.right (And.right (And.left hHi19)))); have keep34 := (And.right hHi19); try clear hHi19) | (obtain ⟨⟨ms, t34, hms, rfl⟩, keep34⟩ := hHi19)
    refine hGG _ _ _ ?_
    clear hGG GG
    have h0 : r6 = 0 := by omega
    have e : lsize (ownT Tb) 0 (gTo Tb r6 (1 + r4) r5 (keysOf dc ac st en hi) (keysOf dc ac st en hi).length).1 = ms.sum := by
      rw [h0]
      exact law_plain hgA hms
    rw [e]
    (first | (k_unfold; (try dsimp only)) | (k_end; wrow_close) | walk1 | (dsimp only; walk1) | (leave1; walk_say "STEP leave1"; try dsimp only))
    rw [beq_self_eq_true]
    (try k_unfold)
    (try dsimp only)
    exact law_end (by assumption) F34 N34 (keep34 _ (keep33 _ (List.mem_cons_of_mem _ mT26)))
end
end N240
end
end
theorem PySem.Challenge.cw_nz0240_01_holds : PySem.Challenge.rw_nz0240_01.Holds := by
  exact N240.lawx
