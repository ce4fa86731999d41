import PyProof.Rows.All
import Wide.All
import OpenK.AllK
import Wide.FinOn
import Lean
import PySem.Challenge.RW_pq0679_01
open PySem PySem.W PyProof.Rows
set_option Elab.async false
set_option maxRecDepth 100000
set_option maxHeartbeats 8000000
namespace Mine
theorem stage {r : OpenRow} (_ : r.toRowW.promised) (hc : r.Holds) : r.Holds := hc
section
local macro_rules | `(tactic| o_head $_) => `(tactic| refine Mine.stage ?hw ?hc)
open_top hd for PySem.Challenge.rw_pq0679_01.row
end
theorem calm : True := by w_top off; trivial
end Mine
namespace Mine
abbrev Led := List (Addr × Obj)
inductive Pick (p : Addr × Obj) : Led → Led → Prop
  | head {r} : Pick p (p :: r) r
  | tail {q l r} : Pick p l r → Pick p (q :: l) (q :: r)
theorem Pick.sub {p : Addr × Obj} {l r : Led} (h : Pick p l r) : ∀ q ∈ p :: r, q ∈ l := by
  induction h with
  | head => exact fun q hq => hq
  | tail _ ih =>
    intro q hq
    rcases List.mem_cons.mp hq with rfl | hq
    · exact List.mem_cons_of_mem _ (ih _ List.mem_cons_self)
    · rcases List.mem_cons.mp hq with rfl | hq
      · exact List.mem_cons_self
      · exact List.mem_cons_of_mem _ (ih _ (List.mem_cons_of_mem _ hq))
theorem Pick.news {p : Addr × Obj} {l r : Led} {h₀ h : Heap} {L : Addr} (pk : Pick p l r) (N : News h₀ L h l) : News h₀ L h (p :: r) := fun q hq => N q (pk.sub q hq)
theorem Pick.mem {p : Addr × Obj} {l r : Led} (h : Pick p l r) : ∀ {q}, q ∈ l → q ≠ p → q ∈ r := by
  induction h with
  | head => intro q hq hn; rcases List.mem_cons.mp hq with rfl | hq; exact absurd rfl hn; exact hq
  | tail _ ih => intro q hq hn; rcases List.mem_cons.mp hq with rfl | hq; exact List.mem_cons_self; exact List.mem_cons_of_mem _ (ih hq hn)
theorem ne_cons {a y : Addr} {o : Obj} {l : Led} (h : @Ne Nat a y) (t : ∀ q ∈ l, q.1 ≠ y) : ∀ q ∈ (a, o) :: l, q.1 ≠ y := List.forall_mem_cons.mpr ⟨h, t⟩
theorem upd_tail {d a : Addr} {o o' p : Obj} {r r' : Led} (h : @Ne Nat a d) (u : Upd d o o' r r') : Upd d o o' ((a, p) :: r) ((a, p) :: r') := .tail h u
def Hold (p : Prop) : Prop := p
theorem unhold {p : Prop} (h : Hold p) : p := h
end Mine
local macro_rules | `(tactic| walk_at $s:str) => `(tactic| k_extra $s)
local macro_rules | `(tactic| walk_at "pyIter ref") => `(tactic| k_extra "M:pyIter ref")
local macro_rules | `(tactic| k_all) => `(tactic| k_extra "M:all")
local macro_rules | `(tactic| k_upd) => `(tactic| k_extra "M:upd")
local macro_rules | `(tactic| k_mem) => `(tactic| k_extra "M:mem")
local macro_rules | `(tactic| k_in) => `(tactic| k_extra "M:in")
local macro_rules | `(tactic| news_mem) => `(tactic| k_extra "M:news")
local macro_rules | `(tactic| k_room) => `(tactic| k_extra "M:room")
local macro_rules | `(tactic| lsm_bools) => `(tactic| k_extra "M:bools")
section
namespace Mine
abbrev ent (P : Params) (n : String) (t : Tok) (v : Value) : DictEntry := ⟨PyData.keyHash P (Str.ofString n), .str (Str.ofString n) t, v⟩
def WAt (P : Params) (l : Led) (x pc : Addr) (ls ns : Int) : Prop :=
  ∃ dx k1 k2 k3 k4 t1 t2 n, (x, instObj 204 dx) ∈ l ∧ (dx, dictOf [ent P "length_size" k1 (.int ls t1), ent P "number_size" k2 (.int ns t2), ent P "is_stripped" k3 (.bool false), ent P "pieces" k4 (.ref pc)] n) ∈ l
theorem WAt.mono {P : Params} {l l' : Led} {x pc : Addr} {ls ns : Int} (h : WAt P l x pc ls ns) (hs : ∀ q ∈ l, q ∈ l') : WAt P l' x pc ls ns := by
  obtain ⟨dx, k1, k2, k3, k4, t1, t2, n, h1, h2⟩ := h
  exact ⟨dx, k1, k2, k3, k4, t1, t2, n, hs _ h1, hs _ h2⟩
theorem WAt.elim {P : Params} {l : Led} {x pc : Addr} {ls ns : Int} {G : Prop} (h : WAt P l x pc ls ns) (k : ∀ dx k1 k2 k3 k4 t1 t2 n, (x, instObj 204 dx) ∈ l → (dx, dictOf [ent P "length_size" k1 (.int ls t1), ent P "number_size" k2 (.int ns t2), ent P "is_stripped" k3 (.bool false), ent P "pieces" k4 (.ref pc)] n) ∈ l → G) : G := by
  obtain ⟨dx, k1, k2, k3, k4, t1, t2, n, h1, h2⟩ := h
  exact k dx k1 k2 k3 k4 t1 t2 n h1 h2
end Mine
namespace Mine
/-- the octets of v, least first -/
def le (v : Int) (k : Nat) : List UInt8 := ((rangeKs 0 k).map fun k' => Builtin.bitAnd (v.fdiv (2 ^ (8 * k').toNat)) 255).map fun n => n.toNat.toUInt8
theorem le_len (v : Int) (k : Nat) : (le v k).length = k := by simp [le, rangeKs_length]
theorem band255 (x : Int) : 0 ≤ Builtin.bitAnd x 255 ∧ Builtin.bitAnd x 255 < 256 := by
  rw [bitAnd_m8]; omega
end Mine
namespace Mine
theorem byteIn {f : Int → Int} {ks : List Int} : ∀ n ∈ ks.map (fun k => Builtin.bitAnd (f k) 255), 0 ≤ n ∧ n < 256 := by
  intro n hn
  obtain ⟨k, _, rfl⟩ := List.mem_map.mp hn
  exact band255 _
end Mine
namespace Mine
/-- the pieces vs, joined, are out -/
inductive PcsAre : List Value → List UInt8 → Prop
  | nil : PcsAre [] []
  | snoc {vs : List Value} {o : List UInt8} (b : List UInt8) (t : Tok) : PcsAre vs o → PcsAre (vs ++ [Value.bytes b.toArray t]) (o ++ b)
theorem WAt.pick {P : Params} {l r : Led} {x pc : Addr} {ls ns : Int} {q : Addr} {its : Array Value} {n : Nat} (pk : Pick (q, listOf its n) l r) (h : WAt P l x pc ls ns) : WAt P r x pc ls ns := by
  obtain ⟨dx, k1, k2, k3, k4, t1, t2, n', h1, h2⟩ := h
  exact ⟨dx, k1, k2, k3, k4, t1, t2, n', pk.mem h1 (fun e => by have e2 := congrArg (fun q => q.2.data) e; cases e2), pk.mem h2 (fun e => by have e2 := congrArg (fun q => q.2.data) e; cases e2)⟩
theorem pow_one {v : Int} {k : Nat} (h : v < 256) (hk : 1 ≤ k) : v < 256 ^ k := by
  obtain ⟨j, rfl⟩ : ∃ j, k = j + 1 := ⟨k - 1, by omega⟩
  have h2 : (0 : Int) < 256 ^ j := Int.pow_pos (by decide)
  rw [Int.pow_succ]
  omega
theorem pow_four {v : Int} (h : v ≤ 2147483647) : v < 256 ^ (4 : Int).toNat := by
  have e : (256 : Int) ^ (4 : Int).toNat = 4294967296 := by decide
  omega
theorem sub_sub {q r : Addr × Obj} {l : Led} : ∀ p ∈ l, p ∈ q :: r :: l := fun _ h => List.mem_cons_of_mem _ (List.mem_cons_of_mem _ h)
theorem news_le {h₀ h : Heap} {L : Addr} {l l' : Led} (N : News h₀ L h l) (hs : ∀ q ∈ l', q ∈ l) : News h₀ L h l' := fun q hq => N q (hs q hq)
end Mine
namespace Mine
/-- half the range of numbers of ns octets -/
def halfOf (ns : Int) : Int := (256 ^ ns.toNat : Int).fdiv 2
theorem two_half {ns : Int} (h : 1 ≤ ns) : 2 * halfOf ns = 256 ^ ns.toNat := by
  unfold halfOf
  obtain ⟨j, hj⟩ : ∃ j, ns.toNat = j + 1 := ⟨ns.toNat - 1, by omega⟩
  rw [hj, Int.pow_succ, Int.fdiv_eq_ediv_of_nonneg _ (by decide)]
  omega
theorem half_pos {ns : Int} (h : 1 ≤ ns) : 0 < halfOf ns := by
  have h1 := two_half h
  have h2 : (0 : Int) < 256 ^ ns.toNat := Int.pow_pos (by decide)
  omega
def Fits (ns v : Int) : Prop := -halfOf ns ≤ v ∧ v < halfOf ns
/-- a number as octets -/
def encN (ns v : Int) : List UInt8 := le (Int.fmod v (2 * halfOf ns)) ns.toNat
theorem fm_lo {v ns : Int} (h : 1 ≤ ns) : 0 ≤ Int.fmod v (2 * (256 ^ ns.toNat : Int).fdiv 2) := by
  have h1 := half_pos h
  unfold halfOf at h1
  exact fmod_lo _ (by omega)
theorem fm_hi {v ns : Int} (h : 1 ≤ ns) : Int.fmod v (2 * (256 ^ ns.toNat : Int).fdiv 2) < 256 ^ ns.toNat := by
  have h1 := half_pos h
  have h2 := two_half h
  unfold halfOf at h1 h2
  have h3 := fmod_hi v (n := 2 * (256 ^ ns.toNat : Int).fdiv 2) (by omega)
  omega
end Mine
end
section
namespace Mine
inductive Cst where
  | nil
  | bool (b : Bool)
  | num (n : Int)
  | txt
inductive CIs : Value → Cst → Prop
  | nil : CIs .none .nil
  | bool (b : Bool) : CIs (.bool b) (.bool b)
  | num (n : Int) (t : Tok) : CIs (.int n t) (.num n)
  | txt (t : Tok) : CIs (.bytes #[116] t) .txt
def encC (ls ns : Int) : Cst → List UInt8
  | .nil => le 0 1
  | .bool b => le 1 1 ++ le (if b then 1 else 0) 1
  | .num n => le 3 1 ++ encN ns n
  | .txt => le 4 1 ++ (le (([116] : List UInt8).length + 1) ls.toNat ++ [116] ++ le 0 1)
def CFits (ns : Int) : Cst → Prop
  | .num n => Fits ns n
  | _ => True
end Mine
namespace Mine
theorem len_led {prog : Program} {w : World} {A : Around} {E : Value → Shared → Prop} {s : Shared} {h₀ : Heap} {L : Addr} {l : Led} {a : Addr} {vs : List Value} {n : Nat} {Q : Value → Shared → Prop}
    (N : News h₀ L s.heap l) (hm : (a, listOf vs.toArray n) ∈ l) (hz : vs.length ≤ 1000) (h : ∀ t tk, Q (.int (vs.length : Int) t) { s with toks := tk }) : wpAny (model prog w) A (call (.builtin "len") [.ref a]) Q E s := by
  refine len_list (News.isList N hm) (by simp only [List.size_toArray]; omega) ?_
  simp only [List.size_toArray]
  exact h _ _
inductive All2 {α β : Type} (R : α → β → Prop) : List α → List β → Prop
  | nil : All2 R [] []
  | cons {a b as bs} : R a b → All2 R as bs → All2 R (a :: as) (b :: bs)
theorem All2.len {α β : Type} {R : α → β → Prop} {as : List α} {bs : List β} (h : All2 R as bs) : as.length = bs.length := by
  induction h with
  | nil => rfl
  | cons _ _ ih => simp [ih]
theorem All2.mono {α β : Type} {R S : α → β → Prop} {as : List α} {bs : List β} (h : All2 R as bs) (k : ∀ a b, R a b → S a b) : All2 S as bs := by
  induction h with
  | nil => exact .nil
  | cons x _ ih => exact .cons (k _ _ x) ih
/-- what lies at a place of the one lies at that place of the other -/
theorem All2.split {α β : Type} {R : α → β → Prop} {pre : List α} {v : α} {post : List α} {bs : List β} (h : All2 R (pre ++ v :: post) bs) : ∃ b1 b b2, bs = b1 ++ b :: b2 ∧ b1.length = pre.length ∧ R v b := by
  induction pre generalizing bs with
  | nil => cases h with | cons x _ => exact ⟨[], _, _, rfl, rfl, x⟩
  | cons a pre ih =>
    cases h with
    | cons x y =>
      obtain ⟨b1, b, b2, rfl, hl, hr⟩ := ih y
      exact ⟨_ :: b1, b, b2, rfl, by simp [hl], hr⟩
inductive EntsAre (P : Params) : List (String × Value) → List DictEntry → Prop
  | nil : EntsAre P [] []
  | cons {n : String} {v : Value} {t : Tok} {r : List (String × Value)} {es : List DictEntry} : EntsAre P r es → EntsAre P ((n, v) :: r) (ent P n t v :: es)
def entsK (P : Params) : (Nat → Tok) → List (String × Value) → List DictEntry
  | _, [] => []
  | k, (n, v) :: r => ent P n (k 0) v :: entsK P (fun i => k (i + 1)) r
def shiftK (t : Tok) (k : Nat → Tok) : Nat → Tok
  | 0 => t
  | i + 1 => k i
theorem EntsAre.out {P : Params} {l : List (String × Value)} {es : List DictEntry} (h : EntsAre P l es) : ∃ k : Nat → Tok, es = entsK P k l := by
  induction h with
  | nil => exact ⟨fun _ => default, rfl⟩
  | @cons n v t r es _ ih =>
    obtain ⟨k, rfl⟩ := ih
    exact ⟨shiftK t k, rfl⟩
structure Nd (C : Type) where
  cs : List Cst
  ts : List C
/-- a made function's node: its object, its dict, its lists -/
inductive NdIn {C : Type} (P : Params) (RC : Led → Value → C → Prop) (l : Led) : Value → Nd C → Prop
  | mk {a da l1 lc lp l2 l3 l4 : Addr} {nd n1 n2 n3 n4 n5 n6 : Nat} {es : List DictEntry} {cvs pvs : List Value} {v0 v1 v2 : Value} {t0 t1 t2 t3 t4 t5 t6 : Tok} {x : Nd C} :
    (a, instObj 281 da) ∈ l → (da, dictOf es nd) ∈ l →
    EntsAre P [("number", v0), ("mark", v1), ("size", v2), ("code", .ref l1), ("constants", .ref lc), ("protos", .ref lp), ("line_info", .ref l2), ("locals", .ref l3), ("upvalue_names", .ref l4),
      ("source", .bytes #[] t0), ("line_defined", .int 0 t1), ("last_line", .int 0 t2), ("upvalue_count", .int 0 t3), ("param_count", .int 0 t4), ("is_vararg", .int 0 t5), ("max_stack", .int 2 t6)] es →
    (l1, listOf #[] n1) ∈ l → (lc, listOf cvs.toArray n2) ∈ l → (lp, listOf pvs.toArray n3) ∈ l → (l2, listOf #[] n4) ∈ l → (l3, listOf #[] n5) ∈ l → (l4, listOf #[] n6) ∈ l →
    All2 CIs cvs x.cs → All2 (RC l) pvs x.ts → x.cs.length ≤ 3 → x.ts.length ≤ 2 → NdIn P RC l (.ref a) x
theorem NdIn.elim {C : Type} {P : Params} {RC : Led → Value → C → Prop} {l : Led} {v : Value} {x : Nd C} {G : Value → Prop} (h : NdIn P RC l v x)
    (k : ∀ (a da l1 lc lp l2 l3 l4 : Addr) (nd n1 n2 n3 n4 n5 n6 : Nat) (cvs pvs : List Value) (v0 v1 v2 : Value) (t0 t1 t2 t3 t4 t5 t6 k0 k1 k2 k3 k4 k5 k6 k7 k8 k9 k10 k11 k12 k13 k14 k15 : Tok), NdIn P RC l (.ref a) x → (a, instObj 281 da) ∈ l → (da, dictOf [ent P "number" k0 v0, ent P "mark" k1 v1, ent P "size" k2 v2, ent P "code" k3 (.ref l1), ent P "constants" k4 (.ref lc), ent P "protos" k5 (.ref lp), ent P "line_info" k6 (.ref l2), ent P "locals" k7 (.ref l3), ent P "upvalue_names" k8 (.ref l4), ent P "source" k9 (.bytes #[] t0), ent P "line_defined" k10 (.int 0 t1), ent P "last_line" k11 (.int 0 t2), ent P "upvalue_count" k12 (.int 0 t3), ent P "param_count" k13 (.int 0 t4), ent P "is_vararg" k14 (.int 0 t5), ent P "max_stack" k15 (.int 2 t6)] nd) ∈ l →
      (l1, listOf #[] n1) ∈ l → (lc, listOf cvs.toArray n2) ∈ l → (lp, listOf pvs.toArray n3) ∈ l → (l2, listOf #[] n4) ∈ l → (l3, listOf #[] n5) ∈ l → (l4, listOf #[] n6) ∈ l →
      All2 CIs cvs x.cs → All2 (RC l) pvs x.ts → x.cs.length ≤ 3 → x.ts.length ≤ 2 → G (.ref a)) : G v := by
  have h0 := h
  cases h with
  | mk h1 h2 hE h4 h5 h6 h7 h8 h9 hc ht z1 z2 =>
    obtain ⟨kk, rfl⟩ := hE.out
    exact k _ _ _ _ _ _ _ _ _ _ _ _ _ _ _ _ _ _ _ _ _ _ _ _ _ _ _ (kk 0) (kk 1) (kk 2) (kk 3) (kk 4) (kk 5) (kk 6) (kk 7) (kk 8) (kk 9) (kk 10) (kk 11) (kk 12) (kk 13) (kk 14) (kk 15) h0 h1 h2 h4 h5 h6 h7 h8 h9 hc ht z1 z2
theorem NdIn.mono {C : Type} {P : Params} {RC : Led → Value → C → Prop} (hR : ∀ {l l' v c}, RC l v c → (∀ q ∈ l, q ∈ l') → RC l' v c) {l l' : Led} {v : Value} {x : Nd C} (h : NdIn P RC l v x) (hs : ∀ q ∈ l, q ∈ l') : NdIn P RC l' v x := by
  cases h with
  | mk h1 h2 h3 h4 h5 h6 h7 h8 h9 hc ht z1 z2 => exact .mk (hs _ h1) (hs _ h2) h3 (hs _ h4) (hs _ h5) (hs _ h6) (hs _ h7) (hs _ h8) (hs _ h9) hc (ht.mono fun a b r => hR r hs) z1 z2
section
variable {prog : Program} {w : World} {A : Around} {E : Value → Shared → Prop} {s : Shared} {env : Env} {h₀ : Heap} {x : Str} {body : List Stmt} {Q : Flow → Shared → Prop}
theorem listRest_ind {I : Addr} {lp : Addr × Obj} {vs : List Value} {m₀ : Str → Option Value} {news : Led} (J : List Value → Led → Prop) (h0 : J [] news) (hlp : lp ∈ news) (hI : ∀ q ∈ news, q.1 ≠ I)
    (step : ∀ pre v post nw it h tk, vs = pre ++ v :: post → J pre nw → lp ∈ nw → (∀ q ∈ nw, q.1 ≠ I) → Fr h₀ env.locals h (fun y => if y = x then some v else m₀ y) → News h₀ env.locals h ((I, it) :: nw) →
      wpAny (model prog w) A (execs body env) (UnrPost h₀ env.locals { s with heap := h, toks := tk } I it (fun m' n' => lp ∈ n' ∧ m' = (fun y => if y = x then some v else m₀ y) ∧ J (pre ++ [v]) n') Q) E { s with heap := h, toks := tk })
    (done : ∀ nw h tk u, J vs nw → Fr h₀ env.locals h (fun y => if y = x then u else m₀ y) → News h₀ env.locals h nw → Q .next { s with heap := h, toks := tk }) :
    ListRest prog w A E h₀ env x body Q s I lp vs m₀ news := by
  have gen : ∀ post pre nw u, vs = pre ++ post → J pre nw → lp ∈ nw → (∀ q ∈ nw, q.1 ≠ I) → ListRest prog w A E h₀ env x body Q s I lp post (fun y => if y = x then u else m₀ y) nw := by
    intro post
    induction post with
    | nil =>
      intro pre nw u e hJ _ _
      refine ListRest.zero fun h tk F N => done nw h tk u ?_ F N
      rw [e, List.append_nil]; exact hJ
    | cons v r ih =>
      intro pre nw u e hJ hl hI
      refine ListRest.succ fun it h tk _ F N => ?_
      have em : (fun y => if y = x then some v else (fun y => if y = x then u else m₀ y) y) = fun y => if y = x then some v else m₀ y := by
        funext y
        by_cases hy : y = x <;> simp [hy]
      rw [em] at F
      refine wpAny_mono (step pre v r nw it h tk e hJ hl hI F N) (fun f s₂ z => ?_) fun _ _ z => z
      have fin : UnrEnd h₀ env.locals { s with heap := h, toks := tk } I it (fun m' n' => lp ∈ n' ∧ m' = (fun y => if y = x then some v else m₀ y) ∧ J (pre ++ [v]) n') s₂ →
          UnrEnd h₀ env.locals { s with heap := h, toks := tk } I it (fun m' n' => lp ∈ n' ∧ ListRest prog w A E h₀ env x body Q s I lp r m' n') s₂ := by
        rintro ⟨h', tk', m', n', e', F', N', off, hl', rfl, hJ'⟩
        exact ⟨h', tk', _, n', e', F', N', off, hl', ih (pre ++ [v]) n' (some v) (by rw [e, List.append_assoc]; rfl) hJ' hl' off⟩
      cases f with
      | ret v => exact z
      | brk => exact z
      | next => exact fin z
      | cont => exact fin z
  have em : (fun y => if y = x then m₀ x else m₀ y) = m₀ := by
    funext y
    by_cases hy : y = x <;> simp [hy]
  have := gen vs [] news (m₀ x) rfl h0 hlp hI
  rwa [em] at this
end
end Mine
end
section
namespace Mine
def encL {α : Type} (f : α → List UInt8) (xs : List α) : List UInt8 := (xs.map f).flatten
theorem encL_nil {α : Type} (f : α → List UInt8) : encL f [] = [] := rfl
theorem encL_snoc {α : Type} (f : α → List UInt8) (xs : List α) (x : α) : encL f (xs ++ [x]) = encL f xs ++ f x := by simp [encL]
theorem encL_cons {α : Type} (f : α → List UInt8) (xs : List α) (x : α) : encL f (x :: xs) = f x ++ encL f xs := by simp [encL]
def encB {C : Type} (ls ns : Int) (enc : C → List UInt8) (x : Nd C) : List UInt8 :=
  le x.cs.length 4 ++ encL (encC ls ns) x.cs ++ le x.ts.length 4 ++ encL enc x.ts
def NFits {C : Type} (ns : Int) (fit : C → Prop) (x : Nd C) : Prop := (∀ c ∈ x.cs, CFits ns c) ∧ ∀ t ∈ x.ts, fit t
theorem end_pc {h₀ h' : Heap} {L I pc : Addr} {m' : Str → Option Value} {o it : Obj} {rest : Led} {Rst : (Str → Option Value) → Led → Prop} {s₁ : Shared} {tk : Nat} (F : Fr h₀ L h' m') (N : News h₀ L h' ((pc, o) :: (I, it) :: rest))
    (off : ∀ q ∈ (pc, o) :: rest, q.1 ≠ I) (r : Rst m' ((pc, o) :: rest)) : UnrEnd h₀ L s₁ I it Rst { s₁ with heap := h', toks := tk } := by
  refine UnrEnd.intro F N ((pc, o) :: rest) (fun q hq => ?_) off r
  rcases List.mem_cons.mp hq with rfl | hq
  · exact List.mem_cons_of_mem _ List.mem_cons_self
  · rcases List.mem_cons.mp hq with rfl | hq
    · exact List.mem_cons_self
    · exact List.mem_cons_of_mem _ (List.mem_cons_of_mem _ hq)
/-- the contract of Writer.function on an inner function -/
def FnSpec (prog : Program) (w : World) (p : Program) (loose : List Str) (mean : ExcName → Option Value) (mg mb : Str → Option Value) (ls ns : Int) (H np : Nat) {C : Type} (RC : Led → Value → C → Prop) (enc : C → List UInt8) (fit : C → Prop) : Prop :=
  ∀ {dp un : Nat} {gd : Option (List Code)} {cn : Str} {cs : Scope} {a : Addr} {ccd : Value} {cl : List (Str × Addr)} {outer : List Env} {A₀ : Around} {base h₀ : Heap} {L : Addr} {m : Str → Option Value} {s : Shared} {Q E : Value → Shared → Prop} {l rest l₀ : Led}
    {x pc : Addr} {v : Value} {c : C} {pcs : List Value} {out : List UInt8} {n : Nat} {tb : Tok},
    Below A₀ base outer h₀ → Fr h₀ L s.heap m → (hd.heap_1 w.params).In h₀ → News h₀ L s.heap l → Top p loose mean mg mb h₀ → cs.kind = .function → dp + H < recursionLimit → un + 8 * H < cLine →
    WAt w.params l x pc ls ns → Pick (pc, listOf pcs.toArray n) l rest → (∀ q ∈ rest, q.1 ≠ pc) → PcsAre pcs out → pcs.length + np ≤ 980 → RC l₀ v c → (∀ q ∈ l₀, q ∈ rest) →
    (∀ h' tk' pcs' n', fit c → PcsAre pcs' (out ++ enc c) → pcs'.length ≤ pcs.length + np → Fr h₀ L h' m → News h₀ L h' ((pc, listOf pcs'.toArray n') :: rest) → Q .none { s with heap := h', toks := tk' }) →
    (∀ e h' tk' g₂, ¬ fit c → Fr h₀ L g₂ m → g₂.UpToSlots h' → RaisedN base (envX cn cs L a ccd cl :: outer) e (.ref 53) rest h' → E (.ref e) { s with heap := h', toks := tk' }) →
    wpAny (model prog w) (ktrTop dp un gd cn cs L a ccd cl outer) (call (.ref 201) [.ref x, v, .bytes #[] tb]) Q E s
end Mine
namespace Mine
def encF {C : Type} (ls ns : Int) (root : Bool) (enc : C → List UInt8) (x : Nd C) : List UInt8 :=
  (if root then le (([] : List UInt8).length + 1) ls.toNat ++ [] ++ le 0 1 else le 0 ls.toNat) ++ le 0 4 ++ le 0 4 ++ le 0 1 ++ le 0 1 ++ le 0 1 ++ le 2 1 ++ le 0 4 ++ encB ls ns enc x ++ (le 0 4 ++ le 0 4 ++ le 0 4)
end Mine
namespace Mine
open PySem.Builtin PyProof.Rows PySem.W PySem.EqNone
theorem sub_none_bytes : isSubtype (.type "NoneType") (.type "bytes") = pure false := by rw [isSubtype_type]; kernel_rfl
theorem none_ne_bytes (a : Array UInt8) (t : Tok) : Gives (Builtin.«NoneType.__ne__» ⟨[.none, .bytes a t], []⟩) (.val (Value.notImplemented)) :=
  .of_wp fun M A E s Q h => by obtain ⟨hp, g, d, tk, os⟩ := s; wp_walk; exact ⟨_, rfl, h⟩
theorem bytes_ne_none (a : Array UInt8) (t : Tok) : Gives (Builtin.«bytes.__ne__» ⟨[.bytes a t, .none], []⟩) (.val (Value.notImplemented)) := by
  refine .of_wp fun M A E s Q hq => ?_
  obtain ⟨hp, g, d, tk, os⟩ := s
  wp_walk
  refine wpAny_of_eq sub_none_bytes ?_
  wp_walk
  exact ⟨_, rfl, hq⟩
theorem sub_bytes_none : isSubtype (.type "bytes") (.type "NoneType") = pure false := by rw [isSubtype_type]; kernel_rfl
theorem ne_bytes_none {prog : Program} {w : World} {A : Around} {E : Value → Shared → Prop} {s : Shared} {Q : Value → Shared → Prop} {a : Array UInt8} {t : Tok} (h : Q (.bool true) s) : wpAny (model prog w) A (compareOp .NotEq (.bytes a t) .none) Q E s := by
  show wpAny _ A (richCompare .NotEq _ _) Q E s
  exact wpAny_richCompare_ne_decline (k := false) (fun s' => typeIs_bytes s' a t) (fun _ => rfl) (by decide) sub_none_bytes FB.slot_bytes_ne F.slot_NoneType_ne_refl rfl
    (call_gives FB.slot_bytes_ne (typeIs_bytes s a t) FB.entry_bytes_ne (FB.args_bytes_ne_2 _ _) (bytes_ne_none a t)
      ⟨rfl, call_gives F.slot_NoneType_ne_refl rfl F.entry_NoneType_ne (F.args_NoneType_ne_2 _ _) (none_ne_bytes a t) ⟨rfl, h⟩⟩)
end Mine
end
section
namespace Mine
open PySem.Builtin PySem.Builtin.Bytes PySem.W PyProof.Rows PySem.Calls
theorem slot_join : Slot "bytes" "join" "bytes.join" :=
  .of (owner := "bytes") (n := "join") (by rw [typeLookup_type, builtinLookup_eq_fast]; kernel_rfl) (by decide +kernel) (by decide +kernel) (by decide +kernel)
    (by first | exact .inl (by decide +kernel) | exact .inr (by decide +kernel)) (by rw [isSubtype_type]; kernel_rfl)
theorem type_join : typeOf (.builtin "bytes.join") = pure (.type "method_descriptor") := by show builtinType _ = _; rw [builtinType_eq_fast]; kernel_rfl
theorem entry_join : entryFor table "bytes.join" = some Builtin.«bytes.join» := entryFor_of_tree (by kernel_rfl)
theorem args_join (a b : Value) : argsOk "bytes.join" ⟨[a, b], []⟩ := by
  unfold argsOk; rw [signature?_of (id := "bytes.join") (n := ['n', 'i', 'o', 'j']) (o := ['s', 'e', 't', 'y', 'b']) (by kernel_rfl) FB.owner_bytes]; kernel_rfl
theorem method_join {M : Model} {A : Around} {E : Value → Shared → Prop} {s : Shared} {b : Array UInt8} {t : Tok} {pl : Sem Bool} {Q : Value × List Value → Shared → Prop} (h : Q (.builtin "bytes.join", [.bytes b t]) s) : wpAny M A (getMethod (.bytes b t) "join" pl) Q E s := by
  with_reducible exact KBd.method_of (.bytes b t) (typeIs_bytes _ _ _) slot_join type_join KBd.noRef h
theorem take_buf (b : Array UInt8) (t : Tok) : takeBufferQuiet? "bytes.join" (.bytes b t) 0 = pure (some (b, none)) := by kernel_rfl
/-- the pieces' octets -/
def octs : List Value → List (Array UInt8)
  | [] => []
  | .bytes b _ :: r => b :: octs r
  | _ :: r => octs r
def AllBy (vs : List Value) : Prop := ∀ v ∈ vs, ∃ b t, v = .bytes b t
theorem join_nil (ps : List (Array UInt8)) : ∀ (k : Nat) (o : Array UInt8), (ps.zipIdx k).foldl (fun out (p, i) => (if i > 0 then out ++ #[] else out) ++ p) o = ps.foldl (· ++ ·) o := by
  induction ps with
  | nil => intro k o; rfl
  | cons p r ih =>
    intro k o
    rw [List.zipIdx_cons, List.foldl_cons, List.foldl_cons]
    have e : (if k > 0 then o ++ #[] else o) = o := by split <;> simp
    show List.foldl _ ((if k > 0 then o ++ #[] else o) ++ p) _ = _
    rw [e]
    exact ih _ _
theorem letGo_ok {M : Model} {A : Around} {E : Value → Shared → Prop} {s : Shared} {Q : Unit → Shared → Prop} (h : Q () s) : ∀ (l : List Value) (keep : List Value), wpAny M A (joinLetGo (l.map fun x => (x, none)) keep) Q E s
  | [], _ => wpAny_pure h
  | x :: r, keep => by
    show wpAny M A (letGo (x :: []) _ >>= fun _ => joinLetGo _ keep) Q E s
    refine wpAny_bind ?_
    unfold letGo
    refine wpAny_bind (wpAny_holding (wpAny_point ?_))
    unfold letGo
    exact wpAny_pure (letGo_ok h r keep)
end Mine
end
section
namespace Mine
open PySem.Builtin PySem.Builtin.Bytes PySem.W PyProof.Rows PySem.Calls
theorem octs_snoc {vs : List Value} {b : Array UInt8} {t : Tok} (hb : AllBy vs) : octs (vs ++ [.bytes b t]) = octs vs ++ [b] := by
  induction vs with
  | nil => rfl
  | cons v r ih =>
    obtain ⟨b', t', rfl⟩ := hb v List.mem_cons_self
    show b' :: octs (r ++ _) = b' :: (octs r ++ [b])
    rw [ih fun x hx => hb x (List.mem_cons_of_mem _ hx)]
theorem range_list {β : Type} (n : Nat) (b : β) (f : Nat → β → Sem (ForInStep β)) : forIn [:n] b f = forIn (List.range' 0 n 1) b f := by
  rw [Std.Legacy.Range.forIn_eq_forIn_range']
  have hsz : ([:n] : Std.Legacy.Range).size = n := by simp [Std.Legacy.Range.size]
  show forIn (List.range' 0 ([:n] : Std.Legacy.Range).size 1) b f = _
  rw [hsz]
theorem no_heap {vs : List Value} (hb : AllBy vs) : ((vs.map fun x => (x, (none : Option Value))).any fun x => x.1.onHeap) = false := by
  induction vs with
  | nil => rfl
  | cons v r ih =>
    obtain ⟨b, t, rfl⟩ := hb v List.mem_cons_self
    show (false || _) = false
    rw [Bool.false_or]
    exact ih fun x hx => hb x (List.mem_cons_of_mem _ hx)
theorem join_run {M : Model} {A : Around} {E : Value → Shared → Prop} {s : Shared} {a : Addr} {vs : List Value} {n : Nat} {t : Tok} {Q : Fin → Shared → Prop} (hl : s.heap.get? a = some (listOf vs.toArray n)) (hb : AllBy vs) (h2 : 2 ≤ vs.length)
    (hsz : (octs vs).toArray.foldl (fun k b => k + b.size) 0 ≤ 16777216) (hsz2 : ((octs vs).foldl (· ++ ·) (#[] : Array UInt8)).size ≤ 16777216)
    (h : ∀ t' tk, Q (.done (.ret (.bytes ((octs vs).foldl (· ++ ·) #[]) t'))) { s with toks := tk }) :
    wpAny M A (Builtin.«bytes.join» ⟨[.bytes #[] t, .ref a], []⟩) Q E s := by
  show wpAny M A (joinItems (.ref a) >>= fun seq => _) Q E s
  have hT : s.TypeIs (.ref a) "list" := ⟨_, hl, rfl⟩
  have hs : ∀ (Q' : Option (Array Value) → Shared → Prop) E', Q' (some vs.toArray) s → wpAny M A (seqItems? (.ref a)) Q' E' s := fun Q' E' hq => wpAny_bind (wpAny_load hl (wpAny_pure hq))
  refine wpAny_bind (wpAny_bind (wpAny_typeOf hT ?_))
  refine wpAny_pure ?_
  refine wpAny_bind (hs _ _ ?_)
  dsimp only
  rw [if_pos (by decide)]
  obtain ⟨v0, v1, r, rfl⟩ : ∃ v0 v1 r, vs = v0 :: v1 :: r := by
    match vs, h2 with
    | v0 :: v1 :: r, _ => exact ⟨v0, v1, r, rfl⟩
  show wpAny M A (forIn [:(v0 :: v1 :: r).toArray.size] ((#[] : Array (Array UInt8)), ([] : List (Value × Option Value))) _ >>= _) Q E s
  generalize v0 :: v1 :: r = vs at *
  rw [range_list]
  refine wpAny_bind ?_
  refine wpAny_forIn_list _ (fun (rest : List Nat) (st : Array (Array UInt8) × List (Value × Option Value)) s' => s' = s ∧ ∃ i, i ≤ vs.length ∧ rest = List.range' i (vs.length - i) 1 ∧ st.1 = (octs (vs.take i)).toArray ∧ st.2 = (vs.take i).map fun x => (x, none)) _ ?turn ?fin _ _ ⟨rfl, 0, by omega, by simp, by simp [octs], by simp⟩
  case turn =>
    rintro x rest ⟨parts, taken⟩ s' ⟨rfl, i, hi, hr, hp, ht⟩
    dsimp only at hp ht
    subst hp ht
    have hlt : i < vs.length := by
      rcases Nat.lt_or_ge i vs.length with h | h
      · exact h
      · rw [show vs.length - i = 0 by omega] at hr; cases hr
    obtain ⟨k, hk⟩ : ∃ k, vs.length - i = k + 1 := ⟨vs.length - i - 1, by omega⟩
    rw [hk, List.range'_succ] at hr
    obtain ⟨rfl, rfl⟩ := List.cons.inj hr
    obtain ⟨b, tb, hv⟩ := hb vs[x] (List.getElem_mem hlt)
    have hbt : AllBy (vs.take x) := fun v hv => hb v (List.mem_of_mem_take hv)
    have hget : vs.toArray.getD x .none = .bytes b tb := by simp [Array.getD, hlt, hv]
    refine wpAny_bind (hs _ _ ?_)
    dsimp only
    rw [hget, if_neg (by rw [no_heap hbt]; decide)]
    refine wpAny_bind (wpAny_holding (wpAny_of_eq (take_buf b tb) ?_))
    refine wpAny_bind (hs _ _ ?_)
    dsimp only
    rw [if_neg (by simp)]
    refine wpAny_pure ⟨rfl, x + 1, hlt, by congr 1; omega, ?_, ?_⟩
    · have e : vs.take (x + 1) = vs.take x ++ [.bytes b tb] := by rw [List.take_add_one, List.getElem?_eq_getElem hlt, hv]; rfl
      rw [e, octs_snoc hbt, List.push_toArray]
    · have e : vs.take (x + 1) = vs.take x ++ [.bytes b tb] := by rw [List.take_add_one, List.getElem?_eq_getElem hlt, hv]; rfl
      rw [e, List.map_append]; rfl
  case fin =>
    rintro ⟨parts, taken⟩ s' ⟨rfl, i, hi, hr, hp, ht⟩
    dsimp only at hp ht
    have : i = vs.length := by
      rcases Nat.lt_or_ge i vs.length with h | h
      · obtain ⟨k, hk⟩ : ∃ k, vs.length - i = k + 1 := ⟨vs.length - i - 1, by omega⟩
        rw [hk, List.range'_succ] at hr
        cases hr
      · omega
    subst this
    rw [List.take_length] at hp ht
    subst hp ht
    refine wpAny_bind (wpAny_pure ?_)
    have hsh : tooLong (Array.foldl (fun x1 x2 => x1 + x2.size) ((#[] : Array UInt8).size * ((octs vs).toArray.size - 1)) (octs vs).toArray) = false := by
      have e : (#[] : Array UInt8).size * ((octs vs).toArray.size - 1) = 0 := by simp
      rw [e]
      unfold tooLong
      rw [sizeLine_eq, decide_eq_false_iff_not]
      omega
    rw [if_neg (by rw [hsh]; decide)]
    refine wpAny_bind ?_
    show wpAny M A (mkBytes (joined #[] (octs vs))) _ E _
    have ej : joined #[] (octs vs) = (octs vs).foldl (· ++ ·) #[] := join_nil _ 0 _
    rw [ej]
    refine wpAny_mkBytes ?_ (by rw [sizeLine_eq]; exact hsz2)
    refine wpAny_bind (wpAny_holding (wpAny_point (wpAny_bind (letGo_ok ?_ vs _))))
    exact wpAny_pure (h _ _)
theorem octs_of {vs : List Value} {out : List UInt8} (h : PcsAre vs out) : AllBy vs ∧ (octs vs).foldl (· ++ ·) #[] = out.toArray ∧ ∀ k, (octs vs).toArray.foldl (fun k b => k + b.size) k = k + out.length := by
  induction h with
  | nil => exact ⟨fun v hv => (nomatch hv), rfl, fun k => rfl⟩
  | snoc b t _ ih =>
    obtain ⟨h1, h2, h3⟩ := ih
    refine ⟨fun v hv => ?_, ?_, fun k => ?_⟩
    · rcases List.mem_append.mp hv with hv | hv
      · exact h1 v hv
      · exact ⟨_, _, List.mem_singleton.mp hv⟩
    · rw [octs_snoc h1, List.foldl_append, h2]
      simp
    · rw [octs_snoc h1]
      have := h3 k
      simp only [List.foldl_toArray'] at this ⊢
      simp only [List.foldl_append, List.foldl_cons, List.foldl_nil]
      simp at this ⊢
      omega
theorem join_one {M : Model} {A : Around} {E : Value → Shared → Prop} {s : Shared} {a : Addr} {b : Array UInt8} {tb : Tok} {n : Nat} {t : Tok} {Q : Fin → Shared → Prop} (hl : s.heap.get? a = some (listOf [Value.bytes b tb].toArray n))
    (h : Q (.done (.ret (.bytes b tb))) s) : wpAny M A (Builtin.«bytes.join» ⟨[.bytes #[] t, .ref a], []⟩) Q E s := by
  show wpAny M A (joinItems (.ref a) >>= fun seq => _) Q E s
  have hT : s.TypeIs (.ref a) "list" := ⟨_, hl, rfl⟩
  have hs : ∀ (Q' : Option (Array Value) → Shared → Prop) E', Q' (some [Value.bytes b tb].toArray) s → wpAny M A (seqItems? (.ref a)) Q' E' s := fun Q' E' hq => wpAny_bind (wpAny_load hl (wpAny_pure hq))
  refine wpAny_bind (wpAny_bind (wpAny_typeOf hT ?_))
  refine wpAny_pure ?_
  refine wpAny_bind (hs _ _ ?_)
  dsimp only
  rw [if_pos (by decide)]
  show wpAny M A (typeOf (.bytes b tb) >>= fun r => _) Q E s
  refine wpAny_bind (wpAny_typeOf (typeIs_bytes s b tb) ?_)
  rw [if_pos (by decide)]
  exact wpAny_bind (wpAny_rule (wpAny_pure h))
theorem join_call {prog : Program} {w : World} {A : Around} {E : Value → Shared → Prop} {s : Shared} {h₀ : Heap} {L : Addr} {l : Led} {a : Addr} {vs : List Value} {out : List UInt8} {n : Nat} {t : Tok} {Q : Value → Shared → Prop}
    (N : News h₀ L s.heap l) (hm : (a, listOf vs.toArray n) ∈ l) (hP : PcsAre vs out) (h1 : 1 ≤ out.length) (hz : out.length ≤ 16777216)
    (h : ∀ t' tk, Q (.bytes out.toArray t') { s with toks := tk }) : wpAny (model prog w) A (call (.builtin "bytes.join") [.bytes #[] t, .ref a]) Q E s := by
  obtain ⟨hb, e, k⟩ := octs_of hP
  refine wpAny_call (codeAny_call_builtin slot_join.plain entry_join (slot_join.check _ _ _ _ _ _ _ _ (typeIs_bytes _ _ _) (args_join _ _) ?_))
  by_cases h2 : 2 ≤ vs.length
  · refine join_run (N _ hm).1 hb h2 (by rw [k]; omega) (by rw [e]; simpa using hz) fun t' tk => ?_
    rw [e]
    exact h t' tk
  · cases vs with
    | nil =>
      have := congrArg Array.size e
      simp [octs] at this
      omega
    | cons v r =>
      cases r with
      | cons v2 r2 => exact absurd (by simp) h2
      | nil =>
        obtain ⟨b, tb, rfl⟩ := hb v (by simp)
        refine join_one (N _ hm).1 ?_
        have e2 : b = out.toArray := by rw [← e]; simp [octs]
        subst e2
        exact h tb s.toks
end Mine
end
section
namespace Mine
def hdr (ls ns : Int) : List UInt8 := [27, 76, 117, 97] ++ ([81, 0, 1, 4, ls, 4, ns, 1] : List Int).map fun n => n.toNat.toUInt8
theorem hdr_len (ls ns : Int) : (hdr ls ns).length = 12 := rfl
abbrev tupOf (its : Array Value) (n : Nat) : Obj := { cls := .type "tuple", data := .seq its n }
theorem WAt.mk {P : Params} {l : Led} {x pc dx : Addr} {ls ns : Int} {k1 k2 k3 k4 t1 t2 : Tok} {n : Nat} (h1 : (x, instObj 204 dx) ∈ l) (h2 : (dx, dictOf [ent P "length_size" k1 (.int ls t1), ent P "number_size" k2 (.int ns t2), ent P "is_stripped" k3 (.bool false), ent P "pieces" k4 (.ref pc)] n) ∈ l) : WAt P l x pc ls ns :=
  ⟨dx, k1, k2, k3, k4, t1, t2, n, h1, h2⟩
theorem PcsAre.one (b : List UInt8) (t : Tok) : PcsAre [Value.bytes b.toArray t] b := by
  have := PcsAre.snoc b t .nil
  simpa using this
end Mine
end
section
namespace Mine
open PyProof.Rows.LCg
section
variable {prog : Program} {w : World} {A : Around} {E : Value → Shared → Prop} {s : Shared} {h₀ : Heap} {L : Addr} {m : Str → Option Value} {env : Env}
theorem compRest_ind {elt : Expr} {x : Str} {scope : Scope} {cl : List (Str × Addr)} {S : Led → Prop} {P : Nat → Value → Prop} {Fin : List Value → Led → Prop} {n : Nat} {news : Led} (J : Nat → List Value → Led → Prop) (h0 : J 0 [] news)
    (step : ∀ i ys nw, i < n → J i ys nw → ∀ v I oI C oC D m₂ h tk (E' : Value → Shared → Prop), P i v → NsObj oC m₂ → m₂ x = some v → Fr h₀ L h m → News h₀ L h ((I, oI) :: (C, oC) :: (D, lst ys) :: nw) → Off3 I C D nw → ((@Ne Nat I C) ∧ (@Ne Nat I D) ∧ (@Ne Nat C D)) →
      wpAny (model prog w) A (eval elt (compEnvC scope cl C env)) (CompEnd h₀ L m { s with heap := h, toks := tk } I oI C oC D (lst ys) S (fun y nw' => J (i + 1) (ys ++ [y]) nw')) E' { s with heap := h, toks := tk })
    (hend : ∀ ys nw, J n ys nw → Fin ys nw) : CompRest prog w A h₀ L m env elt x scope cl s S P Fin n 0 [] news := by
  have gen : ∀ k i ys nw, i + k = n → J i ys nw → CompRest prog w A h₀ L m env elt x scope cl s S P Fin k i ys nw := by
    intro k
    induction k with
    | zero => intro i ys nw e hJ; exact CompRest.zero (hend _ _ (by rw [← e]; exact hJ))
    | succ k ih =>
      intro i ys nw e hJ
      refine CompRest.succ fun v I oI C oC D m₂ h tk E' h1 h2 h3 F N h4 h5 => ?_
      refine wpAny_mono (step i ys nw (by omega) hJ v I oI C oC D m₂ h tk E' h1 h2 h3 F N h4 h5) (fun y s₂ z => ?_) fun _ _ z => z
      obtain ⟨h', tk', nw', e', F', N', o', hS, hJ'⟩ := z
      exact ⟨h', tk', nw', e', F', N', o', hS, ih (i + 1) (ys ++ [y]) nw' (by omega) hJ'⟩
  exact gen n 0 [] news (by omega) h0
end
/-- the contract of fits_sizes -/
def FitSpec (prog : Program) (w : World) (p : Program) (loose : List Str) (mean : ExcName → Option Value) (mg mb : Str → Option Value) (ls ns : Int) (H : Nat) {C : Type} (RC : Led → Value → C → Prop) (fit : C → Prop) : Prop :=
  ∀ (dp un : Nat) (gd : Option (List Code)) (cn : Str) (cs : Scope) (a : Addr) (ccd : Value) (cl : List (Str × Addr)) (outer : List Env) (A₀ : Around) (base h₀ : Heap) (L : Addr) (m : Str → Option Value) (s : Shared) (Q E : Value → Shared → Prop) (l l₀ : Led)
    (sz : Addr) (t1 t2 : Tok) (n : Nat) (v : Value) (c : C),
    Below A₀ base outer h₀ → Fr h₀ L s.heap m → (hd.heap_1 w.params).In h₀ → News h₀ L s.heap l → Top p loose mean mg mb h₀ → cs.kind = .function → dp + H < recursionLimit → un + 8 * H < cLine →
    (sz, tupOf #[.int ls t1, .int ns t2] n) ∈ l → RC l₀ v c → (∀ q ∈ l₀, q ∈ l) →
    (∀ b h' tk', (b = true ↔ fit c) → Fr h₀ L h' m → News h₀ L h' l → Q (.bool b) { s with heap := h', toks := tk' }) →
    wpAny (model prog w) (ktrTop dp un gd cn cs L a ccd cl outer) (call (.ref 222) [v, .ref sz]) Q E s
end Mine
namespace Mine
open PyProof.Rows.LCg
section
variable {prog : Program} {w : World} {A : Around} {E : Value → Shared → Prop} {s : Shared} {env : Env} {h₀ : Heap} {x : Str} {body : List Stmt} {Q : Flow → Shared → Prop}
/-- a loop whose turns leave the ledger as it was -/
theorem listRest_keep {I : Addr} {lp : Addr × Obj} {vs : List Value} {m₀ : Str → Option Value} {news : Led} (J : List Value → Prop) (h0 : J []) (hlp : lp ∈ news) (hI : ∀ q ∈ news, q.1 ≠ I)
    (step : ∀ pre v post it h tk, vs = pre ++ v :: post → J pre → (∀ q ∈ news, q.1 ≠ I) → Fr h₀ env.locals h (fun y => if y = x then some v else m₀ y) → News h₀ env.locals h ((I, it) :: news) →
      wpAny (model prog w) A (execs body env) (UnrPost h₀ env.locals { s with heap := h, toks := tk } I it (fun m' n' => n' = news ∧ m' = (fun y => if y = x then some v else m₀ y) ∧ J (pre ++ [v])) Q) E { s with heap := h, toks := tk })
    (done : ∀ h tk u, J vs → Fr h₀ env.locals h (fun y => if y = x then u else m₀ y) → News h₀ env.locals h news → Q .next { s with heap := h, toks := tk }) :
    ListRest prog w A E h₀ env x body Q s I lp vs m₀ news := by
  refine listRest_ind (fun pre nw => nw = news ∧ J pre) ⟨rfl, h0⟩ hlp hI ?_ ?_
  · rintro pre v post nw it h tk e ⟨rfl, hJ⟩ hl hI F N
    refine wpAny_mono (step pre v post it h tk e hJ hI F N) (fun f s₂ z => ?_) fun _ _ z => z
    have fin : UnrEnd h₀ env.locals { s with heap := h, toks := tk } I it (fun m' n' => n' = nw ∧ m' = (fun y => if y = x then some v else m₀ y) ∧ J (pre ++ [v])) s₂ →
        UnrEnd h₀ env.locals { s with heap := h, toks := tk } I it (fun m' n' => lp ∈ n' ∧ m' = (fun y => if y = x then some v else m₀ y) ∧ (n' = nw ∧ J (pre ++ [v]))) s₂ := by
      rintro ⟨h', tk', m', n', e', F', N', off, rfl, hm, hJ'⟩
      exact ⟨h', tk', m', n', e', F', N', off, hl, hm, rfl, hJ'⟩
    cases f with
    | ret v => exact z
    | brk => exact z
    | next => exact fin z
    | cont => exact fin z
  · rintro nw h tk u ⟨rfl, hJ⟩ F N
    exact done h tk u hJ F N
end
theorem bools_snoc {ys : List Value} {bs : List Bool} {b : Bool} (h : LSm.BoolsAre ys bs) : LSm.BoolsAre (ys ++ [.bool b]) (bs ++ [b]) := by
  induction h with
  | nil => exact .cons b .nil
  | cons c _ ih => exact .cons c ih
theorem All2.snoc {α β : Type} {R : α → β → Prop} {as : List α} {bs : List β} {a : α} {b : β} (h : All2 R as bs) (r : R a b) : All2 R (as ++ [a]) (bs ++ [b]) := by
  induction h with
  | nil => exact .cons r .nil
  | cons x _ ih => exact .cons x ih
theorem All2.get {α β : Type} {R : α → β → Prop} {as : List α} {bs : List β} {i : Nat} {a : α} (h : All2 R as bs) (e : as[i]? = some a) : ∃ b, bs[i]? = some b ∧ R a b := by
  induction h generalizing i with
  | nil => cases e
  | cons x _ ih =>
    cases i with
    | zero => cases e; exact ⟨_, rfl, x⟩
    | succ i => exact ih (by simpa using e)
theorem all_iff {α : Type} {P : α → Prop} {bs : List Bool} {ts : List α} (h : All2 (fun (b : Bool) c => b = true ↔ P c) bs ts) : bs.all id = true ↔ ∀ t ∈ ts, P t := by
  induction h with
  | nil => simp
  | cons x _ ih => simp only [List.all_cons, id_eq, Bool.and_eq_true, List.forall_mem_cons, x, ih]
end Mine
namespace Mine
open PyProof.Rows.LCg
section
variable {prog : Program} {w : World} {A : Around} {E : Value → Shared → Prop} {s : Shared} {h₀ : Heap} {L : Addr} {m : Str → Option Value} {env : Env}
/-- a comprehension whose elements leave the ledger as it was -/
theorem compRest_keep {elt : Expr} {x : Str} {scope : Scope} {cl : List (Str × Addr)} {S : Led → Prop} {P : Nat → Value → Prop} {Fin : List Value → Led → Prop} {n : Nat} {news : Led} (J : Nat → List Value → Prop) (h0 : J 0 []) (hS : S news)
    (step : ∀ i ys, i < n → J i ys → S news → ∀ v I oI C oC D m₂ h tk (E' : Value → Shared → Prop), P i v → NsObj oC m₂ → m₂ x = some v → Fr h₀ L h m → News h₀ L h ((I, oI) :: (C, oC) :: (D, lst ys) :: news) → Off3 I C D news → ((@Ne Nat I C) ∧ (@Ne Nat I D) ∧ (@Ne Nat C D)) →
      wpAny (model prog w) A (eval elt (compEnvC scope cl C env)) (CompEnd h₀ L m { s with heap := h, toks := tk } I oI C oC D (lst ys) S (fun y nw' => nw' = news ∧ J (i + 1) (ys ++ [y]))) E' { s with heap := h, toks := tk })
    (hend : ∀ ys, J n ys → Fin ys news) : CompRest prog w A h₀ L m env elt x scope cl s S P Fin n 0 [] news := by
  refine compRest_ind (fun i ys nw => nw = news ∧ J i ys) ⟨rfl, h0⟩ ?_ ?_
  · rintro i ys nw hi ⟨rfl, hJ⟩ v I oI C oC D m₂ h tk E' h1 h2 h3 F N h4 h5
    exact step i ys hi hJ hS v I oI C oC D m₂ h tk E' h1 h2 h3 F N h4 h5
  · rintro ys nw ⟨rfl, hJ⟩
    exact hend ys hJ
end
theorem take_succ {α : Type} {bs : List α} {i : Nat} {b : α} (e : bs[i]? = some b) : bs.take (i + 1) = bs.take i ++ [b] := by
  rw [List.take_add_one, e]; rfl
end Mine
namespace Mine
theorem sub_trans {a b c : Led} (h1 : ∀ q ∈ a, q ∈ b) (h2 : ∀ q ∈ b, q ∈ c) : ∀ q ∈ a, q ∈ c := fun q hq => h2 q (h1 q hq)
end Mine
end
section
namespace Mine
open PyProof.Rows.LCg PyProof.Rows.LCt
section
variable {prog : Program} {w : World} {A : Around} {E : Value → Shared → Prop} {s : Shared} {h₀ : Heap} {L : Addr} {m : Str → Option Value} {env : Env} {l rest : Led}
theorem compRestT_keep {ct elt : Expr} {x : Str} {scope : Scope} {cl : List (Str × Addr)} {S : Led → Prop} {P : Nat → Value → Prop} {Fin : List Value → Led → Prop} {n : Nat} {news : Led} (J : Nat → List Value → Prop) (h0 : J 0 []) (hS : S news)
    (step : ∀ i ys, i < n → J i ys → S news → ∀ v I oI C oC D m₂ h tk (E' : Value → Shared → Prop), P i v → NsObj oC m₂ → m₂ x = some v → Fr h₀ L h m → News h₀ L h ((I, oI) :: (C, oC) :: (D, lst ys) :: news) → Off3 I C D news → ((@Ne Nat I C) ∧ (@Ne Nat I D) ∧ (@Ne Nat C D)) →
      wpAny (model prog w) A (isTrue ct (compEnvC scope cl C env) (eval ct (compEnvC scope cl C env))) (fun ok s' => if ok = true then
        wpAny (model prog w) A (eval elt (compEnvC scope cl C env)) (CompEnd h₀ L m { s with heap := h, toks := tk } I oI C oC D (lst ys) S (fun y nw' => nw' = news ∧ J (i + 1) (ys ++ [y]))) E' s'
        else CompEnd h₀ L m { s with heap := h, toks := tk } I oI C oC D (lst ys) S (fun _ nw' => nw' = news ∧ J (i + 1) ys) Value.none s') E' { s with heap := h, toks := tk })
    (hend : ∀ ys, J n ys → Fin ys news) : CompRestT prog w A h₀ L m env ct elt x scope cl s S P Fin n 0 [] news := by
  have gen : ∀ k i ys, i + k = n → J i ys → CompRestT prog w A h₀ L m env ct elt x scope cl s S P Fin k i ys news := by
    intro k
    induction k with
    | zero => intro i ys e hJ; exact CompRestT.zero (hend _ (by rw [← e]; exact hJ))
    | succ k ih =>
      intro i ys e hJ
      refine CompRestT.succ fun v I oI C oC D m₂ h tk E' h1 h2 h3 F N h4 h5 => ?_
      refine wpAny_mono (step i ys (by omega) hJ hS v I oI C oC D m₂ h tk E' h1 h2 h3 F N h4 h5) (fun ok s' z => ?_) fun _ _ z => z
      split
      · rename_i hok
        rw [if_pos hok] at z
        refine wpAny_mono z (fun y s₂ z => ?_) fun _ _ z => z
        obtain ⟨h', tk', nw', e', F', N', o', hS', rfl, hJ'⟩ := z
        exact ⟨h', tk', _, e', F', N', o', hS', ih (i + 1) _ (by omega) hJ'⟩
      · rename_i hok
        rw [if_neg hok] at z
        obtain ⟨h', tk', nw', e', F', N', o', hS', rfl, hJ'⟩ := z
        exact ⟨h', tk', _, e', F', N', o', hS', ih (i + 1) _ (by omega) hJ'⟩
  exact gen n 0 [] (by omega) h0
theorem ext_led {D b : Addr} {ys zs : List Value} {n n2 : Nat} {Q : Value → Shared → Prop} (F : Fr h₀ L s.heap m) (N : News h₀ L s.heap l) (pk : Pick (D, listOf ys.toArray n) l rest) (hne : ∀ q ∈ rest, q.1 ≠ D) (hb : (b, listOf zs.toArray n2) ∈ l)
    (hz : ys.length + zs.length ≤ 1000) (h : ∀ h' n', Fr h₀ L h' m → News h₀ L h' ((D, listOf (ys ++ zs).toArray n') :: rest) → Q .none { s with heap := h' }) :
    wpAny (model prog w) A (call (.builtin "list.extend") [.ref D, .ref b]) Q E s := by
  have N1 := pk.news N
  have hb1 : (b, listOf zs.toArray n2) ∈ (D, listOf ys.toArray n) :: rest := by
    by_cases e : (b, listOf zs.toArray n2) = (D, listOf ys.toArray n)
    · rw [e]; exact List.mem_cons_self
    · exact List.mem_cons_of_mem _ (pk.mem hb e)
  have hlong : ¬(!ys.toArray.isEmpty && Builtin.List.listTooLong (ys.toArray.size + zs.toArray.size)) = true := by
    have : Builtin.List.listTooLong (ys.toArray.size + zs.toArray.size) = false := by
      unfold Builtin.List.listTooLong
      rw [List.size_toArray, List.size_toArray]
      simp [sizeLine_eq]
      omega
    rw [this, Bool.and_false]; decide
  by_cases ez : zs = []
  · subst ez
    exact kxn_extend F N1 hb1 rfl (.head hne) hlong (by rw [sizeLine_eq]; simp; omega) (by rw [sizeLine_eq]; simp; omega) fun h' F' N' => h h' n F' (by rw [List.append_nil]; exact N')
  · exact kl_extend (l := ys ++ zs) F N1 hb1 (by simp) (by simpa using ez) (.head hne) hlong (by rw [sizeLine_eq]; simp; omega) (by rw [sizeLine_eq]; simp; omega) fun h' F' N' => h h' (n + 1) F' N'
end
theorem off1_ne {D : Addr} : ∀ {l : Led}, Off1 D l → ∀ q ∈ l, q.1 ≠ D
  | [], _, _, h => nomatch h
  | _ :: _, x, q, h => by
    rcases List.mem_cons.mp h with rfl | h
    · exact x.1
    · exact off1_ne x.2 q h
theorem end_dr {h₀ h' : Heap} {L I pc r : Addr} {m' : Str → Option Value} {o o2 it : Obj} {rest : Led} {Rst : (Str → Option Value) → Led → Prop} {s₁ : Shared} {tk : Nat} (F : Fr h₀ L h' m') (N : News h₀ L h' ((pc, o) :: (r, o2) :: (I, it) :: rest))
    (off : ∀ q ∈ (pc, o) :: rest, q.1 ≠ I) (rr : Rst m' ((pc, o) :: rest)) : UnrEnd h₀ L s₁ I it Rst { s₁ with heap := h', toks := tk } := by
  refine UnrEnd.intro F N ((pc, o) :: rest) (fun q hq => ?_) off rr
  rcases List.mem_cons.mp hq with rfl | hq
  · exact List.mem_cons_of_mem _ (List.mem_cons_of_mem _ List.mem_cons_self)
  · rcases List.mem_cons.mp hq with rfl | hq
    · exact List.mem_cons_self
    · exact List.mem_cons_of_mem _ (List.mem_cons_of_mem _ (List.mem_cons_of_mem _ hq))
def numC : List Cst → List Int
  | [] => []
  | .num n :: r => n :: numC r
  | _ :: r => numC r
theorem numC_snoc (cs : List Cst) (c : Cst) : numC (cs ++ [c]) = numC cs ++ numC [c] := by
  induction cs with
  | nil => rfl
  | cons d r ih => cases d <;> simp [numC, ih]
theorem numC_len (cs : List Cst) : (numC cs).length ≤ cs.length := by
  induction cs with
  | nil => exact Nat.le_refl _
  | cons d r ih => cases d <;> simp [numC] <;> omega
def numN {C : Type} (f : C → List Int) (x : Nd C) : List Int := numC x.cs ++ x.ts.flatMap f
theorem ints_app {vs ws : List Value} {ns ms : List Int} (h : IntsAre vs ns) (k : IntsAre ws ms) : IntsAre (vs ++ ws) (ns ++ ms) := by
  induction h with
  | nil => exact k
  | cons n t _ ih => exact .cons n t ih
/-- the contract of _law_numbers -/
def NumSpec (prog : Program) (w : World) (p : Program) (loose : List Str) (mean : ExcName → Option Value) (mg mb : Str → Option Value) (H K : Nat) {C : Type} (RC : Led → Value → C → Prop) (f : C → List Int) : Prop :=
  ∀ (dp un : Nat) (gd : Option (List Code)) (cn : Str) (cs : Scope) (a : Addr) (ccd : Value) (cl : List (Str × Addr)) (outer : List Env) (A₀ : Around) (base h₀ : Heap) (L : Addr) (m : Str → Option Value) (s : Shared) (Q E : Value → Shared → Prop) (l l₀ : Led) (v : Value) (c : C),
    Below A₀ base outer h₀ → Fr h₀ L s.heap m → (hd.heap_1 w.params).In h₀ → News h₀ L s.heap l → Top p loose mean mg mb h₀ → cs.kind = .function → dp + H < recursionLimit → un + 8 * H < cLine →
    RC l₀ v c → (∀ q ∈ l₀, q ∈ l) →
    (∀ r vs n h' tk', IntsAre vs (f c) → vs.length ≤ K → Off1 r l → Fr h₀ L h' m → News h₀ L h' ((r, listOf vs.toArray n) :: l) → Q (.ref r) { s with heap := h', toks := tk' }) →
    wpAny (model prog w) (ktrTop dp un gd cn cs L a ccd cl outer) (call (.ref 432) [v]) Q E s
end Mine
end
section
namespace Mine
open PySem.SeqAt PyProof.Rows.LCg
theorem rc_bytes {A : Around} {s : Shared} (b : Array UInt8) (t u : Tok) : EqAt A s (.bytes b t) (.bytes b u) true := fun prog w E Q h => by
  unfold eqBool
  refine wpAny_holding ?_
  refine wpAny_ite_split (fun hab => ?_) (fun hab => ?_)
  · exact wpAny_bind (wpAny_rule (wpAny_pure h))
  · refine wpAny_bind ?_
    refine richCompare_gives (typeIs_bytes s b t) (typeIs_bytes s b u) FB.slot_bytes_eq FB.entry_bytes_eq (FB.args_bytes_eq_2 _ _) (gives_bytes_eq b b t u) (fun e => nomatch e) ?_
    rw [beq_self_eq_true]
    exact wpAny_truthy_bool h
theorem ea_int {A : Around} {s : Shared} (i : Int) (t u : Tok) : EqAt A s (.int i t) (.int i u) true := by
  have h := EqAt.int_int (A := A) (s := s) i t i u
  rwa [beq_self_eq_true] at h
theorem ea_str {A : Around} {s : Shared} (x : Str) (t u : Tok) : EqAt A s (.str x t) (.str x u) true := by
  have h := EqAt.str_str (A := A) (s := s) x t x u
  rwa [beq_self_eq_true] at h
def dDep : Nat → Dat → Prop
  | _, .none => True
  | _, .bool _ => True
  | _, .int _ => True
  | _, .str _ => True
  | _, .bytes _ => True
  | n + 1, .tuple ds => ∀ d ∈ ds, dDep n d
  | n + 1, .list ds => ∀ d ∈ ds, dDep n d
  | 0, .tuple _ => False
  | 0, .list _ => False
theorem datAll_len {l : Led} {vs : List Value} {ds : List Dat} (h : DatAll l vs ds) : vs.length = ds.length := by
  induction ds generalizing vs with
  | nil => cases h; rfl
  | cons d r ih => cases h with | cons _ h => simp [ih h]
theorem datAll_get {l : Led} {vs : List Value} {ds : List Dat} (h : DatAll l vs ds) : ∀ (j : Nat) (h1 : j < vs.length) (h2 : j < ds.length), DatIn l vs[j] ds[j] := by
  induction ds generalizing vs with
  | nil => intro j _ h2; cases h2
  | cons d r ih =>
    cases h with
    | cons x y =>
      intro j h1 h2
      cases j with
      | zero => exact x
      | succ j => exact ih y j (by simpa using h1) (by simpa using h2)
theorem all_true (n : Nat) : (List.range n).all (fun _ => true) = true := by simp
theorem dat_eq {h₀ : Heap} {L : Addr} {s : Shared} {l : Led} (N : News h₀ L s.heap l) : ∀ (n : Nat) {v v' : Value} {d : Dat}, DatIn l v d → DatIn l v' d → dDep n d → ∀ A : Around, A.units + n < cLine → EqAt A s v v' true := by
  intro n
  induction n with
  | zero =>
    intro v v' d h1 h2 hd A hu
    cases h1 <;> cases h2
    case none.none => exact EqAt.same _
    case bool.bool => exact EqAt.same _
    case int.int => exact ea_int _ _ _
    case str.str => exact ea_str _ _ _
    case bytes.bytes => exact rc_bytes _ _ _
    all_goals exact hd.elim
  | succ n ih =>
    intro v v' d h1 h2 hd A hu
    cases h1 <;> cases h2
    case none.none => exact EqAt.same _
    case bool.bool => exact EqAt.same _
    case int.int => exact ea_int _ _ _
    case str.str => exact ea_str _ _ _
    case bytes.bytes => exact rc_bytes _ _ _
    case tuple.tuple a vs k ds m1 r1 a' vs' k' m2 r2 =>
      by_cases e : a = a'
      · subst e; exact EqAt.same _
      · refine EqAt.of_refs e ?_
        have e1 := datAll_len r1
        have e2 := datAll_len r2
        have h := RcAt.tuples (A := A) (e := fun _ => true) (News.isTup N m1) (News.isTup N m2) (by omega) (fun j h1 h2 => by
          rw [List.size_toArray] at h1 h2
          exact ih (datAll_get r1 j h1 (by omega)) (datAll_get r2 j h2 (by omega)) (hd _ (List.getElem_mem _)) _ (by show A.units + 1 + n < cLine; omega))
        have ez : ((List.range (min vs.toArray.size vs'.toArray.size)).all (fun _ => true) && vs.toArray.size == vs'.toArray.size) = true := by
          rw [all_true, List.size_toArray, List.size_toArray, e1, e2]; simp
        rw [ez] at h
        exact h
    case list.list a vs k ds m1 r1 a' vs' k' m2 r2 =>
      by_cases e : a = a'
      · subst e; exact EqAt.same _
      · refine EqAt.of_refs e ?_
        have e1 := datAll_len r1
        have e2 := datAll_len r2
        have h := RcAt.lists (A := A) (e := fun _ => true) (News.isList N m1) (News.isList N m2) (by rw [List.size_toArray, List.size_toArray, e1, e2]) (by omega) (fun j h1 h2 => by
          rw [List.size_toArray] at h1 h2
          exact ih (datAll_get r1 j h1 (by omega)) (datAll_get r2 j h2 (by omega)) (hd _ (List.getElem_mem _)) _ (by show A.units + 1 + n < cLine; omega))
        rw [all_true] at h
        exact h
def Fresh (tl l : Led) : Prop := ∀ q ∈ tl, ∀ p ∈ l, q.1 ≠ p.1
def toldK : Cst → Dat
  | .nil => .none
  | .bool b => .bool b
  | .num n => .int n
  | .txt => .bytes #[116]
def isB : Cst → Bool
  | .bool _ => true
  | _ => false
def toldC (c : Cst) : Dat := .tuple [.bool (isB c), toldK c]
def toldN {C : Type} (f : C → Dat) (x : Nd C) : Dat := .tuple [.list (x.cs.map toldC), .list (x.ts.map f)]
/-- the contract of _law_told -/
def ToldSpec (prog : Program) (w : World) (p : Program) (loose : List Str) (mean : ExcName → Option Value) (mg mb : Str → Option Value) (H : Nat) {C : Type} (RC : Led → Value → C → Prop) (f : C → Dat) : Prop :=
  ∀ (dp un : Nat) (gd : Option (List Code)) (cn : Str) (cs : Scope) (a : Addr) (ccd : Value) (cl : List (Str × Addr)) (outer : List Env) (A₀ : Around) (base h₀ : Heap) (L : Addr) (m : Str → Option Value) (s : Shared) (Q E : Value → Shared → Prop) (l l₀ : Led) (v : Value) (c : C),
    Below A₀ base outer h₀ → Fr h₀ L s.heap m → (hd.heap_1 w.params).In h₀ → News h₀ L s.heap l → Top p loose mean mg mb h₀ → cs.kind = .function → dp + H < recursionLimit → un + 8 * H < cLine →
    RC l₀ v c → (∀ q ∈ l₀, q ∈ l) →
    (∀ r tl h' tk', Fresh tl l → DatIn tl r (f c) → Fr h₀ L h' m → News h₀ L h' (tl ++ l) → Q r { s with heap := h', toks := tk' }) →
    wpAny (model prog w) (ktrTop dp un gd cn cs L a ccd cl outer) (call (.ref 427) [v]) Q E s
/-- a node as it is told: its constants and its functions alone -/
inductive NdT {C : Type} (P : Params) (RC : Led → Value → C → Prop) (l : Led) : Value → Nd C → Prop
  | mk {a da lc lp : Addr} {nd n2 n3 : Nat} {es : List DictEntry} {cvs pvs : List Value} {v0 v1 v2 v3 v4 v5 v6 v7 v8 v9 v10 v11 v12 v13 : Value} {x : Nd C} :
    (a, instObj 281 da) ∈ l → (da, dictOf es nd) ∈ l →
    EntsAre P [("number", v0), ("mark", v1), ("size", v2), ("code", v3), ("constants", .ref lc), ("protos", .ref lp), ("line_info", v4), ("locals", v5), ("upvalue_names", v6),
      ("source", v7), ("line_defined", v8), ("last_line", v9), ("upvalue_count", v10), ("param_count", v11), ("is_vararg", v12), ("max_stack", v13)] es →
    (lc, listOf cvs.toArray n2) ∈ l → (lp, listOf pvs.toArray n3) ∈ l →
    All2 CIs cvs x.cs → All2 (RC l) pvs x.ts → x.cs.length ≤ 3 → x.ts.length ≤ 2 → NdT P RC l (.ref a) x
theorem NdT.elim {C : Type} {P : Params} {RC : Led → Value → C → Prop} {l : Led} {v : Value} {x : Nd C} {G : Value → Prop} (h : NdT P RC l v x)
    (k : ∀ (a da lc lp : Addr) (nd n2 n3 : Nat) (cvs pvs : List Value) (v0 v1 v2 v3 v4 v5 v6 v7 v8 v9 v10 v11 v12 v13 : Value) (k0 k1 k2 k3 k4 k5 k6 k7 k8 k9 k10 k11 k12 k13 k14 k15 : Tok), (a, instObj 281 da) ∈ l → (da, dictOf [ent P "number" k0 v0, ent P "mark" k1 v1, ent P "size" k2 v2, ent P "code" k3 v3, ent P "constants" k4 (.ref lc), ent P "protos" k5 (.ref lp), ent P "line_info" k6 v4, ent P "locals" k7 v5, ent P "upvalue_names" k8 v6, ent P "source" k9 v7, ent P "line_defined" k10 v8, ent P "last_line" k11 v9, ent P "upvalue_count" k12 v10, ent P "param_count" k13 v11, ent P "is_vararg" k14 v12, ent P "max_stack" k15 v13] nd) ∈ l →
      (lc, listOf cvs.toArray n2) ∈ l → (lp, listOf pvs.toArray n3) ∈ l → All2 CIs cvs x.cs → All2 (RC l) pvs x.ts → x.cs.length ≤ 3 → x.ts.length ≤ 2 → G (.ref a)) : G v := by
  cases h with
  | mk h1 h2 hE h5 h6 hc ht z1 z2 =>
    obtain ⟨kk, rfl⟩ := hE.out
    exact k _ _ _ _ _ _ _ _ _ _ _ _ _ _ _ _ _ _ _ _ _ _ _ (kk 0) (kk 1) (kk 2) (kk 3) (kk 4) (kk 5) (kk 6) (kk 7) (kk 8) (kk 9) (kk 10) (kk 11) (kk 12) (kk 13) (kk 14) (kk 15) h1 h2 h5 h6 hc ht z1 z2
theorem NdIn.told {C : Type} {P : Params} {RC RT : Led → Value → C → Prop} {l : Led} {v : Value} {x : Nd C} (h : NdIn P RC l v x) (k : ∀ v c, RC l v c → RT l v c) : NdT P RT l v x := by
  cases h with
  | mk h1 h2 h3 h4 h5 h6 h7 h8 h9 hc ht z1 z2 => exact .mk h1 h2 h3 h5 h6 hc (ht.mono k) z1 z2
theorem NdT.mono {C : Type} {P : Params} {RC : Led → Value → C → Prop} (hR : ∀ {l l' v c}, RC l v c → (∀ q ∈ l, q ∈ l') → RC l' v c) {l l' : Led} {v : Value} {x : Nd C} (h : NdT P RC l v x) (hs : ∀ q ∈ l, q ∈ l') : NdT P RC l' v x := by
  cases h with
  | mk h1 h2 h3 h5 h6 hc ht z1 z2 => exact .mk (hs _ h1) (hs _ h2) h3 (hs _ h5) (hs _ h6) hc (ht.mono fun a b r => hR r hs) z1 z2
end Mine
namespace Mine
open PyProof.Rows.LCg
theorem allLt_mem {d : Addr} : ∀ {l : Led}, AllLt d l → ∀ q ∈ l, q.1 < d
  | [], _, _, h => nomatch h
  | _ :: _, x, q, h => by
    rcases List.mem_cons.mp h with rfl | h
    · exact x.1
    · exact allLt_mem x.2 q h
theorem datAll_snoc {l : Led} {vs : List Value} {ds : List Dat} {v : Value} {d : Dat} (h : DatAll l vs ds) (k : DatIn l v d) : DatAll l (vs ++ [v]) (ds ++ [d]) := by
  induction ds generalizing vs with
  | nil => cases h; exact .cons k .nil
  | cons e r ih => cases h with | cons x y => exact .cons x (ih y)
section
variable {h₀ h' : Heap} {L t I C D lp : Addr} {m : Str → Option Value} {oI oC : Obj} {ys cvs its : List Value} {tl tl' l : Led} {s₁ : Shared} {tk k n2 : Nat} {ds : List Dat} {d : Dat} {v : Value}
theorem tup_end (F : Fr h₀ L h' m) (N : News h₀ L h' ((t, tupOf its.toArray k) :: (I, oI) :: (C, oC) :: (D, lst ys) :: (tl ++ l))) (l1 : I < t ∧ C < t ∧ D < t ∧ AllLt t (tl ++ l)) (hoff : Off3 I C D (tl ++ l)) (hm : (lp, listOf cvs.toArray n2) ∈ l) (hfr : Fresh tl l)
    (hda : DatAll tl ys ds) (hd : ∀ nw, (t, tupOf its.toArray k) ∈ nw → DatIn nw (.ref t) d) :
    CompEnd h₀ L m s₁ I oI C oC D (lst ys) (SrcAt h₀ lp cvs.toArray) (fun y nw' => ∃ tl, nw' = tl ++ l ∧ Fresh tl l ∧ DatAll tl (ys ++ [y]) (ds ++ [d])) (.ref t) { s₁ with heap := h', toks := tk } := by
  refine CompEnd.intro F N ((t, tupOf its.toArray k) :: (tl ++ l)) (fun q hq => ?_) ⟨⟨(Nat.ne_of_lt l1.1).symm, (Nat.ne_of_lt l1.2.1).symm, (Nat.ne_of_lt l1.2.2.1).symm⟩, hoff⟩
    (.inr ⟨_, List.mem_cons_of_mem _ (List.mem_append_right _ hm), rfl, _, rfl⟩) ⟨(t, tupOf its.toArray k) :: tl, rfl, fun q hq p hp => ?_, datAll_snoc (DatAll.mono (fun p hp => List.mem_cons_of_mem _ hp) hda) (hd _ List.mem_cons_self)⟩
  · simp only [List.mem_cons] at hq ⊢
    rcases hq with h | h | h | h | h <;> simp [h]
  · rcases List.mem_cons.mp hq with rfl | hq
    · exact (Nat.ne_of_lt (allLt_mem l1.2.2.2 p (List.mem_append_right _ hp))).symm
    · exact hfr q hq p hp
theorem told_end (F : Fr h₀ L h' m) (N : News h₀ L h' (tl' ++ ((I, oI) :: (C, oC) :: (D, lst ys) :: (tl ++ l)))) (hf' : Fresh tl' ((I, oI) :: (C, oC) :: (D, lst ys) :: (tl ++ l))) (hoff : Off3 I C D (tl ++ l)) (hm : (lp, listOf cvs.toArray n2) ∈ l) (hfr : Fresh tl l)
    (hda : DatAll tl ys ds) (hd : DatIn tl' v d) :
    CompEnd h₀ L m s₁ I oI C oC D (lst ys) (SrcAt h₀ lp cvs.toArray) (fun y nw' => ∃ tl, nw' = tl ++ l ∧ Fresh tl l ∧ DatAll tl (ys ++ [y]) (ds ++ [d])) v { s₁ with heap := h', toks := tk } := by
  have hoff2 : Off3 I C D (tl' ++ (tl ++ l)) := Off3.of fun p hp => by
    rcases List.mem_append.mp hp with h | h
    · exact ⟨hf' p h (I, oI) (by simp), hf' p h (C, oC) (by simp), hf' p h (D, lst ys) (by simp)⟩
    · exact hoff.mem p h
  refine CompEnd.intro F N (tl' ++ (tl ++ l)) (fun q hq => ?_) hoff2 (.inr ⟨_, List.mem_append_right _ (List.mem_append_right _ hm), rfl, _, rfl⟩)
    ⟨tl' ++ tl, by rw [List.append_assoc], fun q hq p hp => ?_, datAll_snoc (DatAll.mono (fun p hp => List.mem_append_right _ hp) hda) (DatIn.mono (fun p hp => List.mem_append_left _ hp) hd)⟩
  · simp only [List.mem_cons, List.mem_append] at hq ⊢
    rcases hq with h | h | h | h | h | h <;> simp [h]
  · rcases List.mem_append.mp hq with hq | hq
    · exact hf' q hq p (by simp [hp])
    · exact hfr q hq p hp
end
end Mine
namespace Mine
open PyProof.Rows.LCg
theorem told_fin {h₀ h' : Heap} {L T D D2 : Addr} {ys ys2 : List Value} {tl tl2 l : Led} {k : Nat} {ds ds2 : List Dat} (N : News h₀ L h' ((T, tupOf #[.ref D, .ref D2] k) :: (D2, lst ys2) :: (tl2 ++ ((D, lst ys) :: (tl ++ l))))) (l1 : D2 < T ∧ AllLt T (tl2 ++ ((D, lst ys) :: (tl ++ l))))
    (ho : Off1 D (tl ++ l)) (ho2 : Off1 D2 (tl2 ++ ((D, lst ys) :: (tl ++ l)))) (hfr : Fresh tl l) (hfr2 : Fresh tl2 ((D, lst ys) :: (tl ++ l))) (hda : DatAll tl ys ds) (hda2 : DatAll tl2 ys2 ds2) :
    ∃ tl', Fresh tl' l ∧ DatIn tl' (.ref T) (.tuple [.list ds, .list ds2]) ∧ News h₀ L h' (tl' ++ l) := by
  refine ⟨(T, tupOf #[.ref D, .ref D2] k) :: (D2, lst ys2) :: (tl2 ++ ((D, lst ys) :: tl)), fun q hq p hp => ?_, ?_, fun q hq => N q (by simpa using hq)⟩
  · have hp2 : p ∈ tl2 ++ ((D, lst ys) :: (tl ++ l)) := by simp [hp]
    rcases List.mem_cons.mp hq with rfl | hq
    · exact (Nat.ne_of_lt (allLt_mem l1.2 p hp2)).symm
    · rcases List.mem_cons.mp hq with rfl | hq
      · exact (off1_ne ho2 p hp2).symm
      · rcases List.mem_append.mp hq with hq | hq
        · exact hfr2 q hq p (by simp [hp])
        · rcases List.mem_cons.mp hq with rfl | hq
          · exact (off1_ne ho p (by simp [hp])).symm
          · exact hfr q hq p hp
  · refine .tuple (vs := [.ref D, .ref D2]) List.mem_cons_self (.cons (.list (vs := ys) (n := ys.length) (by simp) (DatAll.mono (fun p hp => by simp [hp]) hda)) (.cons (.list (vs := ys2) (n := ys2.length) (by simp) (DatAll.mono (fun p hp => by simp [hp]) hda2)) .nil))
end Mine
end
section
namespace Mine
/-- the reader's dict: where it stands, how deep -/
def RSt (P : Params) (data : List UInt8) (ls ns at_ dep : Int) (es : List DictEntry) : Prop :=
  ∃ t0 t1 t2 t3 t4 t5 t6 t7, EntsAre P [("data", .bytes data.toArray t0), ("width", .int 80 t1), ("most_deep", .int 9 t2), ("name", .bytes #[108, 97, 119] t3), ("length_size", .int ls t4), ("number_size", .int ns t5), ("at", .int at_ t6), ("depth", .int dep t7)] es
/-- the octets that are still to come -/
def Tc (data : List UInt8) (at_ : Int) (out : List UInt8) : Prop := ∃ a1 : List UInt8, at_ = a1.length ∧ data = a1 ++ out
theorem RSt.intro {P : Params} {data : List UInt8} {ls ns at1 dep1 : Int} {t0 t1 t2 t3 t4 t5 t6 t7 k0 k1 k2 k3 k4 k5 k6 k7 : Tok} :
    RSt P data ls ns at1 dep1 [ent P "data" k0 (.bytes data.toArray t0), ent P "width" k1 (.int 80 t1), ent P "most_deep" k2 (.int 9 t2), ent P "name" k3 (.bytes #[108, 97, 119] t3), ent P "length_size" k4 (.int ls t4), ent P "number_size" k5 (.int ns t5), ent P "at" k6 (.int at1 t6), ent P "depth" k7 (.int dep1 t7)] := by
  exact ⟨_, _, _, _, _, _, _, _, by repeat (first | exact .nil | refine .cons ?_)⟩
theorem RSt.elim {P : Params} {data : List UInt8} {ls ns at1 dep1 : Int} {es : List DictEntry} {G : List DictEntry → Prop} (h : RSt P data ls ns at1 dep1 es) (k : ∀ t0 t1 t2 t3 t4 t5 t6 t7 k0 k1 k2 k3 k4 k5 k6 k7, G [ent P "data" k0 (.bytes data.toArray t0), ent P "width" k1 (.int 80 t1), ent P "most_deep" k2 (.int 9 t2), ent P "name" k3 (.bytes #[108, 97, 119] t3), ent P "length_size" k4 (.int ls t4), ent P "number_size" k5 (.int ns t5), ent P "at" k6 (.int at1 t6), ent P "depth" k7 (.int dep1 t7)]) : G es := by
  obtain ⟨t0, t1, t2, t3, t4, t5, t6, t7, hE⟩ := h
  obtain ⟨kk, rfl⟩ := hE.out
  exact k t0 t1 t2 t3 t4 t5 t6 t7 (kk 0) (kk 1) (kk 2) (kk 3) (kk 4) (kk 5) (kk 6) (kk 7)
theorem Tc.step {data a2 out : List UInt8} {at_ : Int} (h : Tc data at_ (a2 ++ out)) : Tc data (at_ + a2.length) out := by
  obtain ⟨a1, rfl, rfl⟩ := h
  exact ⟨a1 ++ a2, by rw [List.length_append]; omega, by rw [List.append_assoc]⟩
theorem Tc.len {data out : List UInt8} {at_ : Int} (h : Tc data at_ out) : at_ + out.length = data.length ∧ 0 ≤ at_ := by
  obtain ⟨a1, rfl, rfl⟩ := h
  rw [List.length_append]; omega
theorem Tc.picked {data a2 out : List UInt8} {at_ : Int} (h : Tc data at_ (a2 ++ out)) : ∃ a1, data = a1 ++ a2 ++ out ∧ at_ = a1.length := by
  obtain ⟨a1, rfl, rfl⟩ := h
  exact ⟨a1, by rw [List.append_assoc], rfl⟩
open PySem.Builtin in
theorem pick_mid {data a1 a2 a3 : List UInt8} (hdt : data = a1 ++ a2 ++ a3) {lo hi : Int} (h1 : lo = a1.length) (h2 : hi = a1.length + a2.length) : KBy.picked data.toArray (some lo) (some hi) = a2.toArray := by
  subst hdt h1 h2
  rw [KBc.picked_eq]
  have e : ((a1.length : Int) + a2.length) = ((a1.length + a2.length : Nat) : Int) := by omega
  simp only [Option.elim, e, clipAt_nat]
  congr 1
  simp only [List.size_toArray, List.length_append]
  rw [Nat.min_eq_left (by omega), Nat.min_eq_left (by omega), List.append_assoc, List.drop_left, Nat.add_sub_cancel_left, List.take_left]
theorem slice_own {prog : Program} {w : World} {A : Around} {E : Value → Shared → Prop} {s : Shared} {value slice : PySem.Expr} {b c : Array UInt8} {t : Tok} {h₀ : Heap} {L : Addr} {m : PySem.Str → Option Value} {news : List (Addr × Obj)} {l u : Value} {lo hi : Option Int} {Q : Value → Shared → Prop}
    (hF : Fr h₀ L s.heap m) (hN : News h₀ L s.heap news) (hl : IsPart l lo) (hu : IsPart u hi) (hz : b.size ≤ 16777216) (hp : KBy.picked b lo hi = c)
    (h : ∀ h' t' k, Fr h₀ L h' m → News h₀ L h' news → Q (.bytes c t') { s with heap := h', toks := k })
    (hs : subscripted slice false (.bytes b t) (.ref s.heap.objs.size) = operate [.ref s.heap.objs.size, .bytes b t] (getItem (.bytes b t) (.ref s.heap.objs.size)) := by with_unfolding_all rfl)
    (ht : ∀ r, letTemporaryGo value (.bytes b t) r = pure () := by intro _; with_unfolding_all rfl) :
    wpAny (model prog w) A (subscriptTail value slice (.bytes b t) (.ref s.heap.objs.size)) Q E { s with heap := s.heap.push { cls := .type "slice", data := .fields #[l, u, .none] } } :=
  KBc.slice_K hF hN rfl hl hu (by rw [KBw.ints_length]; exact hz) (fun h' t' k F N _ => by rw [hp]; exact h _ _ _ F N) hs ht
end Mine
end
section
namespace Mine
theorem two_eight (i : Nat) : (2 : Int) ^ (8 * i) = ((256 ^ i : Nat) : Int) := by
  rw [Int.natCast_pow, Int.pow_mul]; rfl
theorem le_get {n k i : Nat} (h : i < k) : (KBw.bInts (le (n : Int) k).toArray).getD i 0 = ((n / 256 ^ i % 256 : Nat) : Int) := by
  have e1 : (2 : Int) ^ (8 * (0 + (i : Int))).toNat = ((256 ^ i : Nat) : Int) := by
    rw [Int.zero_add, show (8 * (i : Int)).toNat = 8 * i by omega, two_eight]
  rw [KBw.ints_list, List.getD_eq_getElem?_getD]
  unfold le rangeKs
  simp only [List.getElem?_map, List.getElem?_range h, Option.map_some, Option.getD_some, e1]
  rw [bitAnd_m8, Int.fdiv_eq_ediv_of_nonneg _ (Int.natCast_nonneg _)]
  have : ((n : Int) / ((256 ^ i : Nat) : Int) % 256) = ((n / 256 ^ i % 256 : Nat) : Int) := by rw [Int.natCast_emod, Int.natCast_ediv]; rfl
  rw [this, Int.toNat_natCast]
  simp
theorem two_eight' (i : Nat) : (2 : Int) ^ (8 * (0 + (i : Int))).toNat = ((256 ^ i : Nat) : Int) := by
  rw [Int.zero_add, show (8 * (i : Int)).toNat = 8 * i by omega, two_eight]
theorem le_item {prog : Program} {w : World} {A : Around} {E : Value → Shared → Prop} {s : Shared} {value slice : PySem.Expr} {n k i : Nat} {j : Int} {t ui : Tok} {Q : Value → Shared → Prop} (hi : i < k) (hk : k ≤ 8) (hj : j = i)
    (h : ∀ t' tk, Q (.int ((n / 256 ^ i % 256 : Nat) : Int) t') { s with toks := tk })
    (hs : subscripted slice false (.bytes (le (n : Int) k).toArray t) (.int j ui) = operate [.bytes (le (n : Int) k).toArray t, .int j ui] (getItem (.bytes (le (n : Int) k).toArray t) (.int j ui)) := by with_unfolding_all rfl)
    (ht : ∀ r, letTemporaryGo value (.bytes (le (n : Int) k).toArray t) r = pure () := by intro _; with_unfolding_all rfl) :
    wpAny (model prog w) A (subscriptTail value slice (.bytes (le (n : Int) k).toArray t) (.int j ui)) Q E s := by
  have hl : (KBw.bInts (le (n : Int) k).toArray).length = k := by rw [KBw.ints_length, List.size_toArray, le_len]
  refine KBw.item_K rfl (by omega) (by omega) (by omega) (fun t' tk _ _ => ?_) hs ht
  rw [hj, Int.toNat_natCast, le_get hi]
  exact h _ _
theorem le_acc (n i : Nat) : n % 256 ^ i + (n / 256 ^ i % 256) * 256 ^ i = n % 256 ^ (i + 1) := by
  rw [Nat.pow_succ, Nat.mod_mul, Nat.mul_comm (256 ^ i)]
theorem acc_lt {n i : Nat} (h : i ≤ 7) : n % 256 ^ i < 2 ^ 60 ∧ (n / 256 ^ i % 256) < 256 := by
  have h1 : n % 256 ^ i < 256 ^ i := Nat.mod_lt _ (Nat.pow_pos (by decide))
  have h2 : 256 ^ i ≤ 256 ^ 7 := Nat.pow_le_pow_right (by decide) h
  omega
theorem size_upto (k : Nat) : Builtin.Range.rangeSize 0 (k : Int) 1 = (k : Int) := by
  unfold Builtin.Range.rangeSize
  rw [if_pos (by decide)]
  by_cases h : (0 : Int) < k
  · rw [if_pos h, Int.ediv_one]; omega
  · rw [if_neg h]; omega
theorem small_upto {k : Nat} (h : k ≤ 8) : Builtin.Range.small 0 (k : Int) 1 = true := by
  have : ∀ k : Fin 9, Builtin.Range.small 0 ((k.val : Nat) : Int) 1 = true := by decide +kernel
  exact this ⟨k, by omega⟩
theorem acc_step {n i : Nat} {x : Int} (h : x = ((n % 256 ^ i : Nat) : Int) + ((n / 256 ^ i % 256 : Nat) : Int) * 2 ^ (8 * (0 + (i : Int))).toNat) : x = ((n % 256 ^ (i + 1) : Nat) : Int) := by
  rw [h, two_eight', ← Int.natCast_mul, ← Int.natCast_add, le_acc]
theorem acc_end {x acc : Str} {news : Led} {m₀ : Str → Option Value} {u v : Option Value} {g G' : Int} {t : Tok} (hne : acc ≠ x) (hg : g = G') :
    news = news ∧ ∃ t' u', ∀ y : Str, (fun y => if y = acc then some (.int g t) else if y = x then u else if y = acc then v else m₀ y) y = if y = x then u' else if y = acc then some (.int G' t') else m₀ y := by
  refine ⟨rfl, t, u, fun y => ?_⟩
  subst hg
  by_cases h1 : y = acc
  · subst h1; simp [hne]
  · simp [h1]
section
variable {prog : Program} {w : World} {A : Around} {E : Value → Shared → Prop} {s : Shared} {env : Env} {h₀ : Heap} {x : Str} {body : List Stmt} {Q : Flow → Shared → Prop}
/-- a loop over a range that turns one name's number alone -/
theorem rangeRest_acc {I : Addr} {a : Int} {n : Nat} {m₀ : Str → Option Value} {news : Led} (acc : Str) (G : Nat → Int) (h0 : ∃ g t, m₀ acc = some (.int g t) ∧ g = G 0) (hI : ∀ q ∈ news, q.1 ≠ I)
    (step : ∀ i t t' h tk, i < n → Fr h₀ env.locals h (fun y => if y = x then some (.int (a + (i : Int)) t) else if y = acc then some (.int (G i) t') else m₀ y) → News h₀ env.locals h ((I, itR (a + ((i + 1 : Nat) : Int)) ((n : Int) - ((i + 1 : Nat) : Int))) :: news) →
      wpAny (model prog w) A (execs body env) (UnrPost h₀ env.locals { s with heap := h, toks := tk } I (itR (a + ((i + 1 : Nat) : Int)) ((n : Int) - ((i + 1 : Nat) : Int))) (fun m' n' => n' = news ∧ ∃ t u, ∀ y, m' y = if y = x then u else if y = acc then some (.int (G (i + 1)) t) else m₀ y) Q) E { s with heap := h, toks := tk })
    (done : ∀ h tk u t, Fr h₀ env.locals h (fun y => if y = x then u else if y = acc then some (.int (G n) t) else m₀ y) → News h₀ env.locals h news → Q .next { s with heap := h, toks := tk }) :
    RangeRest prog w A E h₀ env x body Q s I a n n 0 m₀ news := by
  have gen : ∀ k i m, i + k = n → (∃ t u, ∀ y, m y = if y = x then u else if y = acc then some (.int (G i) t) else m₀ y) → RangeRest prog w A E h₀ env x body Q s I a n k i m news := by
    intro k
    induction k with
    | zero =>
      rintro i m e ⟨t, u, hm⟩
      have hm := funext hm
      subst hm
      refine RangeRest.zero fun h tk F N => done h tk u t ?_ N
      rw [show n = i by omega]; exact F
    | succ k ih =>
      rintro i m e ⟨t, u, hm⟩
      have hm := funext hm
      subst hm
      refine RangeRest.succ fun t1 h tk F N => ?_
      have em : (fun y => if y = x then some (Value.int (a + (i : Int)) t1) else (fun y => if y = x then u else if y = acc then some (.int (G i) t) else m₀ y) y) = fun y => if y = x then some (Value.int (a + (i : Int)) t1) else if y = acc then some (.int (G i) t) else m₀ y := by
        funext y
        by_cases hy : y = x <;> simp [hy]
      rw [em] at F
      refine wpAny_mono (step i t1 t h tk (by omega) F N) (fun f s₂ z => ?_) fun _ _ z => z
      have fin : UnrEnd h₀ env.locals { s with heap := h, toks := tk } I (itR (a + ((i + 1 : Nat) : Int)) ((n : Int) - ((i + 1 : Nat) : Int))) (fun m' n' => n' = news ∧ ∃ t u, ∀ y, m' y = if y = x then u else if y = acc then some (.int (G (i + 1)) t) else m₀ y) s₂ →
          UnrEnd h₀ env.locals { s with heap := h, toks := tk } I (itR (a + ((i + 1 : Nat) : Int)) ((n : Int) - ((i + 1 : Nat) : Int))) (RangeRest prog w A E h₀ env x body Q s I a n k (i + 1)) s₂ := by
        rintro ⟨h', tk', m', n', e', F', N', off, rfl, hm⟩
        exact ⟨h', tk', m', _, e', F', N', off, ih (i + 1) m' (by omega) hm⟩
      cases f with
      | ret v => exact z
      | brk => exact z
      | next => exact fin z
      | cont => exact fin z
  obtain ⟨g, t, h0, rfl⟩ := h0
  refine gen n 0 m₀ (by omega) ⟨t, m₀ x, fun y => ?_⟩
  by_cases hy : y = x
  · simp [hy]
  · by_cases hz : y = acc
    · subst hz; simp [hy, h0]
    · simp [hy, hz]
end
end Mine
end
section
namespace Mine
def RFit {C : Type} (ns : Int) (ok : C → Prop) (x : Nd C) : Prop := (∀ c ∈ x.cs, CFits ns c) ∧ (∀ t ∈ x.ts, ok t) ∧ x.cs.length ≤ 3 ∧ x.ts.length ≤ 2
/-- the contract of Reader.function on an inner function -/
def RdSpec (prog : Program) (w : World) (p : Program) (loose : List Str) (mean : ExcName → Option Value) (mg mb : Str → Option Value) (data : List UInt8) (ls ns : Int) (H lev : Nat) {C : Type} (enc : C → List UInt8) (ok : C → Prop) (RT : Led → Value → C → Prop) : Prop :=
  ∀ {dp un : Nat} {gd : Option (List Code)} {cn : Str} {cs : Scope} {a : Addr} {ccd : Value} {cl : List (Str × Addr)} {outer : List Env} {A₀ : Around} {base h₀ : Heap} {L : Addr} {m : Str → Option Value} {s : Shared} {Q E : Value → Shared → Prop} {l rest : Led}
    {r rd : Addr} {at_ dep : Int} {es : List DictEntry} {c : C} {a3 : List UInt8} {tb : Tok},
    Below A₀ base outer h₀ → Fr h₀ L s.heap m → (hd.heap_1 w.params).In h₀ → News h₀ L s.heap l → Top p loose mean mg mb h₀ → cs.kind = .function → dp + H < recursionLimit → un + 8 * H < cLine →
    (r, instObj 385 rd) ∈ l → Pick (rd, dictOf es 8) l rest → (∀ q ∈ rest, q.1 ≠ rd) → RSt w.params data ls ns at_ dep es → Tc data at_ (enc c ++ a3) → ok c → 0 ≤ dep → dep + lev ≤ 9 →
    (∀ at' es', RSt w.params data ls ns at' dep es' → Tc data at' a3 → ∀ v tl h' tk', RT tl v c → Fresh tl ((rd, dictOf es' 8) :: rest) → Fr h₀ L h' m → News h₀ L h' ((rd, dictOf es' 8) :: (tl ++ rest)) → Q v { s with heap := h', toks := tk' }) →
    wpAny (model prog w) (ktrTop dp un gd cn cs L a ccd cl outer) (call (.ref 382) [.ref r, .bytes #[] tb]) Q E s
end Mine
end
section
namespace Mine
/-- the made function's dict as the reader fills it -/
def PSt (P : Params) (vc vp : Value) (es : List DictEntry) : Prop :=
  ∃ tb v0 v1 v2 v3 v4 v5 v6 v8 v9 v10 v11 v12 v13, EntsAre P [("number", v0), ("mark", v1), ("size", v2), ("code", v3), ("constants", vc), ("protos", vp), ("line_info", v4), ("locals", v5), ("upvalue_names", v6),
      ("source", .bytes #[] tb), ("line_defined", v8), ("last_line", v9), ("upvalue_count", v10), ("param_count", v11), ("is_vararg", v12), ("max_stack", v13)] es
theorem PSt.intro {P : Params} {tb k0 k1 k2 k3 k4 k5 k6 k7 k8 k9 k10 k11 k12 k13 k14 k15 : Tok} {vc vp v0 v1 v2 v3 v4 v5 v6 v8 v9 v10 v11 v12 v13 : Value} :
    PSt P vc vp [ent P "number" k0 v0, ent P "mark" k1 v1, ent P "size" k2 v2, ent P "code" k3 v3, ent P "constants" k4 vc, ent P "protos" k5 vp, ent P "line_info" k6 v4, ent P "locals" k7 v5, ent P "upvalue_names" k8 v6,
      ent P "source" k9 (.bytes #[] tb), ent P "line_defined" k10 v8, ent P "last_line" k11 v9, ent P "upvalue_count" k12 v10, ent P "param_count" k13 v11, ent P "is_vararg" k14 v12, ent P "max_stack" k15 v13] := by
  exact ⟨_, _, _, _, _, _, _, _, _, _, _, _, _, _, by repeat (first | exact .nil | refine .cons ?_)⟩
theorem news_two {p q : Addr × Obj} {l l1 r : Led} {h₀ h : Heap} {L : Addr} (pk : Pick p l l1) (pk2 : Pick q l1 r) (N : News h₀ L h l) : News h₀ L h (p :: q :: r) := fun x hx => by
  rcases List.mem_cons.mp hx with rfl | hx
  · exact N _ (pk.sub _ List.mem_cons_self)
  · exact N _ (pk.sub _ (List.mem_cons_of_mem _ (pk2.sub _ hx)))
theorem ne_two {p q : Addr × Obj} {l1 r : Led} {a : Addr} (pk2 : Pick q l1 r) (h : ∀ x ∈ l1, x.1 ≠ a) : q.1 ≠ a ∧ ∀ x ∈ r, x.1 ≠ a :=
  ⟨h _ (pk2.sub _ List.mem_cons_self), fun x hx => h _ (pk2.sub _ (List.mem_cons_of_mem _ hx))⟩
theorem PSt.elim {P : Params} {vc vp : Value} {es : List DictEntry} {G : List DictEntry → Prop} (h : PSt P vc vp es) (k : ∀ tb v0 v1 v2 v3 v4 v5 v6 v8 v9 v10 v11 v12 v13 k0 k1 k2 k3 k4 k5 k6 k7 k8 k9 k10 k11 k12 k13 k14 k15, G [ent P "number" k0 v0, ent P "mark" k1 v1, ent P "size" k2 v2, ent P "code" k3 v3, ent P "constants" k4 vc, ent P "protos" k5 vp, ent P "line_info" k6 v4, ent P "locals" k7 v5, ent P "upvalue_names" k8 v6,
      ent P "source" k9 (.bytes #[] tb), ent P "line_defined" k10 v8, ent P "last_line" k11 v9, ent P "upvalue_count" k12 v10, ent P "param_count" k13 v11, ent P "is_vararg" k14 v12, ent P "max_stack" k15 v13]) : G es := by
  obtain ⟨tb, v0, v1, v2, v3, v4, v5, v6, v8, v9, v10, v11, v12, v13, hE⟩ := h
  obtain ⟨kk, rfl⟩ := hE.out
  exact k tb v0 v1 v2 v3 v4 v5 v6 v8 v9 v10 v11 v12 v13 (kk 0) (kk 1) (kk 2) (kk 3) (kk 4) (kk 5) (kk 6) (kk 7) (kk 8) (kk 9) (kk 10) (kk 11) (kk 12) (kk 13) (kk 14) (kk 15)
end Mine
end
section
namespace Mine
open PyProof.Rows.LCg
theorem le_pos (v : Int) {k : Nat} (h : 1 ≤ k) : 1 ≤ (le v k).length := by rw [le_len]; exact h
theorem encC_pos (ls ns : Int) (c : Cst) : 1 ≤ (encC ls ns c).length := by
  cases c <;> simp [encC, le_len]
theorem encL_len {α : Type} {f : α → List UInt8} (h : ∀ c, 1 ≤ (f c).length) (xs : List α) : xs.length ≤ (encL f xs).length := by
  induction xs with
  | nil => exact Nat.le_refl _
  | cons x r ih => rw [encL_cons, List.length_append, List.length_cons]; have := h x; omega
theorem encC_txt (ls ns : Int) (a3 : List UInt8) : encC ls ns .txt ++ a3 = le 4 1 ++ (le 2 ls.toNat ++ ([116, 0] ++ a3)) := by
  have e : le 0 1 = [0] := by decide +kernel
  have e2 : ((([116] : List UInt8).length : Nat) : Int) + 1 = 2 := rfl
  simp only [encC, e, e2, List.append_assoc, List.cons_append, List.nil_append]
theorem drop_at {α : Type} {xs : List α} {i : Nat} {x : α} (e : xs[i]? = some x) : xs.drop i = x :: xs.drop (i + 1) := by
  obtain ⟨h, rfl⟩ := List.getElem?_eq_some_iff.mp e
  exact List.drop_eq_getElem_cons h
theorem off3_swap {I C D a : Addr} {o o' : Obj} {B : Led} (h : Off3 I C D ((a, o) :: B)) : Off3 I C D ((a, o') :: B) := h
section
variable {prog : Program} {w : World} {A : Around} {E : Value → Shared → Prop} {s : Shared} {h₀ : Heap} {L : Addr} {m : Str → Option Value} {env : Env}
/-- a comprehension whose elements are read off the data, none making an object -/
theorem compRest_rd {elt : Expr} {x : Str} {scope : Scope} {cl : List (Str × Addr)} {P : Nat → Value → Prop} {Fin : List Value → Led → Prop} {n : Nat} {rd : Addr} {es : List DictEntry} {B : Led} {data : List UInt8} {ls ns at_ dep : Int} (out : Nat → List UInt8) (J : Nat → List Value → Prop)
    (hR : RSt w.params data ls ns at_ dep es) (hT : Tc data at_ (out 0)) (h0 : J 0 [])
    (step : ∀ i ys at' es', i < n → RSt w.params data ls ns at' dep es' → Tc data at' (out i) → J i ys → ∀ v I oI C oC D m₂ h tk (E' : Value → Shared → Prop), P i v → NsObj oC m₂ → m₂ x = some v → Fr h₀ L h m → News h₀ L h ((I, oI) :: (C, oC) :: (D, lst ys) :: (rd, dictOf es' 8) :: B) → Off3 I C D ((rd, dictOf es' 8) :: B) → ((@Ne Nat I C) ∧ (@Ne Nat I D) ∧ (@Ne Nat C D)) →
      wpAny (model prog w) A (eval elt (compEnvC scope cl C env)) (CompEnd h₀ L m { s with heap := h, toks := tk } I oI C oC D (lst ys) (fun _ => True) (fun y nw' => ∃ at' es', RSt w.params data ls ns at' dep es' ∧ Tc data at' (out (i + 1)) ∧ nw' = (rd, dictOf es' 8) :: B ∧ J (i + 1) (ys ++ [y]))) E' { s with heap := h, toks := tk })
    (hend : ∀ ys at' es', RSt w.params data ls ns at' dep es' → Tc data at' (out n) → J n ys → Fin ys ((rd, dictOf es' 8) :: B)) : CompRest prog w A h₀ L m env elt x scope cl s (fun _ => True) P Fin n 0 [] ((rd, dictOf es 8) :: B) := by
  refine compRest_ind (fun i ys nw => ∃ at' es', RSt w.params data ls ns at' dep es' ∧ Tc data at' (out i) ∧ nw = (rd, dictOf es' 8) :: B ∧ J i ys) ⟨_, _, hR, hT, rfl, h0⟩ ?_ ?_
  · rintro i ys nw hi ⟨at', es', hR', hT', rfl, hJ⟩ v I oI C oC D m₂ h tk E' h1 h2 h3 F N h4 h5
    exact step i ys at' es' hi hR' hT' hJ v I oI C oC D m₂ h tk E' h1 h2 h3 F N h4 h5
  · rintro ys nw ⟨at', es', hR', hT', rfl, hJ⟩
    exact hend ys at' es' hR' hT' hJ
/-- a comprehension whose elements are read off the data and make objects -/
theorem compRest_rdT {elt : Expr} {x : Str} {scope : Scope} {cl : List (Str × Addr)} {P : Nat → Value → Prop} {Fin : List Value → Led → Prop} {n : Nat} {rd : Addr} {es : List DictEntry} {b1 b2 b3 b4 : Addr × Obj} {rest : Led} {data : List UInt8} {ls ns at_ dep : Int} (out : Nat → List UInt8) (J : Nat → List Value → Led → Prop)
    (hR : RSt w.params data ls ns at_ dep es) (hT : Tc data at_ (out 0)) (h0 : J 0 [] [])
    (step : ∀ i ys at' es' tl, i < n → RSt w.params data ls ns at' dep es' → Tc data at' (out i) → Fresh tl ((rd, dictOf es' 8) :: b1 :: b2 :: b3 :: b4 :: rest) → J i ys tl → ∀ v I oI C oC D m₂ h tk (E' : Value → Shared → Prop), P i v → NsObj oC m₂ → m₂ x = some v → Fr h₀ L h m →
      News h₀ L h ((I, oI) :: (C, oC) :: (D, lst ys) :: (rd, dictOf es' 8) :: b1 :: b2 :: b3 :: b4 :: (tl ++ rest)) → Off3 I C D ((rd, dictOf es' 8) :: b1 :: b2 :: b3 :: b4 :: (tl ++ rest)) → ((@Ne Nat I C) ∧ (@Ne Nat I D) ∧ (@Ne Nat C D)) →
      wpAny (model prog w) A (eval elt (compEnvC scope cl C env)) (CompEnd h₀ L m { s with heap := h, toks := tk } I oI C oC D (lst ys) (fun _ => True) (fun y nw' => ∃ at' es' tl, RSt w.params data ls ns at' dep es' ∧ Tc data at' (out (i + 1)) ∧ nw' = (rd, dictOf es' 8) :: b1 :: b2 :: b3 :: b4 :: (tl ++ rest) ∧ Fresh tl ((rd, dictOf es' 8) :: b1 :: b2 :: b3 :: b4 :: rest) ∧ J (i + 1) (ys ++ [y]) tl)) E' { s with heap := h, toks := tk })
    (hend : ∀ ys at' es' tl, RSt w.params data ls ns at' dep es' → Tc data at' (out n) → Fresh tl ((rd, dictOf es' 8) :: b1 :: b2 :: b3 :: b4 :: rest) → J n ys tl → Fin ys ((rd, dictOf es' 8) :: b1 :: b2 :: b3 :: b4 :: (tl ++ rest))) : CompRest prog w A h₀ L m env elt x scope cl s (fun _ => True) P Fin n 0 [] ((rd, dictOf es 8) :: b1 :: b2 :: b3 :: b4 :: rest) := by
  refine compRest_ind (fun i ys nw => ∃ at' es' tl, RSt w.params data ls ns at' dep es' ∧ Tc data at' (out i) ∧ nw = (rd, dictOf es' 8) :: b1 :: b2 :: b3 :: b4 :: (tl ++ rest) ∧ Fresh tl ((rd, dictOf es' 8) :: b1 :: b2 :: b3 :: b4 :: rest) ∧ J i ys tl) ⟨_, _, [], hR, hT, rfl, (fun _ h => nomatch h), h0⟩ ?_ ?_
  · rintro i ys nw hi ⟨at', es', tl, hR', hT', rfl, hf, hJ⟩ v I oI C oC D m₂ h tk E' h1 h2 h3 F N h4 h5
    exact step i ys at' es' tl hi hR' hT' hf hJ v I oI C oC D m₂ h tk E' h1 h2 h3 F N h4 h5
  · rintro ys nw ⟨at', es', tl, hR', hT', rfl, hf, hJ⟩
    exact hend ys at' es' tl hR' hT' hf hJ
/-- a turn's end: what the turn has made stands behind what it found -/
theorem end_core {h' : Heap} {a I C D : Addr} {o o' oI oC : Obj} {ys : List Value} {v : Value} {s₁ : Shared} {tk : Nat} {B tl tl' rest : Led} {R : Value → Led → Prop}
    (F : Fr h₀ L h' m) (N : News h₀ L h' ((a, o') :: (tl' ++ ((I, oI) :: (C, oC) :: (D, lst ys) :: (B ++ (tl ++ rest)))))) (hf' : Fresh tl' ((a, o') :: (I, oI) :: (C, oC) :: (D, lst ys) :: (B ++ (tl ++ rest))))
    (hoff : Off3 I C D ((a, o) :: (B ++ (tl ++ rest)))) (hf : Fresh tl ((a, o) :: (B ++ rest))) (h : Fresh (tl' ++ tl) ((a, o') :: (B ++ rest)) → R v ((a, o') :: (B ++ ((tl' ++ tl) ++ rest)))) :
    CompEnd h₀ L m s₁ I oI C oC D (lst ys) (fun _ => True) R v { s₁ with heap := h', toks := tk } := by
  have hm := hoff.mem
  refine CompEnd.intro F N ((a, o') :: (B ++ ((tl' ++ tl) ++ rest))) (fun q hq => ?_) (Off3.of fun q hq => ?_) trivial (h fun q hq p hp => ?_)
  · simp only [List.mem_cons, List.mem_append] at hq ⊢
    rcases hq with h | h | h | h | h | (h | h) | h <;> simp [h]
  · simp only [List.mem_cons, List.mem_append] at hq
    rcases hq with rfl | h | (h | h) | h
    · exact hm (a, o) List.mem_cons_self
    · exact hm q (List.mem_cons_of_mem _ (List.mem_append_left _ h))
    · exact ⟨hf' q h (I, oI) (.tail _ (.head _)), hf' q h (C, oC) (.tail _ (.tail _ (.head _))), hf' q h (D, lst ys) (.tail _ (.tail _ (.tail _ (.head _))))⟩
    · exact hm q (List.mem_cons_of_mem _ (List.mem_append_right _ (List.mem_append_left _ h)))
    · exact hm q (List.mem_cons_of_mem _ (List.mem_append_right _ (List.mem_append_right _ h)))
  · rcases List.mem_append.mp hq with hq | hq
    · refine hf' q hq p ?_
      simp only [List.mem_cons, List.mem_append] at hp ⊢
      rcases hp with h | h | h <;> simp [h]
    · rcases List.mem_cons.mp hp with rfl | hp
      · exact hf q hq (a, o) List.mem_cons_self
      · exact hf q hq p (List.mem_cons_of_mem _ hp)
theorem rd_end {h' : Heap} {rd I C D : Addr} {oI oC : Obj} {ys : List Value} {v : Value} {s₁ : Shared} {tk : Nat} {es es' : List DictEntry} {b1 b2 b3 b4 : Addr × Obj} {tl tl' rest : Led} {data out' : List UInt8} {ls ns at' dep : Int} {P : Params} {J : List Value → Led → Prop}
    (F : Fr h₀ L h' m) (N : News h₀ L h' ((rd, dictOf es' 8) :: (tl' ++ ((I, oI) :: (C, oC) :: (D, lst ys) :: b1 :: b2 :: b3 :: b4 :: (tl ++ rest))))) (hf' : Fresh tl' ((rd, dictOf es' 8) :: (I, oI) :: (C, oC) :: (D, lst ys) :: b1 :: b2 :: b3 :: b4 :: (tl ++ rest)))
    (hoff : Off3 I C D ((rd, dictOf es 8) :: b1 :: b2 :: b3 :: b4 :: (tl ++ rest))) (hf : Fresh tl ((rd, dictOf es 8) :: b1 :: b2 :: b3 :: b4 :: rest)) (hR : RSt P data ls ns at' dep es') (hT : Tc data at' out') (hJ : J (ys ++ [v]) (tl' ++ tl)) :
    CompEnd h₀ L m s₁ I oI C oC D (lst ys) (fun _ => True) (fun y nw' => ∃ at' es' tl, RSt P data ls ns at' dep es' ∧ Tc data at' out' ∧ nw' = (rd, dictOf es' 8) :: b1 :: b2 :: b3 :: b4 :: (tl ++ rest) ∧ Fresh tl ((rd, dictOf es' 8) :: b1 :: b2 :: b3 :: b4 :: rest) ∧ J (ys ++ [y]) tl) v { s₁ with heap := h', toks := tk } :=
  end_core (B := [b1, b2, b3, b4]) F N hf' hoff hf fun hF => ⟨at', es', tl' ++ tl, hR, hT, rfl, hF, hJ⟩
end
theorem fresh_two {D D2 rd pd : Addr} {x y o1 o2 o4 o5 : Obj} {b1 b2 b3 : Addr × Obj} {tl rest : Led} (a1 : @Ne Nat rd D) (a2 : @Ne Nat pd D) (a3 : Off1 D rest) (c1 : @Ne Nat rd D2) (c2 : @Ne Nat pd D2) (c3 : Off1 D2 (tl ++ rest))
    (hf : Fresh tl ((rd, o1) :: b1 :: b2 :: b3 :: (pd, o4) :: rest)) : Fresh ((D, x) :: (D2, y) :: tl) ((rd, o2) :: (pd, o5) :: rest) := by
  intro q hq p hp
  rcases List.mem_cons.mp hq with rfl | hq
  · rcases List.mem_cons.mp hp with rfl | hp
    · exact a1.symm
    · rcases List.mem_cons.mp hp with rfl | hp
      · exact a2.symm
      · exact (off1_ne a3 p hp).symm
  · rcases List.mem_cons.mp hq with rfl | hq
    · rcases List.mem_cons.mp hp with rfl | hp
      · exact c1.symm
      · rcases List.mem_cons.mp hp with rfl | hp
        · exact c2.symm
        · exact (off1_ne c3 p (List.mem_append_right _ hp)).symm
    · rcases List.mem_cons.mp hp with rfl | hp
      · exact hf q hq (rd, o1) (by simp)
      · rcases List.mem_cons.mp hp with rfl | hp
        · exact hf q hq (pd, o4) (by simp)
        · exact hf q hq p (by simp [hp])
end Mine
end
section
namespace Mine
open PyProof.Rows.LCg
theorem news_far {h₀ h : Heap} {L : Addr} {p q a1 a2 a3 a4 a5 a6 a7 x : Addr × Obj} {rest : Led} (N : News h₀ L h (p :: q :: a1 :: a2 :: a3 :: a4 :: a5 :: a6 :: a7 :: x :: rest)) : News h₀ L h (p :: q :: x :: rest) := fun y hy => N y (by
  simp only [List.mem_cons] at hy ⊢
  rcases hy with h | h | h | h <;> simp [h])
theorem news_swap {h₀ h : Heap} {L : Addr} {p q x : Addr × Obj} {tl rest : Led} (N : News h₀ L h (p :: q :: (tl ++ (x :: rest)))) : News h₀ L h (p :: q :: x :: (tl ++ rest)) := fun y hy => N y (by
  simp only [List.mem_cons, List.mem_append] at hy ⊢
  rcases hy with h | h | h | h | h <;> simp [h])
theorem ne_app {a : Addr} {o : Obj} {p q x : Addr × Obj} {tl rest : Led} (hf : Fresh tl (p :: q :: x :: rest)) (hm : (a, o) = p ∨ (a, o) = q ∨ (a, o) = x) (h : ∀ y ∈ rest, y.1 ≠ a) : ∀ y ∈ tl ++ rest, y.1 ≠ a := fun y hy => by
  rcases List.mem_append.mp hy with hy | hy
  · exact hf y hy (a, o) (by simp only [List.mem_cons]; rcases hm with h | h | h <;> simp [h])
  · exact h y hy
theorem lt_ne {d : Addr} {rest : Led} (h : AllLt d rest) : ∀ q ∈ rest, q.1 ≠ d := fun q hq => Nat.ne_of_lt (allLt_mem h q hq)
theorem lt_ne2 {d x : Addr} {rest : Led} (h : AllLt d rest) (hx : d < x) : ∀ q ∈ rest, q.1 ≠ x := fun q hq => Nat.ne_of_lt (Nat.lt_trans (allLt_mem h q hq) hx)
theorem fresh_fn {rd d x : Addr} {o1 o2 o3 o5 o6 o7 : Obj} {tl rest : Led} (hf : Fresh tl ((rd, o1) :: (d, o2) :: (x, o3) :: rest)) (h1 : @Ne Nat d rd) (h2 : ∀ q ∈ rest, q.1 ≠ d) (h3 : @Ne Nat x rd) (h4 : ∀ q ∈ rest, q.1 ≠ x) : Fresh ((d, o5) :: (x, o6) :: tl) ((rd, o7) :: rest) := by
  intro q hq p hp
  rcases List.mem_cons.mp hq with rfl | hq
  · rcases List.mem_cons.mp hp with rfl | hp
    · exact h1
    · exact (h2 p hp).symm
  · rcases List.mem_cons.mp hq with rfl | hq
    · rcases List.mem_cons.mp hp with rfl | hp
      · exact h3
      · exact (h4 p hp).symm
    · rcases List.mem_cons.mp hp with rfl | hp
      · exact hf q hq (rd, o1) (by simp)
      · exact hf q hq p (by simp [hp])
theorem rf_end {C : Type} {RT : Led → Value → C → Prop} {P : Params} {data a3 : List UInt8} {ls ns dep at' : Int} {h₀ h' : Heap} {L : Addr} {m : Str → Option Value} {s : Shared} {Q : Value → Shared → Prop} {tk' : Nat} {rd d x lc lp : Addr} {n2 n3 : Nat} {cvs pvs : List Value} {nd : Nd C} {es ps : List DictEntry} {o1 o2 o3 : Obj} {tl rest : Led}
    (hRT : ∀ {l l' v c}, RT l v c → (∀ q ∈ l, q ∈ l') → RT l' v c)
    (ret : ∀ at' es', RSt P data ls ns at' dep es' → Tc data at' a3 → ∀ v tl h' tk', NdT P RT tl v nd → Fresh tl ((rd, dictOf es' 8) :: rest) → Fr h₀ L h' m → News h₀ L h' ((rd, dictOf es' 8) :: (tl ++ rest)) → Q v { s with heap := h', toks := tk' })
    (hlt : rd < d ∧ AllLt d rest) (hlx : d < x) (hlc : (lc, listOf cvs.toArray n2) ∈ tl) (hlp : (lp, listOf pvs.toArray n3) ∈ tl) (hcv : All2 CIs cvs nd.cs) (hpv : All2 (RT tl) pvs nd.ts) (z1 : nd.cs.length ≤ 3) (z2 : nd.ts.length ≤ 2) (hfr : Fresh tl ((rd, o1) :: (d, o2) :: (x, o3) :: rest))
    (hR : RSt P data ls ns at' dep es) (hP : PSt P (.ref lc) (.ref lp) ps) (hT : Tc data at' a3) (F : Fr h₀ L h' m) (N : News h₀ L h' ((rd, dictOf es 8) :: (d, dictOf ps 16) :: (x, instObj 281 d) :: (tl ++ rest))) : Q (.ref x) { s with heap := h', toks := tk' } := by
  obtain ⟨tb, v0, v1, v2, v3, v4, v5, v6, v8, v9, v10, v11, v12, v13, hE⟩ := hP
  refine ret at' es hR hT (.ref x) ((d, dictOf ps 16) :: (x, instObj 281 d) :: tl) h' tk' (.mk (List.mem_cons_of_mem _ List.mem_cons_self) List.mem_cons_self hE (List.mem_cons_of_mem _ (List.mem_cons_of_mem _ hlc)) (List.mem_cons_of_mem _ (List.mem_cons_of_mem _ hlp)) hcv (hpv.mono fun a b r => hRT r fun q hq => List.mem_cons_of_mem _ (List.mem_cons_of_mem _ hq)) z1 z2)
    (fresh_fn hfr (Nat.ne_of_lt hlt.1).symm (lt_ne hlt.2) (Nat.ne_of_lt (Nat.lt_trans hlt.1 hlx)).symm (lt_ne2 hlt.2 hlx)) F N
theorem root_enc (ls : Int) (a3 : List UInt8) : le ((([] : List UInt8).length : Int) + 1) ls.toNat ++ (le 0 1 ++ a3) = le 1 ls.toNat ++ ([0] ++ a3) := by
  have e : le 0 1 = [0] := by decide +kernel
  rw [e]; rfl
/-- the contract of Reader.function on the outermost function -/
def RdRoot (prog : Program) (w : World) (p : Program) (loose : List Str) (mean : ExcName → Option Value) (mg mb : Str → Option Value) (data : List UInt8) (ls ns : Int) (H lev : Nat) {C : Type} (enc : C → List UInt8) (ok : C → Prop) (RT : Led → Value → C → Prop) : Prop :=
  ∀ {dp un : Nat} {gd : Option (List Code)} {cn : Str} {cs : Scope} {a : Addr} {ccd : Value} {cl : List (Str × Addr)} {outer : List Env} {A₀ : Around} {base h₀ : Heap} {L : Addr} {m : Str → Option Value} {s : Shared} {Q E : Value → Shared → Prop} {l rest : Led}
    {r rd : Addr} {at_ dep : Int} {es : List DictEntry} {c : C} {a3 : List UInt8} {sb : Array UInt8} {tb : Tok},
    Below A₀ base outer h₀ → Fr h₀ L s.heap m → (hd.heap_1 w.params).In h₀ → News h₀ L s.heap l → Top p loose mean mg mb h₀ → cs.kind = .function → dp + H < recursionLimit → un + 8 * H < cLine →
    (r, instObj 385 rd) ∈ l → Pick (rd, dictOf es 8) l rest → (∀ q ∈ rest, q.1 ≠ rd) → RSt w.params data ls ns at_ dep es → Tc data at_ (enc c ++ a3) → ok c → 0 ≤ dep → dep + lev ≤ 9 →
    (∀ at' es', RSt w.params data ls ns at' dep es' → Tc data at' a3 → ∀ v tl h' tk', RT tl v c → Fresh tl ((rd, dictOf es' 8) :: rest) → Fr h₀ L h' m → News h₀ L h' ((rd, dictOf es' 8) :: (tl ++ rest)) → Q v { s with heap := h', toks := tk' }) →
    wpAny (model prog w) (ktrTop dp un gd cn cs L a ccd cl outer) (call (.ref 382) [.ref r, .bytes sb tb]) Q E s
theorem ne_same {prog : Program} {w : World} {A : Around} {E : Value → Shared → Prop} {s : Shared} {Q : Value → Shared → Prop} {b : Array UInt8} {t u : Tok} (h : Q (.bool false) s) : wpAny (model prog w) A (compareOp .NotEq (.bytes b t) (.bytes b u)) Q E s := by
  refine compareOp_gives (op := .NotEq) (typeIs_bytes s b t) (typeIs_bytes s b u) FB.slot_bytes_ne FB.entry_bytes_ne (FB.args_bytes_ne_2 _ _) (gives_bytes_ne b b t u) (fun e => nomatch e) ?_
  rw [bne_self_eq_false]
  exact h
end Mine
end
section
namespace Mine
open PyProof.Rows.LCg
theorem small_of {b : Int} (h0 : 0 ≤ b) (h : b ≤ 8) : Builtin.Range.small 0 b 1 = true := by
  have := small_upto (k := b.toNat) (by omega)
  rwa [Int.toNat_of_nonneg h0] at this
theorem size_of {b : Int} (h0 : 0 ≤ b) : Builtin.Range.rangeSize 0 b 1 = (b.toNat : Int) := by
  have := size_upto b.toNat
  rw [Int.toNat_of_nonneg h0] at this
  rw [this]; omega
/-- the contract of _law_made -/
def MadeSpec (prog : Program) (w : World) (p : Program) (loose : List Str) (mean : ExcName → Option Value) (mg mb : Str → Option Value) (deep : Int) (H : Nat) (K : Int) {C : Type} (RC : Led → Value → C → Prop) : Prop :=
  ∀ {dp un : Nat} {gd : Option (List Code)} {cn : Str} {cs : Scope} {a : Addr} {ccd : Value} {cl : List (Str × Addr)} {outer : List Env} {A₀ : Around} {base h₀ : Heap} {L : Addr} {m : Str → Option Value} {s : Shared} {Q E : Value → Shared → Prop} {l rest : Led}
    {jug cells : Addr} {vs : List Value} {zs : List Int} {turn : Int} {t1 td : Tok} {n1 n2 : Nat},
    Below A₀ base outer h₀ → Fr h₀ L s.heap m → (hd.heap_1 w.params).In h₀ → News h₀ L s.heap l → Top p loose mean mg mb h₀ → cs.kind = .function → dp + H < recursionLimit → un + 8 * H < cLine →
    Pick (jug, listOf #[.ref cells, .int turn t1] n2) l rest → (cells, ({ cls := .type "list", data := .seq vs.toArray n1 } : Obj)) ∈ rest → (∀ q ∈ rest, q.1 ≠ jug) →
    IntsAre vs zs → zs.length ≤ 60 → 0 ≤ turn → turn + K ≤ 900 →
    (∀ v c tl turn' h' tk' t', RC tl v c → Fresh tl ((jug, listOf #[.ref cells, .int turn' t'] n2) :: rest) → 0 ≤ turn' → turn' ≤ turn + K → Fr h₀ L h' m → News h₀ L h' ((jug, listOf #[.ref cells, .int turn' t'] n2) :: (tl ++ rest)) → Q v { s with heap := h', toks := tk' }) →
    wpAny (model prog w) (ktrTop dp un gd cn cs L a ccd cl outer) (call (.ref 422) [.ref jug, .int deep td]) Q E s
end Mine
end
section
namespace Mine
open PyProof.Rows.LCg
/-- a new Proto's dict -/
def PNew (P : Params) (l1 lc lp l2 l3 l4 : Addr) (es : List DictEntry) : Prop :=
  ∃ v0 v1 v2 t0 t1 t2 t3 t4 t5 t6, EntsAre P [("number", v0), ("mark", v1), ("size", v2), ("code", .ref l1), ("constants", .ref lc), ("protos", .ref lp), ("line_info", .ref l2), ("locals", .ref l3), ("upvalue_names", .ref l4),
      ("source", .bytes #[] t0), ("line_defined", .int 0 t1), ("last_line", .int 0 t2), ("upvalue_count", .int 0 t3), ("param_count", .int 0 t4), ("is_vararg", .int 0 t5), ("max_stack", .int 2 t6)] es
theorem PNew.intro {P : Params} {l1 lc lp l2 l3 l4 : Addr} {v0 v1 v2 : Value} {t0 t1 t2 t3 t4 t5 t6 k0 k1 k2 k3 k4 k5 k6 k7 k8 k9 k10 k11 k12 k13 k14 k15 : Tok} :
    PNew P l1 lc lp l2 l3 l4 [ent P "number" k0 v0, ent P "mark" k1 v1, ent P "size" k2 v2, ent P "code" k3 (.ref l1), ent P "constants" k4 (.ref lc), ent P "protos" k5 (.ref lp), ent P "line_info" k6 (.ref l2), ent P "locals" k7 (.ref l3), ent P "upvalue_names" k8 (.ref l4),
      ent P "source" k9 (.bytes #[] t0), ent P "line_defined" k10 (.int 0 t1), ent P "last_line" k11 (.int 0 t2), ent P "upvalue_count" k12 (.int 0 t3), ent P "param_count" k13 (.int 0 t4), ent P "is_vararg" k14 (.int 0 t5), ent P "max_stack" k15 (.int 2 t6)] := by
  exact ⟨_, _, _, _, _, _, _, _, _, _, by repeat (first | exact .nil | refine .cons ?_)⟩
theorem PNew.elim {P : Params} {l1 lc lp l2 l3 l4 : Addr} {es : List DictEntry} {G : List DictEntry → Prop} (h : PNew P l1 lc lp l2 l3 l4 es) (k : ∀ v0 v1 v2 t0 t1 t2 t3 t4 t5 t6 k0 k1 k2 k3 k4 k5 k6 k7 k8 k9 k10 k11 k12 k13 k14 k15, G [ent P "number" k0 v0, ent P "mark" k1 v1, ent P "size" k2 v2, ent P "code" k3 (.ref l1), ent P "constants" k4 (.ref lc), ent P "protos" k5 (.ref lp), ent P "line_info" k6 (.ref l2), ent P "locals" k7 (.ref l3), ent P "upvalue_names" k8 (.ref l4),
      ent P "source" k9 (.bytes #[] t0), ent P "line_defined" k10 (.int 0 t1), ent P "last_line" k11 (.int 0 t2), ent P "upvalue_count" k12 (.int 0 t3), ent P "param_count" k13 (.int 0 t4), ent P "is_vararg" k14 (.int 0 t5), ent P "max_stack" k15 (.int 2 t6)]) : G es := by
  obtain ⟨v0, v1, v2, t0, t1, t2, t3, t4, t5, t6, hE⟩ := h
  obtain ⟨kk, rfl⟩ := hE.out
  exact k v0 v1 v2 t0 t1 t2 t3 t4 t5 t6 (kk 0) (kk 1) (kk 2) (kk 3) (kk 4) (kk 5) (kk 6) (kk 7) (kk 8) (kk 9) (kk 10) (kk 11) (kk 12) (kk 13) (kk 14) (kk 15)
theorem made_clean {P : Params} {h₀ h : Heap} {L : Addr} {j x c1 c2 : Addr × Obj} {l1 lc lp l2 l3 l4 d : Addr} {o1 oc op o2 o3 o4 : Obj} {es : List DictEntry} {rest : Led}
    (N : News h₀ L h (j :: (l4, o4) :: (l3, o3) :: (l2, o2) :: (lp, op) :: (lc, oc) :: (l1, o1) :: x :: (d, dictOf es 16) :: c1 :: c2 :: rest)) (hE : PNew P l1 lc lp l2 l3 l4 es) :
    ∃ es', PNew P l1 lc lp l2 l3 l4 es' ∧ News h₀ L h (j :: (d, dictOf es' 16) :: x :: c1 :: c2 :: (l1, o1) :: (lp, op) :: (l2, o2) :: (l3, o3) :: (l4, o4) :: rest) :=
  ⟨es, hE, news_le N (by kcf_all)⟩
theorem drop_seventh {h₀ h : Heap} {L : Addr} {j a1 a2 a3 a4 a5 a6 q : Addr × Obj} {rest : Led} (N : News h₀ L h (j :: a1 :: a2 :: a3 :: a4 :: a5 :: a6 :: q :: rest)) : News h₀ L h (j :: a1 :: a2 :: a3 :: a4 :: a5 :: a6 :: rest) := news_le N (by kcf_all)
section
variable {prog : Program} {w : World} {A : Around} {E : Value → Shared → Prop} {s : Shared} {h₀ : Heap} {L : Addr} {m : Str → Option Value} {env : Env} {jug cells : Addr} {n2 : Nat}
/-- a comprehension whose elements draw from the jug, none making an object -/
theorem compRest_jug {elt : Expr} {x : Str} {scope : Scope} {cl : List (Str × Addr)} {P : Nat → Value → Prop} {Fin : List Value → Led → Prop} {n : Nat} {turn : Int} {t1 : Tok} {B : Led} (J : Nat → List Value → Int → Prop) (h0 : J 0 [] turn)
    (step : ∀ i ys turn' t', i < n → J i ys turn' → ∀ v I oI C oC D m₂ h tk (E' : Value → Shared → Prop), P i v → NsObj oC m₂ → m₂ x = some v → Fr h₀ L h m → News h₀ L h ((I, oI) :: (C, oC) :: (D, lst ys) :: (jug, listOf #[.ref cells, .int turn' t'] n2) :: B) → Off3 I C D ((jug, listOf #[.ref cells, .int turn' t'] n2) :: B) → ((@Ne Nat I C) ∧ (@Ne Nat I D) ∧ (@Ne Nat C D)) →
      wpAny (model prog w) A (eval elt (compEnvC scope cl C env)) (CompEnd h₀ L m { s with heap := h, toks := tk } I oI C oC D (lst ys) (fun _ => True) (fun y nw' => ∃ turn'' t'', nw' = (jug, listOf #[.ref cells, .int turn'' t''] n2) :: B ∧ J (i + 1) (ys ++ [y]) turn'')) E' { s with heap := h, toks := tk })
    (hend : ∀ ys turn' t', J n ys turn' → Fin ys ((jug, listOf #[.ref cells, .int turn' t'] n2) :: B)) : CompRest prog w A h₀ L m env elt x scope cl s (fun _ => True) P Fin n 0 [] ((jug, listOf #[.ref cells, .int turn t1] n2) :: B) := by
  refine compRest_ind (fun i ys nw => ∃ turn' t', nw = (jug, listOf #[.ref cells, .int turn' t'] n2) :: B ∧ J i ys turn') ⟨_, _, rfl, h0⟩ ?_ ?_
  · rintro i ys nw hi ⟨turn', t', rfl, hJ⟩ v I oI C oC D m₂ h tk E' h1 h2 h3 F N h4 h5
    exact step i ys turn' t' hi hJ v I oI C oC D m₂ h tk E' h1 h2 h3 F N h4 h5
  · rintro ys nw ⟨turn', t', rfl, hJ⟩
    exact hend ys turn' t' hJ
/-- a comprehension whose elements draw from the jug and make objects -/
theorem compRest_jugT {elt : Expr} {x : Str} {scope : Scope} {cl : List (Str × Addr)} {P : Nat → Value → Prop} {Fin : List Value → Led → Prop} {n : Nat} {turn : Int} {t1 : Tok} {b1 b2 b3 b4 b5 b6 b7 b8 b9 : Addr × Obj} {rest : Led} (J : Nat → List Value → Int → Led → Prop) (h0 : J 0 [] turn [])
    (step : ∀ i ys turn' t' tl, i < n → Fresh tl ((jug, listOf #[.ref cells, .int turn' t'] n2) :: b1 :: b2 :: b3 :: b4 :: b5 :: b6 :: b7 :: b8 :: b9 :: rest) → J i ys turn' tl → ∀ v I oI C oC D m₂ h tk (E' : Value → Shared → Prop), P i v → NsObj oC m₂ → m₂ x = some v → Fr h₀ L h m →
      News h₀ L h ((I, oI) :: (C, oC) :: (D, lst ys) :: (jug, listOf #[.ref cells, .int turn' t'] n2) :: b1 :: b2 :: b3 :: b4 :: b5 :: b6 :: b7 :: b8 :: b9 :: (tl ++ rest)) → Off3 I C D ((jug, listOf #[.ref cells, .int turn' t'] n2) :: b1 :: b2 :: b3 :: b4 :: b5 :: b6 :: b7 :: b8 :: b9 :: (tl ++ rest)) → ((@Ne Nat I C) ∧ (@Ne Nat I D) ∧ (@Ne Nat C D)) →
      wpAny (model prog w) A (eval elt (compEnvC scope cl C env)) (CompEnd h₀ L m { s with heap := h, toks := tk } I oI C oC D (lst ys) (fun _ => True) (fun y nw' => ∃ turn'' t'' tl, nw' = (jug, listOf #[.ref cells, .int turn'' t''] n2) :: b1 :: b2 :: b3 :: b4 :: b5 :: b6 :: b7 :: b8 :: b9 :: (tl ++ rest) ∧ Fresh tl ((jug, listOf #[.ref cells, .int turn'' t''] n2) :: b1 :: b2 :: b3 :: b4 :: b5 :: b6 :: b7 :: b8 :: b9 :: rest) ∧ J (i + 1) (ys ++ [y]) turn'' tl)) E' { s with heap := h, toks := tk })
    (hend : ∀ ys turn' t' tl, Fresh tl ((jug, listOf #[.ref cells, .int turn' t'] n2) :: b1 :: b2 :: b3 :: b4 :: b5 :: b6 :: b7 :: b8 :: b9 :: rest) → J n ys turn' tl → Fin ys ((jug, listOf #[.ref cells, .int turn' t'] n2) :: b1 :: b2 :: b3 :: b4 :: b5 :: b6 :: b7 :: b8 :: b9 :: (tl ++ rest))) : CompRest prog w A h₀ L m env elt x scope cl s (fun _ => True) P Fin n 0 [] ((jug, listOf #[.ref cells, .int turn t1] n2) :: b1 :: b2 :: b3 :: b4 :: b5 :: b6 :: b7 :: b8 :: b9 :: rest) := by
  refine compRest_ind (fun i ys nw => ∃ turn' t' tl, nw = (jug, listOf #[.ref cells, .int turn' t'] n2) :: b1 :: b2 :: b3 :: b4 :: b5 :: b6 :: b7 :: b8 :: b9 :: (tl ++ rest) ∧ Fresh tl ((jug, listOf #[.ref cells, .int turn' t'] n2) :: b1 :: b2 :: b3 :: b4 :: b5 :: b6 :: b7 :: b8 :: b9 :: rest) ∧ J i ys turn' tl) ⟨_, _, [], rfl, (fun _ h => nomatch h), h0⟩ ?_ ?_
  · rintro i ys nw hi ⟨turn', t', tl, rfl, hf, hJ⟩ v I oI C oC D m₂ h tk E' h1 h2 h3 F N h4 h5
    exact step i ys turn' t' tl hi hf hJ v I oI C oC D m₂ h tk E' h1 h2 h3 F N h4 h5
  · rintro ys nw ⟨turn', t', tl, rfl, hf, hJ⟩
    exact hend ys turn' t' tl hf hJ
theorem jug_end {h' : Heap} {I C D : Addr} {oI oC oj : Obj} {ys : List Value} {v : Value} {s₁ : Shared} {tk : Nat} {b1 b2 b3 b4 b5 b6 b7 b8 b9 : Addr × Obj} {tl tl' rest : Led} {turn'' : Int} {t'' : Tok} {J : List Value → Int → Led → Prop}
    (F : Fr h₀ L h' m) (N : News h₀ L h' ((jug, listOf #[.ref cells, .int turn'' t''] n2) :: (tl' ++ ((I, oI) :: (C, oC) :: (D, lst ys) :: b1 :: b2 :: b3 :: b4 :: b5 :: b6 :: b7 :: b8 :: b9 :: (tl ++ rest))))) (hf' : Fresh tl' ((jug, listOf #[.ref cells, .int turn'' t''] n2) :: (I, oI) :: (C, oC) :: (D, lst ys) :: b1 :: b2 :: b3 :: b4 :: b5 :: b6 :: b7 :: b8 :: b9 :: (tl ++ rest)))
    (hoff : Off3 I C D ((jug, oj) :: b1 :: b2 :: b3 :: b4 :: b5 :: b6 :: b7 :: b8 :: b9 :: (tl ++ rest))) (hf : Fresh tl ((jug, oj) :: b1 :: b2 :: b3 :: b4 :: b5 :: b6 :: b7 :: b8 :: b9 :: rest)) (hJ : J (ys ++ [v]) turn'' (tl' ++ tl)) :
    CompEnd h₀ L m s₁ I oI C oC D (lst ys) (fun _ => True) (fun y nw' => ∃ turn'' t'' tl, nw' = (jug, listOf #[.ref cells, .int turn'' t''] n2) :: b1 :: b2 :: b3 :: b4 :: b5 :: b6 :: b7 :: b8 :: b9 :: (tl ++ rest) ∧ Fresh tl ((jug, listOf #[.ref cells, .int turn'' t''] n2) :: b1 :: b2 :: b3 :: b4 :: b5 :: b6 :: b7 :: b8 :: b9 :: rest) ∧ J (ys ++ [y]) turn'' tl) v { s₁ with heap := h', toks := tk } :=
  end_core (B := [b1, b2, b3, b4, b5, b6, b7, b8, b9]) F N hf' hoff hf fun hF => ⟨_, _, tl' ++ tl, rfl, hF, hJ⟩
end
end Mine
end
section
namespace Mine
open PyProof.Rows.LCg
def OffP (jug : Addr) (rest : Led) (a : Addr) : Prop := @Ne Nat jug a ∧ ∀ q ∈ rest, q.1 ≠ a
theorem low_off {jug a : Addr} {rest : Led} (h : @LT.lt Nat _ jug a ∧ AllLt a rest) : OffP jug rest a := ⟨Nat.ne_of_lt h.1, lt_ne h.2⟩
theorem low_off2 {jug d x : Addr} {rest : Led} (h : @LT.lt Nat _ jug d ∧ AllLt d rest) (hx : @LT.lt Nat _ d x) : OffP jug rest x := ⟨Nat.ne_of_lt (Nat.lt_trans h.1 hx), lt_ne2 h.2 hx⟩
theorem off_offP {jug a : Addr} {rest : Led} (h1 : @Ne Nat jug a) (h2 : Off1 a rest) : OffP jug rest a := ⟨h1, off1_ne h2⟩
theorem off_offT {jug a : Addr} {tl rest : Led} (h1 : @Ne Nat jug a) (h2 : Off1 a (tl ++ rest)) : OffP jug rest a := ⟨h1, fun q hq => off1_ne h2 q (List.mem_append_right _ hq)⟩
theorem fresh_cons {jug a : Addr} {o oj : Obj} {tl rest : Led} (h : OffP jug rest a) (hf : Fresh tl ((jug, oj) :: rest)) : Fresh ((a, o) :: tl) ((jug, oj) :: rest) := by
  intro q hq p hp
  rcases List.mem_cons.mp hq with rfl | hq
  · rcases List.mem_cons.mp hp with rfl | hp
    · exact h.1.symm
    · exact (h.2 p hp).symm
  · exact hf q hq p hp
theorem made_end {C : Type} {RC : Led → Value → C → Prop} {P : Params} {h₀ h' : Heap} {L : Addr} {m : Str → Option Value} {s : Shared} {Q : Value → Shared → Prop} {tk' : Nat} {jug cells d x l1 lc lp l2 l3 l4 : Addr} {n2 k1 k2 k3 k4 nc np : Nat} {ys ys2 : List Value} {cs' : List Cst} {ts' : List C} {es : List DictEntry} {tl rest : Led} {turn' top : Int} {t' : Tok}
    (hRC : ∀ {l l' v c}, RC l v c → (∀ q ∈ l, q ∈ l') → RC l' v c)
    (ret : ∀ v c tl turn' h' tk' t', NdIn P RC tl v c → Fresh tl ((jug, listOf #[.ref cells, .int turn' t'] n2) :: rest) → 0 ≤ turn' → turn' ≤ top → Fr h₀ L h' m → News h₀ L h' ((jug, listOf #[.ref cells, .int turn' t'] n2) :: (tl ++ rest)) → Q v { s with heap := h', toks := tk' })
    (od : OffP jug rest d) (ox : OffP jug rest x) (oc : OffP jug rest lc) (op : OffP jug rest lp) (o1 : OffP jug rest l1) (o2 : OffP jug rest l2) (o3 : OffP jug rest l3) (o4 : OffP jug rest l4) (hf : Fresh tl ((jug, listOf #[.ref cells, .int turn' t'] n2) :: rest))
    (hE : PNew P l1 lc lp l2 l3 l4 es) (hcs : All2 CIs ys cs') (hts : All2 (RC tl) ys2 ts') (z1 : ys.length ≤ 3) (z2 : ys2.length ≤ 2) (ht0 : 0 ≤ turn') (ht1 : turn' ≤ top) (F : Fr h₀ L h' m)
    (N : News h₀ L h' ((jug, listOf #[.ref cells, .int turn' t'] n2) :: (((d, dictOf es 16) :: (x, instObj 281 d) :: (lc, listOf ys.toArray nc) :: (lp, listOf ys2.toArray np) :: (l1, listOf #[] k1) :: (l2, listOf #[] k2) :: (l3, listOf #[] k3) :: (l4, listOf #[] k4) :: tl) ++ rest))) : Q (.ref x) { s with heap := h', toks := tk' } := by
  obtain ⟨v0, v1, v2, t0, t1, t2, t3, t4, t5, t6, hE⟩ := hE
  refine ret (.ref x) ⟨cs', ts'⟩ _ turn' h' tk' t' (.mk (da := d) (nd := 16) (n2 := nc) (n3 := np) (n1 := k1) (n4 := k2) (n5 := k3) (n6 := k4) ?_ ?_ hE ?_ ?_ ?_ ?_ ?_ ?_ hcs (hts.mono fun a b r => hRC r fun q hq => List.mem_cons_of_mem _ (List.mem_cons_of_mem _ (List.mem_cons_of_mem _ (List.mem_cons_of_mem _ (List.mem_cons_of_mem _ (List.mem_cons_of_mem _ (List.mem_cons_of_mem _ (List.mem_cons_of_mem _ hq)))))))) (by rw [← hcs.len]; exact z1) (by rw [← hts.len]; exact z2))
    (fresh_cons od (fresh_cons ox (fresh_cons oc (fresh_cons op (fresh_cons o1 (fresh_cons o2 (fresh_cons o3 (fresh_cons o4 hf)))))))) ht0 ht1 F N
  all_goals k_mem
theorem jug_ne {h₀ h : Heap} {L jug : Addr} {oj : Obj} {B : Led} (_ : News h₀ L h ((jug, oj) :: B)) (h : ∀ q ∈ B, q.1 ≠ jug) : ∀ q ∈ B, q.1 ≠ jug := h
theorem ne_mid {a : Addr} {B tl rest : Led} (h : ∀ q ∈ B ++ rest, q.1 ≠ a) (hf : ∀ q ∈ tl, q.1 ≠ a) : ∀ q ∈ B ++ (tl ++ rest), q.1 ≠ a := fun q hq => by
  rcases List.mem_append.mp hq with hq | hq
  · exact h q (List.mem_append_left _ hq)
  · rcases List.mem_append.mp hq with hq | hq
    · exact hf q hq
    · exact h q (List.mem_append_right _ hq)
theorem jug_ne2 {h₀ h : Heap} {L jug : Addr} {oj : Obj} {b1 b2 b3 b4 b5 b6 b7 b8 b9 : Addr × Obj} {rest : Led} (_ : News h₀ L h ((jug, oj) :: b1 :: b2 :: b3 :: b4 :: b5 :: b6 :: b7 :: b8 :: b9 :: rest)) (h : ∀ q ∈ b1 :: b2 :: b3 :: b4 :: b5 :: b6 :: b7 :: b8 :: b9 :: rest, q.1 ≠ jug) (tl : Led) (hf : ∀ q ∈ tl, q.1 ≠ jug) : ∀ q ∈ b1 :: b2 :: b3 :: b4 :: b5 :: b6 :: b7 :: b8 :: b9 :: (tl ++ rest), q.1 ≠ jug := ne_mid (B := [b1, b2, b3, b4, b5, b6, b7, b8, b9]) h hf
theorem fresh_drop9 {j : Addr × Obj} {b1 b2 b3 b4 b5 b6 b7 b8 b9 : Addr × Obj} {tl rest : Led} (hf : Fresh tl (j :: b1 :: b2 :: b3 :: b4 :: b5 :: b6 :: b7 :: b8 :: b9 :: rest)) : Fresh tl (j :: rest) := fun q hq p hp => hf q hq p (by
  rcases List.mem_cons.mp hp with h | h <;> simp [h])
end Mine
end
section
namespace Mine
open PyProof.Rows.LCg
section
variable {prog : Program} {w : World} {p : Program} {loose : List Str} {mean : ExcName → Option Value} {mg mb : Str → Option Value}
def RE : Led → Value → Empty → Prop := fun _ _ _ => False
abbrev Tr0 := Nd Empty
abbrev Tr1 := Nd Tr0
abbrev Tr2 := Nd Tr1
def R0 (P : Params) : Led → Value → Tr0 → Prop := NdIn P RE
def R1 (P : Params) : Led → Value → Tr1 → Prop := NdIn P (R0 P)
def R2 (P : Params) : Led → Value → Tr2 → Prop := NdIn P (R1 P)
theorem RE.mono {l l' : Led} {v : Value} {c : Empty} (h : RE l v c) (_ : ∀ q ∈ l, q ∈ l') : RE l' v c := h.elim
theorem R0.mono {P : Params} {l l' : Led} {v : Value} {c : Tr0} (h : R0 P l v c) (k : ∀ q ∈ l, q ∈ l') : R0 P l' v c := NdIn.mono (RC := RE) (fun h k => RE.mono h k) h k
theorem R1.mono {P : Params} {l l' : Led} {v : Value} {c : Tr1} (h : R1 P l v c) (k : ∀ q ∈ l, q ∈ l') : R1 P l' v c := NdIn.mono (RC := R0 P) (fun h k => R0.mono h k) h k
theorem R2.mono {P : Params} {l l' : Led} {v : Value} {c : Tr2} (h : R2 P l v c) (k : ∀ q ∈ l, q ∈ l') : R2 P l' v c := NdIn.mono (RC := R1 P) (fun h k => R1.mono h k) h k
def S0 (P : Params) : Led → Value → Tr0 → Prop := NdT P RE
def S1 (P : Params) : Led → Value → Tr1 → Prop := NdT P (S0 P)
def S2 (P : Params) : Led → Value → Tr2 → Prop := NdT P (S1 P)
theorem S0.mono {P : Params} {l l' : Led} {v : Value} {c : Tr0} (h : S0 P l v c) (k : ∀ q ∈ l, q ∈ l') : S0 P l' v c := NdT.mono (RC := RE) (fun h k => RE.mono h k) h k
theorem S1.mono {P : Params} {l l' : Led} {v : Value} {c : Tr1} (h : S1 P l v c) (k : ∀ q ∈ l, q ∈ l') : S1 P l' v c := NdT.mono (RC := S0 P) (fun h k => S0.mono h k) h k
theorem S2.mono {P : Params} {l l' : Led} {v : Value} {c : Tr2} (h : S2 P l v c) (k : ∀ q ∈ l, q ∈ l') : S2 P l' v c := NdT.mono (RC := S1 P) (fun h k => S1.mono h k) h k
theorem R2.told {P : Params} {l : Led} {v : Value} {c : Tr2} (h : R2 P l v c) : S2 P l v c := NdIn.told (RC := R1 P) (RT := S1 P) h fun _ _ h => NdIn.told (RC := R0 P) (RT := S0 P) h fun _ _ h => NdIn.told (RC := RE) (RT := RE) h fun _ _ h => h
-- encodings
def encE : Empty → List UInt8 := fun _ => [0]
def enc0 (ls ns : Int) : Tr0 → List UInt8 := encF ls ns false encE
def enc1 (ls ns : Int) : Tr1 → List UInt8 := encF ls ns false (enc0 ls ns)
def enc2 (ls ns : Int) : Tr2 → List UInt8 := encF ls ns true (enc1 ls ns)
def fitE : Empty → Prop := fun _ => True
def fit0 (ns : Int) : Tr0 → Prop := NFits ns fitE
def fit1 (ns : Int) : Tr1 → Prop := NFits ns (fit0 ns)
def fit2 (ns : Int) : Tr2 → Prop := NFits ns (fit1 ns)
def ok0 (ns : Int) : Tr0 → Prop := RFit ns fitE
def ok1 (ns : Int) : Tr1 → Prop := RFit ns (ok0 ns)
def ok2 (ns : Int) : Tr2 → Prop := RFit ns (ok1 ns)
theorem All2.mem {α β : Type} {R : α → β → Prop} {as : List α} {bs : List β} (h : All2 R as bs) : ∀ b ∈ bs, ∃ a, R a b := by
  induction h with
  | nil => exact fun _ h => nomatch h
  | cons x _ ih =>
    intro b hb
    rcases List.mem_cons.mp hb with rfl | hb
    · exact ⟨_, x⟩
    · exact ih b hb
theorem NdIn.rfit {C : Type} {P : Params} {RC : Led → Value → C → Prop} {l : Led} {v : Value} {x : Nd C} {ns : Int} {fit ok : C → Prop} (h : NdIn P RC l v x) (k : ∀ v c, RC l v c → fit c → ok c) (f : NFits ns fit x) : RFit ns ok x := by
  cases h with
  | mk h1 h2 h3 h4 h5 h6 h7 h8 h9 hc ht z1 z2 => exact ⟨f.1, fun t htt => let ⟨a, ha⟩ := ht.mem t htt; k _ _ ha (f.2 t htt), z1, z2⟩
theorem R2.ok {P : Params} {l : Led} {v : Value} {c : Tr2} {ns : Int} (h : R2 P l v c) (f : fit2 ns c) : ok2 ns c :=
  NdIn.rfit (RC := R1 P) (fit := fit1 ns) (ok := ok1 ns) h (fun _ _ h f => NdIn.rfit (RC := R0 P) (fit := fit0 ns) (ok := ok0 ns) h (fun _ _ h f => NdIn.rfit (RC := RE) (fit := fitE) (ok := fitE) h (fun _ c _ _ => c.elim) f) f) f
theorem NdIn.small {C : Type} {P : Params} {RC : Led → Value → C → Prop} {l : Led} {v : Value} {x : Nd C} (h : NdIn P RC l v x) : x.cs.length ≤ 3 ∧ x.ts.length ≤ 2 ∧ ∀ t ∈ x.ts, ∃ v, RC l v t := by
  cases h with
  | mk h1 h2 h3 h4 h5 h6 h7 h8 h9 hc ht z1 z2 => exact ⟨z1, z2, fun t h => ht.mem t h⟩
theorem encL_le {α : Type} {f : α → List UInt8} {xs : List α} {k : Nat} (h : ∀ x ∈ xs, (f x).length ≤ k) : (encL f xs).length ≤ xs.length * k := by
  induction xs with
  | nil => simp [encL]
  | cons x r ih =>
    rw [encL_cons, List.length_append, List.length_cons, Nat.succ_mul]
    have h1 := h x List.mem_cons_self
    have h2 := ih fun y hy => h y (List.mem_cons_of_mem _ hy)
    omega
theorem encC_le {ls ns : Int} (hls' : ls ≤ 8) (hns' : ns ≤ 8) (c : Cst) : (encC ls ns c).length ≤ 12 := by
  cases c <;> simp only [encC, encN, List.length_append, le_len, List.length_cons, List.length_nil] <;> omega
theorem encF_le {C : Type} {ls ns : Int} {root : Bool} {enc : C → List UInt8} {x : Nd C} {k : Nat} (hls' : ls ≤ 8) (hns' : ns ≤ 8) (z1 : x.cs.length ≤ 3) (z2 : x.ts.length ≤ 2) (h : ∀ t ∈ x.ts, (enc t).length ≤ k) : (encF ls ns root enc x).length ≤ 90 + 2 * k := by
  have h1 := encL_le (f := encC ls ns) (xs := x.cs) (k := 12) fun c _ => encC_le hls' hns' c
  have h2 := encL_le h
  have h3 : x.ts.length * k ≤ 2 * k := Nat.mul_le_mul_right _ z2
  cases root <;> simp only [encF, encB, List.length_append, le_len, Bool.false_eq_true, if_false, if_true, List.length_nil] <;> omega
theorem enc2_le {P : Params} {l : Led} {v : Value} {c : Tr2} {ls ns : Int} (hls' : ls ≤ 8) (hns' : ns ≤ 8) (h : R2 P l v c) : (hdr ls ns ++ enc2 ls ns c).length ≤ 1000 := by
  obtain ⟨z1, z2, h1⟩ := NdIn.small (RC := R1 P) h
  have := encF_le (root := true) (enc := enc1 ls ns) (k := 270) hls' hns' z1 z2 fun t ht => by
    obtain ⟨v1, ht⟩ := h1 t ht
    obtain ⟨y1, y2, h2⟩ := NdIn.small (RC := R0 P) ht
    exact encF_le (root := false) (enc := enc0 ls ns) (k := 90) hls' hns' y1 y2 fun t ht => by
      obtain ⟨v2, ht⟩ := h2 t ht
      obtain ⟨x1, x2, h3⟩ := NdIn.small (RC := RE) ht
      exact encF_le (root := false) (enc := encE) (k := 0) hls' hns' x1 x2 fun t ht => t.elim
  rw [List.length_append, hdr_len]
  unfold enc2
  omega
theorem encF_pos {C : Type} {ls ns : Int} {root : Bool} {enc : C → List UInt8} (x : Nd C) : 1 ≤ (encF ls ns root enc x).length := by
  simp only [encF, List.length_append, le_len]; omega
end
end Mine
end
section
namespace Mine
open PyProof.Rows.LCg PyProof.Rows.LCt
theorem menu48 {v : Int} (h : v < 2) : ∃ ls : Int, ([4, 8] : List Int).getD v.toNat 0 = ls ∧ 1 ≤ ls ∧ ls ≤ 8 := by
  have : ∀ k : Fin 2, 1 ≤ ([4, 8] : List Int).getD k.val 0 ∧ ([4, 8] : List Int).getD k.val 0 ≤ 8 := by decide +kernel
  exact ⟨_, rfl, this ⟨v.toNat, by omega⟩⟩
theorem menu1248 {v : Int} (h : v < 4) : ∃ ns : Int, ([1, 2, 4, 8] : List Int).getD v.toNat 0 = ns ∧ 1 ≤ ns ∧ ns ≤ 8 := by
  have : ∀ k : Fin 4, 1 ≤ ([1, 2, 4, 8] : List Int).getD k.val 0 ∧ ([1, 2, 4, 8] : List Int).getD k.val 0 ≤ 8 := by decide +kernel
  exact ⟨_, rfl, this ⟨v.toNat, by omega⟩⟩
theorem half_pow {ns : Int} (h : 1 ≤ ns) (h8 : ns ≤ 8) : (2 : Int) ^ (8 * ns - 1).toNat = halfOf ns := by
  have : ∀ k : Fin 8, (2 : Int) ^ (8 * ((k.val : Nat) + 1 : Int) - 1).toNat = halfOf ((k.val : Nat) + 1 : Int) := by decide +kernel
  have h2 := this ⟨(ns - 1).toNat, by omega⟩
  rwa [show (((ns - 1).toNat : Nat) : Int) + 1 = ns by omega] at h2
theorem ints_get {vs : List Value} {ns : List Int} (h : IntsAre vs ns) {i : Nat} {v : Value} (e : vs[i]? = some v) : ∃ n t, v = .int n t ∧ ns[i]? = some n := by
  induction h generalizing i with
  | nil => cases e
  | cons n t _ ih =>
    cases i with
    | zero => cases e; exact ⟨n, t, rfl, rfl⟩
    | succ i => exact ih (by simpa using e)
def outOf (b n : Int) : Bool := decide (n < 0 - b) || decide (n > b - 1)
theorem out_step {b n : Int} {ns : List Int} {i : Nat} (e : ns[i]? = some n) (h : outOf b n = true) : (ns.take (i + 1)).filter (outOf b) = (ns.take i).filter (outOf b) ++ [n] := by
  rw [take_succ e, List.filter_append]; simp [h]
theorem out_skip {b n : Int} {ns : List Int} {i : Nat} (e : ns[i]? = some n) (h : outOf b n = false) : (ns.take (i + 1)).filter (outOf b) = (ns.take i).filter (outOf b) := by
  rw [take_succ e, List.filter_append]; simp [h]
theorem law_led {h₀ h : Heap} {L : Addr} {j sz b1 b2 c cell : Addr × Obj} {tl : Led} (N : News h₀ L h (j :: (tl ++ [sz, b1, b2, c, cell]))) : News h₀ L h (sz :: cell :: tl) := fun q hq => N q (by
  simp only [List.mem_cons, List.mem_append] at hq ⊢
  rcases hq with h | h | h <;> simp [h])
theorem out_lo {b n : Int} (h : n < 0 - b) : outOf b n = true := by unfold outOf; rw [decide_eq_true h, Bool.true_or]
theorem out_hi {b n : Int} (h : b - 1 < n) : outOf b n = true := by unfold outOf; rw [decide_eq_true (show n > b - 1 from h), Bool.or_true]
theorem out_no {b n : Int} (h1 : ¬ n < 0 - b) (h2 : ¬ b - 1 < n) : outOf b n = false := by unfold outOf; rw [decide_eq_false h1, decide_eq_false (show ¬ n > b - 1 from h2)]; rfl
theorem out_not {b n : Int} : outOf b n = false ↔ -b ≤ n ∧ n < b := by
  unfold outOf
  rw [Bool.or_eq_false_iff, decide_eq_false_iff_not, decide_eq_false_iff_not]
  omega
theorem fits_iff {C : Type} {ns : Int} {b : Int} {fit : C → Prop} {f : C → List Int} (hb : b = halfOf ns) (h : ∀ c, (∀ n ∈ f c, outOf b n = false) ↔ fit c) (x : Nd C) : (∀ n ∈ numN f x, outOf b n = false) ↔ NFits ns fit x := by
  have hc : ∀ cs : List Cst, (∀ n ∈ numC cs, outOf b n = false) ↔ ∀ c ∈ cs, CFits ns c := by
    intro cs
    induction cs with
    | nil => simp [numC]
    | cons c r ih =>
      cases c with
      | num n =>
        rw [numC, List.forall_mem_cons, List.forall_mem_cons, ih, out_not, hb]
        exact Iff.rfl
      | nil => rw [numC, List.forall_mem_cons, ih]; exact ⟨fun h => ⟨trivial, h⟩, fun h => h.2⟩; all_goals (intros; contradiction)
      | bool b => rw [numC, List.forall_mem_cons, ih]; exact ⟨fun h => ⟨trivial, h⟩, fun h => h.2⟩; all_goals (intros; contradiction)
      | txt => rw [numC, List.forall_mem_cons, ih]; exact ⟨fun h => ⟨trivial, h⟩, fun h => h.2⟩; all_goals (intros; contradiction)
  unfold numN NFits
  rw [List.forall_mem_append, hc]
  refine and_congr Iff.rfl ⟨fun H t ht => (h t).mp fun n hn => H n (List.mem_flatMap.mpr ⟨t, ht, hn⟩), fun H n hn => ?_⟩
  obtain ⟨t, ht, hn⟩ := List.mem_flatMap.mp hn
  exact (h t).mpr (H t ht) n hn
end Mine
end
section
namespace Mine
theorem menu5 {v : Int} (h : v < 5) : 1 ≤ ([1, 2, 4, 8, 9] : List Int).getD v.toNat 0 ∧ ([1, 2, 4, 8, 9] : List Int).getD v.toNat 0 ≤ 9 := by
  have : ∀ k : Fin 5, 1 ≤ ([1, 2, 4, 8, 9] : List Int).getD k.val 0 ∧ ([1, 2, 4, 8, 9] : List Int).getD k.val 0 ≤ 9 := by decide +kernel
  exact this ⟨v.toNat, by omega⟩
theorem pow_lo {v : Int} (h : v < 5) : 0 ≤ 8 * ([1, 2, 4, 8, 9] : List Int).getD v.toNat 0 - 1 := by have := menu5 h; omega
theorem pow_hi {v : Int} (h : v < 5) : 8 * ([1, 2, 4, 8, 9] : List Int).getD v.toNat 0 - 1 ≤ 1000000 := by have := menu5 h; omega
end Mine
end
section
theorem Mine.sayCpoured : True := by
  k_with_none
  (k_with "M:ne" => first | assumption | omega)
  (k_with "M:all" => first | assumption | exact List.forall_mem_nil _ | (refine' Mine.ne_cons ?wa ?wb; (case wa => k_extra "M:ne"); (case wb => k_all)) | (refine' tbn_neAll ?wkah; (case wkah => k_extra "M:conj")))
  (k_with "M:upd" => first | (refine' Upd.head ?wa; (case wa => k_all)) | (refine' Mine.upd_tail ?wa ?wb; (case wa => k_extra "M:ne"); (case wb => k_upd)))
  (k_with "M:conj" => first | assumption | (refine' And.right ?_; assumption) | (refine' And.right (And.right ?_); assumption) | (refine' And.right (And.right (And.right ?_)); assumption) | (refine' And.right (And.right (And.right (And.right ?_))); assumption) | (refine' And.right (And.right (And.right (And.right (And.right ?_)))); assumption))
  (k_with "M:mem" => first | assumption | exact List.mem_cons_self | (refine' List.mem_cons_of_mem _ ?_; k_extra "M:mem"))
  (k_with "M:in" => first | assumption | exact Frag.In.keeps (by k_asm) (Fr.keep (by k_asm)))
  (k_with "M:news" => k_dflt k_mem)
  (k_with "M:enter" => (refine wpAny_call ?_; k_dflt ktr_enter))
  (k_with "M:enterC" => (refine wpAny_call ?_; k_dflt (refine' code_defC ?wk1 ?wk2 ?wk3 ?wk4 ?wk5 ?wkA ?kF ?kK ?wk6 ?wk7 ?wk8 ?wk9 ?kB ?wkD ?_ ?wc2 ?wc3 ?wc4; (case wkA => exact rfl); (case kF => exact rfl); (case kK => assumption); (case wk1 => k_asm); (case wk2 => k_asm); (case wk3 => k_asm); (case wk4 => k_asm); (case wk5 => k_asm); (case wk6 => k_is); (case wk7 => k_is); (case wk8 => ktr_room); (case wk9 => first | exact BindsTo.of_eq rfl | exact binds_K (by k_in) rfl (by k_is) rfl rfl rfl | fail "k_enter: no rule for these arguments"); (case kB => exact rfl); (case wkD => decide +kernel); (case wc2 => exact rfl); (case wc3 => exact rfl); (case wc4 => exact rfl); k_whole; intro wg' wL' wh' wtk' wcells' wFG' wF' wN' wY' wB' wX' wT' wl1; (try k_lt wl1); k_cells wY'; (try simp only [List.cons_append, List.nil_append] at wN'); (try dsimp only); (try k_lift wB'); (try k_fold))))
  (k_with "M:base" => ((case kB => k_asm); (case kF => k_asm); (case kX => k_asm); (case kN => k_asm); (case kT => k_asm); (case kK => first | exact rfl | assumption); (case kd => ktr_room); (case ku => ktr_units)))
  (k_with "M:pick" => first | exact Mine.Pick.head | (apply Mine.Pick.tail; k_extra "M:pick"))
  (k_with "M:room" => ktr_room)
  (k_with "call builtin:list.append" => (k_here; (with_reducible show wpAny _ _ (call (Value.builtin _) [Value.ref _, _]) _ _ _); k_dflt (refine' append_K ?wk1 ?wk2 ?wk3 ?_ ?wz; (case wk1 => k_asm); (case wk2 => k_asm); (case wk3 => k_upd); (case wz => first | size_fits | ((try simp only [List.size_toArray, sizeLine_eq]); omega)); k_whole); intro wh' wF' wN'; (try simp only [List.push_toArray] at wN'); (try k_sweep)))
  (k_with "M:enterD" => (refine wpAny_call ?_; k_dflt (refine' code_def ?wk1 ?wk2 ?wk3 ?wk4 ?wk5 ?wkA ?kF ?kK ?wk6 ?wk7 ?wk8 ?wk9 ?kB ?_ ?wc2 ?wc3 ?wc4 ?wc5; (case wkA => exact rfl); (case kF => exact rfl); (case kK => assumption); (case wk1 => k_asm); (case wk2 => k_asm); (case wk3 => k_asm); (case wk4 => k_asm); (case wk5 => k_asm); (case wk6 => k_is); (case wk7 => k_is); (case wk8 => ktr_room); (case wk9 => first | exact BindsTo.of_eq rfl | exact binds_K (by k_in) rfl (by k_is) rfl rfl rfl | fail "enterD: no rule for these arguments"); (case wc5 => decide); (case kB => exact locs rfl); (case wc2 => exact rfl); (case wc3 => exact rfl); (case wc4 => exact rfl); k_whole; intro wg' wL' wh' wFG' wF' wN' wB' wX' wT'; (try dsimp only); (try k_fold))))
  trivial
namespace Mine
section
variable {prog : Program} {w : World} {p : Program} {loose : List Str} {mean : ExcName → Option Value} {mg mb : Str → Option Value}
variable {dp un : Nat} {gd : Option (List Code)} {cn : Str} {cs : Scope} {a : Addr} {ccd : Value} {cl : List (Str × Addr)} {outer : List Env} {A₀ : Around} {base h₀ : Heap} {L : Addr} {m : Str → Option Value} {s : Shared} {Q E : Value → Shared → Prop} {l rest : Led}

section
variable {prog : Program} {w : World} {p : Program} {loose : List Str} {mean : ExcName → Option Value} {mg mb : Str → Option Value}
variable {dp un : Nat} {gd : Option (List Code)} {cn : Str} {cs : Scope} {a : Addr} {ccd : Value} {cl : List (Str × Addr)} {outer : List Env} {A₀ : Around} {base h₀ : Heap} {L : Addr} {m : Str → Option Value} {s : Shared} {Q E : Value → Shared → Prop} {l rest : Led}
theorem poured {jug cells : Addr} {vs : List Value} {ns : List Int} {turn many : Int} {t1 t2 : Tok} {n1 n2 : Nat}
    (B : Below A₀ base outer h₀) (F : Fr h₀ L s.heap m) (X : (hd.heap_1 w.params).In h₀) (N : News h₀ L s.heap l) (T : Top p loose mean mg mb h₀) (hk : cs.kind = .function) (hd : dp + 3 < recursionLimit) (hu : un + 24 < cLine)
    (pk : Pick (jug, listOf #[.ref cells, .int turn t1] n2) l rest) (hc : (cells, ({ cls := .type "list", data := .seq vs.toArray n1 } : Obj)) ∈ rest) (hne : ∀ q ∈ rest, q.1 ≠ jug)
    (hi : IntsAre vs ns) (hlen : ns.length ≤ 60) (h0 : 0 ≤ turn) (h1 : turn ≤ 1000) (hm0 : 1 ≤ many) (hm1 : many ≤ 100)
    (ret : ∀ v t h' tk' t', 0 ≤ v → v < many → Fr h₀ L h' m → News h₀ L h' ((jug, listOf #[.ref cells, .int (turn + 1) t'] n2) :: rest) → Q (.int v t) { s with heap := h', toks := tk' }) :
    wpAny (model prog w) (ktrTop dp un gd cn cs L a ccd cl outer) (call (.ref 410) [.ref jug, .int many t2]) Q E s := by
  have N := pk.news N
  clear pk
  k_extra "M:enter"
  k_steps
  · exact ret _ _ _ _ _ (fmod_lo _ (by omega)) (fmod_hi _ (by omega)) (by assumption) (by assumption)
  · exact ret _ _ _ _ _ (fmod_lo _ (by omega)) (fmod_hi _ (by omega)) (by assumption) (by assumption)
end
end
end Mine
end
section
theorem Mine.sayClconst : True := by
  k_with_none
  (k_with "M:ne" => first | assumption | omega)
  (k_with "M:all" => first | assumption | exact List.forall_mem_nil _ | (refine' Mine.ne_cons ?wa ?wb; (case wa => k_extra "M:ne"); (case wb => k_all)) | (refine' tbn_neAll ?wkah; (case wkah => k_extra "M:conj")))
  (k_with "M:upd" => first | (refine' Upd.head ?wa; (case wa => k_all)) | (refine' Mine.upd_tail ?wa ?wb; (case wa => k_extra "M:ne"); (case wb => k_upd)))
  (k_with "M:conj" => first | assumption | (refine' And.right ?_; assumption) | (refine' And.right (And.right ?_); assumption) | (refine' And.right (And.right (And.right ?_)); assumption) | (refine' And.right (And.right (And.right (And.right ?_))); assumption) | (refine' And.right (And.right (And.right (And.right (And.right ?_)))); assumption))
  (k_with "M:mem" => first | assumption | exact List.mem_cons_self | (refine' List.mem_cons_of_mem _ ?_; k_extra "M:mem"))
  (k_with "M:in" => first | assumption | exact Frag.In.keeps (by k_asm) (Fr.keep (by k_asm)))
  (k_with "M:news" => k_dflt k_mem)
  (k_with "M:enter" => (refine wpAny_call ?_; k_dflt ktr_enter))
  (k_with "M:enterC" => (refine wpAny_call ?_; k_dflt (refine' code_defC ?wk1 ?wk2 ?wk3 ?wk4 ?wk5 ?wkA ?kF ?kK ?wk6 ?wk7 ?wk8 ?wk9 ?kB ?wkD ?_ ?wc2 ?wc3 ?wc4; (case wkA => exact rfl); (case kF => exact rfl); (case kK => assumption); (case wk1 => k_asm); (case wk2 => k_asm); (case wk3 => k_asm); (case wk4 => k_asm); (case wk5 => k_asm); (case wk6 => k_is); (case wk7 => k_is); (case wk8 => ktr_room); (case wk9 => first | exact BindsTo.of_eq rfl | exact binds_K (by k_in) rfl (by k_is) rfl rfl rfl | fail "k_enter: no rule for these arguments"); (case kB => exact rfl); (case wkD => decide +kernel); (case wc2 => exact rfl); (case wc3 => exact rfl); (case wc4 => exact rfl); k_whole; intro wg' wL' wh' wtk' wcells' wFG' wF' wN' wY' wB' wX' wT' wl1; (try k_lt wl1); k_cells wY'; (try simp only [List.cons_append, List.nil_append] at wN'); (try dsimp only); (try k_lift wB'); (try k_fold))))
  (k_with "M:base" => ((case kB => k_asm); (case kF => k_asm); (case kX => k_asm); (case kN => k_asm); (case kT => k_asm); (case kK => first | exact rfl | assumption); (case kd => ktr_room); (case ku => ktr_units)))
  (k_with "M:pick" => first | exact Mine.Pick.head | (apply Mine.Pick.tail; k_extra "M:pick"))
  (k_with "M:room" => ktr_room)
  (k_with "call builtin:list.append" => (k_here; (with_reducible show wpAny _ _ (call (Value.builtin _) [Value.ref _, _]) _ _ _); k_dflt (refine' append_K ?wk1 ?wk2 ?wk3 ?_ ?wz; (case wk1 => k_asm); (case wk2 => k_asm); (case wk3 => k_upd); (case wz => first | size_fits | ((try simp only [List.size_toArray, sizeLine_eq]); omega)); k_whole); intro wh' wF' wN'; (try simp only [List.push_toArray] at wN'); (try k_sweep)))
  (k_with "M:enterD" => (refine wpAny_call ?_; k_dflt (refine' code_def ?wk1 ?wk2 ?wk3 ?wk4 ?wk5 ?wkA ?kF ?kK ?wk6 ?wk7 ?wk8 ?wk9 ?kB ?_ ?wc2 ?wc3 ?wc4 ?wc5; (case wkA => exact rfl); (case kF => exact rfl); (case kK => assumption); (case wk1 => k_asm); (case wk2 => k_asm); (case wk3 => k_asm); (case wk4 => k_asm); (case wk5 => k_asm); (case wk6 => k_is); (case wk7 => k_is); (case wk8 => ktr_room); (case wk9 => first | exact BindsTo.of_eq rfl | exact binds_K (by k_in) rfl (by k_is) rfl rfl rfl | fail "enterD: no rule for these arguments"); (case wc5 => decide); (case kB => exact locs rfl); (case wc2 => exact rfl); (case wc3 => exact rfl); (case wc4 => exact rfl); k_whole; intro wg' wL' wh' wFG' wF' wN' wB' wX' wT'; (try dsimp only); (try k_fold))))
  (k_with "call ref" => (k_here; (with_reducible show wpAny _ _ (call (Value.ref 410) _) _ _ _); k_dflt (refine' Mine.poured ?kB ?kF ?kX ?kN ?kT ?kK ?kd ?ku ?wkp ?wkc ?wkn ?wki ?wkl ?wk0 ?wk1 ?wk2 ?wk3 ?_; k_extra "M:base"; (case wkp => k_extra "M:pick"); (case wkc => k_mem); (case wkn => k_all); (case wki => assumption); (case wkl => first | assumption | omega); (case wk0 => first | assumption | omega); (case wk1 => first | assumption | omega); (case wk2 => omega); (case wk3 => omega); k_whole); intro wv' wt' wh' wtk' wt2' whlo' whhi' wF' wN'; (try k_fold)))
  (k_with "binaryOp Pow int int" => (k_here; (with_reducible refine pow_int_small ?wa ?wb ?wc ?_); (case wa => exact Mine.pow_lo (by omega)); (case wb => exact Mine.pow_hi (by omega)); (case wc => decide)))
  trivial
namespace Mine
section
variable {prog : Program} {w : World} {p : Program} {loose : List Str} {mean : ExcName → Option Value} {mg mb : Str → Option Value}
variable {dp un : Nat} {gd : Option (List Code)} {cn : Str} {cs : Scope} {a : Addr} {ccd : Value} {cl : List (Str × Addr)} {outer : List Env} {A₀ : Around} {base h₀ : Heap} {L : Addr} {m : Str → Option Value} {s : Shared} {Q E : Value → Shared → Prop} {l rest : Led}
theorem lconst {jug cells : Addr} {vs : List Value} {zs : List Int} {turn : Int} {t1 : Tok} {n1 n2 : Nat}
    (B : Below A₀ base outer h₀) (F : Fr h₀ L s.heap m) (X : (hd.heap_1 w.params).In h₀) (N : News h₀ L s.heap l) (T : Top p loose mean mg mb h₀) (hk : cs.kind = .function) (hd : dp + 6 < recursionLimit) (hu : un + 48 < cLine)
    (pk : Pick (jug, listOf #[.ref cells, .int turn t1] n2) l rest) (hc : (cells, ({ cls := .type "list", data := .seq vs.toArray n1 } : Obj)) ∈ rest) (hne : ∀ q ∈ rest, q.1 ≠ jug)
    (hi : IntsAre vs zs) (hlen : zs.length ≤ 60) (h0 : 0 ≤ turn) (h1 : turn ≤ 990)
    (ret : ∀ v c turn' h' tk' t', CIs v c → 0 ≤ turn' → turn' ≤ turn + 3 → Fr h₀ L h' m → News h₀ L h' ((jug, listOf #[.ref cells, .int turn' t'] n2) :: rest) → Q v { s with heap := h', toks := tk' }) :
    wpAny (model prog w) (ktrTop dp un gd cn cs L a ccd cl outer) (call (.ref 417) [.ref jug]) Q E s := by
  have N := pk.news N
  clear pk
  k_extra "M:enter"
  k_steps
  · rename Int => v9
    have hv : v9 = 0 ∨ v9 = 1 ∨ v9 = 2 ∨ v9 = 3 := by omega
    rcases hv with rfl | rfl | rfl | rfl
    all_goals k_steps
    · refine ret _ .nil _ _ _ _ .nil ?_ ?_ (by assumption) (news_le (by assumption) (by kcf_all)) <;> omega
    · refine ret _ (.bool true) _ _ _ _ (.bool _) ?_ ?_ (by assumption) (news_le (by assumption) (by kcf_all)) <;> omega
    · refine ret _ (.bool false) _ _ _ _ (.bool _) ?_ ?_ (by assumption) (news_le (by assumption) (by kcf_all)) <;> omega
    · refine ret _ .txt _ _ _ _ (.txt _) ?_ ?_ (by assumption) (news_le (by assumption) (by kcf_all)) <;> omega
  · refine ret _ (.num _) _ _ _ _ (.num _ _) ?_ ?_ (by assumption) (news_le (by assumption) (by kcf_all)) <;> omega
end
end Mine
end
section
theorem Mine.sayCmadeG : True := by
  k_with_none
  (k_with "M:ne" => first | assumption | omega)
  (k_with "M:all" => first | assumption | exact List.forall_mem_nil _ | (refine' Mine.ne_cons ?wa ?wb; (case wa => k_extra "M:ne"); (case wb => k_all)) | (refine' tbn_neAll ?wkah; (case wkah => k_extra "M:conj")))
  (k_with "M:upd" => first | (refine' Upd.head ?wa; (case wa => k_all)) | (refine' Mine.upd_tail ?wa ?wb; (case wa => k_extra "M:ne"); (case wb => k_upd)))
  (k_with "M:conj" => first | assumption | (refine' And.right ?_; assumption) | (refine' And.right (And.right ?_); assumption) | (refine' And.right (And.right (And.right ?_)); assumption) | (refine' And.right (And.right (And.right (And.right ?_))); assumption) | (refine' And.right (And.right (And.right (And.right (And.right ?_)))); assumption))
  (k_with "M:mem" => first | assumption | exact List.mem_cons_self | (refine' List.mem_cons_of_mem _ ?_; k_extra "M:mem"))
  (k_with "M:in" => first | assumption | exact Frag.In.keeps (by k_asm) (Fr.keep (by k_asm)))
  (k_with "M:news" => k_dflt k_mem)
  (k_with "M:enter" => (refine wpAny_call ?_; k_dflt ktr_enter))
  (k_with "M:enterC" => (refine wpAny_call ?_; k_dflt (refine' code_defC ?wk1 ?wk2 ?wk3 ?wk4 ?wk5 ?wkA ?kF ?kK ?wk6 ?wk7 ?wk8 ?wk9 ?kB ?wkD ?_ ?wc2 ?wc3 ?wc4; (case wkA => exact rfl); (case kF => exact rfl); (case kK => assumption); (case wk1 => k_asm); (case wk2 => k_asm); (case wk3 => k_asm); (case wk4 => k_asm); (case wk5 => k_asm); (case wk6 => k_is); (case wk7 => k_is); (case wk8 => ktr_room); (case wk9 => first | exact BindsTo.of_eq rfl | exact binds_K (by k_in) rfl (by k_is) rfl rfl rfl | fail "k_enter: no rule for these arguments"); (case kB => exact rfl); (case wkD => decide +kernel); (case wc2 => exact rfl); (case wc3 => exact rfl); (case wc4 => exact rfl); k_whole; intro wg' wL' wh' wtk' wcells' wFG' wF' wN' wY' wB' wX' wT' wl1; (try k_lt wl1); k_cells wY'; (try simp only [List.cons_append, List.nil_append] at wN'); (try dsimp only); (try k_lift wB'); (try k_fold))))
  (k_with "M:base" => ((case kB => k_asm); (case kF => k_asm); (case kX => k_asm); (case kN => k_asm); (case kT => k_asm); (case kK => first | exact rfl | assumption); (case kd => ktr_room); (case ku => ktr_units)))
  (k_with "M:pick" => first | exact Mine.Pick.head | (apply Mine.Pick.tail; k_extra "M:pick"))
  (k_with "M:room" => ktr_room)
  (k_with "call builtin:list.append" => (k_here; (with_reducible show wpAny _ _ (call (Value.builtin _) [Value.ref _, _]) _ _ _); k_dflt (refine' append_K ?wk1 ?wk2 ?wk3 ?_ ?wz; (case wk1 => k_asm); (case wk2 => k_asm); (case wk3 => k_upd); (case wz => first | size_fits | ((try simp only [List.size_toArray, sizeLine_eq]); omega)); k_whole); intro wh' wF' wN'; (try simp only [List.push_toArray] at wN'); (try k_sweep)))
  (k_with "M:enterD" => (refine wpAny_call ?_; k_dflt (refine' code_def ?wk1 ?wk2 ?wk3 ?wk4 ?wk5 ?wkA ?kF ?kK ?wk6 ?wk7 ?wk8 ?wk9 ?kB ?_ ?wc2 ?wc3 ?wc4 ?wc5; (case wkA => exact rfl); (case kF => exact rfl); (case kK => assumption); (case wk1 => k_asm); (case wk2 => k_asm); (case wk3 => k_asm); (case wk4 => k_asm); (case wk5 => k_asm); (case wk6 => k_is); (case wk7 => k_is); (case wk8 => ktr_room); (case wk9 => first | exact BindsTo.of_eq rfl | exact binds_K (by k_in) rfl (by k_is) rfl rfl rfl | fail "enterD: no rule for these arguments"); (case wc5 => decide); (case kB => exact locs rfl); (case wc2 => exact rfl); (case wc3 => exact rfl); (case wc4 => exact rfl); k_whole; intro wg' wL' wh' wFG' wF' wN' wB' wX' wT'; (try dsimp only); (try k_fold))))
  (k_with "M:all" => first | assumption | exact List.forall_mem_nil _ | (refine' Mine.ne_cons ?wa ?wb; (case wa => k_extra "M:ne"); (case wb => k_all)) | (refine' Mine.off1_ne ?wkah; (case wkah => k_extra "M:conj")))
  (k_with "call ref" => (k_here; (with_reducible show wpAny _ _ (call (Value.ref 410) _) _ _ _); k_dflt (refine' Mine.poured ?kB ?kF ?kX ?kN ?kT ?kK ?kd ?ku ?wkp ?wkc ?wkn ?wki ?wkl ?wk0 ?wk1 ?wk2 ?wk3 ?_; k_extra "M:base"; (case wkp => k_extra "M:pick"); (case wkc => k_mem); (case wkn => k_all); (case wki => assumption); (case wkl => first | assumption | omega); (case wk0 => first | assumption | omega); (case wk1 => first | assumption | omega); (case wk2 => omega); (case wk3 => omega); k_whole); intro wv' wt' wh' wtk' wt2' whlo' whhi' wF' wN'; (try k_fold)))
  (k_with "call ref" => (k_here; (with_reducible show wpAny _ _ (call (Value.ref 417) _) _ _ _); k_dflt (refine' Mine.lconst ?kB ?kF ?kX ?kN ?kT ?kK ?kd ?ku ?wkp ?wkc ?wkn ?wki ?wkl ?wk0 ?wk1 ?_; k_extra "M:base"; (case wkp => k_extra "M:pick"); (case wkc => k_mem); (case wkn => k_all); (case wki => assumption); (case wkl => assumption); (case wk0 => first | assumption | omega); (case wk1 => first | assumption | omega); k_whole); intro wv' wc' wturn' wh' wtk' wt' whc' whlo' whhi' wF' wN'; (try k_fold)))
  (k_with "CompSrc" => refine Mine.unhold ?_)
  (k_with "CompEnd" => refine Mine.unhold ?_)
  (k_with "exec Assign cons ListComp" => (k_here; k_dflt (refine LCg.Assign_ListComp_U (F₀ := by k_asm) (by rfl) (by with_unfolding_all rfl) (by with_unfolding_all rfl) (by decide) (by rfl) (by decide) (by rfl) (by rfl) (by rfl) ?_)))
  (k_with "call ref" => (k_here; (with_reducible show wpAny _ _ (call (Value.ref 422) _) _ _ _); k_dflt (rename MadeSpec _ _ _ _ _ _ _ _ _ _ _ => whS; refine' whS ?kB ?kF ?kX ?kN ?kT ?kK ?kd ?ku ?wkp ?wkc ?wkn ?wki ?wkl ?wk0 ?wk1 ?_; k_extra "M:base"; (case wkp => k_extra "M:pick"); (case wkc => k_mem); (case wkn => k_all); (case wki => assumption); (case wkl => assumption); (case wk0 => first | assumption | omega); (case wk1 => first | assumption | omega); k_whole); intro wv' wc' wtl' wturn' wh' wtk' wt' whc' whfr' whlo' whhi' wF' wN'; (try k_fold)))
  (k_with "M:om" => ((try clear hne'); (try clear hj); (try clear j1); (try clear j2); (try clear j3); (try clear p1); (try clear p2); (try clear p3); (try clear q1); (try clear q2); (try clear q3); (try clear q4); (try clear dj); (try clear dd); (try clear ej); (try clear ed); (try clear hoff); (try clear ho); (try clear ho2); omega))
  trivial
namespace Mine
section
variable {prog : Program} {w : World} {p : Program} {loose : List Str} {mean : ExcName → Option Value} {mg mb : Str → Option Value}
variable {dp un : Nat} {gd : Option (List Code)} {cn : Str} {cs : Scope} {a : Addr} {ccd : Value} {cl : List (Str × Addr)} {outer : List Env} {A₀ : Around} {base h₀ : Heap} {L : Addr} {m : Str → Option Value} {s : Shared} {Q E : Value → Shared → Prop} {l rest : Led}
open PyProof.Rows.LCg
theorem madeG {C : Type} {RC : Led → Value → C → Prop} {deep : Int} {H : Nat} {K : Int} (hdeep : 0 ≤ deep) (hdeep' : deep ≤ 5) (hK : 0 ≤ K) (hK' : K ≤ 200)
    (hRC : ∀ {l l' v c}, RC l v c → (∀ q ∈ l, q ∈ l') → RC l' v c)
    (hS : 0 < deep → MadeSpec prog w p loose mean mg mb (deep - 1) H K RC) : MadeSpec prog w p loose mean mg mb deep (H + 20) (11 + 2 * K) (NdIn w.params RC) := by
  intro dp un gd cn cs a ccd cl outer A₀ base h₀ L m s Q E l rest jug cells vs zs turn t1 td n1 n2 B F X N T hk hd hu pk hc hne hi hlen h0 h1 ret
  have N := pk.news N
  clear pk
  k_extra "M:enterC"
  k_steps
  unfold Hold
  rename News _ _ _ _ => N9
  obtain ⟨es', hE', N'⟩ := made_clean N9 PNew.intro
  clear N9
  revert N'; refine PNew.elim (G := fun es => News _ _ _ (_ :: (_, dictOf es 16) :: _) → _) hE' ?_; intro v0 v1 v2 t0 t1 t2 t3 t4 t5 t6 _ _ _ _ _ _ _ _ _ _ _ _ _ _ _ _ N'
  rename _ < _ ∧ _ < _ ∧ _ < _ ∧ AllLt _ rest => g3
  rename _ < _ ∧ _ < _ ∧ _ < _ ∧ _ < _ ∧ _ < _ ∧ AllLt _ rest => g5
  rename _ < _ ∧ _ < _ ∧ _ < _ ∧ _ < _ ∧ _ < _ ∧ _ < _ ∧ _ < _ ∧ AllLt _ rest => g7
  rename _ < _ ∧ _ < _ ∧ _ < _ ∧ _ < _ ∧ _ < _ ∧ _ < _ ∧ _ < _ ∧ _ < _ ∧ AllLt _ rest => g8
  rename _ < _ ∧ _ < _ ∧ _ < _ ∧ _ < _ ∧ _ < _ ∧ _ < _ ∧ _ < _ ∧ _ < _ ∧ _ < _ ∧ AllLt _ rest => g9
  rename _ < _ ∧ _ < _ ∧ _ < _ ∧ _ < _ ∧ _ < _ ∧ _ < _ ∧ _ < _ ∧ _ < _ ∧ _ < _ ∧ _ < _ ∧ AllLt _ rest => g10
  rename @LT.lt Nat _ _ _ => hlx
  have od := low_off g3.2.2
  have ox := low_off2 g3.2.2 hlx
  have o1 := low_off g5.2.2.2.2
  have op := low_off g7.2.2.2.2.2.2
  have o2 := low_off g8.2.2.2.2.2.2.2
  have o3 := low_off g9.2.2.2.2.2.2.2.2
  have o4 := low_off g10.2.2.2.2.2.2.2.2.2
  have hB := jug_ne N' (by k_all)
  refine LCg.CompSrc.range rfl (by k_asm) (by k_asm) (by assumption) (small_of (by omega) (by omega)) (size_of (by omega)) (by rw [sizeLine_eq]; omega) (fun g => compRest_jug (fun i ys turn' => (∃ cs', All2 CIs ys cs') ∧ ys.length = i ∧ 0 ≤ turn' ∧ turn' ≤ turn + 1 + 3 * i) ⟨⟨[], .nil⟩, rfl, by omega, by omega⟩ ?cstep ?cend)
  case cstep =>
    rintro i ys turn' t' hi ⟨⟨cs', hcs⟩, hl, ht1, ht2⟩ v I oI C' oC D m₂ h tk E' hP hC hv F3 N3 hoff hne'
    have hb1 : turn' ≤ 990 := by clear hne'; omega
    have j1 : @Ne Nat I jug := Ne.symm hoff.1.1
    have j2 : @Ne Nat C' jug := Ne.symm hoff.1.2.1
    have j3 : @Ne Nat D jug := Ne.symm hoff.1.2.2
    clear g3 g5 g7 g8 g9 g10 hlx
    try k_fold
    k_steps
    unfold Hold
    refine LCg.CompEnd.intro (by assumption) (by assumption) _ (by kcf_all) (off3_swap hoff) trivial ⟨_, _, rfl, ⟨_, hcs.snoc (by assumption)⟩, by simp [hl], by k_extra "M:om", by k_extra "M:om"⟩
  case cend =>
    rintro ys turn' t' ⟨⟨cs', hcs⟩, hl, ht1, ht2⟩ D h tk F3 N3 ho
    have hb2 : turn' ≤ 1000 := by omega
    have hb3 : ys.length ≤ 3 := by omega
    obtain ⟨p1, p2, p3⟩ := id ho
    have dj : @Ne Nat D jug := Ne.symm p1
    have dd := @Ne.symm Nat _ _ p2
    have oc := off_offP p1 p3.2.2.2.2.2.2.2.2
    have hB := hB
    rcases Int.lt_or_eq_of_le hdeep with hdp | hdp
    · have hS : MadeSpec prog w p loose mean mg mb (deep - 1) H K RC := @hS hdp
      try k_fold
      k_steps
      unfold Hold
      rename News _ _ _ _ => N9
      have N9 := drop_seventh N9
      have hB2 := jug_ne2 N9 (by k_all)
      refine LCg.CompSrc.range rfl (by k_asm) (by k_asm) (by assumption) (small_of (by omega) (by omega)) (size_of (by omega)) (by rw [sizeLine_eq]; omega) (fun g => compRest_jugT (fun i ys2 turn' tl => (∃ ts', All2 (RC tl) ys2 ts') ∧ ys2.length = i ∧ 0 ≤ turn' ∧ (i = 0 → turn' ≤ turn + 11) ∧ (i ≤ 1 → turn' ≤ turn + 11 + K) ∧ turn' ≤ turn + 11 + 2 * K) ⟨⟨[], .nil⟩, rfl, by k_extra "M:om", by k_extra "M:om", by k_extra "M:om", by k_extra "M:om"⟩ ?dstep ?dend)
      case dstep =>
        rintro i ys2 turn'' t'' tl hi hf ⟨⟨ts', hts⟩, hl2, ht3, ht4, ht5, ht6⟩ v I oI C' oC D2 m₂ h tk E' hP hC hv F4 N4 hoff hne'
        have hf0 := hf
        have hb4 : turn'' + K ≤ 900 := by clear hne' p1 p2 p3 dj dd; omega
        have j1 : @Ne Nat I jug := Ne.symm hoff.1.1
        have j2 : @Ne Nat C' jug := Ne.symm hoff.1.2.1
        have j3 : @Ne Nat D2 jug := Ne.symm hoff.1.2.2
        have hc' := List.mem_append_right tl hc
        have hnb := hB2 tl fun q hq => hf q hq _ List.mem_cons_self
        clear g3 g5 g7 g8 g9 g10 hlx
        try k_fold
        k_steps
        unfold Hold
        refine jug_end (J := fun ys2 turn' tl => (∃ ts', All2 (RC tl) ys2 ts') ∧ ys2.length = i + 1 ∧ 0 ≤ turn' ∧ (i + 1 = 0 → turn' ≤ turn + 11) ∧ (i + 1 ≤ 1 → turn' ≤ turn + 11 + K) ∧ turn' ≤ turn + 11 + 2 * K) (by assumption) (by assumption) (by assumption) hoff hf0 ⟨⟨_, (hts.mono fun a b r => hRC r fun q hq => List.mem_append_right _ hq).snoc (hRC (by assumption) fun q hq => List.mem_append_left _ hq)⟩, by simp [hl2], by k_extra "M:om", by k_extra "M:om", by k_extra "M:om", by k_extra "M:om"⟩
      case dend =>
        rintro ys2 turn'' t'' tl hf ⟨⟨ts', hts⟩, hl2, ht3, ht4, ht5, ht6⟩ D2 h tk F4 N4 ho2
        have hf0 := hf
        have hnp := fun q hq => (List.mem_append.mp hq).elim (fun h => hf q h _ (List.mem_cons_of_mem _ (List.mem_cons_of_mem _ List.mem_cons_self))) (od.2 q)
        have hb5 : ys2.length ≤ 2 := by clear p1 p2 p3 dj dd; omega
        have hb6 : turn'' ≤ turn + (11 + 2 * K) := by clear p1 p2 p3 dj dd; omega
        obtain ⟨q1, q2, q3, q4⟩ := id ho2
        have ej : @Ne Nat D2 jug := Ne.symm q1
        have ed := @Ne.symm Nat _ _ q3
        have oq := off_offT q1 q4.2.2.2.2.2.2.2
        try k_fold
        k_steps
        rename Fr _ _ _ _ => F9
        rename News _ _ _ _ => N9
        refine' made_end (RC := RC) @hRC ret od ox oc oq o1 o2 o3 o4 (fresh_drop9 hf0) PNew.intro hcs hts ?z1 ?z2 ht3 ?top F9 (news_le N9 ?sub)
        case z1 => exact hb3
        case z2 => exact hb5
        case top => exact hb6
        case sub => kcf_all
    · clear hS
      try k_fold
      k_steps
      rename Fr _ _ _ _ => F9
      rename News _ _ _ _ => N9
      refine' made_end (RC := RC) @hRC ret od ox oc op o1 o2 o3 o4 (ys2 := []) (tl := []) (fun _ h => nomatch h) PNew.intro hcs .nil ?z1 ?z2 ht1 ?top F9 (news_le N9 ?sub)
      case z1 => exact hb3
      case z2 => exact Nat.zero_le _
      case top => k_extra "M:om"
      case sub => kcf_all
theorem madeS {C : Type} {RC : Led → Value → C → Prop} {deep : Int} {H : Nat} {K : Int} (hdeep : 0 < deep) (hdeep' : deep ≤ 5) (hK : 0 ≤ K) (hK' : K ≤ 200)
    (hRC : ∀ {l l' v c}, RC l v c → (∀ q ∈ l, q ∈ l') → RC l' v c)
    (hS : MadeSpec prog w p loose mean mg mb (deep - 1) H K RC) : MadeSpec prog w p loose mean mg mb deep (H + 20) (11 + 2 * K) (NdIn w.params RC) :=
  madeG (Int.le_of_lt hdeep) hdeep' hK hK' @hRC fun _ => @hS
theorem made0 {C : Type} {RC : Led → Value → C → Prop}
    (hRC : ∀ {l l' v c}, RC l v c → (∀ q ∈ l, q ∈ l') → RC l' v c) : MadeSpec prog w p loose mean mg mb 0 20 11 (NdIn w.params RC) :=
  madeG (deep := 0) (H := 0) (K := 0) (by decide) (by decide) (by decide) (by decide) @hRC fun h => @absurd _ (MadeSpec prog w p loose mean mg mb (0 - 1) 0 0 RC) h (by decide)
end
end Mine
end
section
theorem Mine.sayCnumbers : True := by
  k_with_none
  (k_with "M:ne" => first | assumption | omega)
  (k_with "M:all" => first | assumption | exact List.forall_mem_nil _ | (refine' Mine.ne_cons ?wa ?wb; (case wa => k_extra "M:ne"); (case wb => k_all)) | (refine' tbn_neAll ?wkah; (case wkah => k_extra "M:conj")))
  (k_with "M:upd" => first | (refine' Upd.head ?wa; (case wa => k_all)) | (refine' Mine.upd_tail ?wa ?wb; (case wa => k_extra "M:ne"); (case wb => k_upd)))
  (k_with "M:conj" => first | assumption | (refine' And.right ?_; assumption) | (refine' And.right (And.right ?_); assumption) | (refine' And.right (And.right (And.right ?_)); assumption) | (refine' And.right (And.right (And.right (And.right ?_))); assumption) | (refine' And.right (And.right (And.right (And.right (And.right ?_)))); assumption))
  (k_with "M:mem" => first | assumption | exact List.mem_cons_self | (refine' List.mem_cons_of_mem _ ?_; k_extra "M:mem"))
  (k_with "M:in" => first | assumption | exact Frag.In.keeps (by k_asm) (Fr.keep (by k_asm)))
  (k_with "M:news" => k_dflt k_mem)
  (k_with "M:enter" => (refine wpAny_call ?_; k_dflt ktr_enter))
  (k_with "M:enterC" => (refine wpAny_call ?_; k_dflt (refine' code_defC ?wk1 ?wk2 ?wk3 ?wk4 ?wk5 ?wkA ?kF ?kK ?wk6 ?wk7 ?wk8 ?wk9 ?kB ?wkD ?_ ?wc2 ?wc3 ?wc4; (case wkA => exact rfl); (case kF => exact rfl); (case kK => assumption); (case wk1 => k_asm); (case wk2 => k_asm); (case wk3 => k_asm); (case wk4 => k_asm); (case wk5 => k_asm); (case wk6 => k_is); (case wk7 => k_is); (case wk8 => ktr_room); (case wk9 => first | exact BindsTo.of_eq rfl | exact binds_K (by k_in) rfl (by k_is) rfl rfl rfl | fail "k_enter: no rule for these arguments"); (case kB => exact rfl); (case wkD => decide +kernel); (case wc2 => exact rfl); (case wc3 => exact rfl); (case wc4 => exact rfl); k_whole; intro wg' wL' wh' wtk' wcells' wFG' wF' wN' wY' wB' wX' wT' wl1; (try k_lt wl1); k_cells wY'; (try simp only [List.cons_append, List.nil_append] at wN'); (try dsimp only); (try k_lift wB'); (try k_fold))))
  (k_with "M:base" => ((case kB => k_asm); (case kF => k_asm); (case kX => k_asm); (case kN => k_asm); (case kT => k_asm); (case kK => first | exact rfl | assumption); (case kd => ktr_room); (case ku => ktr_units)))
  (k_with "M:pick" => first | exact Mine.Pick.head | (apply Mine.Pick.tail; k_extra "M:pick"))
  (k_with "M:room" => ktr_room)
  (k_with "call builtin:list.append" => (k_here; (with_reducible show wpAny _ _ (call (Value.builtin _) [Value.ref _, _]) _ _ _); k_dflt (refine' append_K ?wk1 ?wk2 ?wk3 ?_ ?wz; (case wk1 => k_asm); (case wk2 => k_asm); (case wk3 => k_upd); (case wz => first | size_fits | ((try simp only [List.size_toArray, sizeLine_eq]); omega)); k_whole); intro wh' wF' wN'; (try simp only [List.push_toArray] at wN'); (try k_sweep)))
  (k_with "M:enterD" => (refine wpAny_call ?_; k_dflt (refine' code_def ?wk1 ?wk2 ?wk3 ?wk4 ?wk5 ?wkA ?kF ?kK ?wk6 ?wk7 ?wk8 ?wk9 ?kB ?_ ?wc2 ?wc3 ?wc4 ?wc5; (case wkA => exact rfl); (case kF => exact rfl); (case kK => assumption); (case wk1 => k_asm); (case wk2 => k_asm); (case wk3 => k_asm); (case wk4 => k_asm); (case wk5 => k_asm); (case wk6 => k_is); (case wk7 => k_is); (case wk8 => ktr_room); (case wk9 => first | exact BindsTo.of_eq rfl | exact binds_K (by k_in) rfl (by k_is) rfl rfl rfl | fail "enterD: no rule for these arguments"); (case wc5 => decide); (case kB => exact locs rfl); (case wc2 => exact rfl); (case wc3 => exact rfl); (case wc4 => exact rfl); k_whole; intro wg' wL' wh' wFG' wF' wN' wB' wX' wT'; (try dsimp only); (try k_fold))))
  (k_with "exec For" => (k_here; (rename Fr _ _ _ _ => wlF'); (with_unfolding_all refine' For_invVF wlF' ?wk1 ?wk2 ?_; (case wk1 => exact rfl); (case wk2 => exact rfl); k_whole)))
  (k_with "exec For Name Attribute cons nil" => (walk_at "exec For"))
  (k_with "M:pyIter ref" => ((with_reducible show wpAny _ _ (pyIter (Value.ref _)) (fun it s₂ => LoopAtV _ _ _ _ _ _ _ _ _ it s₂) _ _); k_here; k_dflt (refine' iter_listUnr ?whh ?wF ?wN ?whm ?whc ?whd ?_; (case whh => rfl); (case wF => k_asm); (case wN => k_asm); (case whm => k_mem); (case whc => rfl); (case whd => rfl); k_whole); intro wI' wl1; (try k_lt wl1)))
  (k_with "call builtin:len" => (k_here; (with_reducible show wpAny _ _ (call (Value.builtin "len") [Value.ref _]) _ _ _); k_dflt (refine' Mine.len_led ?wN ?wm ?wz ?_; (case wN => k_asm); (case wm => k_mem); (case wz => first | (simp only [List.length_nil]; omega) | omega | decide); k_whole); intro wt' wtk'; (try simp only [List.length_nil])))
  (k_with "UnrEnd" => refine Mine.unhold ?_)
  (k_with "eval ListComp" => (k_here; k_dflt (refine LCg.ListComp_U (F₀ := by k_asm) (by with_unfolding_all rfl) (by decide) (by rfl) (by decide) (by rfl) ?_)))
  (k_with "CompSrc" => refine Mine.unhold ?_)
  (k_with "CompEnd" => refine Mine.unhold ?_)
  (k_with "M:sub" => first | kcf_all | (refine' Mine.sub_trans ?wh1 ?wh2; (case wh1 => assumption); (case wh2 => kcf_all)))
  (k_with "M:all" => first | assumption | exact List.forall_mem_nil _ | (refine' Mine.ne_cons ?wa ?wb; (case wa => k_extra "M:ne"); (case wb => k_all)) | (refine' Mine.off1_ne ?wkah; (case wkah => k_extra "M:conj")))
  (k_with "ListRest" => refine Mine.unhold ?_)
  (k_with "CompSrcT" => refine Mine.unhold ?_)
  (k_with "exec Assign cons ListComp" => (k_here; k_dflt (refine LCt.Assign_ListComp_T (F₀ := by k_asm) (by rfl) (by with_unfolding_all rfl) (by with_unfolding_all rfl) (by decide) (by rfl) (by decide) (by rfl) (by rfl) (by rfl) ?_)))
  (k_with "call ref" => (k_here; (with_reducible show wpAny _ _ (call (Value.ref 432) _) _ _ _); k_dflt (rename NumSpec _ _ _ _ _ _ _ _ _ _ _ => whS; refine' whS _ _ _ _ _ _ _ _ _ _ _ _ _ _ _ _ _ _ _ _ _ ?kB ?kF ?kX ?kN ?kT ?kK ?kd ?ku ?wk1 ?wk2 ?_; k_extra "M:base"; (case wk1 => assumption); (case wk2 => k_extra "M:sub")); intro wr' wvs' wn' wh' wtk' whi' whl' wl1 wF' wN'; (try simp only [Off1, and_true] at wl1); (try k_fold)))
  (k_with "call builtin:list.extend" => (k_here; k_dflt (refine' ext_led ?wF ?wN ?wp ?wn ?wb ?wz ?_; (case wF => k_asm); (case wN => k_asm); (case wb => k_mem); (case wp => k_extra "M:pick"); (case wn => k_all); (case wz => omega); k_whole); intro wh' wn' wF' wN'; (try k_fold)))
  trivial
namespace Mine
section
variable {prog : Program} {w : World} {p : Program} {loose : List Str} {mean : ExcName → Option Value} {mg mb : Str → Option Value}
variable {dp un : Nat} {gd : Option (List Code)} {cn : Str} {cs : Scope} {a : Addr} {ccd : Value} {cl : List (Str × Addr)} {outer : List Env} {A₀ : Around} {base h₀ : Heap} {L : Addr} {m : Str → Option Value} {s : Shared} {Q E : Value → Shared → Prop} {l rest : Led}
open PyProof.Rows.LCg PyProof.Rows.LCt
theorem numbers {C : Type} {RC : Led → Value → C → Prop} {f : C → List Int} {H K : Nat} (hK : K ≤ 400)
    (hS : NumSpec prog w p loose mean mg mb H K RC f) : NumSpec prog w p loose mean mg mb (H + 10) (3 + 2 * K) (NdIn w.params RC) (numN f) := by
  intro dp un gd cn cs a ccd cl outer A₀ base h₀ L m s Q E l l₀ v nd B F X N T hk hd hu hT hsub ret
  refine NdIn.elim (G := fun v => wpAny _ _ (call _ [v]) _ _ _) hT ?_
  intro a1 da l1 lc lp l2 l3 l4 nx0 n1 n2 n3 n4 n5 n6 cvs pvs v0 v1 v2 t0 t9 t10 t3 t4 t5 t6 _ _ _ _ _ _ _ _ _ _ _ _ _ _ _ _ hT m1 m2 m4 m5 m6 m7 m8 m9 hc ht z1 z2
  have m1 := hsub _ m1
  have m2 := hsub _ m2
  have m5 := hsub _ m5
  have m6 := hsub _ m6
  have hcl := hc.len
  have htl := ht.len
  k_extra "M:enter"
  k_steps
  unfold Hold
  refine CompSrcT.ledger (its := cvs.toArray) rfl (by k_asm) (by k_asm) (by k_mem) (by rw [sizeLine_eq, List.size_toArray]; omega) (fun g => compRestT_keep (fun i ys => IntsAre ys (numC (nd.cs.take i))) .nil (.inr ⟨_, by k_mem, rfl, _, rfl⟩) ?cstep ?cend)
  case cstep =>
    intro i ys hi hys hSS v I oI C oC D m₂ h tk E' hP hC hv F3 N3 hoff hne
    obtain ⟨c, hc1, hc2⟩ := hc.get (i := i) (by simpa using hP)
    rw [take_succ hc1, numC_snoc]
    cases hc2
    all_goals try k_fold
    all_goals k_steps
    all_goals (unfold Hold; first
      | exact CompEnd.intro (by assumption) (by assumption) _ (fun q hq => hq) hoff hSS ⟨rfl, ints_app hys (.cons _ _ .nil)⟩
      | exact CompEnd.intro (by assumption) (by assumption) _ (fun q hq => hq) hoff hSS ⟨rfl, by simpa [numC] using hys⟩)
  case cend =>
    intro ys hys
    rw [show nd.cs.take cvs.toArray.size = nd.cs by rw [List.size_toArray, hcl, List.take_length]] at hys
    intro D h tk F3 N3 ho
    k_steps
    unfold Hold
    have hoD := off1_ne ho
    have hyl : ys.length ≤ 3 := by have h1 := hys.length; have h2 := numC_len nd.cs; omega
    refine listRest_ind (fun pre nw => ∃ ys' n' c1 c2, nw = (D, listOf ys'.toArray n') :: l ∧ nd.ts = c1 ++ c2 ∧ c1.length = pre.length ∧ IntsAre ys' (numC nd.cs ++ c1.flatMap f) ∧ ys'.length ≤ 3 + K * c1.length)
      ⟨ys, _, [], nd.ts, rfl, rfl, rfl, by simpa using hys, by simp only [List.length_nil]; omega⟩ (by k_mem) (by k_all) ?step ?done
    case step =>
      rintro pre v post nw it h tk e ⟨ys', n', c1, c2, rfl, e1, e2, hys2, hyl2⟩ hlp hI F4 N4
      obtain ⟨b1, b, b2, e3, e4, hb⟩ := All2.split (e ▸ ht)
      obtain ⟨rfl, rfl⟩ := List.append_inj (e1.symm.trans e3) (by omega)
      have hc3 : c1.length + 1 ≤ 2 := by have := congrArg List.length e1; simp only [List.length_append, List.length_cons] at this; omega
      have hm3 : K * c1.length ≤ K * 1 := Nat.mul_le_mul_left _ (by omega)
      try k_fold
      k_steps
      unfold Hold
      refine end_dr (by assumption) (by assumption) (by k_all) ⟨List.mem_cons_of_mem _ (by assumption), rfl, _, _, c1 ++ [b], b2, rfl, by rw [e1]; simp, by simp [e2], ?_, ?_⟩
      · simp only [List.flatMap_append, List.flatMap_cons, List.flatMap_nil, List.append_nil, ← List.append_assoc]
        exact ints_app hys2 (by assumption)
      · simp only [List.length_append, List.length_cons, List.length_nil, Nat.mul_add, Nat.mul_one]
        omega
    case done =>
      rintro nw h tk u ⟨ys', n', c1, c2, rfl, e1, e2, hys2, hyl2⟩ F4 N4
      have hc2 : c2 = [] := by
        have := congrArg List.length e1
        rw [List.length_append] at this
        exact List.eq_nil_of_length_eq_zero (by omega)
      subst hc2
      rw [List.append_nil] at e1
      subst e1
      have hm3 : K * nd.ts.length ≤ K * 2 := Nat.mul_le_mul_left _ z2
      try k_fold
      k_steps
      exact ret _ _ _ _ _ hys2 (by omega) ho (by assumption) (by assumption)
end
end Mine
end
section
theorem Mine.sayCfits : True := by
  k_with_none
  (k_with "M:ne" => first | assumption | omega)
  (k_with "M:all" => first | assumption | exact List.forall_mem_nil _ | (refine' Mine.ne_cons ?wa ?wb; (case wa => k_extra "M:ne"); (case wb => k_all)) | (refine' tbn_neAll ?wkah; (case wkah => k_extra "M:conj")))
  (k_with "M:upd" => first | (refine' Upd.head ?wa; (case wa => k_all)) | (refine' Mine.upd_tail ?wa ?wb; (case wa => k_extra "M:ne"); (case wb => k_upd)))
  (k_with "M:conj" => first | assumption | (refine' And.right ?_; assumption) | (refine' And.right (And.right ?_); assumption) | (refine' And.right (And.right (And.right ?_)); assumption) | (refine' And.right (And.right (And.right (And.right ?_))); assumption) | (refine' And.right (And.right (And.right (And.right (And.right ?_)))); assumption))
  (k_with "M:mem" => first | assumption | exact List.mem_cons_self | (refine' List.mem_cons_of_mem _ ?_; k_extra "M:mem"))
  (k_with "M:in" => first | assumption | exact Frag.In.keeps (by k_asm) (Fr.keep (by k_asm)))
  (k_with "M:news" => k_dflt k_mem)
  (k_with "M:enter" => (refine wpAny_call ?_; k_dflt ktr_enter))
  (k_with "M:enterC" => (refine wpAny_call ?_; k_dflt (refine' code_defC ?wk1 ?wk2 ?wk3 ?wk4 ?wk5 ?wkA ?kF ?kK ?wk6 ?wk7 ?wk8 ?wk9 ?kB ?wkD ?_ ?wc2 ?wc3 ?wc4; (case wkA => exact rfl); (case kF => exact rfl); (case kK => assumption); (case wk1 => k_asm); (case wk2 => k_asm); (case wk3 => k_asm); (case wk4 => k_asm); (case wk5 => k_asm); (case wk6 => k_is); (case wk7 => k_is); (case wk8 => ktr_room); (case wk9 => first | exact BindsTo.of_eq rfl | exact binds_K (by k_in) rfl (by k_is) rfl rfl rfl | fail "k_enter: no rule for these arguments"); (case kB => exact rfl); (case wkD => decide +kernel); (case wc2 => exact rfl); (case wc3 => exact rfl); (case wc4 => exact rfl); k_whole; intro wg' wL' wh' wtk' wcells' wFG' wF' wN' wY' wB' wX' wT' wl1; (try k_lt wl1); k_cells wY'; (try simp only [List.cons_append, List.nil_append] at wN'); (try dsimp only); (try k_lift wB'); (try k_fold))))
  (k_with "M:base" => ((case kB => k_asm); (case kF => k_asm); (case kX => k_asm); (case kN => k_asm); (case kT => k_asm); (case kK => first | exact rfl | assumption); (case kd => ktr_room); (case ku => ktr_units)))
  (k_with "M:pick" => first | exact Mine.Pick.head | (apply Mine.Pick.tail; k_extra "M:pick"))
  (k_with "M:room" => ktr_room)
  (k_with "call builtin:list.append" => (k_here; (with_reducible show wpAny _ _ (call (Value.builtin _) [Value.ref _, _]) _ _ _); k_dflt (refine' append_K ?wk1 ?wk2 ?wk3 ?_ ?wz; (case wk1 => k_asm); (case wk2 => k_asm); (case wk3 => k_upd); (case wz => first | size_fits | ((try simp only [List.size_toArray, sizeLine_eq]); omega)); k_whole); intro wh' wF' wN'; (try simp only [List.push_toArray] at wN'); (try k_sweep)))
  (k_with "M:enterD" => (refine wpAny_call ?_; k_dflt (refine' code_def ?wk1 ?wk2 ?wk3 ?wk4 ?wk5 ?wkA ?kF ?kK ?wk6 ?wk7 ?wk8 ?wk9 ?kB ?_ ?wc2 ?wc3 ?wc4 ?wc5; (case wkA => exact rfl); (case kF => exact rfl); (case kK => assumption); (case wk1 => k_asm); (case wk2 => k_asm); (case wk3 => k_asm); (case wk4 => k_asm); (case wk5 => k_asm); (case wk6 => k_is); (case wk7 => k_is); (case wk8 => ktr_room); (case wk9 => first | exact BindsTo.of_eq rfl | exact binds_K (by k_in) rfl (by k_is) rfl rfl rfl | fail "enterD: no rule for these arguments"); (case wc5 => decide); (case kB => exact locs rfl); (case wc2 => exact rfl); (case wc3 => exact rfl); (case wc4 => exact rfl); k_whole; intro wg' wL' wh' wFG' wF' wN' wB' wX' wT'; (try dsimp only); (try k_fold))))
  (k_with "exec For" => (k_here; (rename Fr _ _ _ _ => wlF'); (with_unfolding_all refine' For_invVF wlF' ?wk1 ?wk2 ?_; (case wk1 => exact rfl); (case wk2 => exact rfl); k_whole)))
  (k_with "exec For Name Attribute cons nil" => (walk_at "exec For"))
  (k_with "M:pyIter ref" => ((with_reducible show wpAny _ _ (pyIter (Value.ref _)) (fun it s₂ => LoopAtV _ _ _ _ _ _ _ _ _ it s₂) _ _); k_here; k_dflt (refine' iter_listUnr ?whh ?wF ?wN ?whm ?whc ?whd ?_; (case whh => rfl); (case wF => k_asm); (case wN => k_asm); (case whm => k_mem); (case whc => rfl); (case whd => rfl); k_whole); intro wI' wl1; (try k_lt wl1)))
  (k_with "call builtin:len" => (k_here; (with_reducible show wpAny _ _ (call (Value.builtin "len") [Value.ref _]) _ _ _); k_dflt (refine' Mine.len_led ?wN ?wm ?wz ?_; (case wN => k_asm); (case wm => k_mem); (case wz => first | (simp only [List.length_nil]; omega) | omega | decide); k_whole); intro wt' wtk'; (try simp only [List.length_nil])))
  (k_with "UnrEnd" => refine Mine.unhold ?_)
  (k_with "eval ListComp" => (k_here; k_dflt (refine LCg.ListComp_U (F₀ := by k_asm) (by with_unfolding_all rfl) (by decide) (by rfl) (by decide) (by rfl) ?_)))
  (k_with "CompSrc" => refine Mine.unhold ?_)
  (k_with "CompEnd" => refine Mine.unhold ?_)
  (k_with "M:sub" => first | kcf_all | (refine' Mine.sub_trans ?wh1 ?wh2; (case wh1 => assumption); (case wh2 => kcf_all)))
  (k_with "ListRest" => refine Mine.unhold ?_)
  (k_with "M:bools" => assumption)
  (k_with "call ref" => (k_here; (with_reducible show wpAny _ _ (call (Value.ref 222) _) _ _ _); k_dflt (rename FitSpec _ _ _ _ _ _ _ _ _ _ _ _ => whS; refine' whS _ _ _ _ _ _ _ _ _ _ _ _ _ _ _ _ _ _ _ _ _ _ _ _ _ ?kB ?kF ?kX ?kN ?kT ?kK ?kd ?ku ?wk0 ?wk1 ?wk2 ?_; k_extra "M:base"; (case wk0 => k_mem); (case wk1 => assumption); (case wk2 => k_extra "M:sub")); intro wb' wh' wtk' whb' wF' wN'; (try k_fold)))
  trivial
namespace Mine
section
variable {prog : Program} {w : World} {p : Program} {loose : List Str} {mean : ExcName → Option Value} {mg mb : Str → Option Value}
variable {dp un : Nat} {gd : Option (List Code)} {cn : Str} {cs : Scope} {a : Addr} {ccd : Value} {cl : List (Str × Addr)} {outer : List Env} {A₀ : Around} {base h₀ : Heap} {L : Addr} {m : Str → Option Value} {s : Shared} {Q E : Value → Shared → Prop} {l rest : Led}
open PyProof.Rows.LCg
theorem fits {C : Type} {RC : Led → Value → C → Prop} {fit : C → Prop} {H : Nat} {ls ns : Int} (hns : 1 ≤ ns) (hns' : ns ≤ 8)
    (hS : FitSpec prog w p loose mean mg mb ls ns H RC fit) : FitSpec prog w p loose mean mg mb ls ns (H + 10) (NdIn w.params RC) (NFits ns fit) := by
  intro dp un gd cn cs a ccd cl outer A₀ base h₀ L m s Q E l l₀ sz t1 t2 n v nd B F X N T hk hd hu hz hT hsub ret
  refine NdIn.elim (G := fun v => wpAny _ _ (call _ [v, _]) _ _ _) hT ?_
  intro a1 da l1 lc lp l2 l3 l4 nx0 n1 n2 n3 n4 n5 n6 cvs pvs v0 v1 v2 t0 t9 t10 t3 t4 t5 t6 _ _ _ _ _ _ _ _ _ _ _ _ _ _ _ _ hT m1 m2 m4 m5 m6 m7 m8 m9 hc ht z1 z2
  have m1 := hsub _ m1
  have m2 := hsub _ m2
  have m5 := hsub _ m5
  have m6 := hsub _ m6
  have hcl := hc.len
  have htl := ht.len
  k_extra "M:enterC"
  k_steps
  unfold Hold
  refine listRest_keep (fun pre => ∃ c1 c2, nd.cs = c1 ++ c2 ∧ c1.length = pre.length ∧ ∀ c ∈ c1, CFits ns c) ⟨[], nd.cs, rfl, rfl, fun _ h => nomatch h⟩ (by k_mem) (by k_all) ?step ?done
  case step =>
    rintro pre v post it h tk e ⟨c1, c2, e1, e2, hf⟩ hI F2 N2
    obtain ⟨b1, b, b2, e3, e4, hb⟩ := All2.split (e ▸ hc)
    obtain ⟨rfl, rfl⟩ := List.append_inj (e1.symm.trans e3) (by omega)
    have hin : b ∈ nd.cs := by rw [e1]; simp
    have hnext : CFits ns b → ∃ d1 d2, nd.cs = d1 ++ d2 ∧ d1.length = (pre ++ [v]).length ∧ ∀ c ∈ d1, CFits ns c := fun hx => ⟨c1 ++ [b], b2, by rw [e1]; simp, by simp [e2], fun c hc' => by
      rcases List.mem_append.mp hc' with h | h
      · exact hf c h
      · rw [List.mem_singleton.mp h]; exact hx⟩
    cases hb
    all_goals try k_fold
    all_goals k_steps
    all_goals first
      | (unfold Hold; exact UnrEnd.intro (by assumption) (by assumption) _ (fun q hq => hq) (by assumption) ⟨rfl, rfl, hnext trivial⟩)
      | (unfold Hold; exact UnrEnd.intro (by assumption) (by assumption) _ (fun q hq => hq) (by assumption) ⟨rfl, rfl, hnext ⟨by assumption, by assumption⟩⟩)
      | exact ret _ _ _ ⟨(fun h => by cases h), fun hh => absurd (hh.1 _ hin).1 (by assumption)⟩ (by assumption) (news_le (by assumption) (by kcf_all))
      | exact ret _ _ _ ⟨(fun h => by cases h), fun hh => absurd (hh.1 _ hin).2 (by assumption)⟩ (by assumption) (news_le (by assumption) (by kcf_all))
  case done =>
    rintro h tk u ⟨c1, c2, e1, e2, hf⟩ F2 N2
    have hc2 : c2 = [] := by
      have := congrArg List.length e1
      rw [List.length_append] at this
      exact List.eq_nil_of_length_eq_zero (by omega)
    subst hc2
    rw [List.append_nil] at e1
    subst e1
    try k_fold
    k_steps
    unfold Hold
    refine CompSrc.ledger (its := pvs.toArray) rfl (by k_asm) (by k_asm) (by k_mem) (by rw [sizeLine_eq, List.size_toArray]; omega) (fun g => compRest_keep (fun i ys => ∃ bs, LSm.BoolsAre ys bs ∧ All2 (fun (b : Bool) c => b = true ↔ fit c) bs (nd.ts.take i)) ⟨[], .nil, .nil⟩ (.inr ⟨_, by k_mem, rfl, _, rfl⟩) ?cstep ?cend)
    case cstep =>
      rintro i ys hi ⟨bs, hbs, hal⟩ hSS v I oI C oC D m₂ h tk E' hP hC hv F3 N3 hoff hne
      obtain ⟨c, hc1, hc2⟩ := ht.get (i := i) (by simpa using hP)
      try k_fold
      k_steps
      unfold Hold
      exact CompEnd.intro (by assumption) (by assumption) _ (fun q hq => hq) hoff hSS ⟨rfl, bs ++ [_], bools_snoc hbs, by rw [take_succ hc1]; exact hal.snoc (by assumption)⟩
    case cend =>
      rintro ys ⟨bs, hbs, hal⟩
      rw [show nd.ts.take pvs.toArray.size = nd.ts by rw [List.size_toArray, htl, List.take_length]] at hal
      intro D h tk F3 N3 ho
      k_steps
      exact ret _ _ _ ⟨fun hh => ⟨hf, (all_iff hal).mp hh⟩, fun hh => (all_iff hal).mpr hh.2⟩ (by assumption) (news_le (by assumption) (by kcf_all))
end
end Mine
end
section
namespace Mine
open PySem.Calls Builtin Builtin.ObjectAttr
abbrev exoD (C t : Addr) (d : Option Addr) : Obj := { cls := .ref C, dict := d, data := .fields #[.ref t, .none, .none, .none, .bool false, .none] }
section
variable {prog : Program} {w : World} {A : Around} {E : Value → Shared → Prop} {h : Heap} {g : Array GenState} {d : Drawn} {t : Nat} {os : OsState}
variable {nm q : Str} {C N : Addr} {bs bm : List Value} {hdct : Bool} {sn : List Str} {sub : List Value} {ab : Bool} {col : Option Bool} {dd : Option Addr} {k0 k1 k2 k3 k5 : Option Value} {B newId initId : String}
theorem type_call_own (F : ExcBaseFacts B newId initId bm) {mN : Str → Option Value} {rest : List Value} {f : Addr} {Q : Fin → Shared → Prop}
    (hC : h.get? C = some (excClassObj nm q C N bs bm hdct sn sub ab col dd k0 k1 k2 k3 k5 newId)) (hn : h.Ns N mN) (hni : mN "__init__" = some (.ref f))
    (hb : ∀ self, Looks (model prog w) h (bindSpecial (.ref f) self) (.ref f, [self]))
    (hq : codeAny (model prog w) A (.call (.ref f) ⟨.ref (h.objs.size + 1) :: rest, []⟩) (InitBack (h.objs.size + 1) fun r s' => match r with | .ok f => Q (.done f) s' | .error e => E e s')
      ⟨(h.push { cls := .type "tuple", data := .seq rest.toArray }).push (exoD C h.objs.size none), g, d, t, os⟩) (hrest : rest.length ≤ sizeLine) :
    wpAny (model prog w) A (Builtin.«type.__call__» ⟨.ref C :: rest, []⟩) Q E ⟨h, g, d, t, os⟩ := by
  repeat (first | with_reducible refine wpAny_loadPart_at hC ?_ | with_reducible refine wpAny_madeBy_exc hC ?_ | wp_step)
  refine codeAny_call_builtin_code (Code.quiet_builtin _ F.quiet) (wpAny_check_new_sub F hC ?_)
  refine codeAny_exc_new_sub F hC ?_ hrest
  show wpAny _ _ _ _ _ _
  have kk : ∀ b o, h.get? b = some o → ((h.push { cls := .type "tuple", data := .seq rest.toArray }).push (exoD C h.objs.size none)).get? b = some o := fun b o e => Heap.get?_push_of_some _ (Heap.get?_push_of_some _ e)
  have hC₁ := kk _ _ hC
  have hn₁ : ((h.push { cls := .type "tuple", data := .seq rest.toArray }).push (exoD C h.objs.size none)).Ns N mN :=
    let ⟨o, es, ep, e, r⟩ := hn; ⟨o, es, ep, kk _ _ e, r⟩
  have hget : ((h.push { cls := .type "tuple", data := .seq rest.toArray }).push (exoD C h.objs.size none)).get? (h.objs.size + 1) = some (exoD C h.objs.size none) := by heap_get
  have hcC : (Value.ref C :: bm).contains (.ref C) = true := by simp
  have hb₁ := (hb (.ref (h.objs.size + 1))).keeps kk
  unfold isInstance
  repeat (first | with_reducible refine wpAny_loadPart_at hget ?_ | (with_reducible refine wpAny_isSubtype_exc hC₁ ?_; rw [hcC]) | wp_step)
  show wpAny _ _ (typeLookup (.ref C) _) _ _ _
  refine wpAny_typeLookup_exc hC₁ hn₁ F.mroIs F.init.lookup ?_
  rw [hni]
  refine wpAny_holding (wpAny_bind (hb₁.here ?_))
  refine wpAny_bind (wpAny_call (codeAny_mono hq fun r s' z => ?_))
  rcases r with e | (v | _ | _ | _) <;> first | exact z | exact z.elim | skip
  obtain ⟨rfl, z⟩ := z
  exact wpAny_pure (wpAny_pure z)
theorem call_own_exc (F : ExcBaseFacts B newId initId bm) {mN : Str → Option Value} {rest : List Value} {f : Addr} {R : Result → Shared → Prop}
    (hC : h.get? C = some (excClassObj nm q C N bs bm hdct sn sub ab col dd k0 k1 k2 k3 k5 newId)) (hn : h.Ns N mN) (hni : mN "__init__" = some (.ref f))
    (hb : ∀ self, Looks (model prog w) h (bindSpecial (.ref f) self) (.ref f, [self]))
    (hq : codeAny (model prog w) (A.under (.builtin "type.__call__" ⟨.ref C :: rest, []⟩)) (.call (.ref f) ⟨.ref (h.objs.size + 1) :: rest, []⟩) (InitBack (h.objs.size + 1) R)
      ⟨(h.push { cls := .type "tuple", data := .seq rest.toArray }).push (exoD C h.objs.size none), g, d, t, os⟩) (hrest : rest.length ≤ sizeLine) :
    codeAny (model prog w) A (.call (.ref C) ⟨rest, []⟩) R ⟨h, g, d, t, os⟩ := by
  have f1 := tc_lookup
  have f2 := tc_bind (.ref C)
  have hT : (⟨h, g, d, t, os⟩ : Shared).TypeIs (.ref C) "type" := ⟨_, hC, rfl⟩
  refine codeAny_of_tree ?_
  show wpAny _ _ (callAny (.ref C) _) _ _ _
  repeat (any_goals (first | assumption | with_reducible refine wpAny_loadPart_at hC ?_ | wp_step))
  refine ⟨rfl, ?_⟩
  refine codeAny_call_builtin_at (Code.quiet_builtin _ (by decide +kernel)) entry_typeCall (wpAny_check_type_call_sub hC (type_call_own (hrest := hrest) F hC hn hni hb ?_))
  refine codeAny_mono hq fun r s' z => ?_
  rcases r with e | (v | _ | _ | _) <;> exact z
end
end Mine
end
section
namespace Mine
open PySem.Calls Builtin Builtin.ObjectAttr
theorem ns_some_of {K : Frag} {h : Heap} {N : Addr} {mm : Str → Option Value} {n : Str} {v : Value} (X : K.In h) (G : h.Ns N mm) (e : nsIn K N n = some (some v)) : mm n = some v := by
  obtain ⟨o, es, ep, ho, hd, _, hf⟩ := G
  unfold nsIn at e
  split at e
  · rename_i c d es' n' sl q
    have := X _ _ q
    rw [ho] at this
    cases this
    cases hd
    split at e
    · rename_i en he
      cases e
      rw [← hf]
      unfold nsFind findBy
      rw [← Array.find?_toList, he]
      rfl
    · split at e <;> cases e
  · cases e
abbrev badCls : Obj := excClassObj (Str.ofString "BadDump") (Str.ofString "BadDump") 53 52 [.type "Exception"] [.type "Exception", .type "BaseException", .type "object"] true [] [] false none none (some (.ref 37)) none (some (.str (Str.ofString "BadDump") 255)) (some (.str (Str.ofString "BadDump") 263)) (some (.bool true)) "Exception.__new__"
/-- what the written part says of the exception's class -/
structure BadIn (K : Frag) : Prop where
  cls : K.lookup 53 = some badCls
  ok : nsOkIn K 52 = true
  init : nsIn K 52 "__init__" = some (some (.ref 50))
  fn : typeIn K (.ref 50) = some (.type "function")
  nosa : nsIn K 52 "__setattr__" = some none
  notext : nsIn K 52 "text" = some none
theorem badIn (P : Params) : BadIn (hd.heap_1 P) where
  cls := by k_is
  ok := by kernel_rfl
  init := by k_is
  fn := by k_is
  nosa := by k_is
  notext := by k_is
theorem text_free : typeLookup (.type "Exception") "text" = pure none := by rw [typeLookup_type, builtinLookup_eq_fast]; kernel_rfl
section
variable {prog : Program} {w : World} {A : Around} {E : Value → Shared → Prop} {s : Shared} {K : Frag} {h₀ : Heap} {L : Addr} {m : Str → Option Value} {l rest : Led}
theorem make_bad {v : Value} {Q : Value → Shared → Prop} (F : Fr h₀ L s.heap m) (X : K.In h₀) (N : News h₀ L s.heap l) (hB : BadIn K)
    (h : ∀ x t h', Fr h₀ L h' m → News h₀ L h' ((x, exoD 53 t none) :: l) → (∀ p ∈ l, p.1 < x) →
      codeAny (model prog w) (A.under (.builtin "type.__call__" ⟨.ref 53 :: [v], []⟩)) (.call (.ref 50) ⟨.ref x :: [v], []⟩) (InitBack x fun r s' => match r with | .ok (.ret v) => Q v s' | .ok _ => False | .error e => E e s') { s with heap := h' }) :
    wpAny (model prog w) A (call (.ref 53) [v]) Q E s := by
  obtain ⟨hh, g, d, t, os⟩ := s
  have Xh := X.keeps F.keep
  have hN := Heap.Ns.of_isNs (isNs_of_in Xh hB.ok)
  refine wpAny_call (call_own_exc PySem.F.excBase_Exception (Xh _ _ hB.cls) hN (ns_some_of Xh hN hB.init) (fun self => bind_fn Xh self hB.fn) (h (hh.objs.size + 1) hh.objs.size _ ((F.push _).push _) ?_ (fun p hp => Nat.lt_succ_of_lt (Heap.lt_size (N p hp).1))) (by simp [sizeLine_eq]))
  have := (News.push F N { cls := .type "tuple", data := .seq [v].toArray }).push (F.push _) (exoD 53 hh.objs.size none)
  rw [Heap.size_push] at this
  intro q hq
  rcases List.mem_cons.mp hq with rfl | hq
  · exact this _ List.mem_cons_self
  · exact this _ (List.mem_cons_of_mem _ (List.mem_cons_of_mem _ hq))
theorem exc_set {x t : Addr} {v : Value} {Q : Unit → Shared → Prop} (F : Fr h₀ L s.heap m) (X : K.In h₀) (N : News h₀ L s.heap ((x, exoD 53 t none) :: rest)) (hB : BadIn K) (hne : ∀ q ∈ rest, q.1 ≠ x)
    (h : ∀ h' tk' o, o.cls = .ref 53 → o.data = .fields #[.ref t, .none, .none, .none, .bool false, .none] → Fr h₀ L h' m → News h₀ L h' ((x, o) :: rest) → Q () { s with heap := h', toks := tk' }) :
    wpAny (model prog w) A (setAttr (.ref x) "text" v) Q E s := by
  obtain ⟨hh, g, d, tk, os⟩ := s
  have Xh := X.keeps F.keep
  have hN := Heap.Ns.of_isNs (isNs_of_in Xh hB.ok)
  have hx := N _ List.mem_cons_self
  have hx53 : x ≠ 53 := fun e => by have := X _ _ hB.cls; rw [← e, hx.2.2] at this; cases this
  refine store_attr (mA := fun _ => none) PySem.F.store_Exception (Xh _ _ hB.cls) hN (ns_none_of Xh hN hB.nosa) (ns_none_of Xh hN hB.notext) text_free hx53 ⟨_, hx.1, rfl, (fun c e => nomatch e), .inl ⟨rfl, fun _ => rfl⟩⟩ (fun h' tk' _ hk ho => ?_) Within.nil (by simp [sizeLine_eq])
  obtain ⟨o₁, e1, e2, e3, e4, _⟩ := ho _ hx.1
  have kk : ∀ b o, b ≠ x → hh.get? b = some o → h'.get? b = some o := fun b o hb e => hk b o hb (fun o₀ dx q1 q2 => by rw [hx.1] at q1; cases q1; cases q2) e
  obtain ⟨oL, es, ep, hL, r⟩ := F.ns
  refine h h' tk' o₁ e2 e3 ⟨⟨oL, es, ep, kk _ _ (Ne.symm hx.2.1) hL, r⟩, fun b o e => kk b o (fun q => by rw [q, hx.2.2] at e; cases e) (F.keep b o e), F.above⟩ fun q hq => ?_
  rcases List.mem_cons.mp hq with rfl | hq'
  · exact ⟨e1, hx.2⟩
  · have z := N q (List.mem_cons_of_mem _ hq')
    exact ⟨kk _ _ (hne q hq') z.1, z.2⟩
end
section
variable {M : Model} {A : Around} {E : Value → Shared → Prop} {s : Shared} {env : Env}
theorem raiseStmt_made {s : Shared} {x : Sem Value} {Q : Flow → Shared → Prop} (hh : A.handled = none)
    (h : wpAny M A x (fun v s₁ => ∃ e t o, v = .ref e ∧ s₁.heap.get? 53 = some badCls ∧
      s₁.heap.get? e = some o ∧ o.cls = .ref 53 ∧ o.data = .fields #[.ref t, .none, .none, .none, .bool false, .none] ∧ E (.ref e) s₁) E s) :
    wpAny M A (raiseStmt env (some x) none) Q E s := by
  have hcB : (Value.ref 53 :: [.type "Exception", .type "BaseException", .type "object"]).contains (.type "BaseException") = true := by decide
  unfold raiseStmt
  refine wpAny_bind (wpAny_mono h (fun v s₁ h₁ => ?_) fun _ _ x => x)
  obtain ⟨e, t, o, rfl, hC, he, hoc, hod, hE⟩ := h₁
  obtain ⟨oc, od, odt, osl⟩ := o
  dsimp only at hoc hod
  subst hoc hod
  obtain ⟨hp, g, d, tk, os⟩ := s₁
  repeat (first | with_reducible refine wpAny_loadPart_at he ?_ | with_reducible refine wpAny_loadPart_at hC ?_ | (with_reducible refine wpAny_isSubtype_exc hC ?_; rw [hcB]) | wp_step)
  exact wpAny_raiseNew_none hh hE
def RPost (h₀ : Heap) (L : Addr) (E : Value → Shared → Prop) (v : Value) (s₁ : Shared) : Prop :=
  ∃ e t o l m', v = .ref e ∧ o.cls = .ref 53 ∧ o.data = .fields #[.ref t, .none, .none, .none, .bool false, .none] ∧ Fr h₀ L s₁.heap m' ∧ News h₀ L s₁.heap ((e, o) :: l) ∧ E (.ref e) s₁
theorem RPost.mk {h₀ : Heap} {L : Addr} {E : Value → Shared → Prop} {s₁ : Shared} {e t : Addr} {o : Obj} {l : Led} {m' : Str → Option Value} (h1 : o.cls = .ref 53) (h2 : o.data = .fields #[.ref t, .none, .none, .none, .bool false, .none])
    (F : Fr h₀ L s₁.heap m') (N : News h₀ L s₁.heap ((e, o) :: l)) (h : E (.ref e) s₁) : RPost h₀ L E (.ref e) s₁ := ⟨e, t, o, l, m', rfl, h1, h2, F, N, h⟩
theorem raise_own {ex : Expr} {pos : Pos} {Q : Flow → Shared → Prop} {K : Frag} {h₀ : Heap} {L : Addr} {m : Str → Option Value} (hh : A.handled = none) (_F : Fr h₀ L s.heap m) (X : K.In h₀) (hB : BadIn K)
    (h : wpAny M A (eval ex env) (RPost h₀ L E) E s) :
    wpAny M A (exec (.Raise (some ex) none pos) env) Q E s := by
  rw [arm_exec_Raise]
  refine wpAny_bind (wpAny_standAt (raiseStmt_made hh ?_))
  refine wpAny_bind (wpAny_mono h (fun v s₁ h₁ => ?_) fun _ _ x => x)
  obtain ⟨e, t, o, l, m', rfl, h1, h2, F, N, hE⟩ := h₁
  refine wpAny_bind (wpAny_standAt (wpAny_pure ?_))
  exact ⟨e, t, o, rfl, F.keep _ _ (X _ _ hB.cls), (N _ List.mem_cons_self).1, h1, h2, hE⟩
end
section
variable {M : Model} {A : Around} {E : Value → Shared → Prop} {s' : Shared} {base g : Heap} {outer : List Env} {L a e t : Addr} {m : Str → Option Value} {name : Str} {scope : Scope} {cd : Value} {Q : Unit → Shared → Prop} {news : Led} {o : Obj}
theorem leave_bad (K : Below A base outer g) (F : Fr g L s'.heap m) (N : News g L s'.heap ((e, o) :: news)) (hne : ∀ q ∈ news, q.1 ≠ e) (hc : o.cls = .ref 53) (hd : o.data = .fields #[.ref t, .none, .none, .none, .bool false, .none])
    (hQ : ∀ h', RaisedN base outer e (.ref 53) news h' → g.UpToSlots h' → Q () { s' with heap := h' }) (hk : scope.kind = .function := by rfl) :
    wpAny M (A.deeper (envOf name scope L a cd)) (leaving (envOf name scope L a cd) (.ref e)) Q E s' := by
  have he := N _ List.mem_cons_self
  have hsz : e < s'.heap.objs.size := Heap.lt_size he.1
  -- the heap without the exception
  have hkeep : ∀ b o', (s'.heap.hide e).get? b = some o' → s'.heap.get? b = some o' := fun b o' q => Heap.of_hide q
  have hto : ∀ b o', b ≠ e → s'.heap.get? b = some o' → (s'.heap.hide e).get? b = some o' := fun b o' hb q => (Heap.hide_ne _ hb).trans q
  have Fh : Fr g L (s'.heap.hide e) m := by
    obtain ⟨oL, es, ep, hL, r⟩ := F.ns
    exact ⟨⟨oL, es, ep, hto _ _ (Ne.symm he.2.1) hL, r⟩, fun b o' q => hto _ _ (fun z => by rw [z, he.2.2] at q; cases q) (F.keep b o' q), F.above⟩
  have Nh : News g L (s'.heap.hide e) news := fun q hq => let z := N q (List.mem_cons_of_mem _ hq); ⟨hto _ _ (hne q hq) z.1, z.2⟩
  have K' := K.push (name := name) (a := a) (cd := cd) Fh hk
  have hin : ∀ env ∈ (envOf name scope L a cd :: outer), ∀ b, env.frame = some b → b ∈ (envOf name scope L a cd :: outer).filterMap (·.frame) := fun env he b hb => List.mem_filterMap.mpr ⟨env, he, hb⟩
  have st : base.StaysIn (hideAll (s'.heap.hide e) ((envOf name scope L a cd :: outer).filterMap (·.frame))) := fun b o q => hideAll_get _ (K'.stays b o q) fun hm => by
    rw [(K'.frames.mem hm).1] at q; cases q
  have hl : ∀ q ∈ news, (hideAll (s'.heap.hide e) ((envOf name scope L a cd :: outer).filterMap (·.frame))).get? q.1 = some q.2 ∧ base.get? q.1 = none := fun q hq => by
    refine ⟨hideAll_get _ (Nh q hq).1 fun hm => ?_, fresh_of_stays K.stays (Nh q hq).2.2⟩
    obtain ⟨env, he, hf⟩ := List.mem_filterMap.mp hm
    rcases List.mem_cons.mp he with rfl | he
    · exact (Nh q hq).2.1 (Option.some.inj hf).symm
    · obtain ⟨o, ho, _⟩ := (K.frames.mem (List.mem_filterMap.mpr ⟨env, he, hf⟩)).2
      rw [(Nh q hq).2.2] at ho; cases ho
  have hen : (hideAll (s'.heap.hide e) ((envOf name scope L a cd :: outer).filterMap (·.frame))).get? e = none := by
    cases q : (hideAll (s'.heap.hide e) ((envOf name scope L a cd :: outer).filterMap (·.frame))).get? e with
    | none => rfl
    | some o => have := of_hideAll _ q; rw [Heap.hide_self] at this; cases this
  refine wpAny_leaving_firstW (a0 := .ref t) K'.stack ((funFrames_hide K'.frames hin).of_keeps fun b o hb _ => ⟨o, hkeep b o hb, rfl⟩) rfl he.1 (fun b o hb => hkeep b o (of_hideAll _ hb)) hen hd rfl rfl fun h' hL => ?_
  obtain ⟨k1, ⟨_, _, k2⟩, k3, k4⟩ := hL
  exact hQ h' ⟨_, .ref t, st, hl, k1, hen, k2, by rw [← hc]; exact k3⟩ ((Heap.UpToSlots.of_keeps F.keep).trans k4)
end
theorem RaisedN.mono {base h : Heap} {l : List Env} {e : Addr} {cls : Value} {a b : Led} (x : RaisedN base l e cls a h) (hs : ∀ q ∈ b, q ∈ a) : RaisedN base l e cls b h := by
  obtain ⟨B, a0, h1, h2, h3⟩ := x
  exact ⟨B, a0, h1, fun q hq => h2 q (hs q hq), h3⟩
end Mine
end
section
theorem Mine.sayCwhole : True := by
  k_with_none
  (k_with "M:ne" => first | assumption | omega)
  (k_with "M:all" => first | assumption | exact List.forall_mem_nil _ | (refine' Mine.ne_cons ?wa ?wb; (case wa => k_extra "M:ne"); (case wb => k_all)) | (refine' tbn_neAll ?wkah; (case wkah => k_extra "M:conj")))
  (k_with "M:upd" => first | (refine' Upd.head ?wa; (case wa => k_all)) | (refine' Mine.upd_tail ?wa ?wb; (case wa => k_extra "M:ne"); (case wb => k_upd)))
  (k_with "M:conj" => first | assumption | (refine' And.right ?_; assumption) | (refine' And.right (And.right ?_); assumption) | (refine' And.right (And.right (And.right ?_)); assumption) | (refine' And.right (And.right (And.right (And.right ?_))); assumption) | (refine' And.right (And.right (And.right (And.right (And.right ?_)))); assumption))
  (k_with "M:mem" => first | assumption | exact List.mem_cons_self | (refine' List.mem_cons_of_mem _ ?_; k_extra "M:mem"))
  (k_with "M:in" => first | assumption | exact Frag.In.keeps (by k_asm) (Fr.keep (by k_asm)))
  (k_with "M:news" => k_dflt k_mem)
  (k_with "M:enter" => (refine wpAny_call ?_; k_dflt ktr_enter))
  (k_with "M:enterC" => (refine wpAny_call ?_; k_dflt (refine' code_defC ?wk1 ?wk2 ?wk3 ?wk4 ?wk5 ?wkA ?kF ?kK ?wk6 ?wk7 ?wk8 ?wk9 ?kB ?wkD ?_ ?wc2 ?wc3 ?wc4; (case wkA => exact rfl); (case kF => exact rfl); (case kK => assumption); (case wk1 => k_asm); (case wk2 => k_asm); (case wk3 => k_asm); (case wk4 => k_asm); (case wk5 => k_asm); (case wk6 => k_is); (case wk7 => k_is); (case wk8 => ktr_room); (case wk9 => first | exact BindsTo.of_eq rfl | exact binds_K (by k_in) rfl (by k_is) rfl rfl rfl | fail "k_enter: no rule for these arguments"); (case kB => exact rfl); (case wkD => decide +kernel); (case wc2 => exact rfl); (case wc3 => exact rfl); (case wc4 => exact rfl); k_whole; intro wg' wL' wh' wtk' wcells' wFG' wF' wN' wY' wB' wX' wT' wl1; (try k_lt wl1); k_cells wY'; (try simp only [List.cons_append, List.nil_append] at wN'); (try dsimp only); (try k_lift wB'); (try k_fold))))
  (k_with "M:base" => ((case kB => k_asm); (case kF => k_asm); (case kX => k_asm); (case kN => k_asm); (case kT => k_asm); (case kK => first | exact rfl | assumption); (case kd => ktr_room); (case ku => ktr_units)))
  (k_with "M:pick" => first | exact Mine.Pick.head | (apply Mine.Pick.tail; k_extra "M:pick"))
  (k_with "M:room" => ktr_room)
  (k_with "call builtin:list.append" => (k_here; (with_reducible show wpAny _ _ (call (Value.builtin _) [Value.ref _, _]) _ _ _); k_dflt (refine' append_K ?wk1 ?wk2 ?wk3 ?_ ?wz; (case wk1 => k_asm); (case wk2 => k_asm); (case wk3 => k_upd); (case wz => first | size_fits | ((try simp only [List.size_toArray, sizeLine_eq]); omega)); k_whole); intro wh' wF' wN'; (try simp only [List.push_toArray] at wN'); (try k_sweep)))
  (k_with "M:enterD" => (refine wpAny_call ?_; k_dflt (refine' code_def ?wk1 ?wk2 ?wk3 ?wk4 ?wk5 ?wkA ?kF ?kK ?wk6 ?wk7 ?wk8 ?wk9 ?kB ?_ ?wc2 ?wc3 ?wc4 ?wc5; (case wkA => exact rfl); (case kF => exact rfl); (case kK => assumption); (case wk1 => k_asm); (case wk2 => k_asm); (case wk3 => k_asm); (case wk4 => k_asm); (case wk5 => k_asm); (case wk6 => k_is); (case wk7 => k_is); (case wk8 => ktr_room); (case wk9 => first | exact BindsTo.of_eq rfl | exact binds_K (by k_in) rfl (by k_is) rfl rfl rfl | fail "enterD: no rule for these arguments"); (case wc5 => decide); (case kB => exact locs rfl); (case wc2 => exact rfl); (case wc3 => exact rfl); (case wc4 => exact rfl); k_whole; intro wg' wL' wh' wFG' wF' wN' wB' wX' wT'; (try dsimp only); (try k_fold))))
  (k_with "call type:bytes" => (k_here; (with_reducible show wpAny _ _ (call (Value.type _) [Value.ref _]) _ _ _); k_dflt (refine' bytes_K ?wF ?wN ?wl ?wi ?wr ?wz ?wh ?_; (case wF => k_asm); (case wN => k_asm); (case wl => exact News.isList (by k_asm) (by k_mem)); (case wi => assumption); (case wr => exact byteIn); (case wz => ((have hl := IntsAre.length (by assumption)); simp only [List.length_map, rangeKs_length] at hl; rw [sizeLine_eq]; omega)); (case wh => with_unfolding_all rfl); k_whole); intro wh' wt' wk' wF' wN' whB'))
  trivial
namespace Mine
section
variable {prog : Program} {w : World} {p : Program} {loose : List Str} {mean : ExcName → Option Value} {mg mb : Str → Option Value}
variable {dp un : Nat} {gd : Option (List Code)} {cn : Str} {cs : Scope} {a : Addr} {ccd : Value} {cl : List (Str × Addr)} {outer : List Env} {A₀ : Around} {base h₀ : Heap} {L : Addr} {m : Str → Option Value} {s : Shared} {Q E : Value → Shared → Prop} {l rest : Led}
theorem whole {x pc : Addr} {ls ns v sz : Int} {pcs : List Value} {out : List UInt8} {n : Nat} {t1 t2 : Tok}
    (B : Below A₀ base outer h₀) (F : Fr h₀ L s.heap m) (X : (hd.heap_1 w.params).In h₀) (N : News h₀ L s.heap l) (T : Top p loose mean mg mb h₀) (hk : cs.kind = .function) (hd : dp + 3 < recursionLimit) (hu : un + 24 < cLine)
    (hW : WAt w.params l x pc ls ns) (pk : Pick (pc, listOf pcs.toArray n) l rest) (hne : ∀ q ∈ rest, q.1 ≠ pc) (hP : PcsAre pcs out) (hlen : pcs.length ≤ 1000)
    (h0 : 0 ≤ v) (hsz : 1 ≤ sz) (hsz' : sz ≤ 8) (h1 : v < 256 ^ sz.toNat)
    (ret : ∀ h' tk' pcs' n', PcsAre pcs' (out ++ le v sz.toNat) → pcs'.length = pcs.length + 1 → Fr h₀ L h' m → News h₀ L h' ((pc, listOf pcs'.toArray n') :: rest) → Q .none { s with heap := h', toks := tk' }) :
    wpAny (model prog w) (ktrTop dp un gd cn cs L a ccd cl outer) (call (.ref 138) [.ref x, .int v t1, .int sz t2]) Q E s := by
  have N := pk.news N
  have hW := hW.pick pk
  clear pk
  refine WAt.elim hW ?_
  intro dx k1 k2 k3 k4 t3 t4 nd hx hdx
  k_extra "M:enterC"
  k_steps
  all_goals (rename News _ _ _ _ => N9; rw [Int.sub_zero] at N9; exact ret _ _ _ _ (.snoc _ _ hP) (by simp) (by assumption) (news_le N9 sub_sub))
end
end Mine
end
section
theorem Mine.sayCoctint : True := by
  k_with_none
  (k_with "M:ne" => first | assumption | omega)
  (k_with "M:all" => first | assumption | exact List.forall_mem_nil _ | (refine' Mine.ne_cons ?wa ?wb; (case wa => k_extra "M:ne"); (case wb => k_all)) | (refine' tbn_neAll ?wkah; (case wkah => k_extra "M:conj")))
  (k_with "M:upd" => first | (refine' Upd.head ?wa; (case wa => k_all)) | (refine' Mine.upd_tail ?wa ?wb; (case wa => k_extra "M:ne"); (case wb => k_upd)))
  (k_with "M:conj" => first | assumption | (refine' And.right ?_; assumption) | (refine' And.right (And.right ?_); assumption) | (refine' And.right (And.right (And.right ?_)); assumption) | (refine' And.right (And.right (And.right (And.right ?_))); assumption) | (refine' And.right (And.right (And.right (And.right (And.right ?_)))); assumption))
  (k_with "M:mem" => first | assumption | exact List.mem_cons_self | (refine' List.mem_cons_of_mem _ ?_; k_extra "M:mem"))
  (k_with "M:in" => first | assumption | exact Frag.In.keeps (by k_asm) (Fr.keep (by k_asm)))
  (k_with "M:news" => k_dflt k_mem)
  (k_with "M:enter" => (refine wpAny_call ?_; k_dflt ktr_enter))
  (k_with "M:enterC" => (refine wpAny_call ?_; k_dflt (refine' code_defC ?wk1 ?wk2 ?wk3 ?wk4 ?wk5 ?wkA ?kF ?kK ?wk6 ?wk7 ?wk8 ?wk9 ?kB ?wkD ?_ ?wc2 ?wc3 ?wc4; (case wkA => exact rfl); (case kF => exact rfl); (case kK => assumption); (case wk1 => k_asm); (case wk2 => k_asm); (case wk3 => k_asm); (case wk4 => k_asm); (case wk5 => k_asm); (case wk6 => k_is); (case wk7 => k_is); (case wk8 => ktr_room); (case wk9 => first | exact BindsTo.of_eq rfl | exact binds_K (by k_in) rfl (by k_is) rfl rfl rfl | fail "k_enter: no rule for these arguments"); (case kB => exact rfl); (case wkD => decide +kernel); (case wc2 => exact rfl); (case wc3 => exact rfl); (case wc4 => exact rfl); k_whole; intro wg' wL' wh' wtk' wcells' wFG' wF' wN' wY' wB' wX' wT' wl1; (try k_lt wl1); k_cells wY'; (try simp only [List.cons_append, List.nil_append] at wN'); (try dsimp only); (try k_lift wB'); (try k_fold))))
  (k_with "M:base" => ((case kB => k_asm); (case kF => k_asm); (case kX => k_asm); (case kN => k_asm); (case kT => k_asm); (case kK => first | exact rfl | assumption); (case kd => ktr_room); (case ku => ktr_units)))
  (k_with "M:pick" => first | exact Mine.Pick.head | (apply Mine.Pick.tail; k_extra "M:pick"))
  (k_with "M:room" => ktr_room)
  (k_with "call builtin:list.append" => (k_here; (with_reducible show wpAny _ _ (call (Value.builtin _) [Value.ref _, _]) _ _ _); k_dflt (refine' append_K ?wk1 ?wk2 ?wk3 ?_ ?wz; (case wk1 => k_asm); (case wk2 => k_asm); (case wk3 => k_upd); (case wz => first | size_fits | ((try simp only [List.size_toArray, sizeLine_eq]); omega)); k_whole); intro wh' wF' wN'; (try simp only [List.push_toArray] at wN'); (try k_sweep)))
  (k_with "M:enterD" => (refine wpAny_call ?_; k_dflt (refine' code_def ?wk1 ?wk2 ?wk3 ?wk4 ?wk5 ?wkA ?kF ?kK ?wk6 ?wk7 ?wk8 ?wk9 ?kB ?_ ?wc2 ?wc3 ?wc4 ?wc5; (case wkA => exact rfl); (case kF => exact rfl); (case kK => assumption); (case wk1 => k_asm); (case wk2 => k_asm); (case wk3 => k_asm); (case wk4 => k_asm); (case wk5 => k_asm); (case wk6 => k_is); (case wk7 => k_is); (case wk8 => ktr_room); (case wk9 => first | exact BindsTo.of_eq rfl | exact binds_K (by k_in) rfl (by k_is) rfl rfl rfl | fail "enterD: no rule for these arguments"); (case wc5 => decide); (case kB => exact locs rfl); (case wc2 => exact rfl); (case wc3 => exact rfl); (case wc4 => exact rfl); k_whole; intro wg' wL' wh' wFG' wF' wN' wB' wX' wT'; (try dsimp only); (try k_fold))))
  (k_with "M:P" => first | assumption | exact Mine.PcsAre.snoc _ _ (by assumption))
  (k_with "M:len" => first | omega | ((simp only [List.length_append, List.length_cons, List.length_nil]); omega))
  (k_with "M:W" => first | assumption | (refine' Mine.WAt.mono ?whh ?wss; (case whh => assumption); (case wss => kcf_all)))
  (k_with "M:pow" => first | exact Mine.pow_four (by omega) | exact Mine.pow_one (by omega) (by omega) | exact Mine.pow_one (by omega) (by decide) | assumption)
  (k_with "call ref" => (k_here; (with_reducible show wpAny _ _ (call (Value.ref 138) _) _ _ _); k_dflt (refine' Mine.whole ?kB ?kF ?kX ?kN ?kT ?kK ?kd ?ku ?wkW ?wkp ?wkn ?wkP ?wkl ?wk0 ?wk1 ?wk2 ?wk3 ?_; k_extra "M:base"; (case wkW => k_extra "M:W"); (case wkp => k_extra "M:pick"); (case wkn => k_all); (case wkP => k_extra "M:P"); (case wkl => k_extra "M:len"); (case wk0 => omega); (case wk1 => omega); (case wk2 => omega); (case wk3 => k_extra "M:pow"); k_whole); intro wh' wtk' wpcs' wn' whP' whl' wF' wN'; (try k_fold)))
  trivial
namespace Mine
section
variable {prog : Program} {w : World} {p : Program} {loose : List Str} {mean : ExcName → Option Value} {mg mb : Str → Option Value}
variable {dp un : Nat} {gd : Option (List Code)} {cn : Str} {cs : Scope} {a : Addr} {ccd : Value} {cl : List (Str × Addr)} {outer : List Env} {A₀ : Around} {base h₀ : Heap} {L : Addr} {m : Str → Option Value} {s : Shared} {Q E : Value → Shared → Prop} {l rest : Led}
theorem octet {x pc : Addr} {ls ns : Int} {pcs : List Value} {out : List UInt8} {n : Nat} {v : Int} {t1 : Tok}
    (B : Below A₀ base outer h₀) (F : Fr h₀ L s.heap m) (X : (hd.heap_1 w.params).In h₀) (N : News h₀ L s.heap l) (T : Top p loose mean mg mb h₀) (hk : cs.kind = .function) (hd : dp + 6 < recursionLimit) (hu : un + 48 < cLine)
    (hW : WAt w.params l x pc ls ns) (pk : Pick (pc, listOf pcs.toArray n) l rest) (hne : ∀ q ∈ rest, q.1 ≠ pc) (hP : PcsAre pcs out) (hlen : pcs.length ≤ 999)
    (h0 : 0 ≤ v) (h1 : v < 256)
    (ret : ∀ h' tk' pcs' n', PcsAre pcs' (out ++ le v 1) → pcs'.length = pcs.length + 1 → Fr h₀ L h' m → News h₀ L h' ((pc, listOf pcs'.toArray n') :: rest) → Q .none { s with heap := h', toks := tk' }) :
    wpAny (model prog w) (ktrTop dp un gd cn cs L a ccd cl outer) (call (.ref 145) [.ref x, .int v t1]) Q E s := by
  have N := pk.news N
  have hW := hW.pick pk
  clear pk
  refine WAt.elim hW ?_
  intro dx k1 k2 k3 k4 t3 t4 nd hx hdx
  k_extra "M:enter"
  k_steps
  all_goals exact ret _ _ _ _ (by first | assumption | (simp only [List.append_assoc] at *; assumption)) (by first | omega | (simp only [List.length_append, List.length_cons, List.length_nil] at *; omega)) (by assumption) (by assumption)
theorem integer {x pc : Addr} {ls ns : Int} {pcs : List Value} {out : List UInt8} {n : Nat} {v : Int} {t1 : Tok}
    (B : Below A₀ base outer h₀) (F : Fr h₀ L s.heap m) (X : (hd.heap_1 w.params).In h₀) (N : News h₀ L s.heap l) (T : Top p loose mean mg mb h₀) (hk : cs.kind = .function) (hd : dp + 6 < recursionLimit) (hu : un + 48 < cLine)
    (hW : WAt w.params l x pc ls ns) (pk : Pick (pc, listOf pcs.toArray n) l rest) (hne : ∀ q ∈ rest, q.1 ≠ pc) (hP : PcsAre pcs out) (hlen : pcs.length ≤ 999)
    (h0 : 0 ≤ v) (h1 : v ≤ 2147483647)
    (ret : ∀ h' tk' pcs' n', PcsAre pcs' (out ++ le v 4) → pcs'.length = pcs.length + 1 → Fr h₀ L h' m → News h₀ L h' ((pc, listOf pcs'.toArray n') :: rest) → Q .none { s with heap := h', toks := tk' }) :
    wpAny (model prog w) (ktrTop dp un gd cn cs L a ccd cl outer) (call (.ref 152) [.ref x, .int v t1]) Q E s := by
  have N := pk.news N
  have hW := hW.pick pk
  clear pk
  refine WAt.elim hW ?_
  intro dx k1 k2 k3 k4 t3 t4 nd hx hdx
  k_extra "M:enter"
  k_steps
  all_goals exact ret _ _ _ _ (by first | assumption | (simp only [List.append_assoc] at *; assumption)) (by first | omega | (simp only [List.length_append, List.length_cons, List.length_nil] at *; omega)) (by assumption) (by assumption)
end
end Mine
end
section
theorem Mine.sayCnumber : True := by
  k_with_none
  (k_with "M:ne" => first | assumption | omega)
  (k_with "M:all" => first | assumption | exact List.forall_mem_nil _ | (refine' Mine.ne_cons ?wa ?wb; (case wa => k_extra "M:ne"); (case wb => k_all)) | (refine' tbn_neAll ?wkah; (case wkah => k_extra "M:conj")))
  (k_with "M:upd" => first | (refine' Upd.head ?wa; (case wa => k_all)) | (refine' Mine.upd_tail ?wa ?wb; (case wa => k_extra "M:ne"); (case wb => k_upd)))
  (k_with "M:conj" => first | assumption | (refine' And.right ?_; assumption) | (refine' And.right (And.right ?_); assumption) | (refine' And.right (And.right (And.right ?_)); assumption) | (refine' And.right (And.right (And.right (And.right ?_))); assumption) | (refine' And.right (And.right (And.right (And.right (And.right ?_)))); assumption))
  (k_with "M:mem" => first | assumption | exact List.mem_cons_self | (refine' List.mem_cons_of_mem _ ?_; k_extra "M:mem"))
  (k_with "M:in" => first | assumption | exact Frag.In.keeps (by k_asm) (Fr.keep (by k_asm)))
  (k_with "M:news" => k_dflt k_mem)
  (k_with "M:enter" => (refine wpAny_call ?_; k_dflt ktr_enter))
  (k_with "M:enterC" => (refine wpAny_call ?_; k_dflt (refine' code_defC ?wk1 ?wk2 ?wk3 ?wk4 ?wk5 ?wkA ?kF ?kK ?wk6 ?wk7 ?wk8 ?wk9 ?kB ?wkD ?_ ?wc2 ?wc3 ?wc4; (case wkA => exact rfl); (case kF => exact rfl); (case kK => assumption); (case wk1 => k_asm); (case wk2 => k_asm); (case wk3 => k_asm); (case wk4 => k_asm); (case wk5 => k_asm); (case wk6 => k_is); (case wk7 => k_is); (case wk8 => ktr_room); (case wk9 => first | exact BindsTo.of_eq rfl | exact binds_K (by k_in) rfl (by k_is) rfl rfl rfl | fail "k_enter: no rule for these arguments"); (case kB => exact rfl); (case wkD => decide +kernel); (case wc2 => exact rfl); (case wc3 => exact rfl); (case wc4 => exact rfl); k_whole; intro wg' wL' wh' wtk' wcells' wFG' wF' wN' wY' wB' wX' wT' wl1; (try k_lt wl1); k_cells wY'; (try simp only [List.cons_append, List.nil_append] at wN'); (try dsimp only); (try k_lift wB'); (try k_fold))))
  (k_with "M:base" => ((case kB => k_asm); (case kF => k_asm); (case kX => k_asm); (case kN => k_asm); (case kT => k_asm); (case kK => first | exact rfl | assumption); (case kd => ktr_room); (case ku => ktr_units)))
  (k_with "M:pick" => first | exact Mine.Pick.head | (apply Mine.Pick.tail; k_extra "M:pick"))
  (k_with "M:room" => ktr_room)
  (k_with "call builtin:list.append" => (k_here; (with_reducible show wpAny _ _ (call (Value.builtin _) [Value.ref _, _]) _ _ _); k_dflt (refine' append_K ?wk1 ?wk2 ?wk3 ?_ ?wz; (case wk1 => k_asm); (case wk2 => k_asm); (case wk3 => k_upd); (case wz => first | size_fits | ((try simp only [List.size_toArray, sizeLine_eq]); omega)); k_whole); intro wh' wF' wN'; (try simp only [List.push_toArray] at wN'); (try k_sweep)))
  (k_with "M:enterD" => (refine wpAny_call ?_; k_dflt (refine' code_def ?wk1 ?wk2 ?wk3 ?wk4 ?wk5 ?wkA ?kF ?kK ?wk6 ?wk7 ?wk8 ?wk9 ?kB ?_ ?wc2 ?wc3 ?wc4 ?wc5; (case wkA => exact rfl); (case kF => exact rfl); (case kK => assumption); (case wk1 => k_asm); (case wk2 => k_asm); (case wk3 => k_asm); (case wk4 => k_asm); (case wk5 => k_asm); (case wk6 => k_is); (case wk7 => k_is); (case wk8 => ktr_room); (case wk9 => first | exact BindsTo.of_eq rfl | exact binds_K (by k_in) rfl (by k_is) rfl rfl rfl | fail "enterD: no rule for these arguments"); (case wc5 => decide); (case kB => exact locs rfl); (case wc2 => exact rfl); (case wc3 => exact rfl); (case wc4 => exact rfl); k_whole; intro wg' wL' wh' wFG' wF' wN' wB' wX' wT'; (try dsimp only); (try k_fold))))
  (k_with "M:P" => first | assumption | exact Mine.PcsAre.snoc _ _ (by assumption))
  (k_with "M:len" => first | omega | ((simp only [List.length_append, List.length_cons, List.length_nil]); omega))
  (k_with "M:W" => first | assumption | (refine' Mine.WAt.mono ?whh ?wss; (case whh => assumption); (case wss => kcf_all)))
  (k_with "M:pow" => first | exact Mine.pow_four (by omega) | exact Mine.pow_one (by omega) (by omega) | exact Mine.pow_one (by omega) (by decide) | assumption)
  (k_with "call ref" => (k_here; (with_reducible show wpAny _ _ (call (Value.ref 138) _) _ _ _); k_dflt (refine' Mine.whole ?kB ?kF ?kX ?kN ?kT ?kK ?kd ?ku ?wkW ?wkp ?wkn ?wkP ?wkl ?wk0 ?wk1 ?wk2 ?wk3 ?_; k_extra "M:base"; (case wkW => k_extra "M:W"); (case wkp => k_extra "M:pick"); (case wkn => k_all); (case wkP => k_extra "M:P"); (case wkl => k_extra "M:len"); (case wk0 => omega); (case wk1 => omega); (case wk2 => omega); (case wk3 => k_extra "M:pow"); k_whole); intro wh' wtk' wpcs' wn' whP' whl' wF' wN'; (try k_fold)))
  (k_with "call ref" => (k_here; (with_reducible show wpAny _ _ (call (Value.ref 145) _) _ _ _); k_dflt (refine' Mine.octet ?kB ?kF ?kX ?kN ?kT ?kK ?kd ?ku ?wkW ?wkp ?wkn ?wkP ?wkl ?wk0 ?wk1 ?_; k_extra "M:base"; (case wkW => k_extra "M:W"); (case wkp => k_extra "M:pick"); (case wkn => k_all); (case wkP => k_extra "M:P"); (case wkl => k_extra "M:len"); (case wk0 => omega); (case wk1 => omega); k_whole); intro wh' wtk' wpcs' wn' whP' whl' wF' wN'; (try k_fold)))
  (k_with "call ref" => (k_here; (with_reducible show wpAny _ _ (call (Value.ref 152) _) _ _ _); k_dflt (refine' Mine.integer ?kB ?kF ?kX ?kN ?kT ?kK ?kd ?ku ?wkW ?wkp ?wkn ?wkP ?wkl ?wk0 ?wk1 ?_; k_extra "M:base"; (case wkW => k_extra "M:W"); (case wkp => k_extra "M:pick"); (case wkn => k_all); (case wkP => k_extra "M:P"); (case wkl => k_extra "M:len"); (case wk0 => omega); (case wk1 => omega); k_whole); intro wh' wtk' wpcs' wn' whP' whl' wF' wN'; (try k_fold)))
  (k_with "call ref" => (k_here; (with_reducible show wpAny _ _ (call (Value.ref 138) [_, Value.int (Int.fmod _ _) _, _]) _ _ _); k_dflt (refine' Mine.whole ?kB ?kF ?kX ?kN ?kT ?kK ?kd ?ku ?wkW ?wkp ?wkn ?wkP ?wkl ?wk0 ?wk1 ?wk2 ?wk3 ?_; k_extra "M:base"; (case wkW => k_extra "M:W"); (case wkp => k_extra "M:pick"); (case wkn => k_all); (case wkP => k_extra "M:P"); (case wkl => k_extra "M:len"); (case wk0 => exact Mine.fm_lo (by assumption)); (case wk1 => omega); (case wk2 => omega); (case wk3 => exact Mine.fm_hi (by assumption)); k_whole); intro wh' wtk' wpcs' wn' whP' whl' wF' wN'; (try k_fold)))
  (k_with "exec Raise some none" => (k_here; (with_reducible show wpAny _ _ (exec (Stmt.Raise (some (Expr.Call (Expr.Name _ _) (_ :: _) [] _)) none _) _) _ _ _); k_dflt (refine' raise_own ?whh ?wF ?wX ?wB ?_; (case whh => rfl); (case wF => k_asm); (case wX => k_asm); (case wB => exact badIn _))))
  (k_with "call ref" => (k_here; (with_reducible show wpAny _ _ (call (Value.ref 53) _) _ _ _); k_dflt (refine' make_bad ?wF ?wX ?wN ?wB ?_; (case wF => k_asm); (case wX => k_asm); (case wN => k_asm); (case wB => exact badIn _); k_whole); intro wx' wt' wh' wF' wN' wl1; (try k_lt wl1); (try k_sweep); k_enter))
  (k_with "setAttr ref" => (k_here; k_dflt (refine' exc_set ?wF ?wX ?wN ?wB ?wn ?_; (case wF => k_asm); (case wX => k_asm); (case wN => k_asm); (case wB => exact badIn _); (case wn => k_all); k_whole); intro wh' wtk' wo' whc' whd' wF' wN'; (try k_sweep)))
  (k_with "RPost" => (refine' RPost.mk ?wa ?wb ?wc ?wd ?_; (case wa => assumption); (case wb => assumption); (case wc => k_asm); (case wd => k_asm)))
  (k_with "leaving ref" => (k_here; k_dflt (refine' leave_bad ?wK ?wF ?wN ?wn ?wc ?wd ?_; (case wK => k_asm); (case wF => k_asm); (case wN => k_asm); (case wn => k_all); (case wc => assumption); (case wd => assumption); k_whole); intro wh' wR' wU'))
  trivial
namespace Mine
section
variable {prog : Program} {w : World} {p : Program} {loose : List Str} {mean : ExcName → Option Value} {mg mb : Str → Option Value}
variable {dp un : Nat} {gd : Option (List Code)} {cn : Str} {cs : Scope} {a : Addr} {ccd : Value} {cl : List (Str × Addr)} {outer : List Env} {A₀ : Around} {base h₀ : Heap} {L : Addr} {m : Str → Option Value} {s : Shared} {Q E : Value → Shared → Prop} {l rest : Led}
theorem number {x pc : Addr} {ls ns v : Int} {pcs : List Value} {out : List UInt8} {n : Nat} {t1 : Tok}
    (B : Below A₀ base outer h₀) (F : Fr h₀ L s.heap m) (X : (hd.heap_1 w.params).In h₀) (N : News h₀ L s.heap l) (T : Top p loose mean mg mb h₀) (hk : cs.kind = .function) (hd : dp + 9 < recursionLimit) (hu : un + 72 < cLine)
    (hW : WAt w.params l x pc ls ns) (pk : Pick (pc, listOf pcs.toArray n) l rest) (hne : ∀ q ∈ rest, q.1 ≠ pc) (hP : PcsAre pcs out) (hlen : pcs.length ≤ 990)
    (hns : 1 ≤ ns) (hns' : ns ≤ 8)
    (ret : ∀ h' tk' pcs' n', Fits ns v → PcsAre pcs' (out ++ encN ns v) → pcs'.length = pcs.length + 1 → Fr h₀ L h' m → News h₀ L h' ((pc, listOf pcs'.toArray n') :: rest) → Q .none { s with heap := h', toks := tk' })
    (exc : ∀ e h' tk' g₂, ¬ Fits ns v → Fr h₀ L g₂ m → g₂.UpToSlots h' → RaisedN base (envX cn cs L a ccd cl :: outer) e (.ref 53) rest h' → E (.ref e) { s with heap := h', toks := tk' }) :
    wpAny (model prog w) (ktrTop dp un gd cn cs L a ccd cl outer) (call (.ref 159) [.ref x, .int v t1]) Q E s := by
  have N := pk.news N
  have hW := hW.pick pk
  clear pk
  refine WAt.elim hW ?_
  intro dx k1 k2 k3 k4 t3 t4 nd hx hdx
  k_extra "M:enter"
  k_steps
  · exact ret _ _ _ _ ⟨by assumption, by assumption⟩ (by assumption) (by omega) (by assumption) (by assumption)
  · exact exc _ _ _ _ (fun h => absurd h.2 (by assumption)) (by assumption) (by assumption) (RaisedN.mono (by assumption) fun q hq => List.mem_cons_of_mem _ hq)
  · exact exc _ _ _ _ (fun h => absurd h.1 (by assumption)) (by assumption) (by assumption) (RaisedN.mono (by assumption) fun q hq => List.mem_cons_of_mem _ hq)
end
end Mine
end
section
theorem Mine.sayCtext : True := by
  k_with_none
  (k_with "M:ne" => first | assumption | omega)
  (k_with "M:all" => first | assumption | exact List.forall_mem_nil _ | (refine' Mine.ne_cons ?wa ?wb; (case wa => k_extra "M:ne"); (case wb => k_all)) | (refine' tbn_neAll ?wkah; (case wkah => k_extra "M:conj")))
  (k_with "M:upd" => first | (refine' Upd.head ?wa; (case wa => k_all)) | (refine' Mine.upd_tail ?wa ?wb; (case wa => k_extra "M:ne"); (case wb => k_upd)))
  (k_with "M:conj" => first | assumption | (refine' And.right ?_; assumption) | (refine' And.right (And.right ?_); assumption) | (refine' And.right (And.right (And.right ?_)); assumption) | (refine' And.right (And.right (And.right (And.right ?_))); assumption) | (refine' And.right (And.right (And.right (And.right (And.right ?_)))); assumption))
  (k_with "M:mem" => first | assumption | exact List.mem_cons_self | (refine' List.mem_cons_of_mem _ ?_; k_extra "M:mem"))
  (k_with "M:in" => first | assumption | exact Frag.In.keeps (by k_asm) (Fr.keep (by k_asm)))
  (k_with "M:news" => k_dflt k_mem)
  (k_with "M:enter" => (refine wpAny_call ?_; k_dflt ktr_enter))
  (k_with "M:enterC" => (refine wpAny_call ?_; k_dflt (refine' code_defC ?wk1 ?wk2 ?wk3 ?wk4 ?wk5 ?wkA ?kF ?kK ?wk6 ?wk7 ?wk8 ?wk9 ?kB ?wkD ?_ ?wc2 ?wc3 ?wc4; (case wkA => exact rfl); (case kF => exact rfl); (case kK => assumption); (case wk1 => k_asm); (case wk2 => k_asm); (case wk3 => k_asm); (case wk4 => k_asm); (case wk5 => k_asm); (case wk6 => k_is); (case wk7 => k_is); (case wk8 => ktr_room); (case wk9 => first | exact BindsTo.of_eq rfl | exact binds_K (by k_in) rfl (by k_is) rfl rfl rfl | fail "k_enter: no rule for these arguments"); (case kB => exact rfl); (case wkD => decide +kernel); (case wc2 => exact rfl); (case wc3 => exact rfl); (case wc4 => exact rfl); k_whole; intro wg' wL' wh' wtk' wcells' wFG' wF' wN' wY' wB' wX' wT' wl1; (try k_lt wl1); k_cells wY'; (try simp only [List.cons_append, List.nil_append] at wN'); (try dsimp only); (try k_lift wB'); (try k_fold))))
  (k_with "M:base" => ((case kB => k_asm); (case kF => k_asm); (case kX => k_asm); (case kN => k_asm); (case kT => k_asm); (case kK => first | exact rfl | assumption); (case kd => ktr_room); (case ku => ktr_units)))
  (k_with "M:pick" => first | exact Mine.Pick.head | (apply Mine.Pick.tail; k_extra "M:pick"))
  (k_with "M:room" => ktr_room)
  (k_with "call builtin:list.append" => (k_here; (with_reducible show wpAny _ _ (call (Value.builtin _) [Value.ref _, _]) _ _ _); k_dflt (refine' append_K ?wk1 ?wk2 ?wk3 ?_ ?wz; (case wk1 => k_asm); (case wk2 => k_asm); (case wk3 => k_upd); (case wz => first | size_fits | ((try simp only [List.size_toArray, sizeLine_eq]); omega)); k_whole); intro wh' wF' wN'; (try simp only [List.push_toArray] at wN'); (try k_sweep)))
  (k_with "M:enterD" => (refine wpAny_call ?_; k_dflt (refine' code_def ?wk1 ?wk2 ?wk3 ?wk4 ?wk5 ?wkA ?kF ?kK ?wk6 ?wk7 ?wk8 ?wk9 ?kB ?_ ?wc2 ?wc3 ?wc4 ?wc5; (case wkA => exact rfl); (case kF => exact rfl); (case kK => assumption); (case wk1 => k_asm); (case wk2 => k_asm); (case wk3 => k_asm); (case wk4 => k_asm); (case wk5 => k_asm); (case wk6 => k_is); (case wk7 => k_is); (case wk8 => ktr_room); (case wk9 => first | exact BindsTo.of_eq rfl | exact binds_K (by k_in) rfl (by k_is) rfl rfl rfl | fail "enterD: no rule for these arguments"); (case wc5 => decide); (case kB => exact locs rfl); (case wc2 => exact rfl); (case wc3 => exact rfl); (case wc4 => exact rfl); k_whole; intro wg' wL' wh' wFG' wF' wN' wB' wX' wT'; (try dsimp only); (try k_fold))))
  (k_with "M:P" => first | assumption | exact Mine.PcsAre.snoc _ _ (by assumption))
  (k_with "M:len" => first | omega | ((simp only [List.length_append, List.length_cons, List.length_nil]); omega))
  (k_with "M:W" => first | assumption | (refine' Mine.WAt.mono ?whh ?wss; (case whh => assumption); (case wss => kcf_all)))
  (k_with "M:pow" => first | exact Mine.pow_four (by omega) | exact Mine.pow_one (by omega) (by omega) | exact Mine.pow_one (by omega) (by decide) | assumption)
  (k_with "call ref" => (k_here; (with_reducible show wpAny _ _ (call (Value.ref 138) _) _ _ _); k_dflt (refine' Mine.whole ?kB ?kF ?kX ?kN ?kT ?kK ?kd ?ku ?wkW ?wkp ?wkn ?wkP ?wkl ?wk0 ?wk1 ?wk2 ?wk3 ?_; k_extra "M:base"; (case wkW => k_extra "M:W"); (case wkp => k_extra "M:pick"); (case wkn => k_all); (case wkP => k_extra "M:P"); (case wkl => k_extra "M:len"); (case wk0 => omega); (case wk1 => omega); (case wk2 => omega); (case wk3 => k_extra "M:pow"); k_whole); intro wh' wtk' wpcs' wn' whP' whl' wF' wN'; (try k_fold)))
  (k_with "call ref" => (k_here; (with_reducible show wpAny _ _ (call (Value.ref 145) _) _ _ _); k_dflt (refine' Mine.octet ?kB ?kF ?kX ?kN ?kT ?kK ?kd ?ku ?wkW ?wkp ?wkn ?wkP ?wkl ?wk0 ?wk1 ?_; k_extra "M:base"; (case wkW => k_extra "M:W"); (case wkp => k_extra "M:pick"); (case wkn => k_all); (case wkP => k_extra "M:P"); (case wkl => k_extra "M:len"); (case wk0 => omega); (case wk1 => omega); k_whole); intro wh' wtk' wpcs' wn' whP' whl' wF' wN'; (try k_fold)))
  (k_with "call ref" => (k_here; (with_reducible show wpAny _ _ (call (Value.ref 152) _) _ _ _); k_dflt (refine' Mine.integer ?kB ?kF ?kX ?kN ?kT ?kK ?kd ?ku ?wkW ?wkp ?wkn ?wkP ?wkl ?wk0 ?wk1 ?_; k_extra "M:base"; (case wkW => k_extra "M:W"); (case wkp => k_extra "M:pick"); (case wkn => k_all); (case wkP => k_extra "M:P"); (case wkl => k_extra "M:len"); (case wk0 => omega); (case wk1 => omega); k_whole); intro wh' wtk' wpcs' wn' whP' whl' wF' wN'; (try k_fold)))
  (k_with "call builtin:len" => (k_here; (with_reducible show wpAny _ _ (call (Value.builtin "len") [Value.bytes _ _]) _ _ _); (refine len_bytes (by omega) ?_)))
  trivial
namespace Mine
section
variable {prog : Program} {w : World} {p : Program} {loose : List Str} {mean : ExcName → Option Value} {mg mb : Str → Option Value}
variable {dp un : Nat} {gd : Option (List Code)} {cn : Str} {cs : Scope} {a : Addr} {ccd : Value} {cl : List (Str × Addr)} {outer : List Env} {A₀ : Around} {base h₀ : Heap} {L : Addr} {m : Str → Option Value} {s : Shared} {Q E : Value → Shared → Prop} {l rest : Led}
theorem textN {x pc : Addr} {ls ns : Int} {pcs : List Value} {out : List UInt8} {n : Nat} 
    (B : Below A₀ base outer h₀) (F : Fr h₀ L s.heap m) (X : (hd.heap_1 w.params).In h₀) (N : News h₀ L s.heap l) (T : Top p loose mean mg mb h₀) (hk : cs.kind = .function) (hd : dp + 9 < recursionLimit) (hu : un + 72 < cLine)
    (hW : WAt w.params l x pc ls ns) (pk : Pick (pc, listOf pcs.toArray n) l rest) (hne : ∀ q ∈ rest, q.1 ≠ pc) (hP : PcsAre pcs out) (hlen : pcs.length ≤ 990)
    (hls : 1 ≤ ls) (hls' : ls ≤ 8)
    (ret : ∀ h' tk' pcs' n', PcsAre pcs' (out ++ le 0 ls.toNat) → pcs'.length = pcs.length + 1 → Fr h₀ L h' m → News h₀ L h' ((pc, listOf pcs'.toArray n') :: rest) → Q .none { s with heap := h', toks := tk' }) :
    wpAny (model prog w) (ktrTop dp un gd cn cs L a ccd cl outer) (call (.ref 166) [.ref x, .none]) Q E s := by
  have N := pk.news N
  have hW := hW.pick pk
  clear pk
  refine WAt.elim hW ?_
  intro dx k1 k2 k3 k4 t3 t4 nd hx hdx
  k_extra "M:enter"
  k_steps
  all_goals exact ret _ _ _ _ (by first | assumption | (simp only [List.append_assoc] at *; assumption)) (by first | omega | (simp only [List.length_append, List.length_cons, List.length_nil] at *; omega)) (by assumption) (by assumption)
theorem textB {x pc : Addr} {ls ns : Int} {pcs : List Value} {out : List UInt8} {n : Nat} {b : List UInt8} {t1 : Tok}
    (B : Below A₀ base outer h₀) (F : Fr h₀ L s.heap m) (X : (hd.heap_1 w.params).In h₀) (N : News h₀ L s.heap l) (T : Top p loose mean mg mb h₀) (hk : cs.kind = .function) (hd : dp + 9 < recursionLimit) (hu : un + 72 < cLine)
    (hW : WAt w.params l x pc ls ns) (pk : Pick (pc, listOf pcs.toArray n) l rest) (hne : ∀ q ∈ rest, q.1 ≠ pc) (hP : PcsAre pcs out) (hlen : pcs.length ≤ 990)
    (hls : 1 ≤ ls) (hls' : ls ≤ 8) (hb : b.length ≤ 10)
    (ret : ∀ h' tk' pcs' n', PcsAre pcs' (out ++ le (b.length + 1) ls.toNat ++ b ++ le 0 1) → pcs'.length = pcs.length + 3 → Fr h₀ L h' m → News h₀ L h' ((pc, listOf pcs'.toArray n') :: rest) → Q .none { s with heap := h', toks := tk' }) :
    wpAny (model prog w) (ktrTop dp un gd cn cs L a ccd cl outer) (call (.ref 166) [.ref x, .bytes b.toArray t1]) Q E s := by
  have N := pk.news N
  have hW := hW.pick pk
  clear pk
  refine WAt.elim hW ?_
  intro dx k1 k2 k3 k4 t3 t4 nd hx hdx
  have hb' : b.toArray.size ≤ 10 := by simpa using hb
  k_extra "M:enter"
  k_steps
  all_goals exact ret _ _ _ _ (by first | assumption | (simp only [List.append_assoc] at *; assumption)) (by first | omega | (simp only [List.length_append, List.length_cons, List.length_nil] at *; omega)) (by assumption) (by assumption)
end
end Mine
end
section
theorem Mine.sayCconstant : True := by
  k_with_none
  (k_with "M:ne" => first | assumption | omega)
  (k_with "M:all" => first | assumption | exact List.forall_mem_nil _ | (refine' Mine.ne_cons ?wa ?wb; (case wa => k_extra "M:ne"); (case wb => k_all)) | (refine' tbn_neAll ?wkah; (case wkah => k_extra "M:conj")))
  (k_with "M:upd" => first | (refine' Upd.head ?wa; (case wa => k_all)) | (refine' Mine.upd_tail ?wa ?wb; (case wa => k_extra "M:ne"); (case wb => k_upd)))
  (k_with "M:conj" => first | assumption | (refine' And.right ?_; assumption) | (refine' And.right (And.right ?_); assumption) | (refine' And.right (And.right (And.right ?_)); assumption) | (refine' And.right (And.right (And.right (And.right ?_))); assumption) | (refine' And.right (And.right (And.right (And.right (And.right ?_)))); assumption))
  (k_with "M:mem" => first | assumption | exact List.mem_cons_self | (refine' List.mem_cons_of_mem _ ?_; k_extra "M:mem"))
  (k_with "M:in" => first | assumption | exact Frag.In.keeps (by k_asm) (Fr.keep (by k_asm)))
  (k_with "M:news" => k_dflt k_mem)
  (k_with "M:enter" => (refine wpAny_call ?_; k_dflt ktr_enter))
  (k_with "M:enterC" => (refine wpAny_call ?_; k_dflt (refine' code_defC ?wk1 ?wk2 ?wk3 ?wk4 ?wk5 ?wkA ?kF ?kK ?wk6 ?wk7 ?wk8 ?wk9 ?kB ?wkD ?_ ?wc2 ?wc3 ?wc4; (case wkA => exact rfl); (case kF => exact rfl); (case kK => assumption); (case wk1 => k_asm); (case wk2 => k_asm); (case wk3 => k_asm); (case wk4 => k_asm); (case wk5 => k_asm); (case wk6 => k_is); (case wk7 => k_is); (case wk8 => ktr_room); (case wk9 => first | exact BindsTo.of_eq rfl | exact binds_K (by k_in) rfl (by k_is) rfl rfl rfl | fail "k_enter: no rule for these arguments"); (case kB => exact rfl); (case wkD => decide +kernel); (case wc2 => exact rfl); (case wc3 => exact rfl); (case wc4 => exact rfl); k_whole; intro wg' wL' wh' wtk' wcells' wFG' wF' wN' wY' wB' wX' wT' wl1; (try k_lt wl1); k_cells wY'; (try simp only [List.cons_append, List.nil_append] at wN'); (try dsimp only); (try k_lift wB'); (try k_fold))))
  (k_with "M:base" => ((case kB => k_asm); (case kF => k_asm); (case kX => k_asm); (case kN => k_asm); (case kT => k_asm); (case kK => first | exact rfl | assumption); (case kd => ktr_room); (case ku => ktr_units)))
  (k_with "M:pick" => first | exact Mine.Pick.head | (apply Mine.Pick.tail; k_extra "M:pick"))
  (k_with "M:room" => ktr_room)
  (k_with "call builtin:list.append" => (k_here; (with_reducible show wpAny _ _ (call (Value.builtin _) [Value.ref _, _]) _ _ _); k_dflt (refine' append_K ?wk1 ?wk2 ?wk3 ?_ ?wz; (case wk1 => k_asm); (case wk2 => k_asm); (case wk3 => k_upd); (case wz => first | size_fits | ((try simp only [List.size_toArray, sizeLine_eq]); omega)); k_whole); intro wh' wF' wN'; (try simp only [List.push_toArray] at wN'); (try k_sweep)))
  (k_with "M:enterD" => (refine wpAny_call ?_; k_dflt (refine' code_def ?wk1 ?wk2 ?wk3 ?wk4 ?wk5 ?wkA ?kF ?kK ?wk6 ?wk7 ?wk8 ?wk9 ?kB ?_ ?wc2 ?wc3 ?wc4 ?wc5; (case wkA => exact rfl); (case kF => exact rfl); (case kK => assumption); (case wk1 => k_asm); (case wk2 => k_asm); (case wk3 => k_asm); (case wk4 => k_asm); (case wk5 => k_asm); (case wk6 => k_is); (case wk7 => k_is); (case wk8 => ktr_room); (case wk9 => first | exact BindsTo.of_eq rfl | exact binds_K (by k_in) rfl (by k_is) rfl rfl rfl | fail "enterD: no rule for these arguments"); (case wc5 => decide); (case kB => exact locs rfl); (case wc2 => exact rfl); (case wc3 => exact rfl); (case wc4 => exact rfl); k_whole; intro wg' wL' wh' wFG' wF' wN' wB' wX' wT'; (try dsimp only); (try k_fold))))
  (k_with "M:P" => first | assumption | exact Mine.PcsAre.snoc _ _ (by assumption))
  (k_with "M:len" => first | omega | ((simp only [List.length_append, List.length_cons, List.length_nil]); omega))
  (k_with "M:W" => first | assumption | (refine' Mine.WAt.mono ?whh ?wss; (case whh => assumption); (case wss => kcf_all)))
  (k_with "M:pow" => first | exact Mine.pow_four (by omega) | exact Mine.pow_one (by omega) (by omega) | exact Mine.pow_one (by omega) (by decide) | assumption)
  (k_with "call ref" => (k_here; (with_reducible show wpAny _ _ (call (Value.ref 138) _) _ _ _); k_dflt (refine' Mine.whole ?kB ?kF ?kX ?kN ?kT ?kK ?kd ?ku ?wkW ?wkp ?wkn ?wkP ?wkl ?wk0 ?wk1 ?wk2 ?wk3 ?_; k_extra "M:base"; (case wkW => k_extra "M:W"); (case wkp => k_extra "M:pick"); (case wkn => k_all); (case wkP => k_extra "M:P"); (case wkl => k_extra "M:len"); (case wk0 => omega); (case wk1 => omega); (case wk2 => omega); (case wk3 => k_extra "M:pow"); k_whole); intro wh' wtk' wpcs' wn' whP' whl' wF' wN'; (try k_fold)))
  (k_with "call ref" => (k_here; (with_reducible show wpAny _ _ (call (Value.ref 145) _) _ _ _); k_dflt (refine' Mine.octet ?kB ?kF ?kX ?kN ?kT ?kK ?kd ?ku ?wkW ?wkp ?wkn ?wkP ?wkl ?wk0 ?wk1 ?_; k_extra "M:base"; (case wkW => k_extra "M:W"); (case wkp => k_extra "M:pick"); (case wkn => k_all); (case wkP => k_extra "M:P"); (case wkl => k_extra "M:len"); (case wk0 => omega); (case wk1 => omega); k_whole); intro wh' wtk' wpcs' wn' whP' whl' wF' wN'; (try k_fold)))
  (k_with "call ref" => (k_here; (with_reducible show wpAny _ _ (call (Value.ref 152) _) _ _ _); k_dflt (refine' Mine.integer ?kB ?kF ?kX ?kN ?kT ?kK ?kd ?ku ?wkW ?wkp ?wkn ?wkP ?wkl ?wk0 ?wk1 ?_; k_extra "M:base"; (case wkW => k_extra "M:W"); (case wkp => k_extra "M:pick"); (case wkn => k_all); (case wkP => k_extra "M:P"); (case wkl => k_extra "M:len"); (case wk0 => omega); (case wk1 => omega); k_whole); intro wh' wtk' wpcs' wn' whP' whl' wF' wN'; (try k_fold)))
  (k_with "call ref" => (k_here; (with_reducible show wpAny _ _ (call (Value.ref 166) [_, Value.none]) _ _ _); k_dflt (refine' Mine.textN ?kB ?kF ?kX ?kN ?kT ?kK ?kd ?ku ?wkW ?wkp ?wkn ?wkP ?wkl ?wk0 ?wk1 ?_; k_extra "M:base"; (case wkW => k_extra "M:W"); (case wkp => k_extra "M:pick"); (case wkn => k_all); (case wkP => k_extra "M:P"); (case wkl => k_extra "M:len"); (case wk0 => omega); (case wk1 => omega); k_whole); intro wh' wtk' wpcs' wn' whP' whl' wF' wN'; (try k_fold)))
  (k_with "call ref" => (k_here; (with_reducible show wpAny _ _ (call (Value.ref 166) [_, Value.bytes _ _]) _ _ _); k_dflt (refine' Mine.textB ?kB ?kF ?kX ?kN ?kT ?kK ?kd ?ku ?wkW ?wkp ?wkn ?wkP ?wkl ?wk0 ?wk1 ?wk2 ?_; k_extra "M:base"; (case wkW => k_extra "M:W"); (case wkp => k_extra "M:pick"); (case wkn => k_all); (case wkP => k_extra "M:P"); (case wkl => k_extra "M:len"); (case wk0 => omega); (case wk1 => omega); (case wk2 => first | decide | assumption | omega); k_whole); intro wh' wtk' wpcs' wn' whP' whl' wF' wN'; (try k_fold)))
  (k_with "leaving ref" => (k_here; k_dflt (refine' leave_onN ?wK ?wF ?wR ?wU ?_; (case wR => assumption); (case wU => assumption); (case wF => assumption); (case wK => assumption); k_whole); intro wh' wR' wU'))
  (k_with "call ref" => (k_here; (with_reducible show wpAny _ _ (call (Value.ref 159) _) _ _ _); k_dflt (refine' Mine.number ?kB ?kF ?kX ?kN ?kT ?kK ?kd ?ku ?wkW ?wkp ?wkn ?wkP ?wkl ?wk0 ?wk1 ?_ ?_; k_extra "M:base"; (case wkW => k_extra "M:W"); (case wkp => k_extra "M:pick"); (case wkn => k_all); (case wkP => k_extra "M:P"); (case wkl => k_extra "M:len"); (case wk0 => omega); (case wk1 => omega); rotate_left; intro we' wh' wtk' wg2' whf' wF' wU' wR'; rotate_right); intro wh' wtk' wpcs' wn' whf' whP' whl' wF' wN'; (try k_fold)))
  trivial
namespace Mine
section
variable {prog : Program} {w : World} {p : Program} {loose : List Str} {mean : ExcName → Option Value} {mg mb : Str → Option Value}
variable {dp un : Nat} {gd : Option (List Code)} {cn : Str} {cs : Scope} {a : Addr} {ccd : Value} {cl : List (Str × Addr)} {outer : List Env} {A₀ : Around} {base h₀ : Heap} {L : Addr} {m : Str → Option Value} {s : Shared} {Q E : Value → Shared → Prop} {l rest : Led}
theorem constant {x pc : Addr} {ls ns : Int} {v : Value} {c : Cst} {pcs : List Value} {out : List UInt8} {n : Nat}
    (B : Below A₀ base outer h₀) (F : Fr h₀ L s.heap m) (X : (hd.heap_1 w.params).In h₀) (N : News h₀ L s.heap l) (T : Top p loose mean mg mb h₀) (hk : cs.kind = .function) (hd : dp + 15 < recursionLimit) (hu : un + 120 < cLine)
    (hW : WAt w.params l x pc ls ns) (pk : Pick (pc, listOf pcs.toArray n) l rest) (hne : ∀ q ∈ rest, q.1 ≠ pc) (hP : PcsAre pcs out) (hlen : pcs.length ≤ 980)
    (hls : 1 ≤ ls) (hls' : ls ≤ 8) (hns : 1 ≤ ns) (hns' : ns ≤ 8) (hc : CIs v c)
    (ret : ∀ h' tk' pcs' n', CFits ns c → PcsAre pcs' (out ++ encC ls ns c) → pcs'.length ≤ pcs.length + 4 → Fr h₀ L h' m → News h₀ L h' ((pc, listOf pcs'.toArray n') :: rest) → Q .none { s with heap := h', toks := tk' })
    (exc : ∀ e h' tk' g₂, ¬ CFits ns c → Fr h₀ L g₂ m → g₂.UpToSlots h' → RaisedN base (envX cn cs L a ccd cl :: outer) e (.ref 53) rest h' → E (.ref e) { s with heap := h', toks := tk' }) :
    wpAny (model prog w) (ktrTop dp un gd cn cs L a ccd cl outer) (call (.ref 173) [.ref x, v]) Q E s := by
  have N := pk.news N
  have hW := hW.pick pk
  clear pk
  refine WAt.elim hW ?_
  intro dx k1 k2 k3 k4 t3 t4 nd hx hdx
  cases hc
  case' bool b => cases b
  all_goals (k_extra "M:enter"; k_steps)
  all_goals first
    | exact ret _ _ _ _ trivial (by unfold encC; first | assumption | (simp only [← List.append_assoc] at *; assumption)) (by omega) (by assumption) (by assumption)
    | exact ret _ _ _ _ (by assumption) (by unfold encC; first | assumption | (simp only [← List.append_assoc] at *; assumption)) (by omega) (by assumption) (by assumption)
    | exact exc _ _ _ _ (by assumption) (by assumption) (by assumption) (by assumption)
    | skip
end
end Mine
end
section
theorem Mine.sayCcode : True := by
  k_with_none
  (k_with "M:ne" => first | assumption | omega)
  (k_with "M:all" => first | assumption | exact List.forall_mem_nil _ | (refine' Mine.ne_cons ?wa ?wb; (case wa => k_extra "M:ne"); (case wb => k_all)) | (refine' tbn_neAll ?wkah; (case wkah => k_extra "M:conj")))
  (k_with "M:upd" => first | (refine' Upd.head ?wa; (case wa => k_all)) | (refine' Mine.upd_tail ?wa ?wb; (case wa => k_extra "M:ne"); (case wb => k_upd)))
  (k_with "M:conj" => first | assumption | (refine' And.right ?_; assumption) | (refine' And.right (And.right ?_); assumption) | (refine' And.right (And.right (And.right ?_)); assumption) | (refine' And.right (And.right (And.right (And.right ?_))); assumption) | (refine' And.right (And.right (And.right (And.right (And.right ?_)))); assumption))
  (k_with "M:mem" => first | assumption | exact List.mem_cons_self | (refine' List.mem_cons_of_mem _ ?_; k_extra "M:mem"))
  (k_with "M:in" => first | assumption | exact Frag.In.keeps (by k_asm) (Fr.keep (by k_asm)))
  (k_with "M:news" => k_dflt k_mem)
  (k_with "M:enter" => (refine wpAny_call ?_; k_dflt ktr_enter))
  (k_with "M:enterC" => (refine wpAny_call ?_; k_dflt (refine' code_defC ?wk1 ?wk2 ?wk3 ?wk4 ?wk5 ?wkA ?kF ?kK ?wk6 ?wk7 ?wk8 ?wk9 ?kB ?wkD ?_ ?wc2 ?wc3 ?wc4; (case wkA => exact rfl); (case kF => exact rfl); (case kK => assumption); (case wk1 => k_asm); (case wk2 => k_asm); (case wk3 => k_asm); (case wk4 => k_asm); (case wk5 => k_asm); (case wk6 => k_is); (case wk7 => k_is); (case wk8 => ktr_room); (case wk9 => first | exact BindsTo.of_eq rfl | exact binds_K (by k_in) rfl (by k_is) rfl rfl rfl | fail "k_enter: no rule for these arguments"); (case kB => exact rfl); (case wkD => decide +kernel); (case wc2 => exact rfl); (case wc3 => exact rfl); (case wc4 => exact rfl); k_whole; intro wg' wL' wh' wtk' wcells' wFG' wF' wN' wY' wB' wX' wT' wl1; (try k_lt wl1); k_cells wY'; (try simp only [List.cons_append, List.nil_append] at wN'); (try dsimp only); (try k_lift wB'); (try k_fold))))
  (k_with "M:base" => ((case kB => k_asm); (case kF => k_asm); (case kX => k_asm); (case kN => k_asm); (case kT => k_asm); (case kK => first | exact rfl | assumption); (case kd => ktr_room); (case ku => ktr_units)))
  (k_with "M:pick" => first | exact Mine.Pick.head | (apply Mine.Pick.tail; k_extra "M:pick"))
  (k_with "M:room" => ktr_room)
  (k_with "call builtin:list.append" => (k_here; (with_reducible show wpAny _ _ (call (Value.builtin _) [Value.ref _, _]) _ _ _); k_dflt (refine' append_K ?wk1 ?wk2 ?wk3 ?_ ?wz; (case wk1 => k_asm); (case wk2 => k_asm); (case wk3 => k_upd); (case wz => first | size_fits | ((try simp only [List.size_toArray, sizeLine_eq]); omega)); k_whole); intro wh' wF' wN'; (try simp only [List.push_toArray] at wN'); (try k_sweep)))
  (k_with "M:enterD" => (refine wpAny_call ?_; k_dflt (refine' code_def ?wk1 ?wk2 ?wk3 ?wk4 ?wk5 ?wkA ?kF ?kK ?wk6 ?wk7 ?wk8 ?wk9 ?kB ?_ ?wc2 ?wc3 ?wc4 ?wc5; (case wkA => exact rfl); (case kF => exact rfl); (case kK => assumption); (case wk1 => k_asm); (case wk2 => k_asm); (case wk3 => k_asm); (case wk4 => k_asm); (case wk5 => k_asm); (case wk6 => k_is); (case wk7 => k_is); (case wk8 => ktr_room); (case wk9 => first | exact BindsTo.of_eq rfl | exact binds_K (by k_in) rfl (by k_is) rfl rfl rfl | fail "enterD: no rule for these arguments"); (case wc5 => decide); (case kB => exact locs rfl); (case wc2 => exact rfl); (case wc3 => exact rfl); (case wc4 => exact rfl); k_whole; intro wg' wL' wh' wFG' wF' wN' wB' wX' wT'; (try dsimp only); (try k_fold))))
  (k_with "M:P" => first | assumption | exact Mine.PcsAre.snoc _ _ (by assumption))
  (k_with "M:len" => first | omega | ((simp only [List.length_append, List.length_cons, List.length_nil]); omega))
  (k_with "M:W" => first | assumption | (refine' Mine.WAt.mono ?whh ?wss; (case whh => assumption); (case wss => kcf_all)))
  (k_with "M:pow" => first | exact Mine.pow_four (by omega) | exact Mine.pow_one (by omega) (by omega) | exact Mine.pow_one (by omega) (by decide) | assumption)
  (k_with "call ref" => (k_here; (with_reducible show wpAny _ _ (call (Value.ref 138) _) _ _ _); k_dflt (refine' Mine.whole ?kB ?kF ?kX ?kN ?kT ?kK ?kd ?ku ?wkW ?wkp ?wkn ?wkP ?wkl ?wk0 ?wk1 ?wk2 ?wk3 ?_; k_extra "M:base"; (case wkW => k_extra "M:W"); (case wkp => k_extra "M:pick"); (case wkn => k_all); (case wkP => k_extra "M:P"); (case wkl => k_extra "M:len"); (case wk0 => omega); (case wk1 => omega); (case wk2 => omega); (case wk3 => k_extra "M:pow"); k_whole); intro wh' wtk' wpcs' wn' whP' whl' wF' wN'; (try k_fold)))
  (k_with "call ref" => (k_here; (with_reducible show wpAny _ _ (call (Value.ref 145) _) _ _ _); k_dflt (refine' Mine.octet ?kB ?kF ?kX ?kN ?kT ?kK ?kd ?ku ?wkW ?wkp ?wkn ?wkP ?wkl ?wk0 ?wk1 ?_; k_extra "M:base"; (case wkW => k_extra "M:W"); (case wkp => k_extra "M:pick"); (case wkn => k_all); (case wkP => k_extra "M:P"); (case wkl => k_extra "M:len"); (case wk0 => omega); (case wk1 => omega); k_whole); intro wh' wtk' wpcs' wn' whP' whl' wF' wN'; (try k_fold)))
  (k_with "call ref" => (k_here; (with_reducible show wpAny _ _ (call (Value.ref 152) _) _ _ _); k_dflt (refine' Mine.integer ?kB ?kF ?kX ?kN ?kT ?kK ?kd ?ku ?wkW ?wkp ?wkn ?wkP ?wkl ?wk0 ?wk1 ?_; k_extra "M:base"; (case wkW => k_extra "M:W"); (case wkp => k_extra "M:pick"); (case wkn => k_all); (case wkP => k_extra "M:P"); (case wkl => k_extra "M:len"); (case wk0 => omega); (case wk1 => omega); k_whole); intro wh' wtk' wpcs' wn' whP' whl' wF' wN'; (try k_fold)))
  (k_with "exec For" => (k_here; (rename Fr _ _ _ _ => wlF'); (with_unfolding_all refine' For_invVF wlF' ?wk1 ?wk2 ?_; (case wk1 => exact rfl); (case wk2 => exact rfl); k_whole)))
  (k_with "exec For Name Attribute cons nil" => (walk_at "exec For"))
  (k_with "M:pyIter ref" => ((with_reducible show wpAny _ _ (pyIter (Value.ref _)) (fun it s₂ => LoopAtV _ _ _ _ _ _ _ _ _ it s₂) _ _); k_here; k_dflt (refine' iter_listUnr ?whh ?wF ?wN ?whm ?whc ?whd ?_; (case whh => rfl); (case wF => k_asm); (case wN => k_asm); (case whm => k_mem); (case whc => rfl); (case whd => rfl); k_whole); intro wI' wl1; (try k_lt wl1)))
  (k_with "call builtin:len" => (k_here; (with_reducible show wpAny _ _ (call (Value.builtin "len") [Value.ref _]) _ _ _); k_dflt (refine' Mine.len_led ?wN ?wm ?wz ?_; (case wN => k_asm); (case wm => k_mem); (case wz => first | (simp only [List.length_nil]; omega) | omega | decide); k_whole); intro wt' wtk'; (try simp only [List.length_nil])))
  (k_with "UnrEnd" => refine Mine.unhold ?_)
  trivial
namespace Mine
section
variable {prog : Program} {w : World} {p : Program} {loose : List Str} {mean : ExcName → Option Value} {mg mb : Str → Option Value}
variable {dp un : Nat} {gd : Option (List Code)} {cn : Str} {cs : Scope} {a : Addr} {ccd : Value} {cl : List (Str × Addr)} {outer : List Env} {A₀ : Around} {base h₀ : Heap} {L : Addr} {m : Str → Option Value} {s : Shared} {Q E : Value → Shared → Prop} {l rest : Led}
theorem code {C : Type} {RC : Led → Value → C → Prop} {x pc : Addr} {ls ns : Int} {v : Value} {nd : Nd C} {pcs : List Value} {out : List UInt8} {n : Nat}
    (B : Below A₀ base outer h₀) (F : Fr h₀ L s.heap m) (X : (hd.heap_1 w.params).In h₀) (N : News h₀ L s.heap l) (T : Top p loose mean mg mb h₀) (hk : cs.kind = .function) (hd : dp + 15 < recursionLimit) (hu : un + 120 < cLine)
    (hW : WAt w.params l x pc ls ns) (pk : Pick (pc, listOf pcs.toArray n) l rest) (hne : ∀ q ∈ rest, q.1 ≠ pc) (hP : PcsAre pcs out) (hlen : pcs.length ≤ 980)
    (hT : NdIn w.params RC rest v nd)
    (ret : ∀ h' tk' pcs' n', PcsAre pcs' (out ++ le 0 4) → pcs'.length = pcs.length + 1 → Fr h₀ L h' m → News h₀ L h' ((pc, listOf pcs'.toArray n') :: rest) → Q .none { s with heap := h', toks := tk' }) :
    wpAny (model prog w) (ktrTop dp un gd cn cs L a ccd cl outer) (call (.ref 187) [.ref x, v]) Q E s := by
  have N := pk.news N
  have hW := hW.pick pk
  clear pk
  refine WAt.elim hW ?_
  intro dx k1 k2 k3 k4 t3 t4 nd hx hdx
  refine NdIn.elim (G := fun v => wpAny _ _ (call _ [_, v]) _ _ _) hT ?_
  intro a1 da l1 lc lp l2 l3 l4 nx0 n1 n2 n3 n4 n5 n6 cvs pvs v0 v1 v2 t0 t1 t2 t3 t4 t5 t6 _ _ _ _ _ _ _ _ _ _ _ _ _ _ _ _ hT m1 m2 m4 m5 m6 m7 m8 m9 hc ht z1 z2
  k_extra "M:enter"
  k_steps
  all_goals exact ret _ _ _ _ (by assumption) (by omega) (by assumption) (by assumption)
theorem lnames {C : Type} {RC : Led → Value → C → Prop} {x pc : Addr} {ls ns : Int} {v : Value} {nd : Nd C} {pcs : List Value} {out : List UInt8} {n : Nat}
    (B : Below A₀ base outer h₀) (F : Fr h₀ L s.heap m) (X : (hd.heap_1 w.params).In h₀) (N : News h₀ L s.heap l) (T : Top p loose mean mg mb h₀) (hk : cs.kind = .function) (hd : dp + 15 < recursionLimit) (hu : un + 120 < cLine)
    (hW : WAt w.params l x pc ls ns) (pk : Pick (pc, listOf pcs.toArray n) l rest) (hne : ∀ q ∈ rest, q.1 ≠ pc) (hP : PcsAre pcs out) (hlen : pcs.length ≤ 980)
    (hT : NdIn w.params RC rest v nd)
    (ret : ∀ h' tk' pcs' n', PcsAre pcs' (out ++ le 0 4 ++ le 0 4 ++ le 0 4) → pcs'.length = pcs.length + 3 → Fr h₀ L h' m → News h₀ L h' ((pc, listOf pcs'.toArray n') :: rest) → Q .none { s with heap := h', toks := tk' }) :
    wpAny (model prog w) (ktrTop dp un gd cn cs L a ccd cl outer) (call (.ref 194) [.ref x, v]) Q E s := by
  have N := pk.news N
  have hW := hW.pick pk
  clear pk
  refine WAt.elim hW ?_
  intro dx k1 k2 k3 k4 t3 t4 nd hx hdx
  refine NdIn.elim (G := fun v => wpAny _ _ (call _ [_, v]) _ _ _) hT ?_
  intro a1 da l1 lc lp l2 l3 l4 nx0 n1 n2 n3 n4 n5 n6 cvs pvs v0 v1 v2 t0 t1 t2 t3 t4 t5 t6 _ _ _ _ _ _ _ _ _ _ _ _ _ _ _ _ hT m1 m2 m4 m5 m6 m7 m8 m9 hc ht z1 z2
  k_extra "M:enter"
  k_steps
  all_goals exact ret _ _ _ _ (by assumption) (by omega) (by assumption) (by assumption)
end
end Mine
end
section
theorem Mine.sayCconstants : True := by
  k_with_none
  (k_with "M:ne" => first | assumption | omega)
  (k_with "M:all" => first | assumption | exact List.forall_mem_nil _ | (refine' Mine.ne_cons ?wa ?wb; (case wa => k_extra "M:ne"); (case wb => k_all)) | (refine' tbn_neAll ?wkah; (case wkah => k_extra "M:conj")))
  (k_with "M:upd" => first | (refine' Upd.head ?wa; (case wa => k_all)) | (refine' Mine.upd_tail ?wa ?wb; (case wa => k_extra "M:ne"); (case wb => k_upd)))
  (k_with "M:conj" => first | assumption | (refine' And.right ?_; assumption) | (refine' And.right (And.right ?_); assumption) | (refine' And.right (And.right (And.right ?_)); assumption) | (refine' And.right (And.right (And.right (And.right ?_))); assumption) | (refine' And.right (And.right (And.right (And.right (And.right ?_)))); assumption))
  (k_with "M:mem" => first | assumption | exact List.mem_cons_self | (refine' List.mem_cons_of_mem _ ?_; k_extra "M:mem"))
  (k_with "M:in" => first | assumption | exact Frag.In.keeps (by k_asm) (Fr.keep (by k_asm)))
  (k_with "M:news" => k_dflt k_mem)
  (k_with "M:enter" => (refine wpAny_call ?_; k_dflt ktr_enter))
  (k_with "M:enterC" => (refine wpAny_call ?_; k_dflt (refine' code_defC ?wk1 ?wk2 ?wk3 ?wk4 ?wk5 ?wkA ?kF ?kK ?wk6 ?wk7 ?wk8 ?wk9 ?kB ?wkD ?_ ?wc2 ?wc3 ?wc4; (case wkA => exact rfl); (case kF => exact rfl); (case kK => assumption); (case wk1 => k_asm); (case wk2 => k_asm); (case wk3 => k_asm); (case wk4 => k_asm); (case wk5 => k_asm); (case wk6 => k_is); (case wk7 => k_is); (case wk8 => ktr_room); (case wk9 => first | exact BindsTo.of_eq rfl | exact binds_K (by k_in) rfl (by k_is) rfl rfl rfl | fail "k_enter: no rule for these arguments"); (case kB => exact rfl); (case wkD => decide +kernel); (case wc2 => exact rfl); (case wc3 => exact rfl); (case wc4 => exact rfl); k_whole; intro wg' wL' wh' wtk' wcells' wFG' wF' wN' wY' wB' wX' wT' wl1; (try k_lt wl1); k_cells wY'; (try simp only [List.cons_append, List.nil_append] at wN'); (try dsimp only); (try k_lift wB'); (try k_fold))))
  (k_with "M:base" => ((case kB => k_asm); (case kF => k_asm); (case kX => k_asm); (case kN => k_asm); (case kT => k_asm); (case kK => first | exact rfl | assumption); (case kd => ktr_room); (case ku => ktr_units)))
  (k_with "M:pick" => first | exact Mine.Pick.head | (apply Mine.Pick.tail; k_extra "M:pick"))
  (k_with "M:room" => ktr_room)
  (k_with "call builtin:list.append" => (k_here; (with_reducible show wpAny _ _ (call (Value.builtin _) [Value.ref _, _]) _ _ _); k_dflt (refine' append_K ?wk1 ?wk2 ?wk3 ?_ ?wz; (case wk1 => k_asm); (case wk2 => k_asm); (case wk3 => k_upd); (case wz => first | size_fits | ((try simp only [List.size_toArray, sizeLine_eq]); omega)); k_whole); intro wh' wF' wN'; (try simp only [List.push_toArray] at wN'); (try k_sweep)))
  (k_with "M:enterD" => (refine wpAny_call ?_; k_dflt (refine' code_def ?wk1 ?wk2 ?wk3 ?wk4 ?wk5 ?wkA ?kF ?kK ?wk6 ?wk7 ?wk8 ?wk9 ?kB ?_ ?wc2 ?wc3 ?wc4 ?wc5; (case wkA => exact rfl); (case kF => exact rfl); (case kK => assumption); (case wk1 => k_asm); (case wk2 => k_asm); (case wk3 => k_asm); (case wk4 => k_asm); (case wk5 => k_asm); (case wk6 => k_is); (case wk7 => k_is); (case wk8 => ktr_room); (case wk9 => first | exact BindsTo.of_eq rfl | exact binds_K (by k_in) rfl (by k_is) rfl rfl rfl | fail "enterD: no rule for these arguments"); (case wc5 => decide); (case kB => exact locs rfl); (case wc2 => exact rfl); (case wc3 => exact rfl); (case wc4 => exact rfl); k_whole; intro wg' wL' wh' wFG' wF' wN' wB' wX' wT'; (try dsimp only); (try k_fold))))
  (k_with "M:P" => first | assumption | exact Mine.PcsAre.snoc _ _ (by assumption))
  (k_with "M:len" => first | omega | ((simp only [List.length_append, List.length_cons, List.length_nil]); omega))
  (k_with "M:W" => first | assumption | (refine' Mine.WAt.mono ?whh ?wss; (case whh => assumption); (case wss => kcf_all)))
  (k_with "M:pow" => first | exact Mine.pow_four (by omega) | exact Mine.pow_one (by omega) (by omega) | exact Mine.pow_one (by omega) (by decide) | assumption)
  (k_with "call ref" => (k_here; (with_reducible show wpAny _ _ (call (Value.ref 138) _) _ _ _); k_dflt (refine' Mine.whole ?kB ?kF ?kX ?kN ?kT ?kK ?kd ?ku ?wkW ?wkp ?wkn ?wkP ?wkl ?wk0 ?wk1 ?wk2 ?wk3 ?_; k_extra "M:base"; (case wkW => k_extra "M:W"); (case wkp => k_extra "M:pick"); (case wkn => k_all); (case wkP => k_extra "M:P"); (case wkl => k_extra "M:len"); (case wk0 => omega); (case wk1 => omega); (case wk2 => omega); (case wk3 => k_extra "M:pow"); k_whole); intro wh' wtk' wpcs' wn' whP' whl' wF' wN'; (try k_fold)))
  (k_with "call ref" => (k_here; (with_reducible show wpAny _ _ (call (Value.ref 145) _) _ _ _); k_dflt (refine' Mine.octet ?kB ?kF ?kX ?kN ?kT ?kK ?kd ?ku ?wkW ?wkp ?wkn ?wkP ?wkl ?wk0 ?wk1 ?_; k_extra "M:base"; (case wkW => k_extra "M:W"); (case wkp => k_extra "M:pick"); (case wkn => k_all); (case wkP => k_extra "M:P"); (case wkl => k_extra "M:len"); (case wk0 => omega); (case wk1 => omega); k_whole); intro wh' wtk' wpcs' wn' whP' whl' wF' wN'; (try k_fold)))
  (k_with "call ref" => (k_here; (with_reducible show wpAny _ _ (call (Value.ref 152) _) _ _ _); k_dflt (refine' Mine.integer ?kB ?kF ?kX ?kN ?kT ?kK ?kd ?ku ?wkW ?wkp ?wkn ?wkP ?wkl ?wk0 ?wk1 ?_; k_extra "M:base"; (case wkW => k_extra "M:W"); (case wkp => k_extra "M:pick"); (case wkn => k_all); (case wkP => k_extra "M:P"); (case wkl => k_extra "M:len"); (case wk0 => omega); (case wk1 => omega); k_whole); intro wh' wtk' wpcs' wn' whP' whl' wF' wN'; (try k_fold)))
  (k_with "leaving ref" => (k_here; k_dflt (refine' leave_onN ?wK ?wF ?wR ?wU ?_; (case wR => assumption); (case wU => assumption); (case wF => assumption); (case wK => assumption); k_whole); intro wh' wR' wU'))
  (k_with "call ref" => (k_here; (with_reducible show wpAny _ _ (call (Value.ref 159) _) _ _ _); k_dflt (refine' Mine.number ?kB ?kF ?kX ?kN ?kT ?kK ?kd ?ku ?wkW ?wkp ?wkn ?wkP ?wkl ?wk0 ?wk1 ?_ ?_; k_extra "M:base"; (case wkW => k_extra "M:W"); (case wkp => k_extra "M:pick"); (case wkn => k_all); (case wkP => k_extra "M:P"); (case wkl => k_extra "M:len"); (case wk0 => omega); (case wk1 => omega); rotate_left; intro we' wh' wtk' wg2' whf' wF' wU' wR'; rotate_right); intro wh' wtk' wpcs' wn' whf' whP' whl' wF' wN'; (try k_fold)))
  (k_with "call ref" => (k_here; (with_reducible show wpAny _ _ (call (Value.ref 173) _) _ _ _); k_dflt (refine' Mine.constant ?kB ?kF ?kX ?kN ?kT ?kK ?kd ?ku ?wkW ?wkp ?wkn ?wkP ?wkl ?wk0 ?wk1 ?wk2 ?wk3 ?wk4 ?_ ?_; k_extra "M:base"; (case wkW => k_extra "M:W"); (case wkp => k_extra "M:pick"); (case wkn => k_all); (case wkP => k_extra "M:P"); (case wkl => k_extra "M:len"); (case wk0 => omega); (case wk1 => omega); (case wk2 => omega); (case wk3 => omega); (case wk4 => assumption); rotate_left; intro we' wh' wtk' wg2' whf' wF' wU' wR'; rotate_right); intro wh' wtk' wpcs' wn' whf' whP' whl' wF' wN'; (try k_fold)))
  (k_with "exec For" => (k_here; (rename Fr _ _ _ _ => wlF'); (with_unfolding_all refine' For_invVF wlF' ?wk1 ?wk2 ?_; (case wk1 => exact rfl); (case wk2 => exact rfl); k_whole)))
  (k_with "exec For Name Attribute cons nil" => (walk_at "exec For"))
  (k_with "M:pyIter ref" => ((with_reducible show wpAny _ _ (pyIter (Value.ref _)) (fun it s₂ => LoopAtV _ _ _ _ _ _ _ _ _ it s₂) _ _); k_here; k_dflt (refine' iter_listUnr ?whh ?wF ?wN ?whm ?whc ?whd ?_; (case whh => rfl); (case wF => k_asm); (case wN => k_asm); (case whm => k_mem); (case whc => rfl); (case whd => rfl); k_whole); intro wI' wl1; (try k_lt wl1)))
  (k_with "call builtin:len" => (k_here; (with_reducible show wpAny _ _ (call (Value.builtin "len") [Value.ref _]) _ _ _); k_dflt (refine' Mine.len_led ?wN ?wm ?wz ?_; (case wN => k_asm); (case wm => k_mem); (case wz => first | (simp only [List.length_nil]; omega) | omega | decide); k_whole); intro wt' wtk'; (try simp only [List.length_nil])))
  (k_with "UnrEnd" => refine Mine.unhold ?_)
  (k_with "ListRest" => refine Mine.unhold ?_)
  (k_with "call ref" => (k_here; (with_reducible show wpAny _ _ (call (Value.ref 201) _) _ _ _); k_dflt (rename FnSpec _ _ _ _ _ _ _ _ _ _ _ _ _ _ => whS; refine' whS ?kB ?kF ?kX ?kN ?kT ?kK ?kd ?ku ?wkW ?wkp ?wkn ?wkP ?wkl ?wk0 ?wk1 ?_ ?_; k_extra "M:base"; (case wkW => k_extra "M:W"); (case wkp => k_extra "M:pick"); (case wkn => k_all); (case wkP => k_extra "M:P"); (case wkl => omega); (case wk0 => assumption); (case wk1 => kcf_all); rotate_left; intro we' wh' wtk' wg2' whf' wF' wU' wR'; rotate_right); intro wh' wtk' wpcs' wn' whf' whP' whl' wF' wN'; (try k_fold)))
  trivial
namespace Mine
section
variable {prog : Program} {w : World} {p : Program} {loose : List Str} {mean : ExcName → Option Value} {mg mb : Str → Option Value}
variable {dp un : Nat} {gd : Option (List Code)} {cn : Str} {cs : Scope} {a : Addr} {ccd : Value} {cl : List (Str × Addr)} {outer : List Env} {A₀ : Around} {base h₀ : Heap} {L : Addr} {m : Str → Option Value} {s : Shared} {Q E : Value → Shared → Prop} {l rest : Led}
theorem constants {C : Type} {RC : Led → Value → C → Prop} {enc : C → List UInt8} {fit : C → Prop} {H np : Nat} {x pc : Addr} {ls ns : Int} {v : Value} {nd : Nd C} {pcs : List Value} {out : List UInt8} {n : Nat}
    (hS : FnSpec prog w p loose mean mg mb ls ns H np RC enc fit)
    (B : Below A₀ base outer h₀) (F : Fr h₀ L s.heap m) (X : (hd.heap_1 w.params).In h₀) (N : News h₀ L s.heap l) (T : Top p loose mean mg mb h₀) (hk : cs.kind = .function) (hd : dp + (H + 18) < recursionLimit) (hu : un + 8 * (H + 18) < cLine)
    (hW : WAt w.params l x pc ls ns) (pk : Pick (pc, listOf pcs.toArray n) l rest) (hne : ∀ q ∈ rest, q.1 ≠ pc) (hP : PcsAre pcs out) (hlen : pcs.length + (14 + 2 * np) ≤ 980)
    (hls : 1 ≤ ls) (hls' : ls ≤ 8) (hns : 1 ≤ ns) (hns' : ns ≤ 8) (hT : NdIn w.params RC rest v nd)
    (ret : ∀ h' tk' pcs' n', NFits ns fit nd → PcsAre pcs' (out ++ encB ls ns enc nd) → pcs'.length ≤ pcs.length + (14 + 2 * np) → Fr h₀ L h' m → News h₀ L h' ((pc, listOf pcs'.toArray n') :: rest) → Q .none { s with heap := h', toks := tk' })
    (exc : ∀ e h' tk' g₂, ¬ NFits ns fit nd → Fr h₀ L g₂ m → g₂.UpToSlots h' → RaisedN base (envX cn cs L a ccd cl :: outer) e (.ref 53) rest h' → E (.ref e) { s with heap := h', toks := tk' }) :
    wpAny (model prog w) (ktrTop dp un gd cn cs L a ccd cl outer) (call (.ref 180) [.ref x, v]) Q E s := by
  have N := pk.news N
  have hW := hW.pick pk
  clear pk
  refine WAt.elim hW ?_
  intro dx k1 k2 k3 k4 t3 t4 nw0 hx hdx
  refine NdIn.elim (G := fun v => wpAny _ _ (call _ [_, v]) _ _ _) hT ?_
  intro a1 da l1 lc lp l2 l3 l4 nx0 n1 n2 n3 n4 n5 n6 cvs pvs v0 v1 v2 t0 t1 t2 t3 t4 t5 t6 _ _ _ _ _ _ _ _ _ _ _ _ _ _ _ _ hT m1 m2 m4 m5 m6 m7 m8 m9 hc ht z1 z2
  have hcl := hc.len
  have htl := ht.len
  k_extra "M:enter"
  k_steps
  unfold Hold
  (rename PcsAre _ (out ++ _) => hP1)
  (rename (List.length _ = pcs.length + 1) => hl1)
  refine listRest_ind (fun pre nw => ∃ pcs1 n1 c1 c2, nd.cs = c1 ++ c2 ∧ c1.length = pre.length ∧ (∀ c ∈ c1, CFits ns c) ∧ nw = (pc, listOf pcs1.toArray n1) :: rest ∧ PcsAre pcs1 (out ++ le cvs.length 4 ++ encL (encC ls ns) c1) ∧ pcs1.length ≤ pcs.length + 1 + 4 * c1.length)
    ⟨_, _, [], nd.cs, rfl, rfl, (fun _ h => nomatch h), rfl, by simpa [encL_nil] using hP1, by simp only [List.length_nil]; omega⟩ (by k_mem) (by k_all) ?step ?done
  case step =>
    rintro pre v post nw it h tk e ⟨pcs1, n1', c1, c2, e1, e2, hf, rfl, hP2, hl2⟩ hlp hI F2 N2
    obtain ⟨b1, b, b2, e3, e4, hb⟩ := All2.split (e ▸ hc)
    obtain ⟨rfl, rfl⟩ := List.append_inj (e1.symm.trans e3) (by omega)
    have hc3 : c1.length + 1 ≤ 3 := by have := congrArg List.length e1; simp only [List.length_append, List.length_cons] at this; omega
    try k_fold
    k_steps
    · unfold Hold
      refine end_pc (by assumption) (by assumption) (by k_all) ⟨List.mem_cons_of_mem _ (by assumption), rfl, _, _, c1 ++ [b], b2, by rw [e1]; simp, by simp [e2], ?_, rfl, by rw [encL_snoc, ← List.append_assoc]; assumption, by simp only [List.length_append, List.length_cons, List.length_nil]; omega⟩
      intro c hc'
      rcases List.mem_append.mp hc' with h | h
      · exact hf c h
      · rw [List.mem_singleton.mp h]; assumption
    · exact exc _ _ _ _ (fun hh => absurd (hh.1 b (by rw [e1]; simp)) (by assumption)) (by assumption) (by assumption) (RaisedN.mono (by assumption) fun q hq => List.mem_cons_of_mem _ hq)
  case done =>
    rintro nw h tk u ⟨pcs1, n1', c1, c2, e1, e2, hf, rfl, hP2, hl2⟩ F2 N2
    have hc2 : c2 = [] := by
      have := congrArg List.length e1
      rw [List.length_append] at this
      exact List.eq_nil_of_length_eq_zero (by omega)
    subst hc2
    rw [List.append_nil] at e1
    subst e1
    try k_fold
    k_steps
    unfold Hold
    (rename PcsAre _ (_ ++ le pvs.length 4) => hP4)
    refine listRest_ind (fun pre nw => ∃ pcs1 n1 c1 c2, nd.ts = c1 ++ c2 ∧ c1.length = pre.length ∧ (∀ c ∈ c1, fit c) ∧ nw = (pc, listOf pcs1.toArray n1) :: rest ∧ PcsAre pcs1 (out ++ le cvs.length 4 ++ encL (encC ls ns) nd.cs ++ le pvs.length 4 ++ encL enc c1) ∧ pcs1.length ≤ pcs.length + 14 + np * c1.length)
      ⟨_, _, [], nd.ts, rfl, rfl, (fun _ h => nomatch h), rfl, by simpa [encL_nil] using hP4, by simp only [List.length_nil]; omega⟩ (by k_mem) (by k_all) ?step2 ?done2
    case step2 =>
      rintro pre v post nw it h tk e ⟨pcs3, n3', c1, c2, e1, e2, hf2, rfl, hP5, hl5⟩ hlp hI F2 N2
      obtain ⟨b1, b, b2, e3, e4, hb⟩ := All2.split (e ▸ ht)
      obtain ⟨rfl, rfl⟩ := List.append_inj (e1.symm.trans e3) (by omega)
      have hc3 : c1.length + 1 ≤ 2 := by have := congrArg List.length e1; simp only [List.length_append, List.length_cons] at this; omega
      have hm3 : np * c1.length + np ≤ 2 * np := by
        have h1 : np * (c1.length + 1) ≤ np * 2 := Nat.mul_le_mul_left _ hc3
        rw [Nat.mul_add, Nat.mul_one] at h1
        omega
      try k_fold
      k_steps
      · unfold Hold
        refine end_pc (by assumption) (by assumption) (by k_all) ⟨List.mem_cons_of_mem _ (by assumption), rfl, _, _, c1 ++ [b], b2, by rw [e1]; simp, by simp [e2], ?_, rfl, by rw [encL_snoc, ← List.append_assoc]; assumption, by simp only [List.length_append, List.length_cons, List.length_nil, Nat.mul_add, Nat.mul_one]; omega⟩
        intro c hc'
        rcases List.mem_append.mp hc' with h | h
        · exact hf2 c h
        · rw [List.mem_singleton.mp h]; assumption
      · exact exc _ _ _ _ (fun hh => absurd (hh.2 b (by rw [e1]; simp)) (by assumption)) (by assumption) (by assumption) (RaisedN.mono (by assumption) fun q hq => List.mem_cons_of_mem _ hq)
    case done2 =>
      rintro nw h tk u ⟨pcs3, n3', c1, c2, e1, e2, hf2, rfl, hP5, hl5⟩ F2 N2
      have hc2 : c2 = [] := by
        have := congrArg List.length e1
        rw [List.length_append] at this
        exact List.eq_nil_of_length_eq_zero (by omega)
      subst hc2
      rw [List.append_nil] at e1
      subst e1
      have hm3 : np * nd.ts.length ≤ 2 * np := by rw [Nat.mul_comm 2]; exact Nat.mul_le_mul_left _ z2
      try k_fold
      k_steps
      exact ret _ _ _ _ ⟨hf, hf2⟩ (by unfold encB; rw [← hcl, ← htl]; simp only [← List.append_assoc]; assumption) (by omega) (by assumption) (by assumption)
end
end Mine
end
section
theorem Mine.sayCfunction : True := by
  k_with_none
  (k_with "M:ne" => first | assumption | omega)
  (k_with "M:all" => first | assumption | exact List.forall_mem_nil _ | (refine' Mine.ne_cons ?wa ?wb; (case wa => k_extra "M:ne"); (case wb => k_all)) | (refine' tbn_neAll ?wkah; (case wkah => k_extra "M:conj")))
  (k_with "M:upd" => first | (refine' Upd.head ?wa; (case wa => k_all)) | (refine' Mine.upd_tail ?wa ?wb; (case wa => k_extra "M:ne"); (case wb => k_upd)))
  (k_with "M:conj" => first | assumption | (refine' And.right ?_; assumption) | (refine' And.right (And.right ?_); assumption) | (refine' And.right (And.right (And.right ?_)); assumption) | (refine' And.right (And.right (And.right (And.right ?_))); assumption) | (refine' And.right (And.right (And.right (And.right (And.right ?_)))); assumption))
  (k_with "M:mem" => first | assumption | exact List.mem_cons_self | (refine' List.mem_cons_of_mem _ ?_; k_extra "M:mem"))
  (k_with "M:in" => first | assumption | exact Frag.In.keeps (by k_asm) (Fr.keep (by k_asm)))
  (k_with "M:news" => k_dflt k_mem)
  (k_with "M:enter" => (refine wpAny_call ?_; k_dflt ktr_enter))
  (k_with "M:enterC" => (refine wpAny_call ?_; k_dflt (refine' code_defC ?wk1 ?wk2 ?wk3 ?wk4 ?wk5 ?wkA ?kF ?kK ?wk6 ?wk7 ?wk8 ?wk9 ?kB ?wkD ?_ ?wc2 ?wc3 ?wc4; (case wkA => exact rfl); (case kF => exact rfl); (case kK => assumption); (case wk1 => k_asm); (case wk2 => k_asm); (case wk3 => k_asm); (case wk4 => k_asm); (case wk5 => k_asm); (case wk6 => k_is); (case wk7 => k_is); (case wk8 => ktr_room); (case wk9 => first | exact BindsTo.of_eq rfl | exact binds_K (by k_in) rfl (by k_is) rfl rfl rfl | fail "k_enter: no rule for these arguments"); (case kB => exact rfl); (case wkD => decide +kernel); (case wc2 => exact rfl); (case wc3 => exact rfl); (case wc4 => exact rfl); k_whole; intro wg' wL' wh' wtk' wcells' wFG' wF' wN' wY' wB' wX' wT' wl1; (try k_lt wl1); k_cells wY'; (try simp only [List.cons_append, List.nil_append] at wN'); (try dsimp only); (try k_lift wB'); (try k_fold))))
  (k_with "M:base" => ((case kB => k_asm); (case kF => k_asm); (case kX => k_asm); (case kN => k_asm); (case kT => k_asm); (case kK => first | exact rfl | assumption); (case kd => ktr_room); (case ku => ktr_units)))
  (k_with "M:pick" => first | exact Mine.Pick.head | (apply Mine.Pick.tail; k_extra "M:pick"))
  (k_with "M:room" => ktr_room)
  (k_with "call builtin:list.append" => (k_here; (with_reducible show wpAny _ _ (call (Value.builtin _) [Value.ref _, _]) _ _ _); k_dflt (refine' append_K ?wk1 ?wk2 ?wk3 ?_ ?wz; (case wk1 => k_asm); (case wk2 => k_asm); (case wk3 => k_upd); (case wz => first | size_fits | ((try simp only [List.size_toArray, sizeLine_eq]); omega)); k_whole); intro wh' wF' wN'; (try simp only [List.push_toArray] at wN'); (try k_sweep)))
  (k_with "M:enterD" => (refine wpAny_call ?_; k_dflt (refine' code_def ?wk1 ?wk2 ?wk3 ?wk4 ?wk5 ?wkA ?kF ?kK ?wk6 ?wk7 ?wk8 ?wk9 ?kB ?_ ?wc2 ?wc3 ?wc4 ?wc5; (case wkA => exact rfl); (case kF => exact rfl); (case kK => assumption); (case wk1 => k_asm); (case wk2 => k_asm); (case wk3 => k_asm); (case wk4 => k_asm); (case wk5 => k_asm); (case wk6 => k_is); (case wk7 => k_is); (case wk8 => ktr_room); (case wk9 => first | exact BindsTo.of_eq rfl | exact binds_K (by k_in) rfl (by k_is) rfl rfl rfl | fail "enterD: no rule for these arguments"); (case wc5 => decide); (case kB => exact locs rfl); (case wc2 => exact rfl); (case wc3 => exact rfl); (case wc4 => exact rfl); k_whole; intro wg' wL' wh' wFG' wF' wN' wB' wX' wT'; (try dsimp only); (try k_fold))))
  (k_with "M:P" => first | assumption | exact Mine.PcsAre.snoc _ _ (by assumption))
  (k_with "M:len" => first | omega | ((simp only [List.length_append, List.length_cons, List.length_nil]); omega))
  (k_with "M:W" => first | assumption | (refine' Mine.WAt.mono ?whh ?wss; (case whh => assumption); (case wss => kcf_all)))
  (k_with "M:pow" => first | exact Mine.pow_four (by omega) | exact Mine.pow_one (by omega) (by omega) | exact Mine.pow_one (by omega) (by decide) | assumption)
  (k_with "call ref" => (k_here; (with_reducible show wpAny _ _ (call (Value.ref 138) _) _ _ _); k_dflt (refine' Mine.whole ?kB ?kF ?kX ?kN ?kT ?kK ?kd ?ku ?wkW ?wkp ?wkn ?wkP ?wkl ?wk0 ?wk1 ?wk2 ?wk3 ?_; k_extra "M:base"; (case wkW => k_extra "M:W"); (case wkp => k_extra "M:pick"); (case wkn => k_all); (case wkP => k_extra "M:P"); (case wkl => k_extra "M:len"); (case wk0 => omega); (case wk1 => omega); (case wk2 => omega); (case wk3 => k_extra "M:pow"); k_whole); intro wh' wtk' wpcs' wn' whP' whl' wF' wN'; (try k_fold)))
  (k_with "call ref" => (k_here; (with_reducible show wpAny _ _ (call (Value.ref 145) _) _ _ _); k_dflt (refine' Mine.octet ?kB ?kF ?kX ?kN ?kT ?kK ?kd ?ku ?wkW ?wkp ?wkn ?wkP ?wkl ?wk0 ?wk1 ?_; k_extra "M:base"; (case wkW => k_extra "M:W"); (case wkp => k_extra "M:pick"); (case wkn => k_all); (case wkP => k_extra "M:P"); (case wkl => k_extra "M:len"); (case wk0 => omega); (case wk1 => omega); k_whole); intro wh' wtk' wpcs' wn' whP' whl' wF' wN'; (try k_fold)))
  (k_with "call ref" => (k_here; (with_reducible show wpAny _ _ (call (Value.ref 152) _) _ _ _); k_dflt (refine' Mine.integer ?kB ?kF ?kX ?kN ?kT ?kK ?kd ?ku ?wkW ?wkp ?wkn ?wkP ?wkl ?wk0 ?wk1 ?_; k_extra "M:base"; (case wkW => k_extra "M:W"); (case wkp => k_extra "M:pick"); (case wkn => k_all); (case wkP => k_extra "M:P"); (case wkl => k_extra "M:len"); (case wk0 => omega); (case wk1 => omega); k_whole); intro wh' wtk' wpcs' wn' whP' whl' wF' wN'; (try k_fold)))
  (k_with "call ref" => (k_here; (with_reducible show wpAny _ _ (call (Value.ref 166) [_, Value.none]) _ _ _); k_dflt (refine' Mine.textN ?kB ?kF ?kX ?kN ?kT ?kK ?kd ?ku ?wkW ?wkp ?wkn ?wkP ?wkl ?wk0 ?wk1 ?_; k_extra "M:base"; (case wkW => k_extra "M:W"); (case wkp => k_extra "M:pick"); (case wkn => k_all); (case wkP => k_extra "M:P"); (case wkl => k_extra "M:len"); (case wk0 => omega); (case wk1 => omega); k_whole); intro wh' wtk' wpcs' wn' whP' whl' wF' wN'; (try k_fold)))
  (k_with "call ref" => (k_here; (with_reducible show wpAny _ _ (call (Value.ref 166) [_, Value.bytes _ _]) _ _ _); k_dflt (refine' Mine.textB ?kB ?kF ?kX ?kN ?kT ?kK ?kd ?ku ?wkW ?wkp ?wkn ?wkP ?wkl ?wk0 ?wk1 ?wk2 ?_; k_extra "M:base"; (case wkW => k_extra "M:W"); (case wkp => k_extra "M:pick"); (case wkn => k_all); (case wkP => k_extra "M:P"); (case wkl => k_extra "M:len"); (case wk0 => omega); (case wk1 => omega); (case wk2 => first | decide | assumption | omega); k_whole); intro wh' wtk' wpcs' wn' whP' whl' wF' wN'; (try k_fold)))
  (k_with "leaving ref" => (k_here; k_dflt (refine' leave_onN ?wK ?wF ?wR ?wU ?_; (case wR => assumption); (case wU => assumption); (case wF => assumption); (case wK => assumption); k_whole); intro wh' wR' wU'))
  (k_with "call ref" => (k_here; (with_reducible show wpAny _ _ (call (Value.ref 159) _) _ _ _); k_dflt (refine' Mine.number ?kB ?kF ?kX ?kN ?kT ?kK ?kd ?ku ?wkW ?wkp ?wkn ?wkP ?wkl ?wk0 ?wk1 ?_ ?_; k_extra "M:base"; (case wkW => k_extra "M:W"); (case wkp => k_extra "M:pick"); (case wkn => k_all); (case wkP => k_extra "M:P"); (case wkl => k_extra "M:len"); (case wk0 => omega); (case wk1 => omega); rotate_left; intro we' wh' wtk' wg2' whf' wF' wU' wR'; rotate_right); intro wh' wtk' wpcs' wn' whf' whP' whl' wF' wN'; (try k_fold)))
  (k_with "call ref" => (k_here; (with_reducible show wpAny _ _ (call (Value.ref 187) _) _ _ _); k_dflt (refine' Mine.code ?kB ?kF ?kX ?kN ?kT ?kK ?kd ?ku ?wkW ?wkp ?wkn ?wkP ?wkl ?wk0 ?_; k_extra "M:base"; (case wkW => k_extra "M:W"); (case wkp => k_extra "M:pick"); (case wkn => k_all); (case wkP => k_extra "M:P"); (case wkl => k_extra "M:len"); (case wk0 => assumption); k_whole); intro wh' wtk' wpcs' wn' whP' whl' wF' wN'; (try k_fold)))
  (k_with "call ref" => (k_here; (with_reducible show wpAny _ _ (call (Value.ref 194) _) _ _ _); k_dflt (refine' Mine.lnames ?kB ?kF ?kX ?kN ?kT ?kK ?kd ?ku ?wkW ?wkp ?wkn ?wkP ?wkl ?wk0 ?_; k_extra "M:base"; (case wkW => k_extra "M:W"); (case wkp => k_extra "M:pick"); (case wkn => k_all); (case wkP => k_extra "M:P"); (case wkl => k_extra "M:len"); (case wk0 => assumption); k_whole); intro wh' wtk' wpcs' wn' whP' whl' wF' wN'; (try k_fold)))
  (k_with "call ref" => (k_here; (with_reducible show wpAny _ _ (call (Value.ref 180) _) _ _ _); k_dflt (refine' Mine.constants ?wkS ?kB ?kF ?kX ?kN ?kT ?kK ?kd ?ku ?wkW ?wkp ?wkn ?wkP ?wkl ?wk0 ?wk1 ?wk2 ?wk3 ?wk4 ?_ ?_; (case wkS => assumption); k_extra "M:base"; (case wkW => k_extra "M:W"); (case wkp => k_extra "M:pick"); (case wkn => k_all); (case wkP => k_extra "M:P"); (case wkl => k_extra "M:len"); (case wk0 => omega); (case wk1 => omega); (case wk2 => omega); (case wk3 => omega); (case wk4 => assumption);  rotate_left; intro we' wh' wtk' wg2' whf' wF' wU' wR'; rotate_right); intro wh' wtk' wpcs' wn' whf' whP' whl' wF' wN'; (try k_fold)))
  (k_with "compareOp NotEq bytes none" => refine Mine.ne_bytes_none ?_)
  trivial
namespace Mine
section
variable {prog : Program} {w : World} {p : Program} {loose : List Str} {mean : ExcName → Option Value} {mg mb : Str → Option Value}
variable {dp un : Nat} {gd : Option (List Code)} {cn : Str} {cs : Scope} {a : Addr} {ccd : Value} {cl : List (Str × Addr)} {outer : List Env} {A₀ : Around} {base h₀ : Heap} {L : Addr} {m : Str → Option Value} {s : Shared} {Q E : Value → Shared → Prop} {l rest : Led}
theorem functionI {C : Type} {RC : Led → Value → C → Prop} {enc : C → List UInt8} {fit : C → Prop} {H np : Nat} {x pc : Addr} {ls ns : Int} {v : Value} {nd : Nd C} {pcs : List Value} {out : List UInt8} {n : Nat} {tb : Tok}
    (hS : FnSpec prog w p loose mean mg mb ls ns H np RC enc fit)
    (B : Below A₀ base outer h₀) (F : Fr h₀ L s.heap m) (X : (hd.heap_1 w.params).In h₀) (N : News h₀ L s.heap l) (T : Top p loose mean mg mb h₀) (hk : cs.kind = .function) (hd : dp + (H + 20) < recursionLimit) (hu : un + 8 * (H + 20) < cLine)
    (hW : WAt w.params l x pc ls ns) (pk : Pick (pc, listOf pcs.toArray n) l rest) (hne : ∀ q ∈ rest, q.1 ≠ pc) (hP : PcsAre pcs out) (hlen : pcs.length + (28 + 2 * np) ≤ 980)
    (hls : 1 ≤ ls) (hls' : ls ≤ 8) (hns : 1 ≤ ns) (hns' : ns ≤ 8) (hT : NdIn w.params RC rest v nd)
    (ret : ∀ h' tk' pcs' n', NFits ns fit nd → PcsAre pcs' (out ++ encF ls ns false enc nd) → pcs'.length ≤ pcs.length + (28 + 2 * np) → Fr h₀ L h' m → News h₀ L h' ((pc, listOf pcs'.toArray n') :: rest) → Q .none { s with heap := h', toks := tk' })
    (exc : ∀ e h' tk' g₂, ¬ NFits ns fit nd → Fr h₀ L g₂ m → g₂.UpToSlots h' → RaisedN base (envX cn cs L a ccd cl :: outer) e (.ref 53) rest h' → E (.ref e) { s with heap := h', toks := tk' }) :
    wpAny (model prog w) (ktrTop dp un gd cn cs L a ccd cl outer) (call (.ref 201) [.ref x, v, .bytes #[] tb]) Q E s := by
  have N := pk.news N
  have hW := hW.pick pk
  clear pk
  refine WAt.elim hW ?_
  intro dx k1 k2 k3 k4 t3 t4 nw0 hx hdx
  refine NdIn.elim (G := fun v => wpAny _ _ (call _ [_, v, _]) _ _ _) hT ?_
  intro a1 da l1 lc lp l2 l3 l4 nx0 n1 n2 n3 n4 n5 n6 cvs pvs v0 v1 v2 t0 t1 t2 t3 t4 t5 t6 _ _ _ _ _ _ _ _ _ _ _ _ _ _ _ _ hT m1 m2 m4 m5 m6 m7 m8 m9 hc ht z1 z2
  k_extra "M:enter"
  k_steps
  · exact ret _ _ _ _ (by assumption) (by unfold encF; simp only [if_true, if_false, Bool.false_eq_true, ← List.append_assoc]; simp only [← List.append_assoc] at *; assumption) (by omega) (by assumption) (by assumption)
  · exact exc _ _ _ _ (by assumption) (by assumption) (by assumption) (by assumption)
theorem functionR {C : Type} {RC : Led → Value → C → Prop} {enc : C → List UInt8} {fit : C → Prop} {H np : Nat} {x pc : Addr} {ls ns : Int} {v : Value} {nd : Nd C} {pcs : List Value} {out : List UInt8} {n : Nat} {tb : Tok}
    (hS : FnSpec prog w p loose mean mg mb ls ns H np RC enc fit)
    (B : Below A₀ base outer h₀) (F : Fr h₀ L s.heap m) (X : (hd.heap_1 w.params).In h₀) (N : News h₀ L s.heap l) (T : Top p loose mean mg mb h₀) (hk : cs.kind = .function) (hd : dp + (H + 20) < recursionLimit) (hu : un + 8 * (H + 20) < cLine)
    (hW : WAt w.params l x pc ls ns) (pk : Pick (pc, listOf pcs.toArray n) l rest) (hne : ∀ q ∈ rest, q.1 ≠ pc) (hP : PcsAre pcs out) (hlen : pcs.length + (28 + 2 * np) ≤ 980)
    (hls : 1 ≤ ls) (hls' : ls ≤ 8) (hns : 1 ≤ ns) (hns' : ns ≤ 8) (hT : NdIn w.params RC rest v nd)
    (ret : ∀ h' tk' pcs' n', NFits ns fit nd → PcsAre pcs' (out ++ encF ls ns true enc nd) → pcs'.length ≤ pcs.length + (28 + 2 * np) → Fr h₀ L h' m → News h₀ L h' ((pc, listOf pcs'.toArray n') :: rest) → Q .none { s with heap := h', toks := tk' })
    (exc : ∀ e h' tk' g₂, ¬ NFits ns fit nd → Fr h₀ L g₂ m → g₂.UpToSlots h' → RaisedN base (envX cn cs L a ccd cl :: outer) e (.ref 53) rest h' → E (.ref e) { s with heap := h', toks := tk' }) :
    wpAny (model prog w) (ktrTop dp un gd cn cs L a ccd cl outer) (call (.ref 201) [.ref x, v, .none]) Q E s := by
  have N := pk.news N
  have hW := hW.pick pk
  clear pk
  refine WAt.elim hW ?_
  intro dx k1 k2 k3 k4 t3 t4 nw0 hx hdx
  refine NdIn.elim (G := fun v => wpAny _ _ (call _ [_, v, _]) _ _ _) hT ?_
  intro a1 da l1 lc lp l2 l3 l4 nx0 n1 n2 n3 n4 n5 n6 cvs pvs v0 v1 v2 t0 t1 t2 t3 t4 t5 t6 _ _ _ _ _ _ _ _ _ _ _ _ _ _ _ _ hT m1 m2 m4 m5 m6 m7 m8 m9 hc ht z1 z2
  k_extra "M:enter"
  k_steps
  · exact ret _ _ _ _ (by assumption) (by unfold encF; simp only [if_true, if_false, Bool.false_eq_true, ← List.append_assoc]; simp only [← List.append_assoc] at *; assumption) (by omega) (by assumption) (by assumption)
  · exact exc _ _ _ _ (by assumption) (by assumption) (by assumption) (by assumption)
end
end Mine
end
section
theorem Mine.sayCheader : True := by
  k_with_none
  (k_with "M:ne" => first | assumption | omega)
  (k_with "M:all" => first | assumption | exact List.forall_mem_nil _ | (refine' Mine.ne_cons ?wa ?wb; (case wa => k_extra "M:ne"); (case wb => k_all)) | (refine' tbn_neAll ?wkah; (case wkah => k_extra "M:conj")))
  (k_with "M:upd" => first | (refine' Upd.head ?wa; (case wa => k_all)) | (refine' Mine.upd_tail ?wa ?wb; (case wa => k_extra "M:ne"); (case wb => k_upd)))
  (k_with "M:conj" => first | assumption | (refine' And.right ?_; assumption) | (refine' And.right (And.right ?_); assumption) | (refine' And.right (And.right (And.right ?_)); assumption) | (refine' And.right (And.right (And.right (And.right ?_))); assumption) | (refine' And.right (And.right (And.right (And.right (And.right ?_)))); assumption))
  (k_with "M:mem" => first | assumption | exact List.mem_cons_self | (refine' List.mem_cons_of_mem _ ?_; k_extra "M:mem"))
  (k_with "M:in" => first | assumption | exact Frag.In.keeps (by k_asm) (Fr.keep (by k_asm)))
  (k_with "M:news" => k_dflt k_mem)
  (k_with "M:enter" => (refine wpAny_call ?_; k_dflt ktr_enter))
  (k_with "M:enterC" => (refine wpAny_call ?_; k_dflt (refine' code_defC ?wk1 ?wk2 ?wk3 ?wk4 ?wk5 ?wkA ?kF ?kK ?wk6 ?wk7 ?wk8 ?wk9 ?kB ?wkD ?_ ?wc2 ?wc3 ?wc4; (case wkA => exact rfl); (case kF => exact rfl); (case kK => assumption); (case wk1 => k_asm); (case wk2 => k_asm); (case wk3 => k_asm); (case wk4 => k_asm); (case wk5 => k_asm); (case wk6 => k_is); (case wk7 => k_is); (case wk8 => ktr_room); (case wk9 => first | exact BindsTo.of_eq rfl | exact binds_K (by k_in) rfl (by k_is) rfl rfl rfl | fail "k_enter: no rule for these arguments"); (case kB => exact rfl); (case wkD => decide +kernel); (case wc2 => exact rfl); (case wc3 => exact rfl); (case wc4 => exact rfl); k_whole; intro wg' wL' wh' wtk' wcells' wFG' wF' wN' wY' wB' wX' wT' wl1; (try k_lt wl1); k_cells wY'; (try simp only [List.cons_append, List.nil_append] at wN'); (try dsimp only); (try k_lift wB'); (try k_fold))))
  (k_with "M:base" => ((case kB => k_asm); (case kF => k_asm); (case kX => k_asm); (case kN => k_asm); (case kT => k_asm); (case kK => first | exact rfl | assumption); (case kd => ktr_room); (case ku => ktr_units)))
  (k_with "M:pick" => first | exact Mine.Pick.head | (apply Mine.Pick.tail; k_extra "M:pick"))
  (k_with "M:room" => ktr_room)
  (k_with "call builtin:list.append" => (k_here; (with_reducible show wpAny _ _ (call (Value.builtin _) [Value.ref _, _]) _ _ _); k_dflt (refine' append_K ?wk1 ?wk2 ?wk3 ?_ ?wz; (case wk1 => k_asm); (case wk2 => k_asm); (case wk3 => k_upd); (case wz => first | size_fits | ((try simp only [List.size_toArray, sizeLine_eq]); omega)); k_whole); intro wh' wF' wN'; (try simp only [List.push_toArray] at wN'); (try k_sweep)))
  (k_with "M:enterD" => (refine wpAny_call ?_; k_dflt (refine' code_def ?wk1 ?wk2 ?wk3 ?wk4 ?wk5 ?wkA ?kF ?kK ?wk6 ?wk7 ?wk8 ?wk9 ?kB ?_ ?wc2 ?wc3 ?wc4 ?wc5; (case wkA => exact rfl); (case kF => exact rfl); (case kK => assumption); (case wk1 => k_asm); (case wk2 => k_asm); (case wk3 => k_asm); (case wk4 => k_asm); (case wk5 => k_asm); (case wk6 => k_is); (case wk7 => k_is); (case wk8 => ktr_room); (case wk9 => first | exact BindsTo.of_eq rfl | exact binds_K (by k_in) rfl (by k_is) rfl rfl rfl | fail "enterD: no rule for these arguments"); (case wc5 => decide); (case kB => exact locs rfl); (case wc2 => exact rfl); (case wc3 => exact rfl); (case wc4 => exact rfl); k_whole; intro wg' wL' wh' wFG' wF' wN' wB' wX' wT'; (try dsimp only); (try k_fold))))
  trivial
namespace Mine
section
variable {prog : Program} {w : World} {p : Program} {loose : List Str} {mean : ExcName → Option Value} {mg mb : Str → Option Value}
variable {dp un : Nat} {gd : Option (List Code)} {cn : Str} {cs : Scope} {a : Addr} {ccd : Value} {cl : List (Str × Addr)} {outer : List Env} {A₀ : Around} {base h₀ : Heap} {L : Addr} {m : Str → Option Value} {s : Shared} {Q E : Value → Shared → Prop} {l rest : Led}
theorem header {sz : Addr} {ls ns : Int} {t1 t2 : Tok} {n : Nat}
    (B : Below A₀ base outer h₀) (F : Fr h₀ L s.heap m) (X : (hd.heap_1 w.params).In h₀) (N : News h₀ L s.heap l) (T : Top p loose mean mg mb h₀) (hk : cs.kind = .function) (hd : dp + 5 < recursionLimit) (hu : un + 40 < cLine)
    (hz : (sz, tupOf #[.int ls t1, .int ns t2] n) ∈ l) (hls : 1 ≤ ls) (hls' : ls ≤ 8) (hns : 1 ≤ ns) (hns' : ns ≤ 8)
    (ret : ∀ t h' tk', Fr h₀ L h' m → News h₀ L h' l → Q (.bytes (hdr ls ns).toArray t) { s with heap := h', toks := tk' }) :
    wpAny (model prog w) (ktrTop dp un gd cn cs L a ccd cl outer) (call (.ref 29) [.ref sz]) Q E s := by
  k_extra "M:enter"
  k_steps
  all_goals exact ret _ _ _ (by assumption) (news_le (by assumption) (by kcf_all))
end
end Mine
end
section
theorem Mine.sayCdump : True := by
  k_with_none
  (k_with "M:ne" => first | assumption | omega)
  (k_with "M:all" => first | assumption | exact List.forall_mem_nil _ | (refine' Mine.ne_cons ?wa ?wb; (case wa => k_extra "M:ne"); (case wb => k_all)) | (refine' tbn_neAll ?wkah; (case wkah => k_extra "M:conj")))
  (k_with "M:upd" => first | (refine' Upd.head ?wa; (case wa => k_all)) | (refine' Mine.upd_tail ?wa ?wb; (case wa => k_extra "M:ne"); (case wb => k_upd)))
  (k_with "M:conj" => first | assumption | (refine' And.right ?_; assumption) | (refine' And.right (And.right ?_); assumption) | (refine' And.right (And.right (And.right ?_)); assumption) | (refine' And.right (And.right (And.right (And.right ?_))); assumption) | (refine' And.right (And.right (And.right (And.right (And.right ?_)))); assumption))
  (k_with "M:mem" => first | assumption | exact List.mem_cons_self | (refine' List.mem_cons_of_mem _ ?_; k_extra "M:mem"))
  (k_with "M:in" => first | assumption | exact Frag.In.keeps (by k_asm) (Fr.keep (by k_asm)))
  (k_with "M:news" => k_dflt k_mem)
  (k_with "M:enter" => (refine wpAny_call ?_; k_dflt ktr_enter))
  (k_with "M:enterC" => (refine wpAny_call ?_; k_dflt (refine' code_defC ?wk1 ?wk2 ?wk3 ?wk4 ?wk5 ?wkA ?kF ?kK ?wk6 ?wk7 ?wk8 ?wk9 ?kB ?wkD ?_ ?wc2 ?wc3 ?wc4; (case wkA => exact rfl); (case kF => exact rfl); (case kK => assumption); (case wk1 => k_asm); (case wk2 => k_asm); (case wk3 => k_asm); (case wk4 => k_asm); (case wk5 => k_asm); (case wk6 => k_is); (case wk7 => k_is); (case wk8 => ktr_room); (case wk9 => first | exact BindsTo.of_eq rfl | exact binds_K (by k_in) rfl (by k_is) rfl rfl rfl | fail "k_enter: no rule for these arguments"); (case kB => exact rfl); (case wkD => decide +kernel); (case wc2 => exact rfl); (case wc3 => exact rfl); (case wc4 => exact rfl); k_whole; intro wg' wL' wh' wtk' wcells' wFG' wF' wN' wY' wB' wX' wT' wl1; (try k_lt wl1); k_cells wY'; (try simp only [List.cons_append, List.nil_append] at wN'); (try dsimp only); (try k_lift wB'); (try k_fold))))
  (k_with "M:base" => ((case kB => k_asm); (case kF => k_asm); (case kX => k_asm); (case kN => k_asm); (case kT => k_asm); (case kK => first | exact rfl | assumption); (case kd => ktr_room); (case ku => ktr_units)))
  (k_with "M:pick" => first | exact Mine.Pick.head | (apply Mine.Pick.tail; k_extra "M:pick"))
  (k_with "M:room" => ktr_room)
  (k_with "call builtin:list.append" => (k_here; (with_reducible show wpAny _ _ (call (Value.builtin _) [Value.ref _, _]) _ _ _); k_dflt (refine' append_K ?wk1 ?wk2 ?wk3 ?_ ?wz; (case wk1 => k_asm); (case wk2 => k_asm); (case wk3 => k_upd); (case wz => first | size_fits | ((try simp only [List.size_toArray, sizeLine_eq]); omega)); k_whole); intro wh' wF' wN'; (try simp only [List.push_toArray] at wN'); (try k_sweep)))
  (k_with "M:enterD" => (refine wpAny_call ?_; k_dflt (refine' code_def ?wk1 ?wk2 ?wk3 ?wk4 ?wk5 ?wkA ?kF ?kK ?wk6 ?wk7 ?wk8 ?wk9 ?kB ?_ ?wc2 ?wc3 ?wc4 ?wc5; (case wkA => exact rfl); (case kF => exact rfl); (case kK => assumption); (case wk1 => k_asm); (case wk2 => k_asm); (case wk3 => k_asm); (case wk4 => k_asm); (case wk5 => k_asm); (case wk6 => k_is); (case wk7 => k_is); (case wk8 => ktr_room); (case wk9 => first | exact BindsTo.of_eq rfl | exact binds_K (by k_in) rfl (by k_is) rfl rfl rfl | fail "enterD: no rule for these arguments"); (case wc5 => decide); (case kB => exact locs rfl); (case wc2 => exact rfl); (case wc3 => exact rfl); (case wc4 => exact rfl); k_whole; intro wg' wL' wh' wFG' wF' wN' wB' wX' wT'; (try dsimp only); (try k_fold))))
  (k_with "leaving ref" => (k_here; k_dflt (refine' leave_onN ?wK ?wF ?wR ?wU ?_; (case wR => assumption); (case wU => assumption); (case wF => assumption); (case wK => assumption); k_whole); intro wh' wR' wU'))
  (k_with "call ref" => (k_here; (with_reducible show wpAny _ _ (call (Value.ref 159) _) _ _ _); k_dflt (refine' Mine.number ?kB ?kF ?kX ?kN ?kT ?kK ?kd ?ku ?wkW ?wkp ?wkn ?wkP ?wkl ?wk0 ?wk1 ?_ ?_; k_extra "M:base"; (case wkW => k_extra "M:W"); (case wkp => k_extra "M:pick"); (case wkn => k_all); (case wkP => k_extra "M:P"); (case wkl => k_extra "M:len"); (case wk0 => omega); (case wk1 => omega); rotate_left; intro we' wh' wtk' wg2' whf' wF' wU' wR'; rotate_right); intro wh' wtk' wpcs' wn' whf' whP' whl' wF' wN'; (try k_fold)))
  (k_with "call ref" => (k_here; (with_reducible show wpAny _ _ (call (Value.ref 29) _) _ _ _); k_dflt (refine' Mine.header ?kB ?kF ?kX ?kN ?kT ?kK ?kd ?ku ?wk0 ?wk1 ?wk2 ?wk3 ?wk4 ?_; k_extra "M:base"; (case wk0 => k_mem); (case wk1 => omega); (case wk2 => omega); (case wk3 => omega); (case wk4 => omega); k_whole); intro wt' wh' wtk' wF' wN'; (try k_sweep); (try k_fold)))
  (k_with "call ref" => (k_here; (with_reducible show wpAny _ _ (call (Value.ref 201) _) _ _ _); refine Mine.unhold ?_))
  (k_with "getMethod bytes" => (k_here; (with_reducible show wpAny _ _ (getMethod (Value.bytes _ _) (PySem.Str.ofString "join") _) _ _ _); refine method_join ?_))
  (k_with "call builtin:bytes.join" => (k_here; k_dflt (refine' join_call ?wN ?wm ?wP ?wa ?wb ?_; (case wN => k_asm); (case wm => k_mem); (case wP => assumption); (case wa => assumption); (case wb => assumption); k_whole); intro wt' wtk'))
  trivial
namespace Mine
section
variable {prog : Program} {w : World} {p : Program} {loose : List Str} {mean : ExcName → Option Value} {mg mb : Str → Option Value}
variable {dp un : Nat} {gd : Option (List Code)} {cn : Str} {cs : Scope} {a : Addr} {ccd : Value} {cl : List (Str × Addr)} {outer : List Env} {A₀ : Around} {base h₀ : Heap} {L : Addr} {m : Str → Option Value} {s : Shared} {Q E : Value → Shared → Prop} {l rest : Led}
theorem dump {C : Type} {RC : Led → Value → C → Prop} {enc : C → List UInt8} {fit : C → Prop} {H np : Nat} {sz : Addr} {ls ns : Int} {t1 t2 : Tok} {n : Nat} {v : Value} {nd : Nd C}
    (hS : FnSpec prog w p loose mean mg mb ls ns H np RC enc fit)
    (B : Below A₀ base outer h₀) (F : Fr h₀ L s.heap m) (X : (hd.heap_1 w.params).In h₀) (N : News h₀ L s.heap l) (T : Top p loose mean mg mb h₀) (hk : cs.kind = .function) (hd : dp + (H + 30) < recursionLimit) (hu : un + 8 * (H + 30) < cLine)
    (hz : (sz, tupOf #[.int ls t1, .int ns t2] n) ∈ l) (hls : 1 ≤ ls) (hls' : ls ≤ 8) (hns : 1 ≤ ns) (hns' : ns ≤ 8) (hnp : np ≤ 100) (hT : ∀ l', (∀ q ∈ l, q ∈ l') → NdIn w.params RC l' v nd)
    (hlen : (hdr ls ns ++ encF ls ns true enc nd).length ≤ 16777216)
    (ret : ∀ t h' tk', NFits ns fit nd → Fr h₀ L h' m → News h₀ L h' l → Q (.bytes (hdr ls ns ++ encF ls ns true enc nd).toArray t) { s with heap := h', toks := tk' })
    (exc : ∀ e h' tk' g₂, ¬ NFits ns fit nd → Fr h₀ L g₂ m → g₂.UpToSlots h' → RaisedN base (envX cn cs L a ccd cl :: outer) e (.ref 53) l h' → E (.ref e) { s with heap := h', toks := tk' }) :
    wpAny (model prog w) (ktrTop dp un gd cn cs L a ccd cl outer) (call (.ref 216) [v, .bool false, .ref sz]) Q E s := by
  k_extra "M:enterD"
  k_steps
  unfold Hold
  refine' functionR (tb := 0) (RC := RC) (enc := enc) (fit := fit) (nd := nd) @hS ?kB ?kF ?kX ?kN ?kT ?kK ?kd ?ku ?kW ?kp ?kn ?kP ?kl hls hls' hns hns' (hT _ ?sub) ?ret ?exc
  k_extra "M:base"
  case kW => exact WAt.mk (by k_mem) (by k_mem)
  case kp => k_extra "M:pick"
  case kn => k_all
  case kP => exact PcsAre.snoc _ _ .nil
  case kl => simp only [List.nil_append, List.length_cons, List.length_nil]; omega
  case sub => kcf_all
  case ret =>
    intro h' tk' pcs' n' hf' hP' hl' F' N'
    rw [List.nil_append] at hP'
    have h1 : 1 ≤ (hdr ls ns ++ encF ls ns true enc nd).length := by rw [List.length_append, hdr_len]; omega
    try k_fold
    k_steps
    exact ret _ _ _ (by assumption) (by assumption) (news_le (by assumption) (by kcf_all))
  case exc =>
    intro e' h' tk' g2' hf' F' U' R'
    k_steps
    exact exc _ _ _ _ (by assumption) (by assumption) (by assumption) (RaisedN.mono (by assumption) (by kcf_all))
end
end Mine
end
section
namespace Mine
/-- the octets of a function's source: none for an inner function, an empty text for the outermost -/
def txtE (root : Bool) (ls : Int) : List UInt8 := if root then le (([] : List UInt8).length + 1) ls.toNat ++ [] ++ le 0 1 else le 0 ls.toNat
theorem txtE_def {root : Bool} {ls : Int} : (if root then le (([] : List UInt8).length + 1) ls.toNat ++ [] ++ le 0 1 else le 0 ls.toNat) = txtE root ls := rfl
def SrcIs (root : Bool) (v : Value) : Prop := (root = false ∧ v = .none) ∨ (root = true ∧ ∃ t, v = .bytes #[] t)
theorem src_join {prog : Program} {w : World} {A : Around} {t : Sem Value} {E : Value → Shared → Prop} {s : Shared} {Q : Value → Shared → Prop} (h : wpAny (model prog w) A t (fun v s' => s' = s ∧ ∃ b, v = .bytes #[] b) E s) (k : ∀ b, Q (.bytes #[] b) s) : wpAny (model prog w) A t Q E s :=
  wpAny_mono h (fun _ _ ⟨e, b, eb⟩ => e ▸ eb ▸ k b) (fun _ _ x => x)
/-- the contract of Reader.function, inner or outermost -/
def RdGen (root : Bool) (prog : Program) (w : World) (p : Program) (loose : List Str) (mean : ExcName → Option Value) (mg mb : Str → Option Value) (data : List UInt8) (ls ns : Int) (H lev : Nat) {C : Type} (enc : C → List UInt8) (ok : C → Prop) (RT : Led → Value → C → Prop) : Prop :=
  ∀ {dp un : Nat} {gd : Option (List Code)} {cn : Str} {cs : Scope} {a : Addr} {ccd : Value} {cl : List (Str × Addr)} {outer : List Env} {A₀ : Around} {base h₀ : Heap} {L : Addr} {m : Str → Option Value} {s : Shared} {Q E : Value → Shared → Prop} {l rest : Led}
    {r rd : Addr} {at_ dep : Int} {es : List DictEntry} {c : C} {a3 : List UInt8} {ov : Value},
    (root = false → ∃ tb, ov = .bytes #[] tb) → Below A₀ base outer h₀ → Fr h₀ L s.heap m → (hd.heap_1 w.params).In h₀ → News h₀ L s.heap l → Top p loose mean mg mb h₀ → cs.kind = .function → dp + H < recursionLimit → un + 8 * H < cLine →
    (r, instObj 385 rd) ∈ l → Pick (rd, dictOf es 8) l rest → (∀ q ∈ rest, q.1 ≠ rd) → RSt w.params data ls ns at_ dep es → Tc data at_ (enc c ++ a3) → ok c → 0 ≤ dep → dep + lev ≤ 9 →
    (∀ at' es', RSt w.params data ls ns at' dep es' → Tc data at' a3 → ∀ v tl h' tk', RT tl v c → Fresh tl ((rd, dictOf es' 8) :: rest) → Fr h₀ L h' m → News h₀ L h' ((rd, dictOf es' 8) :: (tl ++ rest)) → Q v { s with heap := h', toks := tk' }) →
    wpAny (model prog w) (ktrTop dp un gd cn cs L a ccd cl outer) (call (.ref 382) [.ref r, ov]) Q E s
end Mine
end
section
theorem Mine.sayCblock : True := by
  k_with_none
  (k_with "M:ne" => first | assumption | omega)
  (k_with "M:all" => first | assumption | exact List.forall_mem_nil _ | (refine' Mine.ne_cons ?wa ?wb; (case wa => k_extra "M:ne"); (case wb => k_all)) | (refine' tbn_neAll ?wkah; (case wkah => k_extra "M:conj")))
  (k_with "M:upd" => first | (refine' Upd.head ?wa; (case wa => k_all)) | (refine' Mine.upd_tail ?wa ?wb; (case wa => k_extra "M:ne"); (case wb => k_upd)))
  (k_with "M:conj" => first | assumption | (refine' And.right ?_; assumption) | (refine' And.right (And.right ?_); assumption) | (refine' And.right (And.right (And.right ?_)); assumption) | (refine' And.right (And.right (And.right (And.right ?_))); assumption) | (refine' And.right (And.right (And.right (And.right (And.right ?_)))); assumption))
  (k_with "M:mem" => first | assumption | exact List.mem_cons_self | (refine' List.mem_cons_of_mem _ ?_; k_extra "M:mem"))
  (k_with "M:in" => first | assumption | exact Frag.In.keeps (by k_asm) (Fr.keep (by k_asm)))
  (k_with "M:news" => k_dflt k_mem)
  (k_with "M:enter" => (refine wpAny_call ?_; k_dflt ktr_enter))
  (k_with "M:enterC" => (refine wpAny_call ?_; k_dflt (refine' code_defC ?wk1 ?wk2 ?wk3 ?wk4 ?wk5 ?wkA ?kF ?kK ?wk6 ?wk7 ?wk8 ?wk9 ?kB ?wkD ?_ ?wc2 ?wc3 ?wc4; (case wkA => exact rfl); (case kF => exact rfl); (case kK => assumption); (case wk1 => k_asm); (case wk2 => k_asm); (case wk3 => k_asm); (case wk4 => k_asm); (case wk5 => k_asm); (case wk6 => k_is); (case wk7 => k_is); (case wk8 => ktr_room); (case wk9 => first | exact BindsTo.of_eq rfl | exact binds_K (by k_in) rfl (by k_is) rfl rfl rfl | fail "k_enter: no rule for these arguments"); (case kB => exact rfl); (case wkD => decide +kernel); (case wc2 => exact rfl); (case wc3 => exact rfl); (case wc4 => exact rfl); k_whole; intro wg' wL' wh' wtk' wcells' wFG' wF' wN' wY' wB' wX' wT' wl1; (try k_lt wl1); k_cells wY'; (try simp only [List.cons_append, List.nil_append] at wN'); (try dsimp only); (try k_lift wB'); (try k_fold))))
  (k_with "M:base" => ((case kB => k_asm); (case kF => k_asm); (case kX => k_asm); (case kN => k_asm); (case kT => k_asm); (case kK => first | exact rfl | assumption); (case kd => ktr_room); (case ku => ktr_units)))
  (k_with "M:pick" => first | exact Mine.Pick.head | (apply Mine.Pick.tail; k_extra "M:pick"))
  (k_with "M:room" => ktr_room)
  (k_with "call builtin:list.append" => (k_here; (with_reducible show wpAny _ _ (call (Value.builtin _) [Value.ref _, _]) _ _ _); k_dflt (refine' append_K ?wk1 ?wk2 ?wk3 ?_ ?wz; (case wk1 => k_asm); (case wk2 => k_asm); (case wk3 => k_upd); (case wz => first | size_fits | ((try simp only [List.size_toArray, sizeLine_eq]); omega)); k_whole); intro wh' wF' wN'; (try simp only [List.push_toArray] at wN'); (try k_sweep)))
  (k_with "M:enterD" => (refine wpAny_call ?_; k_dflt (refine' code_def ?wk1 ?wk2 ?wk3 ?wk4 ?wk5 ?wkA ?kF ?kK ?wk6 ?wk7 ?wk8 ?wk9 ?kB ?_ ?wc2 ?wc3 ?wc4 ?wc5; (case wkA => exact rfl); (case kF => exact rfl); (case kK => assumption); (case wk1 => k_asm); (case wk2 => k_asm); (case wk3 => k_asm); (case wk4 => k_asm); (case wk5 => k_asm); (case wk6 => k_is); (case wk7 => k_is); (case wk8 => ktr_room); (case wk9 => first | exact BindsTo.of_eq rfl | exact binds_K (by k_in) rfl (by k_is) rfl rfl rfl | fail "enterD: no rule for these arguments"); (case wc5 => decide); (case kB => exact locs rfl); (case wc2 => exact rfl); (case wc3 => exact rfl); (case wc4 => exact rfl); k_whole; intro wg' wL' wh' wFG' wF' wN' wB' wX' wT'; (try dsimp only); (try k_fold))))
  (k_with "M:all" => first | assumption | exact List.forall_mem_nil _ | (refine' Mine.ne_cons ?wa ?wb; (case wa => k_extra "M:ne"); (case wb => k_all)) | (refine' Mine.off1_ne ?wkah; (case wkah => k_extra "M:conj")))
  (k_with "call builtin:len" => (k_here; (with_reducible show wpAny _ _ (call (Value.builtin "len") [Value.bytes _ _]) _ _ _); (refine len_bytes (by omega) ?_)))
  (k_with "subscriptTail" => (k_here; (with_reducible show wpAny _ _ (subscriptTail _ (Expr.Slice _ _ none _) (Value.bytes _ _) (Value.ref _)) _ _ _); (with_reducible rename Fr _ _ _ _ => wF'); (with_reducible rename News _ _ _ _ => wN'); (refine Mine.slice_own (s := ⟨_, _, _, _, _⟩) wF' wN' (by constructor) (by constructor) (by omega) (by first | exact Mine.pick_mid (by assumption) rfl (by first | rfl | omega) | (with_unfolding_all rfl)) ?_); intro _ _ _ _ _))
  trivial
namespace Mine
section
variable {prog : Program} {w : World} {p : Program} {loose : List Str} {mean : ExcName → Option Value} {mg mb : Str → Option Value}
variable {dp un : Nat} {gd : Option (List Code)} {cn : Str} {cs : Scope} {a : Addr} {ccd : Value} {cl : List (Str × Addr)} {outer : List Env} {A₀ : Around} {base h₀ : Heap} {L : Addr} {m : Str → Option Value} {s : Shared} {Q E : Value → Shared → Prop} {l rest : Led}
theorem block {r rd : Addr} {data a2 a3 : List UInt8} {ls ns at_ dep : Int} {es : List DictEntry} {z : Int} {t1 : Tok}
    (B : Below A₀ base outer h₀) (F : Fr h₀ L s.heap m) (X : (hd.heap_1 w.params).In h₀) (N : News h₀ L s.heap l) (T : Top p loose mean mg mb h₀) (hk : cs.kind = .function) (hd : dp + 3 < recursionLimit) (hu : un + 24 < cLine)
    (hr : (r, instObj 385 rd) ∈ l) (pk : Pick (rd, dictOf es 8) l rest) (hne : ∀ q ∈ rest, q.1 ≠ rd) (hR : RSt w.params data ls ns at_ dep es)
    (hT : Tc data at_ (a2 ++ a3)) (hlen : data.length ≤ 16000) (hz2 : z = a2.length)
    (ret : ∀ at' k0 k1 k2 k3 k4 k5 k6 k7 t0 t1 t2 t3 t4 t5 t6 t7, Tc data at' a3 → ∀ h' tk' t, Fr h₀ L h' m → News h₀ L h' ((rd, dictOf [ent w.params "data" k0 (.bytes data.toArray t0), ent w.params "width" k1 (.int 80 t1), ent w.params "most_deep" k2 (.int 9 t2), ent w.params "name" k3 (.bytes #[108, 97, 119] t3), ent w.params "length_size" k4 (.int ls t4), ent w.params "number_size" k5 (.int ns t5), ent w.params "at" k6 (.int at' t6), ent w.params "depth" k7 (.int dep t7)] 8) :: rest) → Q (.bytes a2.toArray t) { s with heap := h', toks := tk' }) :
    wpAny (model prog w) (ktrTop dp un gd cn cs L a ccd cl outer) (call (.ref 311) [.ref r, .int z t1]) Q E s := by
  subst hz2
  have N := pk.news N
  have hr := pk.mem hr (fun e => by have e2 := congrArg (fun q => q.2.data) e; cases e2)
  clear pk
  have hT2 := hT.step
  obtain ⟨a1, hdt, rfl⟩ := hT.picked
  revert N; refine RSt.elim (G := fun es => News _ _ _ ((_, dictOf es 8) :: _) → _) (es := es) hR ?_; intro t0 t1' t2 t3 t4 t5 t6 t7 _ _ _ _ _ _ _ _ N
  have hz : data.length = a1.length + a2.length + a3.length := by rw [hdt]; simp; omega
  have hz2 : data.toArray.size ≤ 16000 := by simpa using hlen
  k_extra "M:enter"
  k_steps
  exact ret _ _ _ _ _ _ _ _ _ _ _ _ _ _ _ _ _ hT2 _ _ _ (by assumption) (by assumption)
end
end Mine
end
section
theorem Mine.sayCrwhole : True := by
  k_with_none
  (k_with "M:ne" => first | assumption | omega)
  (k_with "M:all" => first | assumption | exact List.forall_mem_nil _ | (refine' Mine.ne_cons ?wa ?wb; (case wa => k_extra "M:ne"); (case wb => k_all)) | (refine' tbn_neAll ?wkah; (case wkah => k_extra "M:conj")))
  (k_with "M:upd" => first | (refine' Upd.head ?wa; (case wa => k_all)) | (refine' Mine.upd_tail ?wa ?wb; (case wa => k_extra "M:ne"); (case wb => k_upd)))
  (k_with "M:conj" => first | assumption | (refine' And.right ?_; assumption) | (refine' And.right (And.right ?_); assumption) | (refine' And.right (And.right (And.right ?_)); assumption) | (refine' And.right (And.right (And.right (And.right ?_))); assumption) | (refine' And.right (And.right (And.right (And.right (And.right ?_)))); assumption))
  (k_with "M:mem" => first | assumption | exact List.mem_cons_self | (refine' List.mem_cons_of_mem _ ?_; k_extra "M:mem"))
  (k_with "M:in" => first | assumption | exact Frag.In.keeps (by k_asm) (Fr.keep (by k_asm)))
  (k_with "M:news" => k_dflt k_mem)
  (k_with "M:enter" => (refine wpAny_call ?_; k_dflt ktr_enter))
  (k_with "M:enterC" => (refine wpAny_call ?_; k_dflt (refine' code_defC ?wk1 ?wk2 ?wk3 ?wk4 ?wk5 ?wkA ?kF ?kK ?wk6 ?wk7 ?wk8 ?wk9 ?kB ?wkD ?_ ?wc2 ?wc3 ?wc4; (case wkA => exact rfl); (case kF => exact rfl); (case kK => assumption); (case wk1 => k_asm); (case wk2 => k_asm); (case wk3 => k_asm); (case wk4 => k_asm); (case wk5 => k_asm); (case wk6 => k_is); (case wk7 => k_is); (case wk8 => ktr_room); (case wk9 => first | exact BindsTo.of_eq rfl | exact binds_K (by k_in) rfl (by k_is) rfl rfl rfl | fail "k_enter: no rule for these arguments"); (case kB => exact rfl); (case wkD => decide +kernel); (case wc2 => exact rfl); (case wc3 => exact rfl); (case wc4 => exact rfl); k_whole; intro wg' wL' wh' wtk' wcells' wFG' wF' wN' wY' wB' wX' wT' wl1; (try k_lt wl1); k_cells wY'; (try simp only [List.cons_append, List.nil_append] at wN'); (try dsimp only); (try k_lift wB'); (try k_fold))))
  (k_with "M:base" => ((case kB => k_asm); (case kF => k_asm); (case kX => k_asm); (case kN => k_asm); (case kT => k_asm); (case kK => first | exact rfl | assumption); (case kd => ktr_room); (case ku => ktr_units)))
  (k_with "M:pick" => first | exact Mine.Pick.head | (apply Mine.Pick.tail; k_extra "M:pick"))
  (k_with "M:room" => ktr_room)
  (k_with "call builtin:list.append" => (k_here; (with_reducible show wpAny _ _ (call (Value.builtin _) [Value.ref _, _]) _ _ _); k_dflt (refine' append_K ?wk1 ?wk2 ?wk3 ?_ ?wz; (case wk1 => k_asm); (case wk2 => k_asm); (case wk3 => k_upd); (case wz => first | size_fits | ((try simp only [List.size_toArray, sizeLine_eq]); omega)); k_whole); intro wh' wF' wN'; (try simp only [List.push_toArray] at wN'); (try k_sweep)))
  (k_with "M:enterD" => (refine wpAny_call ?_; k_dflt (refine' code_def ?wk1 ?wk2 ?wk3 ?wk4 ?wk5 ?wkA ?kF ?kK ?wk6 ?wk7 ?wk8 ?wk9 ?kB ?_ ?wc2 ?wc3 ?wc4 ?wc5; (case wkA => exact rfl); (case kF => exact rfl); (case kK => assumption); (case wk1 => k_asm); (case wk2 => k_asm); (case wk3 => k_asm); (case wk4 => k_asm); (case wk5 => k_asm); (case wk6 => k_is); (case wk7 => k_is); (case wk8 => ktr_room); (case wk9 => first | exact BindsTo.of_eq rfl | exact binds_K (by k_in) rfl (by k_is) rfl rfl rfl | fail "enterD: no rule for these arguments"); (case wc5 => decide); (case kB => exact locs rfl); (case wc2 => exact rfl); (case wc3 => exact rfl); (case wc4 => exact rfl); k_whole; intro wg' wL' wh' wFG' wF' wN' wB' wX' wT'; (try dsimp only); (try k_fold))))
  (k_with "M:all" => first | assumption | exact List.forall_mem_nil _ | (refine' Mine.ne_cons ?wa ?wb; (case wa => k_extra "M:ne"); (case wb => k_all)) | (refine' Mine.off1_ne ?wkah; (case wkah => k_extra "M:conj")))
  (k_with "exec For" => (k_here; (rename Fr _ _ _ _ => wlF'); (with_unfolding_all refine' For_invVF wlF' ?wk1 ?wk2 ?_; (case wk1 => exact rfl); (case wk2 => exact rfl); k_whole)))
  (k_with "exec For Name Attribute cons nil" => (walk_at "exec For"))
  (k_with "M:pyIter ref" => ((with_reducible show wpAny _ _ (pyIter (Value.ref _)) (fun it s₂ => LoopAtV _ _ _ _ _ _ _ _ _ it s₂) _ _); k_here; k_dflt (refine' iter_listUnr ?whh ?wF ?wN ?whm ?whc ?whd ?_; (case whh => rfl); (case wF => k_asm); (case wN => k_asm); (case whm => k_mem); (case whc => rfl); (case whd => rfl); k_whole); intro wI' wl1; (try k_lt wl1)))
  (k_with "call builtin:len" => (k_here; (with_reducible show wpAny _ _ (call (Value.builtin "len") [Value.ref _]) _ _ _); k_dflt (refine' Mine.len_led ?wN ?wm ?wz ?_; (case wN => k_asm); (case wm => k_mem); (case wz => first | (simp only [List.length_nil]; omega) | omega | decide); k_whole); intro wt' wtk'; (try simp only [List.length_nil])))
  (k_with "UnrEnd" => refine Mine.unhold ?_)
  (k_with "call ref" => (k_here; (with_reducible show wpAny _ _ (call (Value.ref 311) _) _ _ _); k_dflt (rename Mine.Tc _ _ _ => whT; refine' Mine.block ?kB ?kF ?kX ?kN ?kT ?kK ?kd ?ku ?wkr ?wkp ?wkn ?wkR whT ?wkl ?wkz ?_; k_extra "M:base"; (case wkr => k_mem); (case wkp => k_extra "M:pick"); (case wkn => k_all); (case wkR => exact Mine.RSt.intro); (case wkl => assumption); (case wkz => first | (simp only [Mine.le_len]; done) | omega | rfl); k_whole); intro wat' _ _ _ _ _ _ _ _ _ _ _ _ _ _ _ _ whT' wh' wtk' wt' wF' wN'; (try clear whT); (try k_fold)))
  (k_with "M:pyIter ref" => refine Mine.unhold ?_)
  (k_with "subscriptTail" => (k_here; (with_reducible show wpAny _ _ (subscriptTail _ _ (Value.bytes _ _) (Value.int _ _)) _ _ _); refine Mine.le_item (by assumption) (by omega) (by omega) ?_; intro _ _))
  (k_with "binaryOp LShift int int" => (k_here; (refine lshift_int_small (by omega) (by omega) (by omega) ?_)))
  trivial
namespace Mine
section
variable {prog : Program} {w : World} {p : Program} {loose : List Str} {mean : ExcName → Option Value} {mg mb : Str → Option Value}
variable {dp un : Nat} {gd : Option (List Code)} {cn : Str} {cs : Scope} {a : Addr} {ccd : Value} {cl : List (Str × Addr)} {outer : List Env} {A₀ : Around} {base h₀ : Heap} {L : Addr} {m : Str → Option Value} {s : Shared} {Q E : Value → Shared → Prop} {l rest : Led}
theorem rwhole {r rd : Addr} {data a3 : List UInt8} {ls ns at_ dep v : Int} {es : List DictEntry} {k : Nat} {z : Int} {t1 : Tok}
    (B : Below A₀ base outer h₀) (F : Fr h₀ L s.heap m) (X : (hd.heap_1 w.params).In h₀) (N : News h₀ L s.heap l) (T : Top p loose mean mg mb h₀) (hk : cs.kind = .function) (hd : dp + 6 < recursionLimit) (hu : un + 48 < cLine)
    (hr : (r, instObj 385 rd) ∈ l) (pk : Pick (rd, dictOf es 8) l rest) (hne : ∀ q ∈ rest, q.1 ≠ rd) (hR : RSt w.params data ls ns at_ dep es)
    (hT : Tc data at_ (le v k ++ a3)) (hlen : data.length ≤ 16000) (hz : z = k) (hk8 : k ≤ 8) (h0 : 0 ≤ v) (h1 : v < 256 ^ k)
    (ret : ∀ at' k0 k1 k2 k3 k4 k5 k6 k7 t0 t1 t2 t3 t4 t5 t6 t7, Tc data at' a3 → ∀ h' tk' t, Fr h₀ L h' m → News h₀ L h' ((rd, dictOf [ent w.params "data" k0 (.bytes data.toArray t0), ent w.params "width" k1 (.int 80 t1), ent w.params "most_deep" k2 (.int 9 t2), ent w.params "name" k3 (.bytes #[108, 97, 119] t3), ent w.params "length_size" k4 (.int ls t4), ent w.params "number_size" k5 (.int ns t5), ent w.params "at" k6 (.int at' t6), ent w.params "depth" k7 (.int dep t7)] 8) :: rest) → Q (.int v t) { s with heap := h', toks := tk' }) :
    wpAny (model prog w) (ktrTop dp un gd cn cs L a ccd cl outer) (call (.ref 318) [.ref r, .int z t1]) Q E s := by
  have N := pk.news N
  have hr := pk.mem hr (fun e => by have e2 := congrArg (fun q => q.2.data) e; cases e2)
  clear pk
  obtain ⟨vn, rfl⟩ := Int.eq_ofNat_of_zero_le h0
  have h1 : vn < 256 ^ k := by exact_mod_cast h1
  subst hz
  revert N; refine RSt.elim (G := fun es => News _ _ _ ((_, dictOf es 8) :: _) → _) (es := es) hR ?_; intro t0 t1' t2 t3 t4 t5 t6 t7 _ _ _ _ _ _ _ _ N
  k_extra "M:enter"
  k_steps
  unfold Hold
  rename Fr _ _ _ _ => F1
  rename News _ _ _ _ => N1
  rename IsRange _ _ _ _ _ _ _ _ => r1
  refine iter_rangeUnr (n := k) rfl r1 (small_upto (by omega)) (size_upto _) F1 N1 ?_
  intro I l1
  refine rangeRest_acc (Str.ofString "found") (fun i => ((vn % 256 ^ i : Nat) : Int)) ⟨0, _, rfl, by rw [Nat.pow_zero, Nat.mod_one]; rfl⟩ (fun q hq => Nat.ne_of_lt (l1 q hq)) ?step ?done
  case step =>
    intro i t t' h tk hi F2 N2
    have hI : ∀ q ∈ rest, q.1 ≠ I := fun q hq => Nat.ne_of_lt (l1 q (List.mem_cons_of_mem _ (List.mem_cons_of_mem _ hq)))
    replace l1 := allLt_of l1
    simp only [AllLt, and_true] at l1
    have e1 := le_get (n := vn) hi
    have e2 := le_acc vn i
    have e3 := acc_lt (n := vn) (i := i) (by omega)
    have e4 := two_eight i
    (try dsimp only at F2)
    k_steps
    unfold Hold
    exact UnrEnd.intro (by assumption) (by assumption) _ (fun q hq => hq) (List.forall_mem_cons.mpr ⟨(Nat.ne_of_lt (by first | exact l1.1 | omega)), List.forall_mem_cons.mpr ⟨Nat.ne_of_lt (by first | exact l1.2.1 | exact l1.2 | omega), hI⟩⟩) (acc_end (by decide) (acc_step rfl))
  case done =>
    intro h tk u t F2 N2
    (try dsimp only at F2)
    rw [Nat.mod_eq_of_lt h1] at F2
    k_steps
    exact ret _ _ _ _ _ _ _ _ _ _ _ _ _ _ _ _ _ (by assumption) _ _ _ (by assumption) (news_le (by assumption) (by kcf_all))
end
end Mine
end
section
namespace Mine
open PySem PySem.W PyProof.Rows
theorem bb_special : typeLookup (.type "bytes") "__bytes__" = pure (some (.builtin "bytes.__bytes__")) := by rw [typeLookup_type, builtinLookup_eq_fast]; kernel_rfl
section
variable {prog : Program} {w : World} {A : Around} {E : Value → Shared → Prop} {s : Shared}
theorem bb_new {b : Array UInt8} {t : Tok} {Q : Value → Shared → Prop} (hQ : Q (.bytes b t) s) :
    codeAny (model prog w) A (.call (.builtin "bytes.__new__") ⟨[.type "bytes", .bytes b t], []⟩) (wants Q E) s := by
  refine codeAny_of_tree ?_
  show wpAny _ A.in1 (do checkBuiltinCall "bytes.__new__" ⟨[.type "bytes", .bytes b t], []⟩; again (.builtin "bytes.__new__" ⟨[.type "bytes", .bytes b t], []⟩)) _ _ s
  refine wpAny_bind (wpAny_of_eq (PySem.F.bm_newCall _) (wpAny_pure ⟨plainId_quiet PySem.F.bm_plain _, codeAny_builtin PySem.F.bm_entry ?_⟩))
  rw [Around.under_plainId PySem.F.bm_plain _]
  have hT : s.TypeIs (.bytes b t) "bytes" := typeIs_bytes s b t
  unfold Builtin.«bytes.__new__»
  refine wpAny_bind (wpAny_of_eq (a := true) rfl ?_)
  refine bm_if_false rfl ?_
  refine wpAny_bind (wpAny_of_eq PySem.F.bm_sub ?_)
  refine bm_if_false rfl ?_
  refine wpAny_bind (wpAny_of_eq (PySem.F.bm_bind _) ?_)
  refine wpAny_bind (wpAny_of_eq (a := ()) rfl ?_)
  refine wpAny_bind (wpAny_of_eq (a := ()) rfl ?_)
  refine bm_if_false rfl ?_
  refine wpAny_bind (wpAny_specialOf hT bb_special ?_)
  refine wpAny_bind (wpAny_rule ?_)
  refine wpAny_bind (wpAny_typeOf hT ?_)
  refine bm_if_true (by decide) ?_
  show wpAny _ _ (if (Value.type "bytes" == Value.type "bytes") = true then _ else _) _ _ _
  refine bm_if_true (by decide) ?_
  first
    | exact wpAny_pure hQ
    | exact wpAny_bind (wpAny_pure (wpAny_pure hQ))
    | exact wpAny_pure (wpAny_pure hQ)
    | exact wpAny_pure ⟨_, rfl, hQ⟩
theorem bytes_bytes {b : Array UInt8} {t : Tok} {Q : Value → Shared → Prop} (hQ : Q (.bytes b t) s) : wpAny (model prog w) A (call (.type "bytes") [.bytes b t]) Q E s := by
  refine callType_codes (Q₁ := fun obj s₁ => s₁.TypeIs obj "bytes" ∧ Q obj s₁) PySem.F.bm_called (PySem.F.bm_typeCall _) PySem.F.entry_object_init
    (bb_new ⟨PySem.W.typeIs_bytes _ _ _, hQ⟩) fun obj s₁ h₁ => ?_
  exact ⟨h₁.1, PySem.F.args_object_init_2 obj _, object_init_meets PySem.F.bm_called.init.lookup PySem.F.bm_called.made (by decide) prog w A.in1 _ s₁ ⟨h₁.1, rfl, h₁.2⟩⟩
end
theorem pick_t : KBy.picked #[116, 0] none (some (2 - 1)) = #[116] := by decide +kernel
theorem pick_0 : KBy.picked #[0] none (some (1 - 1)) = #[] := by decide +kernel
end Mine
end
section
theorem Mine.sayCrtext : True := by
  k_with_none
  (k_with "M:ne" => first | assumption | omega)
  (k_with "M:all" => first | assumption | exact List.forall_mem_nil _ | (refine' Mine.ne_cons ?wa ?wb; (case wa => k_extra "M:ne"); (case wb => k_all)) | (refine' tbn_neAll ?wkah; (case wkah => k_extra "M:conj")))
  (k_with "M:upd" => first | (refine' Upd.head ?wa; (case wa => k_all)) | (refine' Mine.upd_tail ?wa ?wb; (case wa => k_extra "M:ne"); (case wb => k_upd)))
  (k_with "M:conj" => first | assumption | (refine' And.right ?_; assumption) | (refine' And.right (And.right ?_); assumption) | (refine' And.right (And.right (And.right ?_)); assumption) | (refine' And.right (And.right (And.right (And.right ?_))); assumption) | (refine' And.right (And.right (And.right (And.right (And.right ?_)))); assumption))
  (k_with "M:mem" => first | assumption | exact List.mem_cons_self | (refine' List.mem_cons_of_mem _ ?_; k_extra "M:mem"))
  (k_with "M:in" => first | assumption | exact Frag.In.keeps (by k_asm) (Fr.keep (by k_asm)))
  (k_with "M:news" => k_dflt k_mem)
  (k_with "M:enter" => (refine wpAny_call ?_; k_dflt ktr_enter))
  (k_with "M:enterC" => (refine wpAny_call ?_; k_dflt (refine' code_defC ?wk1 ?wk2 ?wk3 ?wk4 ?wk5 ?wkA ?kF ?kK ?wk6 ?wk7 ?wk8 ?wk9 ?kB ?wkD ?_ ?wc2 ?wc3 ?wc4; (case wkA => exact rfl); (case kF => exact rfl); (case kK => assumption); (case wk1 => k_asm); (case wk2 => k_asm); (case wk3 => k_asm); (case wk4 => k_asm); (case wk5 => k_asm); (case wk6 => k_is); (case wk7 => k_is); (case wk8 => ktr_room); (case wk9 => first | exact BindsTo.of_eq rfl | exact binds_K (by k_in) rfl (by k_is) rfl rfl rfl | fail "k_enter: no rule for these arguments"); (case kB => exact rfl); (case wkD => decide +kernel); (case wc2 => exact rfl); (case wc3 => exact rfl); (case wc4 => exact rfl); k_whole; intro wg' wL' wh' wtk' wcells' wFG' wF' wN' wY' wB' wX' wT' wl1; (try k_lt wl1); k_cells wY'; (try simp only [List.cons_append, List.nil_append] at wN'); (try dsimp only); (try k_lift wB'); (try k_fold))))
  (k_with "M:base" => ((case kB => k_asm); (case kF => k_asm); (case kX => k_asm); (case kN => k_asm); (case kT => k_asm); (case kK => first | exact rfl | assumption); (case kd => ktr_room); (case ku => ktr_units)))
  (k_with "M:pick" => first | exact Mine.Pick.head | (apply Mine.Pick.tail; k_extra "M:pick"))
  (k_with "M:room" => ktr_room)
  (k_with "call builtin:list.append" => (k_here; (with_reducible show wpAny _ _ (call (Value.builtin _) [Value.ref _, _]) _ _ _); k_dflt (refine' append_K ?wk1 ?wk2 ?wk3 ?_ ?wz; (case wk1 => k_asm); (case wk2 => k_asm); (case wk3 => k_upd); (case wz => first | size_fits | ((try simp only [List.size_toArray, sizeLine_eq]); omega)); k_whole); intro wh' wF' wN'; (try simp only [List.push_toArray] at wN'); (try k_sweep)))
  (k_with "M:enterD" => (refine wpAny_call ?_; k_dflt (refine' code_def ?wk1 ?wk2 ?wk3 ?wk4 ?wk5 ?wkA ?kF ?kK ?wk6 ?wk7 ?wk8 ?wk9 ?kB ?_ ?wc2 ?wc3 ?wc4 ?wc5; (case wkA => exact rfl); (case kF => exact rfl); (case kK => assumption); (case wk1 => k_asm); (case wk2 => k_asm); (case wk3 => k_asm); (case wk4 => k_asm); (case wk5 => k_asm); (case wk6 => k_is); (case wk7 => k_is); (case wk8 => ktr_room); (case wk9 => first | exact BindsTo.of_eq rfl | exact binds_K (by k_in) rfl (by k_is) rfl rfl rfl | fail "enterD: no rule for these arguments"); (case wc5 => decide); (case kB => exact locs rfl); (case wc2 => exact rfl); (case wc3 => exact rfl); (case wc4 => exact rfl); k_whole; intro wg' wL' wh' wFG' wF' wN' wB' wX' wT'; (try dsimp only); (try k_fold))))
  (k_with "M:all" => first | assumption | exact List.forall_mem_nil _ | (refine' Mine.ne_cons ?wa ?wb; (case wa => k_extra "M:ne"); (case wb => k_all)) | (refine' Mine.off1_ne ?wkah; (case wkah => k_extra "M:conj")))
  (k_with "call ref" => (k_here; (with_reducible show wpAny _ _ (call (Value.ref 311) _) _ _ _); k_dflt (rename Mine.Tc _ _ _ => whT; refine' Mine.block ?kB ?kF ?kX ?kN ?kT ?kK ?kd ?ku ?wkr ?wkp ?wkn ?wkR whT ?wkl ?wkz ?_; k_extra "M:base"; (case wkr => k_mem); (case wkp => k_extra "M:pick"); (case wkn => k_all); (case wkR => exact Mine.RSt.intro); (case wkl => assumption); (case wkz => first | (simp only [Mine.le_len]; done) | omega | rfl); k_whole); intro wat' _ _ _ _ _ _ _ _ _ _ _ _ _ _ _ _ whT' wh' wtk' wt' wF' wN'; (try clear whT); (try k_fold)))
  (k_with "M:pow" => first | exact Mine.pow_four (by omega) | exact Mine.pow_one (by omega) (by omega) | exact Mine.pow_one (by omega) (by decide) | assumption)
  (k_with "call ref" => (k_here; (with_reducible show wpAny _ _ (call (Value.ref 318) _) _ _ _); k_dflt (rename Mine.Tc _ _ _ => whT; refine' Mine.rwhole ?kB ?kF ?kX ?kN ?kT ?kK ?kd ?ku ?wkr ?wkp ?wkn ?wkR whT ?wkl ?wkz ?wk8 ?wk0 ?wk1 ?_; k_extra "M:base"; (case wkr => k_mem); (case wkp => k_extra "M:pick"); (case wkn => k_all); (case wkR => exact Mine.RSt.intro); (case wkl => assumption); (case wkz => first | omega | rfl); (case wk8 => omega); (case wk0 => omega); (case wk1 => k_extra "M:pow"); k_whole); intro wat' _ _ _ _ _ _ _ _ _ _ _ _ _ _ _ _ whT' wh' wtk' wt' wF' wN'; (try clear whT); (try k_fold)))
  (k_with "call type:bytes" => (k_here; (with_reducible show wpAny _ _ (call (Value.type _) [Value.bytes _ _]) _ _ _); (first | (rw [Mine.pick_t]) | (rw [Mine.pick_0])); refine Mine.bytes_bytes ?_))
  trivial
namespace Mine
section
variable {prog : Program} {w : World} {p : Program} {loose : List Str} {mean : ExcName → Option Value} {mg mb : Str → Option Value}
variable {dp un : Nat} {gd : Option (List Code)} {cn : Str} {cs : Scope} {a : Addr} {ccd : Value} {cl : List (Str × Addr)} {outer : List Env} {A₀ : Around} {base h₀ : Heap} {L : Addr} {m : Str → Option Value} {s : Shared} {Q E : Value → Shared → Prop} {l rest : Led}
theorem rtextN {r rd : Addr} {data a3 : List UInt8} {ls ns at_ dep : Int} {es : List DictEntry}
    (B : Below A₀ base outer h₀) (F : Fr h₀ L s.heap m) (X : (hd.heap_1 w.params).In h₀) (N : News h₀ L s.heap l) (T : Top p loose mean mg mb h₀) (hk : cs.kind = .function) (hd : dp + 9 < recursionLimit) (hu : un + 72 < cLine)
    (hr : (r, instObj 385 rd) ∈ l) (pk : Pick (rd, dictOf es 8) l rest) (hne : ∀ q ∈ rest, q.1 ≠ rd) (hR : RSt w.params data ls ns at_ dep es)
    (hT : Tc data at_ (le 0 ls.toNat ++ a3)) (hlen : data.length ≤ 16000) (hls : 1 ≤ ls) (hls' : ls ≤ 8)
    (ret : ∀ at' k0 k1 k2 k3 k4 k5 k6 k7 t0 t1 t2 t3 t4 t5 t6 t7, Tc data at' a3 → ∀ h' tk', Fr h₀ L h' m → News h₀ L h' ((rd, dictOf [ent w.params "data" k0 (.bytes data.toArray t0), ent w.params "width" k1 (.int 80 t1), ent w.params "most_deep" k2 (.int 9 t2), ent w.params "name" k3 (.bytes #[108, 97, 119] t3), ent w.params "length_size" k4 (.int ls t4), ent w.params "number_size" k5 (.int ns t5), ent w.params "at" k6 (.int at' t6), ent w.params "depth" k7 (.int dep t7)] 8) :: rest) → Q (.none) { s with heap := h', toks := tk' }) :
    wpAny (model prog w) (ktrTop dp un gd cn cs L a ccd cl outer) (call (.ref 353) [.ref r]) Q E s := by
  have N := pk.news N
  have hr := pk.mem hr (fun e => by have e2 := congrArg (fun q => q.2.data) e; cases e2)
  clear pk
  revert N; refine RSt.elim (G := fun es => News _ _ _ ((_, dictOf es 8) :: _) → _) (es := es) hR ?_; intro t0 t1' t2 t3 t4 t5 t6 t7 _ _ _ _ _ _ _ _ N
  have hz3 : data.toArray.size = data.length := List.size_toArray
  k_extra "M:enter"
  k_steps
  exact ret _ _ _ _ _ _ _ _ _ _ _ _ _ _ _ _ _ (by assumption) _ _ (by assumption) (by assumption)
theorem rtext0 {r rd : Addr} {data a3 : List UInt8} {ls ns at_ dep : Int} {es : List DictEntry}
    (B : Below A₀ base outer h₀) (F : Fr h₀ L s.heap m) (X : (hd.heap_1 w.params).In h₀) (N : News h₀ L s.heap l) (T : Top p loose mean mg mb h₀) (hk : cs.kind = .function) (hd : dp + 9 < recursionLimit) (hu : un + 72 < cLine)
    (hr : (r, instObj 385 rd) ∈ l) (pk : Pick (rd, dictOf es 8) l rest) (hne : ∀ q ∈ rest, q.1 ≠ rd) (hR : RSt w.params data ls ns at_ dep es)
    (hT : Tc data at_ (le 1 ls.toNat ++ ([0] ++ a3))) (hlen : data.length ≤ 16000) (hls : 1 ≤ ls) (hls' : ls ≤ 8)
    (ret : ∀ at' k0 k1 k2 k3 k4 k5 k6 k7 t0 t1 t2 t3 t4 t5 t6 t7, Tc data at' a3 → ∀ h' tk' t, Fr h₀ L h' m → News h₀ L h' ((rd, dictOf [ent w.params "data" k0 (.bytes data.toArray t0), ent w.params "width" k1 (.int 80 t1), ent w.params "most_deep" k2 (.int 9 t2), ent w.params "name" k3 (.bytes #[108, 97, 119] t3), ent w.params "length_size" k4 (.int ls t4), ent w.params "number_size" k5 (.int ns t5), ent w.params "at" k6 (.int at' t6), ent w.params "depth" k7 (.int dep t7)] 8) :: rest) → Q (.bytes #[] t) { s with heap := h', toks := tk' }) :
    wpAny (model prog w) (ktrTop dp un gd cn cs L a ccd cl outer) (call (.ref 353) [.ref r]) Q E s := by
  have N := pk.news N
  have hr := pk.mem hr (fun e => by have e2 := congrArg (fun q => q.2.data) e; cases e2)
  clear pk
  revert N; refine RSt.elim (G := fun es => News _ _ _ ((_, dictOf es 8) :: _) → _) (es := es) hR ?_; intro t0 t1' t2 t3 t4 t5 t6 t7 _ _ _ _ _ _ _ _ N
  have hz3 : data.toArray.size = data.length := List.size_toArray
  k_extra "M:enter"
  k_steps
  exact ret _ _ _ _ _ _ _ _ _ _ _ _ _ _ _ _ _ (by assumption) _ _ _ (by assumption) (by assumption)
theorem rtextT {r rd : Addr} {data a3 : List UInt8} {ls ns at_ dep : Int} {es : List DictEntry}
    (B : Below A₀ base outer h₀) (F : Fr h₀ L s.heap m) (X : (hd.heap_1 w.params).In h₀) (N : News h₀ L s.heap l) (T : Top p loose mean mg mb h₀) (hk : cs.kind = .function) (hd : dp + 9 < recursionLimit) (hu : un + 72 < cLine)
    (hr : (r, instObj 385 rd) ∈ l) (pk : Pick (rd, dictOf es 8) l rest) (hne : ∀ q ∈ rest, q.1 ≠ rd) (hR : RSt w.params data ls ns at_ dep es)
    (hT : Tc data at_ (le 2 ls.toNat ++ ([116, 0] ++ a3))) (hlen : data.length ≤ 16000) (hls : 1 ≤ ls) (hls' : ls ≤ 8)
    (ret : ∀ at' k0 k1 k2 k3 k4 k5 k6 k7 t0 t1 t2 t3 t4 t5 t6 t7, Tc data at' a3 → ∀ h' tk' t, Fr h₀ L h' m → News h₀ L h' ((rd, dictOf [ent w.params "data" k0 (.bytes data.toArray t0), ent w.params "width" k1 (.int 80 t1), ent w.params "most_deep" k2 (.int 9 t2), ent w.params "name" k3 (.bytes #[108, 97, 119] t3), ent w.params "length_size" k4 (.int ls t4), ent w.params "number_size" k5 (.int ns t5), ent w.params "at" k6 (.int at' t6), ent w.params "depth" k7 (.int dep t7)] 8) :: rest) → Q (.bytes #[116] t) { s with heap := h', toks := tk' }) :
    wpAny (model prog w) (ktrTop dp un gd cn cs L a ccd cl outer) (call (.ref 353) [.ref r]) Q E s := by
  have N := pk.news N
  have hr := pk.mem hr (fun e => by have e2 := congrArg (fun q => q.2.data) e; cases e2)
  clear pk
  revert N; refine RSt.elim (G := fun es => News _ _ _ ((_, dictOf es 8) :: _) → _) (es := es) hR ?_; intro t0 t1' t2 t3 t4 t5 t6 t7 _ _ _ _ _ _ _ _ N
  have hz3 : data.toArray.size = data.length := List.size_toArray
  k_extra "M:enter"
  k_steps
  exact ret _ _ _ _ _ _ _ _ _ _ _ _ _ _ _ _ _ (by assumption) _ _ _ (by assumption) (by assumption)
end
end Mine
end
section
namespace Mine
section
variable {prog : Program} {w : World} {p : Program} {loose : List Str} {mean : ExcName → Option Value} {mg mb : Str → Option Value}
variable {dp un : Nat} {gd : Option (List Code)} {cn : Str} {cs : Scope} {a : Addr} {ccd : Value} {cl : List (Str × Addr)} {outer : List Env} {A₀ : Around} {base h₀ : Heap} {L : Addr} {m : Str → Option Value} {s : Shared} {Q E : Value → Shared → Prop} {l rest : Led}
theorem rtextG {root : Bool} {r rd : Addr} {data a3 : List UInt8} {ls ns at_ dep : Int} {es : List DictEntry}
    (B : Below A₀ base outer h₀) (F : Fr h₀ L s.heap m) (X : (hd.heap_1 w.params).In h₀) (N : News h₀ L s.heap l) (T : Top p loose mean mg mb h₀) (hk : cs.kind = .function) (hd : dp + 9 < recursionLimit) (hu : un + 72 < cLine)
    (hr : (r, instObj 385 rd) ∈ l) (pk : Pick (rd, dictOf es 8) l rest) (hne : ∀ q ∈ rest, q.1 ≠ rd) (hR : RSt w.params data ls ns at_ dep es)
    (hT : Tc data at_ (txtE root ls ++ a3)) (hlen : data.length ≤ 16000) (hls : 1 ≤ ls) (hls' : ls ≤ 8)
    (ret : ∀ at' k0 k1 k2 k3 k4 k5 k6 k7 t0 t1 t2 t3 t4 t5 t6 t7, Tc data at' a3 → ∀ h' tk' v, SrcIs root v → Fr h₀ L h' m → News h₀ L h' ((rd, dictOf [ent w.params "data" k0 (.bytes data.toArray t0), ent w.params "width" k1 (.int 80 t1), ent w.params "most_deep" k2 (.int 9 t2), ent w.params "name" k3 (.bytes #[108, 97, 119] t3), ent w.params "length_size" k4 (.int ls t4), ent w.params "number_size" k5 (.int ns t5), ent w.params "at" k6 (.int at' t6), ent w.params "depth" k7 (.int dep t7)] 8) :: rest) → Q v { s with heap := h', toks := tk' }) :
    wpAny (model prog w) (ktrTop dp un gd cn cs L a ccd cl outer) (call (.ref 353) [.ref r]) Q E s := by
  cases root
  · replace hT : Tc data at_ (le 0 ls.toNat ++ a3) := hT
    exact rtextN B F X N T hk hd hu hr pk hne hR hT hlen hls hls' fun _ _ _ _ _ _ _ _ _ _ _ _ _ _ _ _ _ hT h' tk' F N => ret _ _ _ _ _ _ _ _ _ _ _ _ _ _ _ _ _ hT h' tk' _ (.inl ⟨rfl, rfl⟩) F N
  · simp only [txtE, if_true, List.append_assoc, List.nil_append] at hT
    rw [root_enc] at hT
    exact rtext0 B F X N T hk hd hu hr pk hne hR hT hlen hls hls' fun _ _ _ _ _ _ _ _ _ _ _ _ _ _ _ _ _ hT h' tk' t F N => ret _ _ _ _ _ _ _ _ _ _ _ _ _ _ _ _ _ hT h' tk' _ (.inr ⟨rfl, t, rfl⟩) F N
end
end Mine
end
section
namespace Mine
open PySem PySem.W PyProof.Rows in
theorem bitAnd_m80 (x : Int) : Builtin.bitAnd x (1 * 2 ^ Int.toNat 80 - 1) = x % 1208925819614629174706176 := by
  have e0 : (1 * 2 ^ Int.toNat 80 - 1 : Int) = 1208925819614629174706175 := by decide +kernel
  rw [e0]
  by_cases hx : 0 ≤ x
  · rw [bitAnd_pp hx (by decide)]
    have h : x.toNat &&& (1208925819614629174706175 : Int).toNat = x.toNat % 1208925819614629174706176 := Nat.and_two_pow_sub_one_eq_mod x.toNat 80
    rw [h]
    omega
  · rw [bitAnd_np hx (by decide)]
    have h : (1208925819614629174706175 : Int).toNat &&& (Builtin.bitNot x).toNat = (Builtin.bitNot x).toNat % 1208925819614629174706176 := by
      rw [Nat.and_comm]
      exact Nat.and_two_pow_sub_one_eq_mod (Builtin.bitNot x).toNat 80
    rw [h]
    unfold Builtin.bitNot
    omega
theorem wrap_e1 : (1 * 2 ^ Int.toNat 80 : Int) = 1208925819614629174706176 := by decide +kernel
theorem wrap_e2 : (1 * 2 ^ (80 - 1 : Int).toNat : Int) = 604462909807314587353088 := by decide +kernel
/-- a number of ns octets, read back -/
theorem fmod_back {ns v : Int} (h : 1 ≤ ns) (hf : Fits ns v) : (Int.fmod v (2 * halfOf ns) = v ∧ 0 ≤ v) ∨ (Int.fmod v (2 * halfOf ns) = v + 256 ^ ns.toNat ∧ v < 0) := by
  have h1 := half_pos h
  have h2 := two_half h
  obtain ⟨f1, f2⟩ := hf
  rw [Int.fmod_eq_emod_of_nonneg _ (by omega)]
  by_cases hv : 0 ≤ v
  · exact .inl ⟨Int.emod_eq_of_lt hv (by omega), hv⟩
  · refine .inr ⟨?_, by omega⟩
    rw [← h2, ← Int.add_emod_right, Int.emod_eq_of_lt (by omega) (by omega)]
theorem half_le {ns : Int} (h : 1 ≤ ns) (h8 : ns ≤ 8) : halfOf ns ≤ 9223372036854775808 := by
  have : ∀ k : Fin 9, halfOf ((k.val : Nat) : Int) ≤ 9223372036854775808 := by decide +kernel
  have h2 := this ⟨ns.toNat, by omega⟩
  rwa [show ((ns.toNat : Nat) : Int) = ns by omega] at h2
end Mine
end
section
theorem Mine.sayCwrap : True := by
  k_with_none
  (k_with "M:ne" => first | assumption | omega)
  (k_with "M:all" => first | assumption | exact List.forall_mem_nil _ | (refine' Mine.ne_cons ?wa ?wb; (case wa => k_extra "M:ne"); (case wb => k_all)) | (refine' tbn_neAll ?wkah; (case wkah => k_extra "M:conj")))
  (k_with "M:upd" => first | (refine' Upd.head ?wa; (case wa => k_all)) | (refine' Mine.upd_tail ?wa ?wb; (case wa => k_extra "M:ne"); (case wb => k_upd)))
  (k_with "M:conj" => first | assumption | (refine' And.right ?_; assumption) | (refine' And.right (And.right ?_); assumption) | (refine' And.right (And.right (And.right ?_)); assumption) | (refine' And.right (And.right (And.right (And.right ?_))); assumption) | (refine' And.right (And.right (And.right (And.right (And.right ?_)))); assumption))
  (k_with "M:mem" => first | assumption | exact List.mem_cons_self | (refine' List.mem_cons_of_mem _ ?_; k_extra "M:mem"))
  (k_with "M:in" => first | assumption | exact Frag.In.keeps (by k_asm) (Fr.keep (by k_asm)))
  (k_with "M:news" => k_dflt k_mem)
  (k_with "M:enter" => (refine wpAny_call ?_; k_dflt ktr_enter))
  (k_with "M:enterC" => (refine wpAny_call ?_; k_dflt (refine' code_defC ?wk1 ?wk2 ?wk3 ?wk4 ?wk5 ?wkA ?kF ?kK ?wk6 ?wk7 ?wk8 ?wk9 ?kB ?wkD ?_ ?wc2 ?wc3 ?wc4; (case wkA => exact rfl); (case kF => exact rfl); (case kK => assumption); (case wk1 => k_asm); (case wk2 => k_asm); (case wk3 => k_asm); (case wk4 => k_asm); (case wk5 => k_asm); (case wk6 => k_is); (case wk7 => k_is); (case wk8 => ktr_room); (case wk9 => first | exact BindsTo.of_eq rfl | exact binds_K (by k_in) rfl (by k_is) rfl rfl rfl | fail "k_enter: no rule for these arguments"); (case kB => exact rfl); (case wkD => decide +kernel); (case wc2 => exact rfl); (case wc3 => exact rfl); (case wc4 => exact rfl); k_whole; intro wg' wL' wh' wtk' wcells' wFG' wF' wN' wY' wB' wX' wT' wl1; (try k_lt wl1); k_cells wY'; (try simp only [List.cons_append, List.nil_append] at wN'); (try dsimp only); (try k_lift wB'); (try k_fold))))
  (k_with "M:base" => ((case kB => k_asm); (case kF => k_asm); (case kX => k_asm); (case kN => k_asm); (case kT => k_asm); (case kK => first | exact rfl | assumption); (case kd => ktr_room); (case ku => ktr_units)))
  (k_with "M:pick" => first | exact Mine.Pick.head | (apply Mine.Pick.tail; k_extra "M:pick"))
  (k_with "M:room" => ktr_room)
  (k_with "call builtin:list.append" => (k_here; (with_reducible show wpAny _ _ (call (Value.builtin _) [Value.ref _, _]) _ _ _); k_dflt (refine' append_K ?wk1 ?wk2 ?wk3 ?_ ?wz; (case wk1 => k_asm); (case wk2 => k_asm); (case wk3 => k_upd); (case wz => first | size_fits | ((try simp only [List.size_toArray, sizeLine_eq]); omega)); k_whole); intro wh' wF' wN'; (try simp only [List.push_toArray] at wN'); (try k_sweep)))
  (k_with "M:enterD" => (refine wpAny_call ?_; k_dflt (refine' code_def ?wk1 ?wk2 ?wk3 ?wk4 ?wk5 ?wkA ?kF ?kK ?wk6 ?wk7 ?wk8 ?wk9 ?kB ?_ ?wc2 ?wc3 ?wc4 ?wc5; (case wkA => exact rfl); (case kF => exact rfl); (case kK => assumption); (case wk1 => k_asm); (case wk2 => k_asm); (case wk3 => k_asm); (case wk4 => k_asm); (case wk5 => k_asm); (case wk6 => k_is); (case wk7 => k_is); (case wk8 => ktr_room); (case wk9 => first | exact BindsTo.of_eq rfl | exact binds_K (by k_in) rfl (by k_is) rfl rfl rfl | fail "enterD: no rule for these arguments"); (case wc5 => decide); (case kB => exact locs rfl); (case wc2 => exact rfl); (case wc3 => exact rfl); (case wc4 => exact rfl); k_whole; intro wg' wL' wh' wFG' wF' wN' wB' wX' wT'; (try dsimp only); (try k_fold))))
  trivial
namespace Mine
section
variable {prog : Program} {w : World} {p : Program} {loose : List Str} {mean : ExcName → Option Value} {mg mb : Str → Option Value}
variable {dp un : Nat} {gd : Option (List Code)} {cn : Str} {cs : Scope} {a : Addr} {ccd : Value} {cl : List (Str × Addr)} {outer : List Env} {A₀ : Around} {base h₀ : Heap} {L : Addr} {m : Str → Option Value} {s : Shared} {Q E : Value → Shared → Prop} {l rest : Led}
theorem wrap {v : Int} {t1 t2 : Tok}
    (B : Below A₀ base outer h₀) (F : Fr h₀ L s.heap m) (X : (hd.heap_1 w.params).In h₀) (N : News h₀ L s.heap l) (T : Top p loose mean mg mb h₀) (hk : cs.kind = .function) (hd : dp + 3 < recursionLimit) (hu : un + 24 < cLine)
    (h0 : -9223372036854775808 ≤ v) (h1 : v ≤ 9223372036854775807)
    (ret : ∀ h' tk' t, Fr h₀ L h' m → News h₀ L h' l → Q (.int v t) { s with heap := h', toks := tk' }) :
    wpAny (model prog w) (ktrTop dp un gd cn cs L a ccd cl outer) (call (.ref 119) [.int v t1, .int 80 t2]) Q E s := by
  k_extra "M:enter"
  k_steps
  · rename (_ ≤ Builtin.bitAnd _ _) => c1
    rw [wrap_e2, bitAnd_m80] at c1
    rw [bitAnd_m80, wrap_e1]
    have e : v % 1208925819614629174706176 - 1208925819614629174706176 = v := by omega
    rw [e]
    exact ret _ _ _ (by assumption) (by assumption)
  · rename (¬ _ ≤ Builtin.bitAnd _ _) => c1
    rw [wrap_e2, bitAnd_m80] at c1
    rw [bitAnd_m80]
    have e : v % 1208925819614629174706176 = v := by omega
    rw [e]
    exact ret _ _ _ (by assumption) (by assumption)
end
end Mine
end
section
theorem Mine.sayCrnumber : True := by
  k_with_none
  (k_with "M:ne" => first | assumption | omega)
  (k_with "M:all" => first | assumption | exact List.forall_mem_nil _ | (refine' Mine.ne_cons ?wa ?wb; (case wa => k_extra "M:ne"); (case wb => k_all)) | (refine' tbn_neAll ?wkah; (case wkah => k_extra "M:conj")))
  (k_with "M:upd" => first | (refine' Upd.head ?wa; (case wa => k_all)) | (refine' Mine.upd_tail ?wa ?wb; (case wa => k_extra "M:ne"); (case wb => k_upd)))
  (k_with "M:conj" => first | assumption | (refine' And.right ?_; assumption) | (refine' And.right (And.right ?_); assumption) | (refine' And.right (And.right (And.right ?_)); assumption) | (refine' And.right (And.right (And.right (And.right ?_))); assumption) | (refine' And.right (And.right (And.right (And.right (And.right ?_)))); assumption))
  (k_with "M:mem" => first | assumption | exact List.mem_cons_self | (refine' List.mem_cons_of_mem _ ?_; k_extra "M:mem"))
  (k_with "M:in" => first | assumption | exact Frag.In.keeps (by k_asm) (Fr.keep (by k_asm)))
  (k_with "M:news" => k_dflt k_mem)
  (k_with "M:enter" => (refine wpAny_call ?_; k_dflt ktr_enter))
  (k_with "M:enterC" => (refine wpAny_call ?_; k_dflt (refine' code_defC ?wk1 ?wk2 ?wk3 ?wk4 ?wk5 ?wkA ?kF ?kK ?wk6 ?wk7 ?wk8 ?wk9 ?kB ?wkD ?_ ?wc2 ?wc3 ?wc4; (case wkA => exact rfl); (case kF => exact rfl); (case kK => assumption); (case wk1 => k_asm); (case wk2 => k_asm); (case wk3 => k_asm); (case wk4 => k_asm); (case wk5 => k_asm); (case wk6 => k_is); (case wk7 => k_is); (case wk8 => ktr_room); (case wk9 => first | exact BindsTo.of_eq rfl | exact binds_K (by k_in) rfl (by k_is) rfl rfl rfl | fail "k_enter: no rule for these arguments"); (case kB => exact rfl); (case wkD => decide +kernel); (case wc2 => exact rfl); (case wc3 => exact rfl); (case wc4 => exact rfl); k_whole; intro wg' wL' wh' wtk' wcells' wFG' wF' wN' wY' wB' wX' wT' wl1; (try k_lt wl1); k_cells wY'; (try simp only [List.cons_append, List.nil_append] at wN'); (try dsimp only); (try k_lift wB'); (try k_fold))))
  (k_with "M:base" => ((case kB => k_asm); (case kF => k_asm); (case kX => k_asm); (case kN => k_asm); (case kT => k_asm); (case kK => first | exact rfl | assumption); (case kd => ktr_room); (case ku => ktr_units)))
  (k_with "M:pick" => first | exact Mine.Pick.head | (apply Mine.Pick.tail; k_extra "M:pick"))
  (k_with "M:room" => ktr_room)
  (k_with "call builtin:list.append" => (k_here; (with_reducible show wpAny _ _ (call (Value.builtin _) [Value.ref _, _]) _ _ _); k_dflt (refine' append_K ?wk1 ?wk2 ?wk3 ?_ ?wz; (case wk1 => k_asm); (case wk2 => k_asm); (case wk3 => k_upd); (case wz => first | size_fits | ((try simp only [List.size_toArray, sizeLine_eq]); omega)); k_whole); intro wh' wF' wN'; (try simp only [List.push_toArray] at wN'); (try k_sweep)))
  (k_with "M:enterD" => (refine wpAny_call ?_; k_dflt (refine' code_def ?wk1 ?wk2 ?wk3 ?wk4 ?wk5 ?wkA ?kF ?kK ?wk6 ?wk7 ?wk8 ?wk9 ?kB ?_ ?wc2 ?wc3 ?wc4 ?wc5; (case wkA => exact rfl); (case kF => exact rfl); (case kK => assumption); (case wk1 => k_asm); (case wk2 => k_asm); (case wk3 => k_asm); (case wk4 => k_asm); (case wk5 => k_asm); (case wk6 => k_is); (case wk7 => k_is); (case wk8 => ktr_room); (case wk9 => first | exact BindsTo.of_eq rfl | exact binds_K (by k_in) rfl (by k_is) rfl rfl rfl | fail "enterD: no rule for these arguments"); (case wc5 => decide); (case kB => exact locs rfl); (case wc2 => exact rfl); (case wc3 => exact rfl); (case wc4 => exact rfl); k_whole; intro wg' wL' wh' wFG' wF' wN' wB' wX' wT'; (try dsimp only); (try k_fold))))
  (k_with "M:all" => first | assumption | exact List.forall_mem_nil _ | (refine' Mine.ne_cons ?wa ?wb; (case wa => k_extra "M:ne"); (case wb => k_all)) | (refine' Mine.off1_ne ?wkah; (case wkah => k_extra "M:conj")))
  (k_with "M:pow" => first | exact Mine.pow_four (by omega) | exact Mine.pow_one (by omega) (by omega) | exact Mine.pow_one (by omega) (by decide) | assumption)
  (k_with "call ref" => (k_here; (with_reducible show wpAny _ _ (call (Value.ref 318) _) _ _ _); k_dflt (rename Mine.Tc _ _ _ => whT; refine' Mine.rwhole ?kB ?kF ?kX ?kN ?kT ?kK ?kd ?ku ?wkr ?wkp ?wkn ?wkR whT ?wkl ?wkz ?wk8 ?wk0 ?wk1 ?_; k_extra "M:base"; (case wkr => k_mem); (case wkp => k_extra "M:pick"); (case wkn => k_all); (case wkR => exact Mine.RSt.intro); (case wkl => assumption); (case wkz => first | omega | rfl); (case wk8 => omega); (case wk0 => omega); (case wk1 => k_extra "M:pow"); k_whole); intro wat' _ _ _ _ _ _ _ _ _ _ _ _ _ _ _ _ whT' wh' wtk' wt' wF' wN'; (try clear whT); (try k_fold)))
  (k_with "call ref" => (k_here; (with_reducible show wpAny _ _ (call (Value.ref 119) _) _ _ _); k_dflt (refine' Mine.wrap ?kB ?kF ?kX ?kN ?kT ?kK ?kd ?ku ?wk0 ?wk1 ?_; k_extra "M:base"; (case wk0 => omega); (case wk1 => omega)); intro wh' wtk' wt' wF' wN'; (try k_fold)))
  trivial
namespace Mine
section
variable {prog : Program} {w : World} {p : Program} {loose : List Str} {mean : ExcName → Option Value} {mg mb : Str → Option Value}
variable {dp un : Nat} {gd : Option (List Code)} {cn : Str} {cs : Scope} {a : Addr} {ccd : Value} {cl : List (Str × Addr)} {outer : List Env} {A₀ : Around} {base h₀ : Heap} {L : Addr} {m : Str → Option Value} {s : Shared} {Q E : Value → Shared → Prop} {l rest : Led}
theorem rnumber {r rd : Addr} {data a3 : List UInt8} {ls ns at_ dep : Int} {es : List DictEntry} {v : Int}
    (B : Below A₀ base outer h₀) (F : Fr h₀ L s.heap m) (X : (hd.heap_1 w.params).In h₀) (N : News h₀ L s.heap l) (T : Top p loose mean mg mb h₀) (hk : cs.kind = .function) (hd : dp + 9 < recursionLimit) (hu : un + 72 < cLine)
    (hr : (r, instObj 385 rd) ∈ l) (pk : Pick (rd, dictOf es 8) l rest) (hne : ∀ q ∈ rest, q.1 ≠ rd) (hR : RSt w.params data ls ns at_ dep es)
    (hT : Tc data at_ (encN ns v ++ a3)) (hlen : data.length ≤ 16000) (hns : 1 ≤ ns) (hns' : ns ≤ 8) (hf : Fits ns v)
    (ret : ∀ at' k0 k1 k2 k3 k4 k5 k6 k7 t0 t1 t2 t3 t4 t5 t6 t7, Tc data at' a3 → ∀ h' tk' t, Fr h₀ L h' m → News h₀ L h' ((rd, dictOf [ent w.params "data" k0 (.bytes data.toArray t0), ent w.params "width" k1 (.int 80 t1), ent w.params "most_deep" k2 (.int 9 t2), ent w.params "name" k3 (.bytes #[108, 97, 119] t3), ent w.params "length_size" k4 (.int ls t4), ent w.params "number_size" k5 (.int ns t5), ent w.params "at" k6 (.int at' t6), ent w.params "depth" k7 (.int dep t7)] 8) :: rest) → Q (.int v t) { s with heap := h', toks := tk' }) :
    wpAny (model prog w) (ktrTop dp un gd cn cs L a ccd cl outer) (call (.ref 346) [.ref r]) Q E s := by
  have N := pk.news N
  have hr := pk.mem hr (fun e => by have e2 := congrArg (fun q => q.2.data) e; cases e2)
  clear pk
  revert N; refine RSt.elim (G := fun es => News _ _ _ ((_, dictOf es 8) :: _) → _) (es := es) hR ?_; intro t0 t1' t2 t3 t4 t5 t6 t7 _ _ _ _ _ _ _ _ N
  have g1 := half_pos hns
  have g2 := two_half hns
  have g3 := half_le hns hns'
  have g4 := fmod_back hns hf
  have g5 := hf.1
  have g6 := hf.2
  have g7 : 0 ≤ Int.fmod v (2 * halfOf ns) := by omega
  have g8 : Int.fmod v (2 * halfOf ns) < 256 ^ ns.toNat := by omega
  have hT : Tc data at_ (le (Int.fmod v (2 * halfOf ns)) ns.toNat ++ a3) := hT
  have e1 : (256 ^ ns.toNat : Int).fdiv 2 = halfOf ns := rfl
  k_extra "M:enter"
  k_steps
  · have e : v.fmod (2 * halfOf ns) - 256 ^ ns.toNat = v := by omega
    rw [e]
    exact ret _ _ _ _ _ _ _ _ _ _ _ _ _ _ _ _ _ (by assumption) _ _ _ (by assumption) (by assumption)
  · have e : v.fmod (2 * halfOf ns) = v := by omega
    rw [e]
    exact ret _ _ _ _ _ _ _ _ _ _ _ _ _ _ _ _ _ (by assumption) _ _ _ (by assumption) (by assumption)
end
end Mine
end
section
theorem Mine.sayCroct : True := by
  k_with_none
  (k_with "M:ne" => first | assumption | omega)
  (k_with "M:all" => first | assumption | exact List.forall_mem_nil _ | (refine' Mine.ne_cons ?wa ?wb; (case wa => k_extra "M:ne"); (case wb => k_all)) | (refine' tbn_neAll ?wkah; (case wkah => k_extra "M:conj")))
  (k_with "M:upd" => first | (refine' Upd.head ?wa; (case wa => k_all)) | (refine' Mine.upd_tail ?wa ?wb; (case wa => k_extra "M:ne"); (case wb => k_upd)))
  (k_with "M:conj" => first | assumption | (refine' And.right ?_; assumption) | (refine' And.right (And.right ?_); assumption) | (refine' And.right (And.right (And.right ?_)); assumption) | (refine' And.right (And.right (And.right (And.right ?_))); assumption) | (refine' And.right (And.right (And.right (And.right (And.right ?_)))); assumption))
  (k_with "M:mem" => first | assumption | exact List.mem_cons_self | (refine' List.mem_cons_of_mem _ ?_; k_extra "M:mem"))
  (k_with "M:in" => first | assumption | exact Frag.In.keeps (by k_asm) (Fr.keep (by k_asm)))
  (k_with "M:news" => k_dflt k_mem)
  (k_with "M:enter" => (refine wpAny_call ?_; k_dflt ktr_enter))
  (k_with "M:enterC" => (refine wpAny_call ?_; k_dflt (refine' code_defC ?wk1 ?wk2 ?wk3 ?wk4 ?wk5 ?wkA ?kF ?kK ?wk6 ?wk7 ?wk8 ?wk9 ?kB ?wkD ?_ ?wc2 ?wc3 ?wc4; (case wkA => exact rfl); (case kF => exact rfl); (case kK => assumption); (case wk1 => k_asm); (case wk2 => k_asm); (case wk3 => k_asm); (case wk4 => k_asm); (case wk5 => k_asm); (case wk6 => k_is); (case wk7 => k_is); (case wk8 => ktr_room); (case wk9 => first | exact BindsTo.of_eq rfl | exact binds_K (by k_in) rfl (by k_is) rfl rfl rfl | fail "k_enter: no rule for these arguments"); (case kB => exact rfl); (case wkD => decide +kernel); (case wc2 => exact rfl); (case wc3 => exact rfl); (case wc4 => exact rfl); k_whole; intro wg' wL' wh' wtk' wcells' wFG' wF' wN' wY' wB' wX' wT' wl1; (try k_lt wl1); k_cells wY'; (try simp only [List.cons_append, List.nil_append] at wN'); (try dsimp only); (try k_lift wB'); (try k_fold))))
  (k_with "M:base" => ((case kB => k_asm); (case kF => k_asm); (case kX => k_asm); (case kN => k_asm); (case kT => k_asm); (case kK => first | exact rfl | assumption); (case kd => ktr_room); (case ku => ktr_units)))
  (k_with "M:pick" => first | exact Mine.Pick.head | (apply Mine.Pick.tail; k_extra "M:pick"))
  (k_with "M:room" => ktr_room)
  (k_with "call builtin:list.append" => (k_here; (with_reducible show wpAny _ _ (call (Value.builtin _) [Value.ref _, _]) _ _ _); k_dflt (refine' append_K ?wk1 ?wk2 ?wk3 ?_ ?wz; (case wk1 => k_asm); (case wk2 => k_asm); (case wk3 => k_upd); (case wz => first | size_fits | ((try simp only [List.size_toArray, sizeLine_eq]); omega)); k_whole); intro wh' wF' wN'; (try simp only [List.push_toArray] at wN'); (try k_sweep)))
  (k_with "M:enterD" => (refine wpAny_call ?_; k_dflt (refine' code_def ?wk1 ?wk2 ?wk3 ?wk4 ?wk5 ?wkA ?kF ?kK ?wk6 ?wk7 ?wk8 ?wk9 ?kB ?_ ?wc2 ?wc3 ?wc4 ?wc5; (case wkA => exact rfl); (case kF => exact rfl); (case kK => assumption); (case wk1 => k_asm); (case wk2 => k_asm); (case wk3 => k_asm); (case wk4 => k_asm); (case wk5 => k_asm); (case wk6 => k_is); (case wk7 => k_is); (case wk8 => ktr_room); (case wk9 => first | exact BindsTo.of_eq rfl | exact binds_K (by k_in) rfl (by k_is) rfl rfl rfl | fail "enterD: no rule for these arguments"); (case wc5 => decide); (case kB => exact locs rfl); (case wc2 => exact rfl); (case wc3 => exact rfl); (case wc4 => exact rfl); k_whole; intro wg' wL' wh' wFG' wF' wN' wB' wX' wT'; (try dsimp only); (try k_fold))))
  (k_with "M:all" => first | assumption | exact List.forall_mem_nil _ | (refine' Mine.ne_cons ?wa ?wb; (case wa => k_extra "M:ne"); (case wb => k_all)) | (refine' Mine.off1_ne ?wkah; (case wkah => k_extra "M:conj")))
  (k_with "M:pow" => first | exact Mine.pow_four (by omega) | exact Mine.pow_one (by omega) (by omega) | exact Mine.pow_one (by omega) (by decide) | assumption)
  (k_with "call ref" => (k_here; (with_reducible show wpAny _ _ (call (Value.ref 318) _) _ _ _); k_dflt (rename Mine.Tc _ _ _ => whT; refine' Mine.rwhole ?kB ?kF ?kX ?kN ?kT ?kK ?kd ?ku ?wkr ?wkp ?wkn ?wkR whT ?wkl ?wkz ?wk8 ?wk0 ?wk1 ?_; k_extra "M:base"; (case wkr => k_mem); (case wkp => k_extra "M:pick"); (case wkn => k_all); (case wkR => exact Mine.RSt.intro); (case wkl => assumption); (case wkz => first | omega | rfl); (case wk8 => omega); (case wk0 => omega); (case wk1 => k_extra "M:pow"); k_whole); intro wat' _ _ _ _ _ _ _ _ _ _ _ _ _ _ _ _ whT' wh' wtk' wt' wF' wN'; (try clear whT); (try k_fold)))
  trivial
namespace Mine
section
variable {prog : Program} {w : World} {p : Program} {loose : List Str} {mean : ExcName → Option Value} {mg mb : Str → Option Value}
variable {dp un : Nat} {gd : Option (List Code)} {cn : Str} {cs : Scope} {a : Addr} {ccd : Value} {cl : List (Str × Addr)} {outer : List Env} {A₀ : Around} {base h₀ : Heap} {L : Addr} {m : Str → Option Value} {s : Shared} {Q E : Value → Shared → Prop} {l rest : Led}
theorem roctet {r rd : Addr} {data a3 : List UInt8} {ls ns at_ dep : Int} {es : List DictEntry} {v : Int}
    (B : Below A₀ base outer h₀) (F : Fr h₀ L s.heap m) (X : (hd.heap_1 w.params).In h₀) (N : News h₀ L s.heap l) (T : Top p loose mean mg mb h₀) (hk : cs.kind = .function) (hd : dp + 9 < recursionLimit) (hu : un + 72 < cLine)
    (hr : (r, instObj 385 rd) ∈ l) (pk : Pick (rd, dictOf es 8) l rest) (hne : ∀ q ∈ rest, q.1 ≠ rd) (hR : RSt w.params data ls ns at_ dep es)
    (hT : Tc data at_ (le v 1 ++ a3)) (hlen : data.length ≤ 16000) (h0 : 0 ≤ v) (h1 : v < 256)
    (ret : ∀ at' k0 k1 k2 k3 k4 k5 k6 k7 t0 t1 t2 t3 t4 t5 t6 t7, Tc data at' a3 → ∀ h' tk' t, Fr h₀ L h' m → News h₀ L h' ((rd, dictOf [ent w.params "data" k0 (.bytes data.toArray t0), ent w.params "width" k1 (.int 80 t1), ent w.params "most_deep" k2 (.int 9 t2), ent w.params "name" k3 (.bytes #[108, 97, 119] t3), ent w.params "length_size" k4 (.int ls t4), ent w.params "number_size" k5 (.int ns t5), ent w.params "at" k6 (.int at' t6), ent w.params "depth" k7 (.int dep t7)] 8) :: rest) → Q (.int v t) { s with heap := h', toks := tk' }) :
    wpAny (model prog w) (ktrTop dp un gd cn cs L a ccd cl outer) (call (.ref 325) [.ref r]) Q E s := by
  have N := pk.news N
  have hr := pk.mem hr (fun e => by have e2 := congrArg (fun q => q.2.data) e; cases e2)
  clear pk
  revert N; refine RSt.elim (G := fun es => News _ _ _ ((_, dictOf es 8) :: _) → _) (es := es) hR ?_; intro t0 t1' t2 t3 t4 t5 t6 t7 _ _ _ _ _ _ _ _ N
  k_extra "M:enter"
  k_steps
  exact ret _ _ _ _ _ _ _ _ _ _ _ _ _ _ _ _ _ (by assumption) _ _ _ (by assumption) (by assumption)
theorem rinteger {r rd : Addr} {data a3 : List UInt8} {ls ns at_ dep : Int} {es : List DictEntry} {v : Int}
    (B : Below A₀ base outer h₀) (F : Fr h₀ L s.heap m) (X : (hd.heap_1 w.params).In h₀) (N : News h₀ L s.heap l) (T : Top p loose mean mg mb h₀) (hk : cs.kind = .function) (hd : dp + 9 < recursionLimit) (hu : un + 72 < cLine)
    (hr : (r, instObj 385 rd) ∈ l) (pk : Pick (rd, dictOf es 8) l rest) (hne : ∀ q ∈ rest, q.1 ≠ rd) (hR : RSt w.params data ls ns at_ dep es)
    (hT : Tc data at_ (le v 4 ++ a3)) (hlen : data.length ≤ 16000) (h0 : 0 ≤ v) (h1 : v ≤ 2147483647)
    (ret : ∀ at' k0 k1 k2 k3 k4 k5 k6 k7 t0 t1 t2 t3 t4 t5 t6 t7, Tc data at' a3 → ∀ h' tk' t, Fr h₀ L h' m → News h₀ L h' ((rd, dictOf [ent w.params "data" k0 (.bytes data.toArray t0), ent w.params "width" k1 (.int 80 t1), ent w.params "most_deep" k2 (.int 9 t2), ent w.params "name" k3 (.bytes #[108, 97, 119] t3), ent w.params "length_size" k4 (.int ls t4), ent w.params "number_size" k5 (.int ns t5), ent w.params "at" k6 (.int at' t6), ent w.params "depth" k7 (.int dep t7)] 8) :: rest) → Q (.int v t) { s with heap := h', toks := tk' }) :
    wpAny (model prog w) (ktrTop dp un gd cn cs L a ccd cl outer) (call (.ref 332) [.ref r]) Q E s := by
  have N := pk.news N
  have hr := pk.mem hr (fun e => by have e2 := congrArg (fun q => q.2.data) e; cases e2)
  clear pk
  revert N; refine RSt.elim (G := fun es => News _ _ _ ((_, dictOf es 8) :: _) → _) (es := es) hR ?_; intro t0 t1' t2 t3 t4 t5 t6 t7 _ _ _ _ _ _ _ _ N
  k_extra "M:enter"
  k_steps
  exact ret _ _ _ _ _ _ _ _ _ _ _ _ _ _ _ _ _ (by assumption) _ _ _ (by assumption) (by assumption)
end
end Mine
end
section
theorem Mine.sayCrconst : True := by
  k_with_none
  (k_with "M:ne" => first | assumption | omega)
  (k_with "M:all" => first | assumption | exact List.forall_mem_nil _ | (refine' Mine.ne_cons ?wa ?wb; (case wa => k_extra "M:ne"); (case wb => k_all)) | (refine' tbn_neAll ?wkah; (case wkah => k_extra "M:conj")))
  (k_with "M:upd" => first | (refine' Upd.head ?wa; (case wa => k_all)) | (refine' Mine.upd_tail ?wa ?wb; (case wa => k_extra "M:ne"); (case wb => k_upd)))
  (k_with "M:conj" => first | assumption | (refine' And.right ?_; assumption) | (refine' And.right (And.right ?_); assumption) | (refine' And.right (And.right (And.right ?_)); assumption) | (refine' And.right (And.right (And.right (And.right ?_))); assumption) | (refine' And.right (And.right (And.right (And.right (And.right ?_)))); assumption))
  (k_with "M:mem" => first | assumption | exact List.mem_cons_self | (refine' List.mem_cons_of_mem _ ?_; k_extra "M:mem"))
  (k_with "M:in" => first | assumption | exact Frag.In.keeps (by k_asm) (Fr.keep (by k_asm)))
  (k_with "M:news" => k_dflt k_mem)
  (k_with "M:enter" => (refine wpAny_call ?_; k_dflt ktr_enter))
  (k_with "M:enterC" => (refine wpAny_call ?_; k_dflt (refine' code_defC ?wk1 ?wk2 ?wk3 ?wk4 ?wk5 ?wkA ?kF ?kK ?wk6 ?wk7 ?wk8 ?wk9 ?kB ?wkD ?_ ?wc2 ?wc3 ?wc4; (case wkA => exact rfl); (case kF => exact rfl); (case kK => assumption); (case wk1 => k_asm); (case wk2 => k_asm); (case wk3 => k_asm); (case wk4 => k_asm); (case wk5 => k_asm); (case wk6 => k_is); (case wk7 => k_is); (case wk8 => ktr_room); (case wk9 => first | exact BindsTo.of_eq rfl | exact binds_K (by k_in) rfl (by k_is) rfl rfl rfl | fail "k_enter: no rule for these arguments"); (case kB => exact rfl); (case wkD => decide +kernel); (case wc2 => exact rfl); (case wc3 => exact rfl); (case wc4 => exact rfl); k_whole; intro wg' wL' wh' wtk' wcells' wFG' wF' wN' wY' wB' wX' wT' wl1; (try k_lt wl1); k_cells wY'; (try simp only [List.cons_append, List.nil_append] at wN'); (try dsimp only); (try k_lift wB'); (try k_fold))))
  (k_with "M:base" => ((case kB => k_asm); (case kF => k_asm); (case kX => k_asm); (case kN => k_asm); (case kT => k_asm); (case kK => first | exact rfl | assumption); (case kd => ktr_room); (case ku => ktr_units)))
  (k_with "M:pick" => first | exact Mine.Pick.head | (apply Mine.Pick.tail; k_extra "M:pick"))
  (k_with "M:room" => ktr_room)
  (k_with "call builtin:list.append" => (k_here; (with_reducible show wpAny _ _ (call (Value.builtin _) [Value.ref _, _]) _ _ _); k_dflt (refine' append_K ?wk1 ?wk2 ?wk3 ?_ ?wz; (case wk1 => k_asm); (case wk2 => k_asm); (case wk3 => k_upd); (case wz => first | size_fits | ((try simp only [List.size_toArray, sizeLine_eq]); omega)); k_whole); intro wh' wF' wN'; (try simp only [List.push_toArray] at wN'); (try k_sweep)))
  (k_with "M:enterD" => (refine wpAny_call ?_; k_dflt (refine' code_def ?wk1 ?wk2 ?wk3 ?wk4 ?wk5 ?wkA ?kF ?kK ?wk6 ?wk7 ?wk8 ?wk9 ?kB ?_ ?wc2 ?wc3 ?wc4 ?wc5; (case wkA => exact rfl); (case kF => exact rfl); (case kK => assumption); (case wk1 => k_asm); (case wk2 => k_asm); (case wk3 => k_asm); (case wk4 => k_asm); (case wk5 => k_asm); (case wk6 => k_is); (case wk7 => k_is); (case wk8 => ktr_room); (case wk9 => first | exact BindsTo.of_eq rfl | exact binds_K (by k_in) rfl (by k_is) rfl rfl rfl | fail "enterD: no rule for these arguments"); (case wc5 => decide); (case kB => exact locs rfl); (case wc2 => exact rfl); (case wc3 => exact rfl); (case wc4 => exact rfl); k_whole; intro wg' wL' wh' wFG' wF' wN' wB' wX' wT'; (try dsimp only); (try k_fold))))
  (k_with "M:all" => first | assumption | exact List.forall_mem_nil _ | (refine' Mine.ne_cons ?wa ?wb; (case wa => k_extra "M:ne"); (case wb => k_all)) | (refine' Mine.off1_ne ?wkah; (case wkah => k_extra "M:conj")))
  (k_with "call ref" => (k_here; (with_reducible show wpAny _ _ (call (Value.ref 325) _) _ _ _); k_dflt (rename Mine.Tc _ _ _ => whT; refine' Mine.roctet ?kB ?kF ?kX ?kN ?kT ?kK ?kd ?ku ?wkr ?wkp ?wkn ?wkR whT ?wkl ?wk0 ?wk1 ?_; k_extra "M:base"; (case wkr => k_mem); (case wkp => k_extra "M:pick"); (case wkn => k_all); (case wkR => exact Mine.RSt.intro); (case wkl => assumption); (case wk0 => omega); (case wk1 => omega); k_whole); intro wat' _ _ _ _ _ _ _ _ _ _ _ _ _ _ _ _ whT' wh' wtk' wt' wF' wN'; (try clear whT); (try k_fold)))
  (k_with "call ref" => (k_here; (with_reducible show wpAny _ _ (call (Value.ref 332) _) _ _ _); k_dflt (rename Mine.Tc _ _ _ => whT; refine' Mine.rinteger ?kB ?kF ?kX ?kN ?kT ?kK ?kd ?ku ?wkr ?wkp ?wkn ?wkR whT ?wkl ?wk0 ?wk1 ?_; k_extra "M:base"; (case wkr => k_mem); (case wkp => k_extra "M:pick"); (case wkn => k_all); (case wkR => exact Mine.RSt.intro); (case wkl => assumption); (case wk0 => omega); (case wk1 => omega); k_whole); intro wat' _ _ _ _ _ _ _ _ _ _ _ _ _ _ _ _ whT' wh' wtk' wt' wF' wN'; (try clear whT); (try k_fold)))
  (k_with "call ref" => (k_here; (with_reducible show wpAny _ _ (call (Value.ref 346) _) _ _ _); k_dflt (rename Mine.Tc _ _ _ => whT; refine' Mine.rnumber ?kB ?kF ?kX ?kN ?kT ?kK ?kd ?ku ?wkr ?wkp ?wkn ?wkR whT ?wkl ?wk0 ?wk1 ?wk2 ?_; k_extra "M:base"; (case wkr => k_mem); (case wkp => k_extra "M:pick"); (case wkn => k_all); (case wkR => exact Mine.RSt.intro); (case wkl => assumption); (case wk0 => omega); (case wk1 => omega); (case wk2 => assumption); k_whole); intro wat' _ _ _ _ _ _ _ _ _ _ _ _ _ _ _ _ whT' wh' wtk' wt' wF' wN'; (try clear whT); (try k_fold)))
  (k_with "call ref" => (k_here; (with_reducible show wpAny _ _ (call (Value.ref 353) _) _ _ _); k_dflt (rename Mine.Tc _ _ _ => whT; refine' Mine.rtextN ?kB ?kF ?kX ?kN ?kT ?kK ?kd ?ku ?wkr ?wkp ?wkn ?wkR whT ?wkl ?wk0 ?wk1 ?_; k_extra "M:base"; (case wkr => k_mem); (case wkp => k_extra "M:pick"); (case wkn => k_all); (case wkR => exact Mine.RSt.intro); (case wkl => assumption); (case wk0 => omega); (case wk1 => omega); k_whole); intro wat' _ _ _ _ _ _ _ _ _ _ _ _ _ _ _ _ whT' wh' wtk' wF' wN'; (try clear whT); (try k_fold)))
  (k_with "call ref" => (k_here; (with_reducible show wpAny _ _ (call (Value.ref 353) _) _ _ _); k_dflt (rename Mine.Tc _ _ _ => whT; refine' Mine.rtext0 ?kB ?kF ?kX ?kN ?kT ?kK ?kd ?ku ?wkr ?wkp ?wkn ?wkR whT ?wkl ?wk0 ?wk1 ?_; k_extra "M:base"; (case wkr => k_mem); (case wkp => k_extra "M:pick"); (case wkn => k_all); (case wkR => exact Mine.RSt.intro); (case wkl => assumption); (case wk0 => omega); (case wk1 => omega); k_whole); intro wat' _ _ _ _ _ _ _ _ _ _ _ _ _ _ _ _ whT' wh' wtk' wt' wF' wN'; (try clear whT); (try k_fold)))
  (k_with "call ref" => (k_here; (with_reducible show wpAny _ _ (call (Value.ref 353) _) _ _ _); k_dflt (rename Mine.Tc _ _ _ => whT; refine' Mine.rtextT ?kB ?kF ?kX ?kN ?kT ?kK ?kd ?ku ?wkr ?wkp ?wkn ?wkR whT ?wkl ?wk0 ?wk1 ?_; k_extra "M:base"; (case wkr => k_mem); (case wkp => k_extra "M:pick"); (case wkn => k_all); (case wkR => exact Mine.RSt.intro); (case wkl => assumption); (case wk0 => omega); (case wk1 => omega); k_whole); intro wat' _ _ _ _ _ _ _ _ _ _ _ _ _ _ _ _ whT' wh' wtk' wt' wF' wN'; (try clear whT); (try k_fold)))
  trivial
namespace Mine
section
variable {prog : Program} {w : World} {p : Program} {loose : List Str} {mean : ExcName → Option Value} {mg mb : Str → Option Value}
variable {dp un : Nat} {gd : Option (List Code)} {cn : Str} {cs : Scope} {a : Addr} {ccd : Value} {cl : List (Str × Addr)} {outer : List Env} {A₀ : Around} {base h₀ : Heap} {L : Addr} {m : Str → Option Value} {s : Shared} {Q E : Value → Shared → Prop} {l rest : Led}
theorem rconstN {r rd : Addr} {data a3 : List UInt8} {ls ns at_ dep : Int} {es : List DictEntry} 
    (B : Below A₀ base outer h₀) (F : Fr h₀ L s.heap m) (X : (hd.heap_1 w.params).In h₀) (N : News h₀ L s.heap l) (T : Top p loose mean mg mb h₀) (hk : cs.kind = .function) (hd : dp + 20 < recursionLimit) (hu : un + 160 < cLine)
    (hr : (r, instObj 385 rd) ∈ l) (pk : Pick (rd, dictOf es 8) l rest) (hne : ∀ q ∈ rest, q.1 ≠ rd) (hR : RSt w.params data ls ns at_ dep es)
    (hT : Tc data at_ (le 0 1 ++ a3)) (hlen : data.length ≤ 16000) (hls : 1 ≤ ls) (hls' : ls ≤ 8) (hns : 1 ≤ ns) (hns' : ns ≤ 8)
    (ret : ∀ at' k0 k1 k2 k3 k4 k5 k6 k7 t0 t1 t2 t3 t4 t5 t6 t7, Tc data at' a3 → ∀ h' tk', Fr h₀ L h' m → News h₀ L h' ((rd, dictOf [ent w.params "data" k0 (.bytes data.toArray t0), ent w.params "width" k1 (.int 80 t1), ent w.params "most_deep" k2 (.int 9 t2), ent w.params "name" k3 (.bytes #[108, 97, 119] t3), ent w.params "length_size" k4 (.int ls t4), ent w.params "number_size" k5 (.int ns t5), ent w.params "at" k6 (.int at' t6), ent w.params "depth" k7 (.int dep t7)] 8) :: rest) → Q (.none) { s with heap := h', toks := tk' }) :
    wpAny (model prog w) (ktrTop dp un gd cn cs L a ccd cl outer) (call (.ref 360) [.ref r]) Q E s := by
  have N := pk.news N
  have hr := pk.mem hr (fun e => by have e2 := congrArg (fun q => q.2.data) e; cases e2)
  clear pk
  revert N; refine RSt.elim (G := fun es => News _ _ _ ((_, dictOf es 8) :: _) → _) (es := es) hR ?_; intro t0 t1' t2 t3 t4 t5 t6 t7 _ _ _ _ _ _ _ _ N
  all_goals k_extra "M:enter"
  all_goals k_steps
  all_goals  exact ret _ _ _ _ _ _ _ _ _ _ _ _ _ _ _ _ _ (by assumption) _ _ (by assumption) (by assumption)
theorem rconstB {r rd : Addr} {data a3 : List UInt8} {ls ns at_ dep : Int} {es : List DictEntry} {b : Bool}
    (B : Below A₀ base outer h₀) (F : Fr h₀ L s.heap m) (X : (hd.heap_1 w.params).In h₀) (N : News h₀ L s.heap l) (T : Top p loose mean mg mb h₀) (hk : cs.kind = .function) (hd : dp + 20 < recursionLimit) (hu : un + 160 < cLine)
    (hr : (r, instObj 385 rd) ∈ l) (pk : Pick (rd, dictOf es 8) l rest) (hne : ∀ q ∈ rest, q.1 ≠ rd) (hR : RSt w.params data ls ns at_ dep es)
    (hT : Tc data at_ (le 1 1 ++ (le (if b then 1 else 0) 1 ++ a3))) (hlen : data.length ≤ 16000) (hls : 1 ≤ ls) (hls' : ls ≤ 8) (hns : 1 ≤ ns) (hns' : ns ≤ 8)
    (ret : ∀ at' k0 k1 k2 k3 k4 k5 k6 k7 t0 t1 t2 t3 t4 t5 t6 t7, Tc data at' a3 → ∀ h' tk', Fr h₀ L h' m → News h₀ L h' ((rd, dictOf [ent w.params "data" k0 (.bytes data.toArray t0), ent w.params "width" k1 (.int 80 t1), ent w.params "most_deep" k2 (.int 9 t2), ent w.params "name" k3 (.bytes #[108, 97, 119] t3), ent w.params "length_size" k4 (.int ls t4), ent w.params "number_size" k5 (.int ns t5), ent w.params "at" k6 (.int at' t6), ent w.params "depth" k7 (.int dep t7)] 8) :: rest) → Q (.bool b) { s with heap := h', toks := tk' }) :
    wpAny (model prog w) (ktrTop dp un gd cn cs L a ccd cl outer) (call (.ref 360) [.ref r]) Q E s := by
  have N := pk.news N
  have hr := pk.mem hr (fun e => by have e2 := congrArg (fun q => q.2.data) e; cases e2)
  clear pk
  revert N; refine RSt.elim (G := fun es => News _ _ _ ((_, dictOf es 8) :: _) → _) (es := es) hR ?_; intro t0 t1' t2 t3 t4 t5 t6 t7 _ _ _ _ _ _ _ _ N
  cases b
  all_goals simp only [Bool.false_eq_true, if_true, if_false] at hT
  all_goals k_extra "M:enter"
  all_goals k_steps
  all_goals  exact ret _ _ _ _ _ _ _ _ _ _ _ _ _ _ _ _ _ (by assumption) _ _ (by assumption) (by assumption)
theorem rconstI {r rd : Addr} {data a3 : List UInt8} {ls ns at_ dep : Int} {es : List DictEntry} {v : Int}
    (B : Below A₀ base outer h₀) (F : Fr h₀ L s.heap m) (X : (hd.heap_1 w.params).In h₀) (N : News h₀ L s.heap l) (T : Top p loose mean mg mb h₀) (hk : cs.kind = .function) (hd : dp + 20 < recursionLimit) (hu : un + 160 < cLine)
    (hr : (r, instObj 385 rd) ∈ l) (pk : Pick (rd, dictOf es 8) l rest) (hne : ∀ q ∈ rest, q.1 ≠ rd) (hR : RSt w.params data ls ns at_ dep es)
    (hT : Tc data at_ (le 3 1 ++ (encN ns v ++ a3))) (hlen : data.length ≤ 16000) (hls : 1 ≤ ls) (hls' : ls ≤ 8) (hns : 1 ≤ ns) (hns' : ns ≤ 8) (hf : Fits ns v)
    (ret : ∀ at' k0 k1 k2 k3 k4 k5 k6 k7 t0 t1 t2 t3 t4 t5 t6 t7, Tc data at' a3 → ∀ h' tk' t, Fr h₀ L h' m → News h₀ L h' ((rd, dictOf [ent w.params "data" k0 (.bytes data.toArray t0), ent w.params "width" k1 (.int 80 t1), ent w.params "most_deep" k2 (.int 9 t2), ent w.params "name" k3 (.bytes #[108, 97, 119] t3), ent w.params "length_size" k4 (.int ls t4), ent w.params "number_size" k5 (.int ns t5), ent w.params "at" k6 (.int at' t6), ent w.params "depth" k7 (.int dep t7)] 8) :: rest) → Q (.int v t) { s with heap := h', toks := tk' }) :
    wpAny (model prog w) (ktrTop dp un gd cn cs L a ccd cl outer) (call (.ref 360) [.ref r]) Q E s := by
  have N := pk.news N
  have hr := pk.mem hr (fun e => by have e2 := congrArg (fun q => q.2.data) e; cases e2)
  clear pk
  revert N; refine RSt.elim (G := fun es => News _ _ _ ((_, dictOf es 8) :: _) → _) (es := es) hR ?_; intro t0 t1' t2 t3 t4 t5 t6 t7 _ _ _ _ _ _ _ _ N
  all_goals k_extra "M:enter"
  all_goals k_steps
  all_goals  exact ret _ _ _ _ _ _ _ _ _ _ _ _ _ _ _ _ _ (by assumption) _ _ _ (by assumption) (by assumption)
theorem rconstT {r rd : Addr} {data a3 : List UInt8} {ls ns at_ dep : Int} {es : List DictEntry} 
    (B : Below A₀ base outer h₀) (F : Fr h₀ L s.heap m) (X : (hd.heap_1 w.params).In h₀) (N : News h₀ L s.heap l) (T : Top p loose mean mg mb h₀) (hk : cs.kind = .function) (hd : dp + 20 < recursionLimit) (hu : un + 160 < cLine)
    (hr : (r, instObj 385 rd) ∈ l) (pk : Pick (rd, dictOf es 8) l rest) (hne : ∀ q ∈ rest, q.1 ≠ rd) (hR : RSt w.params data ls ns at_ dep es)
    (hT : Tc data at_ (le 4 1 ++ (le 2 ls.toNat ++ ([116, 0] ++ a3)))) (hlen : data.length ≤ 16000) (hls : 1 ≤ ls) (hls' : ls ≤ 8) (hns : 1 ≤ ns) (hns' : ns ≤ 8)
    (ret : ∀ at' k0 k1 k2 k3 k4 k5 k6 k7 t0 t1 t2 t3 t4 t5 t6 t7, Tc data at' a3 → ∀ h' tk' t, Fr h₀ L h' m → News h₀ L h' ((rd, dictOf [ent w.params "data" k0 (.bytes data.toArray t0), ent w.params "width" k1 (.int 80 t1), ent w.params "most_deep" k2 (.int 9 t2), ent w.params "name" k3 (.bytes #[108, 97, 119] t3), ent w.params "length_size" k4 (.int ls t4), ent w.params "number_size" k5 (.int ns t5), ent w.params "at" k6 (.int at' t6), ent w.params "depth" k7 (.int dep t7)] 8) :: rest) → Q (.bytes #[116] t) { s with heap := h', toks := tk' }) :
    wpAny (model prog w) (ktrTop dp un gd cn cs L a ccd cl outer) (call (.ref 360) [.ref r]) Q E s := by
  have N := pk.news N
  have hr := pk.mem hr (fun e => by have e2 := congrArg (fun q => q.2.data) e; cases e2)
  clear pk
  revert N; refine RSt.elim (G := fun es => News _ _ _ ((_, dictOf es 8) :: _) → _) (es := es) hR ?_; intro t0 t1' t2 t3 t4 t5 t6 t7 _ _ _ _ _ _ _ _ N
  all_goals k_extra "M:enter"
  all_goals k_steps
  all_goals  exact ret _ _ _ _ _ _ _ _ _ _ _ _ _ _ _ _ _ (by assumption) _ _ _ (by assumption) (by assumption)
end
end Mine
end
section
theorem Mine.sayCrcount : True := by
  k_with_none
  (k_with "M:ne" => first | assumption | omega)
  (k_with "M:all" => first | assumption | exact List.forall_mem_nil _ | (refine' Mine.ne_cons ?wa ?wb; (case wa => k_extra "M:ne"); (case wb => k_all)) | (refine' tbn_neAll ?wkah; (case wkah => k_extra "M:conj")))
  (k_with "M:upd" => first | (refine' Upd.head ?wa; (case wa => k_all)) | (refine' Mine.upd_tail ?wa ?wb; (case wa => k_extra "M:ne"); (case wb => k_upd)))
  (k_with "M:conj" => first | assumption | (refine' And.right ?_; assumption) | (refine' And.right (And.right ?_); assumption) | (refine' And.right (And.right (And.right ?_)); assumption) | (refine' And.right (And.right (And.right (And.right ?_))); assumption) | (refine' And.right (And.right (And.right (And.right (And.right ?_)))); assumption))
  (k_with "M:mem" => first | assumption | exact List.mem_cons_self | (refine' List.mem_cons_of_mem _ ?_; k_extra "M:mem"))
  (k_with "M:in" => first | assumption | exact Frag.In.keeps (by k_asm) (Fr.keep (by k_asm)))
  (k_with "M:news" => k_dflt k_mem)
  (k_with "M:enter" => (refine wpAny_call ?_; k_dflt ktr_enter))
  (k_with "M:enterC" => (refine wpAny_call ?_; k_dflt (refine' code_defC ?wk1 ?wk2 ?wk3 ?wk4 ?wk5 ?wkA ?kF ?kK ?wk6 ?wk7 ?wk8 ?wk9 ?kB ?wkD ?_ ?wc2 ?wc3 ?wc4; (case wkA => exact rfl); (case kF => exact rfl); (case kK => assumption); (case wk1 => k_asm); (case wk2 => k_asm); (case wk3 => k_asm); (case wk4 => k_asm); (case wk5 => k_asm); (case wk6 => k_is); (case wk7 => k_is); (case wk8 => ktr_room); (case wk9 => first | exact BindsTo.of_eq rfl | exact binds_K (by k_in) rfl (by k_is) rfl rfl rfl | fail "k_enter: no rule for these arguments"); (case kB => exact rfl); (case wkD => decide +kernel); (case wc2 => exact rfl); (case wc3 => exact rfl); (case wc4 => exact rfl); k_whole; intro wg' wL' wh' wtk' wcells' wFG' wF' wN' wY' wB' wX' wT' wl1; (try k_lt wl1); k_cells wY'; (try simp only [List.cons_append, List.nil_append] at wN'); (try dsimp only); (try k_lift wB'); (try k_fold))))
  (k_with "M:base" => ((case kB => k_asm); (case kF => k_asm); (case kX => k_asm); (case kN => k_asm); (case kT => k_asm); (case kK => first | exact rfl | assumption); (case kd => ktr_room); (case ku => ktr_units)))
  (k_with "M:pick" => first | exact Mine.Pick.head | (apply Mine.Pick.tail; k_extra "M:pick"))
  (k_with "M:room" => ktr_room)
  (k_with "call builtin:list.append" => (k_here; (with_reducible show wpAny _ _ (call (Value.builtin _) [Value.ref _, _]) _ _ _); k_dflt (refine' append_K ?wk1 ?wk2 ?wk3 ?_ ?wz; (case wk1 => k_asm); (case wk2 => k_asm); (case wk3 => k_upd); (case wz => first | size_fits | ((try simp only [List.size_toArray, sizeLine_eq]); omega)); k_whole); intro wh' wF' wN'; (try simp only [List.push_toArray] at wN'); (try k_sweep)))
  (k_with "M:enterD" => (refine wpAny_call ?_; k_dflt (refine' code_def ?wk1 ?wk2 ?wk3 ?wk4 ?wk5 ?wkA ?kF ?kK ?wk6 ?wk7 ?wk8 ?wk9 ?kB ?_ ?wc2 ?wc3 ?wc4 ?wc5; (case wkA => exact rfl); (case kF => exact rfl); (case kK => assumption); (case wk1 => k_asm); (case wk2 => k_asm); (case wk3 => k_asm); (case wk4 => k_asm); (case wk5 => k_asm); (case wk6 => k_is); (case wk7 => k_is); (case wk8 => ktr_room); (case wk9 => first | exact BindsTo.of_eq rfl | exact binds_K (by k_in) rfl (by k_is) rfl rfl rfl | fail "enterD: no rule for these arguments"); (case wc5 => decide); (case kB => exact locs rfl); (case wc2 => exact rfl); (case wc3 => exact rfl); (case wc4 => exact rfl); k_whole; intro wg' wL' wh' wFG' wF' wN' wB' wX' wT'; (try dsimp only); (try k_fold))))
  (k_with "M:all" => first | assumption | exact List.forall_mem_nil _ | (refine' Mine.ne_cons ?wa ?wb; (case wa => k_extra "M:ne"); (case wb => k_all)) | (refine' Mine.off1_ne ?wkah; (case wkah => k_extra "M:conj")))
  (k_with "call ref" => (k_here; (with_reducible show wpAny _ _ (call (Value.ref 325) _) _ _ _); k_dflt (rename Mine.Tc _ _ _ => whT; refine' Mine.roctet ?kB ?kF ?kX ?kN ?kT ?kK ?kd ?ku ?wkr ?wkp ?wkn ?wkR whT ?wkl ?wk0 ?wk1 ?_; k_extra "M:base"; (case wkr => k_mem); (case wkp => k_extra "M:pick"); (case wkn => k_all); (case wkR => exact Mine.RSt.intro); (case wkl => assumption); (case wk0 => omega); (case wk1 => omega); k_whole); intro wat' _ _ _ _ _ _ _ _ _ _ _ _ _ _ _ _ whT' wh' wtk' wt' wF' wN'; (try clear whT); (try k_fold)))
  (k_with "call ref" => (k_here; (with_reducible show wpAny _ _ (call (Value.ref 332) _) _ _ _); k_dflt (rename Mine.Tc _ _ _ => whT; refine' Mine.rinteger ?kB ?kF ?kX ?kN ?kT ?kK ?kd ?ku ?wkr ?wkp ?wkn ?wkR whT ?wkl ?wk0 ?wk1 ?_; k_extra "M:base"; (case wkr => k_mem); (case wkp => k_extra "M:pick"); (case wkn => k_all); (case wkR => exact Mine.RSt.intro); (case wkl => assumption); (case wk0 => omega); (case wk1 => omega); k_whole); intro wat' _ _ _ _ _ _ _ _ _ _ _ _ _ _ _ _ whT' wh' wtk' wt' wF' wN'; (try clear whT); (try k_fold)))
  (k_with "call builtin:len" => (k_here; (with_reducible show wpAny _ _ (call (Value.builtin "len") [Value.bytes _ _]) _ _ _); (refine len_bytes (by omega) ?_)))
  (k_with "call ref" => (k_here; (with_reducible show wpAny _ _ (call (Value.ref 332) _) _ _ _); k_dflt (rename Mine.Tc _ _ _ => whT; refine' Mine.rinteger ?kB ?kF ?kX ?kN ?kT ?kK ?kd ?ku ?wkr ?wkp ?wkn ?wkR whT ?wkl ?wk0 ?wk1 ?_; k_extra "M:base"; (case wkr => k_mem); (case wkp => k_extra "M:pick"); (case wkn => k_all); (case wkR => exact Mine.RSt.intro); (case wkl => assumption); (case wk0 => omega); (case wk1 => omega); k_whole); intro wat' _ _ _ _ _ _ _ _ _ _ _ _ _ _ _ _ whT' wh' wtk' wt' wF' wN'; (have hTl' := Mine.Tc.len whT'); (try k_fold)))
  trivial
namespace Mine
section
variable {prog : Program} {w : World} {p : Program} {loose : List Str} {mean : ExcName → Option Value} {mg mb : Str → Option Value}
variable {dp un : Nat} {gd : Option (List Code)} {cn : Str} {cs : Scope} {a : Addr} {ccd : Value} {cl : List (Str × Addr)} {outer : List Env} {A₀ : Around} {base h₀ : Heap} {L : Addr} {m : Str → Option Value} {s : Shared} {Q E : Value → Shared → Prop} {l rest : Led}
theorem rcount {r rd : Addr} {data a3 : List UInt8} {ls ns at_ dep : Int} {es : List DictEntry} {v z : Int} {t1 : Tok}
    (B : Below A₀ base outer h₀) (F : Fr h₀ L s.heap m) (X : (hd.heap_1 w.params).In h₀) (N : News h₀ L s.heap l) (T : Top p loose mean mg mb h₀) (hk : cs.kind = .function) (hd : dp + 12 < recursionLimit) (hu : un + 96 < cLine)
    (hr : (r, instObj 385 rd) ∈ l) (pk : Pick (rd, dictOf es 8) l rest) (hne : ∀ q ∈ rest, q.1 ≠ rd) (hR : RSt w.params data ls ns at_ dep es)
    (hT : Tc data at_ (le v 4 ++ a3)) (hlen : data.length ≤ 16000) (h0 : 0 ≤ v) (h1 : v ≤ 16000) (hz0 : 0 ≤ z) (hz1 : z ≤ 100) (hvz : v * z ≤ a3.length)
    (ret : ∀ at' k0 k1 k2 k3 k4 k5 k6 k7 t0 t1 t2 t3 t4 t5 t6 t7, Tc data at' a3 → ∀ h' tk' t, Fr h₀ L h' m → News h₀ L h' ((rd, dictOf [ent w.params "data" k0 (.bytes data.toArray t0), ent w.params "width" k1 (.int 80 t1), ent w.params "most_deep" k2 (.int 9 t2), ent w.params "name" k3 (.bytes #[108, 97, 119] t3), ent w.params "length_size" k4 (.int ls t4), ent w.params "number_size" k5 (.int ns t5), ent w.params "at" k6 (.int at' t6), ent w.params "depth" k7 (.int dep t7)] 8) :: rest) → Q (.int v t) { s with heap := h', toks := tk' }) :
    wpAny (model prog w) (ktrTop dp un gd cn cs L a ccd cl outer) (call (.ref 339) [.ref r, .int z t1]) Q E s := by
  have N := pk.news N
  have hr := pk.mem hr (fun e => by have e2 := congrArg (fun q => q.2.data) e; cases e2)
  clear pk
  revert N; refine RSt.elim (G := fun es => News _ _ _ ((_, dictOf es 8) :: _) → _) (es := es) hR ?_; intro t0 t1' t2 t3 t4 t5 t6 t7 _ _ _ _ _ _ _ _ N
  have hz2 : data.toArray.size ≤ 16000 := by simpa using hlen
  have hz3 : data.toArray.size = data.length := List.size_toArray
  k_extra "M:enter"
  k_steps
  exact ret _ _ _ _ _ _ _ _ _ _ _ _ _ _ _ _ _ (by assumption) _ _ _ (by assumption) (by assumption)
end
end Mine
end
section
theorem Mine.sayCrcode : True := by
  k_with_none
  (k_with "M:ne" => first | assumption | omega)
  (k_with "M:all" => first | assumption | exact List.forall_mem_nil _ | (refine' Mine.ne_cons ?wa ?wb; (case wa => k_extra "M:ne"); (case wb => k_all)) | (refine' tbn_neAll ?wkah; (case wkah => k_extra "M:conj")))
  (k_with "M:upd" => first | (refine' Upd.head ?wa; (case wa => k_all)) | (refine' Mine.upd_tail ?wa ?wb; (case wa => k_extra "M:ne"); (case wb => k_upd)))
  (k_with "M:conj" => first | assumption | (refine' And.right ?_; assumption) | (refine' And.right (And.right ?_); assumption) | (refine' And.right (And.right (And.right ?_)); assumption) | (refine' And.right (And.right (And.right (And.right ?_))); assumption) | (refine' And.right (And.right (And.right (And.right (And.right ?_)))); assumption))
  (k_with "M:mem" => first | assumption | exact List.mem_cons_self | (refine' List.mem_cons_of_mem _ ?_; k_extra "M:mem"))
  (k_with "M:in" => first | assumption | exact Frag.In.keeps (by k_asm) (Fr.keep (by k_asm)))
  (k_with "M:news" => k_dflt k_mem)
  (k_with "M:enter" => (refine wpAny_call ?_; k_dflt ktr_enter))
  (k_with "M:enterC" => (refine wpAny_call ?_; k_dflt (refine' code_defC ?wk1 ?wk2 ?wk3 ?wk4 ?wk5 ?wkA ?kF ?kK ?wk6 ?wk7 ?wk8 ?wk9 ?kB ?wkD ?_ ?wc2 ?wc3 ?wc4; (case wkA => exact rfl); (case kF => exact rfl); (case kK => assumption); (case wk1 => k_asm); (case wk2 => k_asm); (case wk3 => k_asm); (case wk4 => k_asm); (case wk5 => k_asm); (case wk6 => k_is); (case wk7 => k_is); (case wk8 => ktr_room); (case wk9 => first | exact BindsTo.of_eq rfl | exact binds_K (by k_in) rfl (by k_is) rfl rfl rfl | fail "k_enter: no rule for these arguments"); (case kB => exact rfl); (case wkD => decide +kernel); (case wc2 => exact rfl); (case wc3 => exact rfl); (case wc4 => exact rfl); k_whole; intro wg' wL' wh' wtk' wcells' wFG' wF' wN' wY' wB' wX' wT' wl1; (try k_lt wl1); k_cells wY'; (try simp only [List.cons_append, List.nil_append] at wN'); (try dsimp only); (try k_lift wB'); (try k_fold))))
  (k_with "M:base" => ((case kB => k_asm); (case kF => k_asm); (case kX => k_asm); (case kN => k_asm); (case kT => k_asm); (case kK => first | exact rfl | assumption); (case kd => ktr_room); (case ku => ktr_units)))
  (k_with "M:pick" => first | exact Mine.Pick.head | (apply Mine.Pick.tail; k_extra "M:pick"))
  (k_with "M:room" => ktr_room)
  (k_with "call builtin:list.append" => (k_here; (with_reducible show wpAny _ _ (call (Value.builtin _) [Value.ref _, _]) _ _ _); k_dflt (refine' append_K ?wk1 ?wk2 ?wk3 ?_ ?wz; (case wk1 => k_asm); (case wk2 => k_asm); (case wk3 => k_upd); (case wz => first | size_fits | ((try simp only [List.size_toArray, sizeLine_eq]); omega)); k_whole); intro wh' wF' wN'; (try simp only [List.push_toArray] at wN'); (try k_sweep)))
  (k_with "M:enterD" => (refine wpAny_call ?_; k_dflt (refine' code_def ?wk1 ?wk2 ?wk3 ?wk4 ?wk5 ?wkA ?kF ?kK ?wk6 ?wk7 ?wk8 ?wk9 ?kB ?_ ?wc2 ?wc3 ?wc4 ?wc5; (case wkA => exact rfl); (case kF => exact rfl); (case kK => assumption); (case wk1 => k_asm); (case wk2 => k_asm); (case wk3 => k_asm); (case wk4 => k_asm); (case wk5 => k_asm); (case wk6 => k_is); (case wk7 => k_is); (case wk8 => ktr_room); (case wk9 => first | exact BindsTo.of_eq rfl | exact binds_K (by k_in) rfl (by k_is) rfl rfl rfl | fail "enterD: no rule for these arguments"); (case wc5 => decide); (case kB => exact locs rfl); (case wc2 => exact rfl); (case wc3 => exact rfl); (case wc4 => exact rfl); k_whole; intro wg' wL' wh' wFG' wF' wN' wB' wX' wT'; (try dsimp only); (try k_fold))))
  (k_with "M:all" => first | assumption | exact List.forall_mem_nil _ | (refine' Mine.ne_cons ?wa ?wb; (case wa => k_extra "M:ne"); (case wb => k_all)) | (refine' Mine.off1_ne ?wkah; (case wkah => k_extra "M:conj")))
  (k_with "call ref" => (k_here; (with_reducible show wpAny _ _ (call (Value.ref 339) _) _ _ _); k_dflt (rename Mine.Tc _ _ _ => whT; refine' Mine.rcount ?kB ?kF ?kX ?kN ?kT ?kK ?kd ?ku ?wkr ?wkp ?wkn ?wkR whT ?wkl ?wk0 ?wk1 ?wk2 ?wk3 ?wk4 ?_; k_extra "M:base"; (case wkr => k_mem); (case wkp => k_extra "M:pick"); (case wkn => k_all); (case wkR => exact Mine.RSt.intro); (case wkl => assumption); (case wk0 => omega); (case wk1 => omega); (case wk2 => omega); (case wk3 => omega); (case wk4 => first | omega | assumption); k_whole); intro wat' _ _ _ _ _ _ _ _ _ _ _ _ _ _ _ _ whT' wh' wtk' wt' wF' wN'; (try clear whT); (try k_fold)))
  (k_with "CompSrc" => refine Mine.unhold ?_)
  (k_with "exec Assign cons ListComp" => (k_here; k_dflt (refine LCg.Assign_ListComp_U (F₀ := by k_asm) (by rfl) (by with_unfolding_all rfl) (by with_unfolding_all rfl) (by decide) (by rfl) (by decide) (by rfl) (by rfl) (by rfl) ?_)))
  trivial
namespace Mine
section
variable {prog : Program} {w : World} {p : Program} {loose : List Str} {mean : ExcName → Option Value} {mg mb : Str → Option Value}
variable {dp un : Nat} {gd : Option (List Code)} {cn : Str} {cs : Scope} {a : Addr} {ccd : Value} {cl : List (Str × Addr)} {outer : List Env} {A₀ : Around} {base h₀ : Heap} {L : Addr} {m : Str → Option Value} {s : Shared} {Q E : Value → Shared → Prop} {l rest : Led}
theorem rcode {r rd x pd : Addr} {data a3 : List UInt8} {ls ns at_ dep : Int} {es ps : List DictEntry} {vc vp : Value} {l1 : Led}
    (B : Below A₀ base outer h₀) (F : Fr h₀ L s.heap m) (X : (hd.heap_1 w.params).In h₀) (N : News h₀ L s.heap l) (T : Top p loose mean mg mb h₀) (hk : cs.kind = .function) (hd : dp + 16 < recursionLimit) (hu : un + 128 < cLine)
    (hr : (r, instObj 385 rd) ∈ l) (hx : (x, instObj 281 pd) ∈ l) (pk : Pick (rd, dictOf es 8) l l1) (pk2 : Pick (pd, dictOf ps 16) l1 rest) (hne : ∀ q ∈ l1, q.1 ≠ rd) (hne2 : ∀ q ∈ rest, q.1 ≠ pd) (hR : RSt w.params data ls ns at_ dep es) (hP : PSt w.params vc vp ps)
    (hT : Tc data at_ (le 0 4 ++ a3)) (hlen : data.length ≤ 16000)
    (ret : ∀ at' es' ps', RSt w.params data ls ns at' dep es' → PSt w.params vc vp ps' → Tc data at' a3 → ∀ h' tk', Fr h₀ L h' m → News h₀ L h' ((rd, dictOf es' 8) :: (pd, dictOf ps' 16) :: rest) → Q .none { s with heap := h', toks := tk' }) :
    wpAny (model prog w) (ktrTop dp un gd cn cs L a ccd cl outer) (call (.ref 365) [.ref r, .ref x]) Q E s := by
  have N := news_two pk pk2 N
  have hr := pk2.mem (pk.mem hr (fun e => by have e2 := congrArg (fun q => q.2.data) e; cases e2)) (fun e => by have e2 := congrArg (fun q => q.2.data) e; cases e2)
  have hx := pk2.mem (pk.mem hx (fun e => by have e2 := congrArg (fun q => q.2.data) e; cases e2)) (fun e => by have e2 := congrArg (fun q => q.2.data) e; cases e2)
  have hne0 : @Ne Nat pd rd := hne _ (pk2.sub _ List.mem_cons_self)
  have hne : ∀ q ∈ rest, q.1 ≠ rd := fun q hq => hne _ (pk2.sub _ (List.mem_cons_of_mem _ hq))
  clear pk pk2
  revert N; refine RSt.elim (G := fun es => News _ _ _ ((_, dictOf es 8) :: _) → _) (es := es) hR ?_; intro t0 t1' t2 t3 t4 t5 t6 t7 _ _ _ _ _ _ _ _ N
  revert N; refine PSt.elim (G := fun es => News _ _ _ (_ :: (_, dictOf es 16) :: _) → _) (es := ps) hP ?_; intro tb v0 v1 v2 v3 v4 v5 v6 v8 v9 v10 v11 v12 v13 _ _ _ _ _ _ _ _ _ _ _ _ _ _ _ _ N
  k_extra "M:enterC"
  k_steps
  unfold Hold
  refine LCg.CompSrc.range (n := 0) rfl (by k_asm) (by k_asm) (by assumption) (by decide) (by rfl) (by rw [sizeLine_eq]; omega) (fun g => compRest_keep (fun _ _ => True) trivial trivial ?cstep ?cend)
  case cstep => intro i ys hi; omega
  case cend =>
    intro ys _ D h tk F3 N3 ho
    simp only [LCg.Off1, and_true] at ho
    try k_fold
    k_steps
    all_goals exact ret _ _ _ RSt.intro PSt.intro (by assumption) _ _ (by assumption) (news_le (by assumption) (by kcf_all))
end
end Mine
end
section
theorem Mine.sayCrconstants : True := by
  k_with_none
  (k_with "M:ne" => first | assumption | omega)
  (k_with "M:all" => first | assumption | exact List.forall_mem_nil _ | (refine' Mine.ne_cons ?wa ?wb; (case wa => k_extra "M:ne"); (case wb => k_all)) | (refine' tbn_neAll ?wkah; (case wkah => k_extra "M:conj")))
  (k_with "M:upd" => first | (refine' Upd.head ?wa; (case wa => k_all)) | (refine' Mine.upd_tail ?wa ?wb; (case wa => k_extra "M:ne"); (case wb => k_upd)))
  (k_with "M:conj" => first | assumption | (refine' And.right ?_; assumption) | (refine' And.right (And.right ?_); assumption) | (refine' And.right (And.right (And.right ?_)); assumption) | (refine' And.right (And.right (And.right (And.right ?_))); assumption) | (refine' And.right (And.right (And.right (And.right (And.right ?_)))); assumption))
  (k_with "M:mem" => first | assumption | exact List.mem_cons_self | (refine' List.mem_cons_of_mem _ ?_; k_extra "M:mem"))
  (k_with "M:in" => first | assumption | exact Frag.In.keeps (by k_asm) (Fr.keep (by k_asm)))
  (k_with "M:news" => k_dflt k_mem)
  (k_with "M:enter" => (refine wpAny_call ?_; k_dflt ktr_enter))
  (k_with "M:enterC" => (refine wpAny_call ?_; k_dflt (refine' code_defC ?wk1 ?wk2 ?wk3 ?wk4 ?wk5 ?wkA ?kF ?kK ?wk6 ?wk7 ?wk8 ?wk9 ?kB ?wkD ?_ ?wc2 ?wc3 ?wc4; (case wkA => exact rfl); (case kF => exact rfl); (case kK => assumption); (case wk1 => k_asm); (case wk2 => k_asm); (case wk3 => k_asm); (case wk4 => k_asm); (case wk5 => k_asm); (case wk6 => k_is); (case wk7 => k_is); (case wk8 => ktr_room); (case wk9 => first | exact BindsTo.of_eq rfl | exact binds_K (by k_in) rfl (by k_is) rfl rfl rfl | fail "k_enter: no rule for these arguments"); (case kB => exact rfl); (case wkD => decide +kernel); (case wc2 => exact rfl); (case wc3 => exact rfl); (case wc4 => exact rfl); k_whole; intro wg' wL' wh' wtk' wcells' wFG' wF' wN' wY' wB' wX' wT' wl1; (try k_lt wl1); k_cells wY'; (try simp only [List.cons_append, List.nil_append] at wN'); (try dsimp only); (try k_lift wB'); (try k_fold))))
  (k_with "M:base" => ((case kB => k_asm); (case kF => k_asm); (case kX => k_asm); (case kN => k_asm); (case kT => k_asm); (case kK => first | exact rfl | assumption); (case kd => ktr_room); (case ku => ktr_units)))
  (k_with "M:pick" => first | exact Mine.Pick.head | (apply Mine.Pick.tail; k_extra "M:pick"))
  (k_with "M:room" => ktr_room)
  (k_with "call builtin:list.append" => (k_here; (with_reducible show wpAny _ _ (call (Value.builtin _) [Value.ref _, _]) _ _ _); k_dflt (refine' append_K ?wk1 ?wk2 ?wk3 ?_ ?wz; (case wk1 => k_asm); (case wk2 => k_asm); (case wk3 => k_upd); (case wz => first | size_fits | ((try simp only [List.size_toArray, sizeLine_eq]); omega)); k_whole); intro wh' wF' wN'; (try simp only [List.push_toArray] at wN'); (try k_sweep)))
  (k_with "M:enterD" => (refine wpAny_call ?_; k_dflt (refine' code_def ?wk1 ?wk2 ?wk3 ?wk4 ?wk5 ?wkA ?kF ?kK ?wk6 ?wk7 ?wk8 ?wk9 ?kB ?_ ?wc2 ?wc3 ?wc4 ?wc5; (case wkA => exact rfl); (case kF => exact rfl); (case kK => assumption); (case wk1 => k_asm); (case wk2 => k_asm); (case wk3 => k_asm); (case wk4 => k_asm); (case wk5 => k_asm); (case wk6 => k_is); (case wk7 => k_is); (case wk8 => ktr_room); (case wk9 => first | exact BindsTo.of_eq rfl | exact binds_K (by k_in) rfl (by k_is) rfl rfl rfl | fail "enterD: no rule for these arguments"); (case wc5 => decide); (case kB => exact locs rfl); (case wc2 => exact rfl); (case wc3 => exact rfl); (case wc4 => exact rfl); k_whole; intro wg' wL' wh' wFG' wF' wN' wB' wX' wT'; (try dsimp only); (try k_fold))))
  (k_with "M:all" => first | assumption | exact List.forall_mem_nil _ | (refine' Mine.ne_cons ?wa ?wb; (case wa => k_extra "M:ne"); (case wb => k_all)) | (refine' Mine.off1_ne ?wkah; (case wkah => k_extra "M:conj")))
  (k_with "M:cj" => with_reducible first | assumption | exact And.left (by assumption) | exact And.left (And.right (by assumption)) | exact And.left (And.right (And.right (by assumption))) | exact And.left (And.right (And.right (And.right (by assumption)))) | exact And.left (And.right (And.right (And.right (And.right (by assumption))))) | exact And.left (And.right (And.right (And.right (And.right (And.right (by assumption)))))) | exact And.left (And.right (And.right (And.right (And.right (And.right (And.right (by assumption))))))) | exact And.left (And.right (And.right (And.right (And.right (And.right (And.right (And.right (by assumption)))))))) | exact And.left (And.right (And.right (And.right (And.right (And.right (And.right (And.right (And.right (by assumption))))))))) | exact And.left (And.right (And.right (And.right (And.right (And.right (And.right (And.right (And.right (And.right (by assumption)))))))))) | exact And.right (by assumption) | exact And.right (And.right (by assumption)) | exact And.right (And.right (And.right (by assumption))) | exact And.right (And.right (And.right (And.right (by assumption)))) | exact And.right (And.right (And.right (And.right (And.right (by assumption))))) | exact And.right (And.right (And.right (And.right (And.right (And.right (by assumption)))))) | exact And.right (And.right (And.right (And.right (And.right (And.right (And.right (by assumption))))))) | exact And.right (And.right (And.right (And.right (And.right (And.right (And.right (And.right (by assumption)))))))) | exact And.right (And.right (And.right (And.right (And.right (And.right (And.right (And.right (And.right (by assumption))))))))))
  (k_with "M:cj3" => with_reducible first | exact And.left (And.left (by assumption)) | exact And.left (And.right (And.left (by assumption))) | exact And.right (And.right (And.left (by assumption))) | exact And.left (And.left (And.right (by assumption))) | exact And.left (And.right (And.left (And.right (by assumption)))) | exact And.right (And.right (And.left (And.right (by assumption)))) | exact And.left (And.left (And.right (And.right (by assumption)))) | exact And.left (And.right (And.left (And.right (And.right (by assumption))))) | exact And.right (And.right (And.left (And.right (And.right (by assumption))))) | exact And.left (And.left (And.right (And.right (And.right (by assumption))))) | exact And.left (And.right (And.left (And.right (And.right (And.right (by assumption)))))) | exact And.right (And.right (And.left (And.right (And.right (And.right (by assumption)))))) | exact And.left (And.left (And.right (And.right (And.right (And.right (by assumption)))))) | exact And.left (And.right (And.left (And.right (And.right (And.right (And.right (by assumption))))))) | exact And.right (And.right (And.left (And.right (And.right (And.right (And.right (by assumption))))))) | exact And.left (And.left (And.right (And.right (And.right (And.right (And.right (by assumption))))))) | exact And.left (And.right (And.left (And.right (And.right (And.right (And.right (And.right (by assumption)))))))) | exact And.right (And.right (And.left (And.right (And.right (And.right (And.right (And.right (by assumption)))))))) | exact And.left (And.left (And.right (And.right (And.right (And.right (And.right (And.right (by assumption)))))))) | exact And.left (And.right (And.left (And.right (And.right (And.right (And.right (And.right (And.right (by assumption))))))))) | exact And.right (And.right (And.left (And.right (And.right (And.right (And.right (And.right (And.right (by assumption))))))))) | exact And.left (And.left (And.right (And.right (And.right (And.right (And.right (And.right (And.right (by assumption))))))))) | exact And.left (And.right (And.left (And.right (And.right (And.right (And.right (And.right (And.right (And.right (by assumption)))))))))) | exact And.right (And.right (And.left (And.right (And.right (And.right (And.right (And.right (And.right (And.right (by assumption)))))))))) | exact And.left (And.left (And.right (And.right (And.right (And.right (And.right (And.right (And.right (And.right (by assumption)))))))))) | exact And.left (And.right (And.left (And.right (And.right (And.right (And.right (And.right (And.right (And.right (And.right (by assumption))))))))))) | exact And.right (And.right (And.left (And.right (And.right (And.right (And.right (And.right (And.right (And.right (And.right (by assumption))))))))))) | exact And.left (And.left (And.right (And.right (And.right (And.right (And.right (And.right (And.right (And.right (And.right (by assumption))))))))))) | exact And.left (And.right (And.left (And.right (And.right (And.right (And.right (And.right (And.right (And.right (And.right (And.right (by assumption)))))))))))) | exact And.right (And.right (And.left (And.right (And.right (And.right (And.right (And.right (And.right (And.right (And.right (And.right (by assumption)))))))))))))
  (k_with "M:ne" => first | with_reducible assumption | (refine' Ne.symm ?_; with_reducible assumption) | (k_extra "M:cj") | (refine' Ne.symm ?_; k_extra "M:cj") | (k_extra "M:cj3") | (refine' Ne.symm ?_; k_extra "M:cj3") | omega)
  (k_with "call ref" => (k_here; (with_reducible show wpAny _ _ (call (Value.ref 339) _) _ _ _); k_dflt (rename Mine.Tc _ _ _ => whT; refine' Mine.rcount ?kB ?kF ?kX ?kN ?kT ?kK ?kd ?ku ?wkr ?wkp ?wkn ?wkR whT ?wkl ?wk0 ?wk1 ?wk2 ?wk3 ?wk4 ?_; k_extra "M:base"; (case wkr => k_mem); (case wkp => k_extra "M:pick"); (case wkn => k_all); (case wkR => exact Mine.RSt.intro); (case wkl => assumption); (case wk0 => omega); (case wk1 => omega); (case wk2 => omega); (case wk3 => omega); (case wk4 => first | omega | assumption); k_whole); intro wat' _ _ _ _ _ _ _ _ _ _ _ _ _ _ _ _ whT' wh' wtk' wt' wF' wN'; (try clear whT); (try k_fold)))
  (k_with "call ref" => (k_here; (with_reducible show wpAny _ _ (call (Value.ref 360) _) _ _ _); k_dflt (rename Mine.Tc _ _ _ => whT; (with_reducible (have hT0 : Mine.Tc _ _ (Mine.le 0 1 ++ _) := whT)); (clear hT0); refine' Mine.rconstN ?kB ?kF ?kX ?kN ?kT ?kK ?kd ?ku ?wkr ?wkp ?wkn ?wkR whT ?wkl ?wl0 ?wl1 ?wl2 ?wl3  ?_; k_extra "M:base"; (case wkr => k_mem); (case wkp => k_extra "M:pick"); (case wkn => k_all); (case wkR => exact Mine.RSt.intro); (case wkl => assumption); (case wl0 => omega); (case wl1 => omega); (case wl2 => omega); (case wl3 => omega); skip; k_whole); intro wat' _ _ _ _ _ _ _ _ _ _ _ _ _ _ _ _ whT' wh' wtk' wF' wN'; (try clear whT); (try k_fold)))
  (k_with "call ref" => (k_here; (with_reducible show wpAny _ _ (call (Value.ref 360) _) _ _ _); k_dflt (rename Mine.Tc _ _ _ => whT; (with_reducible (have hT0 : Mine.Tc _ _ (Mine.le 1 1 ++ _) := whT)); (clear hT0); refine' Mine.rconstB ?kB ?kF ?kX ?kN ?kT ?kK ?kd ?ku ?wkr ?wkp ?wkn ?wkR whT ?wkl ?wl0 ?wl1 ?wl2 ?wl3  ?_; k_extra "M:base"; (case wkr => k_mem); (case wkp => k_extra "M:pick"); (case wkn => k_all); (case wkR => exact Mine.RSt.intro); (case wkl => assumption); (case wl0 => omega); (case wl1 => omega); (case wl2 => omega); (case wl3 => omega); skip; k_whole); intro wat' _ _ _ _ _ _ _ _ _ _ _ _ _ _ _ _ whT' wh' wtk' wF' wN'; (try clear whT); (try k_fold)))
  (k_with "call ref" => (k_here; (with_reducible show wpAny _ _ (call (Value.ref 360) _) _ _ _); k_dflt (rename Mine.Tc _ _ _ => whT; (with_reducible (have hT0 : Mine.Tc _ _ (Mine.le 3 1 ++ _) := whT)); (clear hT0); refine' Mine.rconstI ?kB ?kF ?kX ?kN ?kT ?kK ?kd ?ku ?wkr ?wkp ?wkn ?wkR whT ?wkl ?wl0 ?wl1 ?wl2 ?wl3 ?wlf ?_; k_extra "M:base"; (case wkr => k_mem); (case wkp => k_extra "M:pick"); (case wkn => k_all); (case wkR => exact Mine.RSt.intro); (case wkl => assumption); (case wl0 => omega); (case wl1 => omega); (case wl2 => omega); (case wl3 => omega); (case wlf => assumption); k_whole); intro wat' _ _ _ _ _ _ _ _ _ _ _ _ _ _ _ _ whT' wh' wtk' wt' wF' wN'; (try clear whT); (try k_fold)))
  (k_with "call ref" => (k_here; (with_reducible show wpAny _ _ (call (Value.ref 360) _) _ _ _); k_dflt (rename Mine.Tc _ _ _ => whT; (with_reducible (have hT0 : Mine.Tc _ _ (Mine.le 4 1 ++ _) := whT)); (clear hT0); refine' Mine.rconstT ?kB ?kF ?kX ?kN ?kT ?kK ?kd ?ku ?wkr ?wkp ?wkn ?wkR whT ?wkl ?wl0 ?wl1 ?wl2 ?wl3  ?_; k_extra "M:base"; (case wkr => k_mem); (case wkp => k_extra "M:pick"); (case wkn => k_all); (case wkR => exact Mine.RSt.intro); (case wkl => assumption); (case wl0 => omega); (case wl1 => omega); (case wl2 => omega); (case wl3 => omega); skip; k_whole); intro wat' _ _ _ _ _ _ _ _ _ _ _ _ _ _ _ _ whT' wh' wtk' wt' wF' wN'; (try clear whT); (try k_fold)))
  (k_with "CompSrc" => refine Mine.unhold ?_)
  (k_with "exec Assign cons ListComp" => (k_here; k_dflt (refine LCg.Assign_ListComp_U (F₀ := by k_asm) (by rfl) (by with_unfolding_all rfl) (by with_unfolding_all rfl) (by decide) (by rfl) (by decide) (by rfl) (by rfl) (by rfl) ?_)))
  (k_with "CompEnd" => refine Mine.unhold ?_)
  (k_with "call ref" => (k_here; (with_reducible show wpAny _ _ (call (Value.ref 382) _) _ _ _); k_dflt (rename RdSpec _ _ _ _ _ _ _ _ _ _ _ _ _ _ _ => whS; rename Mine.Tc _ _ _ => whT; refine' whS ?kB ?kF ?kX ?kN ?kT ?kK ?kd ?ku ?wkr ?wkp ?wkn ?wkR whT ?wk1 ?wk2 ?wk3 ?_; k_extra "M:base"; (case wkr => k_mem); (case wkp => k_extra "M:pick"); (case wkn => k_all); (case wkR => exact Mine.RSt.intro); (case wk1 => assumption); (case wk2 => omega); (case wk3 => omega); k_whole); intro wat' wes' whR' whT' wv' wtl' wh' wtk' whv' whfr' wF' wN'; (try clear whT); (try k_fold)))
  trivial
namespace Mine
section
variable {prog : Program} {w : World} {p : Program} {loose : List Str} {mean : ExcName → Option Value} {mg mb : Str → Option Value}
variable {dp un : Nat} {gd : Option (List Code)} {cn : Str} {cs : Scope} {a : Addr} {ccd : Value} {cl : List (Str × Addr)} {outer : List Env} {A₀ : Around} {base h₀ : Heap} {L : Addr} {m : Str → Option Value} {s : Shared} {Q E : Value → Shared → Prop} {l rest : Led}
theorem rconstants {C : Type} {enc : C → List UInt8} {ok : C → Prop} {RT : Led → Value → C → Prop} {H lev : Nat} {xs : List Cst} {ts : List C} {r rd x pd : Addr} {data a3 : List UInt8} {ls ns at_ dep : Int} {es ps : List DictEntry} {vc vp : Value} {l1 : Led}
    (B : Below A₀ base outer h₀) (F : Fr h₀ L s.heap m) (X : (hd.heap_1 w.params).In h₀) (N : News h₀ L s.heap l) (T : Top p loose mean mg mb h₀) (hk : cs.kind = .function) (hd : dp + (H + 25) < recursionLimit) (hu : un + 8 * (H + 25) < cLine)
    (hr : (r, instObj 385 rd) ∈ l) (hx : (x, instObj 281 pd) ∈ l) (pk : Pick (rd, dictOf es 8) l l1) (pk2 : Pick (pd, dictOf ps 16) l1 rest) (hne : ∀ q ∈ l1, q.1 ≠ rd) (hne2 : ∀ q ∈ rest, q.1 ≠ pd) (hR : RSt w.params data ls ns at_ dep es) (hP : PSt w.params vc vp ps)
    (hlen : data.length ≤ 16000) (hls : 1 ≤ ls) (hls' : ls ≤ 8) (hns : 1 ≤ ns) (hns' : ns ≤ 8)
    (hRT : ∀ {l l' v c}, RT l v c → (∀ q ∈ l, q ∈ l') → RT l' v c) (henc : ∀ c, 1 ≤ (enc c).length) (hS : RdSpec prog w p loose mean mg mb data ls ns H lev enc ok RT) (hxs : ∀ c ∈ xs, CFits ns c) (hts : ∀ t ∈ ts, ok t) (zx : xs.length ≤ 3) (zt : ts.length ≤ 2) (hdep : 0 ≤ dep) (hdep' : dep + lev ≤ 9)
    (hT : Tc data at_ (le xs.length 4 ++ (encL (encC ls ns) xs ++ (le ts.length 4 ++ (encL enc ts ++ a3)))))
    (ret : ∀ at' es' ps' lc lp n2 n3 cvs pvs tl, RSt w.params data ls ns at' dep es' → PSt w.params (.ref lc) (.ref lp) ps' → Tc data at' a3 → (lc, listOf cvs.toArray n2) ∈ tl → (lp, listOf pvs.toArray n3) ∈ tl → All2 CIs cvs xs → All2 (RT tl) pvs ts →
      Fresh tl ((rd, dictOf es' 8) :: (pd, dictOf ps' 16) :: rest) → ∀ h' tk', Fr h₀ L h' m → News h₀ L h' ((rd, dictOf es' 8) :: (pd, dictOf ps' 16) :: (tl ++ rest)) → Q .none { s with heap := h', toks := tk' }) :
    wpAny (model prog w) (ktrTop dp un gd cn cs L a ccd cl outer) (call (.ref 370) [.ref r, .ref x]) Q E s := by
  have N := news_two pk pk2 N
  have hr := pk2.mem (pk.mem hr (fun e => by have e2 := congrArg (fun q => q.2.data) e; cases e2)) (fun e => by have e2 := congrArg (fun q => q.2.data) e; cases e2)
  have hx := pk2.mem (pk.mem hx (fun e => by have e2 := congrArg (fun q => q.2.data) e; cases e2)) (fun e => by have e2 := congrArg (fun q => q.2.data) e; cases e2)
  have hne0 : @Ne Nat pd rd := hne _ (pk2.sub _ List.mem_cons_self)
  have hne : ∀ q ∈ rest, q.1 ≠ rd := fun q hq => hne _ (pk2.sub _ (List.mem_cons_of_mem _ hq))
  clear pk pk2
  revert N; refine RSt.elim (G := fun es => News _ _ _ ((_, dictOf es 8) :: _) → _) (es := es) hR ?_; intro t0 t1' t2 t3 t4 t5 t6 t7 _ _ _ _ _ _ _ _ N
  revert N; refine PSt.elim (G := fun es => News _ _ _ (_ :: (_, dictOf es 16) :: _) → _) (es := ps) hP ?_; intro tb v0 v1 v2 v3 v4 v5 v6 v8 v9 v10 v11 v12 v13 _ _ _ _ _ _ _ _ _ _ _ _ _ _ _ _ N
  have g1 := encL_len (encC_pos ls ns) xs
  have g2 := encL_len henc ts
  have hv1 : (xs.length : Int) * 1 ≤ (encL (encC ls ns) xs ++ (le ts.length 4 ++ (encL enc ts ++ a3))).length := by rw [List.length_append]; omega
  have hv2 : (ts.length : Int) * 1 ≤ (encL enc ts ++ a3).length := by rw [List.length_append]; omega
  k_extra "M:enterC"
  k_steps
  unfold Hold
  refine LCg.CompSrc.range (n := xs.length) rfl (by k_asm) (by k_asm) (by assumption) (small_upto (by omega)) (size_upto _) (by rw [sizeLine_eq]; omega) (fun g => compRest_rd (fun i => encL (encC ls ns) (xs.drop i) ++ (le ts.length 4 ++ (encL enc ts ++ a3))) (fun i ys => All2 CIs ys (xs.take i)) RSt.intro (by assumption) .nil ?cstep ?cend)
  case cstep =>
    intro i ys at' es' hi hR' hT' hJ v I oI C' oC D m₂ h tk E' hP hC hv F3 N3 hoff hne'
    obtain ⟨c, hc⟩ : ∃ c, xs[i]? = some c := ⟨_, List.getElem?_eq_getElem hi⟩
    have hcf := hxs c (List.mem_of_getElem? hc)
    replace hT' : Tc data at' (encL (encC ls ns) (xs.drop i) ++ (le ts.length 4 ++ (encL enc ts ++ a3))) := hT'
    rw [drop_at hc, encL_cons, List.append_assoc] at hT'
    rw [take_succ hc]
    revert N3; refine RSt.elim (G := fun es => News _ _ _ (_ :: _ :: _ :: (_, dictOf es 8) :: _) → _) (es := es') hR' ?_; intro t0 t1' t2 t3 t4 t5 t6 t7 _ _ _ _ _ _ _ _ N3
    have hoff0 := hoff
    simp only [LCg.Off3] at hoff
    cases c
    case nil =>
      replace hT' : Tc data at' (le 0 1 ++ (encL (encC ls ns) (xs.drop (i + 1)) ++ (le ts.length 4 ++ (encL enc ts ++ a3)))) := hT'
      try k_fold
      k_steps
      unfold Hold
      exact LCg.CompEnd.intro (by assumption) (by assumption) _ (by kcf_all) (off3_swap hoff0) trivial ⟨_, _, RSt.intro, by assumption, rfl, hJ.snoc .nil⟩
    case bool b =>
      replace hT' : Tc data at' (le 1 1 ++ (le (if b then 1 else 0) 1 ++ (encL (encC ls ns) (xs.drop (i + 1)) ++ (le ts.length 4 ++ (encL enc ts ++ a3))))) := by simpa [encC] using hT'
      try k_fold
      k_steps
      unfold Hold
      exact LCg.CompEnd.intro (by assumption) (by assumption) _ (by kcf_all) (off3_swap hoff0) trivial ⟨_, _, RSt.intro, by assumption, rfl, hJ.snoc (.bool _)⟩
    case num n =>
      replace hT' : Tc data at' (le 3 1 ++ (encN ns n ++ (encL (encC ls ns) (xs.drop (i + 1)) ++ (le ts.length 4 ++ (encL enc ts ++ a3))))) := by simpa [encC] using hT'
      replace hcf : Fits ns n := hcf
      try k_fold
      k_steps
      unfold Hold
      exact LCg.CompEnd.intro (by assumption) (by assumption) _ (by kcf_all) (off3_swap hoff0) trivial ⟨_, _, RSt.intro, by assumption, rfl, hJ.snoc (.num _ _)⟩
    case txt =>
      rw [encC_txt] at hT'
      try k_fold
      k_steps
      unfold Hold
      exact LCg.CompEnd.intro (by assumption) (by assumption) _ (by kcf_all) (off3_swap hoff0) trivial ⟨_, _, RSt.intro, by assumption, rfl, hJ.snoc (.txt _)⟩
  case cend =>
    intro ys at' es' hR' hT' hJ D h tk F3 N3 ho
    replace hT' : Tc data at' (encL (encC ls ns) (xs.drop xs.length) ++ (le ts.length 4 ++ (encL enc ts ++ a3))) := hT'
    rw [List.drop_length, encL_nil, List.nil_append] at hT'
    rw [List.take_length] at hJ
    revert N3; refine RSt.elim (G := fun es => News _ _ _ (_ :: (_, dictOf es 8) :: _) → _) (es := es') hR' ?_; intro t0 t1' t2 t3 t4 t5 t6 t7 _ _ _ _ _ _ _ _ N3
    simp only [LCg.Off1, and_true] at ho
    try k_fold
    k_steps
    unfold Hold
    have hcs : All2 CIs ys xs := hJ
    refine LCg.CompSrc.range (n := ts.length) rfl (by k_asm) (by k_asm) (by assumption) (small_upto (by omega)) (size_upto _) (by rw [sizeLine_eq]; omega) (fun g => compRest_rdT (fun i => encL enc (ts.drop i) ++ a3) (fun i ys tl => All2 (RT tl) ys (ts.take i)) RSt.intro (by assumption) .nil ?dstep ?dend)
    case dstep =>
      intro i ys2 at' es' tl hi hR' hT' hf hJ2 v I oI C' oC D2 m₂ h tk E' hP hC hv F4 N4 hoff hne'
      obtain ⟨c, hc⟩ : ∃ c, ts[i]? = some c := ⟨_, List.getElem?_eq_getElem hi⟩
      have hcf := hts c (List.mem_of_getElem? hc)
      replace hT' : Tc data at' (encL enc (ts.drop i) ++ a3) := hT'
      rw [drop_at hc, encL_cons, List.append_assoc] at hT'
      rw [take_succ hc]
      have hf0 := hf
      have hoff0 := hoff
      have hr' : (r, instObj 385 rd) ∈ tl ++ rest := List.mem_append_right _ hr
      have hx' : (x, instObj 281 pd) ∈ tl ++ rest := List.mem_append_right _ hx
      have hnb : ∀ q ∈ tl ++ rest, q.1 ≠ rd := fun q hq => by
        rcases List.mem_append.mp hq with h | h
        · exact hf q h (rd, dictOf es' 8) List.mem_cons_self
        · exact hne q h
      simp only [LCg.Off3] at hoff
      revert N4; refine RSt.elim (G := fun es => News _ _ _ (_ :: _ :: _ :: (_, dictOf es 8) :: _) → _) (es := es') hR' ?_; intro t0 t1' t2 t3 t4 t5 t6 t7 _ _ _ _ _ _ _ _ N4
      try k_fold
      k_steps
      unfold Hold
      exact rd_end (J := fun ys tl => All2 (RT tl) ys (ts.take i ++ [c])) (by assumption) (by assumption) (by assumption) hoff0 hf0 (by assumption) (by assumption) ((hJ2.mono fun a b r => hRT r fun q hq => List.mem_append_right _ hq).snoc (hRT (by assumption) fun q hq => List.mem_append_left _ hq))
    case dend =>
      intro ys2 at' es' tl hR' hT' hf hJ2 D2 h tk F4 N4 ho2
      replace hT' : Tc data at' (encL enc (ts.drop ts.length) ++ a3) := hT'
      rw [List.drop_length, encL_nil, List.nil_append] at hT'
      replace hJ2 : All2 (RT tl) ys2 (ts.take ts.length) := hJ2
      rw [List.take_length] at hJ2
      have hf0 := hf
      have hr' : (r, instObj 385 rd) ∈ tl ++ rest := List.mem_append_right _ hr
      have hx' : (x, instObj 281 pd) ∈ tl ++ rest := List.mem_append_right _ hx
      have hnp : ∀ q ∈ tl ++ rest, q.1 ≠ pd := fun q hq => by
        rcases List.mem_append.mp hq with h | h
        · exact hf q h (pd, _) (List.mem_cons_of_mem _ (List.mem_cons_of_mem _ (List.mem_cons_of_mem _ (List.mem_cons_of_mem _ List.mem_cons_self))))
        · exact hne2 q h
      simp only [LCg.Off1] at ho2
      revert N4; refine RSt.elim (G := fun es => News _ _ _ (_ :: (_, dictOf es 8) :: _) → _) (es := es') hR' ?_; intro t0 t1' t2 t3 t4 t5 t6 t7 _ _ _ _ _ _ _ _ N4
      try k_fold
      k_steps
      exact ret _ _ _ D D2 ys.length ys2.length ys ys2 ((D, LCg.lst ys) :: (D2, LCg.lst ys2) :: tl) RSt.intro PSt.intro (by assumption) List.mem_cons_self (List.mem_cons_of_mem _ List.mem_cons_self) hcs (hJ2.mono fun a b r => hRT r fun q hq => List.mem_cons_of_mem _ (List.mem_cons_of_mem _ hq))
        (fresh_two (by omega) (by omega) ho.2.2.2.2 (by omega) (by omega) ho2.2.2.2.2.2 hf0) _ _ (by assumption) (news_le (by assumption) (by kcf_all))
end
end Mine
end
section
theorem Mine.sayCrlines : True := by
  k_with_none
  (k_with "M:ne" => first | assumption | omega)
  (k_with "M:all" => first | assumption | exact List.forall_mem_nil _ | (refine' Mine.ne_cons ?wa ?wb; (case wa => k_extra "M:ne"); (case wb => k_all)) | (refine' tbn_neAll ?wkah; (case wkah => k_extra "M:conj")))
  (k_with "M:upd" => first | (refine' Upd.head ?wa; (case wa => k_all)) | (refine' Mine.upd_tail ?wa ?wb; (case wa => k_extra "M:ne"); (case wb => k_upd)))
  (k_with "M:conj" => first | assumption | (refine' And.right ?_; assumption) | (refine' And.right (And.right ?_); assumption) | (refine' And.right (And.right (And.right ?_)); assumption) | (refine' And.right (And.right (And.right (And.right ?_))); assumption) | (refine' And.right (And.right (And.right (And.right (And.right ?_)))); assumption))
  (k_with "M:mem" => first | assumption | exact List.mem_cons_self | (refine' List.mem_cons_of_mem _ ?_; k_extra "M:mem"))
  (k_with "M:in" => first | assumption | exact Frag.In.keeps (by k_asm) (Fr.keep (by k_asm)))
  (k_with "M:news" => k_dflt k_mem)
  (k_with "M:enter" => (refine wpAny_call ?_; k_dflt ktr_enter))
  (k_with "M:enterC" => (refine wpAny_call ?_; k_dflt (refine' code_defC ?wk1 ?wk2 ?wk3 ?wk4 ?wk5 ?wkA ?kF ?kK ?wk6 ?wk7 ?wk8 ?wk9 ?kB ?wkD ?_ ?wc2 ?wc3 ?wc4; (case wkA => exact rfl); (case kF => exact rfl); (case kK => assumption); (case wk1 => k_asm); (case wk2 => k_asm); (case wk3 => k_asm); (case wk4 => k_asm); (case wk5 => k_asm); (case wk6 => k_is); (case wk7 => k_is); (case wk8 => ktr_room); (case wk9 => first | exact BindsTo.of_eq rfl | exact binds_K (by k_in) rfl (by k_is) rfl rfl rfl | fail "k_enter: no rule for these arguments"); (case kB => exact rfl); (case wkD => decide +kernel); (case wc2 => exact rfl); (case wc3 => exact rfl); (case wc4 => exact rfl); k_whole; intro wg' wL' wh' wtk' wcells' wFG' wF' wN' wY' wB' wX' wT' wl1; (try k_lt wl1); k_cells wY'; (try simp only [List.cons_append, List.nil_append] at wN'); (try dsimp only); (try k_lift wB'); (try k_fold))))
  (k_with "M:base" => ((case kB => k_asm); (case kF => k_asm); (case kX => k_asm); (case kN => k_asm); (case kT => k_asm); (case kK => first | exact rfl | assumption); (case kd => ktr_room); (case ku => ktr_units)))
  (k_with "M:pick" => first | exact Mine.Pick.head | (apply Mine.Pick.tail; k_extra "M:pick"))
  (k_with "M:room" => ktr_room)
  (k_with "call builtin:list.append" => (k_here; (with_reducible show wpAny _ _ (call (Value.builtin _) [Value.ref _, _]) _ _ _); k_dflt (refine' append_K ?wk1 ?wk2 ?wk3 ?_ ?wz; (case wk1 => k_asm); (case wk2 => k_asm); (case wk3 => k_upd); (case wz => first | size_fits | ((try simp only [List.size_toArray, sizeLine_eq]); omega)); k_whole); intro wh' wF' wN'; (try simp only [List.push_toArray] at wN'); (try k_sweep)))
  (k_with "M:enterD" => (refine wpAny_call ?_; k_dflt (refine' code_def ?wk1 ?wk2 ?wk3 ?wk4 ?wk5 ?wkA ?kF ?kK ?wk6 ?wk7 ?wk8 ?wk9 ?kB ?_ ?wc2 ?wc3 ?wc4 ?wc5; (case wkA => exact rfl); (case kF => exact rfl); (case kK => assumption); (case wk1 => k_asm); (case wk2 => k_asm); (case wk3 => k_asm); (case wk4 => k_asm); (case wk5 => k_asm); (case wk6 => k_is); (case wk7 => k_is); (case wk8 => ktr_room); (case wk9 => first | exact BindsTo.of_eq rfl | exact binds_K (by k_in) rfl (by k_is) rfl rfl rfl | fail "enterD: no rule for these arguments"); (case wc5 => decide); (case kB => exact locs rfl); (case wc2 => exact rfl); (case wc3 => exact rfl); (case wc4 => exact rfl); k_whole; intro wg' wL' wh' wFG' wF' wN' wB' wX' wT'; (try dsimp only); (try k_fold))))
  (k_with "M:all" => first | assumption | exact List.forall_mem_nil _ | (refine' Mine.ne_cons ?wa ?wb; (case wa => k_extra "M:ne"); (case wb => k_all)) | (refine' Mine.off1_ne ?wkah; (case wkah => k_extra "M:conj")))
  (k_with "M:cj" => with_reducible first | assumption | exact And.left (by assumption) | exact And.left (And.right (by assumption)) | exact And.left (And.right (And.right (by assumption))) | exact And.left (And.right (And.right (And.right (by assumption)))) | exact And.left (And.right (And.right (And.right (And.right (by assumption))))) | exact And.left (And.right (And.right (And.right (And.right (And.right (by assumption)))))) | exact And.left (And.right (And.right (And.right (And.right (And.right (And.right (by assumption))))))) | exact And.left (And.right (And.right (And.right (And.right (And.right (And.right (And.right (by assumption)))))))) | exact And.left (And.right (And.right (And.right (And.right (And.right (And.right (And.right (And.right (by assumption))))))))) | exact And.left (And.right (And.right (And.right (And.right (And.right (And.right (And.right (And.right (And.right (by assumption)))))))))) | exact And.right (by assumption) | exact And.right (And.right (by assumption)) | exact And.right (And.right (And.right (by assumption))) | exact And.right (And.right (And.right (And.right (by assumption)))) | exact And.right (And.right (And.right (And.right (And.right (by assumption))))) | exact And.right (And.right (And.right (And.right (And.right (And.right (by assumption)))))) | exact And.right (And.right (And.right (And.right (And.right (And.right (And.right (by assumption))))))) | exact And.right (And.right (And.right (And.right (And.right (And.right (And.right (And.right (by assumption)))))))) | exact And.right (And.right (And.right (And.right (And.right (And.right (And.right (And.right (And.right (by assumption))))))))))
  (k_with "M:cj3" => with_reducible first | exact And.left (And.left (by assumption)) | exact And.left (And.right (And.left (by assumption))) | exact And.right (And.right (And.left (by assumption))) | exact And.left (And.left (And.right (by assumption))) | exact And.left (And.right (And.left (And.right (by assumption)))) | exact And.right (And.right (And.left (And.right (by assumption)))) | exact And.left (And.left (And.right (And.right (by assumption)))) | exact And.left (And.right (And.left (And.right (And.right (by assumption))))) | exact And.right (And.right (And.left (And.right (And.right (by assumption))))) | exact And.left (And.left (And.right (And.right (And.right (by assumption))))) | exact And.left (And.right (And.left (And.right (And.right (And.right (by assumption)))))) | exact And.right (And.right (And.left (And.right (And.right (And.right (by assumption)))))) | exact And.left (And.left (And.right (And.right (And.right (And.right (by assumption)))))) | exact And.left (And.right (And.left (And.right (And.right (And.right (And.right (by assumption))))))) | exact And.right (And.right (And.left (And.right (And.right (And.right (And.right (by assumption))))))) | exact And.left (And.left (And.right (And.right (And.right (And.right (And.right (by assumption))))))) | exact And.left (And.right (And.left (And.right (And.right (And.right (And.right (And.right (by assumption)))))))) | exact And.right (And.right (And.left (And.right (And.right (And.right (And.right (And.right (by assumption)))))))) | exact And.left (And.left (And.right (And.right (And.right (And.right (And.right (And.right (by assumption)))))))) | exact And.left (And.right (And.left (And.right (And.right (And.right (And.right (And.right (And.right (by assumption))))))))) | exact And.right (And.right (And.left (And.right (And.right (And.right (And.right (And.right (And.right (by assumption))))))))) | exact And.left (And.left (And.right (And.right (And.right (And.right (And.right (And.right (And.right (by assumption))))))))) | exact And.left (And.right (And.left (And.right (And.right (And.right (And.right (And.right (And.right (And.right (by assumption)))))))))) | exact And.right (And.right (And.left (And.right (And.right (And.right (And.right (And.right (And.right (And.right (by assumption)))))))))) | exact And.left (And.left (And.right (And.right (And.right (And.right (And.right (And.right (And.right (And.right (by assumption)))))))))) | exact And.left (And.right (And.left (And.right (And.right (And.right (And.right (And.right (And.right (And.right (And.right (by assumption))))))))))) | exact And.right (And.right (And.left (And.right (And.right (And.right (And.right (And.right (And.right (And.right (And.right (by assumption))))))))))) | exact And.left (And.left (And.right (And.right (And.right (And.right (And.right (And.right (And.right (And.right (And.right (by assumption))))))))))) | exact And.left (And.right (And.left (And.right (And.right (And.right (And.right (And.right (And.right (And.right (And.right (And.right (by assumption)))))))))))) | exact And.right (And.right (And.left (And.right (And.right (And.right (And.right (And.right (And.right (And.right (And.right (And.right (by assumption)))))))))))))
  (k_with "M:ne" => first | with_reducible assumption | (refine' Ne.symm ?_; with_reducible assumption) | (k_extra "M:cj") | (refine' Ne.symm ?_; k_extra "M:cj") | (k_extra "M:cj3") | (refine' Ne.symm ?_; k_extra "M:cj3") | omega)
  (k_with "call ref" => (k_here; (with_reducible show wpAny _ _ (call (Value.ref 339) _) _ _ _); k_dflt (rename Mine.Tc _ _ _ => whT; refine' Mine.rcount ?kB ?kF ?kX ?kN ?kT ?kK ?kd ?ku ?wkr ?wkp ?wkn ?wkR whT ?wkl ?wk0 ?wk1 ?wk2 ?wk3 ?wk4 ?_; k_extra "M:base"; (case wkr => k_mem); (case wkp => k_extra "M:pick"); (case wkn => k_all); (case wkR => exact Mine.RSt.intro); (case wkl => assumption); (case wk0 => omega); (case wk1 => omega); (case wk2 => omega); (case wk3 => omega); (case wk4 => first | omega | assumption); k_whole); intro wat' _ _ _ _ _ _ _ _ _ _ _ _ _ _ _ _ whT' wh' wtk' wt' wF' wN'; (try clear whT); (try k_fold)))
  (k_with "CompSrc" => refine Mine.unhold ?_)
  (k_with "exec Assign cons ListComp" => (k_here; k_dflt (refine LCg.Assign_ListComp_U (F₀ := by k_asm) (by rfl) (by with_unfolding_all rfl) (by with_unfolding_all rfl) (by decide) (by rfl) (by decide) (by rfl) (by rfl) (by rfl) ?_)))
  (k_with "M:pyIter ref" => refine Mine.unhold ?_)
  trivial
namespace Mine
section
variable {prog : Program} {w : World} {p : Program} {loose : List Str} {mean : ExcName → Option Value} {mg mb : Str → Option Value}
variable {dp un : Nat} {gd : Option (List Code)} {cn : Str} {cs : Scope} {a : Addr} {ccd : Value} {cl : List (Str × Addr)} {outer : List Env} {A₀ : Around} {base h₀ : Heap} {L : Addr} {m : Str → Option Value} {s : Shared} {Q E : Value → Shared → Prop} {l rest : Led}
theorem rlines {r rd x pd : Addr} {data a3 : List UInt8} {ls ns at_ dep : Int} {es ps : List DictEntry} {vc vp : Value} {l1 : Led}
    (B : Below A₀ base outer h₀) (F : Fr h₀ L s.heap m) (X : (hd.heap_1 w.params).In h₀) (N : News h₀ L s.heap l) (T : Top p loose mean mg mb h₀) (hk : cs.kind = .function) (hd : dp + 16 < recursionLimit) (hu : un + 128 < cLine)
    (hr : (r, instObj 385 rd) ∈ l) (hx : (x, instObj 281 pd) ∈ l) (pk : Pick (rd, dictOf es 8) l l1) (pk2 : Pick (pd, dictOf ps 16) l1 rest) (hne : ∀ q ∈ l1, q.1 ≠ rd) (hne2 : ∀ q ∈ rest, q.1 ≠ pd) (hR : RSt w.params data ls ns at_ dep es) (hP : PSt w.params vc vp ps)
    (hls : 1 ≤ ls) (hls' : ls ≤ 8) (hT : Tc data at_ (le 0 4 ++ (le 0 4 ++ (le 0 4 ++ a3)))) (hlen : data.length ≤ 16000)
    (ret : ∀ at' es' ps', RSt w.params data ls ns at' dep es' → PSt w.params vc vp ps' → Tc data at' a3 → ∀ h' tk', Fr h₀ L h' m → News h₀ L h' ((rd, dictOf es' 8) :: (pd, dictOf ps' 16) :: rest) → Q .none { s with heap := h', toks := tk' }) :
    wpAny (model prog w) (ktrTop dp un gd cn cs L a ccd cl outer) (call (.ref 375) [.ref r, .ref x]) Q E s := by
  have N := news_two pk pk2 N
  have hr := pk2.mem (pk.mem hr (fun e => by have e2 := congrArg (fun q => q.2.data) e; cases e2)) (fun e => by have e2 := congrArg (fun q => q.2.data) e; cases e2)
  have hx := pk2.mem (pk.mem hx (fun e => by have e2 := congrArg (fun q => q.2.data) e; cases e2)) (fun e => by have e2 := congrArg (fun q => q.2.data) e; cases e2)
  have hne0 : @Ne Nat pd rd := hne _ (pk2.sub _ List.mem_cons_self)
  have hne : ∀ q ∈ rest, q.1 ≠ rd := fun q hq => hne _ (pk2.sub _ (List.mem_cons_of_mem _ hq))
  clear pk pk2
  revert N; refine RSt.elim (G := fun es => News _ _ _ ((_, dictOf es 8) :: _) → _) (es := es) hR ?_; intro t0 t1' t2 t3 t4 t5 t6 t7 _ _ _ _ _ _ _ _ N
  revert N; refine PSt.elim (G := fun es => News _ _ _ (_ :: (_, dictOf es 16) :: _) → _) (es := ps) hP ?_; intro tb v0 v1 v2 v3 v4 v5 v6 v8 v9 v10 v11 v12 v13 _ _ _ _ _ _ _ _ _ _ _ _ _ _ _ _ N
  k_extra "M:enterC"
  k_steps
  unfold Hold
  refine LCg.CompSrc.range (n := 0) rfl (by k_asm) (by k_asm) (by assumption) (by decide) (by rfl) (by rw [sizeLine_eq]; omega) (fun g => compRest_keep (fun _ _ => True) trivial trivial ?cstep ?cend)
  case cstep => intro i ys hi; omega
  case cend =>
    intro ys _ D h tk F3 N3 ho
    simp only [LCg.Off1, and_true] at ho
    try k_fold
    k_steps
    unfold Hold
    rename Fr _ _ _ _ => F1
    rename News _ _ _ _ => N1
    rename IsRange _ _ _ _ _ _ _ _ => r1
    refine iter_rangeUnr (n := 0) rfl r1 (by decide) (by rfl) F1 N1 ?_
    intro I l1
    refine RangeRest.zero ?_
    intro h tk F2 N2
    (try dsimp only at F2)
    try k_fold
    k_steps
    unfold Hold
    refine LCg.CompSrc.range (n := 0) rfl (by k_asm) (by k_asm) (by assumption) (by decide) (by rfl) (by rw [sizeLine_eq]; omega) (fun g => compRest_keep (fun _ _ => True) trivial trivial ?dstep ?dend)
    case dstep => intro i ys hi; omega
    case dend =>
      intro ys _ D h tk F3 N3 ho
      simp only [LCg.Off1, and_true] at ho
      try k_fold
      k_steps
      all_goals exact ret _ _ _ RSt.intro PSt.intro (by assumption) _ _ (by assumption) (news_le (by assumption) (by kcf_all))
end
end Mine
end
section
theorem Mine.sayCrfunctionG : True := by
  k_with_none
  (k_with "M:ne" => first | assumption | omega)
  (k_with "M:all" => first | assumption | exact List.forall_mem_nil _ | (refine' Mine.ne_cons ?wa ?wb; (case wa => k_extra "M:ne"); (case wb => k_all)) | (refine' tbn_neAll ?wkah; (case wkah => k_extra "M:conj")))
  (k_with "M:upd" => first | (refine' Upd.head ?wa; (case wa => k_all)) | (refine' Mine.upd_tail ?wa ?wb; (case wa => k_extra "M:ne"); (case wb => k_upd)))
  (k_with "M:conj" => first | assumption | (refine' And.right ?_; assumption) | (refine' And.right (And.right ?_); assumption) | (refine' And.right (And.right (And.right ?_)); assumption) | (refine' And.right (And.right (And.right (And.right ?_))); assumption) | (refine' And.right (And.right (And.right (And.right (And.right ?_)))); assumption))
  (k_with "M:mem" => first | assumption | exact List.mem_cons_self | (refine' List.mem_cons_of_mem _ ?_; k_extra "M:mem"))
  (k_with "M:in" => first | assumption | exact Frag.In.keeps (by k_asm) (Fr.keep (by k_asm)))
  (k_with "M:news" => k_dflt k_mem)
  (k_with "M:enter" => (refine wpAny_call ?_; k_dflt ktr_enter))
  (k_with "M:enterC" => (refine wpAny_call ?_; k_dflt (refine' code_defC ?wk1 ?wk2 ?wk3 ?wk4 ?wk5 ?wkA ?kF ?kK ?wk6 ?wk7 ?wk8 ?wk9 ?kB ?wkD ?_ ?wc2 ?wc3 ?wc4; (case wkA => exact rfl); (case kF => exact rfl); (case kK => assumption); (case wk1 => k_asm); (case wk2 => k_asm); (case wk3 => k_asm); (case wk4 => k_asm); (case wk5 => k_asm); (case wk6 => k_is); (case wk7 => k_is); (case wk8 => ktr_room); (case wk9 => first | exact BindsTo.of_eq rfl | exact binds_K (by k_in) rfl (by k_is) rfl rfl rfl | fail "k_enter: no rule for these arguments"); (case kB => exact rfl); (case wkD => decide +kernel); (case wc2 => exact rfl); (case wc3 => exact rfl); (case wc4 => exact rfl); k_whole; intro wg' wL' wh' wtk' wcells' wFG' wF' wN' wY' wB' wX' wT' wl1; (try k_lt wl1); k_cells wY'; (try simp only [List.cons_append, List.nil_append] at wN'); (try dsimp only); (try k_lift wB'); (try k_fold))))
  (k_with "M:base" => ((case kB => k_asm); (case kF => k_asm); (case kX => k_asm); (case kN => k_asm); (case kT => k_asm); (case kK => first | exact rfl | assumption); (case kd => ktr_room); (case ku => ktr_units)))
  (k_with "M:pick" => first | exact Mine.Pick.head | (apply Mine.Pick.tail; k_extra "M:pick"))
  (k_with "M:room" => ktr_room)
  (k_with "call builtin:list.append" => (k_here; (with_reducible show wpAny _ _ (call (Value.builtin _) [Value.ref _, _]) _ _ _); k_dflt (refine' append_K ?wk1 ?wk2 ?wk3 ?_ ?wz; (case wk1 => k_asm); (case wk2 => k_asm); (case wk3 => k_upd); (case wz => first | size_fits | ((try simp only [List.size_toArray, sizeLine_eq]); omega)); k_whole); intro wh' wF' wN'; (try simp only [List.push_toArray] at wN'); (try k_sweep)))
  (k_with "M:enterD" => (refine wpAny_call ?_; k_dflt (refine' code_def ?wk1 ?wk2 ?wk3 ?wk4 ?wk5 ?wkA ?kF ?kK ?wk6 ?wk7 ?wk8 ?wk9 ?kB ?_ ?wc2 ?wc3 ?wc4 ?wc5; (case wkA => exact rfl); (case kF => exact rfl); (case kK => assumption); (case wk1 => k_asm); (case wk2 => k_asm); (case wk3 => k_asm); (case wk4 => k_asm); (case wk5 => k_asm); (case wk6 => k_is); (case wk7 => k_is); (case wk8 => ktr_room); (case wk9 => first | exact BindsTo.of_eq rfl | exact binds_K (by k_in) rfl (by k_is) rfl rfl rfl | fail "enterD: no rule for these arguments"); (case wc5 => decide); (case kB => exact locs rfl); (case wc2 => exact rfl); (case wc3 => exact rfl); (case wc4 => exact rfl); k_whole; intro wg' wL' wh' wFG' wF' wN' wB' wX' wT'; (try dsimp only); (try k_fold))))
  (k_with "M:all" => first | assumption | exact List.forall_mem_nil _ | (refine' Mine.ne_cons ?wa ?wb; (case wa => k_extra "M:ne"); (case wb => k_all)) | (refine' Mine.off1_ne ?wkah; (case wkah => k_extra "M:conj")))
  (k_with "call ref" => (k_here; (with_reducible show wpAny _ _ (call (Value.ref 325) _) _ _ _); k_dflt (rename Mine.Tc _ _ _ => whT; refine' Mine.roctet ?kB ?kF ?kX ?kN ?kT ?kK ?kd ?ku ?wkr ?wkp ?wkn ?wkR whT ?wkl ?wk0 ?wk1 ?_; k_extra "M:base"; (case wkr => k_mem); (case wkp => k_extra "M:pick"); (case wkn => k_all); (case wkR => exact Mine.RSt.intro); (case wkl => assumption); (case wk0 => omega); (case wk1 => omega); k_whole); intro wat' _ _ _ _ _ _ _ _ _ _ _ _ _ _ _ _ whT' wh' wtk' wt' wF' wN'; (try clear whT); (try k_fold)))
  (k_with "call ref" => (k_here; (with_reducible show wpAny _ _ (call (Value.ref 332) _) _ _ _); k_dflt (rename Mine.Tc _ _ _ => whT; refine' Mine.rinteger ?kB ?kF ?kX ?kN ?kT ?kK ?kd ?ku ?wkr ?wkp ?wkn ?wkR whT ?wkl ?wk0 ?wk1 ?_; k_extra "M:base"; (case wkr => k_mem); (case wkp => k_extra "M:pick"); (case wkn => k_all); (case wkR => exact Mine.RSt.intro); (case wkl => assumption); (case wk0 => omega); (case wk1 => omega); k_whole); intro wat' _ _ _ _ _ _ _ _ _ _ _ _ _ _ _ _ whT' wh' wtk' wt' wF' wN'; (try clear whT); (try k_fold)))
  (k_with "call ref" => (k_here; (with_reducible show wpAny _ _ (call (Value.ref 339) _) _ _ _); k_dflt (rename Mine.Tc _ _ _ => whT; refine' Mine.rcount ?kB ?kF ?kX ?kN ?kT ?kK ?kd ?ku ?wkr ?wkp ?wkn ?wkR whT ?wkl ?wk0 ?wk1 ?wk2 ?wk3 ?wk4 ?_; k_extra "M:base"; (case wkr => k_mem); (case wkp => k_extra "M:pick"); (case wkn => k_all); (case wkR => exact Mine.RSt.intro); (case wkl => assumption); (case wk0 => omega); (case wk1 => omega); (case wk2 => omega); (case wk3 => omega); (case wk4 => first | omega | assumption); k_whole); intro wat' _ _ _ _ _ _ _ _ _ _ _ _ _ _ _ _ whT' wh' wtk' wt' wF' wN'; (try clear whT); (try k_fold)))
  (k_with "call ref" => (k_here; (with_reducible show wpAny _ _ (call (Value.ref 353) _) _ _ _); k_dflt (rename Mine.Tc _ _ _ => whT; refine' Mine.rtextG ?kB ?kF ?kX ?kN ?kT ?kK ?kd ?ku ?wkr ?wkp ?wkn ?wkR whT ?wkl ?wk0 ?wk1 ?_; k_extra "M:base"; (case wkr => k_mem); (case wkp => k_extra "M:pick"); (case wkn => k_all); (case wkR => exact Mine.RSt.intro); (case wkl => assumption); (case wk0 => omega); (case wk1 => omega); k_whole); intro wat' _ _ _ _ _ _ _ _ _ _ _ _ _ _ _ _ whT' wh' wtk' wv' whv' wF' wN'; (try clear whT); (try k_fold)))
  (k_with "call ref" => (k_here; (with_reducible show wpAny _ _ (call (Value.ref 360) _) _ _ _); k_dflt (rename Mine.Tc _ _ _ => whT; (with_reducible (have hT0 : Mine.Tc _ _ (Mine.le 0 1 ++ _) := whT)); (clear hT0); refine' Mine.rconstN ?kB ?kF ?kX ?kN ?kT ?kK ?kd ?ku ?wkr ?wkp ?wkn ?wkR whT ?wkl ?wl0 ?wl1 ?wl2 ?wl3  ?_; k_extra "M:base"; (case wkr => k_mem); (case wkp => k_extra "M:pick"); (case wkn => k_all); (case wkR => exact Mine.RSt.intro); (case wkl => assumption); (case wl0 => omega); (case wl1 => omega); (case wl2 => omega); (case wl3 => omega); skip; k_whole); intro wat' _ _ _ _ _ _ _ _ _ _ _ _ _ _ _ _ whT' wh' wtk' wF' wN'; (try clear whT); (try k_fold)))
  (k_with "call ref" => (k_here; (with_reducible show wpAny _ _ (call (Value.ref 360) _) _ _ _); k_dflt (rename Mine.Tc _ _ _ => whT; (with_reducible (have hT0 : Mine.Tc _ _ (Mine.le 1 1 ++ _) := whT)); (clear hT0); refine' Mine.rconstB ?kB ?kF ?kX ?kN ?kT ?kK ?kd ?ku ?wkr ?wkp ?wkn ?wkR whT ?wkl ?wl0 ?wl1 ?wl2 ?wl3  ?_; k_extra "M:base"; (case wkr => k_mem); (case wkp => k_extra "M:pick"); (case wkn => k_all); (case wkR => exact Mine.RSt.intro); (case wkl => assumption); (case wl0 => omega); (case wl1 => omega); (case wl2 => omega); (case wl3 => omega); skip; k_whole); intro wat' _ _ _ _ _ _ _ _ _ _ _ _ _ _ _ _ whT' wh' wtk' wF' wN'; (try clear whT); (try k_fold)))
  (k_with "call ref" => (k_here; (with_reducible show wpAny _ _ (call (Value.ref 360) _) _ _ _); k_dflt (rename Mine.Tc _ _ _ => whT; (with_reducible (have hT0 : Mine.Tc _ _ (Mine.le 3 1 ++ _) := whT)); (clear hT0); refine' Mine.rconstI ?kB ?kF ?kX ?kN ?kT ?kK ?kd ?ku ?wkr ?wkp ?wkn ?wkR whT ?wkl ?wl0 ?wl1 ?wl2 ?wl3 ?wlf ?_; k_extra "M:base"; (case wkr => k_mem); (case wkp => k_extra "M:pick"); (case wkn => k_all); (case wkR => exact Mine.RSt.intro); (case wkl => assumption); (case wl0 => omega); (case wl1 => omega); (case wl2 => omega); (case wl3 => omega); (case wlf => assumption); k_whole); intro wat' _ _ _ _ _ _ _ _ _ _ _ _ _ _ _ _ whT' wh' wtk' wt' wF' wN'; (try clear whT); (try k_fold)))
  (k_with "call ref" => (k_here; (with_reducible show wpAny _ _ (call (Value.ref 360) _) _ _ _); k_dflt (rename Mine.Tc _ _ _ => whT; (with_reducible (have hT0 : Mine.Tc _ _ (Mine.le 4 1 ++ _) := whT)); (clear hT0); refine' Mine.rconstT ?kB ?kF ?kX ?kN ?kT ?kK ?kd ?ku ?wkr ?wkp ?wkn ?wkR whT ?wkl ?wl0 ?wl1 ?wl2 ?wl3  ?_; k_extra "M:base"; (case wkr => k_mem); (case wkp => k_extra "M:pick"); (case wkn => k_all); (case wkR => exact Mine.RSt.intro); (case wkl => assumption); (case wl0 => omega); (case wl1 => omega); (case wl2 => omega); (case wl3 => omega); skip; k_whole); intro wat' _ _ _ _ _ _ _ _ _ _ _ _ _ _ _ _ whT' wh' wtk' wt' wF' wN'; (try clear whT); (try k_fold)))
  (k_with "exec Assign cons IfExp" => (k_here; refine Mine.unhold ?_))
  (k_with "call ref" => (k_here; (with_reducible show wpAny _ _ (call (Value.ref 365) _) _ _ _); refine Mine.unhold ?_))
  (k_with "call ref" => (k_here; (with_reducible show wpAny _ _ (call (Value.ref 370) _) _ _ _); refine Mine.unhold ?_))
  (k_with "call ref" => (k_here; (with_reducible show wpAny _ _ (call (Value.ref 375) _) _ _ _); refine Mine.unhold ?_))
  trivial
namespace Mine
section
variable {prog : Program} {w : World} {p : Program} {loose : List Str} {mean : ExcName → Option Value} {mg mb : Str → Option Value}
variable {dp un : Nat} {gd : Option (List Code)} {cn : Str} {cs : Scope} {a : Addr} {ccd : Value} {cl : List (Str × Addr)} {outer : List Env} {A₀ : Around} {base h₀ : Heap} {L : Addr} {m : Str → Option Value} {s : Shared} {Q E : Value → Shared → Prop} {l rest : Led}
theorem rfunctionG {root : Bool} {C : Type} {enc : C → List UInt8} {ok : C → Prop} {RT : Led → Value → C → Prop} {data : List UInt8} {ls ns : Int} {H lev : Nat} (hlen : data.length ≤ 16000) (hls : 1 ≤ ls) (hls' : ls ≤ 8) (hns : 1 ≤ ns) (hns' : ns ≤ 8)
    (hRT : ∀ {l l' v c}, RT l v c → (∀ q ∈ l, q ∈ l') → RT l' v c) (henc : ∀ c, 1 ≤ (enc c).length) (hS : RdSpec prog w p loose mean mg mb data ls ns H lev enc ok RT) :
    RdGen root prog w p loose mean mg mb data ls ns (H + 40) (lev + 1) (encF ls ns root enc) (RFit ns ok) (NdT w.params RT) := by
  intro dp un gd cn cs a ccd cl outer A₀ base h₀ L m s Q E l rest r rd at_ dep es nd a3 ov hov B F X N T hk hd hu hr pk hne hR hT hok hdep hdep' ret
  obtain ⟨o1, o2, o3, o4⟩ := hok
  have N := pk.news N
  have hr := pk.mem hr (fun e => by have e2 := congrArg (fun q => q.2.data) e; cases e2)
  clear pk
  have hz3 : data.toArray.size = data.length := List.size_toArray
  unfold encF encB at hT
  rw [txtE_def] at hT
  simp only [List.append_assoc, List.nil_append] at hT
  revert N; refine RSt.elim (G := fun es => News _ _ _ ((_, dictOf es 8) :: _) → _) (es := es) hR ?_; intro t0 t1' t2 t3 t4 t5 t6 t7 _ _ _ _ _ _ _ _ N
  k_extra "M:enter"
  k_steps
  unfold Hold
  walk_at "exec Assign"
  refine src_join ?join ?_
  case join =>
    rename SrcIs _ _ => hv
    clear ret hR hS henc o1 o2 o3 o4
    rcases hv with ⟨hr0, rfl⟩ | ⟨hr1, tv, rfl⟩
    · obtain ⟨tb, rfl⟩ := hov hr0
      k_steps
    · k_steps
  intro tsrc
  try k_fold
  k_steps
  unfold Hold
  k_here
  rename Tc _ _ _ => hTc
  refine' rcode ?kB ?kF ?kX ?kN ?kT ?kK ?kd ?ku ?kr ?kx ?kp ?kq ?kn ?km ?kR ?kP hTc hlen ?_
  k_extra "M:base"
  case kr => k_mem
  case kx => k_mem
  case kp => k_extra "M:pick"
  case kq => k_extra "M:pick"
  case kn => k_all
  case km => k_all
  case kR => exact RSt.intro
  case kP => exact PSt.intro
  clear hTc
  intro at' es' ps' hR' hP' hT' h' tk' F' N'
  have N' := news_far N'
  rename _ < _ ∧ AllLt _ rest => hlt
  rename _ < _ => hlx
  have e1 := lt_ne hlt.2
  have e2 := lt_ne2 hlt.2 hlx
  revert N'; refine RSt.elim (G := fun es => News _ _ _ ((_, dictOf es 8) :: _) → _) (es := es') hR' ?_; intro t0 t1' t2 t3 t4 t5 t6 t7 _ _ _ _ _ _ _ _ N'
  revert N'; refine PSt.elim (G := fun es => News _ _ _ (_ :: (_, dictOf es 16) :: _) → _) (es := ps') hP' ?_; intro tb v0 v1 v2 v3 v4 v5 v6 v8 v9 v10 v11 v12 v13 _ _ _ _ _ _ _ _ _ _ _ _ _ _ _ _ N'
  try k_fold
  k_steps
  unfold Hold
  k_here
  rename Tc _ _ _ => hTc
  refine' rconstants (RT := RT) (H := H) (lev := lev) (ok := ok) ?kB ?kF ?kX ?kN ?kT ?kK ?kd ?ku ?kr ?kx ?kp ?kq ?kn ?km ?kR ?kP hlen hls hls' hns hns' (@hRT) henc ?kS o1 o2 o3 o4 ?k1 ?k2 hTc ?_
  case kS => exact @hS
  k_extra "M:base"
  case kr => k_mem
  case kx => k_mem
  case kp => k_extra "M:pick"
  case kq => k_extra "M:pick"
  case kn => k_all
  case km => k_all
  case kR => exact RSt.intro
  case kP => exact PSt.intro
  case k1 => omega
  case k2 => omega
  clear hTc
  intro at' es' ps' lc lp n2 n3 cvs pvs tl hR' hP' hT' hlc hlp hcv hpv hfr h' tk' F' N'
  have N' := news_swap N'
  have hr' : (r, instObj 385 rd) ∈ tl ++ rest := List.mem_append_right _ hr
  have e3 := ne_app hfr (.inl rfl) hne
  have e4 := ne_app hfr (.inr (.inl rfl)) e1
  have hfr0 := hfr
  revert N'; refine RSt.elim (G := fun es => News _ _ _ ((_, dictOf es 8) :: _) → _) (es := es') hR' ?_; intro t0 t1' t2 t3 t4 t5 t6 t7 _ _ _ _ _ _ _ _ N'
  revert N'; refine PSt.elim (G := fun es => News _ _ _ (_ :: (_, dictOf es 16) :: _) → _) (es := ps') hP' ?_; intro tb v0 v1 v2 v3 v4 v5 v6 v8 v9 v10 v11 v12 v13 _ _ _ _ _ _ _ _ _ _ _ _ _ _ _ _ N'
  try k_fold
  k_steps
  unfold Hold
  k_here
  rename Tc _ _ _ => hTc
  refine' rlines ?kB ?kF ?kX ?kN ?kT ?kK ?kd ?ku ?kr ?kx ?kp ?kq ?kn ?km ?kR ?kP hls hls' hTc hlen ?_
  k_extra "M:base"
  case kr => k_mem
  case kx => k_mem
  case kp => k_extra "M:pick"
  case kq => k_extra "M:pick"
  case kn => k_all
  case km => k_all
  case kR => exact RSt.intro
  case kP => exact PSt.intro
  clear hTc
  intro at' es' ps' hR' hP' hT' h' tk' F' N'
  revert N'; refine RSt.elim (G := fun es => News _ _ _ ((_, dictOf es 8) :: _) → _) (es := es') hR' ?_; intro t0 t1' t2 t3 t4 t5 t6 t7 _ _ _ _ _ _ _ _ N'
  revert N'; refine PSt.elim (G := fun es => News _ _ _ (_ :: (_, dictOf es 16) :: _) → _) (es := ps') hP' ?_; intro tb v0 v1 v2 v3 v4 v5 v6 v8 v9 v10 v11 v12 v13 _ _ _ _ _ _ _ _ _ _ _ _ _ _ _ _ N'
  try k_fold
  k_steps
  rename Fr _ _ _ _ => F9
  rename News _ _ _ _ => N9
  rename Tc _ _ _ => hT9
  have e9 : dep + 1 - 1 = dep := by omega
  rw [e9] at N9
  refine' rf_end (RT := RT) (m := m) (s := s) (Q := Q) @hRT ret hlt hlx hlc hlp hcv hpv o3 o4 hfr0 ?r1 ?p1 hT9 F9 N9
  case r1 => exact RSt.intro
  case p1 => exact PSt.intro
theorem rfunctionI {C : Type} {enc : C → List UInt8} {ok : C → Prop} {RT : Led → Value → C → Prop} {data : List UInt8} {ls ns : Int} {H lev : Nat} (hlen : data.length ≤ 16000) (hls : 1 ≤ ls) (hls' : ls ≤ 8) (hns : 1 ≤ ns) (hns' : ns ≤ 8)
    (hRT : ∀ {l l' v c}, RT l v c → (∀ q ∈ l, q ∈ l') → RT l' v c) (henc : ∀ c, 1 ≤ (enc c).length) (hS : RdSpec prog w p loose mean mg mb data ls ns H lev enc ok RT) :
    RdSpec prog w p loose mean mg mb data ls ns (H + 40) (lev + 1) (encF ls ns false enc) (RFit ns ok) (NdT w.params RT) := by
  intro dp un gd cn cs a ccd cl outer A₀ base h₀ L m s Q E l rest r rd at_ dep es c a3 tb
  exact rfunctionG (root := false) hlen hls hls' hns hns' @hRT henc @hS fun _ => ⟨_, rfl⟩
theorem rfunctionR {C : Type} {enc : C → List UInt8} {ok : C → Prop} {RT : Led → Value → C → Prop} {data : List UInt8} {ls ns : Int} {H lev : Nat} (hlen : data.length ≤ 16000) (hls : 1 ≤ ls) (hls' : ls ≤ 8) (hns : 1 ≤ ns) (hns' : ns ≤ 8)
    (hRT : ∀ {l l' v c}, RT l v c → (∀ q ∈ l, q ∈ l') → RT l' v c) (henc : ∀ c, 1 ≤ (enc c).length) (hS : RdSpec prog w p loose mean mg mb data ls ns H lev enc ok RT) :
    RdRoot prog w p loose mean mg mb data ls ns (H + 40) (lev + 1) (encF ls ns true enc) (RFit ns ok) (NdT w.params RT) := by
  intro dp un gd cn cs a ccd cl outer A₀ base h₀ L m s Q E l rest r rd at_ dep es c a3 sb tb
  exact rfunctionG (root := true) hlen hls hls' hns hns' @hRT henc @hS fun e => nomatch e
end
end Mine
end
section
theorem Mine.sayCread : True := by
  k_with_none
  (k_with "M:ne" => first | assumption | omega)
  (k_with "M:all" => first | assumption | exact List.forall_mem_nil _ | (refine' Mine.ne_cons ?wa ?wb; (case wa => k_extra "M:ne"); (case wb => k_all)) | (refine' tbn_neAll ?wkah; (case wkah => k_extra "M:conj")))
  (k_with "M:upd" => first | (refine' Upd.head ?wa; (case wa => k_all)) | (refine' Mine.upd_tail ?wa ?wb; (case wa => k_extra "M:ne"); (case wb => k_upd)))
  (k_with "M:conj" => first | assumption | (refine' And.right ?_; assumption) | (refine' And.right (And.right ?_); assumption) | (refine' And.right (And.right (And.right ?_)); assumption) | (refine' And.right (And.right (And.right (And.right ?_))); assumption) | (refine' And.right (And.right (And.right (And.right (And.right ?_)))); assumption))
  (k_with "M:mem" => first | assumption | exact List.mem_cons_self | (refine' List.mem_cons_of_mem _ ?_; k_extra "M:mem"))
  (k_with "M:in" => first | assumption | exact Frag.In.keeps (by k_asm) (Fr.keep (by k_asm)))
  (k_with "M:news" => k_dflt k_mem)
  (k_with "M:enter" => (refine wpAny_call ?_; k_dflt ktr_enter))
  (k_with "M:enterC" => (refine wpAny_call ?_; k_dflt (refine' code_defC ?wk1 ?wk2 ?wk3 ?wk4 ?wk5 ?wkA ?kF ?kK ?wk6 ?wk7 ?wk8 ?wk9 ?kB ?wkD ?_ ?wc2 ?wc3 ?wc4; (case wkA => exact rfl); (case kF => exact rfl); (case kK => assumption); (case wk1 => k_asm); (case wk2 => k_asm); (case wk3 => k_asm); (case wk4 => k_asm); (case wk5 => k_asm); (case wk6 => k_is); (case wk7 => k_is); (case wk8 => ktr_room); (case wk9 => first | exact BindsTo.of_eq rfl | exact binds_K (by k_in) rfl (by k_is) rfl rfl rfl | fail "k_enter: no rule for these arguments"); (case kB => exact rfl); (case wkD => decide +kernel); (case wc2 => exact rfl); (case wc3 => exact rfl); (case wc4 => exact rfl); k_whole; intro wg' wL' wh' wtk' wcells' wFG' wF' wN' wY' wB' wX' wT' wl1; (try k_lt wl1); k_cells wY'; (try simp only [List.cons_append, List.nil_append] at wN'); (try dsimp only); (try k_lift wB'); (try k_fold))))
  (k_with "M:base" => ((case kB => k_asm); (case kF => k_asm); (case kX => k_asm); (case kN => k_asm); (case kT => k_asm); (case kK => first | exact rfl | assumption); (case kd => ktr_room); (case ku => ktr_units)))
  (k_with "M:pick" => first | exact Mine.Pick.head | (apply Mine.Pick.tail; k_extra "M:pick"))
  (k_with "M:room" => ktr_room)
  (k_with "call builtin:list.append" => (k_here; (with_reducible show wpAny _ _ (call (Value.builtin _) [Value.ref _, _]) _ _ _); k_dflt (refine' append_K ?wk1 ?wk2 ?wk3 ?_ ?wz; (case wk1 => k_asm); (case wk2 => k_asm); (case wk3 => k_upd); (case wz => first | size_fits | ((try simp only [List.size_toArray, sizeLine_eq]); omega)); k_whole); intro wh' wF' wN'; (try simp only [List.push_toArray] at wN'); (try k_sweep)))
  (k_with "M:enterD" => (refine wpAny_call ?_; k_dflt (refine' code_def ?wk1 ?wk2 ?wk3 ?wk4 ?wk5 ?wkA ?kF ?kK ?wk6 ?wk7 ?wk8 ?wk9 ?kB ?_ ?wc2 ?wc3 ?wc4 ?wc5; (case wkA => exact rfl); (case kF => exact rfl); (case kK => assumption); (case wk1 => k_asm); (case wk2 => k_asm); (case wk3 => k_asm); (case wk4 => k_asm); (case wk5 => k_asm); (case wk6 => k_is); (case wk7 => k_is); (case wk8 => ktr_room); (case wk9 => first | exact BindsTo.of_eq rfl | exact binds_K (by k_in) rfl (by k_is) rfl rfl rfl | fail "enterD: no rule for these arguments"); (case wc5 => decide); (case kB => exact locs rfl); (case wc2 => exact rfl); (case wc3 => exact rfl); (case wc4 => exact rfl); k_whole; intro wg' wL' wh' wFG' wF' wN' wB' wX' wT'; (try dsimp only); (try k_fold))))
  (k_with "M:all" => first | assumption | exact List.forall_mem_nil _ | (refine' Mine.ne_cons ?wa ?wb; (case wa => k_extra "M:ne"); (case wb => k_all)) | (refine' Mine.off1_ne ?wkah; (case wkah => k_extra "M:conj")))
  (k_with "call ref" => (k_here; (with_reducible show wpAny _ _ (call (Value.ref 29) _) _ _ _); k_dflt (refine' Mine.header ?kB ?kF ?kX ?kN ?kT ?kK ?kd ?ku ?wk0 ?wk1 ?wk2 ?wk3 ?wk4 ?_; k_extra "M:base"; (case wk0 => k_mem); (case wk1 => omega); (case wk2 => omega); (case wk3 => omega); (case wk4 => omega); k_whole); intro wt' wh' wtk' wF' wN'; (try k_sweep); (try k_fold)))
  (k_with "call ref" => (k_here; (with_reducible show wpAny _ _ (call (Value.ref 311) _) _ _ _); k_dflt (rename Mine.Tc _ _ _ => whT; refine' Mine.block ?kB ?kF ?kX ?kN ?kT ?kK ?kd ?ku ?wkr ?wkp ?wkn ?wkR whT ?wkl ?wkz ?_; k_extra "M:base"; (case wkr => k_mem); (case wkp => k_extra "M:pick"); (case wkn => k_all); (case wkR => exact Mine.RSt.intro); (case wkl => assumption); (case wkz => first | (simp only [Mine.le_len]; done) | omega | rfl); k_whole); intro wat' _ _ _ _ _ _ _ _ _ _ _ _ _ _ _ _ whT' wh' wtk' wt' wF' wN'; (try clear whT); (try k_fold)))
  (k_with "compareOp NotEq bytes bytes" => (k_here; (with_reducible show wpAny _ _ (compareOp _ (Value.bytes (hdr _ _).toArray _) (Value.bytes (hdr _ _).toArray _)) _ _ _); refine Mine.ne_same ?_))
  (k_with "call ref" => (k_here; (with_reducible show wpAny _ _ (call (Value.ref 382) _) _ _ _); refine Mine.unhold ?_))
  trivial
namespace Mine
section
variable {prog : Program} {w : World} {p : Program} {loose : List Str} {mean : ExcName → Option Value} {mg mb : Str → Option Value}
variable {dp un : Nat} {gd : Option (List Code)} {cn : Str} {cs : Scope} {a : Addr} {ccd : Value} {cl : List (Str × Addr)} {outer : List Env} {A₀ : Around} {base h₀ : Heap} {L : Addr} {m : Str → Option Value} {s : Shared} {Q E : Value → Shared → Prop} {l rest : Led}
theorem readDump {C : Type} {enc : C → List UInt8} {ok : C → Prop} {RT : Led → Value → C → Prop} {H lev : Nat} {sz : Addr} {data : List UInt8} {ls ns : Int} {t0 t1 t2 t3 t4 t5 : Tok} {n : Nat} {c : C}
    (hS : RdRoot prog w p loose mean mg mb data ls ns H lev enc ok RT)
    (B : Below A₀ base outer h₀) (F : Fr h₀ L s.heap m) (X : (hd.heap_1 w.params).In h₀) (N : News h₀ L s.heap l) (T : Top p loose mean mg mb h₀) (hk : cs.kind = .function) (hd : dp + (H + 30) < recursionLimit) (hu : un + 8 * (H + 30) < cLine)
    (hz : (sz, tupOf #[.int ls t1, .int ns t2] n) ∈ l) (hls : 1 ≤ ls) (hls' : ls ≤ 8) (hns : 1 ≤ ns) (hns' : ns ≤ 8) (hlev : lev ≤ 9)
    (hdt : data = hdr ls ns ++ (enc c ++ [])) (hlen : data.length ≤ 16000) (hok : ok c)
    (ret : ∀ v tl h' tk', RT tl v c → Fresh tl l → Fr h₀ L h' m → News h₀ L h' (tl ++ l) → Q v { s with heap := h', toks := tk' }) :
    wpAny (model prog w) (ktrTop dp un gd cn cs L a ccd cl outer) (call (.ref 403) [.bytes data.toArray t0, .int 80 t3, .int 9 t4, .bytes #[61, 108, 97, 119] t5, .ref sz]) Q E s := by
  have hT : Tc data 0 (hdr ls ns ++ (enc c ++ [])) := ⟨[], rfl, hdt⟩
  have hz3 : data.toArray.size = data.length := List.size_toArray
  k_extra "M:enter"
  k_steps
  unfold Hold
  rename Tc _ _ _ => hTc
  refine' hS ?kB ?kF ?kX ?kN ?kT ?kK ?kd ?ku ?kr ?kp ?kn ?kR hTc hok ?k1 ?k2 ?_
  k_extra "M:base"
  case kr => k_mem
  case kp => k_extra "M:pick"
  case kn => k_all
  case kR => exact RSt.intro
  case k1 => omega
  case k2 => omega
  intro at' es' hR' hT' v' tl' h' tk' hv' hfr' F' N'
  try k_fold
  k_steps
  exact ret _ tl' _ _ hv' (fun q hq y hy => hfr' q hq y (List.mem_cons_of_mem _ (List.mem_cons_of_mem _ hy))) (by assumption) (news_le (by assumption) (by kcf_all))
end
end Mine
end
section
theorem Mine.sayCtold : True := by
  k_with_none
  (k_with "M:ne" => first | assumption | omega)
  (k_with "M:all" => first | assumption | exact List.forall_mem_nil _ | (refine' Mine.ne_cons ?wa ?wb; (case wa => k_extra "M:ne"); (case wb => k_all)) | (refine' tbn_neAll ?wkah; (case wkah => k_extra "M:conj")))
  (k_with "M:upd" => first | (refine' Upd.head ?wa; (case wa => k_all)) | (refine' Mine.upd_tail ?wa ?wb; (case wa => k_extra "M:ne"); (case wb => k_upd)))
  (k_with "M:conj" => first | assumption | (refine' And.right ?_; assumption) | (refine' And.right (And.right ?_); assumption) | (refine' And.right (And.right (And.right ?_)); assumption) | (refine' And.right (And.right (And.right (And.right ?_))); assumption) | (refine' And.right (And.right (And.right (And.right (And.right ?_)))); assumption))
  (k_with "M:mem" => first | assumption | exact List.mem_cons_self | (refine' List.mem_cons_of_mem _ ?_; k_extra "M:mem"))
  (k_with "M:in" => first | assumption | exact Frag.In.keeps (by k_asm) (Fr.keep (by k_asm)))
  (k_with "M:news" => k_dflt k_mem)
  (k_with "M:enter" => (refine wpAny_call ?_; k_dflt ktr_enter))
  (k_with "M:enterC" => (refine wpAny_call ?_; k_dflt (refine' code_defC ?wk1 ?wk2 ?wk3 ?wk4 ?wk5 ?wkA ?kF ?kK ?wk6 ?wk7 ?wk8 ?wk9 ?kB ?wkD ?_ ?wc2 ?wc3 ?wc4; (case wkA => exact rfl); (case kF => exact rfl); (case kK => assumption); (case wk1 => k_asm); (case wk2 => k_asm); (case wk3 => k_asm); (case wk4 => k_asm); (case wk5 => k_asm); (case wk6 => k_is); (case wk7 => k_is); (case wk8 => ktr_room); (case wk9 => first | exact BindsTo.of_eq rfl | exact binds_K (by k_in) rfl (by k_is) rfl rfl rfl | fail "k_enter: no rule for these arguments"); (case kB => exact rfl); (case wkD => decide +kernel); (case wc2 => exact rfl); (case wc3 => exact rfl); (case wc4 => exact rfl); k_whole; intro wg' wL' wh' wtk' wcells' wFG' wF' wN' wY' wB' wX' wT' wl1; (try k_lt wl1); k_cells wY'; (try simp only [List.cons_append, List.nil_append] at wN'); (try dsimp only); (try k_lift wB'); (try k_fold))))
  (k_with "M:base" => ((case kB => k_asm); (case kF => k_asm); (case kX => k_asm); (case kN => k_asm); (case kT => k_asm); (case kK => first | exact rfl | assumption); (case kd => ktr_room); (case ku => ktr_units)))
  (k_with "M:pick" => first | exact Mine.Pick.head | (apply Mine.Pick.tail; k_extra "M:pick"))
  (k_with "M:room" => ktr_room)
  (k_with "call builtin:list.append" => (k_here; (with_reducible show wpAny _ _ (call (Value.builtin _) [Value.ref _, _]) _ _ _); k_dflt (refine' append_K ?wk1 ?wk2 ?wk3 ?_ ?wz; (case wk1 => k_asm); (case wk2 => k_asm); (case wk3 => k_upd); (case wz => first | size_fits | ((try simp only [List.size_toArray, sizeLine_eq]); omega)); k_whole); intro wh' wF' wN'; (try simp only [List.push_toArray] at wN'); (try k_sweep)))
  (k_with "M:enterD" => (refine wpAny_call ?_; k_dflt (refine' code_def ?wk1 ?wk2 ?wk3 ?wk4 ?wk5 ?wkA ?kF ?kK ?wk6 ?wk7 ?wk8 ?wk9 ?kB ?_ ?wc2 ?wc3 ?wc4 ?wc5; (case wkA => exact rfl); (case kF => exact rfl); (case kK => assumption); (case wk1 => k_asm); (case wk2 => k_asm); (case wk3 => k_asm); (case wk4 => k_asm); (case wk5 => k_asm); (case wk6 => k_is); (case wk7 => k_is); (case wk8 => ktr_room); (case wk9 => first | exact BindsTo.of_eq rfl | exact binds_K (by k_in) rfl (by k_is) rfl rfl rfl | fail "enterD: no rule for these arguments"); (case wc5 => decide); (case kB => exact locs rfl); (case wc2 => exact rfl); (case wc3 => exact rfl); (case wc4 => exact rfl); k_whole; intro wg' wL' wh' wFG' wF' wN' wB' wX' wT'; (try dsimp only); (try k_fold))))
  (k_with "exec For" => (k_here; (rename Fr _ _ _ _ => wlF'); (with_unfolding_all refine' For_invVF wlF' ?wk1 ?wk2 ?_; (case wk1 => exact rfl); (case wk2 => exact rfl); k_whole)))
  (k_with "exec For Name Attribute cons nil" => (walk_at "exec For"))
  (k_with "M:pyIter ref" => ((with_reducible show wpAny _ _ (pyIter (Value.ref _)) (fun it s₂ => LoopAtV _ _ _ _ _ _ _ _ _ it s₂) _ _); k_here; k_dflt (refine' iter_listUnr ?whh ?wF ?wN ?whm ?whc ?whd ?_; (case whh => rfl); (case wF => k_asm); (case wN => k_asm); (case whm => k_mem); (case whc => rfl); (case whd => rfl); k_whole); intro wI' wl1; (try k_lt wl1)))
  (k_with "call builtin:len" => (k_here; (with_reducible show wpAny _ _ (call (Value.builtin "len") [Value.ref _]) _ _ _); k_dflt (refine' Mine.len_led ?wN ?wm ?wz ?_; (case wN => k_asm); (case wm => k_mem); (case wz => first | (simp only [List.length_nil]; omega) | omega | decide); k_whole); intro wt' wtk'; (try simp only [List.length_nil])))
  (k_with "UnrEnd" => refine Mine.unhold ?_)
  (k_with "eval ListComp" => (k_here; k_dflt (refine LCg.ListComp_U (F₀ := by k_asm) (by with_unfolding_all rfl) (by decide) (by rfl) (by decide) (by rfl) ?_)))
  (k_with "CompSrc" => refine Mine.unhold ?_)
  (k_with "CompEnd" => refine Mine.unhold ?_)
  (k_with "M:sub" => first | kcf_all | (refine' Mine.sub_trans ?wh1 ?wh2; (case wh1 => assumption); (case wh2 => kcf_all)))
  (k_with "M:all" => first | assumption | exact List.forall_mem_nil _ | (refine' Mine.ne_cons ?wa ?wb; (case wa => k_extra "M:ne"); (case wb => k_all)) | (refine' Mine.off1_ne ?wkah; (case wkah => k_extra "M:conj")))
  (k_with "call ref" => (k_here; (with_reducible show wpAny _ _ (call (Value.ref 427) _) _ _ _); k_dflt (rename ToldSpec _ _ _ _ _ _ _ _ _ _ => whS; refine' whS _ _ _ _ _ _ _ _ _ _ _ _ _ _ _ _ _ _ _ _ _ ?kB ?kF ?kX ?kN ?kT ?kK ?kd ?ku ?wk1 ?wk2 ?_; k_extra "M:base"; (case wk1 => assumption); (case wk2 => first | assumption | k_extra "M:sub")); intro wr' wtl' wh' wtk' whfr' whd' wF' wN'; (try k_fold)))
  trivial
namespace Mine
section
variable {prog : Program} {w : World} {p : Program} {loose : List Str} {mean : ExcName → Option Value} {mg mb : Str → Option Value}
variable {dp un : Nat} {gd : Option (List Code)} {cn : Str} {cs : Scope} {a : Addr} {ccd : Value} {cl : List (Str × Addr)} {outer : List Env} {A₀ : Around} {base h₀ : Heap} {L : Addr} {m : Str → Option Value} {s : Shared} {Q E : Value → Shared → Prop} {l rest : Led}
open PyProof.Rows.LCg
theorem told {C : Type} {RC : Led → Value → C → Prop} {f : C → Dat} {H : Nat}
    (hS : ToldSpec prog w p loose mean mg mb H RC f) : ToldSpec prog w p loose mean mg mb (H + 10) (NdT w.params RC) (toldN f) := by
  intro dp un gd cn cs a ccd cl outer A₀ base h₀ L m s Q E l l₀ v nd B F X N T hk hd hu hT hsub ret
  refine NdT.elim (G := fun v => wpAny _ _ (call _ [v]) _ _ _) hT ?_
  intro a1 da lc lp nx0 n2 n3 cvs pvs v0 v1 v2 v3 v4 v5 v6 v7 v8 v9 v10 v11 v12 v13 _ _ _ _ _ _ _ _ _ _ _ _ _ _ _ _ m1 m2 m5 m6 hc ht z1 z2
  have m1 := hsub _ m1
  have m2 := hsub _ m2
  have m5 := hsub _ m5
  have m6 := hsub _ m6
  have hcl := hc.len
  have htl := ht.len
  k_extra "M:enter"
  k_steps
  unfold Hold
  refine CompSrc.ledger (its := cvs.toArray) rfl (by k_asm) (by k_asm) (by k_mem) (by rw [sizeLine_eq, List.size_toArray]; omega) (fun g => compRest_ind (fun i ys nw => ∃ tl, nw = tl ++ l ∧ Fresh tl l ∧ DatAll tl ys ((nd.cs.take i).map toldC)) ⟨[], rfl, (fun _ h => nomatch h), .nil⟩ ?cstep ?cend)
  case cstep =>
    rintro i ys nw hi ⟨tl, rfl, hfr, hda⟩ v I oI C oC D m₂ h tk E' hP hC hv F3 N3 hoff hne
    obtain ⟨c, hc1, hc2⟩ := hc.get (i := i) (by simpa using hP)
    rw [take_succ hc1, List.map_append]
    cases hc2
    all_goals try k_fold
    all_goals k_steps
    all_goals unfold Hold
    · exact tup_end (by assumption) (by assumption) (by assumption) hoff m5 hfr hda fun nw hm => .tuple hm (.cons (.bool _) (.cons .none .nil))
    · exact tup_end (by assumption) (by assumption) (by assumption) hoff m5 hfr hda fun nw hm => .tuple hm (.cons (.bool _) (.cons (.bool _) .nil))
    · exact tup_end (by assumption) (by assumption) (by assumption) hoff m5 hfr hda fun nw hm => .tuple hm (.cons (.bool _) (.cons (.int _ _) .nil))
    · exact tup_end (by assumption) (by assumption) (by assumption) hoff m5 hfr hda fun nw hm => .tuple hm (.cons (.bool _) (.cons (.bytes _ _) .nil))
  case cend =>
    rintro ys nw ⟨tl, rfl, hfr, hda⟩
    rw [show nd.cs.take cvs.toArray.size = nd.cs by rw [List.size_toArray, hcl, List.take_length]] at hda
    intro D h tk F3 N3 ho
    have m1' : (a1, instObj 281 da) ∈ (D, lst ys) :: (tl ++ l) := List.mem_cons_of_mem _ (List.mem_append_right _ m1)
    have m2' := List.mem_cons_of_mem (D, lst ys) (List.mem_append_right tl m2)
    have m6' : (lp, listOf pvs.toArray n3) ∈ (D, lst ys) :: (tl ++ l) := List.mem_cons_of_mem _ (List.mem_append_right _ m6)
    k_steps
    unfold Hold
    refine CompSrc.ledger (its := pvs.toArray) rfl (by k_asm) (by k_asm) m6' (by rw [sizeLine_eq, List.size_toArray]; omega) (fun g => compRest_ind (fun i ys2 nw => ∃ tl2, nw = tl2 ++ ((D, lst ys) :: (tl ++ l)) ∧ Fresh tl2 ((D, lst ys) :: (tl ++ l)) ∧ DatAll tl2 ys2 ((nd.ts.take i).map f)) ⟨[], rfl, (fun _ h => nomatch h), .nil⟩ ?cstep2 ?cend2)
    case cstep2 =>
      rintro i ys2 nw hi ⟨tl2, rfl, hfr2, hda2⟩ v I oI C oC D2 m₂ h tk E' hP hC hv F4 N4 hoff hne
      obtain ⟨c, hc1, hc2⟩ := ht.get (i := i) (by simpa using hP)
      rw [take_succ hc1, List.map_append]
      have hsub2 : ∀ q ∈ l₀, q ∈ (I, oI) :: (C, oC) :: (D2, lst ys2) :: (tl2 ++ ((D, lst ys) :: (tl ++ l))) := fun q hq => by simp [hsub q hq]
      try k_fold
      k_steps
      unfold Hold
      exact told_end (by assumption) (by assumption) (by assumption) hoff m6' hfr2 hda2 (by assumption)
    case cend2 =>
      rintro ys2 nw ⟨tl2, rfl, hfr2, hda2⟩
      rw [show nd.ts.take pvs.toArray.size = nd.ts by rw [List.size_toArray, htl, List.take_length]] at hda2
      intro D2 h tk F4 N4 ho2
      k_steps
      obtain ⟨tl', a1, a2, a3⟩ := told_fin (by assumption) (by assumption) ho ho2 hfr hfr2 hda hda2
      exact ret _ tl' _ _ a1 a2 (by assumption) a3
end
end Mine
end
section
namespace Mine
section
variable {prog : Program} {w : World} {p : Program} {loose : List Str} {mean : ExcName → Option Value} {mg mb : Str → Option Value}
variable {dp un : Nat} {gd : Option (List Code)} {cn : Str} {cs : Scope} {a : Addr} {ccd : Value} {cl : List (Str × Addr)} {outer : List Env} {A₀ : Around} {base h₀ : Heap} {L : Addr} {m : Str → Option Value} {s : Shared} {Q E : Value → Shared → Prop} {l rest : Led}
def numE : Empty → List Int := fun _ => []
def num2 : Tr2 → List Int := numN (numN (numN numE))
def toldE : Empty → Dat := fun _ => .none
def told2 : Tr2 → Dat := toldN (toldN (toldN toldE))
theorem made2 : MadeSpec prog w p loose mean mg mb 2 60 77 (R2 w.params) :=
  madeS (deep := 2) (H := 40) (K := 33) (RC := R1 w.params) (by decide) (by decide) (by decide) (by decide) (fun h k => R1.mono h k)
    (madeS (deep := 1) (H := 20) (K := 11) (RC := R0 w.params) (by decide) (by decide) (by decide) (by decide) (fun h k => R0.mono h k) (made0 (RC := RE) fun h k => RE.mono h k))
theorem nums2 : NumSpec prog w p loose mean mg mb 30 21 (R2 w.params) num2 :=
  numbers (H := 20) (K := 9) (RC := R1 w.params) (by decide) (numbers (H := 10) (K := 3) (RC := R0 w.params) (by decide) (numbers (H := 0) (K := 0) (RC := RE) (by decide) (by
    intro dp un gd cn cs a ccd cl outer A₀ base h₀ L m s Q E l l₀ v c B F X N T hk hd hu hc; exact hc.elim)))
theorem fits2 {ls ns : Int} (hns : 1 ≤ ns) (hns' : ns ≤ 8) : FitSpec prog w p loose mean mg mb ls ns 30 (R2 w.params) (fit2 ns) :=
  fits (H := 20) (RC := R1 w.params) hns hns' (fits (H := 10) (RC := R0 w.params) hns hns' (fits (H := 0) (RC := RE) (fit := fitE) hns hns' (by
    intro dp un gd cn cs a ccd cl outer A₀ base h₀ L m s Q E l l₀ sz t1 t2 n v c B F X N T hk hd hu hz hc; exact hc.elim)))
theorem fnS {C : Type} {RC : Led → Value → C → Prop} {enc : C → List UInt8} {fit : C → Prop} {H np : Nat} {ls ns : Int} (hRC : ∀ {l l' v c}, RC l v c → (∀ q ∈ l, q ∈ l') → RC l' v c) (hls : 1 ≤ ls) (hls' : ls ≤ 8) (hns : 1 ≤ ns) (hns' : ns ≤ 8)
    (hS : FnSpec prog w p loose mean mg mb ls ns H np RC enc fit) : FnSpec prog w p loose mean mg mb ls ns (H + 20) (28 + 2 * np) (NdIn w.params RC) (encF ls ns false enc) (NFits ns fit) := by
  intro dp un gd cn cs a ccd cl outer A₀ base h₀ L m s Q E l rest l₀ x pc v c pcs out n tb B F X N T hk hd hu hW pk hne hP hlen hT hsub ret exc
  exact functionI @hS B F X N T hk hd hu hW pk hne hP hlen hls hls' hns hns' (NdIn.mono (RC := RC) hRC hT hsub) ret exc
theorem fn1 {ls ns : Int} (hls : 1 ≤ ls) (hls' : ls ≤ 8) (hns : 1 ≤ ns) (hns' : ns ≤ 8) : FnSpec prog w p loose mean mg mb ls ns 40 84 (R1 w.params) (enc1 ls ns) (fit1 ns) :=
  fnS (H := 20) (np := 28) (RC := R0 w.params) (fun h k => R0.mono h k) hls hls' hns hns' (fnS (H := 0) (np := 0) (RC := RE) (enc := encE) (fit := fitE) (fun h k => RE.mono h k) hls hls' hns hns' (by
    intro dp un gd cn cs a ccd cl outer A₀ base h₀ L m s Q E l rest l₀ x pc v c pcs out n tb B F X N T hk hd hu hW pk hne hP hlen hT; exact hT.elim))
theorem rdR {data : List UInt8} {ls ns : Int} (hlen : data.length ≤ 16000) (hls : 1 ≤ ls) (hls' : ls ≤ 8) (hns : 1 ≤ ns) (hns' : ns ≤ 8) : RdRoot prog w p loose mean mg mb data ls ns 120 3 (enc2 ls ns) (ok2 ns) (S2 w.params) :=
  rfunctionR (H := 80) (lev := 2) (RT := S1 w.params) hlen hls hls' hns hns' (fun h k => S1.mono h k) (fun c => encF_pos c)
    (rfunctionI (H := 40) (lev := 1) (RT := S0 w.params) hlen hls hls' hns hns' (fun h k => S0.mono h k) (fun c => encF_pos c)
      (rfunctionI (H := 0) (lev := 0) (RT := RE) (enc := encE) (ok := fitE) hlen hls hls' hns hns' (fun h k => RE.mono h k) (fun c => c.elim) (by
        intro dp un gd cn cs a ccd cl outer A₀ base h₀ L m s Q E l rest r rd at_ dep es c; exact c.elim)))
theorem toldS2 : ToldSpec prog w p loose mean mg mb 30 (S2 w.params) told2 :=
  told (H := 20) (RC := S1 w.params) (told (H := 10) (RC := S0 w.params) (told (H := 0) (RC := RE) (f := toldE) (by
    intro dp un gd cn cs a ccd cl outer A₀ base h₀ L m s Q E l l₀ v c B F X N T hk hd hu hc; exact hc.elim)))
theorem dDep_leaf {n : Nat} (c : Cst) : dDep (n + 1) (toldC c) := by
  intro d hd
  rcases List.mem_cons.mp hd with rfl | hd
  · cases n <;> trivial
  · rcases List.mem_cons.mp hd with rfl | hd
    · cases c <;> cases n <;> trivial
    · cases hd
theorem dDep_N {C : Type} {f : C → Dat} {n : Nat} (h : ∀ c, dDep (n + 1) (f c)) (x : Nd C) : dDep (n + 3) (toldN f x) := by
  intro d hd
  rcases List.mem_cons.mp hd with rfl | hd
  · intro d hd
    obtain ⟨c, _, rfl⟩ := List.mem_map.mp hd
    exact dDep_leaf c
  · rcases List.mem_cons.mp hd with rfl | hd
    · intro d hd
      obtain ⟨c, _, rfl⟩ := List.mem_map.mp hd
      exact h c
    · cases hd
theorem dDep2 (x : Tr2) : dDep 7 (told2 x) := dDep_N (fun x => dDep_N (fun x => dDep_N (fun c => c.elim) x) x) x
end
end Mine
end
section
namespace Mine
section
variable {prog : Program} {w : World} {p : Program} {loose : List Str} {mean : ExcName → Option Value} {mg mb : Str → Option Value}
variable {dp un : Nat} {gd : Option (List Code)} {cn : Str} {cs : Scope} {a : Addr} {ccd : Value} {cl : List (Str × Addr)} {outer : List Env} {A₀ : Around} {base h₀ : Heap} {L : Addr} {m : Str → Option Value} {s : Shared} {Q E : Value → Shared → Prop} {l rest : Led}
theorem filter_iff {b : Int} {ns : List Int} : List.filter (outOf b) ns = [] ↔ ∀ n ∈ ns, outOf b n = false := by
  rw [List.filter_eq_nil_iff]
  exact ⟨fun h n hn => by simpa using h n hn, fun h n hn => by simp [h n hn]⟩
theorem num2_fits {b ns : Int} (hb : b = halfOf ns) (x : Tr2) : (∀ n ∈ num2 x, outOf b n = false) ↔ fit2 ns x :=
  fits_iff hb (fun x => fits_iff hb (fun x => fits_iff hb (fun c => c.elim) x) x) x
theorem filter_nil {b ns : Int} {x : Tr2} (hb : b = halfOf ns) (h : fit2 ns x) : List.filter (outOf b) (num2 x) = [] := filter_iff.mpr ((num2_fits hb x).mpr h)
theorem filter_not {b ns : Int} {x : Tr2} (hb : b = halfOf ns) (h : ¬ fit2 ns x) : ¬ List.filter (outOf b) (num2 x) = [] := fun e => h ((num2_fits hb x).mp (filter_iff.mp e))
theorem dat_rc {h₀ h : Heap} {L : Addr} {l : Led} (N : News h₀ L h l) {v v' : Value} {n : Nat} {ds : List Dat} (h1 : DatIn l v (.tuple ds)) (h2 : DatIn l v' (.tuple ds)) (hd : dDep (n + 1) (.tuple ds)) :
    ∃ a a', v = .ref a ∧ v' = .ref a' ∧ ∀ (A : Around) (s : Shared), s.heap = h → A.units + (n + 1) < cLine → SeqAt.RcAt A s (.ref a) (.ref a') true := by
  cases h1
  rename_i a vs k m1 r1
  cases h2
  rename_i a' vs' k' m2 r2
  refine ⟨a, a', rfl, rfl, fun A s hs hu => ?_⟩
  subst hs
  have e1 := datAll_len r1
  have e2 := datAll_len r2
  have h := SeqAt.RcAt.tuples (A := A) (e := fun _ => true) (News.isTup N m1) (News.isTup N m2) (by omega) (fun j h1 h2 => by
    rw [List.size_toArray] at h1 h2
    exact dat_eq N n (datAll_get r1 j h1 (by omega)) (datAll_get r2 j h2 (by omega)) (hd _ (List.getElem_mem _)) _ (by show A.units + 1 + n < cLine; omega))
  have ez : ((List.range (min vs.toArray.size vs'.toArray.size)).all (fun _ => true) && vs.toArray.size == vs'.toArray.size) = true := by
    rw [all_true, List.size_toArray, List.size_toArray, e1, e2]; simp
  rw [ez] at h
  exact h
end
end Mine
end
section
namespace Mine
open PySem PySem.Calls PyProof.Rows PyProof.V PySem.Spec
section
variable {prog : Program} {w : World} {A₀ : Around} {E : Value → Shared → Prop} {s' : Shared} {h₀ h : Heap} {outer : List Env} {L a e : Addr} {m : Str → Option Value} {name : Str} {scope : Scope} {cd : Value} {cl : List (Str × Addr)}
  {b₀ : Stmt} {suite : List Stmt} {pos np : Pos} {rest : List ExceptHandler} {Q : Flow → Shared → Prop} {news : List (Addr × Obj)} {KF : Frag}
  {p : Program} {loose : List Str} {mean : ExcName → Option Value} {mg mb : Str → Option Value} {x : Str}
theorem caught_bad (K : Below A₀ h₀ outer h₀) (F : Fr h₀ L h m) (hsm : h.UpToSlots s'.heap) (R : RaisedN h₀ (envX name scope L a cd cl :: outer) e (.ref 53) news s'.heap)
    (X : KF.In h₀) (hB : BadIn KF) (T : TopRead p loose mg mb h₀) (ex : nsIn KF mainGlobals x = some (some (.ref 53)))
    (k : ∀ h', Fr h₀ L h' m → News h₀ L h' news →
      wpAny (model prog w) ((A₀.deeper (envX name scope L a cd cl)).mark (some (.ref e))) (execs (b₀ :: suite) (envX name scope L a cd cl)) Q (fun _ _ => False) { s' with heap := h' })
    (hk : scope.kind = .function := by rfl) (hx : (envX name scope L a cd cl).kindOf x = some .globalImplicit := by rfl) (hd : (x == ("__debug__" : Str)) = false := by decide) :
    wpAny (model prog w) (A₀.deeper (envX name scope L a cd cl)) (noteFrame (.ref e) (envX name scope L a cd cl))
      (fun _ s₂ => wpAny (model prog w) (A₀.deeper (envX name scope L a cd cl)) (setFlight (.ref e) none) (fun _ s₃ =>
        wpAny (model prog w) (A₀.deeper (envX name scope L a cd cl)) (handleBy (.ref e) (envX name scope L a cd cl) (.ExceptHandler (some (.Name x np)) none (b₀ :: suite) pos :: rest)) Q E s₃) E s₂) E s' := by
  obtain ⟨B, a0, hBs, hl, hfl⟩ := R
  have hL : B.get? L = none := by
    obtain ⟨_, ⟨L', _, hf, hn', _⟩, _⟩ := hfl.2.2.1
    obtain rfl : L = L' := Option.some.inj hf
    exact hn'
  refine wpAny_looks_onW (Around.frames_deeper K.stack) rfl hfl fun h₄ hheld₄ hsm₄ => ?_
  refine wpAny_landsW hheld₄ fun h₅ hheld hsm₅' => ?_
  have hsm₅ := hsm₄.trans hsm₅'
  have hheld' := flyingW_base hBs hheld
  have F₅ := F.of_stays hheld'.1 (hsm.trans hsm₅)
  obtain ⟨ob, hob, hobc⟩ := hheld'.there
  refine wpAny_handleBy_cons (codeAny_handlers_test (nameX_K F₅ X T ex ?_ hk hx hd)) (by intro q; cases q)
  have hC := F₅.keep _ _ (X _ _ hB.cls)
  refine wpAny_excMatches_sub_self hC hob hobc (by decide) (codeAny_handlers_suite ?_)
  refine lands_againW hheld fun h₆ hfl₆ hsm₆ => ?_
  have F₆ := F.of_stays (flyingW_base hBs hfl₆).1 ((hsm.trans hsm₅).trans hsm₆)
  exact wpAny_mono (k h₆ F₆ fun q hq => ⟨hfl₆.1 _ _ (hl q hq).1, (fun z => by have := (hl q hq).1; rw [z, hL] at this; cases this), (hl q hq).2⟩) (fun _ _ x => x) fun _ _ x => x.elim
end
end Mine
end
section
theorem Mine.sayClaw : True := by
  k_with_none
  (k_with "M:ne" => first | assumption | omega)
  (k_with "M:all" => first | assumption | exact List.forall_mem_nil _ | (refine' Mine.ne_cons ?wa ?wb; (case wa => k_extra "M:ne"); (case wb => k_all)) | (refine' tbn_neAll ?wkah; (case wkah => k_extra "M:conj")))
  (k_with "M:upd" => first | (refine' Upd.head ?wa; (case wa => k_all)) | (refine' Mine.upd_tail ?wa ?wb; (case wa => k_extra "M:ne"); (case wb => k_upd)))
  (k_with "M:conj" => first | assumption | (refine' And.right ?_; assumption) | (refine' And.right (And.right ?_); assumption) | (refine' And.right (And.right (And.right ?_)); assumption) | (refine' And.right (And.right (And.right (And.right ?_))); assumption) | (refine' And.right (And.right (And.right (And.right (And.right ?_)))); assumption))
  (k_with "M:mem" => first | assumption | exact List.mem_cons_self | (refine' List.mem_cons_of_mem _ ?_; k_extra "M:mem"))
  (k_with "M:in" => first | assumption | exact Frag.In.keeps (by k_asm) (Fr.keep (by k_asm)))
  (k_with "M:news" => k_dflt k_mem)
  (k_with "M:enter" => (refine wpAny_call ?_; k_dflt ktr_enter))
  (k_with "M:enterC" => (refine wpAny_call ?_; k_dflt (refine' code_defC ?wk1 ?wk2 ?wk3 ?wk4 ?wk5 ?wkA ?kF ?kK ?wk6 ?wk7 ?wk8 ?wk9 ?kB ?wkD ?_ ?wc2 ?wc3 ?wc4; (case wkA => exact rfl); (case kF => exact rfl); (case kK => assumption); (case wk1 => k_asm); (case wk2 => k_asm); (case wk3 => k_asm); (case wk4 => k_asm); (case wk5 => k_asm); (case wk6 => k_is); (case wk7 => k_is); (case wk8 => ktr_room); (case wk9 => first | exact BindsTo.of_eq rfl | exact binds_K (by k_in) rfl (by k_is) rfl rfl rfl | fail "k_enter: no rule for these arguments"); (case kB => exact rfl); (case wkD => decide +kernel); (case wc2 => exact rfl); (case wc3 => exact rfl); (case wc4 => exact rfl); k_whole; intro wg' wL' wh' wtk' wcells' wFG' wF' wN' wY' wB' wX' wT' wl1; (try k_lt wl1); k_cells wY'; (try simp only [List.cons_append, List.nil_append] at wN'); (try dsimp only); (try k_lift wB'); (try k_fold))))
  (k_with "M:base" => ((case kB => k_asm); (case kF => k_asm); (case kX => k_asm); (case kN => k_asm); (case kT => k_asm); (case kK => first | exact rfl | assumption); (case kd => ktr_room); (case ku => ktr_units)))
  (k_with "M:pick" => first | exact Mine.Pick.head | (apply Mine.Pick.tail; k_extra "M:pick"))
  (k_with "M:room" => ktr_room)
  (k_with "call builtin:list.append" => (k_here; (with_reducible show wpAny _ _ (call (Value.builtin _) [Value.ref _, _]) _ _ _); k_dflt (refine' append_K ?wk1 ?wk2 ?wk3 ?_ ?wz; (case wk1 => k_asm); (case wk2 => k_asm); (case wk3 => k_upd); (case wz => first | size_fits | ((try simp only [List.size_toArray, sizeLine_eq]); omega)); k_whole); intro wh' wF' wN'; (try simp only [List.push_toArray] at wN'); (try k_sweep)))
  (k_with "M:enterD" => (refine wpAny_call ?_; k_dflt (refine' code_def ?wk1 ?wk2 ?wk3 ?wk4 ?wk5 ?wkA ?kF ?kK ?wk6 ?wk7 ?wk8 ?wk9 ?kB ?_ ?wc2 ?wc3 ?wc4 ?wc5; (case wkA => exact rfl); (case kF => exact rfl); (case kK => assumption); (case wk1 => k_asm); (case wk2 => k_asm); (case wk3 => k_asm); (case wk4 => k_asm); (case wk5 => k_asm); (case wk6 => k_is); (case wk7 => k_is); (case wk8 => ktr_room); (case wk9 => first | exact BindsTo.of_eq rfl | exact binds_K (by k_in) rfl (by k_is) rfl rfl rfl | fail "enterD: no rule for these arguments"); (case wc5 => decide); (case kB => exact locs rfl); (case wc2 => exact rfl); (case wc3 => exact rfl); (case wc4 => exact rfl); k_whole; intro wg' wL' wh' wFG' wF' wN' wB' wX' wT'; (try dsimp only); (try k_fold))))
  (k_with "M:all" => first | assumption | exact List.forall_mem_nil _ | (refine' Mine.ne_cons ?wa ?wb; (case wa => k_extra "M:ne"); (case wb => k_all)) | (refine' Mine.off1_ne ?wkah; (case wkah => k_extra "M:conj")))
  (k_with "call ref" => (k_here; (with_reducible show wpAny _ _ (call (Value.ref 410) _) _ _ _); k_dflt (refine' Mine.poured ?kB ?kF ?kX ?kN ?kT ?kK ?kd ?ku ?wkp ?wkc ?wkn ?wki ?wkl ?wk0 ?wk1 ?wk2 ?wk3 ?_; k_extra "M:base"; (case wkp => k_extra "M:pick"); (case wkc => k_mem); (case wkn => k_all); (case wki => assumption); (case wkl => first | assumption | omega); (case wk0 => first | assumption | omega); (case wk1 => first | assumption | omega); (case wk2 => omega); (case wk3 => omega); k_whole); intro wv' wt' wh' wtk' wt2' whlo' whhi' wF' wN'; (try k_fold)))
  (k_with "CompSrcT" => refine Mine.unhold ?_)
  (k_with "CompEnd" => refine Mine.unhold ?_)
  (k_with "exec Try" => ((with_reducible show wpAny _ _ (exec (Stmt.Try _ (_ :: _) _ [] _) _) _ _ _); refine wpAny_Try_except ?_))
  (k_with "eval ListComp" => (k_here; k_dflt (refine LCt.ListComp_T (F₀ := by k_asm) (by with_unfolding_all rfl) (by decide) (by rfl) (by decide) (by rfl) ?_)))
  (k_with "exec Assign cons ListComp" => (k_here; k_dflt (refine LCt.Assign_ListComp_T (F₀ := by k_asm) (by rfl) (by with_unfolding_all rfl) (by with_unfolding_all rfl) (by decide) (by rfl) (by decide) (by rfl) (by rfl) (by rfl) ?_)))
  (k_with "call ref" => (k_here; (with_reducible show wpAny _ _ (call (Value.ref 422) _) _ _ _); refine Mine.unhold ?_))
  (k_with "call ref" => (k_here; (with_reducible show wpAny _ _ (call (Value.ref 432) _) _ _ _); refine Mine.unhold ?_))
  (k_with "call ref" => (k_here; (with_reducible show wpAny _ _ (call (Value.ref 216) _) _ _ _); refine Mine.unhold ?_))
  (k_with "call ref" => (k_here; (with_reducible show wpAny _ _ (call (Value.ref 222) _) _ _ _); refine Mine.unhold ?_))
  (k_with "call ref" => (k_here; (with_reducible show wpAny _ _ (call (Value.ref 403) _) _ _ _); refine Mine.unhold ?_))
  (k_with "call ref" => (k_here; (with_reducible show wpAny _ _ (call (Value.ref 427) _) _ _ _); refine Mine.unhold ?_))
  (k_with "compareOp Eq ref ref" => ((with_reducible rename DatIn _ _ _ => whd9); clear whd9; refine Mine.unhold ?_))
  trivial
namespace Mine
section
variable {prog : Program} {w : World} {p : Program} {loose : List Str} {mean : ExcName → Option Value} {mg mb : Str → Option Value}
variable {dp un : Nat} {gd : Option (List Code)} {cn : Str} {cs : Scope} {a : Addr} {ccd : Value} {cl : List (Str × Addr)} {outer : List Env} {A₀ : Around} {base h₀ : Heap} {L : Addr} {m : Str → Option Value} {s : Shared} {Q E : Value → Shared → Prop} {l rest : Led}
open PyProof.Rows.LCg PyProof.Rows.LCt
theorem lawIt.tw5215317961106720768 : True := trivial
theorem lawIt.tw8857667404490856608 : True := trivial
theorem lawIt.tw5709367430082796896 : True := trivial
theorem lawIt.tw12143252625296737632 : True := trivial
theorem lawIt.tw344015197279382880 : True := trivial
theorem lawIt.tw14328398842481405504 : True := trivial
theorem lawIt.tw14175588527452101280 : True := trivial
theorem lawIt.tw16920541581610312544 : True := trivial
theorem lawIt.tw2688633799628184512 : True := trivial
theorem lawIt.tw11560723057707924448 : True := trivial
theorem lawIt.tw10389827753547586561 : True := trivial
theorem lawIt.tw8328380500876804097 : True := trivial
theorem lawIt.tw9635306878765537505 : True := trivial
theorem lawIt.tw7575075953958011105 : True := trivial
theorem lawIt.tw1199885310123378945 : True := trivial
theorem lawIt.tw4442825156783068417 : True := trivial
theorem lawIt.tw15094006350065257761 : True := trivial
theorem lawIt.tw3943005648082965825 : True := trivial
theorem lawIt.tw8300369088142429505 : True := trivial
theorem lawIt.tw4742616704349873569 : True := trivial
theorem lawIt.tw8535656098242440705 : True := trivial
theorem lawIt.tw16793369908526728737 : True := trivial
theorem lawIt.tw14650574232077073153 : True := trivial
theorem lawIt.tw17024232662922233665 : True := trivial
theorem lawIt.tw15964975318016315201 : True := trivial
theorem lawIt.tw10056871782405561185 : True := trivial
theorem lawIt.tw8140584958742781921 : True := trivial
theorem lawIt.tw12795152427100760130 : True := trivial
theorem lawIt.tw4544652659128630498 : True := trivial
theorem lawIt.tw11221573157111803266 : True := trivial
theorem lawIt.tw12414524877306680770 : True := trivial
theorem lawIt.tw13183114239753520610 : True := trivial
theorem lawIt.tw8424957881608096322 : True := trivial
theorem lawIt.tw2370926005021384258 : True := trivial
theorem lawIt.tw18135445367239138914 : True := trivial
theorem lawIt.tw8450720802385849954 : True := trivial
theorem lawIt.tw15727446604214916802 : True := trivial
theorem lawIt.tw2066348471381275458 : True := trivial
theorem lawIt.tw6854092795669459971 : True := trivial
theorem lawIt.tw16130095421968993283 : True := trivial
theorem lawIt.tw17083114472933399683 : True := trivial
theorem lawIt.tw11940963776208610435 : True := trivial
theorem lawIt.tw9251941611755824291 : True := trivial
theorem lawIt.tw7880162240049666275 : True := trivial
theorem lawIt.tw353556293950222563 : True := trivial
theorem lawIt.tw13951417955127008579 : True := trivial
theorem lawIt.tw4673894110336203139 : True := trivial
theorem lawIt.tw4652631058119177635 : True := trivial
theorem lawIt.tw15813758441113621955 : True := trivial
theorem lawIt.tw15539262271762685379 : True := trivial
theorem lawIt.tw8985354814183187011 : True := trivial
theorem lawIt.tw2221501643634995843 : True := trivial
theorem lawIt.tw17212875384738036387 : True := trivial
theorem lawIt.tw14635814399597012643 : True := trivial
theorem lawIt.tw6759970259298219683 : True := trivial
theorem lawIt.tw4893693723883396803 : True := trivial
theorem lawIt.tw1893129076765337379 : True := trivial
theorem lawIt.tw18316853915743321891 : True := trivial
theorem lawIt.tw6178405378988118851 : True := trivial
theorem lawIt.tw17305522645025760099 : True := trivial
theorem lawIt.tw11015567734709064579 : True := trivial
theorem lawIt.tw14189904611793545091 : True := trivial
theorem lawIt.tw16863487790329458595 : True := trivial
theorem lawIt.tw4701483918711216228 : True := trivial
theorem lawIt.tw1567927661814258788 : True := trivial
theorem lawIt.tw8372067674700916068 : True := trivial
theorem lawIt.tw6538818777285742980 : True := trivial
theorem lawIt.tw8309830179488962980 : True := trivial
theorem lawIt.tw15468600490156448196 : True := trivial
theorem lawIt.tw11230062095480314372 : True := trivial
theorem lawIt.tw10114643818700630532 : True := trivial
theorem lawIt.tw9477069834447240804 : True := trivial
theorem lawIt.tw15349552166747024036 : True := trivial
theorem lawIt.tw7722827798451010276 : True := trivial
theorem lawIt.tw1711450959657447172 : True := trivial
theorem lawIt.tw5837589189691001604 : True := trivial
theorem lawIt.tw17669067329769374532 : True := trivial
theorem lawIt.tw9919770073136107428 : True := trivial
theorem lawIt.tw3615027251743634372 : True := trivial
theorem lawIt.tw363915943283922949 : True := trivial
theorem lawIt.tw11040877982989175877 : True := trivial
theorem lawIt.tw16319069086210864229 : True := trivial
theorem lawIt.tw10773326920811079813 : True := trivial
theorem lawIt.tw11928596179370979493 : True := trivial
theorem lawIt.tw2209708124702309541 : True := trivial
theorem lawIt.tw16421893476585480421 : True := trivial
theorem lawIt.tw10588302203930946853 : True := trivial
theorem lawIt.tw901357740325083493 : True := trivial
theorem lawIt.tw8763690036502408709 : True := trivial
theorem lawIt.tw4883346003636715045 : True := trivial
theorem lawIt.tw15453482461119211141 : True := trivial
theorem lawIt.tw7190571935044255493 : True := trivial
theorem lawIt.tw102239605704811397 : True := trivial
theorem lawIt.tw12616446877226785701 : True := trivial
theorem lawIt.tw18054000872889112517 : True := trivial
theorem lawIt.tw2149544774902273989 : True := trivial
theorem lawIt.tw12181202036962275301 : True := trivial
theorem lawIt.tw13010016752581327974 : True := trivial
theorem lawIt.tw473219912442333318 : True := trivial
theorem lawIt.tw18310398303792814310 : True := trivial
theorem lawIt.tw11701709297573947654 : True := trivial
theorem lawIt.tw1305026583975159046 : True := trivial
theorem lawIt.tw7591844118656897318 : True := trivial
theorem lawIt.tw8539911534788979046 : True := trivial
theorem lawIt.tw2867524295022041510 : True := trivial
theorem lawIt.tw7469807185770699206 : True := trivial
theorem lawIt.tw6056270242777563590 : True := trivial
theorem lawIt.tw2102538478665647558 : True := trivial
theorem lawIt.tw13698984485936223718 : True := trivial
theorem lawIt.tw12418039925972279814 : True := trivial
theorem lawIt.tw18127118094594657862 : True := trivial
theorem lawIt.tw8716843549741604454 : True := trivial
theorem lawIt.tw16833011402434890374 : True := trivial
theorem lawIt.tw3634320690974232230 : True := trivial
theorem lawIt.tw17584718206116980550 : True := trivial
theorem lawIt.tw15643310597959687046 : True := trivial
theorem lawIt.tw70769389757769606 : True := trivial
theorem lawIt.tw15480774131254097830 : True := trivial
theorem lawIt.tw4047933861647207431 : True := trivial
theorem lawIt.tw9312524309818019879 : True := trivial
theorem lawIt.tw3010075861814742343 : True := trivial
theorem lawIt.tw16805758378267498823 : True := trivial
theorem lawIt.tw6693928097249337703 : True := trivial
theorem lawIt.tw4487813117105619335 : True := trivial
theorem lawIt.tw16884563804341360039 : True := trivial
theorem lawIt.tw13862216983246225895 : True := trivial
theorem lawIt.tw17480920533465376231 : True := trivial
theorem lawIt.tw17332083680339043847 : True := trivial
theorem lawIt.tw17335889038429266535 : True := trivial
theorem lawIt.tw14187823142538504839 : True := trivial
theorem lawIt.tw3449553348404509415 : True := trivial
theorem lawIt.tw10994460849889719143 : True := trivial
theorem lawIt.tw6962347931995272039 : True := trivial
theorem lawIt.tw13282954415907112935 : True := trivial
theorem lawIt.tw2088687382766886887 : True := trivial
theorem lawIt.tw13282591481017011240 : True := trivial
theorem lawIt.tw14687134246886294568 : True := trivial
theorem lawIt.tw1059661253004298312 : True := trivial
theorem lawIt.tw18151598789670676648 : True := trivial
theorem lawIt.tw18426132195216743656 : True := trivial
theorem lawIt.tw15633537615654330664 : True := trivial
theorem lawIt.tw8793858895499769288 : True := trivial
theorem lawIt.tw2931180219853732456 : True := trivial
theorem lawIt.tw5063995385556364968 : True := trivial
theorem lawIt.tw1389729074968016584 : True := trivial
theorem lawIt.tw16713129247663393544 : True := trivial
theorem lawIt.tw6054250888604295976 : True := trivial
theorem lawIt.tw13205576046174409544 : True := trivial
theorem lawIt.tw18262933204550212424 : True := trivial
theorem lawIt.tw16428497202388578216 : True := trivial
theorem lawIt.tw8950530907158245288 : True := trivial
theorem lawIt.tw1939036644603094984 : True := trivial
theorem lawIt.tw13850835980140634056 : True := trivial
theorem lawIt.tw5884450390495926281 : True := trivial
theorem lawIt.tw6738205131314668553 : True := trivial
theorem lawIt.tw13910172344266095689 : True := trivial
theorem lawIt.tw8522437259632683113 : True := trivial
theorem lawIt.tw3190708214519094409 : True := trivial
theorem lawIt.tw6575747702034721993 : True := trivial
theorem lawIt.tw7919143856394814665 : True := trivial
theorem lawIt.tw1961894060713377353 : True := trivial
theorem lawIt.tw5084758153878700617 : True := trivial
theorem lawIt.tw12907472558003089001 : True := trivial
theorem lawIt.tw2228147339893105289 : True := trivial
theorem lawIt.tw765060838214733481 : True := trivial
theorem lawIt.tw8002815491294679721 : True := trivial
theorem lawIt.tw1597223751640951529 : True := trivial
theorem lawIt.tw8880874689218326313 : True := trivial
theorem lawIt.tw14994527934330586921 : True := trivial
theorem lawIt.tw13210455813275930409 : True := trivial
theorem lawIt.tw182237802805651241 : True := trivial
theorem lawIt.tw9081205502830070601 : True := trivial
theorem lawIt.tw701171360706487113 : True := trivial
theorem lawIt.tw8776425811366247241 : True := trivial
theorem lawIt.tw45699080440111977 : True := trivial
theorem lawIt.tw13548683145886000073 : True := trivial
theorem lawIt.tw5011517650294937738 : True := trivial
theorem lawIt.tw10693010075671182538 : True := trivial
theorem lawIt.tw14119125755284165866 : True := trivial
theorem lawIt.tw8662708650969382186 : True := trivial
theorem lawIt.tw17590603486156023146 : True := trivial
theorem lawIt.tw17755732552468486538 : True := trivial
theorem lawIt.tw11196320009648712138 : True := trivial
theorem lawIt.tw4352857344059074186 : True := trivial
theorem lawIt.tw17554032886143506122 : True := trivial
theorem lawIt.tw3439829668580535018 : True := trivial
theorem lawIt.tw3152711367792849738 : True := trivial
theorem lawIt.tw3158494153331998570 : True := trivial
theorem lawIt.tw13992748612947563370 : True := trivial
theorem lawIt.tw10990378087051025322 : True := trivial
theorem lawIt.tw15420538451575499754 : True := trivial
theorem lawIt.tw3997425331094101131 : True := trivial
theorem lawIt.tw17022567634600109195 : True := trivial
theorem lawIt.tw11592992178277157035 : True := trivial
theorem lawIt.tw177059922137899179 : True := trivial
theorem lawIt.tw10100227837361643787 : True := trivial
theorem lawIt.tw11734162578696344907 : True := trivial
theorem lawIt.tw4842605438300521835 : True := trivial
theorem lawIt.tw16991300548940166507 : True := trivial
theorem lawIt.tw7423387720812587403 : True := trivial
theorem lawIt.tw2350444565841580459 : True := trivial
theorem lawIt.tw4366601133515881963 : True := trivial
theorem lawIt.tw17863303289805633003 : True := trivial
theorem lawIt.tw11649761862039584267 : True := trivial
theorem lawIt.tw12205110841747204619 : True := trivial
theorem lawIt.tw13463038488911934251 : True := trivial
theorem lawIt.tw11636720349016299307 : True := trivial
theorem lawIt.tw5233351043275580203 : True := trivial
theorem lawIt.tw16493786327809241931 : True := trivial
theorem lawIt.tw11590182447881670539 : True := trivial
theorem lawIt.tw452389540929995788 : True := trivial
theorem lawIt.tw15556196724656252940 : True := trivial
theorem lawIt.tw12258452354951795820 : True := trivial
theorem lawIt.tw173887543452114060 : True := trivial
theorem lawIt.tw6985914476144168108 : True := trivial
theorem lawIt.tw9366114892134837484 : True := trivial
theorem lawIt.tw6165748050173288748 : True := trivial
theorem lawIt.tw6993128751582326060 : True := trivial
theorem lawIt.tw13967129469035232588 : True := trivial
theorem lawIt.tw6177849503196579180 : True := trivial
theorem lawIt.tw13929907870515692908 : True := trivial
theorem lawIt.tw17191243015011030380 : True := trivial
theorem lawIt.tw6657222218341644748 : True := trivial
theorem lawIt.tw9994431754110561868 : True := trivial
theorem lawIt.tw6780885504184523500 : True := trivial
theorem lawIt.tw15870811487048492844 : True := trivial
theorem lawIt.tw3284964699863194444 : True := trivial
theorem lawIt.tw18258211467329641324 : True := trivial
theorem lawIt.tw11002655831502667853 : True := trivial
theorem lawIt.tw2752448305833974957 : True := trivial
theorem lawIt.tw8659303184925868269 : True := trivial
theorem lawIt.tw369215539186904365 : True := trivial
theorem lawIt.tw2487484528627714381 : True := trivial
theorem lawIt.tw15528491947188501837 : True := trivial
theorem lawIt.tw10733660619938855309 : True := trivial
theorem lawIt.tw4805525961931377101 : True := trivial
theorem lawIt.tw5070815687338059309 : True := trivial
theorem lawIt.tw7696435256944775821 : True := trivial
theorem lawIt.tw5599716409279805069 : True := trivial
theorem lawIt.tw14925065623973517005 : True := trivial
theorem lawIt.tw3081257367695210221 : True := trivial
theorem lawIt.tw3580564848246637293 : True := trivial
theorem lawIt.tw13690984118476007149 : True := trivial
theorem lawIt.tw8260779341319857933 : True := trivial
theorem lawIt.tw11631040654264274797 : True := trivial
theorem lawIt.tw3254723322496095213 : True := trivial
theorem lawIt.tw5945362174218287342 : True := trivial
theorem lawIt.tw5972910680969040142 : True := trivial
theorem lawIt.tw150198838077715822 : True := trivial
theorem lawIt.tw17835222779902695854 : True := trivial
theorem lawIt.tw14263134644789005742 : True := trivial
theorem lawIt.tw4688007261838922158 : True := trivial
theorem lawIt.tw3196732745757283758 : True := trivial
theorem lawIt.tw473842677217021422 : True := trivial
theorem lawIt.tw8068870385923499534 : True := trivial
theorem lawIt.tw10765758569123014158 : True := trivial
theorem lawIt.tw8203565504410220046 : True := trivial
theorem lawIt.tw8086158572382458510 : True := trivial
theorem lawIt.tw9534662390937052846 : True := trivial
theorem lawIt.tw10767949784103572206 : True := trivial
theorem lawIt.tw11276220146927791950 : True := trivial
theorem lawIt.tw8190979600366290798 : True := trivial
theorem lawIt.tw16815777076910799726 : True := trivial
theorem lawIt.tw45778811221643279 : True := trivial
theorem lawIt.tw4585604171208992879 : True := trivial
theorem lawIt.tw2627081977456614511 : True := trivial
theorem lawIt.tw11910736740814093519 : True := trivial
theorem lawIt.tw2161310837728888079 : True := trivial
theorem lawIt.tw6042751791646337327 : True := trivial
theorem lawIt.tw6888445303185697103 : True := trivial
theorem lawIt.tw17223344443164894543 : True := trivial
theorem lawIt.tw5446088784194714191 : True := trivial
theorem lawIt.tw11537204684345489039 : True := trivial
theorem lawIt.tw17590095701907523215 : True := trivial
theorem lawIt.tw3748774686088608527 : True := trivial
theorem lawIt.tw2483982362406331279 : True := trivial
theorem lawIt.tw9918613567985507215 : True := trivial
theorem lawIt.tw5438733795188755536 : True := trivial
theorem lawIt.tw3536730912634334288 : True := trivial
theorem lawIt.tw14865010769340898416 : True := trivial
theorem lawIt.tw5944148781143653520 : True := trivial
theorem lawIt.tw10776374846809708720 : True := trivial
theorem lawIt.tw15843057517159518608 : True := trivial
theorem lawIt.tw3521176831815658928 : True := trivial
theorem lawIt.tw6662665412615629456 : True := trivial
theorem lawIt.tw8835613192562280112 : True := trivial
theorem lawIt.tw11759505179760811728 : True := trivial
theorem lawIt.tw2914818948043965232 : True := trivial
theorem lawIt.tw4987567514209049392 : True := trivial
theorem lawIt.tw8172701210459757392 : True := trivial
theorem lawIt.tw461986846133248880 : True := trivial
theorem lawIt.tw222093164554027920 : True := trivial
theorem lawIt.tw17003979566927043472 : True := trivial
theorem lawIt.tw18260865938868078512 : True := trivial
theorem lawIt.tw13520508869922737136 : True := trivial
theorem lawIt.tw10183900251068523537 : True := trivial
theorem lawIt.tw9329227168640004145 : True := trivial
theorem lawIt.tw1912565388546365521 : True := trivial
theorem lawIt.tw607694615894229073 : True := trivial
theorem lawIt.tw10266726039528990833 : True := trivial
theorem lawIt.tw76547553682293905 : True := trivial
theorem lawIt.tw12765531496271430833 : True := trivial
theorem lawIt.tw8481994452773472497 : True := trivial
theorem lawIt.tw11727559055626478865 : True := trivial
theorem lawIt.tw12027797124544430481 : True := trivial
theorem lawIt.tw12368916364189223377 : True := trivial
theorem lawIt.tw99262594746056241 : True := trivial
theorem lawIt.tw12279953706962782769 : True := trivial
theorem lawIt.tw3907828635583735409 : True := trivial
theorem lawIt.tw10303434540720376465 : True := trivial
theorem lawIt.tw3641993178031251185 : True := trivial
theorem lawIt.tw6741074347053651793 : True := trivial
theorem lawIt.tw10446547533775321969 : True := trivial
theorem lawIt.tw14325254101674377073 : True := trivial
theorem lawIt.tw17474771479245669233 : True := trivial
theorem lawIt.tw10541394871588709233 : True := trivial
theorem lawIt.tw2767145054444525457 : True := trivial
theorem lawIt.tw16285495768814556081 : True := trivial
theorem lawIt.tw11781408007710198769 : True := trivial
theorem lawIt.tw13553260393627185137 : True := trivial
theorem lawIt.tw5819027114564793426 : True := trivial
theorem lawIt.tw15408372026380317938 : True := trivial
theorem lawIt.tw5379744221179138354 : True := trivial
theorem lawIt.tw4949242768843173170 : True := trivial
theorem lawIt.tw13732243052060078418 : True := trivial
theorem lawIt.tw9631723843182859666 : True := trivial
theorem lawIt.tw8626626310377084466 : True := trivial
theorem lawIt.tw16451077468506917522 : True := trivial
theorem lawIt.tw9656353325268419218 : True := trivial
theorem lawIt.tw11377779862843260562 : True := trivial
theorem lawIt.tw14284776573552884402 : True := trivial
theorem lawIt.tw10798108383301383890 : True := trivial
theorem lawIt.tw2948467607451416370 : True := trivial
theorem lawIt.tw8003679831854136306 : True := trivial
theorem lawIt.tw14829922989565283379 : True := trivial
theorem lawIt.tw901657442729696403 : True := trivial
theorem lawIt.tw9564218177407920307 : True := trivial
theorem lawIt.tw15941339962771890387 : True := trivial
theorem lawIt.tw16093056234907027699 : True := trivial
theorem lawIt.tw3483346654961940755 : True := trivial
theorem lawIt.tw8910832708246489427 : True := trivial
theorem lawIt.tw6999055455561011603 : True := trivial
theorem lawIt.tw7144066533540111827 : True := trivial
theorem lawIt.tw3985632976971582995 : True := trivial
theorem lawIt.tw16406625544126093875 : True := trivial
theorem lawIt.tw6521870692668640819 : True := trivial
theorem lawIt.tw8691526827552850579 : True := trivial
theorem lawIt.tw10214290218964455059 : True := trivial
theorem lawIt.tw10382088834359079603 : True := trivial
theorem lawIt.tw13149170586326815507 : True := trivial
theorem lawIt.tw18404576596594836339 : True := trivial
theorem lawIt.tw16931885185108616083 : True := trivial
theorem lawIt.tw17638776017240739795 : True := trivial
theorem lawIt.tw2552210971554613364 : True := trivial
theorem lawIt.tw16956936677705811124 : True := trivial
theorem lawIt.tw16328983623103203572 : True := trivial
theorem lawIt.tw11025947185281598740 : True := trivial
theorem lawIt.tw8689659579530473844 : True := trivial
theorem lawIt.tw18211509124783186388 : True := trivial
theorem lawIt.tw15763306495980951028 : True := trivial
theorem lawIt.tw18313336819049822740 : True := trivial
theorem lawIt.tw13876993620923733556 : True := trivial
theorem lawIt.tw12146914926522486356 : True := trivial
theorem lawIt.tw6258393930042708596 : True := trivial
theorem lawIt.tw10136021121111385844 : True := trivial
theorem lawIt.tw4218425354282368756 : True := trivial
theorem lawIt.tw15897517294195067668 : True := trivial
theorem lawIt.tw15149711313260215092 : True := trivial
theorem lawIt.tw5578288177630140244 : True := trivial
theorem lawIt.tw10792945533337496436 : True := trivial
theorem lawIt.tw11360741717962820500 : True := trivial
theorem lawIt.tw1174764452186127284 : True := trivial
theorem lawIt.tw10410466453157782452 : True := trivial
theorem lawIt.tw3393165065863195604 : True := trivial
theorem lawIt.tw11976888121450504180 : True := trivial
theorem lawIt.tw16500815083626634293 : True := trivial
theorem lawIt.tw16972731527732770869 : True := trivial
theorem lawIt.tw3100171155593919541 : True := trivial
theorem lawIt.tw4839603114985182293 : True := trivial
theorem lawIt.tw12039035483321385141 : True := trivial
theorem lawIt.tw11247210595789776181 : True := trivial
theorem lawIt.tw4878716168459681141 : True := trivial
theorem lawIt.tw337763832260473269 : True := trivial
theorem lawIt.tw375032981828694453 : True := trivial
theorem lawIt.tw2936607383983617557 : True := trivial
theorem lawIt.tw9961268934489291349 : True := trivial
theorem lawIt.tw5975963719379575413 : True := trivial
theorem lawIt.tw10868879968807579413 : True := trivial
theorem lawIt.tw1101166385012297525 : True := trivial
theorem lawIt.tw12863755268354927413 : True := trivial
theorem lawIt.tw10346534828411219765 : True := trivial
theorem lawIt.tw13749962567371990901 : True := trivial
theorem lawIt.tw11211150466561062805 : True := trivial
theorem lawIt.tw15351290594862764021 : True := trivial
theorem lawIt.tw4683208098473813014 : True := trivial
theorem lawIt.tw18256517475010022422 : True := trivial
theorem lawIt.tw11581725769067061366 : True := trivial
theorem lawIt.tw2946122625644665014 : True := trivial
theorem lawIt.tw3765074188044017878 : True := trivial
theorem lawIt.tw18406934740181538038 : True := trivial
theorem lawIt.tw11263335650038341942 : True := trivial
theorem lawIt.tw782965578882146710 : True := trivial
theorem lawIt.tw14536104881149211126 : True := trivial
theorem lawIt.tw13132748104160254550 : True := trivial
theorem lawIt.tw2370219537805150902 : True := trivial
theorem lawIt.tw13291642318528238294 : True := trivial
theorem lawIt.tw2454405100611147510 : True := trivial
theorem lawIt.tw6740306219112780694 : True := trivial
theorem lawIt.tw4872236595886001142 : True := trivial
theorem lawIt.tw6859994718623153239 : True := trivial
theorem lawIt.tw14683646415243831543 : True := trivial
theorem lawIt.tw15983844800698191095 : True := trivial
theorem lawIt.tw12363404726271841559 : True := trivial
theorem lawIt.tw4945186428345135415 : True := trivial
theorem lawIt.tw8912792592982017431 : True := trivial
theorem lawIt.tw3853282387839222295 : True := trivial
theorem lawIt.tw13866958616251462199 : True := trivial
theorem lawIt.tw12091081042006530647 : True := trivial
theorem lawIt.tw9119810501951066743 : True := trivial
theorem lawIt.tw8056435241358284471 : True := trivial
theorem lawIt.tw2092426906905540343 : True := trivial
theorem lawIt.tw5882375316830199607 : True := trivial
theorem lawIt.tw8373072979903571799 : True := trivial
theorem lawIt.tw10590410799523090263 : True := trivial
theorem lawIt.tw5261238157056168887 : True := trivial
theorem lawIt.tw5278413461058345911 : True := trivial
theorem lawIt.tw10796091963356799032 : True := trivial
theorem lawIt.tw5744739034215508088 : True := trivial
theorem lawIt.tw16406904085701633176 : True := trivial
theorem lawIt.tw17996603949960662200 : True := trivial
theorem lawIt.tw7846062561192795384 : True := trivial
theorem lawIt.tw12274193938786705656 : True := trivial
theorem lawIt.tw9459064949930169592 : True := trivial
theorem lawIt.tw8268594037537029528 : True := trivial
theorem lawIt.tw18329562854012127736 : True := trivial
theorem lawIt.tw12331943830726518264 : True := trivial
theorem lawIt.tw3201792864790605336 : True := trivial
theorem lawIt.tw5076996656646491928 : True := trivial
theorem lawIt.tw17169077861302412248 : True := trivial
theorem lawIt.tw8425133249836657721 : True := trivial
theorem lawIt.tw397580371516612761 : True := trivial
theorem lawIt.tw4029236777121892569 : True := trivial
theorem lawIt.tw7793252983259310393 : True := trivial
theorem lawIt.tw14507187239219232217 : True := trivial
theorem lawIt.tw4610160501701999129 : True := trivial
theorem lawIt.tw2559934484058664729 : True := trivial
theorem lawIt.tw14573750746708295449 : True := trivial
theorem lawIt.tw11636460921848250169 : True := trivial
theorem lawIt.tw13046409627124404025 : True := trivial
theorem lawIt.tw17277869702111821721 : True := trivial
theorem lawIt.tw8977764095851650009 : True := trivial
theorem lawIt.tw343299036255251514 : True := trivial
theorem lawIt.tw16047671399870606426 : True := trivial
theorem lawIt.tw16275531547499479162 : True := trivial
theorem lawIt.tw519512744664702138 : True := trivial
theorem lawIt.tw17260987319389554938 : True := trivial
theorem lawIt.tw8238788089779824986 : True := trivial
theorem lawIt.tw18249662304440633722 : True := trivial
theorem lawIt.tw369001742978763130 : True := trivial
theorem lawIt.tw12238142647022152154 : True := trivial
theorem lawIt.tw17361327910887799290 : True := trivial
theorem lawIt.tw2014476723309219354 : True := trivial
theorem lawIt.tw3425795175237517978 : True := trivial
theorem lawIt.tw9888500231850965722 : True := trivial
theorem lawIt.tw1641617431133000538 : True := trivial
theorem lawIt.tw10692206930212203386 : True := trivial
theorem lawIt.tw13998191964823892922 : True := trivial
theorem lawIt.tw544749667045086267 : True := trivial
theorem lawIt.tw17328731845030799451 : True := trivial
theorem lawIt.tw12300415700200479931 : True := trivial
theorem lawIt.tw13289362707212604635 : True := trivial
theorem lawIt.tw11047712695772625115 : True := trivial
theorem lawIt.tw17445168524207398235 : True := trivial
theorem lawIt.tw14059496152424048987 : True := trivial
theorem lawIt.tw13128795873063813467 : True := trivial
theorem lawIt.tw18069743254103889403 : True := trivial
theorem lawIt.tw10109112248859938331 : True := trivial
theorem lawIt.tw2092919013313439291 : True := trivial
theorem lawIt.tw3159774108941475419 : True := trivial
theorem lawIt.tw2895788020563709627 : True := trivial
theorem lawIt.tw13009885155948213179 : True := trivial
theorem lawIt.tw711352423648746459 : True := trivial
theorem lawIt.tw6521915774223830044 : True := trivial
theorem lawIt.tw13077385761195113532 : True := trivial
theorem lawIt.tw4257731511607791708 : True := trivial
theorem lawIt.tw17760045323543553148 : True := trivial
theorem lawIt.tw8074503983002333372 : True := trivial
theorem lawIt.tw4427276061817261276 : True := trivial
theorem lawIt.tw11706165263826085180 : True := trivial
theorem lawIt.tw10757074284913360220 : True := trivial
theorem lawIt.tw3372987532089679228 : True := trivial
theorem lawIt.tw8476332999626548636 : True := trivial
theorem lawIt.tw2206906070789926332 : True := trivial
theorem lawIt.tw4519994034092149180 : True := trivial
theorem lawIt.tw1720101320874227164 : True := trivial
theorem lawIt.tw818428757572260412 : True := trivial
theorem lawIt.tw2153448962082047772 : True := trivial
theorem lawIt.tw12356660215091795772 : True := trivial
theorem lawIt.tw1859252458016048988 : True := trivial
theorem lawIt.tw2937641887594168220 : True := trivial
theorem lawIt.tw6629915169920782332 : True := trivial
theorem lawIt.tw6849477124212360573 : True := trivial
theorem lawIt.tw16361878858385263997 : True := trivial
theorem lawIt.tw11317748991856204221 : True := trivial
theorem lawIt.tw10790665528353789373 : True := trivial
theorem lawIt.tw4540313466854633981 : True := trivial
theorem lawIt.tw15603085936153952797 : True := trivial
theorem lawIt.tw17040671494411038237 : True := trivial
theorem lawIt.tw15135215528612460061 : True := trivial
theorem lawIt.tw13761912255377607293 : True := trivial
theorem lawIt.tw13472261436159962749 : True := trivial
theorem lawIt.tw17286141342166906493 : True := trivial
theorem lawIt.tw10267477004225423069 : True := trivial
theorem lawIt.tw11098270301595551485 : True := trivial
theorem lawIt.tw6146668010047070013 : True := trivial
theorem lawIt.tw8059109265280807773 : True := trivial
theorem lawIt.tw15267584323816545117 : True := trivial
theorem lawIt.tw11991172050403307421 : True := trivial
theorem lawIt.tw14338082272603924445 : True := trivial
theorem lawIt.tw1175334129002736766 : True := trivial
theorem lawIt.tw7272590746699540606 : True := trivial
theorem lawIt.tw3866438241537492126 : True := trivial
theorem lawIt.tw15701984067823486110 : True := trivial
theorem lawIt.tw6154701131126920414 : True := trivial
theorem lawIt.tw11036871720104802590 : True := trivial
theorem lawIt.tw10350492672360659262 : True := trivial
theorem lawIt.tw10709439860225613150 : True := trivial
theorem lawIt.tw9851726887228723550 : True := trivial
theorem lawIt.tw15262499525537220158 : True := trivial
theorem lawIt.tw1235081247552981630 : True := trivial
theorem lawIt.tw4574959628877375230 : True := trivial
theorem lawIt.tw8066879149758480190 : True := trivial
theorem lawIt.tw15202283854827226046 : True := trivial
theorem lawIt.tw11204659517405947935 : True := trivial
theorem lawIt.tw206592212018339903 : True := trivial
theorem lawIt.tw12550433695542332479 : True := trivial
theorem lawIt.tw8477992432289766591 : True := trivial
theorem lawIt.tw4361873561415963903 : True := trivial
theorem lawIt.tw176156601247165759 : True := trivial
theorem lawIt.tw16251938145202188607 : True := trivial
theorem lawIt.tw4555782435226663263 : True := trivial
theorem lawIt.tw2396216516923689343 : True := trivial
theorem lawIt.tw5232052054224321919 : True := trivial
theorem lawIt.tw3629520251460790687 : True := trivial
theorem lawIt.tw10882851461129033119 : True := trivial
theorem lawIt.tw9146735834838817183 : True := trivial
theorem lawIt.tw15921934332134553215 : True := trivial
theorem lawIt.tw707164725200890623 : True := trivial
theorem lawIt.tw533566331931610911 : True := trivial
theorem lawIt.tw2319220416460294943 : True := trivial
theorem lawIt.tw2507095521543245663 : True := trivial
theorem lawIt.tw7903412297432507295 : True := trivial
theorem lawIt.tw7462533945701764031 : True := trivial
theorem lawIt.tw9848208291733260223 : True := trivial
theorem lawIt.tw14797196370857089983 : True := trivial
theorem lawIt.tw9791157025033220095 : True := trivial
theorem lawIt.tw13764520981862416908 : True := trivial
theorem lawIt.tw17807397695230171768 : True := trivial
set_option Elab.async true in
theorem lawIt : PySem.Challenge.rw_pq0679_01.Holds := by
  w_on; o_law; k_head; (case hw => w_witness2)
  intro w s₀ s₁ mg mb G Y fa o pm cd doc dV kV ho hd hcd hD hmg hg args vals as hpre hlay hrd hwl hlo
  have KX : (Mine.hd.heap_1 w.params).In _ := kIn_of Y
  clear Y
  k_behind G ho hd hcd hD hmg hpre hlay hrd hwl hlo cd
  all_goals try k_fold
  k_steps
  unfold Hold
  k_here
  refine' made2 ?kB ?kF ?kX ?kN ?kT ?kK ?kd ?ku ?kp ?kc ?kn ?ki ?kl ?k0 ?k1 ?_
  k_extra "M:base"
  case kp => k_extra "M:pick"
  case kc => k_mem
  case kn => k_all
  case ki => assumption
  case kl => omega
  case k0 => omega
  case k1 => omega
  rename _ < (2 : Int) => e2
  rename _ < (4 : Int) => e4
  obtain ⟨ls, hls, a1, a2⟩ := menu48 e2
  obtain ⟨nn, hnn, b1, b2⟩ := menu1248 e4
  intro v c tl turn' h' tk' t' hc' hfr' hlo' hhi' F' N'
  rw [hls, hnn] at N'
  have N1 : News s₁.heap _ _ _ := law_led N'
  have F1 : Fr s₁.heap _ _ _ := F'
  have hsz : ∀ q ∈ tl, q.1 ≠ s₁.heap.objs.size + 1 := fun q hq => hfr' q hq (s₁.heap.objs.size + 1, _) (.tail _ (.tail _ (.tail _ (.tail _ (.tail _ (.head _))))))
  clear N' F' hfr'
  all_goals (try k_data)
  try k_fold
  k_steps
  unfold Hold
  k_here
  refine' nums2 _ _ _ _ _ _ _ _ _ _ _ _ _ _ _ _ _ _ _ _ _ ?kB ?kF ?kX ?kN ?kT ?kK ?kd ?ku ?k1 ?k2 ?_
  k_extra "M:base"
  case k1 => exact hc'
  case k2 => kcf_all
  intro r' vs' n' h' tk' hi' hl' l1 F' N'
  simp only [Off1, and_true] at l1
  have F2 : Fr s₁.heap _ _ _ := F'
  have N2 : News s₁.heap _ _ _ := N'
  clear F' N'
  try k_fold
  k_steps
  unfold Hold
  refine CompSrcT.ledger (its := vs'.toArray) rfl (by k_asm) (by k_asm) (by k_mem) (by rw [sizeLine_eq, List.size_toArray]; omega) (fun g => compRestT_keep (fun i ys => IntsAre ys (((num2 c).take i).filter (outOf (2 ^ (8 * nn - 1).toNat)))) .nil (.inr ⟨_, by k_mem, rfl, _, rfl⟩) ?cstep ?cend)
  case cstep =>
    intro i ys hi hys hSS v I oI C' oC D m₂ h tk E' hP hC hv F3 N3 hoff hne'
    obtain ⟨n, t, rfl, hn⟩ := ints_get hi' (by simpa using hP)
    try k_fold
    k_steps
    all_goals (unfold Hold; first
      | exact LCg.CompEnd.intro (by assumption) (by assumption) _ (fun q hq => hq) hoff hSS ⟨rfl, by rw [out_step hn (out_lo (by assumption))]; exact ints_app hys (.cons _ _ .nil)⟩
      | exact LCg.CompEnd.intro (by assumption) (by assumption) _ (fun q hq => hq) hoff hSS ⟨rfl, by rw [out_step hn (out_hi (by assumption))]; exact ints_app hys (.cons _ _ .nil)⟩
      | exact LCg.CompEnd.intro (by assumption) (by assumption) _ (fun q hq => hq) hoff hSS ⟨rfl, by rw [out_skip hn (out_no (by assumption) (by assumption))]; exact hys⟩)
  case cend =>
    intro ys hys
    rw [show (num2 c).take vs'.toArray.size = num2 c by rw [List.size_toArray, hi'.length, List.take_length]] at hys
    intro D h tk F3 N3 ho
    simp only [Off1, and_true] at ho
    try k_fold
    k_steps
    unfold Hold
    k_here
    refine' dump (RC := R1 w.params) (enc := enc1 ls nn) (fit := fit1 nn) (nd := c) (H := 40) (np := 84) ?kS ?kB ?kF ?kX ?kN ?kT ?kK ?kd ?ku ?kz a1 a2 b1 b2 (by decide) ?kT2 ?klen ?ret ?exc
    k_extra "M:base"
    case kS => exact fn1 a1 a2 b1 b2
    case kz => k_mem
    case kT2 => exact fun l' hl' => R2.mono hc' fun q hq => hl' q (by kcf_m)
    case klen => exact Nat.le_trans (enc2_le a2 b2 hc') (by decide)
    case exc =>
      intro e' h' tk' g2 hf' F' U' R'
      have hd : ∀ inst : Decidable (List.filter (outOf (2 ^ (8 * nn - 1).toNat)) (num2 c) = []), @decide _ inst = false := fun inst => @decide_eq_false _ inst (filter_not (half_pow b1 b2) hf')
      refine' caught_bad ?cK F' U' R' ?cX (badIn _) ?cT ?ce ?_
      case cK => k_asm
      case cX => k_asm
      case cT => k_asm
      case ce => k_is
      intro h9 F' N'
      have F4 : Fr s₁.heap _ _ _ := F'
      have N4 : News s₁.heap _ _ _ := N'
      clear F' N'
      rw [hd] at F4
      try k_fold
      k_steps
      unfold Hold
      k_here
      refine' fits2 (ls := ls) b1 b2 _ _ _ _ _ _ _ _ _ _ _ _ _ _ _ _ _ _ _ _ _ _ _ _ _ ?kB ?kF ?kX ?kN ?kT ?kK ?kd ?ku ?k0 ?k1 ?k2 ?_
      k_extra "M:base"
      case k0 => k_mem
      case k1 => exact hc'
      case k2 => kcf_all
      intro b' h' tk' hb' F' N'
      obtain rfl : b' = false := by
        cases b'
        · rfl
        · exact absurd (hb'.mp rfl) hf'
      have F5 : Fr s₁.heap _ _ _ := F'
      have N5 : News s₁.heap _ _ _ := N'
      clear F' N'
      try k_fold
      k_steps
    case ret =>
      intro t' h' tk' hfit F' N'
      have hnil := filter_nil (half_pow b1 b2) hfit
      have hd : ∀ inst : Decidable (List.filter (outOf (2 ^ (8 * nn - 1).toNat)) (num2 c) = []), @decide _ inst = true := fun inst => @decide_eq_true _ inst hnil
      have F4 : Fr s₁.heap _ _ _ := F'
      have N4 : News s₁.heap _ _ _ := N'
      clear F' N'
      rw [hd] at F4
      try k_fold
      k_steps
      unfold Hold
      k_here
      refine' fits2 (ls := ls) b1 b2 _ _ _ _ _ _ _ _ _ _ _ _ _ _ _ _ _ _ _ _ _ _ _ _ _ ?kB ?kF ?kX ?kN ?kT ?kK ?kd ?ku ?k0 ?k1 ?k2 ?_
      k_extra "M:base"
      case k0 => k_mem
      case k1 => exact hc'
      case k2 => kcf_all
      intro b' h' tk' hb' F' N'
      obtain rfl : b' = true := hb'.mpr hfit
      have F5 : Fr s₁.heap _ _ _ := F'
      have N5 : News s₁.heap _ _ _ := N'
      clear F' N'
      try k_fold
      k_steps
      unfold Hold
      k_here
      refine' readDump (enc := enc2 ls nn) (ok := ok2 nn) (RT := S2 w.params) (H := 120) (lev := 3) (data := hdr ls nn ++ encF ls nn true (enc1 ls nn) c) (c := c) ?kS ?kB ?kF ?kX ?kN ?kT ?kK ?kd ?ku ?kz a1 a2 b1 b2 (by decide) ?kdt ?klen2 (R2.ok hc' hfit) ?_
      k_extra "M:base"
      case kS => exact rdR (Nat.le_trans (enc2_le a2 b2 hc') (by decide)) a1 a2 b1 b2
      case kz => k_mem
      case kdt => rw [List.append_nil]; rfl
      case klen2 => exact Nat.le_trans (enc2_le a2 b2 hc') (by decide)
      intro v2 tl2 h' tk' hv2 hfr2 F' N'
      have F6 : Fr s₁.heap _ _ _ := F'
      have N6 : News s₁.heap _ _ _ := N'
      clear F' N'
      try k_fold
      k_steps
      unfold Hold
      k_here
      refine' toldS2 _ _ _ _ _ _ _ _ _ _ _ _ _ _ _ _ _ _ tl2 _ c ?kB ?kF ?kX ?kN ?kT ?kK ?kd ?ku ?k1 ?k2 ?_
      k_extra "M:base"
      case k1 => exact hv2
      case k2 => kcf_all
      intro r1 tl3 h' tk' hfr3 hd3 F' N'
      have F7 : Fr s₁.heap _ _ _ := F'
      have N7 : News s₁.heap _ _ _ := N'
      clear F' N'
      try k_fold
      k_steps
      unfold Hold
      k_here
      refine' toldS2 _ _ _ _ _ _ _ _ _ _ _ _ _ _ _ _ _ _ tl _ c ?kB ?kF ?kX ?kN ?kT ?kK ?kd ?ku ?k1 ?k2 ?_
      k_extra "M:base"
      case k1 => exact R2.told hc'
      case k2 => kcf_all
      intro r2 tl4 h' tk' hfr4 hd4 F' N'
      have F8 : Fr s₁.heap _ _ _ := F'
      have N8 : News s₁.heap _ _ _ := N'
      clear F' N'
      obtain ⟨x1, x2, rfl, rfl, hrc⟩ := dat_rc N8 (DatIn.mono (fun q hq => by kcf_m) hd3) (DatIn.mono (fun q hq => by kcf_m) hd4) (dDep2 c)
      try k_fold
      k_steps
      unfold Hold
      refine PySem.EqBoolInt.of_rc (hrc _ _ rfl ?ku9) ?_
      case ku9 => ktr_units
      k_steps
end
end Mine
end
theorem PySem.Challenge.cw_pq0679_01_holds : PySem.Challenge.rw_pq0679_01.Holds :=
  Mine.lawIt
