import PyProof.Rows.All
import Wide.All
import OpenK.AllK
import Wide.FinOn
import PySem.Challenge.RW_rr0011_01
open PySem PySem.W PyProof.Rows PySem.Spec PySem.Calls
set_option Elab.async false
set_option maxRecDepth 100000
set_option maxHeartbeats 8000000
namespace Mine
open_top hd for PySem.Challenge.rw_rr0011_01
end Mine

/-! part Base -/
namespace Mine
/-! the datum -/
inductive Tm where
  | v (k : Int)
  | i (k : Int)
  | a (k : Int)
  | s (f : Int) (args : List Tm)

mutual
def Tm.dat : Tm → Dat
  | .v k => .tuple [.str (Str.ofString "v"), .int k]
  | .i k => .tuple [.str (Str.ofString "i"), .int k]
  | .a k => .tuple [.str (Str.ofString "a"), .int k]
  | .s f args => .tuple [.str (Str.ofString "s"), .int f, .tuple (Tm.dats args)]
def Tm.dats : List Tm → List Dat
  | [] => []
  | t :: ts => t.dat :: Tm.dats ts
end

abbrev Led := List (Addr × Obj)
abbrev tupO (vs : List Value) (n : Nat) : Obj := { cls := .type "tuple", data := .seq vs.toArray n }
abbrev TmIn (news : Led) (v : Value) (t : Tm) : Prop := DatIn news v t.dat
abbrev TmsIn (news : Led) (vs : List Value) (ts : List Tm) : Prop := DatAll news vs (Tm.dats ts)
/-- what was made lies above what stood -/
def Above (tl news : Led) : Prop := ∀ q ∈ news, ∀ p ∈ tl, q.1 < p.1

theorem dats_length : ∀ ts : List Tm, (Tm.dats ts).length = ts.length
  | [] => rfl
  | _ :: ts => by rw [Tm.dats, List.length_cons, List.length_cons, dats_length ts]
theorem dats_append : ∀ ts us : List Tm, Tm.dats (ts ++ us) = Tm.dats ts ++ Tm.dats us
  | [], _ => rfl
  | t :: ts, us => by rw [List.cons_append, Tm.dats, Tm.dats, dats_append ts us, List.cons_append]
theorem dats_get : ∀ (ts : List Tm) (j : Nat) (t : Tm), ts[j]? = some t → (Tm.dats ts)[j]? = some t.dat
  | t :: _, 0, _, h => by cases h; rfl
  | _ :: ts, j + 1, u, h => by rw [Tm.dats]; exact dats_get ts j u h
theorem TmsIn.length {news : Led} {vs : List Value} {ts : List Tm} (h : TmsIn news vs ts) : vs.length = ts.length := (DatAll.length h).trans (dats_length ts)
theorem TmsIn.get {news : Led} {vs : List Value} {ts : List Tm} (h : TmsIn news vs ts) {j : Nat} {t : Tm} (hj : ts[j]? = some t) : ∃ v, vs[j]? = some v ∧ TmIn news v t := by
  have e := dats_get ts j t hj
  obtain ⟨hlt, e2⟩ := List.getElem?_eq_some_iff.mp e
  obtain ⟨v, h1, h2⟩ := DatAll.get h hlt
  rw [e2] at h2
  exact ⟨v, h1, h2⟩
theorem TmsIn.snoc {news : Led} {vs : List Value} {ts : List Tm} {v : Value} {t : Tm} (h : TmsIn news vs ts) (k : TmIn news v t) : TmsIn news (vs ++ [v]) (ts ++ [t]) := by
  unfold TmsIn
  rw [dats_append]
  exact DatAll.append h (DatAll.one k)

theorem leaf_inv {news : Led} {v : Value} {x : Str} {k : Int} (h : DatIn news v (.tuple [.str x, .int k])) : ∃ a t1 t2 n, v = .ref a ∧ (a, tupO [.str x t1, .int k t2] n) ∈ news := by
  cases h with
  | tuple hm r =>
    cases r with
    | cons h1 r =>
      cases r with
      | cons h2 r =>
        cases r
        cases h1
        cases h2
        exact ⟨_, _, _, _, rfl, hm⟩
theorem node_inv {news : Led} {v : Value} {f : Int} {args : List Tm} (h : TmIn news v (.s f args)) : ∃ a b t1 t2 n n' vs, v = .ref a ∧ (a, tupO [.str (Str.ofString "s") t1, .int f t2, .ref b] n) ∈ news ∧ (b, tupO vs n') ∈ news ∧ TmsIn news vs args := by
  unfold TmIn at h
  rw [Tm.dat] at h
  cases h with
  | tuple hm r =>
    cases r with
    | cons h1 r =>
      cases r with
      | cons h2 r =>
        cases r with
        | cons h3 r =>
          cases r
          cases h1
          cases h2
          cases h3 with
          | tuple hb hr => exact ⟨_, _, _, _, _, _, _, rfl, hm, hb, hr⟩
theorem leaf_mk {news : Led} {a : Addr} {x : Str} {k : Int} {t1 t2 : Tok} {n : Nat} (h : (a, tupO [.str x t1, .int k t2] n) ∈ news) : DatIn news (.ref a) (.tuple [.str x, .int k]) :=
  .tuple h (.cons (.str _ _) (.cons (.int _ _) .nil))
theorem node_mk {news : Led} {a b : Addr} {f : Int} {t1 t2 : Tok} {n n' : Nat} {vs : List Value} {args : List Tm} (h : (a, tupO [.str (Str.ofString "s") t1, .int f t2, .ref b] n) ∈ news) (hb : (b, tupO vs n') ∈ news) (hr : TmsIn news vs args) : TmIn news (.ref a) (.s f args) := by
  unfold TmIn
  rw [Tm.dat]
  exact .tuple h (.cons (.str _ _) (.cons (.int _ _) (.cons (.tuple hb hr) .nil)))

/-! the contract of a change -/
def ChgSpec (prog : Program) (w : World) (f : Addr) (g : Int → Tm) (ok : Int → Prop) (r : Nat) : Prop :=
  ∀ {p : Program} {loose : List Str} {mean : ExcName → Option Value} {mg mb : Str → Option Value}
   {dp un : Nat} {gd : Option (List Code)} {cn : Str} {cs : Scope} {a : Addr} {ccd : Value} {cl : List (Str × Addr)} {outer : List Env} {A₀ : Around} {base h₀ : Heap} {L : Addr} {m : Str → Option Value} {news : Led} {s : Shared} {k : Int} {tk : Tok}
    {Q E : Value → Shared → Prop},
   Below A₀ base outer h₀ → Fr h₀ L s.heap m → (hd.heap_39 w.params).In h₀ → News h₀ L s.heap news → Top p loose mean mg mb h₀ → cs.kind = .function → ok k →
   dp + r < recursionLimit → un + 10 * r < cLine →
   (∀ v tl h' tk', Fr h₀ L h' m → News h₀ L h' (tl ++ news) → Above tl news → TmIn tl v (g k) → Q v { s with heap := h', toks := tk' }) →
   wpAny (model prog w) (ktrTop dp un gd cn cs L a ccd cl outer) (call (.ref f) [.int k tk]) Q E s

def gTurned (k : Int) : Tm := .v ((3 * k + 1).fmod 6)
def gHalved (k : Int) : Tm := if k.fmod 2 = 0 then .i k else .s 13 [.v (k.fdiv 2), .v (k.fdiv 2)]
def gMoved (k : Int) : Tm := .v (k * k + 2)
def gBoth (k : Int) : Tm := gMoved ((3 * k + 1).fmod 6)
def ok6 (k : Int) : Prop := 0 ≤ k ∧ k < 6

section
variable {news : Led} {a b c d : Addr} {o1 o2 o3 o4 : Obj}
theorem mem_l {q : Addr × Obj} {t1 t2 : Led} (h : q ∈ t1) : q ∈ t1 ++ t2 := List.mem_append.mpr (.inl h)
theorem mem_r {q : Addr × Obj} {t1 t2 : Led} (h : q ∈ t2) : q ∈ t1 ++ t2 := List.mem_append.mpr (.inr h)
theorem above_nil : Above [] news := fun _ _ _ h => nomatch h
theorem above_one (h : ∀ q ∈ news, q.1 < a) : Above [(a, o1)] news := fun q hq p hp => by
  rw [List.mem_singleton.mp hp]; exact h q hq
theorem above_cons {tl : Led} (h : AllLt a news) (k : Above tl news) : Above ((a, o1) :: tl) news := fun q hq p hp => by
  rcases List.mem_cons.mp hp with rfl | hp
  · exact ktn_ltOf h q hq
  · exact k q hq p hp
theorem above_app {t1 t2 : Led} (h : Above t2 news) (k : Above t1 (t2 ++ news)) : Above (t1 ++ t2) news := fun q hq p hp => by
  rcases List.mem_append.mp hp with hp | hp
  · exact k q (List.mem_append.mpr (.inr hq)) p hp
  · exact h q hq p hp
end


local macro_rules | `(tactic| k_mem) => `(tactic| assumption)

theorem turned_spec (prog : Program) (w : World) : ChgSpec prog w 49 gTurned (fun _ => True) 1 := by
  intro p loose mean mg mb dp un gd cn cs a ccd cl outer A₀ base h₀ L m news s k tk Q E B F X N T hk ok1 room ur ret
  refine wpAny_call ?_
  k_dflt ktr_enter
  k_steps
  rename_i D h' F' N' l1 kF kN _ _
  exact ret _ [_] _ _ kF kN (above_one l1) (leaf_mk (.head _))
theorem moved_spec (prog : Program) (w : World) : ChgSpec prog w 56 gMoved ok6 1 := by
  intro p loose mean mg mb dp un gd cn cs a ccd cl outer A₀ base h₀ L m news s k tk Q E B F X N T hk ⟨ok1, ok2⟩ room ur ret
  refine wpAny_call ?_
  k_dflt ktr_enter
  k_steps
  rename_i D h' F' N' l1 kF kN _ _
  exact ret _ [_] _ _ kF kN (above_one l1) (leaf_mk (.head _))
theorem var_spec (prog : Program) (w : World) : ChgSpec prog w 21 Tm.v ok6 1 := by
  intro p loose mean mg mb dp un gd cn cs a ccd cl outer A₀ base h₀ L m news s k tk Q E B F X N T hk ⟨ok1, ok2⟩ room ur ret
  refine wpAny_call ?_
  k_dflt ktr_enter
  k_steps
  rename_i D h' F' N' l1 kF kN _ _
  exact ret _ [_] _ _ kF kN (above_one l1) (leaf_mk (.head _))
theorem halved_spec (prog : Program) (w : World) : ChgSpec prog w 42 gHalved ok6 1 := by
  intro p loose mean mg mb dp un gd cn cs a ccd cl outer A₀ base h₀ L m news s k tk Q E B F X N T hk ⟨ok1, ok2⟩ room ur ret
  refine wpAny_call ?_
  k_dflt ktr_enter
  k_steps
  · rename Int.fmod k 2 = 0 => hc
    rename ∀ q ∈ news, _ => l1
    rename Fr h₀ L _ m => kF
    rename News h₀ L _ _ => kN
    exact ret _ [_] _ _ kF kN (above_one l1) (by unfold gHalved; rw [if_pos hc]; exact leaf_mk (.head _))
  · rename Int.fmod k 2 ≠ 0 => hc
    rename _ ∧ _ ∧ _ ∧ AllLt _ news => l4
    rename _ ∧ _ ∧ AllLt _ news => l3
    rename _ ∧ AllLt _ news => l2
    rename ∀ q ∈ news, _ => l1
    rename Fr h₀ L _ m => kF
    rename News h₀ L _ _ => kN
    refine ret _ [_, _, _, _] _ _ kF kN (above_cons l4.2.2.2 (above_cons l3.2.2 (above_cons l2.2 (above_one l1)))) ?_
    unfold gHalved
    rw [if_neg hc]
    exact node_mk (.head _) (.tail _ (.head _)) (.cons (leaf_mk (.tail _ (.tail _ (.tail _ (.head _))))) (.cons (leaf_mk (.tail _ (.tail _ (.head _)))) .nil))
local macro_rules | `(tactic| walk_at "call ref") => `(tactic| (k_here; k_dflt (first
  | refine' turned_spec _ _ ?k1 ?k2 ?k3 ?k4 ?k5 ?k6 ?k7 ?k8 ?k9 ?_
  | refine' moved_spec _ _ ?k1 ?k2 ?k3 ?k4 ?k5 ?k6 ?k7 ?k8 ?k9 ?_); (case k1 => k_asm); (case k2 => k_asm); (case k3 => k_asm); (case k4 => k_asm); (case k5 => k_asm); (case k6 => first | exact rfl | assumption); (case k7 => first | exact trivial | assumption | exact ⟨Int.fmod_nonneg_of_pos _ (by decide), Int.fmod_lt_of_pos _ (by decide)⟩); (case k8 => (dsimp only [ktrTop, Around.deeper]; omega)); (case k9 => (dsimp only [ktrTop, Around.deeper]; omega)); k_whole; intro v9 tl9 h9 tk9 F9 N9 O9 D9; (try (obtain ⟨a9, t9, u9, n9, e9, hm9⟩ := leaf_inv D9; subst e9)); (try dsimp only); (try k_fold)))
theorem both_spec (prog : Program) (w : World) : ChgSpec prog w 63 gBoth (fun _ => True) 2 := by
  intro p loose mean mg mb dp un gd cn cs a ccd cl outer A₀ base h₀ L m news s k tk Q E B F X N T hk ok1 room ur ret
  refine wpAny_call ?_
  k_dflt ktr_enter
  k_steps
  rename Fr h₀ L _ m => kF
  rename News h₀ L _ _ => kN
  rename Above _ news => O1
  rename Above _ (_ ++ news) => O2
  rename TmIn _ _ _ => D2
  refine ret _ (_ ++ _) _ _ kF ?_ (above_app O1 O2) ?_
  · rw [List.append_assoc]; exact kN
  · exact DatIn.mono (fun q hq => List.mem_append.mpr (.inl hq)) D2
end Mine

/-! part Dig -/
namespace Mine
local macro_rules | `(tactic| k_mem) => `(tactic| assumption)
local macro_rules | `(tactic| k_all) => `(tactic| first | assumption | (intro q9 hq9; exact (by assumption : ∀ q ∈ _, q.1 ≠ _) q9 hq9))
local macro_rules | `(tactic| k_ne) => `(tactic| first | assumption | (apply Ne.symm; assumption))
local macro_rules | `(tactic| walk_at "eval Name") => `(tactic| (k_here; k_dflt (refine' nameX_L ?F ?v ?_ ?a ?b; (case F => k_asm); (case a => rfl); (case b => rfl); (case v => rfl); k_whole)))
local macro_rules | `(tactic| walk_at "binaryOp FloorDiv int int") => `(tactic| (k_here; (with_reducible refine floordiv_int ?a1 ?_ (Or.inl (PyProof.noPylong_of_log2 ?b1))); (case a1 => assumption); (case b1 => assumption)))

/-- the ledger of the pot -/
abbrev potLed (P D : Addr) (c : Int) (t1 : Tok) (vs : List Value) (n1 n2 : Nat) : Led := [(P, listOf #[.int c t1, .ref D] n1), (D, listOf vs.toArray n2)]

theorem digit_call {prog : Program} {w : World} {p : Program} {loose : List Str} {mean : ExcName → Option Value} {mg mb : Str → Option Value}
   {dp un : Nat} {gd : Option (List Code)} {cn : Str} {cs : Scope} {a : Addr} {ccd : Value} {cl : List (Str × Addr)} {outer : List Env} {A₀ : Around} {base h₀ : Heap} {L : Addr} {m : Str → Option Value} {news : Led} {s : Shared}
   {P D : Addr} {vs : List Value} {ns : List Int} {n1 n2 : Nat} {c lim : Int} {t1 tk : Tok}
    {Q E : Value → Shared → Prop}
   (B : Below A₀ base outer h₀) (F : Fr h₀ L s.heap m) (X : (hd.heap_39 w.params).In h₀) (N : News h₀ L s.heap ((P, listOf #[.int c t1, .ref D] n1) :: (D, listOf vs.toArray n2) :: news)) (T : Top p loose mean mg mb h₀) (hk : cs.kind = .function) 
   (room : dp + 1 < recursionLimit) (ur : un + 20 < cLine)
   (hi : IntsAre vs ns) (h3 : 0 < (ns.length : Int)) (h4 : (ns.length : Int) ≤ 20) (hl : 0 < lim) (hlog : lim.natAbs.log2 < 9000) (hPD : P ≠ D) (hP : ∀ q ∈ news, q.1 ≠ P) (hD : ∀ q ∈ news, q.1 ≠ D)
   (ret : ∀ d t t1' vs' ns' h' tk', 0 ≤ d → d < lim → IntsAre vs' ns' → ns'.length = ns.length → Fr h₀ L h' m → News h₀ L h' ((P, listOf #[.int (c + 1) t1', .ref D] n1) :: (D, listOf vs'.toArray n2) :: news) → Q (.int d t) { s with heap := h', toks := tk' }) :
   wpAny (model prog w) (ktrTop dp un gd cn cs L a ccd cl outer) (call (.ref 35) [.ref P, .int lim tk]) Q E s := by
  have hl0 : lim ≠ 0 := by omega
  have hlen : vs.length = ns.length := hi.length
  refine wpAny_call ?_
  k_dflt ktr_enter
  k_steps
  rename Fr h₀ L _ m => kF
  rename News h₀ L _ _ => kN
  exact ret _ _ _ _ _ _ _ (Int.fmod_nonneg_of_pos _ hl) (Int.fmod_lt_of_pos _ hl) (by assumption) (by assumption) kF kN
end Mine

/-! part Rb0 -/
namespace Mine

/-! the big step that both roads take -/
def Tm.isS : Tm → Bool
  | .s _ _ => true
  | _ => false
inductive All2 {α β : Type} (R : α → β → Prop) : List α → List β → Prop
  | nil : All2 R [] []
  | cons {a b as bs} : R a b → All2 R as bs → All2 R (a :: as) (b :: bs)
theorem All2.length {α β : Type} {R : α → β → Prop} {as : List α} {bs : List β} (h : All2 R as bs) : as.length = bs.length := by
  induction h with
  | nil => rfl
  | cons _ _ ih => rw [List.length_cons, List.length_cons, ih]

/-- t is turned into r, in at most n levels -/
def Rb (g : Int → Tm) (ok : Int → Prop) (ag : Bool) : Nat → Tm → Tm → Prop
  | 0, _, _ => False
  | n + 1, t, r => match t with
    | .v k => ok k ∧ ((r = g k ∧ (ag = false ∨ (g k).isS = false)) ∨ (ag = true ∧ ∃ f args rs, g k = .s f args ∧ r = .s f rs ∧ args.length ≤ 1000 ∧ All2 (Rb g ok ag n) args rs))
    | .s f args => ∃ rs, r = .s f rs ∧ args.length ≤ 1000 ∧ All2 (Rb g ok ag n) args rs
    | t => r = t

/-! the stack of rebuild -/
structure FrD where
  t : Addr
  wv : Value
  d : Addr
  dones : List Value
  n : Nat
  f : Int
  args : List Tm
  ds : List Tm

def FrD.ok (imm : Led) (x : FrD) : Prop :=
  (x.t, tupO [x.wv, .ref x.d] 0) ∈ imm ∧ TmIn imm x.wv (.s x.f x.args) ∧ TmsIn imm x.dones x.ds ∧ x.args.length ≤ 1000 ∧ x.ds.length ≤ x.args.length
theorem FrD.ok.mono {imm imm' : Led} {x : FrD} (h : x.ok imm) (hs : ∀ p ∈ imm, p ∈ imm') : x.ok imm' :=
  ⟨hs _ h.1, DatIn.mono hs h.2.1, DatAll.mono hs h.2.2.1, h.2.2.2⟩
def dled (fs : List FrD) : Led := fs.map fun x => (x.d, listOf x.dones.toArray x.n)
def refs (fs : List FrD) : List Value := fs.reverse.map fun x => Value.ref x.t
theorem refs_cons (x : FrD) (fs : List FrD) : refs (x :: fs) = refs fs ++ [Value.ref x.t] := by unfold refs; simp
theorem refs_length (fs : List FrD) : (refs fs).length = fs.length := by unfold refs; simp
theorem dled_cons (x : FrD) (fs : List FrD) : dled (x :: fs) = (x.d, listOf x.dones.toArray x.n) :: dled fs := rfl
theorem dled_addr {fs : List FrD} {q : Addr × Obj} (h : q ∈ dled fs) : q.1 ∈ fs.map (·.d) := by
  unfold dled at h
  obtain ⟨x, hx, rfl⟩ := List.mem_map.mp h
  exact List.mem_map.mpr ⟨x, hx, rfl⟩

abbrev fmap (FR chg : Addr) (ag : Bool) (rv : Value) (u : Str → Option Value) : Str → Option Value := fun y =>
  if y = Str.ofString "frames" then some (.ref FR) else if y = Str.ofString "change" then some (.ref chg) else if y = Str.ofString "again" then some (.bool ag)
  else if y = Str.ofString "result" then some rv else u y

/-- the state between two turns -/
def RInv (h₀ : Heap) (L FR chg : Addr) (ag : Bool) (news₀ : Led) (s₀ : Shared) (fs : List FrD) (r : Tm) (s : Shared) : Prop :=
  ∃ h tk u nF rv tl, s = { s₀ with heap := h, toks := tk } ∧ Fr h₀ L h (fmap FR chg ag rv u) ∧
    News h₀ L h ((FR, listOf (refs fs).toArray nF) :: (dled fs ++ (tl ++ news₀))) ∧
    (FR :: fs.map (·.d)).Nodup ∧ (∀ q ∈ tl ++ news₀, q.1 ≠ FR ∧ ∀ x ∈ fs, q.1 ≠ x.d) ∧ Above tl news₀ ∧ (∀ x ∈ fs, x.ok (tl ++ news₀)) ∧ TmIn (tl ++ news₀) rv r


/-- the same state, opened -/
structure RO (h₀ : Heap) (L FR chg : Addr) (ag : Bool) (news₀ : Led) (x : FrD) (lower : List FrD) (r : Tm) (tl : Led) (h : Heap) (u : Str → Option Value) (nF : Nat) (rv : Value) (wa ba : Addr) (u1 u2 : Tok) (k1 k2 : Nat) (avs : List Value) : Prop where
  F : Fr h₀ L h (fmap FR chg ag rv u)
  N : News h₀ L h ((FR, listOf (refs lower ++ [Value.ref x.t]).toArray nF) :: (x.d, listOf x.dones.toArray x.n) :: (dled lower ++ (tl ++ news₀)))
  nd : FR ≠ x.d
  nFl : ∀ z ∈ lower, FR ≠ z.d
  nDl : ∀ z ∈ lower, x.d ≠ z.d
  nLl : (lower.map (·.d)).Nodup
  oFR : ∀ q ∈ dled lower ++ (tl ++ news₀), q.1 ≠ FR
  oD : ∀ q ∈ dled lower ++ (tl ++ news₀), q.1 ≠ x.d
  offl : ∀ q ∈ tl ++ news₀, ∀ z ∈ lower, q.1 ≠ z.d
  ab : Above tl news₀
  oks : ∀ z ∈ lower, z.ok (tl ++ news₀)
  okx : x.ok (tl ++ news₀)
  D : TmIn (tl ++ news₀) rv r
  hxt : (x.t, tupO [Value.ref wa, .ref x.d] 0) ∈ tl ++ news₀
  hw1 : (wa, tupO [.str (Str.ofString "s") u1, .int x.f u2, .ref ba] k1) ∈ tl ++ news₀
  hw2 : (ba, tupO avs k2) ∈ tl ++ news₀
  hav : TmsIn (tl ++ news₀) avs x.args
  hxd : TmsIn (tl ++ news₀) x.dones x.ds
  hxw : x.wv = .ref wa
  z1 : (refs lower).length ≤ 1000
  z2 : x.dones.length ≤ 1000
  z3 : avs.length ≤ 1000
  e1 : x.dones.length = x.ds.length
  e2 : avs.length = x.args.length
  hle : x.ds.length ≤ x.args.length
  hal : x.args.length ≤ 1000

theorem RInv.open {h₀ : Heap} {L FR chg : Addr} {ag : Bool} {news₀ : Led} {s₀ s : Shared} {x : FrD} {lower : List FrD} {r : Tm} (hI : RInv h₀ L FR chg ag news₀ s₀ (x :: lower) r s) (hlow : lower.length ≤ 500) :
    ∃ tl h tk u nF rv wa ba u1 u2 k1 k2 avs, s = { s₀ with heap := h, toks := tk } ∧ RO h₀ L FR chg ag news₀ x lower r tl h u nF rv wa ba u1 u2 k1 k2 avs := by
  obtain ⟨h, tk, u, nF, rv, tl, rfl, F3, N3, nd, off, ab, oks, D3⟩ := hI
  have okx := oks x (.head _)
  obtain ⟨hxt, hxw, hxd, hxa, hxl⟩ := id okx
  obtain ⟨wa, ba, u1, u2, k1, k2, avs, hwv, hw1, hw2, hav⟩ := node_inv hxw
  rw [refs_cons, dled_cons, List.cons_append] at N3
  have l1 := hxd.length
  have l2 := hav.length
  rw [List.map_cons, List.nodup_cons, List.nodup_cons] at nd
  obtain ⟨n1, n2, n3⟩ := nd
  refine ⟨tl, h, tk, u, nF, rv, wa, ba, u1, u2, k1, k2, avs, rfl, ⟨F3, N3, ?_, ?_, ?_, n3, ?_, ?_, ?_, ab, fun z hz => oks z (.tail _ hz), okx, D3, hwv ▸ hxt, hw1, hw2, hav, hxd, hwv, ?_, ?_, ?_, l1, l2, hxl, hxa⟩⟩
  · exact fun e => n1 (e ▸ .head _)
  · exact fun z hz e => n1 (.tail _ (e ▸ List.mem_map.mpr ⟨z, hz, rfl⟩))
  · exact fun z hz e => n2 (e ▸ List.mem_map.mpr ⟨z, hz, rfl⟩)
  · intro q hq e
    rcases List.mem_append.mp hq with hq | hq
    · exact n1 (.tail _ (e ▸ dled_addr hq))
    · exact (off q hq).1 e
  · intro q hq e
    rcases List.mem_append.mp hq with hq | hq
    · exact n2 (e ▸ dled_addr hq)
    · exact (off q hq).2 x (.head _) e
  · exact fun q hq z hz => (off q hq).2 z (.tail _ hz)
  · rw [refs_length]; omega
  · omega
  · omega

section
variable {h₀ : Heap} {L FR chg : Addr} {ag : Bool} {news₀ : Led} {s₀ : Shared} {x : FrD} {lower : List FrD} {r : Tm} {tl tl9 : Led} {h h' : Heap} {u m' : Str → Option Value} {nF : Nat} {rv : Value} {wa ba : Addr} {u1 u2 : Tok} {k1 k2 : Nat} {avs : List Value}
theorem news_front {a b : Addr × Obj} {dl tl news tl9 : Led} (N : News h₀ L h (tl9 ++ (a :: b :: (dl ++ (tl ++ news))))) : News h₀ L h (a :: b :: (dl ++ ((tl9 ++ tl) ++ news))) := fun q hq => N q (by
  simp only [List.mem_cons, List.mem_append] at hq ⊢
  rcases hq with e | e | e | (e | e) | e
  · exact .inr (.inl e)
  · exact .inr (.inr (.inl e))
  · exact .inr (.inr (.inr (.inl e)))
  · exact .inl e
  · exact .inr (.inr (.inr (.inr (.inl e))))
  · exact .inr (.inr (.inr (.inr (.inr e)))))
theorem off_front {c : Addr} {a b : Addr × Obj} {dl tl news tl9 : Led} (O : Above tl9 (a :: b :: (dl ++ (tl ++ news)))) (hc : c = a.1 ∨ c = b.1) (k : ∀ q ∈ dl ++ (tl ++ news), q.1 ≠ c) : ∀ q ∈ dl ++ ((tl9 ++ tl) ++ news), q.1 ≠ c := by
  intro q hq
  simp only [List.mem_append] at hq
  rcases hq with e | (e | e) | e
  · exact k q (mem_l e)
  · rcases hc with rfl | rfl
    · exact Nat.ne_of_gt (O a (.head _) q e)
    · exact Nat.ne_of_gt (O b (.tail _ (.head _)) q e)
  · exact k q (mem_r (mem_l e))
  · exact k q (mem_r (mem_r e))
theorem sub_front {tl news : Led} : ∀ p ∈ tl ++ news, p ∈ (tl9 ++ tl) ++ news := fun p hp => by
  rw [List.append_assoc]; exact mem_r hp

theorem RO.oZ {z : FrD} (O : RO h₀ L FR chg ag news₀ x (z :: lower) r tl h u nF rv wa ba u1 u2 k1 k2 avs) : ∀ q ∈ dled lower ++ (tl ++ news₀), q.1 ≠ z.d := by
  intro q hq e
  rcases List.mem_append.mp hq with hq | hq
  · have h1 := O.nLl
    rw [List.map_cons, List.nodup_cons] at h1
    exact h1.1 (e ▸ dled_addr hq)
  · exact O.offl q hq z (.head _) e

/-- what is at hand when a value was appended to the top frame -/
theorem RO.closeDone {v : Value} {t9 : Tm} {tk' : Nat} {oa ob : Obj} (O : RO h₀ L FR chg ag news₀ x lower r tl h u nF rv wa ba u1 u2 k1 k2 avs) (hlt : x.ds.length < x.args.length)
    (F' : Fr h₀ L h' (fmap FR chg ag rv m')) (N' : News h₀ L h' ((FR, listOf (refs lower ++ [Value.ref x.t]).toArray nF) :: (x.d, listOf (x.dones ++ [v]).toArray (x.n + 1)) :: (dled lower ++ ((tl9 ++ tl) ++ news₀))))
    (O9 : Above tl9 ((FR, oa) :: (x.d, ob) :: (dled lower ++ (tl ++ news₀)))) (Dv : TmIn ((tl9 ++ tl) ++ news₀) v t9) :
    RInv h₀ L FR chg ag news₀ s₀ (⟨x.t, x.wv, x.d, x.dones ++ [v], x.n + 1, x.f, x.args, x.ds ++ [t9]⟩ :: lower) r { s₀ with heap := h', toks := tk' } := by
  have sub := sub_front (tl9 := tl9) (tl := tl) (news := news₀)
  refine ⟨h', tk', m', nF, rv, tl9 ++ tl, rfl, F', ?_, ?_, ?_, ?_, ?_, DatIn.mono sub O.D⟩
  · rw [refs_cons, dled_cons]; exact N'
  · rw [List.map_cons, List.nodup_cons, List.nodup_cons]
    refine ⟨fun hm => ?_, fun hm => ?_, O.nLl⟩
    · rcases List.mem_cons.mp hm with e | hm
      · exact O.nd e
      · obtain ⟨z, hz, e⟩ := List.mem_map.mp hm
        exact O.nFl z hz e.symm
    · obtain ⟨z, hz, e⟩ := List.mem_map.mp hm
      exact O.nDl z hz e.symm
  · have f1 := off_front O9 (.inl rfl) O.oFR
    have f2 := off_front O9 (.inr rfl) O.oD
    intro q hq
    refine ⟨f1 q (mem_r hq), fun z hz => ?_⟩
    rcases List.mem_cons.mp hz with rfl | hz
    · exact f2 q (mem_r hq)
    · rw [List.append_assoc] at hq
      rcases List.mem_append.mp hq with hq | hq
      · exact Nat.ne_of_gt (O9 (z.d, _) (.tail _ (.tail _ (mem_l (List.mem_map.mpr ⟨z, hz, rfl⟩)))) q hq)
      · exact O.offl q hq z hz
  · intro q hq p hp
    rcases List.mem_append.mp hp with hp | hp
    · exact O9 q (.tail _ (.tail _ (mem_r (mem_r hq)))) p hp
    · exact O.ab q hq p hp
  · intro z hz
    rcases List.mem_cons.mp hz with rfl | hz
    · exact ⟨sub _ (O.hxw ▸ O.hxt), DatIn.mono sub O.okx.2.1, TmsIn.snoc (DatAll.mono sub O.hxd) Dv, O.hal, by rw [List.length_append, List.length_singleton]; exact hlt⟩
    · exact (O.oks z hz).mono sub

/-- what is at hand when a frame was pushed -/
theorem RO.closePush {pv : Value} {f : Int} {args : List Tm} {tk' : Nat} {T' D' : Addr} {nD : Nat} {oa ob oc od : Obj} (O : RO h₀ L FR chg ag news₀ x lower r tl h u nF rv wa ba u1 u2 k1 k2 avs)
    (F' : Fr h₀ L h' (fmap FR chg ag rv m')) (N' : News h₀ L h' ((T', tupO [pv, .ref D'] 0) :: (D', listOf #[] nD) :: (FR, listOf ((refs lower ++ [Value.ref x.t]) ++ [Value.ref T']).toArray (nF + 1)) :: (x.d, listOf x.dones.toArray x.n) :: (dled lower ++ ((tl9 ++ tl) ++ news₀))))
    (O9 : Above tl9 ((FR, oa) :: (x.d, ob) :: (dled lower ++ (tl ++ news₀)))) (lD : AllLt D' ((FR, oc) :: (x.d, od) :: (dled lower ++ ((tl9 ++ tl) ++ news₀)))) (lT : AllLt T' ((D', oc) :: (FR, oc) :: (x.d, od) :: (dled lower ++ ((tl9 ++ tl) ++ news₀))))
    (Dv : TmIn ((tl9 ++ tl) ++ news₀) pv (.s f args)) (hal : args.length ≤ 1000) :
    RInv h₀ L FR chg ag news₀ s₀ (⟨T', pv, D', [], nD, f, args, []⟩ :: x :: lower) r { s₀ with heap := h', toks := tk' } := by
  have sub0 := sub_front (tl9 := tl9) (tl := tl) (news := news₀)
  have sub : ∀ p ∈ (tl9 ++ tl) ++ news₀, p ∈ ((T', tupO [pv, .ref D'] 0) :: (tl9 ++ tl)) ++ news₀ := fun p hp => .tail _ hp
  have sub1 : ∀ p ∈ tl ++ news₀, p ∈ ((T', tupO [pv, .ref D'] 0) :: (tl9 ++ tl)) ++ news₀ := fun p hp => sub p (sub0 p hp)
  have aD := ktn_ltOf lD
  have aT := ktn_ltOf lT
  refine ⟨h', tk', m', nF + 1, rv, (T', tupO [pv, .ref D'] 0) :: (tl9 ++ tl), rfl, F', ?_, ?_, ?_, ?_, ?_, DatIn.mono sub1 O.D⟩
  · rw [refs_cons, refs_cons, dled_cons, dled_cons]
    intro q hq
    refine N' q ?_
    simp only [List.mem_cons, List.mem_append, List.cons_append] at hq ⊢
    rcases hq with e | e | e | e | e | (e | e) | e
    · exact .inr (.inr (.inl e))
    · exact .inr (.inl e)
    · exact .inr (.inr (.inr (.inl e)))
    · exact .inr (.inr (.inr (.inr (.inl e))))
    · exact .inl e
    · exact .inr (.inr (.inr (.inr (.inr (.inl (.inl e))))))
    · exact .inr (.inr (.inr (.inr (.inr (.inl (.inr e))))))
    · exact .inr (.inr (.inr (.inr (.inr (.inr e)))))
  · rw [List.map_cons, List.map_cons, List.nodup_cons, List.nodup_cons, List.nodup_cons]
    refine ⟨fun hm => ?_, fun hm => ?_, fun hm => ?_, O.nLl⟩
    · rcases List.mem_cons.mp hm with e | hm
      · exact absurd e (Nat.ne_of_lt (aD _ (.head _)))
      · rcases List.mem_cons.mp hm with e | hm
        · exact O.nd e
        · obtain ⟨z, hz, e⟩ := List.mem_map.mp hm
          exact O.nFl z hz e.symm
    · rcases List.mem_cons.mp hm with e | hm
      · exact absurd e (Nat.ne_of_gt (aD _ (.tail _ (.head _))))
      · obtain ⟨z, hz, e⟩ := List.mem_map.mp hm
        exact absurd e (Nat.ne_of_lt (aD (z.d, _) (.tail _ (.tail _ (mem_l (List.mem_map.mpr ⟨z, hz, rfl⟩))))))
    · obtain ⟨z, hz, e⟩ := List.mem_map.mp hm
      exact O.nDl z hz e.symm
  · have f1 := off_front O9 (.inl rfl) O.oFR
    have f2 := off_front O9 (.inr rfl) O.oD
    intro q hq
    rcases List.mem_cons.mp hq with rfl | hq
    · refine ⟨Nat.ne_of_gt (aT (FR, oc) (.tail _ (.head _))), fun z hz => ?_⟩
      rcases List.mem_cons.mp hz with rfl | hz
      · exact Nat.ne_of_gt (aT (_, oc) (.head _))
      · rcases List.mem_cons.mp hz with rfl | hz
        · exact Nat.ne_of_gt (aT (_, od) (.tail _ (.tail _ (.head _))))
        · exact Nat.ne_of_gt (aT (z.d, _) (.tail _ (.tail _ (.tail _ (mem_l (List.mem_map.mpr ⟨z, hz, rfl⟩))))))
    · refine ⟨f1 q (mem_r hq), fun z hz => ?_⟩
      rcases List.mem_cons.mp hz with rfl | hz
      · exact Nat.ne_of_lt (aD q (.tail _ (.tail _ (mem_r hq))))
      · rcases List.mem_cons.mp hz with rfl | hz
        · exact f2 q (mem_r hq)
        · have hq' : q ∈ (tl9 ++ tl) ++ news₀ := hq
          rw [List.append_assoc] at hq'
          rcases List.mem_append.mp hq' with hq | hq
          · exact Nat.ne_of_gt (O9 (z.d, _) (.tail _ (.tail _ (mem_l (List.mem_map.mpr ⟨z, hz, rfl⟩)))) q hq)
          · exact O.offl q hq z hz
  · intro q hq p hp
    rcases List.mem_cons.mp hp with rfl | hp
    · exact aT q (.tail _ (.tail _ (.tail _ (mem_r (mem_r hq)))))
    · rcases List.mem_append.mp hp with hp | hp
      · exact O9 q (.tail _ (.tail _ (mem_r (mem_r hq)))) p hp
      · exact O.ab q hq p hp
  · intro z hz
    rcases List.mem_cons.mp hz with rfl | hz
    · exact ⟨.head _, DatIn.mono sub Dv, .nil, hal, Nat.zero_le _⟩
    · rcases List.mem_cons.mp hz with rfl | hz
      · exact O.okx.mono sub1
      · exact (O.oks z hz).mono sub1

/-- what is at hand when a frame was taken away and its term handed to the one below -/
theorem RO.closePop {z : FrD} {tk' : Nat} {TR TA : Addr} {t5 t6 : Tok} {oa ob oc : Obj} (O : RO h₀ L FR chg ag news₀ x (z :: lower) r tl h u nF rv wa ba u1 u2 k1 k2 avs) (hlt : z.ds.length < z.args.length)
    (F' : Fr h₀ L h' (fmap FR chg ag (.ref TR) m')) (N' : News h₀ L h' ((TR, tupO [.str (Str.ofString "s") t5, .int x.f t6, .ref TA] 0) :: (TA, tupO x.dones 0) :: (FR, listOf (refs lower ++ [Value.ref z.t]).toArray (nF + 1)) :: (x.d, listOf x.dones.toArray x.n) :: (z.d, listOf (z.dones ++ [Value.ref TR]).toArray (z.n + 1)) :: (dled lower ++ (tl ++ news₀))))
    (lA : AllLt TA ((FR, oa) :: (x.d, ob) :: (z.d, oc) :: (dled lower ++ (tl ++ news₀)))) (lR : AllLt TR ((TA, oa) :: (FR, oa) :: (x.d, ob) :: (z.d, oc) :: (dled lower ++ (tl ++ news₀)))) :
    RInv h₀ L FR chg ag news₀ s₀ (⟨z.t, z.wv, z.d, z.dones ++ [Value.ref TR], z.n + 1, z.f, z.args, z.ds ++ [.s x.f x.ds]⟩ :: lower) (.s x.f x.ds) { s₀ with heap := h', toks := tk' } := by
  have aA := ktn_ltOf lA
  have aR := ktn_ltOf lR
  have sub : ∀ p ∈ tl ++ news₀, p ∈ ((TR, tupO [.str (Str.ofString "s") t5, .int x.f t6, .ref TA] 0) :: (TA, tupO x.dones 0) :: tl) ++ news₀ := fun p hp => .tail _ (.tail _ hp)
  have Dr : TmIn (((TR, tupO [.str (Str.ofString "s") t5, .int x.f t6, .ref TA] 0) :: (TA, tupO x.dones 0) :: tl) ++ news₀) (.ref TR) (.s x.f x.ds) := node_mk (.head _) (.tail _ (.head _)) (DatAll.mono sub O.hxd)
  have okz := O.oks z (.head _)
  refine ⟨h', tk', m', nF + 1, .ref TR, (TR, tupO [.str (Str.ofString "s") t5, .int x.f t6, .ref TA] 0) :: (TA, tupO x.dones 0) :: tl, rfl, F', ?_, ?_, ?_, ?_, ?_, Dr⟩
  · rw [refs_cons, dled_cons]
    intro q hq
    refine N' q ?_
    simp only [List.mem_cons, List.mem_append, List.cons_append] at hq ⊢
    rcases hq with e | e | e | e | e | e | e
    · exact .inr (.inr (.inl e))
    · exact .inr (.inr (.inr (.inr (.inl e))))
    · exact .inr (.inr (.inr (.inr (.inr (.inl e)))))
    · exact .inl e
    · exact .inr (.inl e)
    · exact .inr (.inr (.inr (.inr (.inr (.inr (.inl e))))))
    · exact .inr (.inr (.inr (.inr (.inr (.inr (.inr e))))))
  · have h1 := O.nLl
    rw [List.map_cons, List.nodup_cons] at h1
    rw [List.map_cons, List.nodup_cons, List.nodup_cons]
    refine ⟨fun hm => ?_, h1.1, h1.2⟩
    obtain ⟨y, hy, e⟩ := List.mem_map.mp (show FR ∈ (z :: lower).map (·.d) from hm)
    exact O.nFl y hy e.symm
  · intro q hq
    rcases List.mem_cons.mp hq with rfl | hq
    · refine ⟨Nat.ne_of_gt (aR (FR, oa) (.tail _ (.head _))), fun y hy => ?_⟩
      rcases List.mem_cons.mp hy with rfl | hy
      · exact Nat.ne_of_gt (aR (z.d, oc) (.tail _ (.tail _ (.tail _ (.head _)))))
      · exact Nat.ne_of_gt (aR (y.d, _) (.tail _ (.tail _ (.tail _ (.tail _ (mem_l (List.mem_map.mpr ⟨y, hy, rfl⟩)))))))
    · rcases List.mem_cons.mp hq with rfl | hq
      · refine ⟨Nat.ne_of_gt (aA (FR, oa) (.head _)), fun y hy => ?_⟩
        rcases List.mem_cons.mp hy with rfl | hy
        · exact Nat.ne_of_gt (aA (z.d, oc) (.tail _ (.tail _ (.head _))))
        · exact Nat.ne_of_gt (aA (y.d, _) (.tail _ (.tail _ (.tail _ (mem_l (List.mem_map.mpr ⟨y, hy, rfl⟩))))))
      · refine ⟨O.oFR q (mem_r hq), fun y hy => ?_⟩
        rcases List.mem_cons.mp hy with rfl | hy
        · exact O.offl q hq z (.head _)
        · exact O.offl q hq y (.tail _ hy)
  · exact above_cons (allLt_of fun q hq => aR q (.tail _ (.tail _ (.tail _ (.tail _ (mem_r (mem_r hq))))))) (above_cons (allLt_of fun q hq => aA q (.tail _ (.tail _ (.tail _ (mem_r (mem_r hq)))))) O.ab)
  · intro y hy
    rcases List.mem_cons.mp hy with rfl | hy
    · exact ⟨sub _ okz.1, DatIn.mono sub okz.2.1, TmsIn.snoc (DatAll.mono sub okz.2.2.1) Dr, okz.2.2.2.1, by rw [List.length_append, List.length_singleton]; exact hlt⟩
    · exact (O.oks y (.tail _ hy)).mono sub

/-- what is at hand when the last frame was taken away -/
theorem RO.closeLast {tk' : Nat} {TR TA : Addr} {t5 t6 : Tok} {oa ob : Obj} (O : RO h₀ L FR chg ag news₀ x [] r tl h u nF rv wa ba u1 u2 k1 k2 avs)
    (F' : Fr h₀ L h' (fmap FR chg ag (.ref TR) m')) (N' : News h₀ L h' ((TR, tupO [.str (Str.ofString "s") t5, .int x.f t6, .ref TA] 0) :: (TA, tupO x.dones 0) :: (FR, listOf #[] (nF + 1)) :: (x.d, listOf x.dones.toArray x.n) :: (tl ++ news₀)))
    (lA : AllLt TA ((FR, oa) :: (x.d, ob) :: (tl ++ news₀))) (lR : AllLt TR ((TA, oa) :: (FR, oa) :: (x.d, ob) :: (tl ++ news₀))) :
    RInv h₀ L FR chg ag news₀ s₀ [] (.s x.f x.ds) { s₀ with heap := h', toks := tk' } := by
  have aA := ktn_ltOf lA
  have aR := ktn_ltOf lR
  have sub : ∀ p ∈ tl ++ news₀, p ∈ ((TR, tupO [.str (Str.ofString "s") t5, .int x.f t6, .ref TA] 0) :: (TA, tupO x.dones 0) :: tl) ++ news₀ := fun p hp => .tail _ (.tail _ hp)
  have Dr : TmIn (((TR, tupO [.str (Str.ofString "s") t5, .int x.f t6, .ref TA] 0) :: (TA, tupO x.dones 0) :: tl) ++ news₀) (.ref TR) (.s x.f x.ds) := node_mk (.head _) (.tail _ (.head _)) (DatAll.mono sub O.hxd)
  refine ⟨h', tk', m', nF + 1, .ref TR, (TR, tupO [.str (Str.ofString "s") t5, .int x.f t6, .ref TA] 0) :: (TA, tupO x.dones 0) :: tl, rfl, F', ?_, by simp, ?_, ?_, (fun y hy => nomatch hy), Dr⟩
  · intro q hq
    refine N' q ?_
    simp only [refs, dled, List.reverse_nil, List.map_nil, List.nil_append, List.mem_cons, List.mem_append, List.cons_append] at hq ⊢
    rcases hq with e | e | e | e | e
    · exact .inr (.inr (.inl e))
    · exact .inl e
    · exact .inr (.inl e)
    · exact .inr (.inr (.inr (.inr (.inl e))))
    · exact .inr (.inr (.inr (.inr (.inr e))))
  · intro q hq
    refine ⟨?_, fun y hy => nomatch hy⟩
    rcases List.mem_cons.mp hq with rfl | hq
    · exact Nat.ne_of_gt (aR (FR, oa) (.tail _ (.head _)))
    · rcases List.mem_cons.mp hq with rfl | hq
      · exact Nat.ne_of_gt (aA (FR, oa) (.head _))
      · exact O.oFR q hq
  · exact above_cons (allLt_of fun q hq => aR q (.tail _ (.tail _ (.tail _ (mem_r hq))))) (above_cons (allLt_of fun q hq => aA q (.tail _ (.tail _ (mem_r hq)))) O.ab)
end

section
variable {h₀ : Heap} {L FR chg : Addr} {ag : Bool} {news₀ : Led} {s₀ : Shared} {g : Int → Tm} {ok : Int → Prop} {R : Shared → Prop}
/-- the steps of the loop, told by the state alone -/
structure RSteps (h₀ : Heap) (L FR chg : Addr) (ag : Bool) (news₀ : Led) (s₀ : Shared) (g : Int → Tm) (ok : Int → Prop) (R : Shared → Prop) : Prop where
  flat : ∀ s x lower r t, RInv h₀ L FR chg ag news₀ s₀ (x :: lower) r s → lower.length ≤ 500 → x.args[x.ds.length]? = some t → ((∃ k, t = .a k) ∨ ∃ k, t = .i k) →
    (∀ s' y, y.f = x.f → y.args = x.args → y.ds = x.ds ++ [t] → RInv h₀ L FR chg ag news₀ s₀ (y :: lower) r s' → R s') → R s
  vari : ∀ s x lower r k, RInv h₀ L FR chg ag news₀ s₀ (x :: lower) r s → lower.length ≤ 500 → x.args[x.ds.length]? = some (.v k) → ok k → (ag = false ∨ (g k).isS = false) →
    (∀ s' y, y.f = x.f → y.args = x.args → y.ds = x.ds ++ [g k] → RInv h₀ L FR chg ag news₀ s₀ (y :: lower) r s' → R s') → R s
  into : ∀ s x lower r k f args, RInv h₀ L FR chg ag news₀ s₀ (x :: lower) r s → lower.length ≤ 500 → x.args[x.ds.length]? = some (.v k) → ok k → ag = true → g k = .s f args → args.length ≤ 1000 →
    (∀ s' y, y.f = f → y.args = args → y.ds = [] → RInv h₀ L FR chg ag news₀ s₀ (y :: x :: lower) r s' → R s') → R s
  push : ∀ s x lower r f args, RInv h₀ L FR chg ag news₀ s₀ (x :: lower) r s → lower.length ≤ 500 → x.args[x.ds.length]? = some (.s f args) → args.length ≤ 1000 →
    (∀ s' y, y.f = f → y.args = args → y.ds = [] → RInv h₀ L FR chg ag news₀ s₀ (y :: x :: lower) r s' → R s') → R s
  pop : ∀ s x z lower r, RInv h₀ L FR chg ag news₀ s₀ (x :: z :: lower) r s → lower.length ≤ 400 → x.ds.length = x.args.length → z.ds.length < z.args.length →
    (∀ s' y, y.f = z.f → y.args = z.args → y.ds = z.ds ++ [.s x.f x.ds] → RInv h₀ L FR chg ag news₀ s₀ (y :: lower) (.s x.f x.ds) s' → R s') → R s
  last : ∀ s x r, RInv h₀ L FR chg ag news₀ s₀ [x] r s → x.ds.length = x.args.length →
    (∀ s', RInv h₀ L FR chg ag news₀ s₀ [] (.s x.f x.ds) s' → R s') → R s

abbrev One (h₀ : Heap) (L FR chg : Addr) (ag : Bool) (news₀ : Led) (s₀ : Shared) (g : Int → Tm) (ok : Int → Prop) (R : Shared → Prop) (n : Nat) : Prop :=
  ∀ t r', Rb g ok ag n t r' → ∀ s x lower r, RInv h₀ L FR chg ag news₀ s₀ (x :: lower) r s → lower.length + n ≤ 400 → x.args[x.ds.length]? = some t →
      (∀ s' y r, y.f = x.f → y.args = x.args → y.ds = x.ds ++ [r'] → RInv h₀ L FR chg ag news₀ s₀ (y :: lower) r s' → R s') → R s
theorem rb_list (n : Nat) (one : One h₀ L FR chg ag news₀ s₀ g ok R n) :
    ∀ (post rs : List Tm), All2 (Rb g ok ag n) post rs → ∀ (pre : List Tm) s x lower r, RInv h₀ L FR chg ag news₀ s₀ (x :: lower) r s → lower.length + n ≤ 400 → x.args = pre ++ post → x.ds.length = pre.length →
      (∀ s' y r, y.f = x.f → y.args = x.args → y.ds = x.ds ++ rs → RInv h₀ L FR chg ag news₀ s₀ (y :: lower) r s' → R s') → R s := by
  intro post rs h
  induction h with
  | nil =>
    intro pre s x lower r hI hb ha hd k
    exact k s x r rfl rfl (by rw [List.append_nil]) hI
  | @cons a b as bs h1 _ ih =>
    intro pre s x lower r hI hb ha hd k
    refine one a b h1 s x lower r hI hb (by rw [ha, hd]; simp) ?_
    intro s' y r' e1 e2 e3 hI'
    refine ih (pre ++ [a]) s' y _ r' hI' hb (by rw [e2, ha]; simp) (by rw [e3, List.length_append, List.length_append, hd]; rfl) ?_
    intro s'' z r'' f1 f2 f3 hI''
    exact k s'' z r'' (f1.trans e1) (f2.trans e2) (by rw [f3, e3, List.append_assoc]; rfl) hI''
theorem rb_one (S : RSteps h₀ L FR chg ag news₀ s₀ g ok R) : ∀ n, One h₀ L FR chg ag news₀ s₀ g ok R n := by
  intro n
  induction n with
  | zero => intro t r' h; exact h.elim
  | succ n ih =>
    intro t r' h s x lower r hI hb hx k
    have hxl : x.ds.length < x.args.length := (List.getElem?_eq_some_iff.mp hx).1
    have inner : ∀ f args rs, args.length ≤ 1000 → All2 (Rb g ok ag n) args rs → r' = .s f rs →
        ∀ s' y, y.f = f → y.args = args → y.ds = [] → RInv h₀ L FR chg ag news₀ s₀ (y :: x :: lower) r s' → R s' := by
      intro f args rs _ hrs hr s' y e1 e2 e3 hI'
      refine rb_list n ih args rs hrs [] s' y (x :: lower) r hI' (by rw [List.length_cons]; omega) e2 (by rw [e3]) ?_
      intro s'' z r'' f1 f2 f3 hI''
      rw [e3, List.nil_append] at f3
      refine S.pop s'' z x lower r'' hI'' (by omega) (by rw [f3, f2, e2]; exact hrs.length.symm) hxl ?_
      intro s₃ y₃ g1 g2 g3 hI₃
      refine k s₃ y₃ _ g1 g2 ?_ hI₃
      rw [g3, f1, e1, f3, hr]
    cases t with
    | a i => exact S.flat s x lower r _ hI (by omega) hx (.inl ⟨i, rfl⟩) fun s' y e1 e2 e3 => k s' y r e1 e2 (by rw [e3, show r' = Tm.a i from h])
    | i i => exact S.flat s x lower r _ hI (by omega) hx (.inr ⟨i, rfl⟩) fun s' y e1 e2 e3 => k s' y r e1 e2 (by rw [e3, show r' = Tm.i i from h])
    | v i =>
      obtain ⟨hok, ⟨rfl, hn⟩ | ⟨hag, f, args, rs, hg, hr, hl, hrs⟩⟩ := h
      · exact S.vari s x lower r i hI (by omega) hx hok hn fun s' y e1 e2 e3 => k s' y r e1 e2 e3
      · exact S.into s x lower r i f args hI (by omega) hx hok hag hg hl (inner f args rs hl hrs hr)
    | s f args =>
      obtain ⟨rs, hr, hl, hrs⟩ := h
      exact S.push s x lower r f args hI (by omega) hx hl (inner f args rs hl hrs hr)
theorem rb_top (S : RSteps h₀ L FR chg ag news₀ s₀ g ok R) {n : Nat} {rs : List Tm} {s : Shared} {x : FrD} {r : Tm} (hrs : All2 (Rb g ok ag n) x.args rs) (hn : n ≤ 400) (hI : RInv h₀ L FR chg ag news₀ s₀ [x] r s) (hd : x.ds = [])
    (k : ∀ s', RInv h₀ L FR chg ag news₀ s₀ [] (.s x.f rs) s' → R s') : R s := by
  refine rb_list n (rb_one S n) x.args rs hrs [] s x [] r hI (by rw [List.length_nil]; omega) rfl (by rw [hd]) ?_
  intro s' y r' e1 e2 e3 hI'
  rw [hd, List.nil_append] at e3
  refine S.last s' y r' hI' (by rw [e3, e2]; exact hrs.length.symm) ?_
  rw [e3, e1]
  exact k
end
end Mine

/-! part Rb1 -/
namespace Mine
local macro_rules | `(tactic| k_mem) => `(tactic| first | with_reducible assumption | with_reducible exact List.mem_cons_self | (with_reducible refine List.mem_cons_of_mem _ ?_; k_mem) | (with_reducible refine List.mem_append.mpr (Or.inr ?_); k_mem) | (with_reducible refine List.mem_append.mpr (Or.inl ?_); k_mem))
local macro_rules | `(tactic| k_all) => `(tactic| first | assumption | (intro q9 hq9; exact (by assumption : ∀ q ∈ _, q.1 ≠ _) q9 hq9))
local macro_rules | `(tactic| k_ne) => `(tactic| first | assumption | (apply Ne.symm; assumption))

def Stop (p : Prop) : Prop := p
section
variable {prog : Program} {w : World} {A : Around} {E : Value → Shared → Prop} {s : Shared} {env : Env} {test : PySem.Expr} {body orelse : List Stmt} {Q : Flow → Shared → Prop}
theorem while_stop {pos : Pos} (h : Stop (WhlRest prog w A E env test body orelse Q 0 s)) : wpAny (model prog w) A (exec (.While test body orelse pos) env) Q E s := whl_start 0 h
def EndOf (R : Shared → Prop) (Q : Flow → Shared → Prop) (f : Flow) (s : Shared) : Prop :=
  match f with
  | .next => R s
  | .cont => R s
  | .brk => Q .next s
  | .ret v => Q (.ret v) s
theorem my_turn {R : Shared → Prop} (hE : PassesOwn (model prog w) A env E) (hR : ∀ s, R s → WhlRest prog w A E env test body orelse Q 0 s)
    (h : wpAny (model prog w) A (isTrue test env (eval test env)) (fun b s₂ => WhlIf b (wpAny (model prog w) A (execs body env) (EndOf R Q) E s₂) (wpAny (model prog w) A (execs orelse env) Q E s₂)) E s) :
    WhlRest prog w A E env test body orelse Q 0 s :=
  whl_turn (k := 0) hE (wpAny_mono h (fun b s₂ h₂ => by
    cases b with
    | false => exact h₂
    | true => exact wpAny_mono h₂ (fun f s₃ h₃ => by cases f <;> first | exact h₃ | exact hR _ h₃) fun _ _ e => e) fun _ _ e => e)
end
local macro_rules | `(tactic| walk_at "eval Name") => `(tactic| (k_here; k_dflt (refine' nameX_L ?F ?v ?_ ?a ?b; (case F => k_asm); (case a => rfl); (case b => rfl); (case v => rfl); k_whole)))
local macro_rules | `(tactic| walk_at "exec While Name") => `(tactic| refine while_stop ?_)
local macro_rules | `(tactic| walk_at "exec While") => `(tactic| refine while_stop ?_)


section
variable {prog : Program} {w : World} {A : Around} {E : Value → Shared → Prop} {s : Shared} {h₀ : Heap} {L a : Addr} {m : Str → Option Value} {news news' : Led} {xs vs : List Value} {y v : Value} {n j : Nat} {u : Tok} {value slice : PySem.Expr}
theorem r_truthy1 {Q : Bool → Shared → Prop} (N : News h₀ L s.heap news) (hm : (a, listOf (xs ++ [y]).toArray n) ∈ news) (hz : xs.length ≤ 1000) (h : Q true { s with toks := s.toks + 1 + 1 }) : wpAny (model prog w) A (truthy (.ref a)) Q E s :=
  kgr_truthy N hm rfl rfl (by rw [List.length_append, List.length_singleton]; omega) (by cases xs <;> exact h)
theorem r_truthy0 {Q : Bool → Shared → Prop} (N : News h₀ L s.heap news) (hm : (a, listOf xs.toArray n) ∈ news) (hz : xs = []) (h : Q false { s with toks := s.toks + 1 + 1 }) : wpAny (model prog w) A (truthy (.ref a)) Q E s :=
  kgr_truthy N hm rfl rfl (by subst hz; decide) (by subst hz; exact h)
theorem r_last {Q : Value → Shared → Prop} (N : News h₀ L s.heap news) (hm : (a, listOf (xs ++ [y]).toArray n) ∈ news) (hz : xs.length ≤ 1000) (h : Q y s)
    (hs : subscripted slice false (.ref a) (.int (-1) u) = operate [.ref a, .int (-1) u] (getItem (.ref a) (.int (-1) u)) := by with_unfolding_all rfl) (hg : ∀ r, letTemporaryGo value (.ref a) r = pure () := by intro _; with_unfolding_all rfl) :
    wpAny (model prog w) A (subscriptTail value slice (.ref a) (.int (-1) u)) Q E s := by
  refine kim_back N hm rfl rfl (by decide) (by rw [List.length_append, List.length_singleton]; omega) (by decide) ?_ h hs hg
  rw [List.length_append, List.length_singleton, show (-1 + ((xs.length + 1 : Nat) : Int)).toNat = xs.length by omega]
  simp
theorem r_lenL {Q : Value → Shared → Prop} (N : News h₀ L s.heap news) (hm : (a, listOf vs.toArray n) ∈ news) (hz : vs.length ≤ 1000) (h : Q (.int (vs.length : Int) (s.toks + 1)) { s with toks := s.toks + 1 + 1 }) :
    wpAny (model prog w) A (call (.builtin "len") [.ref a]) Q E s := kun_lenL (News.isList N hm) (by rw [List.size_toArray]) (by omega) h
theorem r_lenT {Q : Value → Shared → Prop} (N : News h₀ L s.heap news) (hm : (a, tupO vs n) ∈ news) (hz : vs.length ≤ 1000) (h : Q (.int (vs.length : Int) (s.toks + 1)) { s with toks := s.toks + 1 + 1 }) :
    wpAny (model prog w) A (call (.builtin "len") [.ref a]) Q E s := kun_lenT (News.isTup N hm) (by rw [List.size_toArray]) (by omega) h
theorem r_item {Q : Value → Shared → Prop} (N : News h₀ L s.heap news) (hm : (a, tupO vs n) ∈ news) (hx : vs[j]? = some v) (hz : vs.length ≤ 1000) (h : Q v s)
    (hs : subscripted slice false (.ref a) (.int (j : Int) u) = operate [.ref a, .int (j : Int) u] (getItem (.ref a) (.int (j : Int) u)) := by with_unfolding_all rfl) :
    wpAny (model prog w) A (subscriptTail value slice (.ref a) (.int (j : Int) u)) Q E s := by
  have hlt : j < vs.length := (List.getElem?_eq_some_iff.mp hx).1
  refine item_tupleT (News.isTup N hm) (by omega) (by omega) ?_ hx h hs
  have h1 : ¬ ((j : Int) < 0) := by omega
  have h2 : (j : Int) < (vs.length : Int) := by omega
  simp [seqIndex?, h1, h2, hlt]
theorem r_pop {Q : Value → Shared → Prop} (F : Fr h₀ L s.heap m) (N : News h₀ L s.heap news) (U : Upd a (listOf (xs ++ [y]).toArray n) (listOf xs.toArray (n + 1)) news news') (hz : xs.length ≤ 1000)
    (h : ∀ h', Fr h₀ L h' m → News h₀ L h' news' → Q y { s with heap := h' }) : wpAny (model prog w) A (call (.builtin "list.pop") [.ref a]) Q E s := by
  refine kl_pop F N (p := xs) (y := y) ?_ U (by rw [sizeLine_eq]; simp; omega) h
  show kl_last (xs ++ [y]) = some (xs, y)
  clear U hz h
  induction xs with
  | nil => rfl
  | cons x xs ih => rw [List.cons_append]; unfold kl_last; rw [ih]
theorem r_append {Q : Value → Shared → Prop} (F : Fr h₀ L s.heap m) (N : News h₀ L s.heap news) (U : Upd a (listOf xs.toArray n) (listOf (xs ++ [y]).toArray (n + 1)) news news') (hz : xs.length ≤ 1000)
    (h : ∀ h', Fr h₀ L h' m → News h₀ L h' news' → Q .none { s with heap := h' }) : wpAny (model prog w) A (call (.builtin "list.append") [.ref a, y]) Q E s :=
  append_K F N (by rw [List.push_toArray]; exact U) h (by rw [List.size_toArray, sizeLine_eq]; omega)
theorem r_tupOf {Q : Value → Shared → Prop} (F : Fr h₀ L s.heap m) (N : News h₀ L s.heap news) (hm : (a, listOf vs.toArray n) ∈ news) (hz : vs.length ≤ 1000)
    (h : ∀ D h', Fr h₀ L h' m → News h₀ L h' ((D, tupO vs 0) :: news) → (∀ p ∈ news, p.1 < D) → Q (.ref D) { s with heap := h' }) : wpAny (model prog w) A (call (.type "tuple") [.ref a]) Q E s :=
  kde_tupleOf F N (News.isList N hm) (by rw [List.size_toArray]; omega) rfl h
theorem fr_over {h₀ h : Heap} {FR chg : Addr} {ag : Bool} {rv : Value} (F : Fr h₀ L h m) (h1 : m (Str.ofString "frames") = some (.ref FR)) (h2 : m (Str.ofString "change") = some (.ref chg)) (h3 : m (Str.ofString "again") = some (.bool ag)) (h4 : m (Str.ofString "result") = some rv) :
    Fr h₀ L h (fmap FR chg ag rv m) := by
  have e : fmap FR chg ag rv m = m := by
    funext z
    unfold fmap
    by_cases q1 : z = Str.ofString "frames"
    · rw [if_pos q1, q1, h1]
    · rw [if_neg q1]
      by_cases q2 : z = Str.ofString "change"
      · rw [if_pos q2, q2, h2]
      · rw [if_neg q2]
        by_cases q3 : z = Str.ofString "again"
        · rw [if_pos q3, q3, h3]
        · rw [if_neg q3]
          by_cases q4 : z = Str.ofString "result"
          · rw [if_pos q4, q4, h4]
          · rw [if_neg q4]
  rw [e]; exact F
end
theorem rb_enter {prog : Program} {w : World} {A : Around} {E : Value → Shared → Prop} {s : Shared} {env : Env} {test : PySem.Expr} {body orelse : List Stmt} {Q : Flow → Shared → Prop} {h₀ : Heap} {L FR d t chg : Addr} {u : Str → Option Value} {news : Led} {nF nD n : Nat}
    {g : Int → Tm} {ok : Int → Prop} {ag : Bool} {wv : Value} {fn : Int} {args rs : List Tm}
    (F : Fr h₀ L s.heap (fmap FR chg ag wv u)) (N : News h₀ L s.heap ((FR, listOf #[Value.ref t] nF) :: (t, tupO [wv, .ref d] 0) :: (d, listOf #[] nD) :: news))
    (l1 : ∀ q ∈ news, q.1 < d) (l2 : @LT.lt Nat _ d t ∧ AllLt t news) (l3 : @LT.lt Nat _ t FR ∧ @LT.lt Nat _ d FR ∧ AllLt FR news) (D : TmIn news wv (.s fn args)) (hal : args.length ≤ 1000) (hrs : All2 (Rb g ok ag n) args rs) (hn : n ≤ 400)
    (S : RSteps h₀ L FR chg ag news s g ok (WhlRest prog w A E env test body orelse Q 0))
    (k : ∀ s', RInv h₀ L FR chg ag news s [] (.s fn rs) s' → WhlRest prog w A E env test body orelse Q 0 s') : WhlRest prog w A E env test body orelse Q 0 s := by
  have sub : ∀ q ∈ news, q ∈ [(t, tupO [wv, .ref d] 0)] ++ news := fun q hq => List.mem_append.mpr (.inr hq)
  refine rb_top S (x := ⟨t, wv, d, [], nD, fn, args, []⟩) (r := .s fn args) hrs hn ⟨s.heap, s.toks, u, nF, wv, [(t, tupO [wv, .ref d] 0)], rfl, F, ?_, ?_, ?_, ?_, ?_, DatIn.mono sub D⟩ rfl k
  · intro q hq
    refine N q ?_
    simp only [refs, dled, List.reverse_singleton, List.map_cons, List.map_nil, List.cons_append, List.nil_append, List.mem_cons] at hq ⊢
    rcases hq with h | h | h | h
    · exact .inl h
    · exact .inr (.inr (.inl h))
    · exact .inr (.inl h)
    · exact .inr (.inr (.inr h))
  · have : FR ≠ d := Nat.ne_of_gt l3.2.1
    simp [this]
  · intro q hq
    rcases List.mem_append.mp hq with hq | hq
    · rw [List.mem_singleton.mp hq]
      refine ⟨Nat.ne_of_lt l3.1, fun x hx => ?_⟩
      rw [List.mem_singleton.mp hx]
      exact Nat.ne_of_gt l2.1
    · refine ⟨Nat.ne_of_lt (ktn_ltOf l3.2.2 q hq), fun x hx => ?_⟩
      rw [List.mem_singleton.mp hx]
      exact Nat.ne_of_lt (l1 q hq)
  · exact above_cons l2.2 above_nil
  · intro x hx
    rw [List.mem_singleton.mp hx]
    exact ⟨.head _, DatIn.mono sub D, .nil, hal, Nat.zero_le _⟩

section
variable {prog : Program} {w : World} {f : Addr} {g : Int → Tm} {ok : Int → Prop} {rr : Nat} {p : Program} {loose : List Str} {mean : ExcName → Option Value} {mg mb : Str → Option Value}
   {dp un : Nat} {gd : Option (List Code)} {cn : Str} {cs : Scope} {a : Addr} {ccd : Value} {cl : List (Str × Addr)} {outer : List Env} {A₀ : Around} {base h₀ : Heap} {L : Addr} {m : Str → Option Value} {p1 p2 : Addr × Obj} {dl tl news : Led} {s : Shared} {k : Int} {tk : Tok} {Q E : Value → Shared → Prop}
theorem chg_leaf {x : Str} {j : Int} (H : ChgSpec prog w f g ok rr) (hok : ok k) (hg : (g k).dat = .tuple [.str x, .int j]) (B : Below A₀ base outer h₀) (F : Fr h₀ L s.heap m) (X : (hd.heap_39 w.params).In h₀) (N : News h₀ L s.heap (p1 :: p2 :: (dl ++ (tl ++ news)))) (T : Top p loose mean mg mb h₀) (hk : cs.kind = .function)
   (room : dp + rr < recursionLimit) (ur : un + 10 * rr < cLine) (o1 : ∀ q ∈ dl ++ (tl ++ news), q.1 ≠ p1.1) (o2 : ∀ q ∈ dl ++ (tl ++ news), q.1 ≠ p2.1)
   (ret : ∀ a t1 t2 n tl9 h' tk', Fr h₀ L h' m → News h₀ L h' (p1 :: p2 :: (dl ++ ((tl9 ++ tl) ++ news))) → Above tl9 (p1 :: p2 :: (dl ++ (tl ++ news))) → (a, tupO [.str x t1, .int j t2] n) ∈ (tl9 ++ tl) ++ news → TmIn ((tl9 ++ tl) ++ news) (.ref a) (g k) →
     (∀ q ∈ dl ++ ((tl9 ++ tl) ++ news), q.1 ≠ p1.1) → (∀ q ∈ dl ++ ((tl9 ++ tl) ++ news), q.1 ≠ p2.1) → Q (.ref a) { s with heap := h', toks := tk' }) :
   wpAny (model prog w) (ktrTop dp un gd cn cs L a ccd cl outer) (call (.ref f) [.int k tk]) Q E s := by
  refine H B F X N T hk hok room ur fun v tl9 h' tk' F' N' O' D' => ?_
  have D2 : TmIn ((tl9 ++ tl) ++ news) v (g k) := DatIn.mono (fun q hq => mem_l (mem_l hq)) D'
  have D3 := D2
  unfold TmIn at D3
  rw [hg] at D3
  obtain ⟨a, t1, t2, n, rfl, hm⟩ := leaf_inv D3
  exact ret a t1 t2 n tl9 h' tk' F' (news_front N') O' hm D2 (off_front O' (.inl rfl) o1) (off_front O' (.inr rfl) o2)
theorem chg_any (H : ChgSpec prog w f g ok rr) (hok : ok k) (B : Below A₀ base outer h₀) (F : Fr h₀ L s.heap m) (X : (hd.heap_39 w.params).In h₀) (N : News h₀ L s.heap (p1 :: p2 :: (dl ++ (tl ++ news)))) (T : Top p loose mean mg mb h₀) (hk : cs.kind = .function)
   (room : dp + rr < recursionLimit) (ur : un + 10 * rr < cLine) (o1 : ∀ q ∈ dl ++ (tl ++ news), q.1 ≠ p1.1) (o2 : ∀ q ∈ dl ++ (tl ++ news), q.1 ≠ p2.1)
   (ret : ∀ v tl9 h' tk', Fr h₀ L h' m → News h₀ L h' (p1 :: p2 :: (dl ++ ((tl9 ++ tl) ++ news))) → Above tl9 (p1 :: p2 :: (dl ++ (tl ++ news))) → TmIn ((tl9 ++ tl) ++ news) v (g k) →
     (∀ q ∈ dl ++ ((tl9 ++ tl) ++ news), q.1 ≠ p1.1) → (∀ q ∈ dl ++ ((tl9 ++ tl) ++ news), q.1 ≠ p2.1) → Q v { s with heap := h', toks := tk' }) :
   wpAny (model prog w) (ktrTop dp un gd cn cs L a ccd cl outer) (call (.ref f) [.int k tk]) Q E s :=
  H B F X N T hk hok room ur fun v tl9 h' tk' F' N' O' D' => ret v tl9 h' tk' F' (news_front N') O' (DatIn.mono (fun q hq => mem_l (mem_l hq)) D') (off_front O' (.inl rfl) o1) (off_front O' (.inr rfl) o2)
theorem chg_node {fn : Int} {args : List Tm} (H : ChgSpec prog w f g ok rr) (hok : ok k) (hg : g k = .s fn args) (B : Below A₀ base outer h₀) (F : Fr h₀ L s.heap m) (X : (hd.heap_39 w.params).In h₀) (N : News h₀ L s.heap (p1 :: p2 :: (dl ++ (tl ++ news)))) (T : Top p loose mean mg mb h₀) (hk : cs.kind = .function)
   (room : dp + rr < recursionLimit) (ur : un + 10 * rr < cLine) (o1 : ∀ q ∈ dl ++ (tl ++ news), q.1 ≠ p1.1) (o2 : ∀ q ∈ dl ++ (tl ++ news), q.1 ≠ p2.1)
   (ret : ∀ a b t1 t2 n tl9 h' tk', Fr h₀ L h' m → News h₀ L h' (p1 :: p2 :: (dl ++ ((tl9 ++ tl) ++ news))) → Above tl9 (p1 :: p2 :: (dl ++ (tl ++ news))) → (a, tupO [.str (Str.ofString "s") t1, .int fn t2, .ref b] n) ∈ (tl9 ++ tl) ++ news → TmIn ((tl9 ++ tl) ++ news) (.ref a) (.s fn args) →
     (∀ q ∈ dl ++ ((tl9 ++ tl) ++ news), q.1 ≠ p1.1) → (∀ q ∈ dl ++ ((tl9 ++ tl) ++ news), q.1 ≠ p2.1) → Q (.ref a) { s with heap := h', toks := tk' }) :
   wpAny (model prog w) (ktrTop dp un gd cn cs L a ccd cl outer) (call (.ref f) [.int k tk]) Q E s := by
  refine H B F X N T hk hok room ur fun v tl9 h' tk' F' N' O' D' => ?_
  have D2 : TmIn ((tl9 ++ tl) ++ news) v (g k) := DatIn.mono (fun q hq => mem_l (mem_l hq)) D'
  rw [hg] at D2
  obtain ⟨a, b, t1, t2, n, n', vs, rfl, hm, _, _⟩ := node_inv D2
  exact ret a b t1 t2 n tl9 h' tk' F' (news_front N') O' hm D2 (off_front O' (.inl rfl) o1) (off_front O' (.inr rfl) o2)
end
local macro_rules | `(tactic| walk_at "callWith ref") => `(tactic| (k_here; k_dflt (refine' callWith_K ?k1 ?k2 ?_; (case k1 => k_asm); (case k2 => with_reducible assumption); k_whole)))
local macro_rules | `(tactic| walk_at "truthy ref") => `(tactic| (k_here; k_dflt (refine' r_truthy1 ?N ?m ?z ?_; (case N => k_asm); (case m => k_mem); (case z => with_reducible assumption); k_whole)))
local macro_rules | `(tactic| walk_at "subscriptTail Name UnaryOp ref int") => `(tactic| (k_here; (with_reducible show wpAny _ _ (subscriptTail _ _ (Value.ref _) (Value.int (-1) _)) _ _ _); k_dflt (refine' r_last ?N ?m ?z ?_ ?a ?b; (case N => k_asm); (case m => k_mem); (case z => with_reducible assumption); (case a => with_unfolding_all rfl); (case b => intro _; with_unfolding_all rfl); k_whole)))
local macro_rules | `(tactic| walk_at "subscriptTail Name Constant ref int") => `(tactic| (k_here; k_dflt (refine' item_tupleT ?t ?a ?b ?c ?d ?_; (case t => exact News.isTup (by k_asm) (by k_mem)); (case a => decide); (case b => decide); (case c => rfl); (case d => rfl); k_whole)))
local macro_rules | `(tactic| walk_at "subscriptTail Subscript") => `(tactic| (k_here; k_dflt (refine' item_tupleT ?t ?a ?b ?c ?d ?_; (case t => exact News.isTup (by k_asm) (by k_mem)); (case a => decide); (case b => decide); (case c => rfl); (case d => rfl); k_whole)))
local macro_rules | `(tactic| walk_at "subscriptTail Name Call") => `(tactic| (k_here; (with_reducible show wpAny _ _ (subscriptTail _ _ (Value.ref _) (Value.int (Nat.cast _) _)) _ _ _); k_dflt (refine' r_item ?N ?m ?x ?z ?_ ?a; (case N => k_asm); (case m => k_mem); (case x => with_reducible assumption); (case z => with_reducible assumption); (case a => with_unfolding_all rfl); k_whole)))
local macro_rules | `(tactic| walk_at "call builtin:len") => `(tactic| (k_here; (with_reducible show wpAny _ _ (call (Value.builtin "len") [Value.ref _]) _ _ _); k_dflt (first
  | (refine' r_lenL ?N ?m ?z ?_; (case N => k_asm); (case m => k_mem); (case z => with_reducible assumption); k_whole)
  | (refine' r_lenT ?N ?m ?z ?_; (case N => k_asm); (case m => k_mem); (case z => with_reducible assumption); k_whole))))
local macro_rules | `(tactic| walk_at "call builtin:list.pop") => `(tactic| (k_here; k_dflt (refine' r_pop ?F ?N ?U ?z ?_; (case F => k_asm); (case N => k_asm); (case U => k_upd); (case z => with_reducible assumption); k_whole); intro h' F' N'; (try k_sweep)))
local macro_rules | `(tactic| walk_at "call builtin:list.append") => `(tactic| (k_here; k_dflt (refine' r_append ?F ?N ?U ?z ?_; (case F => k_asm); (case N => k_asm); (case U => k_upd); (case z => first | with_reducible assumption | decide); k_whole); intro h' F' N'; (try k_sweep)))
local macro_rules | `(tactic| walk_at "call type:tuple") => `(tactic| (k_here; k_dflt (refine' r_tupOf ?F ?N ?m ?z ?_; (case F => k_asm); (case N => k_asm); (case m => k_mem); (case z => with_reducible assumption); k_whole); intro D' h' F' N' l1; (try k_lt l1); (try k_sweep)))

local macro_rules | `(tactic| walk_at "ite") => `(tactic| first | (refine ite_neg ?c ?_; (case c => (simp only [beq_iff_eq]; with_reducible assumption))) | (refine ite_pos ?c ?_; (case c => (simp only [beq_iff_eq]; with_reducible assumption))))

/-- what is asked of the def that the loop stands in -/
def whileParts : List Stmt → Option (PySem.Expr × List Stmt × List Stmt)
  | [] => none
  | .While t b o _ :: _ => some (t, b, o)
  | _ :: r => whileParts r
def rbInfo (K : Frag) (f : Addr) : Option (Scope × Value × (PySem.Expr × List Stmt × List Stmt)) := match K.lookup f with
  | some ⟨_, _, .func fd, _⟩ => (match fd.body with
    | .stmts b => (whileParts b).map fun q => (fd.scope, fd.code, q)
    | _ => none)
  | _ => none

section
variable {prog : Program} {w : World} {f : Addr} {g : Int → Tm} {ok : Int → Prop} {rr : Nat}
   {p : Program} {loose : List Str} {mean : ExcName → Option Value} {mg mb : Str → Option Value}
   {dp un : Nat} {gd : Option (List Code)} {cn : Str} {cs : Scope} {a : Addr} {ccd : Value} {cl : List (Str × Addr)} {outer : List Env} {A₀ : Around} {base h₀ : Heap} {L La FR : Addr} {news : Led} {s₀ : Shared}
   {ag : Bool} {E : Value → Shared → Prop} {Q : Flow → Shared → Prop} {sc : Scope} {cd : Value} {test : PySem.Expr} {body orelse : List Stmt}

set_option maxHeartbeats 8000000 in
theorem rb_flat (H : ChgSpec prog w f g ok rr) (hkeep : keepIn (hd.heap_39 w.params) (.ref f) = true)
   (hinf : rbInfo (hd.heap_39 w.params) 28 = some (sc, cd, test, body, orelse)) (B : Below (ktrTop dp un gd cn cs La a ccd cl outer) base (envX cn cs La a ccd cl :: outer) h₀) (X : (hd.heap_39 w.params).In h₀) (T : Top p loose mean mg mb h₀)
   (room : dp + rr + 2 < recursionLimit) (ur : un + 10 * rr + 100 < cLine)
   (hE : PassesOwn (model prog w) ((ktrTop dp un gd cn cs La a ccd cl outer).deeper (envOf (Str.ofString "rebuild") sc L 28 cd)) (envOf (Str.ofString "rebuild") sc L 28 cd) E) (s : Shared) (x : FrD) (lower : List FrD) (r t : Tm) (hI : RInv h₀ L FR f ag news s₀ (x :: lower) r s) (hlow : lower.length ≤ 500) (hx : x.args[x.ds.length]? = some t) {st : Str} {k : Int} (ht : t.dat = .tuple [.str st, .int k]) (nv : ¬ st = Str.ofString "v") (ns : ¬ st = Str.ofString "s")
    (kk : ∀ s' y, y.f = x.f → y.args = x.args → y.ds = x.ds ++ [t] → RInv h₀ L FR f ag news s₀ (y :: lower) r s' → WhlRest prog w ((ktrTop dp un gd cn cs La a ccd cl outer).deeper (envOf (Str.ofString "rebuild") sc L 28 cd)) E (envOf (Str.ofString "rebuild") sc L 28 cd) test body orelse Q 0 s') :
    WhlRest prog w ((ktrTop dp un gd cn cs La a ccd cl outer).deeper (envOf (Str.ofString "rebuild") sc L 28 cd)) E (envOf (Str.ofString "rebuild") sc L 28 cd) test body orelse Q 0 s := by
  obtain ⟨R, hR1, hR2⟩ : ∃ R : Shared → Prop, (∀ s', R s' → WhlRest prog w _ E _ test body orelse Q 0 s') ∧ ∀ s' y, RInv h₀ L FR f ag news s₀ (y :: lower) r s' → y.f = x.f → y.args = x.args → y.ds = x.ds ++ [t] → R s' := ⟨_, fun _ h => h, fun s' y hI e1 e2 e3 => kk s' y e1 e2 e3 hI⟩
  clear kk
  rw [show rbInfo (hd.heap_39 w.params) 28 = some (_, _, _, _, _) from rfl] at hinf
  obtain ⟨rfl, rfl, rfl, rfl, rfl⟩ := by simpa only [Option.some.injEq, Prod.mk.injEq] using hinf
  obtain ⟨tl, h, tk, u, nF, rv, wa, ba, u1, u2, k1, k2, avs, rfl, O⟩ := hI.open hlow
  clear hI
  have F3 := O.F
  have N3 := O.N
  have nd := O.nd
  have oFR := O.oFR
  have oD := O.oD
  have hxt := O.hxt
  have hw1 := O.hw1
  have hw2 := O.hw2
  have z1 := O.z1
  have z2 := O.z2
  have z3 := O.z3
  have hlt : x.ds.length < x.args.length := (List.getElem?_eq_some_iff.mp hx).1
  obtain ⟨pv, hpv, hpD⟩ := O.hav.get hx
  rw [← O.e1] at hpv
  have hne : ¬ (x.dones.length : Int) = (avs.length : Int) := by have := O.e1; have := O.e2; omega
  have hpD' := hpD
  unfold TmIn at hpD'
  rw [ht] at hpD'
  obtain ⟨pa, pt1, pt2, pn, rfl, hp⟩ := leaf_inv hpD'
  refine my_turn (R := R) hE hR1 ?_
  k_steps
  rename Fr _ _ _ _ => F9
  rename News _ _ _ _ => N9
  show R _
  exact hR2 _ _ (O.closeDone (oa := default) (ob := default) (tl9 := []) hlt (fr_over F9 rfl rfl rfl rfl) N9 above_nil hpD) rfl rfl rfl
local macro_rules | `(tactic| walk_at "call ref") => `(tactic| (k_here; k_dflt (
  (refine' chg_any ?k1 ?k2 ?k4 ?k5 ?k6 ?k7 ?k8 ?k9 ?k10 ?k11 ?k12 ?k13 ?_; (case k1 => with_reducible assumption); (case k2 => with_reducible assumption); (case k4 => k_asm); (case k5 => k_asm); (case k6 => k_asm); (case k7 => k_asm); (case k8 => k_asm); (case k9 => first | exact rfl | assumption); (case k10 => (dsimp only [ktrTop, Around.deeper]; omega)); (case k11 => (dsimp only [ktrTop, Around.deeper]; omega)); (case k12 => assumption); (case k13 => assumption); k_whole; intro v9 tl9 h9 tk9 F9 N9 O9 D9 o19 o29; (try dsimp only); (try k_fold)))))
set_option maxHeartbeats 8000000 in
theorem rb_variF (H : ChgSpec prog w f g ok rr) (hkeep : keepIn (hd.heap_39 w.params) (.ref f) = true)
   (hinf : rbInfo (hd.heap_39 w.params) 28 = some (sc, cd, test, body, orelse)) (B : Below (ktrTop dp un gd cn cs La a ccd cl outer) base (envX cn cs La a ccd cl :: outer) h₀) (X : (hd.heap_39 w.params).In h₀) (T : Top p loose mean mg mb h₀)
   (room : dp + rr + 2 < recursionLimit) (ur : un + 10 * rr + 100 < cLine)
   (hE : PassesOwn (model prog w) ((ktrTop dp un gd cn cs La a ccd cl outer).deeper (envOf (Str.ofString "rebuild") sc L 28 cd)) (envOf (Str.ofString "rebuild") sc L 28 cd) E) (s : Shared) (x : FrD) (lower : List FrD) (r : Tm) (k : Int) (hI : RInv h₀ L FR f ag news s₀ (x :: lower) r s) (hlow : lower.length ≤ 500) (hx : x.args[x.ds.length]? = some (.v k)) (hok : ok k) (hag : ag = false)
    (kk : ∀ s' y, y.f = x.f → y.args = x.args → y.ds = x.ds ++ [g k] → RInv h₀ L FR f ag news s₀ (y :: lower) r s' → WhlRest prog w ((ktrTop dp un gd cn cs La a ccd cl outer).deeper (envOf (Str.ofString "rebuild") sc L 28 cd)) E (envOf (Str.ofString "rebuild") sc L 28 cd) test body orelse Q 0 s') :
    WhlRest prog w ((ktrTop dp un gd cn cs La a ccd cl outer).deeper (envOf (Str.ofString "rebuild") sc L 28 cd)) E (envOf (Str.ofString "rebuild") sc L 28 cd) test body orelse Q 0 s := by
  subst hag
  obtain ⟨R, hR1, hR2⟩ : ∃ R : Shared → Prop, (∀ s', R s' → WhlRest prog w _ E _ test body orelse Q 0 s') ∧ ∀ s' y, RInv h₀ L FR f false news s₀ (y :: lower) r s' → y.f = x.f → y.args = x.args → y.ds = x.ds ++ [g k] → R s' := ⟨_, fun _ h => h, fun s' y hI e1 e2 e3 => kk s' y e1 e2 e3 hI⟩
  clear kk
  rw [show rbInfo (hd.heap_39 w.params) 28 = some (_, _, _, _, _) from rfl] at hinf
  obtain ⟨rfl, rfl, rfl, rfl, rfl⟩ := by simpa only [Option.some.injEq, Prod.mk.injEq] using hinf
  obtain ⟨tl, h, tk, u, nF, rv, wa, ba, u1, u2, k1, k2, avs, rfl, O⟩ := hI.open hlow
  clear hI
  have F3 := O.F
  have N3 := O.N
  have nd := O.nd
  have oFR := O.oFR
  have oD := O.oD
  have hxt := O.hxt
  have hw1 := O.hw1
  have hw2 := O.hw2
  have z1 := O.z1
  have z2 := O.z2
  have z3 := O.z3
  have hlt : x.ds.length < x.args.length := (List.getElem?_eq_some_iff.mp hx).1
  obtain ⟨pv, hpv, hpD⟩ := O.hav.get hx
  rw [← O.e1] at hpv
  have hne : ¬ (x.dones.length : Int) = (avs.length : Int) := by have := O.e1; have := O.e2; omega
  obtain ⟨pa, pt1, pt2, pn, rfl, hp⟩ := leaf_inv hpD
  refine my_turn (R := R) hE hR1 ?_
  k_steps
  rename Fr _ _ _ _ => F9
  rename News _ _ _ _ => N9
  rename Above _ _ => O9
  rename TmIn _ _ (g k) => D9
  show R _
  exact hR2 _ _ (O.closeDone hlt (fr_over F9 rfl rfl rfl rfl) N9 O9 D9) rfl rfl rfl
local macro_rules | `(tactic| walk_at "call ref") => `(tactic| (k_here; k_dflt (
  (refine' chg_leaf ?k1 ?k2 ?k3 ?k4 ?k5 ?k6 ?k7 ?k8 ?k9 ?k10 ?k11 ?k12 ?k13 ?_; (case k1 => with_reducible assumption); (case k2 => with_reducible assumption); (case k3 => with_reducible assumption); (case k4 => k_asm); (case k5 => k_asm); (case k6 => k_asm); (case k7 => k_asm); (case k8 => k_asm); (case k9 => first | exact rfl | assumption); (case k10 => (dsimp only [ktrTop, Around.deeper]; omega)); (case k11 => (dsimp only [ktrTop, Around.deeper]; omega)); (case k12 => assumption); (case k13 => assumption); k_whole; intro a9 t9 u9 n9 tl9 h9 tk9 F9 N9 O9 hm9 D9 o19 o29; (try dsimp only); (try k_fold)))))
set_option maxHeartbeats 8000000 in
theorem rb_variT (H : ChgSpec prog w f g ok rr) (hkeep : keepIn (hd.heap_39 w.params) (.ref f) = true)
   (hinf : rbInfo (hd.heap_39 w.params) 28 = some (sc, cd, test, body, orelse)) (B : Below (ktrTop dp un gd cn cs La a ccd cl outer) base (envX cn cs La a ccd cl :: outer) h₀) (X : (hd.heap_39 w.params).In h₀) (T : Top p loose mean mg mb h₀)
   (room : dp + rr + 2 < recursionLimit) (ur : un + 10 * rr + 100 < cLine)
   (hE : PassesOwn (model prog w) ((ktrTop dp un gd cn cs La a ccd cl outer).deeper (envOf (Str.ofString "rebuild") sc L 28 cd)) (envOf (Str.ofString "rebuild") sc L 28 cd) E) (s : Shared) (x : FrD) (lower : List FrD) (r : Tm) (k : Int) (hI : RInv h₀ L FR f ag news s₀ (x :: lower) r s) (hlow : lower.length ≤ 500) (hx : x.args[x.ds.length]? = some (.v k)) (hok : ok k) (hag : ag = true) {st : Str} {j : Int} (hgd : (g k).dat = .tuple [.str st, .int j]) (ns : ¬ st = Str.ofString "s")
    (kk : ∀ s' y, y.f = x.f → y.args = x.args → y.ds = x.ds ++ [g k] → RInv h₀ L FR f ag news s₀ (y :: lower) r s' → WhlRest prog w ((ktrTop dp un gd cn cs La a ccd cl outer).deeper (envOf (Str.ofString "rebuild") sc L 28 cd)) E (envOf (Str.ofString "rebuild") sc L 28 cd) test body orelse Q 0 s') :
    WhlRest prog w ((ktrTop dp un gd cn cs La a ccd cl outer).deeper (envOf (Str.ofString "rebuild") sc L 28 cd)) E (envOf (Str.ofString "rebuild") sc L 28 cd) test body orelse Q 0 s := by
  subst hag
  obtain ⟨R, hR1, hR2⟩ : ∃ R : Shared → Prop, (∀ s', R s' → WhlRest prog w _ E _ test body orelse Q 0 s') ∧ ∀ s' y, RInv h₀ L FR f true news s₀ (y :: lower) r s' → y.f = x.f → y.args = x.args → y.ds = x.ds ++ [g k] → R s' := ⟨_, fun _ h => h, fun s' y hI e1 e2 e3 => kk s' y e1 e2 e3 hI⟩
  clear kk
  rw [show rbInfo (hd.heap_39 w.params) 28 = some (_, _, _, _, _) from rfl] at hinf
  obtain ⟨rfl, rfl, rfl, rfl, rfl⟩ := by simpa only [Option.some.injEq, Prod.mk.injEq] using hinf
  obtain ⟨tl, h, tk, u, nF, rv, wa, ba, u1, u2, k1, k2, avs, rfl, O⟩ := hI.open hlow
  clear hI
  have F3 := O.F
  have N3 := O.N
  have nd := O.nd
  have oFR := O.oFR
  have oD := O.oD
  have hxt := O.hxt
  have hw1 := O.hw1
  have hw2 := O.hw2
  have z1 := O.z1
  have z2 := O.z2
  have z3 := O.z3
  have hlt : x.ds.length < x.args.length := (List.getElem?_eq_some_iff.mp hx).1
  obtain ⟨pv, hpv, hpD⟩ := O.hav.get hx
  rw [← O.e1] at hpv
  have hne : ¬ (x.dones.length : Int) = (avs.length : Int) := by have := O.e1; have := O.e2; omega
  obtain ⟨pa, pt1, pt2, pn, rfl, hp⟩ := leaf_inv hpD
  refine my_turn (R := R) hE hR1 ?_
  k_steps
  rename Fr _ _ _ _ => F9
  rename News _ _ _ _ => N9
  rename Above _ _ => O9
  rename TmIn _ _ (g k) => D9
  show R _
  exact hR2 _ _ (O.closeDone hlt (fr_over F9 rfl rfl rfl rfl) N9 O9 D9) rfl rfl rfl
local macro_rules | `(tactic| walk_at "call ref") => `(tactic| (k_here; k_dflt (
  (refine' chg_node ?k1 ?k2 ?k3 ?k4 ?k5 ?k6 ?k7 ?k8 ?k9 ?k10 ?k11 ?k12 ?k13 ?_; (case k1 => with_reducible assumption); (case k2 => with_reducible assumption); (case k3 => with_reducible assumption); (case k4 => k_asm); (case k5 => k_asm); (case k6 => k_asm); (case k7 => k_asm); (case k8 => k_asm); (case k9 => first | exact rfl | assumption); (case k10 => (dsimp only [ktrTop, Around.deeper]; omega)); (case k11 => (dsimp only [ktrTop, Around.deeper]; omega)); (case k12 => assumption); (case k13 => assumption); k_whole; intro a9 b9 t9 u9 n9 tl9 h9 tk9 F9 N9 O9 hm9 D9 o19 o29; (try dsimp only); (try k_fold)))))
set_option maxHeartbeats 8000000 in
theorem rb_into (H : ChgSpec prog w f g ok rr) (hkeep : keepIn (hd.heap_39 w.params) (.ref f) = true)
   (hinf : rbInfo (hd.heap_39 w.params) 28 = some (sc, cd, test, body, orelse)) (B : Below (ktrTop dp un gd cn cs La a ccd cl outer) base (envX cn cs La a ccd cl :: outer) h₀) (X : (hd.heap_39 w.params).In h₀) (T : Top p loose mean mg mb h₀)
   (room : dp + rr + 2 < recursionLimit) (ur : un + 10 * rr + 100 < cLine)
   (hE : PassesOwn (model prog w) ((ktrTop dp un gd cn cs La a ccd cl outer).deeper (envOf (Str.ofString "rebuild") sc L 28 cd)) (envOf (Str.ofString "rebuild") sc L 28 cd) E) (s : Shared) (x : FrD) (lower : List FrD) (r : Tm) (k : Int) (fn : Int) (args : List Tm) (hI : RInv h₀ L FR f ag news s₀ (x :: lower) r s) (hlow : lower.length ≤ 500) (hx : x.args[x.ds.length]? = some (.v k)) (hok : ok k) (hag : ag = true) (hgn : g k = .s fn args) (hal : args.length ≤ 1000)
    (kk : ∀ s' y, y.f = fn → y.args = args → y.ds = [] → RInv h₀ L FR f ag news s₀ (y :: x :: lower) r s' → WhlRest prog w ((ktrTop dp un gd cn cs La a ccd cl outer).deeper (envOf (Str.ofString "rebuild") sc L 28 cd)) E (envOf (Str.ofString "rebuild") sc L 28 cd) test body orelse Q 0 s') :
    WhlRest prog w ((ktrTop dp un gd cn cs La a ccd cl outer).deeper (envOf (Str.ofString "rebuild") sc L 28 cd)) E (envOf (Str.ofString "rebuild") sc L 28 cd) test body orelse Q 0 s := by
  subst hag
  obtain ⟨R, hR1, hR2⟩ : ∃ R : Shared → Prop, (∀ s', R s' → WhlRest prog w _ E _ test body orelse Q 0 s') ∧ ∀ s' y, RInv h₀ L FR f true news s₀ (y :: x :: lower) r s' → y.f = fn → y.args = args → y.ds = [] → R s' := ⟨_, fun _ h => h, fun s' y hI e1 e2 e3 => kk s' y e1 e2 e3 hI⟩
  clear kk
  rw [show rbInfo (hd.heap_39 w.params) 28 = some (_, _, _, _, _) from rfl] at hinf
  obtain ⟨rfl, rfl, rfl, rfl, rfl⟩ := by simpa only [Option.some.injEq, Prod.mk.injEq] using hinf
  obtain ⟨tl, h, tk, u, nF, rv, wa, ba, u1, u2, k1, k2, avs, rfl, O⟩ := hI.open hlow
  clear hI
  have F3 := O.F
  have N3 := O.N
  have nd := O.nd
  have oFR := O.oFR
  have oD := O.oD
  have hxt := O.hxt
  have hw1 := O.hw1
  have hw2 := O.hw2
  have z1 := O.z1
  have z2 := O.z2
  have z3 := O.z3
  have hlt : x.ds.length < x.args.length := (List.getElem?_eq_some_iff.mp hx).1
  obtain ⟨pv, hpv, hpD⟩ := O.hav.get hx
  rw [← O.e1] at hpv
  have hne : ¬ (x.dones.length : Int) = (avs.length : Int) := by have := O.e1; have := O.e2; omega
  obtain ⟨pa, pt1, pt2, pn, rfl, hp⟩ := leaf_inv hpD
  have z1' : (refs lower ++ [Value.ref x.t]).length ≤ 1000 := by rw [List.length_append, refs_length, List.length_singleton]; omega
  refine my_turn (R := R) hE hR1 ?_
  k_steps
  rename Fr _ _ _ _ => F9
  rename News _ _ _ _ => N9
  rename Above _ _ => O9
  rename TmIn _ _ (Tm.s fn args) => D9
  rename _ ∧ _ ∧ _ ∧ AllLt _ _ => lT
  rename _ ∧ _ ∧ AllLt _ _ => lD
  show R _
  exact hR2 _ _ (O.closePush (oc := default) (od := default) (fr_over F9 rfl rfl rfl rfl) N9 O9 lD lT D9 hal) rfl rfl rfl
set_option maxHeartbeats 8000000 in
theorem rb_push (H : ChgSpec prog w f g ok rr) (hkeep : keepIn (hd.heap_39 w.params) (.ref f) = true)
   (hinf : rbInfo (hd.heap_39 w.params) 28 = some (sc, cd, test, body, orelse)) (B : Below (ktrTop dp un gd cn cs La a ccd cl outer) base (envX cn cs La a ccd cl :: outer) h₀) (X : (hd.heap_39 w.params).In h₀) (T : Top p loose mean mg mb h₀)
   (room : dp + rr + 2 < recursionLimit) (ur : un + 10 * rr + 100 < cLine)
   (hE : PassesOwn (model prog w) ((ktrTop dp un gd cn cs La a ccd cl outer).deeper (envOf (Str.ofString "rebuild") sc L 28 cd)) (envOf (Str.ofString "rebuild") sc L 28 cd) E) (s : Shared) (x : FrD) (lower : List FrD) (r : Tm) (fn : Int) (args : List Tm) (hI : RInv h₀ L FR f ag news s₀ (x :: lower) r s) (hlow : lower.length ≤ 500) (hx : x.args[x.ds.length]? = some (.s fn args)) (hal : args.length ≤ 1000)
    (kk : ∀ s' y, y.f = fn → y.args = args → y.ds = [] → RInv h₀ L FR f ag news s₀ (y :: x :: lower) r s' → WhlRest prog w ((ktrTop dp un gd cn cs La a ccd cl outer).deeper (envOf (Str.ofString "rebuild") sc L 28 cd)) E (envOf (Str.ofString "rebuild") sc L 28 cd) test body orelse Q 0 s') :
    WhlRest prog w ((ktrTop dp un gd cn cs La a ccd cl outer).deeper (envOf (Str.ofString "rebuild") sc L 28 cd)) E (envOf (Str.ofString "rebuild") sc L 28 cd) test body orelse Q 0 s := by
  obtain ⟨R, hR1, hR2⟩ : ∃ R : Shared → Prop, (∀ s', R s' → WhlRest prog w _ E _ test body orelse Q 0 s') ∧ ∀ s' y, RInv h₀ L FR f ag news s₀ (y :: x :: lower) r s' → y.f = fn → y.args = args → y.ds = [] → R s' := ⟨_, fun _ h => h, fun s' y hI e1 e2 e3 => kk s' y e1 e2 e3 hI⟩
  clear kk
  rw [show rbInfo (hd.heap_39 w.params) 28 = some (_, _, _, _, _) from rfl] at hinf
  obtain ⟨rfl, rfl, rfl, rfl, rfl⟩ := by simpa only [Option.some.injEq, Prod.mk.injEq] using hinf
  obtain ⟨tl, h, tk, u, nF, rv, wa, ba, u1, u2, k1, k2, avs, rfl, O⟩ := hI.open hlow
  clear hI
  have F3 := O.F
  have N3 := O.N
  have nd := O.nd
  have oFR := O.oFR
  have oD := O.oD
  have hxt := O.hxt
  have hw1 := O.hw1
  have hw2 := O.hw2
  have z1 := O.z1
  have z2 := O.z2
  have z3 := O.z3
  have hlt : x.ds.length < x.args.length := (List.getElem?_eq_some_iff.mp hx).1
  obtain ⟨pv, hpv, hpD⟩ := O.hav.get hx
  rw [← O.e1] at hpv
  have hne : ¬ (x.dones.length : Int) = (avs.length : Int) := by have := O.e1; have := O.e2; omega
  obtain ⟨pa, pb, pt1, pt2, pn, pn2, pvs, rfl, hp, hp2, hp3⟩ := node_inv hpD
  have z1' : (refs lower ++ [Value.ref x.t]).length ≤ 1000 := by rw [List.length_append, refs_length, List.length_singleton]; omega
  refine my_turn (R := R) hE hR1 ?_
  k_steps
  rename Fr _ _ _ _ => F9
  rename News _ _ _ _ => N9
  rename _ ∧ _ ∧ _ ∧ AllLt _ _ => lT
  rename _ ∧ _ ∧ AllLt _ _ => lD
  show R _
  exact hR2 _ _ (O.closePush (oa := default) (ob := default) (oc := default) (od := default) (tl9 := []) (fr_over F9 rfl rfl rfl rfl) N9 above_nil lD lT hpD hal) rfl rfl rfl
set_option maxHeartbeats 8000000 in
theorem rb_pop (H : ChgSpec prog w f g ok rr) (hkeep : keepIn (hd.heap_39 w.params) (.ref f) = true)
   (hinf : rbInfo (hd.heap_39 w.params) 28 = some (sc, cd, test, body, orelse)) (B : Below (ktrTop dp un gd cn cs La a ccd cl outer) base (envX cn cs La a ccd cl :: outer) h₀) (X : (hd.heap_39 w.params).In h₀) (T : Top p loose mean mg mb h₀)
   (room : dp + rr + 2 < recursionLimit) (ur : un + 10 * rr + 100 < cLine)
   (hE : PassesOwn (model prog w) ((ktrTop dp un gd cn cs La a ccd cl outer).deeper (envOf (Str.ofString "rebuild") sc L 28 cd)) (envOf (Str.ofString "rebuild") sc L 28 cd) E) (s : Shared) (x z : FrD) (lower : List FrD) (r : Tm) (hI : RInv h₀ L FR f ag news s₀ (x :: z :: lower) r s) (hlow : lower.length ≤ 400) (hfull : x.ds.length = x.args.length) (hzl : z.ds.length < z.args.length)
    (kk : ∀ s' y, y.f = z.f → y.args = z.args → y.ds = z.ds ++ [.s x.f x.ds] → RInv h₀ L FR f ag news s₀ (y :: lower) (.s x.f x.ds) s' → WhlRest prog w ((ktrTop dp un gd cn cs La a ccd cl outer).deeper (envOf (Str.ofString "rebuild") sc L 28 cd)) E (envOf (Str.ofString "rebuild") sc L 28 cd) test body orelse Q 0 s') :
    WhlRest prog w ((ktrTop dp un gd cn cs La a ccd cl outer).deeper (envOf (Str.ofString "rebuild") sc L 28 cd)) E (envOf (Str.ofString "rebuild") sc L 28 cd) test body orelse Q 0 s := by
  obtain ⟨R, hR1, hR2⟩ : ∃ R : Shared → Prop, (∀ s', R s' → WhlRest prog w _ E _ test body orelse Q 0 s') ∧ ∀ s' y, RInv h₀ L FR f ag news s₀ (y :: lower) (.s x.f x.ds) s' → y.f = z.f → y.args = z.args → y.ds = z.ds ++ [.s x.f x.ds] → R s' := ⟨_, fun _ h => h, fun s' y hI e1 e2 e3 => kk s' y e1 e2 e3 hI⟩
  clear kk
  rw [show rbInfo (hd.heap_39 w.params) 28 = some (_, _, _, _, _) from rfl] at hinf
  obtain ⟨rfl, rfl, rfl, rfl, rfl⟩ := by simpa only [Option.some.injEq, Prod.mk.injEq] using hinf
  obtain ⟨tl, h, tk, u, nF, rv, wa, ba, u1, u2, k1, k2, avs, rfl, O⟩ := hI.open (by rw [List.length_cons]; omega)
  clear hI
  have F3 := O.F
  have N3 := O.N
  have nd := O.nd
  have oFR := O.oFR
  have oD := O.oD
  have hxt := O.hxt
  have hw1 := O.hw1
  have hw2 := O.hw2
  have z1 := O.z1
  have z2 := O.z2
  have z3 := O.z3
  have hne : (x.dones.length : Int) = (avs.length : Int) := by have := O.e1; have := O.e2; omega
  have okz := O.oks z (.head _)
  have hzt := okz.1
  have z4 := okz.2.2.1.length
  have z5 : z.dones.length ≤ 1000 := by have := okz.2.2.2.1; have := okz.2.2.2.2; omega
  have z1' : (refs lower).length ≤ 1000 := by rw [refs_length]; omega
  rw [refs_cons] at N3 z1
  rw [dled_cons, List.cons_append] at N3 oFR oD
  have nFz := O.nFl z (.head _)
  have nDz := O.nDl z (.head _)
  have oFR' : ∀ q ∈ dled lower ++ (tl ++ news), q.1 ≠ FR := fun q hq => oFR q (.tail _ hq)
  have oD' : ∀ q ∈ dled lower ++ (tl ++ news), q.1 ≠ x.d := fun q hq => oD q (.tail _ hq)
  have oZ : ∀ q ∈ dled lower ++ (tl ++ news), q.1 ≠ z.d := O.oZ
  clear oFR oD
  refine my_turn (R := R) hE hR1 ?_
  k_steps
  rename Fr _ _ _ _ => F9
  rename News _ _ _ _ => N9
  rename _ ∧ _ ∧ _ ∧ _ ∧ AllLt _ _ => lR
  rename _ ∧ _ ∧ _ ∧ AllLt _ _ => lA
  show R _
  exact hR2 _ _ (O.closePop (oa := default) (ob := default) (oc := default) hzl (fr_over F9 rfl rfl rfl rfl) N9 lA lR) rfl rfl rfl
local macro_rules | `(tactic| walk_at "truthy ref") => `(tactic| (k_here; k_dflt (refine' r_truthy0 ?N ?m ?z ?_; (case N => k_asm); (case m => k_mem); (case z => with_reducible assumption); k_whole)))
set_option maxHeartbeats 8000000 in
theorem rb_last (H : ChgSpec prog w f g ok rr) (hkeep : keepIn (hd.heap_39 w.params) (.ref f) = true)
   (hinf : rbInfo (hd.heap_39 w.params) 28 = some (sc, cd, test, body, orelse)) (B : Below (ktrTop dp un gd cn cs La a ccd cl outer) base (envX cn cs La a ccd cl :: outer) h₀) (X : (hd.heap_39 w.params).In h₀) (T : Top p loose mean mg mb h₀)
   (room : dp + rr + 2 < recursionLimit) (ur : un + 10 * rr + 100 < cLine)
   (hE : PassesOwn (model prog w) ((ktrTop dp un gd cn cs La a ccd cl outer).deeper (envOf (Str.ofString "rebuild") sc L 28 cd)) (envOf (Str.ofString "rebuild") sc L 28 cd) E) (s : Shared) (x : FrD) (r : Tm) (hI : RInv h₀ L FR f ag news s₀ [x] r s) (hfull : x.ds.length = x.args.length)
    (kk : ∀ s', RInv h₀ L FR f ag news s₀ [] (.s x.f x.ds) s' → WhlRest prog w ((ktrTop dp un gd cn cs La a ccd cl outer).deeper (envOf (Str.ofString "rebuild") sc L 28 cd)) E (envOf (Str.ofString "rebuild") sc L 28 cd) test body orelse Q 0 s') :
    WhlRest prog w ((ktrTop dp un gd cn cs La a ccd cl outer).deeper (envOf (Str.ofString "rebuild") sc L 28 cd)) E (envOf (Str.ofString "rebuild") sc L 28 cd) test body orelse Q 0 s := by
  obtain ⟨R, hR1, hR2⟩ : ∃ R : Shared → Prop, (∀ s', R s' → WhlRest prog w _ E _ test body orelse Q 0 s') ∧ ∀ s', RInv h₀ L FR f ag news s₀ [] (.s x.f x.ds) s' → R s' := ⟨_, fun _ h => h, kk⟩
  clear kk
  rw [show rbInfo (hd.heap_39 w.params) 28 = some (_, _, _, _, _) from rfl] at hinf
  obtain ⟨rfl, rfl, rfl, rfl, rfl⟩ := by simpa only [Option.some.injEq, Prod.mk.injEq] using hinf
  obtain ⟨tl, h, tk, u, nF, rv, wa, ba, u1, u2, k1, k2, avs, rfl, O⟩ := hI.open (Nat.zero_le _)
  clear hI
  have F3 := O.F
  have N3 := O.N
  have nd := O.nd
  have oFR := O.oFR
  have oD := O.oD
  have hxt := O.hxt
  have hw1 := O.hw1
  have hw2 := O.hw2
  have z1 := O.z1
  have z2 := O.z2
  have z3 := O.z3
  have hne : (x.dones.length : Int) = (avs.length : Int) := by have := O.e1; have := O.e2; omega
  have hn0 : refs [] = [] := rfl
  rw [show dled [] = [] from rfl, List.nil_append] at N3 oFR oD
  refine my_turn (R := R) hE hR1 ?_
  k_steps
  rename Fr _ _ _ _ => F9
  rename News _ _ _ _ => N9
  rename _ ∧ _ ∧ _ ∧ AllLt _ _ => lR
  rename _ ∧ _ ∧ AllLt _ _ => lA
  show R _
  exact hR2 _ (O.closeLast (oa := default) (ob := default) (fr_over F9 rfl rfl rfl rfl) N9 lA lR)
set_option maxHeartbeats 8000000 in
theorem rb_exit (H : ChgSpec prog w f g ok rr) (hkeep : keepIn (hd.heap_39 w.params) (.ref f) = true)
   (hinf : rbInfo (hd.heap_39 w.params) 28 = some (sc, cd, test, body, orelse)) (B : Below (ktrTop dp un gd cn cs La a ccd cl outer) base (envX cn cs La a ccd cl :: outer) h₀) (X : (hd.heap_39 w.params).In h₀) (T : Top p loose mean mg mb h₀)
   (room : dp + rr + 2 < recursionLimit) (ur : un + 10 * rr + 100 < cLine)
   (hE : PassesOwn (model prog w) ((ktrTop dp un gd cn cs La a ccd cl outer).deeper (envOf (Str.ofString "rebuild") sc L 28 cd)) (envOf (Str.ofString "rebuild") sc L 28 cd) E) (s : Shared) (r : Tm) (hI : RInv h₀ L FR f ag news s₀ [] r s)
    (kk : ∀ h' tk' u rv tl, Fr h₀ L h' (fmap FR f ag rv u) → News h₀ L h' (tl ++ news) → Above tl news → TmIn (tl ++ news) rv r → Q .next { s₀ with heap := h', toks := tk' }) :
    WhlRest prog w ((ktrTop dp un gd cn cs La a ccd cl outer).deeper (envOf (Str.ofString "rebuild") sc L 28 cd)) E (envOf (Str.ofString "rebuild") sc L 28 cd) test body orelse Q 0 s := by
  rw [show rbInfo (hd.heap_39 w.params) 28 = some (_, _, _, _, _) from rfl] at hinf
  obtain ⟨rfl, rfl, rfl, rfl, rfl⟩ := by simpa only [Option.some.injEq, Prod.mk.injEq] using hinf
  obtain ⟨h, tk, u, nF, rv, tl, rfl, F3, N3, nd, off, ab, oks, D3⟩ := hI
  have hn0 : refs [] = [] := rfl
  rw [show dled [] = [] from rfl, List.nil_append] at N3
  refine my_turn (R := fun _ => False) hE (fun _ h => h.elim) ?_
  k_steps
  exact kk _ _ u rv tl F3 (fun q hq => N3 q (.tail _ hq)) ab D3
end
end Mine

/-! part Rb2 -/
namespace Mine
local macro_rules | `(tactic| walk_at "own Rb2 0") => `(tactic| skip)
local macro_rules | `(tactic| walk_at "own Rb2 1") => `(tactic| skip)
local macro_rules | `(tactic| walk_at "own Rb2 2") => `(tactic| skip)
local macro_rules | `(tactic| walk_at "own Rb2 3") => `(tactic| skip)
local macro_rules | `(tactic| walk_at "own Rb2 4") => `(tactic| skip)
local macro_rules | `(tactic| walk_at "own Rb2 5") => `(tactic| skip)
local macro_rules | `(tactic| walk_at "own Rb2 6") => `(tactic| skip)
local macro_rules | `(tactic| walk_at "own Rb2 7") => `(tactic| skip)
local macro_rules | `(tactic| walk_at "own Rb2 8") => `(tactic| skip)
local macro_rules | `(tactic| walk_at "own Rb2 9") => `(tactic| skip)
local macro_rules | `(tactic| walk_at "own Rb2 10") => `(tactic| skip)
local macro_rules | `(tactic| walk_at "own Rb2 11") => `(tactic| skip)
local macro_rules | `(tactic| walk_at "own Rb2 12") => `(tactic| skip)
local macro_rules | `(tactic| k_mem) => `(tactic| first | with_reducible assumption | with_reducible exact List.mem_cons_self | (with_reducible refine List.mem_cons_of_mem _ ?_; k_mem) | (with_reducible refine List.mem_append.mpr (Or.inr ?_); k_mem) | (with_reducible refine List.mem_append.mpr (Or.inl ?_); k_mem))
local macro_rules | `(tactic| walk_at "eval Name") => `(tactic| (k_here; k_dflt (refine' nameX_L ?F ?v ?_ ?a ?b; (case F => k_asm); (case a => rfl); (case b => rfl); (case v => rfl); k_whole)))
local macro_rules | `(tactic| walk_at "exec While Name") => `(tactic| refine while_stop ?_)
local macro_rules | `(tactic| walk_at "exec While") => `(tactic| refine while_stop ?_)
local macro_rules | `(tactic| walk_at "subscriptTail Name Constant ref int") => `(tactic| (k_here; k_dflt (refine' item_tupleT ?t ?a ?b ?c ?d ?_; (case t => exact News.isTup (by k_asm) (by k_mem)); (case a => decide); (case b => decide); (case c => rfl); (case d => rfl); k_whole)))
local macro_rules | `(tactic| walk_at "callWith ref") => `(tactic| (k_here; k_dflt (refine' callWith_K ?k1 ?k2 ?_; (case k1 => k_asm); (case k2 => with_reducible assumption); k_whole)))

section
variable {prog : Program} {w : World} {f : Addr} {g : Int → Tm} {ok : Int → Prop} {rr : Nat}
   {p : Program} {loose : List Str} {mean : ExcName → Option Value} {mg mb : Str → Option Value}
   {dp un : Nat} {gd : Option (List Code)} {cn : Str} {cs : Scope} {a : Addr} {ccd : Value} {cl : List (Str × Addr)} {outer : List Env} {A₀ : Around} {base h₀ : Heap} {L La FR : Addr} {news : Led} {s₀ : Shared}
   {ag : Bool} {E : Value → Shared → Prop} {Q : Flow → Shared → Prop} {sc : Scope} {cd : Value} {test : PySem.Expr} {body orelse : List Stmt}

theorem rb_run {u : Str → Option Value} {nF nD n : Nat} {wv : Value} {fn : Int} {args rs : List Tm} {t d : Addr}
   (H : ChgSpec prog w f g ok rr) (hkeep : keepIn (hd.heap_39 w.params) (.ref f) = true)
   (hinf : rbInfo (hd.heap_39 w.params) 28 = some (sc, cd, test, body, orelse)) (B : Below (ktrTop dp un gd cn cs La a ccd cl outer) base (envX cn cs La a ccd cl :: outer) h₀) (X : (hd.heap_39 w.params).In h₀) (T : Top p loose mean mg mb h₀)
   (room : dp + rr + 2 < recursionLimit) (ur : un + 10 * rr + 100 < cLine)
   (hE : PassesOwn (model prog w) ((ktrTop dp un gd cn cs La a ccd cl outer).deeper (envOf (Str.ofString "rebuild") sc L 28 cd)) (envOf (Str.ofString "rebuild") sc L 28 cd) E)
   (F : Fr h₀ L s₀.heap (fmap FR f ag wv u)) (N : News h₀ L s₀.heap ((FR, listOf #[Value.ref t] nF) :: (t, tupO [wv, .ref d] 0) :: (d, listOf #[] nD) :: news))
   (l1 : ∀ q ∈ news, q.1 < d) (l2 : @LT.lt Nat _ d t ∧ AllLt t news) (l3 : @LT.lt Nat _ t FR ∧ @LT.lt Nat _ d FR ∧ AllLt FR news) (D : TmIn news wv (.s fn args)) (hal : args.length ≤ 1000) (hrs : All2 (Rb g ok ag n) args rs) (hn : n ≤ 400)
   (kk : ∀ h' tk' u rv tl, Fr h₀ L h' (fmap FR f ag rv u) → News h₀ L h' (tl ++ news) → Above tl news → TmIn (tl ++ news) rv (.s fn rs) → Q .next { s₀ with heap := h', toks := tk' }) :
   WhlRest prog w ((ktrTop dp un gd cn cs La a ccd cl outer).deeper (envOf (Str.ofString "rebuild") sc L 28 cd)) E (envOf (Str.ofString "rebuild") sc L 28 cd) test body orelse Q 0 s₀ := by
  refine rb_enter F N l1 l2 l3 D hal hrs hn ⟨?flat, ?vari, ?into, ?push, ?pop, ?last⟩ fun s' hI => rb_exit H hkeep hinf B X T room ur hE s' _ hI kk
  case flat =>
    intro s x lower r t hI hlow hx ht kk
    rcases ht with ⟨k, rfl⟩ | ⟨k, rfl⟩
    · exact rb_flat H hkeep hinf B X T room ur hE s x lower r _ hI hlow hx (st := Str.ofString "a") (k := k) rfl (by decide) (by decide) kk
    · exact rb_flat H hkeep hinf B X T room ur hE s x lower r _ hI hlow hx (st := Str.ofString "i") (k := k) rfl (by decide) (by decide) kk
  case vari =>
    intro s x lower r k hI hlow hx hok hns kk
    cases hag : ag with
    | false => 
      subst hag
      exact rb_variF H hkeep hinf B X T room ur hE s x lower r k hI hlow hx hok rfl kk
    | true =>
      subst hag
      have hns := hns.resolve_left (by decide)
      cases hgk : g k with
      | v j => exact rb_variT H hkeep hinf B X T room ur hE s x lower r k hI hlow hx hok rfl (st := Str.ofString "v") (j := j) (by rw [hgk]; rfl) (by decide) kk
      | i j => exact rb_variT H hkeep hinf B X T room ur hE s x lower r k hI hlow hx hok rfl (st := Str.ofString "i") (j := j) (by rw [hgk]; rfl) (by decide) kk
      | a j => exact rb_variT H hkeep hinf B X T room ur hE s x lower r k hI hlow hx hok rfl (st := Str.ofString "a") (j := j) (by rw [hgk]; rfl) (by decide) kk
      | s j l => rw [hgk] at hns; cases hns
  case into =>
    intro s x lower r k fn args hI hlow hx hok hag hgn hal kk
    exact rb_into H hkeep hinf B X T room ur hE s x lower r k fn args hI hlow hx hok hag hgn hal kk
  case push =>
    intro s x lower r fn args hI hlow hx hal kk
    exact rb_push H hkeep hinf B X T room ur hE s x lower r fn args hI hlow hx hal kk
  case pop =>
    intro s x z lower r hI hlow h1 h2 kk
    exact rb_pop H hkeep hinf B X T room ur hE s x z lower r hI hlow h1 h2 kk
  case last =>
    intro s x r hI h1 kk
    exact rb_last H hkeep hinf B X T room ur hE s x r hI h1 kk
end

section
variable {prog : Program} {w : World} {f : Addr} {g : Int → Tm} {ok : Int → Prop} {rr : Nat} {p : Program} {loose : List Str} {mean : ExcName → Option Value} {mg mb : Str → Option Value}
   {dp un : Nat} {gd : Option (List Code)} {cn : Str} {cs : Scope} {a : Addr} {ccd : Value} {cl : List (Str × Addr)} {outer : List Env} {A₀ : Around} {base h₀ : Heap} {L : Addr} {m : Str → Option Value} {news : Led} {s : Shared} {k : Int} {tk : Tok} {Q E : Value → Shared → Prop}
theorem chgP_leaf {x : Str} {j : Int} (H : ChgSpec prog w f g ok rr) (hok : ok k) (hg : (g k).dat = .tuple [.str x, .int j]) (B : Below A₀ base outer h₀) (F : Fr h₀ L s.heap m) (X : (hd.heap_39 w.params).In h₀) (N : News h₀ L s.heap news) (T : Top p loose mean mg mb h₀) (hk : cs.kind = .function)
   (room : dp + rr < recursionLimit) (ur : un + 10 * rr < cLine)
   (ret : ∀ a t1 t2 n tl9 h' tk', Fr h₀ L h' m → News h₀ L h' (tl9 ++ news) → Above tl9 news → (a, tupO [.str x t1, .int j t2] n) ∈ tl9 ++ news → TmIn (tl9 ++ news) (.ref a) (g k) → Q (.ref a) { s with heap := h', toks := tk' }) :
   wpAny (model prog w) (ktrTop dp un gd cn cs L a ccd cl outer) (call (.ref f) [.int k tk]) Q E s := by
  refine H B F X N T hk hok room ur fun v tl9 h' tk' F' N' O' D' => ?_
  have D2 : TmIn (tl9 ++ news) v (g k) := DatIn.mono (fun q hq => mem_l hq) D'
  have D3 := D2
  unfold TmIn at D3
  rw [hg] at D3
  obtain ⟨a, t1, t2, n, rfl, hm⟩ := leaf_inv D3
  exact ret a t1 t2 n tl9 h' tk' F' N' O' hm D2
theorem chgP_node {fn : Int} {args : List Tm} (H : ChgSpec prog w f g ok rr) (hok : ok k) (hg : g k = .s fn args) (B : Below A₀ base outer h₀) (F : Fr h₀ L s.heap m) (X : (hd.heap_39 w.params).In h₀) (N : News h₀ L s.heap news) (T : Top p loose mean mg mb h₀) (hk : cs.kind = .function)
   (room : dp + rr < recursionLimit) (ur : un + 10 * rr < cLine)
   (ret : ∀ a b t1 t2 n tl9 h' tk', Fr h₀ L h' m → News h₀ L h' (tl9 ++ news) → Above tl9 news → (a, tupO [.str (Str.ofString "s") t1, .int fn t2, .ref b] n) ∈ tl9 ++ news → TmIn (tl9 ++ news) (.ref a) (.s fn args) → Q (.ref a) { s with heap := h', toks := tk' }) :
   wpAny (model prog w) (ktrTop dp un gd cn cs L a ccd cl outer) (call (.ref f) [.int k tk]) Q E s := by
  refine H B F X N T hk hok room ur fun v tl9 h' tk' F' N' O' D' => ?_
  have D2 : TmIn (tl9 ++ news) v (g k) := DatIn.mono (fun q hq => mem_l hq) D'
  rw [hg] at D2
  obtain ⟨a, b, t1, t2, n, n', vs, rfl, hm, _, _⟩ := node_inv D2
  exact ret a b t1 t2 n tl9 h' tk' F' N' O' hm D2
theorem chgP_any (H : ChgSpec prog w f g ok rr) (hok : ok k) (B : Below A₀ base outer h₀) (F : Fr h₀ L s.heap m) (X : (hd.heap_39 w.params).In h₀) (N : News h₀ L s.heap news) (T : Top p loose mean mg mb h₀) (hk : cs.kind = .function)
   (room : dp + rr < recursionLimit) (ur : un + 10 * rr < cLine)
   (ret : ∀ v tl9 h' tk', Fr h₀ L h' m → News h₀ L h' (tl9 ++ news) → Above tl9 news → TmIn (tl9 ++ news) v (g k) → Q v { s with heap := h', toks := tk' }) :
   wpAny (model prog w) (ktrTop dp un gd cn cs L a ccd cl outer) (call (.ref f) [.int k tk]) Q E s :=
  H B F X N T hk hok room ur fun v tl9 h' tk' F' N' O' D' => ret v tl9 h' tk' F' N' O' (DatIn.mono (fun q hq => mem_l hq) D')
end

/-- how rebuild is called -/
abbrev Calls3 (prog : Program) (w : World) (fa f : Addr) (ag : Bool) (rr : Nat) (t r : Tm) : Prop :=
   ∀ {p : Program} {loose : List Str} {mean : ExcName → Option Value} {mg mb : Str → Option Value}
   {dp un : Nat} {gd : Option (List Code)} {cn : Str} {cs : Scope} {a : Addr} {ccd : Value} {cl : List (Str × Addr)} {outer : List Env} {A₀ : Around} {base h₀ : Heap} {L : Addr} {m : Str → Option Value} {news : Led} {s : Shared}
   {tv : Value} {Q E : Value → Shared → Prop},
   Below A₀ base outer h₀ → Fr h₀ L s.heap m → (hd.heap_39 w.params).In h₀ → News h₀ L s.heap news → Top p loose mean mg mb h₀ → cs.kind = .function →
   dp + rr < recursionLimit → un + 10 * rr + 100 < cLine → TmIn news tv t →
   (∀ v tl h' tk', Fr h₀ L h' m → News h₀ L h' (tl ++ news) → Above tl news → TmIn (tl ++ news) v r → Q v { s with heap := h', toks := tk' }) →
   wpAny (model prog w) (ktrTop dp un gd cn cs L a ccd cl outer) (call (.ref fa) [tv, .ref f, .bool ag]) Q E s

local macro_rules | `(tactic| walk_at "ite") => `(tactic| first | (refine ite_neg ?c ?_; (case c => (simp only [beq_iff_eq, bne_iff_ne, ne_eq, Classical.not_not]; with_reducible assumption))) | (refine ite_pos ?c ?_; (case c => (simp only [beq_iff_eq, bne_iff_ne, ne_eq]; with_reducible assumption))))
theorem rebuild_flat {prog : Program} {w : World} {f : Addr} {ag : Bool} {t : Tm} {st : Str} {k : Int} (ht : t.dat = .tuple [.str st, .int k]) (nv : ¬ st = Str.ofString "v") (ns : ¬ st = Str.ofString "s") : Calls3 prog w 28 f ag 2 t t := by
  intro p loose mean mg mb dp un gd cn cs a ccd cl outer A₀ base h₀ L m news s tv Q E B F X N T hk room ur D0 ret
  have D1 := D0
  unfold TmIn at D1
  rw [ht] at D1
  obtain ⟨a0, t1, t2, n1, rfl, hm1⟩ := leaf_inv D1
  refine wpAny_call ?_
  k_dflt ktr_enter
  k_steps
  rename Fr h₀ L _ m => kF
  rename News h₀ L _ _ => kN
  exact ret _ [] _ _ kF kN above_nil D0

section
variable {prog : Program} {w : World} {f : Addr} {g : Int → Tm} {ok : Int → Prop} {rr : Nat} {ag : Bool} {n : Nat}
local macro_rules | `(tactic| walk_at "call ref") => `(tactic| (k_here; k_dflt (
  (refine' chgP_any ?k1 ?k2 ?k4 ?k5 ?k6 ?k7 ?k8 ?k9 ?k10 ?k11 ?_; (case k1 => with_reducible assumption); (case k2 => with_reducible assumption); (case k4 => k_asm); (case k5 => k_asm); (case k6 => k_asm); (case k7 => k_asm); (case k8 => k_asm); (case k9 => first | exact rfl | assumption); (case k10 => (dsimp only [ktrTop, Around.deeper]; omega)); (case k11 => (dsimp only [ktrTop, Around.deeper]; omega)); k_whole; intro v9 tl9 h9 tk9 F9 N9 O9 D9; (try dsimp only); (try k_fold)))))
theorem rebuild_varF {k : Int} (H : ChgSpec prog w f g ok rr) (hkeep : keepIn (hd.heap_39 w.params) (.ref f) = true) (hok : ok k) : Calls3 prog w 28 f false (rr + 2) (.v k) (g k) := by
  intro p loose mean mg mb dp un gd cn cs a ccd cl outer A₀ base h₀ L m news s tv Q E B F X N T hk room ur D0 ret
  obtain ⟨a0, t1, t2, n1, rfl, hm1⟩ := leaf_inv D0
  refine wpAny_call ?_
  k_dflt ktr_enter
  k_steps
  rename Fr h₀ L _ m => kF
  rename News h₀ L _ _ => kN
  rename Above _ _ => O9
  rename TmIn _ _ (g k) => D9
  exact ret _ _ _ _ kF kN O9 D9

local macro_rules | `(tactic| walk_at "call ref") => `(tactic| (k_here; k_dflt (
  (refine' chgP_leaf ?k1 ?k2 ?k3 ?k4 ?k5 ?k6 ?k7 ?k8 ?k9 ?k10 ?k11 ?_; (case k1 => with_reducible assumption); (case k2 => with_reducible assumption); (case k3 => with_reducible assumption); (case k4 => k_asm); (case k5 => k_asm); (case k6 => k_asm); (case k7 => k_asm); (case k8 => k_asm); (case k9 => first | exact rfl | assumption); (case k10 => (dsimp only [ktrTop, Around.deeper]; omega)); (case k11 => (dsimp only [ktrTop, Around.deeper]; omega)); k_whole; intro a9 t9 u9 n9 tl9 h9 tk9 F9 N9 O9 hm9 D9; (try dsimp only); (try k_fold)))))
theorem rebuild_varT {k : Int} {st : Str} {j : Int} (H : ChgSpec prog w f g ok rr) (hkeep : keepIn (hd.heap_39 w.params) (.ref f) = true) (hok : ok k) (hgd : (g k).dat = .tuple [.str st, .int j]) (ns : ¬ st = Str.ofString "s") : Calls3 prog w 28 f true (rr + 2) (.v k) (g k) := by
  intro p loose mean mg mb dp un gd cn cs a ccd cl outer A₀ base h₀ L m news s tv Q E B F X N T hk room ur D0 ret
  obtain ⟨a0, t1, t2, n1, rfl, hm1⟩ := leaf_inv D0
  refine wpAny_call ?_
  k_dflt ktr_enter
  k_steps
  rename Fr h₀ L _ m => kF
  rename News h₀ L _ _ => kN
  rename Above _ _ => O9
  rename TmIn _ _ (g k) => D9
  exact ret _ _ _ _ kF kN O9 D9

theorem rebuild_node {fn : Int} {args rs : List Tm} (H : ChgSpec prog w f g ok rr) (hkeep : keepIn (hd.heap_39 w.params) (.ref f) = true) (hal : args.length ≤ 1000) (hrs : All2 (Rb g ok ag n) args rs) (hn : n ≤ 400) : Calls3 prog w 28 f ag (rr + 2) (.s fn args) (.s fn rs) := by
  intro p loose mean mg mb dp un gd cn cs a ccd cl outer A₀ base h₀ L m news s tv Q E B F X N T hk room ur D0 ret
  obtain ⟨a0, b0, t1, t2, n1, n2, avs, rfl, hm1, hm2, hargs⟩ := node_inv D0
  refine wpAny_call ?_
  k_dflt ktr_enter
  k_steps
  unfold Stop
  rename Fr _ _ _ _ => F2
  rename News _ _ _ _ => N2
  rename Below _ _ _ _ => B2
  rename Frag.In _ _ => X2
  rename Top _ _ _ _ _ _ => T2
  have e1 := fr_over (FR := _) (chg := f) (ag := ag) (rv := .ref a0) F2 rfl rfl rfl rfl
  refine rb_run H hkeep rfl B2 X2 T2 (by omega) (by omega) ?hE e1 N2 (by assumption) (by assumption) (by assumption) D0 hal hrs hn ?_
  case hE => passes_own
  clear F2 N2 e1
  intro h9 tk9 u9 rv9 tl9 F9 N9 O9 D9
  dsimp only
  k_steps
  rename Fr h₀ L _ m => kF
  rename News h₀ L _ _ => kN
  exact ret _ _ _ _ kF kN O9 D9

local macro_rules | `(tactic| walk_at "call ref") => `(tactic| (k_here; k_dflt (
  (refine' chgP_node ?k1 ?k2 ?k3 ?k4 ?k5 ?k6 ?k7 ?k8 ?k9 ?k10 ?k11 ?_; (case k1 => with_reducible assumption); (case k2 => with_reducible assumption); (case k3 => with_reducible assumption); (case k4 => k_asm); (case k5 => k_asm); (case k6 => k_asm); (case k7 => k_asm); (case k8 => k_asm); (case k9 => first | exact rfl | assumption); (case k10 => (dsimp only [ktrTop, Around.deeper]; omega)); (case k11 => (dsimp only [ktrTop, Around.deeper]; omega)); k_whole; intro a9 b9 t9 u9 n9 tl9 h9 tk9 F9 N9 O9 hm9 D9; (try dsimp only); (try k_fold)))))
theorem rebuild_into {k fn : Int} {args rs : List Tm} (H : ChgSpec prog w f g ok rr) (hkeep : keepIn (hd.heap_39 w.params) (.ref f) = true) (hok : ok k) (hgn : g k = .s fn args) (hal : args.length ≤ 1000) (hrs : All2 (Rb g ok true n) args rs) (hn : n ≤ 400) : Calls3 prog w 28 f true (rr + 2) (.v k) (.s fn rs) := by
  intro p loose mean mg mb dp un gd cn cs a ccd cl outer A₀ base h₀ L m news s tv Q E B F X N T hk room ur D0 ret
  obtain ⟨a0, t1, t2, n1, rfl, hm1⟩ := leaf_inv D0
  refine wpAny_call ?_
  k_dflt ktr_enter
  k_steps
  unfold Stop
  rename Fr _ _ _ _ => F2
  rename News _ _ _ _ => N2
  rename Below _ _ _ _ => B2
  rename Frag.In _ _ => X2
  rename Top _ _ _ _ _ _ => T2
  rename Above _ _ => O2
  rename TmIn _ _ _ => D2
  have e1 := fr_over (FR := _) (chg := f) (ag := true) F2 rfl rfl rfl rfl
  refine rb_run H hkeep rfl B2 X2 T2 (by omega) (by omega) ?hE e1 N2 (by assumption) (by assumption) (by assumption) D2 hal hrs hn ?_
  case hE => passes_own
  clear F2 N2 e1
  intro h9 tk9 u9 rv9 tl9 F9 N9 O9 D9
  dsimp only
  k_steps
  rename Fr h₀ L _ m => kF
  rename News h₀ L _ _ => kN
  refine ret _ (tl9 ++ _) _ _ kF (by rw [List.append_assoc]; exact kN) (above_app O2 O9) (by rw [List.append_assoc]; exact D9)

/-- rebuild is the big step -/
theorem rebuild_spec (H : ChgSpec prog w f g ok rr) (hkeep : keepIn (hd.heap_39 w.params) (.ref f) = true) (hn : n ≤ 400) {t r : Tm} (hb : Rb g ok ag n t r) : Calls3 prog w 28 f ag (rr + 2) t r := by
  cases n with
  | zero => exact hb.elim
  | succ n =>
  cases t with
  | a k =>
    have e : r = Tm.a k := hb
    subst e
    intro p loose mean mg mb dp un gd cn cs a ccd cl outer A₀ base h₀ L m news s tv Q E B F X N T hk room ur D0 ret
    exact rebuild_flat (st := Str.ofString "a") (k := k) rfl (by decide) (by decide) B F X N T hk (by omega) (by omega) D0 ret
  | i k =>
    have e : r = Tm.i k := hb
    subst e
    intro p loose mean mg mb dp un gd cn cs a ccd cl outer A₀ base h₀ L m news s tv Q E B F X N T hk room ur D0 ret
    exact rebuild_flat (st := Str.ofString "i") (k := k) rfl (by decide) (by decide) B F X N T hk (by omega) (by omega) D0 ret
  | v k =>
    obtain ⟨hok, ⟨rfl, hns⟩ | ⟨hag, fn, args, rs, hg, rfl, hl, hrs⟩⟩ := hb
    · cases ag with
      | false => exact rebuild_varF H hkeep hok
      | true =>
        have hns := hns.resolve_left (by decide)
        have key : ∃ st j, (g k).dat = .tuple [.str st, .int j] ∧ ¬ st = Str.ofString "s" := by
          cases hgk : g k with
          | v j => exact ⟨Str.ofString "v", j, rfl, by decide⟩
          | i j => exact ⟨Str.ofString "i", j, rfl, by decide⟩
          | a j => exact ⟨Str.ofString "a", j, rfl, by decide⟩
          | s j l => rw [hgk] at hns; cases hns
        obtain ⟨st, j, h1, h2⟩ := key
        intro p loose mean mg mb dp un gd cn cs a ccd cl outer A₀ base h₀ L m news s tv Q E B F X N T hk room ur D0 ret
        exact rebuild_varT H hkeep hok h1 h2 B F X N T hk room ur D0 ret
    · subst hag
      exact rebuild_into H hkeep hok hg hl hrs (by omega)
  | s fn args =>
    obtain ⟨rs, rfl, hl, hrs⟩ := hb
    exact rebuild_node H hkeep hl hrs (by omega)
end
end Mine

/-! part Put0 -/
namespace Mine
local macro_rules | `(tactic| walk_at "own Put0 0") => `(tactic| skip)
local macro_rules | `(tactic| walk_at "own Put0 1") => `(tactic| skip)
local macro_rules | `(tactic| walk_at "own Put0 2") => `(tactic| skip)
local macro_rules | `(tactic| walk_at "own Put0 3") => `(tactic| skip)
local macro_rules | `(tactic| walk_at "own Put0 4") => `(tactic| skip)
local macro_rules | `(tactic| walk_at "own Put0 5") => `(tactic| skip)
local macro_rules | `(tactic| walk_at "own Put0 6") => `(tactic| skip)
local macro_rules | `(tactic| walk_at "own Put0 7") => `(tactic| skip)
local macro_rules | `(tactic| walk_at "own Put0 8") => `(tactic| skip)
local macro_rules | `(tactic| walk_at "own Put0 9") => `(tactic| skip)
local macro_rules | `(tactic| walk_at "own Put0 10") => `(tactic| skip)
local macro_rules | `(tactic| walk_at "own Put0 11") => `(tactic| skip)
local macro_rules | `(tactic| walk_at "own Put0 12") => `(tactic| skip)
local macro_rules | `(tactic| walk_at "own Put0 13") => `(tactic| skip)
local macro_rules | `(tactic| walk_at "own Put0 14") => `(tactic| skip)
local macro_rules | `(tactic| walk_at "own Put0 15") => `(tactic| skip)
local macro_rules | `(tactic| walk_at "own Put0 16") => `(tactic| skip)
local macro_rules | `(tactic| walk_at "own Put0 17") => `(tactic| skip)
local macro_rules | `(tactic| walk_at "own Put0 18") => `(tactic| skip)
open PyProof.Rows.LCg

/-- a list comprehension over a tuple of the ledger -/
def TupSrc (prog : Program) (w : World) (A : Around) (h₀ : Heap) (L : Addr) (m : Str → Option Value) (env : Env) (elt : PySem.Expr) (x : Str) (scope : Scope) (cl : List (Str × Addr)) (Q : Value → Shared → Prop) (xv : Value) (s₁ : Shared) : Prop :=
  ∃ ax vs n news, xv = .ref ax ∧ A.handled = none ∧ Fr h₀ L s₁.heap m ∧ News h₀ L s₁.heap news ∧ (ax, tupO vs n) ∈ news ∧ vs.length ≤ sizeLine ∧
    ∀ g, CompRest prog w A h₀ L m env elt x scope cl { s₁ with heap := g } (fun nw => (ax, tupO vs n) ∈ nw) (fun i v => vs[i]? = some v) (FinE h₀ L m { s₁ with heap := g } Q) vs.length 0 [] news

section
variable {prog : Program} {w : World} {A : Around} {E : Value → Shared → Prop} {s : Shared} {h₀ : Heap} {L : Addr} {m : Str → Option Value} {env : Env}
theorem ListComp_T {elt iter : PySem.Expr} {x : Str} {px : Pos} {scope : Scope} {cl : List (Str × Addr)} {pos : Pos} {Q : Value → Shared → Prop} (_F₀ : Fr h₀ L s.heap m)
    (hclos : closureFor scope env = pure cl) (hcell : ∀ y ∈ scope.names, y.2 ≠ .cell) (hkind : scope.kind = .function)
    (hnames : ∀ y ∈ scope.names, y.2 = .local → scope.names.lookup y.1 = some .local) (hx : scope.names.lookup x = some .local)
    (h : wpAny (model prog w) A (eval iter env) (TupSrc prog w A h₀ L m env elt x scope cl Q) E s)
    (hs : ∀ x, foldedSetIterable iter env x = pure x := by intro _; rfl) :
    wpAny (model prog w) A (eval (.ListComp elt [⟨.Name x px, iter, [], 0⟩] scope pos) env) Q E s := by
  rw [eval_ListComp]
  refine wpAny_comprehension_free (use := none) rfl hs hclos hkind hnames (wpAny_mono h (fun xv s₁ h₁ => ?_) fun _ _ e => e)
  obtain ⟨ax, vs, n, news, rfl, hh, F, N, hm, hsz, R⟩ := h₁
  have hax := N _ hm
  have hl : s₁.heap.IsTuple ax vs.toArray := ⟨_, hax.1, rfl, n, rfl⟩
  have hlt : ax < s₁.heap.objs.size := Heap.lt_size hax.1
  have hne : ax ≠ s₁.heap.objs.size := Nat.ne_of_lt hlt
  refine wpAny_pyIter_tuple hl ?_
  have W := Walks.tuple (prog := prog) (w := w) hh s₁.heap.objs.size ax hne vs.toArray
  have hlen : vs.toArray.size = vs.length := by simp
  have hP : (fun (i : Nat) (v : Value) => vs.toArray[i]? = some v) = fun i v => vs[i]? = some v := by funext i v; simp
  rw [hlen, hP] at W
  have up : ∀ b o, s₁.heap.get? b = some o → (s₁.heap.push { cls := .type "tuple_iterator", data := .fields #[.ref ax, .int 0 0] }).get? b = some o := fun b o e => Heap.get?_push_of_some _ e
  refine block_U W hsz (fun i h st => by obtain ⟨o, e, _⟩ := st.1; exact ⟨o, e⟩) (S := fun nw => (ax, tupO vs n) ∈ nw) ?_ hcell hkind hx ⟨⟨_, Heap.get?_push_size _ rfl, rfl, rfl⟩, hl.push _⟩ (fun b hb => ?_)
    (F.keeps up) (N.grown up) (Nat.ne_of_lt F.ns.lt) (next_is_new F) (fun p hp => Nat.ne_of_lt (Heap.lt_size (N p hp).1)) hm (R _) ?_
  · intro i h h' o nw st e e' k N' S'
    refine ⟨?_, ⟨_, (N' _ S').1, rfl, n, rfl⟩⟩
    obtain ⟨o', q, r⟩ := st.1
    rw [e] at q
    cases q
    exact ⟨o, e', r⟩
  · show b < (s₁.heap.push _).objs.size
    rw [Heap.size_push]
    rcases List.mem_cons.mp hb with rfl | hb
    · exact Nat.lt_succ_self _
    · rw [List.mem_singleton.mp hb]; exact Nat.lt_succ_of_lt hlt
  · intro D C h tk m' ys news' F' N' o1 hn hC₀ hD₀ hCL hDL hCD offC fin
    refine ⟨m', hn, fun h'' hs'' => fin D h'' tk (F'.change hs'' hCL hC₀) (fun p hp => ?_) o1⟩
    refine ⟨hs''.extBut _ _ ?_ (N' p hp).1, (N' p hp).2⟩
    rcases List.mem_cons.mp hp with rfl | hp
    · exact Ne.symm hCD
    · exact offC p hp
end

/-- how _law_put is called: the ledger bears more than the terms -/
abbrev CallsP (prog : Program) (w : World) (fa f : Addr) (ag : Bool) (rr : Nat) (t r : Tm) : Prop :=
   ∀ {p : Program} {loose : List Str} {mean : ExcName → Option Value} {mg mb : Str → Option Value}
   {dp un : Nat} {gd : Option (List Code)} {cn : Str} {cs : Scope} {a : Addr} {ccd : Value} {cl : List (Str × Addr)} {outer : List Env} {A₀ : Around} {base h₀ : Heap} {L : Addr} {m : Str → Option Value} {all news : Led} {s : Shared}
   {tv : Value} {Q E : Value → Shared → Prop},
   Below A₀ base outer h₀ → Fr h₀ L s.heap m → (hd.heap_39 w.params).In h₀ → News h₀ L s.heap all → Top p loose mean mg mb h₀ → cs.kind = .function →
   dp + rr < recursionLimit → un + 10 * rr + 100 < cLine → (∀ q ∈ news, q ∈ all) → TmIn news tv t →
   (∀ v tl h' tk', Fr h₀ L h' m → News h₀ L h' (tl ++ all) → Above tl all → TmIn (tl ++ news) v r → Q v { s with heap := h', toks := tk' }) →
   wpAny (model prog w) (ktrTop dp un gd cn cs L a ccd cl outer) (call (.ref fa) [tv, .ref f, .bool ag]) Q E s
local macro_rules | `(tactic| k_mem) => `(tactic| first | with_reducible assumption | with_reducible exact List.mem_cons_self | (with_reducible refine List.mem_cons_of_mem _ ?_; k_mem) | (with_reducible refine List.mem_append.mpr (Or.inr ?_); k_mem) | (with_reducible refine List.mem_append.mpr (Or.inl ?_); k_mem))
local macro_rules | `(tactic| walk_at "eval Name") => `(tactic| (k_here; k_dflt (refine' nameX_L ?F ?v ?_ ?a ?b; (case F => k_asm); (case a => rfl); (case b => rfl); (case v => rfl); k_whole)))
local macro_rules | `(tactic| walk_at "subscriptTail Name Constant ref int") => `(tactic| (k_here; k_dflt (refine' item_tupleT ?t ?a ?b ?c ?d ?_; (case t => exact News.isTup (by k_asm) (by k_mem)); (case a => decide); (case b => decide); (case c => rfl); (case d => rfl); k_whole)))
local macro_rules | `(tactic| walk_at "callWith ref") => `(tactic| (k_here; k_dflt (refine' callWith_K ?k1 ?k2 ?_; (case k1 => k_asm); (case k2 => with_reducible assumption); k_whole)))
local macro_rules | `(tactic| walk_at "ite") => `(tactic| first | (refine ite_neg ?c ?_; (case c => (simp only [beq_iff_eq, bne_iff_ne, ne_eq, Classical.not_not]; with_reducible assumption))) | (refine ite_pos ?c ?_; (case c => (simp only [beq_iff_eq, bne_iff_ne, ne_eq]; with_reducible assumption))))
local macro_rules | `(tactic| ktr_enter) => `(tactic| (refine' code_defC ?k1 ?k2 ?k3 ?k4 ?k5 ?kA ?kF ?kK ?k6 ?k7 ?k8 ?k9 ?kB ?kD ?_ ?c2 ?c3 ?c4; (case kA => exact rfl); (case kF => exact rfl); (case kK => assumption); (case k1 => k_asm); (case k2 => k_asm); (case k3 => k_asm); (case k4 => k_asm); (case k5 => k_asm); (case k6 => k_is); (case k7 => k_is); (case k8 => ktr_room); (case k9 => exact BindsTo.of_eq rfl); (case kB => exact rfl); (case kD => decide +kernel); (case c2 => exact rfl); (case c3 => exact rfl); (case c4 => exact rfl); k_whole; intro g' L' h' tk' cells' FG' F' N' Y' B' X' T' l1; (try k_lt l1); k_cells Y'; (try simp only [List.cons_append, List.nil_append] at N'); (try dsimp only); (try k_fold)))

theorem put_flat {prog : Program} {w : World} {f : Addr} {ag : Bool} {t : Tm} {st : Str} {k : Int} (ht : t.dat = .tuple [.str st, .int k]) (nv : ¬ st = Str.ofString "v") (ns : ¬ st = Str.ofString "s") : CallsP prog w 73 f ag 2 t t := by
  intro p loose mean mg mb dp un gd cn cs a ccd cl outer A₀ base h₀ L m all news s tv Q E B F X N T hk room ur sub D0 ret
  have D1 := D0
  unfold TmIn at D1
  rw [ht] at D1
  obtain ⟨a0, t1, t2, n1, rfl, hm1⟩ := leaf_inv D1
  replace hm1 := sub _ hm1
  refine wpAny_call ?_
  k_dflt ktr_enter
  k_steps
  rename Fr h₀ L _ m => kF
  rename News h₀ L _ _ => kN
  exact ret _ [] _ _ kF (fun q hq => kN q (.tail _ (.tail _ hq))) above_nil D0

section
variable {prog : Program} {w : World} {f : Addr} {g : Int → Tm} {ok : Int → Prop} {rr : Nat} {p : Program} {loose : List Str} {mean : ExcName → Option Value} {mg mb : Str → Option Value}
   {dp un : Nat} {gd : Option (List Code)} {cn : Str} {cs : Scope} {a : Addr} {ccd : Value} {cl : List (Str × Addr)} {outer : List Env} {A₀ : Around} {base h₀ : Heap} {L : Addr} {m : Str → Option Value} {news : Led} {s : Shared} {k : Int} {tk : Tok} {Q E : Value → Shared → Prop}
theorem chgQ_leaf {x : Str} {j : Int} (H : ChgSpec prog w f g ok rr) (hok : ok k) (hg : (g k).dat = .tuple [.str x, .int j]) (B : Below A₀ base outer h₀) (F : Fr h₀ L s.heap m) (X : (hd.heap_39 w.params).In h₀) (N : News h₀ L s.heap news) (T : Top p loose mean mg mb h₀) (hk : cs.kind = .function)
   (room : dp + rr < recursionLimit) (ur : un + 10 * rr < cLine)
   (ret : ∀ a t1 t2 n tl9 h' tk', Fr h₀ L h' m → News h₀ L h' (tl9 ++ news) → Above tl9 news → (a, tupO [.str x t1, .int j t2] n) ∈ tl9 → TmIn tl9 (.ref a) (g k) → Q (.ref a) { s with heap := h', toks := tk' }) :
   wpAny (model prog w) (ktrTop dp un gd cn cs L a ccd cl outer) (call (.ref f) [.int k tk]) Q E s := by
  refine H B F X N T hk hok room ur fun v tl9 h' tk' F' N' O' D' => ?_
  have D3 := D'
  unfold TmIn at D3
  rw [hg] at D3
  obtain ⟨a, t1, t2, n, rfl, hm⟩ := leaf_inv D3
  exact ret a t1 t2 n tl9 h' tk' F' N' O' hm D'
theorem chgQ_node {fn : Int} {args : List Tm} (H : ChgSpec prog w f g ok rr) (hok : ok k) (hg : g k = .s fn args) (B : Below A₀ base outer h₀) (F : Fr h₀ L s.heap m) (X : (hd.heap_39 w.params).In h₀) (N : News h₀ L s.heap news) (T : Top p loose mean mg mb h₀) (hk : cs.kind = .function)
   (room : dp + rr < recursionLimit) (ur : un + 10 * rr < cLine)
   (ret : ∀ a b t1 t2 n tl9 h' tk', Fr h₀ L h' m → News h₀ L h' (tl9 ++ news) → Above tl9 news → (a, tupO [.str (Str.ofString "s") t1, .int fn t2, .ref b] n) ∈ tl9 → TmIn tl9 (.ref a) (.s fn args) → Q (.ref a) { s with heap := h', toks := tk' }) :
   wpAny (model prog w) (ktrTop dp un gd cn cs L a ccd cl outer) (call (.ref f) [.int k tk]) Q E s := by
  refine H B F X N T hk hok room ur fun v tl9 h' tk' F' N' O' D' => ?_
  rw [hg] at D'
  obtain ⟨a, b, t1, t2, n, n', vs, rfl, hm, _, _⟩ := node_inv D'
  exact ret a b t1 t2 n tl9 h' tk' F' N' O' hm D'
theorem chgQ_any (H : ChgSpec prog w f g ok rr) (hok : ok k) (B : Below A₀ base outer h₀) (F : Fr h₀ L s.heap m) (X : (hd.heap_39 w.params).In h₀) (N : News h₀ L s.heap news) (T : Top p loose mean mg mb h₀) (hk : cs.kind = .function)
   (room : dp + rr < recursionLimit) (ur : un + 10 * rr < cLine)
   (ret : ∀ v tl9 h' tk', Fr h₀ L h' m → News h₀ L h' (tl9 ++ news) → Above tl9 news → TmIn tl9 v (g k) → Q v { s with heap := h', toks := tk' }) :
   wpAny (model prog w) (ktrTop dp un gd cn cs L a ccd cl outer) (call (.ref f) [.int k tk]) Q E s :=
  H B F X N T hk hok room ur ret
end

section
variable {prog : Program} {w : World} {f : Addr} {g : Int → Tm} {ok : Int → Prop} {rr : Nat} {ag : Bool} {n : Nat}
theorem above_cells {all tl9 : Led} {c1 c2 : Addr × Obj} (O : Above tl9 (c1 :: c2 :: all)) : Above tl9 all := fun q hq => O q (.tail _ (.tail _ hq))
theorem cells_sub {all tl8 tl9 : Led} {c1 c2 : Addr × Obj} : ∀ q ∈ (tl8 ++ tl9) ++ all, q ∈ tl8 ++ (tl9 ++ (c1 :: c2 :: all)) := fun q hq => by
  simp only [List.mem_append, List.mem_cons] at hq ⊢
  rcases hq with (e | e) | e
  · exact .inl e
  · exact .inr (.inl e)
  · exact .inr (.inr (.inr (.inr e)))
theorem above_cells2 {all tl8 tl9 : Led} {c1 c2 : Addr × Obj} (O : Above tl8 (tl9 ++ (c1 :: c2 :: all))) : Above tl8 (tl9 ++ all) := fun q hq => O q (by
  simp only [List.mem_append, List.mem_cons] at hq ⊢
  rcases hq with e | e
  · exact .inl e
  · exact .inr (.inr (.inr e)))
local macro_rules | `(tactic| walk_at "call ref") => `(tactic| (k_here; k_dflt (
  (refine' chgQ_any ?k1 ?k2 ?k4 ?k5 ?k6 ?k7 ?k8 ?k9 ?k10 ?k11 ?_; (case k1 => with_reducible assumption); (case k2 => with_reducible assumption); (case k4 => k_asm); (case k5 => k_asm); (case k6 => k_asm); (case k7 => k_asm); (case k8 => k_asm); (case k9 => first | exact rfl | assumption); (case k10 => (dsimp only [ktrTop, Around.deeper]; omega)); (case k11 => (dsimp only [ktrTop, Around.deeper]; omega)); k_whole; intro v9 tl9 h9 tk9 F9 N9 O9 D9; (try dsimp only); (try k_fold)))))
theorem put_varF {k : Int} (H : ChgSpec prog w f g ok rr) (hkeep : keepIn (hd.heap_39 w.params) (.ref f) = true) (hok : ok k) : CallsP prog w 73 f false (rr + 2) (.v k) (g k) := by
  intro p loose mean mg mb dp un gd cn cs a ccd cl outer A₀ base h₀ L m all news s tv Q E B F X N T hk room ur sub D0 ret
  obtain ⟨a0, t1, t2, n1, rfl, hm1⟩ := leaf_inv D0
  replace hm1 := sub _ hm1
  refine wpAny_call ?_
  k_dflt ktr_enter
  k_steps
  rename Fr h₀ L _ m => kF
  rename News h₀ L _ _ => kN
  rename Above _ _ => O9
  rename TmIn _ _ (g k) => D9
  exact ret _ _ _ _ kF (fun q hq => kN q (by rcases List.mem_append.mp hq with e | e; exact mem_l e; exact mem_r (.tail _ (.tail _ e)))) (above_cells O9) (DatIn.mono (fun q hq => mem_l hq) D9)

local macro_rules | `(tactic| walk_at "call ref") => `(tactic| (k_here; k_dflt (
  (refine' chgQ_leaf ?k1 ?k2 ?k3 ?k4 ?k5 ?k6 ?k7 ?k8 ?k9 ?k10 ?k11 ?_; (case k1 => with_reducible assumption); (case k2 => with_reducible assumption); (case k3 => with_reducible assumption); (case k4 => k_asm); (case k5 => k_asm); (case k6 => k_asm); (case k7 => k_asm); (case k8 => k_asm); (case k9 => first | exact rfl | assumption); (case k10 => (dsimp only [ktrTop, Around.deeper]; omega)); (case k11 => (dsimp only [ktrTop, Around.deeper]; omega)); k_whole; intro a9 t9 u9 n9 tl9 h9 tk9 F9 N9 O9 hm9 D9; (try dsimp only); (try k_fold)))))
theorem put_varT {k : Int} {st : Str} {j : Int} (H : ChgSpec prog w f g ok rr) (hkeep : keepIn (hd.heap_39 w.params) (.ref f) = true) (hok : ok k) (hgd : (g k).dat = .tuple [.str st, .int j]) (ns : ¬ st = Str.ofString "s") : CallsP prog w 73 f true (rr + 2) (.v k) (g k) := by
  intro p loose mean mg mb dp un gd cn cs a ccd cl outer A₀ base h₀ L m all news s tv Q E B F X N T hk room ur sub D0 ret
  obtain ⟨a0, t1, t2, n1, rfl, hm1⟩ := leaf_inv D0
  replace hm1 := sub _ hm1
  refine wpAny_call ?_
  k_dflt ktr_enter
  k_steps
  rename Fr h₀ L _ m => kF
  rename News h₀ L _ _ => kN
  rename Above _ _ => O9
  rename TmIn _ _ (g k) => D9
  exact ret _ _ _ _ kF (fun q hq => kN q (by rcases List.mem_append.mp hq with e | e; exact mem_l e; exact mem_r (.tail _ (.tail _ e)))) (above_cells O9) (DatIn.mono (fun q hq => mem_l hq) D9)

theorem callsP_use {fa : Addr} {t r : Tm} {p : Program} {loose : List Str} {mean : ExcName → Option Value} {mg mb : Str → Option Value}
   {dp un : Nat} {gd : Option (List Code)} {cn : Str} {cs : Scope} {a : Addr} {ccd : Value} {cl : List (Str × Addr)} {outer : List Env} {A₀ : Around} {base h₀ : Heap} {L : Addr} {m : Str → Option Value} {all news : Led} {s : Shared}
   {tv : Value} {Q E : Value → Shared → Prop} (H : CallsP prog w fa f ag rr t r) (B : Below A₀ base outer h₀) (F : Fr h₀ L s.heap m) (X : (hd.heap_39 w.params).In h₀) (N : News h₀ L s.heap all) (T : Top p loose mean mg mb h₀) (hk : cs.kind = .function)
   (room : dp + rr < recursionLimit) (ur : un + 10 * rr + 100 < cLine) (D : TmIn news tv t) (sub : ∀ q ∈ news, q ∈ all)
   (ret : ∀ v tl h' tk', Fr h₀ L h' m → News h₀ L h' (tl ++ all) → Above tl all → TmIn (tl ++ news) v r → Q v { s with heap := h', toks := tk' }) :
   wpAny (model prog w) (ktrTop dp un gd cn cs L a ccd cl outer) (call (.ref fa) [tv, .ref f, .bool ag]) Q E s := H B F X N T hk room ur sub D ret

local macro_rules | `(tactic| walk_at "call ref") => `(tactic| (k_here; k_dflt (first
  | (refine' chgQ_node ?k1 ?k2 ?k3 ?k4 ?k5 ?k6 ?k7 ?k8 ?k9 ?k10 ?k11 ?_; (case k1 => with_reducible assumption); (case k2 => with_reducible assumption); (case k3 => with_reducible assumption); (case k4 => k_asm); (case k5 => k_asm); (case k6 => k_asm); (case k7 => k_asm); (case k8 => k_asm); (case k9 => first | exact rfl | assumption); (case k10 => (dsimp only [ktrTop, Around.deeper]; omega)); (case k11 => (dsimp only [ktrTop, Around.deeper]; omega)); k_whole; intro a9 b9 t9 u9 n9 tl9 h9 tk9 F9 N9 O9 hm9 D9; (try dsimp only); (try k_fold))
  | (refine' callsP_use ?k1 ?k4 ?k5 ?k6 ?k7 ?k8 ?k9 ?k10 ?k11 ?k12 ?k13 ?_; (case k1 => assumption); (case k4 => k_asm); (case k5 => k_asm); (case k6 => k_asm); (case k7 => k_asm); (case k8 => k_asm); (case k9 => first | exact rfl | assumption); (case k10 => (dsimp only [ktrTop, Around.deeper]; omega)); (case k11 => (dsimp only [ktrTop, Around.deeper]; omega)); (case k12 => with_reducible assumption); (case k13 => exact fun _ h => mem_l h); k_whole; intro v8 tl8 h8 tk8 F8 N8 O8 D8; (try dsimp only); (try k_fold)))))
theorem put_into {k fn : Int} {args rs : List Tm} {rp : Nat} (H : ChgSpec prog w f g ok rr) (hkeep : keepIn (hd.heap_39 w.params) (.ref f) = true) (hok : ok k) (hgn : g k = .s fn args) (Hp : CallsP prog w 73 f true rp (.s fn args) (.s fn rs)) (hrp : rr ≤ rp) : CallsP prog w 73 f true (rp + 2) (.v k) (.s fn rs) := by
  intro p loose mean mg mb dp un gd cn cs a ccd cl outer A₀ base h₀ L m all news s tv Q E B F X N T hk room ur sub D0 ret
  obtain ⟨a0, t1, t2, n1, rfl, hm1⟩ := leaf_inv D0
  replace hm1 := sub _ hm1
  refine wpAny_call ?_
  k_dflt ktr_enter
  k_steps
  rename Fr h₀ L _ m => kF
  rename News h₀ L _ _ => kN
  rename TmIn _ _ (Tm.s fn rs) => D8
  rename Above _ (_ ++ _) => O8
  rename Above _ (_ :: _) => O9
  exact ret _ (_ ++ _) _ _ kF (fun q hq => kN q (cells_sub q hq)) (above_app (above_cells O9) (above_cells2 O8)) (DatIn.mono (fun q hq => mem_l hq) D8)
end
end Mine

/-! part Put1 -/
namespace Mine
local macro_rules | `(tactic| walk_at "own Put1 0") => `(tactic| skip)
local macro_rules | `(tactic| walk_at "own Put1 1") => `(tactic| skip)
local macro_rules | `(tactic| walk_at "own Put1 2") => `(tactic| skip)
local macro_rules | `(tactic| walk_at "own Put1 3") => `(tactic| skip)
local macro_rules | `(tactic| walk_at "own Put1 4") => `(tactic| skip)
local macro_rules | `(tactic| walk_at "own Put1 5") => `(tactic| skip)
local macro_rules | `(tactic| walk_at "own Put1 6") => `(tactic| skip)
local macro_rules | `(tactic| walk_at "own Put1 7") => `(tactic| skip)
local macro_rules | `(tactic| walk_at "own Put1 8") => `(tactic| skip)
local macro_rules | `(tactic| walk_at "own Put1 9") => `(tactic| skip)
local macro_rules | `(tactic| walk_at "own Put1 10") => `(tactic| skip)
local macro_rules | `(tactic| walk_at "own Put1 11") => `(tactic| skip)
local macro_rules | `(tactic| walk_at "own Put1 12") => `(tactic| skip)
local macro_rules | `(tactic| walk_at "own Put1 13") => `(tactic| skip)
local macro_rules | `(tactic| walk_at "own Put1 14") => `(tactic| skip)
local macro_rules | `(tactic| walk_at "own Put1 15") => `(tactic| skip)
local macro_rules | `(tactic| walk_at "own Put1 16") => `(tactic| skip)
local macro_rules | `(tactic| walk_at "own Put1 17") => `(tactic| skip)
local macro_rules | `(tactic| walk_at "own Put1 18") => `(tactic| skip)
local macro_rules | `(tactic| walk_at "own Put1 19") => `(tactic| skip)
open PyProof.Rows.LCg

section
variable {prog : Program} {w : World} {A : Around} {E : Value → Shared → Prop} {s : Shared} {h₀ : Heap} {L : Addr} {m : Str → Option Value} {env : Env}
/-- the elements of a comprehension, one by one, each turned by R -/
theorem comp_list {elt : PySem.Expr} {x : Str} {scope : Scope} {cl : List (Str × Addr)} {R : Tm → Tm → Prop} {ax : Addr} {vs : List Value} {nx : Nat} {Q : Value → Shared → Prop} {nw0 nT : Led} (hT : ∀ q ∈ nT, q ∈ nw0)
    (step : ∀ t r v I oI C oC D m₂ h tk ys (nw nt : Led) (E' Qc : Value → Shared → Prop), R t r → TmIn nt v t → (∀ q ∈ nt, q ∈ nw) → (∀ q ∈ nw0, q ∈ nw) → Fr h₀ L h m → News h₀ L h ((I, oI) :: (C, oC) :: (D, lst ys) :: nw) → NsObj oC m₂ → m₂ x = some v →
      (∀ v' tl h' tk', Fr h₀ L h' m → News h₀ L h' (tl ++ ((I, oI) :: (C, oC) :: (D, lst ys) :: nw)) → Above tl ((I, oI) :: (C, oC) :: (D, lst ys) :: nw) → TmIn (tl ++ nt) v' r → Qc v' { s with heap := h', toks := tk' }) →
      wpAny (model prog w) A (eval elt (compEnvC scope cl C env)) Qc E' { s with heap := h, toks := tk })
    (rsAll : List Tm) (hm0 : (ax, tupO vs nx) ∈ nw0)
    (fin : ∀ D h tk tl ys, Fr h₀ L h m → News h₀ L h ((D, listOf ys.toArray ys.length) :: (tl ++ nw0)) → Above tl nw0 → TmsIn (tl ++ nT) ys rsAll → Q (.ref D) { s with heap := h, toks := tk }) :
    ∀ (post rs : List Tm), All2 R post rs → ∀ (i : Nat) (ys : List Value) (pre : List Tm) (tl : Led), pre ++ rs = rsAll → Above tl nw0 → TmsIn (tl ++ nT) ys pre → TmsIn nT (vs.drop i) post →
      CompRest prog w A h₀ L m env elt x scope cl s (fun nw => (ax, tupO vs nx) ∈ nw) (fun i v => vs[i]? = some v) (FinE h₀ L m s Q) post.length i ys (tl ++ nw0) := by
  intro post rs h
  induction h with
  | nil =>
    intro i ys pre tl hr ha hy _
    refine CompRest.zero ?_
    intro D h tk F' N' _
    rw [List.append_nil] at hr
    subst hr
    exact fin D h tk tl ys F' N' ha hy
  | @cons t r post rs h1 _ ih =>
    intro i ys pre tl hr ha hy hv
    refine CompRest.succ ?_
    intro v I oI C oC D m₂ h tk E' hP hC hx F' N' off ne
    cases hd : vs.drop i with
    | nil => rw [hd] at hv; cases hv
    | cons v0 vr =>
    rw [hd] at hv
    obtain ⟨hv1, hv2⟩ : TmIn nT v0 t ∧ TmsIn nT vr post := by
      unfold TmsIn at hv
      rw [Tm.dats] at hv
      cases hv with
      | cons a b => exact ⟨a, b⟩
    have e0 : vs[i]? = some v0 := by
      have : (vs.drop i)[0]? = some v0 := by rw [hd]; rfl
      simpa using this
    have ev : v = v0 := Option.some.inj (hP.symm.trans e0)
    subst ev
    have hdr : vs.drop (i + 1) = vr := by
      have : (vs.drop i).drop 1 = vr := by rw [hd]; rfl
      rw [List.drop_drop] at this
      exact this
    refine step t r v I oI C oC D m₂ h tk ys (tl ++ nw0) (tl ++ nT) E' _ h1 (DatIn.mono (fun q hq => mem_r hq) hv1) (fun q hq => (List.mem_append.mp hq).elim mem_l fun e => mem_r (hT q e)) (fun q hq => mem_r hq) F' N' hC hx ?_
    intro v' tl' h' tk' F2 N2 O2 D2
    refine CompEnd.intro F2 N2 (tl' ++ (tl ++ nw0)) ?_ ?_ (mem_r (mem_r hm0)) ?_
    · intro p hp
      simp only [List.mem_cons, List.mem_append] at hp ⊢
      rcases hp with e | e | e | e | e | e
      · exact .inr (.inl e)
      · exact .inr (.inr (.inl e))
      · exact .inr (.inr (.inr (.inl e)))
      · exact .inl e
      · exact .inr (.inr (.inr (.inr (.inl e))))
      · exact .inr (.inr (.inr (.inr (.inr e))))
    · refine Off3.of fun p hp => ?_
      rcases List.mem_append.mp hp with hp | hp
      · exact ⟨Nat.ne_of_gt (O2 (I, oI) (.head _) p hp), Nat.ne_of_gt (O2 (C, oC) (.tail _ (.head _)) p hp), Nat.ne_of_gt (O2 (D, lst ys) (.tail _ (.tail _ (.head _))) p hp)⟩
      · exact off.mem p hp
    · have q := ih (i + 1) (ys ++ [v']) (pre ++ [r]) (tl' ++ tl) (by rw [List.append_assoc]; exact hr) (above_app ha fun q hq => O2 q (.tail _ (.tail _ (.tail _ hq))))
        (by rw [List.append_assoc]; exact TmsIn.snoc (DatAll.mono (fun q hq => mem_r hq) hy) D2) (by rw [hdr]; exact hv2)
      rw [List.append_assoc] at q
      exact q
end
local macro_rules | `(tactic| k_mem) => `(tactic| first | with_reducible assumption | with_reducible exact List.mem_cons_self | (with_reducible refine List.mem_cons_of_mem _ ?_; k_mem) | (with_reducible refine List.mem_append.mpr (Or.inr ?_); k_mem) | (with_reducible refine List.mem_append.mpr (Or.inl ?_); k_mem))
local macro_rules | `(tactic| walk_at "eval Name") => `(tactic| (k_here; k_dflt (refine' nameX_L ?F ?v ?_ ?a ?b; (case F => k_asm); (case a => rfl); (case b => rfl); (case v => rfl); k_whole)))
local macro_rules | `(tactic| walk_at "subscriptTail Name Constant ref int") => `(tactic| (k_here; k_dflt (refine' item_tupleT ?t ?a ?b ?c ?d ?_; (case t => exact News.isTup (by k_asm) (by k_mem)); (case a => decide); (case b => decide); (case c => rfl); (case d => rfl); k_whole)))
local macro_rules | `(tactic| walk_at "callWith ref") => `(tactic| (k_here; k_dflt (refine' callWith_K ?k1 ?k2 ?_; (case k1 => k_asm); (case k2 => with_reducible assumption); k_whole)))
local macro_rules | `(tactic| walk_at "ite") => `(tactic| first | (refine ite_neg ?c ?_; (case c => (simp only [beq_iff_eq, bne_iff_ne, ne_eq, Classical.not_not]; with_reducible assumption))) | (refine ite_pos ?c ?_; (case c => (simp only [beq_iff_eq, bne_iff_ne, ne_eq]; with_reducible assumption))))
local macro_rules | `(tactic| ktr_enter) => `(tactic| (refine' code_defC ?k1 ?k2 ?k3 ?k4 ?k5 ?kA ?kF ?kK ?k6 ?k7 ?k8 ?k9 ?kB ?kD ?_ ?c2 ?c3 ?c4; (case kA => exact rfl); (case kF => exact rfl); (case kK => assumption); (case k1 => k_asm); (case k2 => k_asm); (case k3 => k_asm); (case k4 => k_asm); (case k5 => k_asm); (case k6 => k_is); (case k7 => k_is); (case k8 => ktr_room); (case k9 => exact BindsTo.of_eq rfl); (case kB => exact rfl); (case kD => decide +kernel); (case c2 => exact rfl); (case c3 => exact rfl); (case c4 => exact rfl); k_whole; intro g' L' h' tk' cells' FG' F' N' Y' B' X' T' l1; (try k_lt l1); k_cells Y'; (try simp only [List.cons_append, List.nil_append] at N'); (try dsimp only); (try k_fold)))
local macro_rules | `(tactic| walk_at "call type:tuple") => `(tactic| (k_here; k_dflt (refine' r_tupOf ?F ?N ?m ?z ?_; (case F => k_asm); (case N => k_asm); (case m => k_mem); (case z => with_reducible assumption); k_whole); intro D' h' F' N' l1; (try k_lt l1); (try k_sweep)))
local macro_rules | `(tactic| walk_at "eval ListComp") => `(tactic| (k_here; k_dflt (refine ListComp_T (by k_asm) (by with_unfolding_all rfl) (by decide) (by rfl) (by decide) (by rfl) ?_)))
theorem put_sub {all tl : Led} {p1 p2 p3 c1 c2 : Addr × Obj} : ∀ q ∈ (p1 :: p2 :: tl) ++ all, q ∈ p1 :: p2 :: p3 :: (tl ++ (c1 :: c2 :: all)) := fun q hq => by
  simp only [List.cons_append, List.mem_append, List.mem_cons] at hq ⊢
  rcases hq with e | e | e | e
  · exact .inl e
  · exact .inr (.inl e)
  · exact .inr (.inr (.inr (.inl e)))
  · exact .inr (.inr (.inr (.inr (.inr (.inr e)))))
theorem put_lt {a : Addr} {all tl : Led} {c1 c2 : Addr × Obj} (h : AllLt a (tl ++ (c1 :: c2 :: all))) : AllLt a all := allLt_of fun q hq => ktn_ltOf h q (mem_r (.tail _ (.tail _ hq)))
theorem sub3 {nt nw : Led} {p1 p2 p3 : Addr × Obj} (h : ∀ q ∈ nt, q ∈ nw) : ∀ q ∈ nt, q ∈ p1 :: p2 :: p3 :: nw := fun q hq => .tail _ (.tail _ (.tail _ (h q hq)))
section
variable {prog : Program} {w : World} {f : Addr} {g : Int → Tm} {ok : Int → Prop} {rr : Nat} {ag : Bool} {n : Nat}
local macro_rules | `(tactic| walk_at "call ref") => `(tactic| (k_here; k_dflt (first
  | (refine' callsP_use ?k1 ?k4 ?k5 ?k6 ?k7 ?k8 ?k9 ?k10 ?k11 ?k12 ?k13 ?_; (case k1 => assumption); (case k4 => k_asm); (case k5 => k_asm); (case k6 => k_asm); (case k7 => k_asm); (case k8 => k_asm); (case k9 => first | exact rfl | assumption); (case k10 => (dsimp only [ktrTop, Around.deeper]; omega)); (case k11 => (dsimp only [ktrTop, Around.deeper]; omega)); (case k12 => with_reducible assumption); (case k13 => exact sub3 (by assumption)); k_whole; intro v8 tl8 h8 tk8 F8 N8 O8 D8; (try dsimp only); (try k_fold)))))
theorem put_node {fn : Int} {args rs : List Tm} {rp : Nat} (hkeep : keepIn (hd.heap_39 w.params) (.ref f) = true) (hal : args.length ≤ 1000) (hrs : All2 (Rb g ok ag n) args rs) (Hp : ∀ t r, Rb g ok ag n t r → CallsP prog w 73 f ag rp t r) : CallsP prog w 73 f ag (rp + 2) (.s fn args) (.s fn rs) := by
  intro p loose mean mg mb dp un gd cn cs a ccd cl outer A₀ base h₀ L m all news s tv Q E B F X N T hk room ur sub D0 ret
  obtain ⟨a0, b0, t1, t2, n1, n2, avs, rfl, hm1, hm2, hargs⟩ := node_inv D0
  replace hm1 := sub _ hm1
  have hm2' := sub _ hm2
  refine wpAny_call ?_
  k_dflt ktr_enter
  k_steps
  rename Fr _ _ _ _ => F2
  rename News _ _ _ _ => N2
  rename Below _ _ _ _ => B2
  rename Frag.In _ _ => X2
  rename Top _ _ _ _ _ _ => T2
  have hlen := hargs.length
  have hrl := hrs.length
  refine ⟨b0, avs, n2, _, rfl, rfl, F2, N2, .tail _ (.tail _ hm2'), (by rw [sizeLine_eq]; omega), ?_⟩
  intro g9
  rw [hlen]
  refine comp_list (R := Rb g ok ag n) (nT := news) (fun q hq => .tail _ (.tail _ (sub q hq))) ?step rs (.tail _ (.tail _ hm2')) ?fin args rs hrs 0 [] [] [] rfl above_nil .nil hargs
  case step =>
    clear F2 N2
    intro t r v I oI C oC D m₂ h tk ys nw nt E' Qc hR hD hnt hsub F3 N3 hC hx kk
    have hc1 := hsub _ (.head _)
    have hc2 := hsub _ (.tail _ (.head _))
    have Hp' : CallsP prog w 73 f ag rp t r := @Hp t r hR
    k_steps
    rename Fr _ _ _ _ => F8
    rename News _ _ _ _ => N8
    rename Above _ _ => O8
    rename TmIn _ _ r => D8
    exact kk _ _ _ _ F8 N8 O8 D8
  case fin =>
    clear F2 N2
    intro D h tk tl ys F4 N4 O4 D4
    have hyl := D4.length
    have hyz : ys.length ≤ 1000 := by omega
    dsimp only
    k_steps
    rename Fr h₀ L _ m => kF
    rename News h₀ L _ _ => kN
    rename _ ∧ _ ∧ AllLt _ _ => lT
    rename _ ∧ AllLt _ _ => lA
    refine ret _ (_ :: _ :: tl) _ _ kF (fun q hq => kN q (put_sub q hq)) (above_cons (put_lt lT.2.2) (above_cons (put_lt lA.2) (above_cells O4))) ?_
    exact node_mk (.head _) (.tail _ (.head _)) (DatAll.mono (fun q hq => .tail _ (.tail _ hq)) D4)

/-- _law_put is the same big step -/
theorem put_spec (H : ChgSpec prog w f g ok rr) (hkeep : keepIn (hd.heap_39 w.params) (.ref f) = true) : ∀ (n : Nat) {t r : Tm}, Rb g ok ag n t r → CallsP prog w 73 f ag (rr + 2 + 4 * n) t r := by
  intro n
  induction n with
  | zero => intro t r h; exact h.elim
  | succ n ih =>
    intro t r hb
    cases t with
    | a k =>
      have e : r = Tm.a k := hb
      subst e
      intro p loose mean mg mb dp un gd cn cs a ccd cl outer A₀ base h₀ L m all news s tv Q E B F X N T hk room ur sub D0 ret
      exact put_flat (st := Str.ofString "a") (k := k) rfl (by decide) (by decide) B F X N T hk (by omega) (by omega) sub D0 ret
    | i k =>
      have e : r = Tm.i k := hb
      subst e
      intro p loose mean mg mb dp un gd cn cs a ccd cl outer A₀ base h₀ L m all news s tv Q E B F X N T hk room ur sub D0 ret
      exact put_flat (st := Str.ofString "i") (k := k) rfl (by decide) (by decide) B F X N T hk (by omega) (by omega) sub D0 ret
    | v k =>
      obtain ⟨hok, ⟨rfl, hns⟩ | ⟨hag, fn, args, rs, hg, rfl, hl, hrs⟩⟩ := hb
      · intro p loose mean mg mb dp un gd cn cs a ccd cl outer A₀ base h₀ L m all news s tv Q E B F X N T hk room ur sub D0 ret
        cases ag with
        | false => exact put_varF H hkeep hok B F X N T hk (by omega) (by omega) sub D0 ret
        | true =>
          have hns := hns.resolve_left (by decide)
          have key : ∃ st j, (g k).dat = .tuple [.str st, .int j] ∧ ¬ st = Str.ofString "s" := by
            cases hgk : g k with
            | v j => exact ⟨Str.ofString "v", j, rfl, by decide⟩
            | i j => exact ⟨Str.ofString "i", j, rfl, by decide⟩
            | a j => exact ⟨Str.ofString "a", j, rfl, by decide⟩
            | s j l => rw [hgk] at hns; cases hns
          obtain ⟨st, j, h1, h2⟩ := key
          exact put_varT H hkeep hok h1 h2 B F X N T hk (by omega) (by omega) sub D0 ret
      · subst hag
        have Hn : CallsP prog w 73 f true (rr + 2 + 4 * n + 2) (.s fn args) (.s fn rs) := put_node hkeep hl hrs fun t r h => @ih t r h
        intro p loose mean mg mb dp un gd cn cs a ccd cl outer A₀ base h₀ L m all news s tv Q E B F X N T hk room ur sub D0 ret
        exact put_into H hkeep hok hg Hn (by omega) B F X N T hk (by omega) (by omega) sub D0 ret
    | s fn args =>
      obtain ⟨rs, rfl, hl, hrs⟩ := hb
      intro p loose mean mg mb dp un gd cn cs a ccd cl outer A₀ base h₀ L m all news s tv Q E B F X N T hk room ur sub D0 ret
      exact put_node hkeep hl hrs (fun t r h => @ih t r h) B F X N T hk (by omega) (by omega) sub D0 ret
end
end Mine

/-! part Tree0 -/
namespace Mine
local macro_rules | `(tactic| walk_at "own Tree0 0") => `(tactic| skip)
local macro_rules | `(tactic| walk_at "own Tree0 1") => `(tactic| skip)
local macro_rules | `(tactic| walk_at "own Tree0 2") => `(tactic| skip)
local macro_rules | `(tactic| walk_at "own Tree0 3") => `(tactic| skip)
local macro_rules | `(tactic| walk_at "own Tree0 4") => `(tactic| skip)
local macro_rules | `(tactic| walk_at "own Tree0 5") => `(tactic| skip)
local macro_rules | `(tactic| walk_at "own Tree0 6") => `(tactic| skip)
local macro_rules | `(tactic| walk_at "own Tree0 7") => `(tactic| skip)
local macro_rules | `(tactic| walk_at "own Tree0 8") => `(tactic| skip)
local macro_rules | `(tactic| walk_at "own Tree0 9") => `(tactic| skip)
local macro_rules | `(tactic| walk_at "own Tree0 10") => `(tactic| skip)
local macro_rules | `(tactic| walk_at "own Tree0 11") => `(tactic| skip)
local macro_rules | `(tactic| walk_at "own Tree0 12") => `(tactic| skip)
local macro_rules | `(tactic| walk_at "own Tree0 13") => `(tactic| skip)
local macro_rules | `(tactic| walk_at "own Tree0 14") => `(tactic| skip)
local macro_rules | `(tactic| walk_at "own Tree0 15") => `(tactic| skip)
local macro_rules | `(tactic| walk_at "own Tree0 16") => `(tactic| skip)
local macro_rules | `(tactic| walk_at "own Tree0 17") => `(tactic| skip)
local macro_rules | `(tactic| walk_at "own Tree0 18") => `(tactic| skip)
local macro_rules | `(tactic| walk_at "own Tree0 19") => `(tactic| skip)
local macro_rules | `(tactic| walk_at "own Tree0 20") => `(tactic| skip)
local macro_rules | `(tactic| walk_at "own Tree0 21") => `(tactic| skip)
local macro_rules | `(tactic| walk_at "own Tree0 22") => `(tactic| skip)
local macro_rules | `(tactic| walk_at "own Tree0 23") => `(tactic| skip)
local macro_rules | `(tactic| walk_at "own Tree0 24") => `(tactic| skip)
open PyProof.Rows.LCg

/-- what _law_tree may build -/
def TreeOk : Nat → Tm → Prop
  | _, .a _ => True
  | _, .i _ => True
  | _, .v k => ok6 k
  | 0, .s _ _ => False
  | d + 1, .s _ args => args.length ≤ 3 ∧ ∀ t ∈ args, TreeOk d t

abbrev potO (D : Addr) (c : Int) (t1 : Tok) (n1 : Nat) : Obj := listOf #[.int c t1, .ref D] n1

/-- the contract of _law_tree at depth d -/
abbrev TreeSpec (prog : Program) (w : World) (d : Nat) : Prop :=
   ∀ {p : Program} {loose : List Str} {mean : ExcName → Option Value} {mg mb : Str → Option Value}
   {dp un : Nat} {gd : Option (List Code)} {cn : Str} {cs : Scope} {a : Addr} {ccd : Value} {cl : List (Str × Addr)} {outer : List Env} {A₀ : Around} {base h₀ : Heap} {L : Addr} {m : Str → Option Value} {news : Led} {s : Shared}
   {P D : Addr} {vs : List Value} {ns : List Int} {n1 n2 : Nat} {c e : Int} {t1 tk : Tok} {Q E : Value → Shared → Prop},
   Below A₀ base outer h₀ → Fr h₀ L s.heap m → (hd.heap_39 w.params).In h₀ → News h₀ L s.heap ((P, potO D c t1 n1) :: (D, listOf vs.toArray n2) :: news) → Top p loose mean mg mb h₀ → cs.kind = .function →
   dp + 4 * d + 4 < recursionLimit → un + 40 * d + 140 < cLine → e = (d : Int) → IntsAre vs ns → 0 < (ns.length : Int) → (ns.length : Int) ≤ 20 → P ≠ D → (∀ q ∈ news, q.1 ≠ P) → (∀ q ∈ news, q.1 ≠ D) →
   (∀ v t tl c' t1' vs' ns' h' tk', IntsAre vs' ns' → ns'.length = ns.length → Fr h₀ L h' m → News h₀ L h' ((P, potO D c' t1' n1) :: (D, listOf vs'.toArray n2) :: (tl ++ news)) → Above tl ((P, default) :: (D, default) :: news) → TmIn tl v t → TreeOk d t → Q v { s with heap := h', toks := tk' }) →
   wpAny (model prog w) (ktrTop dp un gd cn cs L a ccd cl outer) (call (.ref 68) [.ref P, .int e tk]) Q E s

local macro_rules | `(tactic| k_mem) => `(tactic| first | with_reducible assumption | with_reducible exact List.mem_cons_self | (with_reducible refine List.mem_cons_of_mem _ ?_; k_mem) | (with_reducible refine List.mem_append.mpr (Or.inr ?_); k_mem) | (with_reducible refine List.mem_append.mpr (Or.inl ?_); k_mem))
local macro_rules | `(tactic| ktr_enter) => `(tactic| (refine' code_defC ?k1 ?k2 ?k3 ?k4 ?k5 ?kA ?kF ?kK ?k6 ?k7 ?k8 ?k9 ?kB ?kD ?_ ?c2 ?c3 ?c4; (case kA => exact rfl); (case kF => exact rfl); (case kK => assumption); (case k1 => k_asm); (case k2 => k_asm); (case k3 => k_asm); (case k4 => k_asm); (case k5 => k_asm); (case k6 => k_is); (case k7 => k_is); (case k8 => ktr_room); (case k9 => exact BindsTo.of_eq rfl); (case kB => exact rfl); (case kD => decide +kernel); (case c2 => exact rfl); (case c3 => exact rfl); (case c4 => exact rfl); k_whole; intro g' L' h' tk' cells' FG' F' N' Y' B' X' T' l1; (try k_lt l1); k_cells Y'; (try simp only [List.cons_append, List.nil_append] at N'); (try dsimp only); (try k_fold)))
local macro_rules | `(tactic| walk_at "eval ListComp") => `(tactic| (k_here; k_dflt (refine LCg.ListComp_U (F₀ := by k_asm) (by with_unfolding_all rfl) (by decide) (by rfl) (by decide) (by rfl) ?_)))
local macro_rules | `(tactic| walk_at "ite") => `(tactic| first | (refine ite_neg ?c ?_; (case c => (simp only [beq_iff_eq, bne_iff_ne, ne_eq, Classical.not_not, decide_eq_true_eq]; with_reducible assumption))) | (refine ite_pos ?c ?_; (case c => (simp only [beq_iff_eq, bne_iff_ne, ne_eq, decide_eq_true_eq]; with_reducible assumption))))
local macro_rules | `(tactic| walk_at "call ref") => `(tactic| (k_here; k_dflt (
  (refine' digit_call ?k1 ?k2 ?k3 ?k4 ?k5 ?k6 ?k7 ?k8 ?k9 ?k10 ?k11 ?k12 ?k13 ?k14 ?k15 ?k16 ?_; (case k1 => k_asm); (case k2 => k_asm); (case k3 => k_asm); (case k4 => k_asm); (case k5 => k_asm); (case k6 => first | exact rfl | assumption); (case k7 => (dsimp only [ktrTop, Around.deeper]; omega)); (case k8 => (dsimp only [ktrTop, Around.deeper]; omega)); (case k9 => with_reducible assumption); (case k10 => omega); (case k11 => omega); (case k12 => decide); (case k13 => decide +kernel); (case k14 => assumption); (case k15 => assumption); (case k16 => assumption); k_whole; intro d9 t9 t19 vs9 ns9 h9 tk9 lo9 hi9 I9 e9 F9 N9; (try dsimp only); (try k_fold)))))
theorem pot_front {h₀ h : Heap} {L : Addr} {a b c d : Addr × Obj} {r : Led} (N : News h₀ L h (c :: d :: a :: b :: r)) : News h₀ L h (a :: b :: c :: d :: r) := fun q hq => N q (by
  simp only [List.mem_cons] at hq ⊢
  rcases hq with e | e | e | e | e
  · exact .inr (.inr (.inl e))
  · exact .inr (.inr (.inr (.inl e)))
  · exact .inl e
  · exact .inr (.inl e)
  · exact .inr (.inr (.inr (.inr e))))
theorem cells_off {h₀ h : Heap} {L P : Addr} {a b : Addr × Obj} {o o2 : Obj} {news : Led} (_N : News h₀ L h (a :: b :: (L + 1 + 1, o) :: (L + 1, o2) :: news)) (h : @LT.lt Nat _ P L) (k : ∀ q ∈ news, q.1 ≠ P) : ∀ q ∈ (L + 1 + 1, o) :: (L + 1, o2) :: news, q.1 ≠ P := by
  intro q hq
  rcases List.mem_cons.mp hq with rfl | hq
  · show L + 1 + 1 ≠ P
    exact Nat.ne_of_gt (Nat.lt_succ_of_lt (Nat.lt_succ_of_lt h))
  · rcases List.mem_cons.mp hq with rfl | hq
    · show L + 1 ≠ P
      exact Nat.ne_of_gt (Nat.lt_succ_of_lt h)
    · exact k q hq
theorem leaf_sub {x a b c d : Addr × Obj} {r : Led} : ∀ q ∈ a :: b :: ([x] ++ r), q ∈ x :: a :: b :: c :: d :: r := fun q hq => by
  simp only [List.cons_append, List.nil_append, List.mem_cons] at hq ⊢
  rcases hq with e | e | e | e
  · exact .inr (.inl e)
  · exact .inr (.inr (.inl e))
  · exact .inl e
  · exact .inr (.inr (.inr (.inr (.inr e))))
theorem leaf_above {T P D a b : Addr} {o : Obj} {news : Led} (h : @LT.lt Nat _ P T ∧ @LT.lt Nat _ D T ∧ @LT.lt Nat _ a T ∧ @LT.lt Nat _ b T ∧ AllLt T news) : Above [(T, o)] ((P, default) :: (D, default) :: news) := by
  intro q hq p hp
  rw [List.mem_singleton.mp hp]
  rcases List.mem_cons.mp hq with rfl | hq
  · exact h.1
  · rcases List.mem_cons.mp hq with rfl | hq
    · exact h.2.1
    · exact ktn_ltOf h.2.2.2.2 q hq
theorem tree_spec0 (prog : Program) (w : World) : TreeSpec prog w 0 := by
  intro p loose mean mg mb dp un gd cn cs a ccd cl outer A₀ base h₀ L m news s P D vs ns n1 n2 c e t1 tk Q E B F X N T hk room ur he hi h3 h4 hPD hP hD ret
  have he0 : e = 0 := he
  subst he0
  clear he
  refine wpAny_call ?_
  k_dflt ktr_enter
  rename News _ _ _ _ => N1
  rename _ ∧ _ ∧ AllLt _ news => l1
  have N2 := pot_front N1
  clear N1
  have hP' := cells_off N2 l1.1 hP
  have hD' := cells_off N2 l1.2.1 hD
  k_steps
  all_goals
    rename Fr h₀ L _ m => kF
    rename News h₀ L _ _ => kN
    rename IntsAre _ _ => I9
    rename _ ∧ _ ∧ _ ∧ _ ∧ AllLt _ news => lT
    first
    | exact ret _ (.a _) [_] _ _ _ _ _ _ I9 (by omega) kF (fun q hq => kN q (leaf_sub q hq)) (leaf_above lT) (leaf_mk (.head _)) trivial
    | exact ret _ (.i _) [_] _ _ _ _ _ _ I9 (by omega) kF (fun q hq => kN q (leaf_sub q hq)) (leaf_above lT) (leaf_mk (.head _)) trivial
    | exact ret _ (.v _) [_] _ _ _ _ _ _ I9 (by omega) kF (fun q hq => kN q (leaf_sub q hq)) (leaf_above lT) (leaf_mk (.head _)) ⟨by assumption, by assumption⟩
end Mine

/-! part Tree1 -/
namespace Mine
local macro_rules | `(tactic| walk_at "own Tree1 0") => `(tactic| skip)
local macro_rules | `(tactic| walk_at "own Tree1 1") => `(tactic| skip)
local macro_rules | `(tactic| walk_at "own Tree1 2") => `(tactic| skip)
local macro_rules | `(tactic| walk_at "own Tree1 3") => `(tactic| skip)
local macro_rules | `(tactic| walk_at "own Tree1 4") => `(tactic| skip)
local macro_rules | `(tactic| walk_at "own Tree1 5") => `(tactic| skip)
local macro_rules | `(tactic| walk_at "own Tree1 6") => `(tactic| skip)
local macro_rules | `(tactic| walk_at "own Tree1 7") => `(tactic| skip)
local macro_rules | `(tactic| walk_at "own Tree1 8") => `(tactic| skip)
local macro_rules | `(tactic| walk_at "own Tree1 9") => `(tactic| skip)
local macro_rules | `(tactic| walk_at "own Tree1 10") => `(tactic| skip)
local macro_rules | `(tactic| walk_at "own Tree1 11") => `(tactic| skip)
local macro_rules | `(tactic| walk_at "own Tree1 12") => `(tactic| skip)
local macro_rules | `(tactic| walk_at "own Tree1 13") => `(tactic| skip)
local macro_rules | `(tactic| walk_at "own Tree1 14") => `(tactic| skip)
local macro_rules | `(tactic| walk_at "own Tree1 15") => `(tactic| skip)
local macro_rules | `(tactic| walk_at "own Tree1 16") => `(tactic| skip)
local macro_rules | `(tactic| walk_at "own Tree1 17") => `(tactic| skip)
local macro_rules | `(tactic| walk_at "own Tree1 18") => `(tactic| skip)
local macro_rules | `(tactic| walk_at "own Tree1 19") => `(tactic| skip)
local macro_rules | `(tactic| walk_at "own Tree1 20") => `(tactic| skip)
local macro_rules | `(tactic| walk_at "own Tree1 21") => `(tactic| skip)
local macro_rules | `(tactic| walk_at "own Tree1 22") => `(tactic| skip)
open PyProof.Rows.LCg
section
variable {prog : Program} {w : World} {A : Around} {E : Value → Shared → Prop} {s : Shared} {h₀ : Heap} {L : Addr} {m : Str → Option Value} {env : Env}
theorem comp_tree {elt : PySem.Expr} {x : Str} {scope : Scope} {cl : List (Str × Addr)} {Q : Value → Shared → Prop} {P D : Addr} {n1 n2 : Nat} {nw0 : Led} {d N0 k0 : Nat}
    (step : ∀ v I oI C oC Dl m₂ h tk ys c t1 vs ns (nw : Led) (E' Qc : Value → Shared → Prop), Fr h₀ L h m → News h₀ L h ((P, potO D c t1 n1) :: (D, listOf vs.toArray n2) :: (I, oI) :: (C, oC) :: (Dl, lst ys) :: nw) → NsObj oC m₂ → m₂ x = some v → IntsAre vs ns → ns.length = N0 →
      (∀ q ∈ (I, oI) :: (C, oC) :: (Dl, lst ys) :: nw, q.1 ≠ P) → (∀ q ∈ (I, oI) :: (C, oC) :: (Dl, lst ys) :: nw, q.1 ≠ D) → (∀ q ∈ nw0, q ∈ nw) →
      (∀ v' t tl c' t1' vs' ns' h' tk', IntsAre vs' ns' → ns'.length = N0 → Fr h₀ L h' m → News h₀ L h' ((P, potO D c' t1' n1) :: (D, listOf vs'.toArray n2) :: (tl ++ ((I, oI) :: (C, oC) :: (Dl, lst ys) :: nw))) → Above tl ((P, default) :: (D, default) :: (I, oI) :: (C, oC) :: (Dl, lst ys) :: nw) → TmIn tl v' t → TreeOk d t → Qc v' { s with heap := h', toks := tk' }) →
      wpAny (model prog w) A (eval elt (compEnvC scope cl C env)) Qc E' { s with heap := h, toks := tk })
    (oP : ∀ q ∈ nw0, q.1 ≠ P) (oD : ∀ q ∈ nw0, q.1 ≠ D)
    (fin : ∀ Dl h tk tl ys ts c t1 vs ns, Fr h₀ L h m → News h₀ L h ((Dl, listOf ys.toArray ys.length) :: (P, potO D c t1 n1) :: (D, listOf vs.toArray n2) :: (tl ++ nw0)) → Above tl ((P, default) :: (D, default) :: nw0) → TmsIn tl ys ts → ts.length = k0 → (∀ t ∈ ts, TreeOk d t) → IntsAre vs ns → ns.length = N0 → Q (.ref Dl) { s with heap := h, toks := tk }) :
    ∀ (k i : Nat) (ys : List Value) (ts : List Tm) (tl : Led) (c : Int) (t1 : Tok) (vs : List Value) (ns : List Int), ts.length + k = k0 → Above tl ((P, default) :: (D, default) :: nw0) → TmsIn tl ys ts → (∀ t ∈ ts, TreeOk d t) → IntsAre vs ns → ns.length = N0 →
      CompRest prog w A h₀ L m env elt x scope cl s (fun _ => True) (fun i v => ∃ t, v = .int (0 + (i : Int)) t) (FinE h₀ L m s Q) k i ys ((P, potO D c t1 n1) :: (D, listOf vs.toArray n2) :: (tl ++ nw0)) := by
  intro k
  induction k with
  | zero =>
    intro i ys ts tl c t1 vs ns hk ha hy ht hi hn
    refine CompRest.zero ?_
    intro Dl h tk F' N' _
    exact fin Dl h tk tl ys ts c t1 vs ns F' N' ha hy hk ht hi hn
  | succ k ih =>
    intro i ys ts tl c t1 vs ns hk ha hy ht hi hn
    refine CompRest.succ ?_
    intro v I oI C oC Dl m₂ h tk E' hP hC hx F' N' off ne
    have om := off.mem
    have offAt : ∀ X : Addr, (X = P ∨ X = D) → (∀ q ∈ nw0, q.1 ≠ X) → ∀ q ∈ (I, oI) :: (C, oC) :: (Dl, lst ys) :: (tl ++ nw0), q.1 ≠ X := by
      intro X hX hX0 q hq
      have hXm : X ≠ I ∧ X ≠ C ∧ X ≠ Dl := by
        rcases hX with rfl | rfl
        · exact om (_, _) (.head _)
        · exact om (_, _) (.tail _ (.head _))
      rcases List.mem_cons.mp hq with rfl | hq
      · exact hXm.1.symm
      · rcases List.mem_cons.mp hq with rfl | hq
        · exact hXm.2.1.symm
        · rcases List.mem_cons.mp hq with rfl | hq
          · exact hXm.2.2.symm
          · rcases List.mem_append.mp hq with hq | hq
            · rcases hX with rfl | rfl
              · exact Nat.ne_of_gt (ha (_, _) (.head _) q hq)
              · exact Nat.ne_of_gt (ha (_, _) (.tail _ (.head _)) q hq)
            · exact hX0 q hq
    have N2 : News h₀ L h ((P, potO D c t1 n1) :: (D, listOf vs.toArray n2) :: (I, oI) :: (C, oC) :: (Dl, lst ys) :: (tl ++ nw0)) := fun q hq => N' q (by
      simp only [List.mem_cons] at hq ⊢
      rcases hq with e | e | e | e | e | e
      · exact .inr (.inr (.inr (.inl e)))
      · exact .inr (.inr (.inr (.inr (.inl e))))
      · exact .inl e
      · exact .inr (.inl e)
      · exact .inr (.inr (.inl e))
      · exact .inr (.inr (.inr (.inr (.inr e)))))
    refine step v I oI C oC Dl m₂ h tk ys c t1 vs ns (tl ++ nw0) E' _ F' N2 hC hx hi hn (offAt P (.inl rfl) oP) (offAt D (.inr rfl) oD) (fun q hq => mem_r hq) ?_
    intro v' t tl' c' t1' vs' ns' h' tk' I2 e2 F2 N3 O2 D2 T2
    refine CompEnd.intro F2 N3 ((P, potO D c' t1' n1) :: (D, listOf vs'.toArray n2) :: (tl' ++ (tl ++ nw0))) ?_ ?_ trivial ?_
    · intro p hp
      simp only [List.mem_cons, List.mem_append] at hp ⊢
      rcases hp with e | e | e | e | e | e | e | e
      · exact .inr (.inr (.inr (.inl e)))
      · exact .inr (.inr (.inr (.inr (.inl e))))
      · exact .inr (.inr (.inr (.inr (.inr (.inl e)))))
      · exact .inl e
      · exact .inr (.inl e)
      · exact .inr (.inr (.inl e))
      · exact .inr (.inr (.inr (.inr (.inr (.inr (.inl e))))))
      · exact .inr (.inr (.inr (.inr (.inr (.inr (.inr e))))))
    · refine Off3.of fun p hp => ?_
      rcases List.mem_cons.mp hp with rfl | hp
      · exact om (P, potO D c t1 n1) (.head _)
      · rcases List.mem_cons.mp hp with rfl | hp
        · exact om (D, listOf vs.toArray n2) (.tail _ (.head _))
        · rcases List.mem_append.mp hp with hp | hp
          · exact ⟨Nat.ne_of_gt (O2 (I, oI) (.tail _ (.tail _ (.head _))) p hp), Nat.ne_of_gt (O2 (C, oC) (.tail _ (.tail _ (.tail _ (.head _)))) p hp), Nat.ne_of_gt (O2 (Dl, lst ys) (.tail _ (.tail _ (.tail _ (.tail _ (.head _))))) p hp)⟩
          · exact om p (.tail _ (.tail _ hp))
    · have q := ih (i + 1) (ys ++ [v']) (ts ++ [t]) (tl' ++ tl) c' t1' vs' ns' (by rw [List.length_append, List.length_singleton]; omega)
        (by
          intro q hq p hp
          rcases List.mem_append.mp hp with hp | hp
          · rcases List.mem_cons.mp hq with rfl | hq
            · exact O2 (P, default) (.head _) p hp
            · rcases List.mem_cons.mp hq with rfl | hq
              · exact O2 (D, default) (.tail _ (.head _)) p hp
              · exact O2 q (.tail _ (.tail _ (.tail _ (.tail _ (.tail _ (mem_r hq)))))) p hp
          · exact ha q hq p hp)
        (TmsIn.snoc (DatAll.mono (fun q hq => mem_r hq) hy) (DatIn.mono (fun q hq => mem_l hq) D2))
        (fun u hu => (List.mem_append.mp hu).elim (ht u) fun hu => by rw [List.mem_singleton.mp hu]; exact T2) I2 e2
      rw [List.append_assoc] at q
      exact q
end
theorem treeS_use {prog : Program} {w : World} {d : Nat} {p : Program} {loose : List Str} {mean : ExcName → Option Value} {mg mb : Str → Option Value}
   {dp un : Nat} {gd : Option (List Code)} {cn : Str} {cs : Scope} {a : Addr} {ccd : Value} {cl : List (Str × Addr)} {outer : List Env} {A₀ : Around} {base h₀ : Heap} {L : Addr} {m : Str → Option Value} {news : Led} {s : Shared}
   {P D : Addr} {vs : List Value} {ns : List Int} {n1 n2 : Nat} {c e : Int} {t1 tk : Tok} {Q E : Value → Shared → Prop} (H : TreeSpec prog w d)
   (B : Below A₀ base outer h₀) (F : Fr h₀ L s.heap m) (X : (hd.heap_39 w.params).In h₀) (N : News h₀ L s.heap ((P, potO D c t1 n1) :: (D, listOf vs.toArray n2) :: news)) (T : Top p loose mean mg mb h₀) (hk : cs.kind = .function)
   (room : dp + 4 * d + 4 < recursionLimit) (ur : un + 40 * d + 140 < cLine) (he : e = (d : Int)) (hi : IntsAre vs ns) (h3 : 0 < (ns.length : Int)) (h4 : (ns.length : Int) ≤ 20) (hPD : P ≠ D) (hP : ∀ q ∈ news, q.1 ≠ P) (hD : ∀ q ∈ news, q.1 ≠ D)
   (ret : ∀ v t tl c' t1' vs' ns' h' tk', IntsAre vs' ns' → ns'.length = ns.length → Fr h₀ L h' m → News h₀ L h' ((P, potO D c' t1' n1) :: (D, listOf vs'.toArray n2) :: (tl ++ news)) → Above tl ((P, default) :: (D, default) :: news) → TmIn tl v t → TreeOk d t → Q v { s with heap := h', toks := tk' }) :
   wpAny (model prog w) (ktrTop dp un gd cn cs L a ccd cl outer) (call (.ref 68) [.ref P, .int e tk]) Q E s := H B F X N T hk room ur he hi h3 h4 hPD hP hD ret
local macro_rules | `(tactic| k_mem) => `(tactic| first | with_reducible assumption | with_reducible exact List.mem_cons_self | (with_reducible refine List.mem_cons_of_mem _ ?_; k_mem) | (with_reducible refine List.mem_append.mpr (Or.inr ?_); k_mem) | (with_reducible refine List.mem_append.mpr (Or.inl ?_); k_mem))
local macro_rules | `(tactic| ktr_enter) => `(tactic| (refine' code_defC ?k1 ?k2 ?k3 ?k4 ?k5 ?kA ?kF ?kK ?k6 ?k7 ?k8 ?k9 ?kB ?kD ?_ ?c2 ?c3 ?c4; (case kA => exact rfl); (case kF => exact rfl); (case kK => assumption); (case k1 => k_asm); (case k2 => k_asm); (case k3 => k_asm); (case k4 => k_asm); (case k5 => k_asm); (case k6 => k_is); (case k7 => k_is); (case k8 => ktr_room); (case k9 => exact BindsTo.of_eq rfl); (case kB => exact rfl); (case kD => decide +kernel); (case c2 => exact rfl); (case c3 => exact rfl); (case c4 => exact rfl); k_whole; intro g' L' h' tk' cells' FG' F' N' Y' B' X' T' l1; (try k_lt l1); k_cells Y'; (try simp only [List.cons_append, List.nil_append] at N'); (try dsimp only); (try k_fold)))
local macro_rules | `(tactic| walk_at "eval ListComp") => `(tactic| (k_here; k_dflt (refine LCg.ListComp_U (F₀ := by k_asm) (by with_unfolding_all rfl) (by decide) (by rfl) (by decide) (by rfl) ?_)))
local macro_rules | `(tactic| walk_at "ite") => `(tactic| first | (refine ite_neg ?c ?_; (case c => (simp only [beq_iff_eq, bne_iff_ne, ne_eq, Classical.not_not, decide_eq_true_eq]; with_reducible assumption))) | (refine ite_pos ?c ?_; (case c => (simp only [beq_iff_eq, bne_iff_ne, ne_eq, decide_eq_true_eq]; with_reducible assumption))))
local macro_rules | `(tactic| walk_at "call ref") => `(tactic| (k_here; k_dflt (
  (refine' digit_call ?k1 ?k2 ?k3 ?k4 ?k5 ?k6 ?k7 ?k8 ?k9 ?k10 ?k11 ?k12 ?k13 ?k14 ?k15 ?k16 ?_; (case k1 => k_asm); (case k2 => k_asm); (case k3 => k_asm); (case k4 => k_asm); (case k5 => k_asm); (case k6 => first | exact rfl | assumption); (case k7 => (dsimp only [ktrTop, Around.deeper]; omega)); (case k8 => (dsimp only [ktrTop, Around.deeper]; omega)); (case k9 => with_reducible assumption); (case k10 => omega); (case k11 => omega); (case k12 => decide); (case k13 => decide +kernel); (case k14 => assumption); (case k15 => assumption); (case k16 => assumption); k_whole; intro d9 t9 t19 vs9 ns9 h9 tk9 lo9 hi9 I9 e9 F9 N9; (try dsimp only); (try k_fold)))))
theorem compSrc_stop {prog : Program} {w : World} {A : Around} {h₀ : Heap} {L : Addr} {m : Str → Option Value} {env : Env} {elt : PySem.Expr} {x : Str} {scope : Scope} {cl : List (Str × Addr)} {Fin : Shared → List Value → List (Addr × Obj) → Prop} {xv : Value} {s₁ : Shared}
  (h : Stop (CompSrc prog w A h₀ L m env elt x scope cl Fin xv s₁)) : CompSrc prog w A h₀ L m env elt x scope cl Fin xv s₁ := h
local macro_rules | `(tactic| walk_at "CompSrc") => `(tactic| refine compSrc_stop ?_)
local macro_rules | `(tactic| walk_at "call ref") => `(tactic| (k_here; k_dflt (
  (refine' treeS_use ?k1 ?k4 ?k5 ?k6 ?k7 ?k8 ?k9 ?k10 ?k11 ?k12 ?k13 ?k14 ?k15 ?k16 ?k17 ?k18 ?_; (case k1 => assumption); (case k4 => k_asm); (case k5 => k_asm); (case k6 => k_asm); (case k7 => k_asm); (case k8 => k_asm); (case k9 => first | exact rfl | assumption); (case k10 => (dsimp only [ktrTop, Around.deeper]; omega)); (case k11 => (dsimp only [ktrTop, Around.deeper]; omega)); (case k12 => omega); (case k13 => with_reducible assumption); (case k14 => omega); (case k15 => omega); (case k16 => assumption); (case k17 => assumption); (case k18 => assumption); k_whole; intro v8 t8 tl8 c8 t18 vs8 ns8 h8 tk8 I8 e8 F8 N8 O8 D8 T8; (try dsimp only); (try k_fold)))))
local macro_rules | `(tactic| walk_at "call type:tuple") => `(tactic| (k_here; k_dflt (refine' r_tupOf ?F ?N ?m ?z ?_; (case F => k_asm); (case N => k_asm); (case m => k_mem); (case z => with_reducible assumption); k_whole); intro D' h' F' N' l1; (try k_lt l1); (try k_sweep)))
theorem tree_sub {t2 t1 dl p d c2 c1 : Addr × Obj} {tl news : Led} : ∀ q ∈ p :: d :: ((t2 :: t1 :: tl) ++ news), q ∈ t2 :: t1 :: dl :: p :: d :: (tl ++ (c2 :: c1 :: news)) := fun q hq => by
  simp only [List.cons_append, List.mem_cons, List.mem_append] at hq ⊢
  rcases hq with e | e | e | e | e | e
  · exact .inr (.inr (.inr (.inl e)))
  · exact .inr (.inr (.inr (.inr (.inl e))))
  · exact .inl e
  · exact .inr (.inl e)
  · exact .inr (.inr (.inr (.inr (.inr (.inl e)))))
  · exact .inr (.inr (.inr (.inr (.inr (.inr (.inr (.inr e)))))))
theorem tree_above {T2 T1 Dl P D : Addr} {o2 o1 : Obj} {c2 c1 : Addr × Obj} {tl news : Led} (l2 : @LT.lt Nat _ T1 T2 ∧ @LT.lt Nat _ Dl T2 ∧ @LT.lt Nat _ P T2 ∧ @LT.lt Nat _ D T2 ∧ AllLt T2 (tl ++ (c2 :: c1 :: news)))
    (l1 : @LT.lt Nat _ Dl T1 ∧ @LT.lt Nat _ P T1 ∧ @LT.lt Nat _ D T1 ∧ AllLt T1 (tl ++ (c2 :: c1 :: news))) (O : Above tl ((P, default) :: (D, default) :: c2 :: c1 :: news)) : Above ((T2, o2) :: (T1, o1) :: tl) ((P, default) :: (D, default) :: news) := by
  intro q hq p hp
  rcases List.mem_cons.mp hp with rfl | hp
  · rcases List.mem_cons.mp hq with rfl | hq
    · exact l2.2.2.1
    · rcases List.mem_cons.mp hq with rfl | hq
      · exact l2.2.2.2.1
      · exact ktn_ltOf l2.2.2.2.2 q (mem_r (.tail _ (.tail _ hq)))
  · rcases List.mem_cons.mp hp with rfl | hp
    · rcases List.mem_cons.mp hq with rfl | hq
      · exact l1.2.1
      · rcases List.mem_cons.mp hq with rfl | hq
        · exact l1.2.2.1
        · exact ktn_ltOf l1.2.2.2 q (mem_r (.tail _ (.tail _ hq)))
    · refine O q ?_ p hp
      rcases List.mem_cons.mp hq with rfl | hq
      · exact .head _
      · rcases List.mem_cons.mp hq with rfl | hq
        · exact .tail _ (.head _)
        · exact .tail _ (.tail _ (.tail _ (.tail _ hq)))
theorem tree_step (prog : Program) (w : World) (d : Nat) (IH : TreeSpec prog w d) : TreeSpec prog w (d + 1) := by
  intro p loose mean mg mb dp un gd cn cs a ccd cl outer A₀ base h₀ L m news s P D vs ns n1 n2 c e t1 tk Q E B F X N T hk room ur he hi h3 h4 hPD hP hD ret
  have he1 : e > 0 := by omega
  refine wpAny_call ?_
  k_dflt ktr_enter
  rename News _ _ _ _ => N1
  rename _ ∧ _ ∧ AllLt _ news => l1
  have N2 := pot_front N1
  clear N1
  have hP' := cells_off N2 l1.1 hP
  have hD' := cells_off N2 l1.2.1 hD
  k_steps
  · unfold Stop
    rename IsRange _ _ _ _ _ _ _ _ => hr
    rename Fr _ _ _ _ => F3
    rename News _ _ _ _ => N3
    rename Below _ _ _ _ => B2
    rename Frag.In _ _ => X2
    rename Top _ _ _ _ _ _ => T2
    rename IntsAre _ _ => I3
    refine LCg.CompSrc.range rfl F3 N3 hr (small_one (by decide) (by decide) (by omega) (by omega)) (rangeSize_nat _ _) (by rw [sizeLine_eq]; omega) ?_
    intro g9
    refine comp_tree (d := d) (N0 := ns.length) ?step hP' hD' ?fin _ 0 [] [] [] _ _ _ _ (Nat.zero_add _) (fun _ _ _ h => nomatch h) .nil (fun _ h => nomatch h) I3 (by omega)
    case step =>
      clear F3 N3 hr I3
      intro v I oI C oC Dl m₂ h tk ys c t1 vs ns9 nw E' Qc F4 N4 hC hx hi4 hn4 oP4 oD4 hsub kk
      have hc1 := hsub _ (.head _)
      have hc2 := hsub _ (.tail _ (.head _))
      k_steps
      rename Fr _ _ _ _ => F8
      rename News _ _ _ _ => N8
      rename Above _ _ => O8
      rename TmIn _ _ _ => D8
      rename TreeOk _ _ => T8
      rename IntsAre _ _ => I8
      exact kk _ _ _ _ _ _ _ _ _ I8 (by omega) F8 N8 O8 D8 T8
    case fin =>
      clear F3 N3 hr I3
      intro Dl h tk tl ys ts c t1 vs ns9 F4 N4 O4 D4 hl4 T4 I4 e4
      have hyl := D4.length
      have hyz : ys.length ≤ 1000 := by omega
      dsimp only
      k_steps
      rename Fr h₀ L _ m => kF
      rename News h₀ L _ _ => kN
      rename _ ∧ _ ∧ _ ∧ _ ∧ AllLt _ _ => lT
      rename _ ∧ _ ∧ _ ∧ AllLt _ _ => lA
      exact ret _ (.s _ ts) (_ :: _ :: tl) _ _ _ _ _ _ I4 e4 kF (fun q hq => kN q (tree_sub q hq)) (tree_above lT lA O4) (node_mk (.head _) (.tail _ (.head _)) (DatAll.mono (fun q hq => .tail _ (.tail _ hq)) D4)) ⟨by omega, T4⟩
  all_goals
    rename Fr h₀ L _ m => kF
    rename News h₀ L _ _ => kN
    rename IntsAre _ _ => I9
    rename _ ∧ _ ∧ _ ∧ _ ∧ AllLt _ news => lT
    first
    | exact ret _ (.a _) [_] _ _ _ _ _ _ I9 (by omega) kF (fun q hq => kN q (leaf_sub q hq)) (leaf_above lT) (leaf_mk (.head _)) trivial
    | exact ret _ (.i _) [_] _ _ _ _ _ _ I9 (by omega) kF (fun q hq => kN q (leaf_sub q hq)) (leaf_above lT) (leaf_mk (.head _)) trivial
    | exact ret _ (.v _) [_] _ _ _ _ _ _ I9 (by omega) kF (fun q hq => kN q (leaf_sub q hq)) (leaf_above lT) (leaf_mk (.head _)) ⟨by assumption, by assumption⟩
theorem tree_spec (prog : Program) (w : World) : ∀ d, TreeSpec prog w d := by
  intro d
  induction d with
  | zero => exact tree_spec0 prog w
  | succ d ih => exact tree_step prog w d ih
end Mine

/-! part Pure -/
namespace Mine
/-! the plain law: no program in sight -/
mutual
def subT (g : Int → Tm) : Tm → Tm
  | .v k => g k
  | .i k => .i k
  | .a k => .a k
  | .s f args => .s f (subTs g args)
def subTs (g : Int → Tm) : List Tm → List Tm
  | [] => []
  | t :: ts => subT g t :: subTs g ts
end
theorem subTs_map (g : Int → Tm) : ∀ ts, subTs g ts = ts.map (subT g)
  | [] => by rw [subTs]; rfl
  | t :: ts => by rw [subTs, subTs_map g ts]; rfl

def Nice (ok : Int → Prop) : Nat → Tm → Prop
  | 0, _ => False
  | n + 1, t => match t with
    | .v k => ok k
    | .s _ args => args.length ≤ 1000 ∧ ∀ a ∈ args, Nice ok n a
    | _ => True

section
variable {ok ok' : Int → Prop} {g h f : Int → Tm}
theorem nice_tree : ∀ (d : Nat) (t : Tm), TreeOk d t → Nice ok6 (d + 1) t := by
  intro d
  induction d with
  | zero =>
    intro t ht
    cases t with
    | v k => exact ht
    | i k => exact trivial
    | a k => exact trivial
    | s f args => exact ht.elim
  | succ d ih =>
    intro t ht
    cases t with
    | v k => exact ht
    | i k => exact trivial
    | a k => exact trivial
    | s f args => exact ⟨Nat.le_trans ht.1 (by decide), fun a ha => ih a (ht.2 a ha)⟩
theorem Nice.weak (hk : ∀ k, ok k → ok' k) : ∀ (n : Nat) (t : Tm), Nice ok n t → Nice ok' n t := by
  intro n
  induction n with
  | zero => intro t ht; exact ht.elim
  | succ n ih =>
    intro t ht
    cases t with
    | v k => exact hk k ht
    | i k => exact trivial
    | a k => exact trivial
    | s f args => exact ⟨ht.1, fun a ha => ih a (ht.2 a ha)⟩
theorem Nice.more : ∀ (n m : Nat) (t : Tm), Nice ok n t → Nice ok (n + m) t := by
  intro n
  induction n with
  | zero => intro m t ht; exact ht.elim
  | succ n ih =>
    intro m t ht
    rw [Nat.succ_add]
    cases t with
    | v k => exact ht
    | i k => exact trivial
    | a k => exact trivial
    | s f args => exact ⟨ht.1, fun a ha => ih m a (ht.2 a ha)⟩
theorem all2_map {R : Tm → Tm → Prop} {F : Tm → Tm} : ∀ (ts : List Tm), (∀ t ∈ ts, R t (F t)) → All2 R ts (ts.map F)
  | [], _ => .nil
  | t :: ts, h => .cons (h t (.head _)) (all2_map ts fun u hu => h u (.tail _ hu))
theorem rb_sub {ag : Bool} (hag : ag = false ∨ ∀ k, ok k → (g k).isS = false) : ∀ (n : Nat) (t : Tm), Nice ok n t → Rb g ok ag n t (subT g t) := by
  intro n
  induction n with
  | zero => intro t ht; exact ht.elim
  | succ n ih =>
    intro t ht
    cases t with
    | v k =>
      rw [subT]
      exact ⟨ht, .inl ⟨rfl, hag.imp id fun h => h k ht⟩⟩
    | i k => rw [subT]; exact rfl
    | a k => rw [subT]; exact rfl
    | s f args =>
      rw [subT, subTs_map]
      exact ⟨_, rfl, ht.1, all2_map args fun t h => ih t (ht.2 t h)⟩
theorem nice_sub {m : Nat} (hm : ∀ k, ok k → Nice ok' m (h k)) (h0 : 0 < m) : ∀ (n : Nat) (t : Tm), Nice ok n t → Nice ok' (n + m) (subT h t) := by
  intro n
  induction n with
  | zero => intro t ht; exact ht.elim
  | succ n ih =>
    intro t ht
    cases t with
    | v k =>
      rw [subT, Nat.add_comm]
      exact (hm k ht).more _ _ _
    | i k => rw [subT, Nat.succ_add]; exact trivial
    | a k => rw [subT, Nat.succ_add]; exact trivial
    | s f args =>
      rw [subT, Nat.succ_add, subTs_map]
      refine ⟨by rw [List.length_map]; exact ht.1, fun a ha => ?_⟩
      obtain ⟨b, hb, rfl⟩ := List.mem_map.mp ha
      exact ih b (ht.2 b hb)
theorem sub_sub (hk : ∀ k, ok k → subT g (h k) = f k) : ∀ (n : Nat) (t : Tm), Nice ok n t → subT g (subT h t) = subT f t := by
  intro n
  induction n with
  | zero => intro t ht; exact ht.elim
  | succ n ih =>
    intro t ht
    cases t with
    | v k => rw [subT, subT]; exact hk k ht
    | i k => rw [subT, subT, subT]
    | a k => rw [subT, subT, subT]
    | s f' args =>
      rw [subT, subT, subT, subTs_map, subTs_map, subTs_map, List.map_map]
      congr 1
      exact List.map_congr_left fun a ha => ih a (ht.2 a ha)
theorem sub_self : ∀ (n : Nat) (t : Tm), Nice ok n t → subT Tm.v t = t := by
  intro n
  induction n with
  | zero => intro t ht; exact ht.elim
  | succ n ih =>
    intro t ht
    cases t with
    | v k => rw [subT]
    | i k => rw [subT]
    | a k => rw [subT]
    | s f' args =>
      rw [subT, subTs_map]
      congr 1
      exact (List.map_congr_left fun a ha => ih a (ht.2 a ha)).trans (List.map_id args)
theorem rb_closed {ag : Bool} : ∀ (n : Nat) (t : Tm), Nice (fun _ => False) n t → Rb g ok ag n t t := by
  intro n
  induction n with
  | zero => intro t ht; exact ht.elim
  | succ n ih =>
    intro t ht
    cases t with
    | v k => exact ht.elim
    | i k => exact rfl
    | a k => exact rfl
    | s f args =>
      refine ⟨args, rfl, ht.1, ?_⟩
      have := all2_map (F := id) args fun t h => ih t (ht.2 t h)
      rw [List.map_id] at this
      exact this
end

/-! halving to the end -/
def nfH (k : Int) : Tm :=
  if k = 1 then .s 13 [.i 0, .i 0] else if k = 3 then .s 13 [.s 13 [.i 0, .i 0], .s 13 [.i 0, .i 0]] else if k = 5 then .s 13 [.i 2, .i 2] else .i k
theorem ok60 : ok6 0 := ⟨by decide, by decide⟩
theorem ok61 : ok6 1 := ⟨by decide, by decide⟩
theorem ok62 : ok6 2 := ⟨by decide, by decide⟩
theorem six {k : Int} (h : ok6 k) : k = 0 ∨ k = 1 ∨ k = 2 ∨ k = 3 ∨ k = 4 ∨ k = 5 := by
  obtain ⟨h1, h2⟩ := h
  omega
theorem all2_two {R : Tm → Tm → Prop} {a b : Tm} (h : R a b) : All2 R [a, a] [b, b] := .cons h (.cons h .nil)
theorem rb_nf {m : Nat} {k : Int} (hk : ok6 k) : Rb gHalved ok6 true (m + 4) (.v k) (nfH k) := by
  have z : ∀ m, Rb gHalved ok6 true (m + 1) (.v 0) (.i 0) := fun m => ⟨ok60, .inl ⟨rfl, .inr rfl⟩⟩
  have o : ∀ m, Rb gHalved ok6 true (m + 2) (.v 1) (.s 13 [.i 0, .i 0]) := fun m => ⟨ok61, .inr ⟨rfl, 13, [.v 0, .v 0], _, rfl, rfl, by decide, all2_two (z m)⟩⟩
  rcases six hk with rfl | rfl | rfl | rfl | rfl | rfl
  · exact ⟨hk, .inl ⟨rfl, .inr rfl⟩⟩
  · exact o (m + 2)
  · exact ⟨hk, .inl ⟨rfl, .inr rfl⟩⟩
  · exact ⟨hk, .inr ⟨rfl, 13, [.v 1, .v 1], _, rfl, rfl, by decide, all2_two (o (m + 1))⟩⟩
  · exact ⟨hk, .inl ⟨rfl, .inr rfl⟩⟩
  · exact ⟨hk, .inr ⟨rfl, 13, [.v 2, .v 2], _, rfl, rfl, by decide, all2_two ⟨ok62, .inl ⟨rfl, .inr rfl⟩⟩⟩⟩
theorem rb_full : ∀ (n : Nat) (t : Tm), Nice ok6 n t → Rb gHalved ok6 true (n + 4) t (subT nfH t) := by
  intro n
  induction n with
  | zero => intro t ht; exact ht.elim
  | succ n ih =>
    intro t ht
    rw [Nat.succ_add]
    cases t with
    | v k =>
      rw [subT]
      have := rb_nf (m := n + 1) (k := k) ht
      rw [show n + 1 + 4 = (n + 4) + 1 by omega] at this
      exact this
    | i k => rw [subT]; exact rfl
    | a k => rw [subT]; exact rfl
    | s f args =>
      rw [subT, subTs_map]
      exact ⟨_, rfl, ht.1, all2_map args fun t h => ih t (ht.2 t h)⟩
theorem halved_thrice {k : Int} (hk : ok6 k) : subT gHalved (subT gHalved (gHalved k)) = nfH k := by
  rcases six hk with rfl | rfl | rfl | rfl | rfl | rfl <;> rfl
theorem nice_halved {k : Int} (hk : ok6 k) : Nice ok6 2 (gHalved k) := by
  rcases six hk with rfl | rfl | rfl | rfl | rfl | rfl
  · exact trivial
  · exact ⟨by decide, fun a ha => by simp at ha; subst ha; exact ok60⟩
  · exact trivial
  · exact ⟨by decide, fun a ha => by simp at ha; subst ha; exact ok61⟩
  · exact trivial
  · exact ⟨by decide, fun a ha => by simp at ha; subst ha; exact ok62⟩
theorem nice_nf {k : Int} (hk : ok6 k) : Nice (fun _ => False) 3 (nfH k) := by
  have l : ∀ (j : Int) (a : Tm), a ∈ [Tm.i j, Tm.i j] → Nice (fun _ => False) 1 a := fun j a ha => by
    simp at ha; subst ha; exact trivial
  rcases six hk with rfl | rfl | rfl | rfl | rfl | rfl
  · exact trivial
  · exact ⟨by decide, fun a ha => (l 0 a ha).more _ 1 _⟩
  · exact trivial
  · refine ⟨by decide, fun a ha => ?_⟩
    simp at ha
    subst ha
    exact ⟨by decide, l 0⟩
  · exact trivial
  · exact ⟨by decide, fun a ha => (l 2 a ha).more _ 1 _⟩

theorem turned_ok (k : Int) : Nice ok6 1 (gTurned k) := (⟨Int.fmod_nonneg_of_pos _ (by decide), Int.fmod_lt_of_pos _ (by decide)⟩ : ok6 ((3 * k + 1).fmod 6))
theorem both_ok (k : Int) : Nice (fun _ => True) 1 (gBoth k) := trivial
/-- all that the law asks of the terms -/
structure Facts (t t1 t2 tf u x : Tm) : Prop where
  h1 : Rb gHalved ok6 false 20 t t1
  h2 : Rb gHalved ok6 true 20 t tf
  h3 : Rb gHalved ok6 false 20 t1 t2
  h4 : Rb gHalved ok6 false 20 t2 tf
  h5 : Rb gHalved ok6 true 20 tf tf
  h6 : Rb gTurned (fun _ => True) false 20 t u
  h7 : Rb gTurned (fun _ => True) true 20 t u
  h8 : Rb gMoved ok6 false 20 u x
  h9 : Rb gBoth (fun _ => True) false 20 t x
  h10 : Rb Tm.v ok6 false 20 t t
  n0 : Nice (fun _ => True) 20 t
  n1 : Nice (fun _ => True) 20 t1
  nf : Nice (fun _ => True) 20 tf
  nu : Nice (fun _ => True) 20 u
  nx : Nice (fun _ => True) 20 x
theorem facts_of {t : Tm} (ht : TreeOk 2 t) : ∃ t1 t2 tf u x, Facts t t1 t2 tf u x := by
  have n0 : Nice ok6 3 t := nice_tree 2 t ht
  have w : ∀ {ok : Int → Prop} {n : Nat} {t : Tm}, Nice ok n t → n ≤ 20 → Nice (fun _ => True) 20 t := fun {ok n t} h hn => by
    have := (h.more n (20 - n) t).weak (ok' := fun _ => True) (fun _ _ => trivial)
    rw [show n + (20 - n) = 20 by omega] at this
    exact this
  have up : ∀ {n : Nat} {t : Tm}, Nice ok6 n t → n ≤ 20 → Nice ok6 20 t := fun {n t} h hn => by
    have := h.more n (20 - n) t
    rw [show n + (20 - n) = 20 by omega] at this
    exact this
  have n1 : Nice ok6 5 (subT gHalved t) := nice_sub (fun k hk => nice_halved hk) (by decide) 3 t n0
  have n2 : Nice ok6 7 (subT gHalved (subT gHalved t)) := nice_sub (fun k hk => nice_halved hk) (by decide) 5 _ n1
  have nf : Nice (fun _ => False) 6 (subT nfH t) := nice_sub (fun k hk => nice_nf hk) (by decide) 3 t n0
  have nu : Nice ok6 4 (subT gTurned t) := nice_sub (m := 1) (h := gTurned) (fun k _ => turned_ok k) (by decide) 3 t n0
  have nx : Nice (fun _ => True) 4 (subT gBoth t) := nice_sub (m := 1) (h := gBoth) (fun k _ => both_ok k) (by decide) 3 t n0
  have e4 : subT gHalved (subT gHalved (subT gHalved t)) = subT nfH t := by
    rw [sub_sub (g := gHalved) (h := gHalved) (f := fun k => subT gHalved (gHalved k)) (fun _ _ => rfl) 3 t n0]
    exact sub_sub (fun k hk => halved_thrice hk) 3 t n0
  have e8 : subT gMoved (subT gTurned t) = subT gBoth t := sub_sub (fun k _ => by rw [show gTurned k = .v ((3 * k + 1).fmod 6) from rfl, subT]; rfl) 3 t n0
  have t0 : Nice (fun _ => True) 20 t := w n0 (by decide)
  have a4 := rb_sub (g := gHalved) (ag := false) (.inl rfl) 20 _ (up n2 (by decide))
  rw [e4] at a4
  have a8 := rb_sub (g := gMoved) (ag := false) (.inl rfl) 20 _ (up nu (by decide))
  rw [e8] at a8
  have a10 := rb_sub (g := Tm.v) (ag := false) (.inl rfl) 20 _ (up n0 (by decide))
  rw [sub_self 20 t t0] at a10
  have a5 : Nice (fun _ => False) 20 (subT nfH t) := by
    have := nf.more 6 14
    exact this
  exact ⟨_, _, _, _, _, rb_sub (.inl rfl) 20 t (up n0 (by decide)), rb_full 16 t (n0.more 3 13 t), rb_sub (.inl rfl) 20 _ (up n1 (by decide)), a4, rb_closed 20 _ a5, rb_sub (.inl rfl) 20 t t0, rb_sub (.inr fun _ _ => rfl) 20 t t0,
    a8, rb_sub (.inl rfl) 20 t t0, a10, t0, w n1 (by decide), w nf (by decide), w nu (by decide), w nx (by decide)⟩

/-! terms are data that may be compared -/
theorem kq_leaf {n : Nat} {x : Str} {k : Int} (h : PyData.strOk x = true) : kqdOk (n + 2) (.tuple [.str x, .int k]) = true := by
  simp [kqdOk, h]
theorem nice_kqd {ok : Int → Prop} : ∀ (n : Nat) (t : Tm), Nice ok n t → kqdOk (2 * n) t.dat = true := by
  intro n
  induction n with
  | zero => intro t ht; exact ht.elim
  | succ n ih =>
    intro t ht
    have sv : PyData.strOk (Str.ofString "v") = true := by decide +kernel
    have si : PyData.strOk (Str.ofString "i") = true := by decide +kernel
    have sa : PyData.strOk (Str.ofString "a") = true := by decide +kernel
    have ss : PyData.strOk (Str.ofString "s") = true := by decide +kernel
    rw [Nat.mul_succ]
    cases t with
    | v k => exact kq_leaf sv
    | i k => exact kq_leaf si
    | a k => exact kq_leaf sa
    | s f args =>
      have all : ∀ ts : List Tm, (∀ a ∈ ts, kqdOk (2 * n) a.dat = true) → (Tm.dats ts).all (kqdOk (2 * n)) = true := by
        intro ts
        induction ts with
        | nil => intro _; rw [Tm.dats]; rfl
        | cons t ts ih2 =>
          intro h
          rw [Tm.dats, List.all_cons, h t (.head _), ih2 fun a ha => h a (.tail _ ha)]
          rfl
      have q := all args fun a ha => ih a (ht.2 a ha)
      rw [Tm.dat]
      simp only [kqdOk, List.all_cons, List.all_nil, ss, q, Bool.and_self]
end Mine

/-! part Law -/
namespace Mine
local macro_rules | `(tactic| walk_at "own Law 0") => `(tactic| skip)
local macro_rules | `(tactic| walk_at "own Law 1") => `(tactic| skip)
local macro_rules | `(tactic| walk_at "own Law 2") => `(tactic| skip)
local macro_rules | `(tactic| walk_at "own Law 3") => `(tactic| skip)
local macro_rules | `(tactic| walk_at "own Law 4") => `(tactic| skip)
local macro_rules | `(tactic| walk_at "own Law 5") => `(tactic| skip)
local macro_rules | `(tactic| walk_at "own Law 6") => `(tactic| skip)
local macro_rules | `(tactic| walk_at "own Law 7") => `(tactic| skip)
local macro_rules | `(tactic| walk_at "own Law 8") => `(tactic| skip)
local macro_rules | `(tactic| walk_at "own Law 9") => `(tactic| skip)
local macro_rules | `(tactic| walk_at "own Law 10") => `(tactic| skip)
local macro_rules | `(tactic| walk_at "own Law 11") => `(tactic| skip)
local macro_rules | `(tactic| walk_at "own Law 12") => `(tactic| skip)
local macro_rules | `(tactic| walk_at "own Law 13") => `(tactic| skip)
local macro_rules | `(tactic| walk_at "own Law 14") => `(tactic| skip)
local macro_rules | `(tactic| walk_at "own Law 15") => `(tactic| skip)
local macro_rules | `(tactic| walk_at "own Law 16") => `(tactic| skip)
local macro_rules | `(tactic| walk_at "own Law 17") => `(tactic| skip)
local macro_rules | `(tactic| walk_at "own Law 18") => `(tactic| skip)
local macro_rules | `(tactic| walk_at "own Law 19") => `(tactic| skip)
local macro_rules | `(tactic| walk_at "own Law 20") => `(tactic| skip)
local macro_rules | `(tactic| walk_at "own Law 21") => `(tactic| skip)
local macro_rules | `(tactic| walk_at "own Law 22") => `(tactic| skip)
local macro_rules | `(tactic| walk_at "own Law 23") => `(tactic| skip)
local macro_rules | `(tactic| k_mem) => `(tactic| first | with_reducible assumption | with_reducible exact List.mem_cons_self | (with_reducible refine List.mem_cons_of_mem _ ?_; k_mem) | (with_reducible refine List.mem_append.mpr (Or.inr ?_); k_mem) | (with_reducible refine List.mem_append.mpr (Or.inl ?_); k_mem))
theorem callT_stop {M : Model} {A : Around} {E : Value → Shared → Prop} {s : Shared} {P : Value} {k : Int} {tk : Tok} {Q : Value → Shared → Prop} (h : Stop (wpAny M A (call (.ref 68) [P, .int k tk]) Q E s)) : wpAny M A (call (.ref 68) [P, .int k tk]) Q E s := h

section
variable {prog : Program} {w : World} {p : Program} {loose : List Str} {mean : ExcName → Option Value} {mg mb : Str → Option Value}
   {dp un : Nat} {gd : Option (List Code)} {cn : Str} {cs : Scope} {a : Addr} {ccd : Value} {cl : List (Str × Addr)} {outer : List Env} {A₀ : Around} {base h₀ : Heap} {L : Addr} {m : Str → Option Value} {old news : Led} {s : Shared}
   {tv : Value} {Q E : Value → Shared → Prop} {f : Addr} {g : Int → Tm} {ok : Int → Prop} {rr n : Nat} {ag : Bool} {t r : Tm}
theorem law_reb (H : ChgSpec prog w f g ok rr) (hkeep : keepIn (hd.heap_39 w.params) (.ref f) = true) (D : TmIn old tv t) (hb : Rb g ok ag n t r) (hn : n ≤ 400) (B : Below A₀ base outer h₀) (F : Fr h₀ L s.heap m) (X : (hd.heap_39 w.params).In h₀) (N : News h₀ L s.heap news) (T : Top p loose mean mg mb h₀) (hk : cs.kind = .function)
   (room : dp + (rr + 2) < recursionLimit) (ur : un + 10 * (rr + 2) + 100 < cLine) (sub : ∀ q ∈ old, q ∈ news)
   (ret : ∀ v tl h' tk', Fr h₀ L h' m → News h₀ L h' (tl ++ news) → Above tl news → TmIn (tl ++ news) v r → Q v { s with heap := h', toks := tk' }) :
   wpAny (model prog w) (ktrTop dp un gd cn cs L a ccd cl outer) (call (.ref 28) [tv, .ref f, .bool ag]) Q E s :=
  rebuild_spec H hkeep hn hb B F X N T hk room ur (DatIn.mono sub D) ret
theorem law_put (H : ChgSpec prog w f g ok rr) (hkeep : keepIn (hd.heap_39 w.params) (.ref f) = true) (D : TmIn old tv t) (hb : Rb g ok ag n t r) (B : Below A₀ base outer h₀) (F : Fr h₀ L s.heap m) (X : (hd.heap_39 w.params).In h₀) (N : News h₀ L s.heap news) (T : Top p loose mean mg mb h₀) (hk : cs.kind = .function)
   (room : dp + (rr + 2 + 4 * n) < recursionLimit) (ur : un + 10 * (rr + 2 + 4 * n) + 100 < cLine) (sub : ∀ q ∈ old, q ∈ news)
   (ret : ∀ v tl h' tk', Fr h₀ L h' m → News h₀ L h' (tl ++ news) → Above tl news → TmIn (tl ++ news) v r → Q v { s with heap := h', toks := tk' }) :
   wpAny (model prog w) (ktrTop dp un gd cn cs L a ccd cl outer) (call (.ref 73) [tv, .ref f, .bool ag]) Q E s :=
  put_spec H hkeep n hb B F X N T hk room ur sub D fun v tl h' tk' F' N' O' D' => ret v tl h' tk' F' N' O' (DatIn.mono (fun q hq => (List.mem_append.mp hq).elim mem_l fun e => mem_r (sub q e)) D')
end
section
variable {prog : Program} {w : World} {A : Around} {E : Value → Shared → Prop} {s : Shared} {h₀ : Heap} {L : Addr} {o1 o2 news : Led} {v1 v2 : Value} {r : Tm} {Q : Value → Shared → Prop} {ok : Int → Prop} {n : Nat}
theorem same_reads (N : News h₀ L s.heap news) (D1 : TmIn o1 v1 r) (s1 : ∀ q ∈ o1, q ∈ news) (hn : Nice ok 20 r) : ∃ as, Reads s.heap v1 (kqdP r.dat) as :=
  kqd_in N 40 (DatIn.mono s1 D1) (nice_kqd 20 r hn)
theorem same_shaped (hn : Nice ok 20 r) : PySem.SeqAt.shaped (kqdP r.dat) = true := by
  have q := kqd_lay 40 r.dat (nice_kqd 20 r hn)
  unfold PySem.SeqAt.shaped
  rw [q.1, Bool.true_and]
  exact decide_eq_true (Nat.le_trans q.2 (by decide))
theorem same_eqv (hn : Nice ok 20 r) : PyData.eqv (kqdP r.dat) (kqdP r.dat) = true :=
  (kqd_eqv 40 r.dat r.dat 40 (nice_kqd 20 r hn) (nice_kqd 20 r hn)).mpr rfl
theorem law_eq (N : News h₀ L s.heap news) (D1 : TmIn o1 v1 r) (D2 : TmIn o2 v2 r) (s1 : ∀ q ∈ o1, q ∈ news) (s2 : ∀ q ∈ o2, q ∈ news) (hn : Nice ok 20 r) (hu : A.units + 64 < cLine) (h : Q (.bool true) s) : wpAny (model prog w) A (compareOp .Eq v1 v2) Q E s := by
  obtain ⟨as, ra⟩ := same_reads N D1 s1 hn
  obtain ⟨bs, rb⟩ := same_reads N D2 s2 hn
  exact eq_dataH ra rb (same_shaped hn) (same_shaped hn) hu (by rw [same_eqv hn]; exact h)
theorem law_ne (N : News h₀ L s.heap news) (D1 : TmIn o1 v1 r) (D2 : TmIn o2 v2 r) (s1 : ∀ q ∈ o1, q ∈ news) (s2 : ∀ q ∈ o2, q ∈ news) (hn : Nice ok 20 r) (hu : A.units + 64 < cLine) (h : Q (.bool false) s) : wpAny (model prog w) A (compareOp .NotEq v1 v2) Q E s := by
  obtain ⟨as, ra⟩ := same_reads N D1 s1 hn
  obtain ⟨bs, rb⟩ := same_reads N D2 s2 hn
  exact ne_dataH ra rb (same_shaped hn) (same_shaped hn) hu (by rw [same_eqv hn]; exact h)
end
local macro_rules | `(tactic| walk_at "call ref") => `(tactic| (k_here; k_dflt (
  (refine' law_reb ?k1 ?k2 ?k3 ?k4 ?k5 ?k6 ?k7 ?k8 ?k9 ?k10 ?k11 ?k12 ?k13 ?k14 ?_; (case k1 => first | exact halved_spec _ _ | exact turned_spec _ _ | exact moved_spec _ _ | exact both_spec _ _ | exact var_spec _ _); (case k2 => k_is); (case k3 => with_reducible assumption); (case k4 => with_reducible assumption); (case k5 => decide); (case k6 => k_asm); (case k7 => k_asm); (case k8 => k_asm); (case k9 => k_asm); (case k10 => k_asm); (case k11 => exact rfl); (case k12 => exact Nat.le_of_ble_eq_true rfl); (case k13 => exact Nat.le_of_ble_eq_true rfl); (case k14 => (intro q9 hq9; k_mem)); k_whole; intro v9 tl9 h9 tk9 F9 N9 O9 D9; (try dsimp only); (try k_fold)))))
local macro_rules | `(tactic| walk_at "call ref") => `(tactic| (k_here; k_dflt (
  (refine' law_put ?k1 ?k2 ?k3 ?k4 ?k6 ?k7 ?k8 ?k9 ?k10 ?k11 ?k12 ?k13 ?k14 ?_; (case k1 => first | exact halved_spec _ _ | exact turned_spec _ _); (case k2 => k_is); (case k3 => with_reducible assumption); (case k4 => with_reducible assumption); (case k6 => k_asm); (case k7 => k_asm); (case k8 => k_asm); (case k9 => k_asm); (case k10 => k_asm); (case k11 => exact rfl); (case k12 => exact Nat.le_of_ble_eq_true rfl); (case k13 => exact Nat.le_of_ble_eq_true rfl); (case k14 => (intro q9 hq9; k_mem)); k_whole; intro v9 tl9 h9 tk9 F9 N9 O9 D9; (try dsimp only); (try k_fold)))))
local macro_rules | `(tactic| walk_at "call ref") => `(tactic| refine callT_stop ?_)
local macro_rules | `(tactic| walk_at "compareOp Eq") => `(tactic| (k_here; k_dflt (refine' law_eq ?N ?a ?b ?c ?d ?e ?f ?_; (case N => k_asm); (case a => with_reducible assumption); (case b => with_reducible assumption); (case c => (intro q9 hq9; k_mem)); (case d => (intro q9 hq9; k_mem)); (case e => with_reducible assumption); (case f => exact Nat.le_of_ble_eq_true rfl); k_whole)))
local macro_rules | `(tactic| walk_at "compareOp NotEq") => `(tactic| (k_here; k_dflt (refine' law_ne ?N ?a ?b ?c ?d ?e ?f ?_; (case N => k_asm); (case a => with_reducible assumption); (case b => with_reducible assumption); (case c => (intro q9 hq9; k_mem)); (case d => (intro q9 hq9; k_mem)); (case e => with_reducible assumption); (case f => exact Nat.le_of_ble_eq_true rfl); k_whole)))
mutual
theorem tups_in {all all' : Led} (hs : ∀ a vs n, (a, tupO vs n) ∈ all → (a, tupO vs n) ∈ all') : ∀ (t : Tm) {v : Value}, TmIn all v t → TmIn all' v t
  | .v _, _, h => by
    obtain ⟨a, t1, t2, n, rfl, hm⟩ := leaf_inv h
    exact leaf_mk (hs _ _ _ hm)
  | .i _, _, h => by
    obtain ⟨a, t1, t2, n, rfl, hm⟩ := leaf_inv h
    exact leaf_mk (hs _ _ _ hm)
  | .a _, _, h => by
    obtain ⟨a, t1, t2, n, rfl, hm⟩ := leaf_inv h
    exact leaf_mk (hs _ _ _ hm)
  | .s _ args, _, h => by
    obtain ⟨a, b, t1, t2, n, n', vs, rfl, hm, hb, hr⟩ := node_inv h
    exact node_mk (hs _ _ _ hm) (hs _ _ _ hb) (tups_all hs args hr)
theorem tups_all {all all' : Led} (hs : ∀ a vs n, (a, tupO vs n) ∈ all → (a, tupO vs n) ∈ all') : ∀ (ts : List Tm) {vs : List Value}, TmsIn all vs ts → TmsIn all' vs ts
  | [], _, h => by
    unfold TmsIn at h ⊢
    rw [Tm.dats] at h ⊢
    cases h
    exact .nil
  | t :: ts, _, h => by
    unfold TmsIn at h ⊢
    rw [Tm.dats] at h ⊢
    cases h with
    | cons h1 h2 => exact .cons (tups_in hs t h1) (tups_all hs ts h2)
end
theorem unr_end {h₀ : Heap} {L I : Addr} {x y : Int} {rest : (Str → Option Value) → List (Addr × Obj) → Prop} {s₁ : Shared} {h' : Heap} {tk : Nat} {m' : Str → Option Value} {tl news : Led} {v : Value} {r : Tm} (F : Fr h₀ L h' m') (N : News h₀ L h' (tl ++ ((I, itR x y) :: news))) (O : Above tl ((I, itR x y) :: news)) (hn : ∀ p ∈ news, p.1 ≠ I)
    (D : TmIn (tl ++ ((I, itR x y) :: news)) v r)
    (k : (∀ p ∈ tl ++ news, p.1 ≠ I) → TmIn (tl ++ news) v r → rest m' (tl ++ news)) : UnrEnd h₀ L s₁ I (itR x y) rest { s₁ with heap := h', toks := tk } := by
  have off : ∀ p ∈ tl ++ news, p.1 ≠ I := fun p hp => (List.mem_append.mp hp).elim (fun e => Nat.ne_of_gt (O (I, itR x y) (.head _) p e)) (hn p)
  refine UnrEnd.intro F N (tl ++ news) (fun p hp => ?_) off (k off (tups_in (fun a vs n hm => ?_) r D))
  · simp only [List.mem_cons, List.mem_append] at hp ⊢
    rcases hp with e | e | e
    · exact .inr (.inl e)
    · exact .inl e
    · exact .inr (.inr e)
  · rcases List.mem_append.mp hm with e | e
    · exact mem_l e
    · rcases List.mem_cons.mp e with e | e
      · have := congrArg (fun q : Addr × Obj => q.2.cls) e
        simp [itR] at this
      · exact mem_r e
theorem off_lt {news : Led} {I : Addr} (h : ∀ p ∈ news, p.1 < I) : ∀ p ∈ news, p.1 ≠ I := fun p hp => Nat.ne_of_lt (h p hp)
theorem off_lt2 {news : Led} {I : Addr} (h : AllLt I news) : ∀ p ∈ news, p.1 ≠ I := fun p hp => Nat.ne_of_lt (ktn_ltOf h p hp)
local macro_rules | `(tactic| walk_at "UnrEnd") => `(tactic| (k_dflt (refine' unr_end ?F ?N ?O ?hn ?D ?_; (case F => k_asm); (case N => k_asm); (case O => assumption); (case hn => first | with_reducible assumption | exact off_lt (by with_reducible assumption) | exact off_lt2 (by with_reducible assumption)); (case D => with_reducible assumption); k_whole); intro off9 D9))
theorem law_holds0 : PySem.Challenge.rw_rr0011_01.Holds := hd (by
  k_go0
  (all_goals try k_fold)
  k_steps
  · unfold Stop
    rename Frag.In _ _ => X1
    rename Top _ _ _ _ _ _ => T1
    rename Below _ _ _ _ => B1
    rename Fr _ _ _ _ => F1
    rename News _ _ _ _ => N1
    rename IntsAre _ (List.take 20 _) => I1
    rename List.length (List.take 20 _) = _ => hC1
    rename _ ∧ _ => l2
    refine treeS_use (tree_spec _ _ 2) B1 F1 X1 N1 T1 rfl (Nat.le_of_ble_eq_true rfl) (Nat.le_of_ble_eq_true rfl) rfl I1 (by omega) (by omega) (Nat.ne_of_gt l2.1) ?_ ?_ ?_
    · intro q hq
      rw [List.mem_singleton.mp hq]
      exact Nat.ne_of_lt l2.2
    · intro q hq
      rw [List.mem_singleton.mp hq]
      exact Nat.ne_of_lt (by assumption)
    · intro v t tl c t1' vs ns h tk I9 e9 F9 N9 O9 D9 TK
      obtain ⟨t1, t2, tf, u, x, H1, H2, H3, H4, H5, H6, H7, H8, H9, H10, M0, M1, Mf, Mu, Mx⟩ := facts_of TK
      clear N1 F1 I1 hC1 l2 I9 e9 O9 TK
      (try dsimp only)
      k_steps
  · unfold Stop
    rename Frag.In _ _ => X1
    rename Top _ _ _ _ _ _ => T1
    rename Below _ _ _ _ => B1
    rename Fr _ _ _ _ => F1
    rename News _ _ _ _ => N1
    refine treeS_use (tree_spec _ _ 2) B1 F1 X1 N1 T1 rfl (Nat.le_of_ble_eq_true rfl) (Nat.le_of_ble_eq_true rfl) rfl (.cons 0 _ .nil) (by decide) (by decide) (Nat.ne_of_gt (by assumption)) (fun q hq => nomatch hq) (fun q hq => nomatch hq) ?_
    intro v t tl c t1' vs ns h tk I9 e9 F9 N9 O9 D9 TK
    obtain ⟨t1, t2, tf, u, x, H1, H2, H3, H4, H5, H6, H7, H8, H9, H10, M0, M1, Mf, Mu, Mx⟩ := facts_of TK
    clear N1 F1 I9 e9 O9 TK
    (try dsimp only)
    k_steps)
end Mine

set_option maxRecDepth 100000 in
set_option maxHeartbeats 8000000 in
theorem PySem.Challenge.cw_rr0011_01_holds : PySem.Challenge.rw_rr0011_01.Holds := by
  exact Mine.law_holds0
