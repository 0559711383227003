import PyProof.Rows.All
import Wide.All
import OpenK.AllK
import Wide.FinOn
import PyProof.SliceList
import Lean
import PySem.Challenge.RW_pb0204_01
open PySem PySem.W PySem.Calls PyProof.Rows
set_option Elab.async false
set_option maxRecDepth 100000
set_option maxHeartbeats 8000000
set_option compiler.extract_closed false
set_option hygiene false
namespace Mine
section
local macro_rules | `(tactic| o_head $_) => `(tactic| assumption)
/-- the top's objects: k_head lays them out as hd.heap_1; nothing is shown here -/
theorem hd : PySem.Challenge.rw_pb0204_01.row.Holds → PySem.Challenge.rw_pb0204_01.row.Holds := by
  intro h
  k_head
end
theorem z63 {n : Nat} (h : n ≤ 1000) : (n : Int) < 2 ^ 63 := by omega
theorem z62 {n : Nat} (h : n ≤ 1000) : (n : Int) < 2 ^ 62 := by omega
theorem o63l {n b c : Nat} (h : n < b) (h2 : b ≤ c) (hb : c ≤ 1000) : (n : Int) < 2 ^ 63 := z63 (Nat.le_trans (Nat.le_of_lt h) (Nat.le_trans h2 hb))
theorem o62 {n b : Nat} (h : n ≤ b) (hb : b ≤ 1000) : (n : Int) < 2 ^ 62 := z62 (Nat.le_trans h hb)
theorem o62e {n b c : Nat} (h : n = b) (h2 : b ≤ c) (hb : c ≤ 1000) : (n : Int) < 2 ^ 62 := z62 (h ▸ Nat.le_trans h2 hb)
theorem o62l {n b c : Nat} (h : n < b) (h2 : b ≤ c) (hb : c ≤ 1000) : (n : Int) < 2 ^ 62 := z62 (Nat.le_trans (Nat.le_of_lt h) (Nat.le_trans h2 hb))
theorem o621 {n b c : Nat} (h : n < b) (h2 : b ≤ c) (hb : c ≤ 1000) : (n : Int) + 1 < 2 ^ 62 := z62 (n := n + 1) (Nat.le_trans h (Nat.le_trans h2 hb))
theorem o63m {n b c : Nat} (h : n < b) (h2 : b ≤ c) (hb : c ≤ 1000) : (n : Int) - 1 < 2 ^ 63 := Int.lt_of_le_of_lt (Int.sub_le_self _ (by decide)) (o63l h h2 hb)
theorem oneg {n : Nat} : (-2 ^ 62 : Int) ≤ n := Int.le_trans (by decide) (Int.natCast_nonneg n)
theorem onn2 {n : Nat} : (0 : Int) ≤ 1 + n := Int.add_nonneg (by decide) (Int.natCast_nonneg n)
theorem onn3 {n k : Nat} : (0 : Int) ≤ n + k := Int.natCast_nonneg (n + k)
theorem ole {n b c : Nat} (h : n ≤ b) (hb : b ≤ c) : n ≤ c := Nat.le_trans h hb
theorem olee {n b c d : Nat} (h : n = b) (h2 : b ≤ c) (hb : c ≤ d) : n ≤ d := h ▸ Nat.le_trans h2 hb
theorem olep {n b c d : Nat} (h : n = b + 1) (h2 : b ≤ c) (hb : c + 1 ≤ d) : n ≤ d := h ▸ Nat.le_trans (Nat.succ_le_succ h2) hb
theorem olt {n b c : Nat} (h : n ≤ b) (hb : b < c) : n < c := Nat.lt_of_le_of_lt h hb
theorem ou1 {a n : Nat} (h : a + 4 * (n + 1) ≤ 9000) : a + 3 + 4 * n ≤ 9000 := by omega
theorem ou2 {a n : Nat} (h : a + 3 + 4 * n ≤ 9000) : a + 3 ≤ 9000 := Nat.le_trans (Nat.le_add_right _ _) h
theorem ou3 {a n : Nat} (h : a + (n + 1) < recursionLimit) : a + 1 + n < recursionLimit := by rw [Nat.add_assoc, Nat.add_comm 1 n]; exact h
theorem ou4 {a n : Nat} (h : a + (n + 1) < recursionLimit) : a < recursionLimit := Nat.lt_of_le_of_lt (Nat.le_add_right _ _) h
theorem osub {f g : Nat} : ((g : Int) - f).toNat = g - f := Int.toNat_sub g f
theorem osub1 {g : Nat} : ((g : Int) - 1).toNat = g - 1 := Int.toNat_sub g 1
theorem osub2 {f g : Nat} : ((g : Int) + 1 - f).toNat = g + 1 - f := Int.toNat_sub (g + 1) f
theorem osub3 {f g : Nat} : ((g : Int) - (f + 1)).toNat = g - (f + 1) := Int.toNat_sub g (f + 1)
theorem osuc {x : Nat} : (x : Int) + 1 = ((x + 1 : Nat) : Int) := rfl
theorem odec {k n : Nat} (h : k < n) : n - (k + 1) < n - k := Nat.sub_succ_lt_self _ _ h
theorem odec1 {k n : Nat} (h : k < n) : n + 1 - (k + 1) < n + 1 - k := Nat.sub_succ_lt_self _ _ (Nat.lt_succ_of_lt h)
theorem oeq {i n : Nat} (h : i ≤ n) (h2 : ¬ i < n) : i = n := Nat.le_antisymm h (Nat.le_of_not_lt h2)
theorem oadd {p q : Nat} (h : p < q) : p + (q - p) = q := Nat.add_sub_of_le (Nat.le_of_lt h)
theorem olti {a b : Nat} (h : a < b) : (a : Int) < b := Int.ofNat_lt.mpr h
theorem olei {a b : Nat} (h : a ≤ b) : (a : Int) ≤ b := Int.ofNat_le.mpr h
theorem o1 {a b c : Nat} (h : a < b) (e : c = b) : a < c := e ▸ h
theorem o2 {a b c : Nat} (h : a < b) (e : b = c) : a < c := e ▸ h
theorem o6 {a b c : Nat} (h : a < b) (e : c = b) : a + 1 ≤ c := e ▸ h
theorem o9 {a b : Nat} (h : a + 1 ≤ b) : a ≤ b := Nat.le_of_lt h
theorem o11 {a b : Nat} (h : a + 1 ≤ b) : a ≤ b + 1 := Nat.le_succ_of_le (Nat.le_of_lt h)
theorem o12 {a b : Nat} (h : a < b) : a < b + 1 := Nat.lt_succ_of_lt h
theorem osum {p j : Nat} : ((p : Int) + j).toNat = p + j := rfl
theorem osum0 {j : Nat} : ((0 : Int) + j).toNat = j := by rw [Int.zero_add]; rfl
theorem osum1 {q k : Nat} : ((q : Int) + 1 + k).toNat = q + 1 + k := rfl
theorem osum2 {j : Nat} : ((1 : Int) + j).toNat = j + 1 := by rw [Int.add_comm]; rfl
theorem osub4 {n : Nat} : ((n : Int) - 0).toNat = n := by rw [Int.sub_zero]; rfl
theorem osub5 {j : Nat} : ((1 : Int) + j - 1).toNat = j := by rw [Int.add_comm, Int.add_sub_cancel]; rfl
theorem o63a {p j b c : Nat} (h : p + j < b) (h2 : b ≤ c) (hb : c ≤ 1000) : (p : Int) + j < 2 ^ 63 := o63l (n := p + j) h h2 hb
theorem o62p {n b : Nat} (h : n ≤ b) (hb : b ≤ 999) : 1 + (n : Int) < 2 ^ 62 := by rw [Int.add_comm]; exact z62 (n := n + 1) (Nat.succ_le_succ (Nat.le_trans h hb))
theorem oneg1 {n : Nat} : (-2 ^ 62 : Int) ≤ 1 + n := Int.le_trans (by decide) onn2
theorem osub6 {n : Nat} : ((1 : Int) + n - 0).toNat = n + 1 := by rw [Int.sub_zero]; exact osum2
local macro_rules | `(tactic| omega) => `(tactic| with_reducible first
  | assumption | decide | exact Int.natCast_nonneg _ | exact Nat.le_refl _ | exact Nat.le_of_lt (by assumption) | exact Nat.succ_le_of_lt (by assumption) | exact olti (by assumption) | exact olei (by assumption) | exact ole (by assumption) (by decide) | exact olee (by assumption) (by assumption) (by decide) | exact olep (by assumption) (by assumption) (by decide) | exact Int.le_trans (by assumption) (by decide) | exact olt (by assumption) (by decide)
  | exact Nat.lt_of_lt_of_le (by assumption) (by assumption) | exact Nat.lt_of_le_of_lt (by assumption) (by assumption) | exact Nat.le_trans (by assumption) (by assumption) | exact o1 (by assumption) (by assumption) | exact o2 (by assumption) (by assumption) | exact o6 (by assumption) (by assumption) | exact o9 (by assumption) | exact o11 (by assumption) | exact o12 (by assumption)
  | exact o63l (by assumption) (by assumption) (by decide) | exact o62 (by assumption) (by decide) | exact o62e (by assumption) (by assumption) (by decide) | exact o62l (by assumption) (by assumption) (by decide) | exact o621 (by assumption) (by assumption) (by decide) | exact o63m (by assumption) (by assumption) (by decide) | exact oneg | exact oneg1 | exact o62p (by assumption) (by decide) | exact osub6 | exact onn2 | exact onn3
  | exact ou1 (by assumption) | exact ou2 (by assumption) | exact ou3 (by assumption) | exact ou4 (by assumption) | exact osub | exact osub1 | exact osub2 | exact osub3 | exact osum | exact osum0 | exact osum1 | exact osum2 | exact osub4 | exact osub5 | exact o63a (by assumption) (by assumption) (by decide) | exact osuc | exact odec (by assumption) | exact odec1 (by assumption) | exact oeq (by assumption) (by assumption) | exact oadd (by assumption) | fail)
theorem ac {α : Type} {P : α → Prop} {a : α} {l : List α} (h : P a) (t : ∀ p ∈ l, P p) : ∀ p ∈ a :: l, P p := List.forall_mem_cons.mpr ⟨h, t⟩
theorem ac2 {α : Type} {P Q : α → Prop} {a : α} {l : List α} (h : P a) (t : ∀ p ∈ l, P p) : ∀ p, Q p → p ∈ a :: l → P p := fun p _ hp => ac h t p hp
theorem ac3 {α : Type} {P Q R : α → Prop} {a : α} {l : List α} (h : P a) (t : ∀ p ∈ l, P p) : ∀ p, Q p → R p → p ∈ a :: l → P p := fun p _ _ hp => ac h t p hp
theorem keepP {p : Prop} (h : p) : p := h
/-- all objects but those at `as` stay -/
def Chg (as : List Addr) (h h' : Heap) : Prop := ∀ b o, h.get? b = some o → b ∉ as → h'.get? b = some o

/-- what a frame stands on -/
inductive AtX (A : Around) (env : Env) (h₀ : Heap) : Prop
  | mk (A₀ base outer p loose mean mg mb : _) (B : Below A₀ base outer h₀) (T : Top p loose mean mg mb h₀) (hA : A.frames = some (env :: outer))
structure At (w : World) (A : Around) (env : Env) (L : Addr) (h₀ : Heap) (n : Nat) : Prop where
  ex : AtX A env h₀
  X : (hd.heap_1 w.params).In h₀
  hf : env.frame = some L
  hk : env.scope.kind = .function
  hh : A.handled = none
  room : A.depth + n < recursionLimit
  units : A.units + 4 * n ≤ 9000

inductive Out (g : Heap) (L : Addr) (R : Value → Shared → List (Addr × Obj) → Prop) (v : Value) (s' : Shared) : Prop
  | mk (m : Str → Option Value) (led' : List (Addr × Obj)) (F : Fr g L s'.heap m) (N : News g L s'.heap led') (h : R v s' led')

section
variable {prog : Program} {w : World} {A : Around} {E : Value → Shared → Prop} {s : Shared} {h₀ : Heap} {L : Addr} {m : Str → Option Value} {env : Env} {led : List (Addr × Obj)} {n : Nat}

inductive Grd (h₀ : Heap) (L : Addr) (m : Str → Option Value) (A : Around) (base : Heap) (fr : List Env) (hp : Heap) (as : List Addr) : Prop
  | mk (g : Heap) (hg : hideAll hp as = g) (FG : Fr h₀ L g m) (BG : Below A base fr g) (st : h₀.StaysIn g) (lv : ∀ (R' : Result → Shared → Prop) v s', LeaveK h₀ L m g R' v s' → R' (.ok (.ret v)) s')
theorem groundK {A₀ : Around} {base : Heap} {outer : List Env} (B : Below A₀ base outer h₀) (F : Fr h₀ L s.heap m) (N : News h₀ L s.heap led) (hA : A.frames = some (env :: outer)) (hf : env.frame = some L) (hke : env.scope.kind = .function) : Grd h₀ L m A base (env :: outer) s.heap (led.map (·.1)) := by
  obtain ⟨a, b, c, _⟩ := groundX (s := s) (R := fun _ _ => True) B F N hA hf hke
  exact ⟨_, rfl, a, b, c, fun R' => (groundX (R := R') B F N hA hf hke).2.2.2⟩
theorem call_own {Q : Value → Shared → Prop} (R : Value → Shared → List (Addr × Obj) → Prop) {name qual : Str} {params : Arguments} {body : List Stmt} {scope : Scope} {dV kV doc pm cdv ct oc : Value} {an od : Option Addr} {osl : Array (Option Value)} {f : Addr} {args : List Value} {kw : List (Str × Value)} {binds : List (Str × Value)}
    (Z : At w A env L h₀ (n + 1)) (F : Fr h₀ L s.heap m) (N : News h₀ L s.heap led)
    (ho : (hd.heap_1 w.params).lookup f = some ⟨oc, od, .func (fnOf name qual params body scope dV kV doc pm an cdv ct), osl⟩) (hcd : codeIn (hd.heap_1 w.params) cdv qual = true)
    (hbind : BindsTo s (fnOf name qual params body scope dV kV doc pm an cdv ct) ⟨args, kw⟩ binds) (hloc : ∀ y ∈ binds, scope.names.lookup y.1 = some .local)
    (h : ∀ g L' h₁ tk dp fr gs un A₀ base p loose mean mg mb, Below A₀ base fr g → Top p loose mean mg mb g → (hd.heap_1 w.params).In g → At w ⟨none, dp, some (envOf qual scope L' f cdv :: fr), gs, un⟩ (envOf qual scope L' f cdv) L' g n →
      Around.units ⟨none, dp, some (envOf qual scope L' f cdv :: fr), gs, un⟩ ≤ 9000 → Fr g L' h₁ (fun y => binds.reverse.lookup y) → News g L' h₁ led → (∀ p ∈ led, p.1 < L') →
      wpAny (model prog w) ⟨none, dp, some (envOf qual scope L' f cdv :: fr), gs, un⟩ (execs body (envOf qual scope L' f cdv))
        (fun fl s' => Out g L' R (match fl with | .ret v => v | _ => .none) s') (fun _ _ => False)
        { s with heap := h₁, toks := tk })
    (hco : scope.isCoroutine = false) (hgen : scope.isGenerator = false) (hk : scope.kind = .function)
    (hcell : ∀ x ∈ scope.names, x.2 ≠ .cell)
    (hQ : ∀ v s' led', Fr h₀ L s'.heap m → News h₀ L s'.heap led' → Chg (led.map (·.1)) s.heap s'.heap → R v s' led' → Q v s') :
    wpAny (model prog w) A (call (.ref f) args kw) Q E s := by
  obtain ⟨A₀, base, outer, p, loose, mean, mg, mb, B, T, hA⟩ := Z.ex
  have hroom : A.depth < recursionLimit := by have := Z.room; omega
  have X₀ := Z.X
  refine wpAny_call ?_
  obtain ⟨g, hg, FG, BG, st, lv⟩ := groundK B F N hA Z.hf Z.hk
  have X₁ := X₀.keeps st
  refine codeAny_call_def (fd := fnX name qual params body scope [] dV kV doc pm an cdv ct) (body := body) (binds := binds) hroom ((X₀.keeps F.keep) _ _ ho) rfl (T.nolimit.keeps F.keep) (codeRec_of (X₀.keeps F.keep) hcd) rfl hbind hcell hloc (fun h₁ hns hk₁ => ?_) hco hgen hk
  have F₁ : Fr g s.heap.objs.size h₁ (fun y => binds.reverse.lookup y) := ⟨hns, fun b o e => hk₁ b o (of_hideAll _ (hg ▸ e)), Nat.le_of_eq (hg ▸ hideAll_size _ _)⟩
  have N₁ : News g s.heap.objs.size h₁ led := fun p hp => ⟨hk₁ _ _ (N p hp).1, Nat.ne_of_lt (Heap.lt_size (N p hp).1), hg ▸ hideAll_none _ (List.mem_map_of_mem hp)⟩
  obtain ⟨ah, ad, af, ag, au⟩ := A
  obtain rfl : ah = none := Z.hh
  obtain rfl : af = some (env :: outer) := hA
  have hroom' : ad + 1 + n < recursionLimit := by have := Z.room; dsimp only at this; omega
  have hunits' : au + 3 + 4 * n ≤ 9000 := by have := Z.units; dsimp only at this; omega
  refine wpAny_mono (h g s.heap.objs.size h₁ (s.toks + binds.length) (ad + 1) (env :: outer) ag (au + 3) _ base _ _ _ _ _ BG (T.keeps st) X₁ ⟨⟨_, _, _, _, _, _, _, _, BG, T.keeps st, rfl⟩, X₁, rfl, hk, rfl, hroom', hunits'⟩ (by show au + 3 ≤ 9000; omega) F₁ N₁ (fun p hp => Heap.lt_size (N p hp).1)) (fun fl s' hl => ?_) (fun _ _ e => e.elim)
  · obtain ⟨m', led', F', N', hR⟩ := hl
    refine lv (fun r s' => match r with | .ok (.ret v) => Q v s' | .ok _ => False | .error e => E e s') _ s' ⟨_, m', led', F', N', fun Fz Nz => hQ _ s' led' Fz Nz (fun b o e hb => F'.keep b o (hg ▸ hideAll_get _ e hb)) hR⟩
end
/-- an Info of the buffer's row: its address, its dict's address, what it holds -/
structure Inf where
  a : Addr
  d : Addr
  n : Nat
  t : Nat → Tok
  u : Nat → Tok
  glyph : Int
  cluster : Int
  mask : Int
  uns : Bool
  ligId : Int
  ligPart : Int
  ligCount : Int
  splitId : Int

def Inf.es (P : Params) (i : Inf) : List DictEntry := [
  ⟨PyData.keyHash P (Str.ofString "code"), .str (Str.ofString "code") (i.t 0), .int 0 (i.u 0)⟩,
  ⟨PyData.keyHash P (Str.ofString "glyph"), .str (Str.ofString "glyph") (i.t 1), .int i.glyph (i.u 1)⟩,
  ⟨PyData.keyHash P (Str.ofString "cluster"), .str (Str.ofString "cluster") (i.t 2), .int i.cluster (i.u 2)⟩,
  ⟨PyData.keyHash P (Str.ofString "mask"), .str (Str.ofString "mask") (i.t 3), .int i.mask (i.u 3)⟩,
  ⟨PyData.keyHash P (Str.ofString "is_unsafe"), .str (Str.ofString "is_unsafe") (i.t 4), .bool i.uns⟩,
  ⟨PyData.keyHash P (Str.ofString "lig_id"), .str (Str.ofString "lig_id") (i.t 5), .int i.ligId (i.u 5)⟩,
  ⟨PyData.keyHash P (Str.ofString "lig_part"), .str (Str.ofString "lig_part") (i.t 6), .int i.ligPart (i.u 6)⟩,
  ⟨PyData.keyHash P (Str.ofString "lig_count"), .str (Str.ofString "lig_count") (i.t 7), .int i.ligCount (i.u 7)⟩,
  ⟨PyData.keyHash P (Str.ofString "split_id"), .str (Str.ofString "split_id") (i.t 8), .int i.splitId (i.u 8)⟩,
  ⟨PyData.keyHash P (Str.ofString "kind"), .str (Str.ofString "kind") (i.t 9), .str (Str.ofString "") (i.u 9)⟩,
  ⟨PyData.keyHash P (Str.ofString "x_advance"), .str (Str.ofString "x_advance") (i.t 10), .int 0 (i.u 10)⟩,
  ⟨PyData.keyHash P (Str.ofString "y_advance"), .str (Str.ofString "y_advance") (i.t 11), .int 0 (i.u 11)⟩,
  ⟨PyData.keyHash P (Str.ofString "x_offset"), .str (Str.ofString "x_offset") (i.t 12), .int 0 (i.u 12)⟩,
  ⟨PyData.keyHash P (Str.ofString "y_offset"), .str (Str.ofString "y_offset") (i.t 13), .int 0 (i.u 13)⟩,
  ⟨PyData.keyHash P (Str.ofString "parent"), .str (Str.ofString "parent") (i.t 14), .int 0 (i.u 14)⟩,
  ⟨PyData.keyHash P (Str.ofString "bond"), .str (Str.ofString "bond") (i.t 15), .str (Str.ofString "") (i.u 15)⟩]

abbrev Inf.led (P : Params) (i : Inf) : List (Addr × Obj) := [(i.a, instObj 52 i.d), (i.d, dictOf (i.es P) i.n)]

/-- only the heap and the tokens turned -/
def Same (s s' : Shared) : Prop := ∃ h tk, s' = { s with heap := h, toks := tk }
theorem Same.mk {s : Shared} {h : Heap} {tk : Nat} : Same s { s with heap := h, toks := tk } := ⟨h, tk, rfl⟩
theorem Same.refl {s : Shared} : Same s s := ⟨s.heap, s.toks, rfl⟩
theorem Same.trans {s s' s'' : Shared} (a : Same s s') (b : Same s' s'') : Same s s'' := by
  obtain ⟨h, t, rfl⟩ := a; obtain ⟨h', t', rfl⟩ := b; exact ⟨h', t', rfl⟩

theorem fill (w : World) (h : Heap) : PySem.Challenge.rw_pb0204_01 = PySem.Challenge.rw_pb0204_01 → (hd.heap_1 w.params).In h → True := by
  k_fill
  intros; trivial
abbrev Led := List (Addr × Obj)
abbrev Map := Str → Option Value
abbrev NoE : Value → Shared → Prop := fun _ _ => False

theorem neL {a b : Nat} (h : a < b) : a ≠ b := Nat.ne_of_lt h
theorem neG {a b : Nat} (h : b < a) : a ≠ b := Nat.ne_of_gt h
theorem News.chg {h₀ h h' : Heap} {L : Addr} {led : Led} {as : List Addr} (N : News h₀ L h led) (c : Chg as h h') (hd : ∀ p ∈ led, p.1 ∉ as) : News h₀ L h' led :=
  fun p hp => ⟨c _ _ (N p hp).1 (hd p hp), (N p hp).2⟩
theorem News.sub {h₀ h : Heap} {L : Addr} {led led' : Led} (N : News h₀ L h led) (hs : ∀ p ∈ led', p ∈ led) : News h₀ L h led' := fun p hp => N p (hs p hp)
theorem News.app {h₀ h : Heap} {L : Addr} {l r : Led} (N : News h₀ L h l) (N' : News h₀ L h r) : News h₀ L h (l ++ r) := fun p hp => (List.mem_append.mp hp).elim (N p) (N' p)
theorem News.cons {h₀ h : Heap} {L : Addr} {p : Addr × Obj} {r : Led} (N : News h₀ L h [p]) (N' : News h₀ L h r) : News h₀ L h (p :: r) := fun q hq => (List.mem_cons.mp hq).elim (fun e => N q (by rw [e]; exact .head _)) (N' q)
theorem News.left {h₀ h : Heap} {L : Addr} {l r : Led} (N : News h₀ L h (l ++ r)) : News h₀ L h l := fun p hp => N p (List.mem_append_left _ hp)
theorem News.right {h₀ h : Heap} {L : Addr} {l r : Led} (N : News h₀ L h (l ++ r)) : News h₀ L h r := fun p hp => N p (List.mem_append_right _ hp)
theorem News.tail {h₀ h : Heap} {L : Addr} {p : Addr × Obj} {r : Led} (N : News h₀ L h (p :: r)) : News h₀ L h r := fun q hq => N q (.tail _ hq)
theorem ne_of_objs {h₀ h : Heap} {L : Addr} {led : Led} {a b : Addr} {o o' : Obj} (N : News h₀ L h led) (ha : (a, o) ∈ led) (hb : (b, o') ∈ led) (hne : o ≠ o') : a ≠ b := by
  rintro rfl
  exact hne (Option.some.inj ((N _ ha).1.symm.trans (N _ hb).1))

section
variable {prog : Program} {w : World} {A : Around} {s : Shared} {env : Env} {h₀ : Heap} {L : Addr}

/-- the end of a turn of a loop -/
inductive TurnEnd (h₀ : Heap) (L I : Addr) (o : Obj) (s : Shared) (J : Map → Led → Prop) (s' : Shared) : Prop
  | mk (m : Map) (led : Led) (hs : Same s s') (F : Fr h₀ L s'.heap m) (N : News h₀ L s'.heap ((I, o) :: led)) (hl : ∀ p ∈ led, p.1 ≠ I) (h : J m led)

/-- what stands behind a turn of a loop -/
def TurnQ (h₀ : Heap) (L I : Addr) (o : Obj) (s : Shared) (J : Map → Led → Prop) (Q : Flow → Shared → Prop) (f : Flow) (s₃ : Shared) : Prop := match f with
  | .next | .cont => TurnEnd h₀ L I o s J s₃
  | .brk => Q .next s₃
  | .ret v => Q (.ret v) s₃
theorem TurnQ.ret {I : Addr} {o : Obj} {J : Map → Led → Prop} {Q : Flow → Shared → Prop} {v : Value} {s₃ : Shared} (h : Q (.ret v) s₃) : TurnQ h₀ L I o s J Q (.ret v) s₃ := h
theorem TurnQ.brk {I : Addr} {o : Obj} {J : Map → Led → Prop} {Q : Flow → Shared → Prop} {s₃ : Shared} (h : Q .next s₃) : TurnQ h₀ L I o s J Q .brk s₃ := h

inductive ForAt (prog : Program) (w : World) (A : Around) (h₀ : Heap) (L : Addr) (env : Env) (target : Expr) (body : List Stmt) (Q : Flow → Shared → Prop) (it : Value) (s : Shared) : Prop
  | mk (I : Addr) (fp : List Addr) (n : Nat) (P : Nat → Value → Prop) (St : Nat → Heap → Prop) (io : Nat → Obj → Prop) (src : Heap → Prop) (m : Map) (led : Led) (Inv : Nat → Map → Led → Prop)
    (e : it = .ref I) (W : Walks prog w A I fp [I] n P St) (hSt : ∀ i h, St i h ↔ (∃ o, h.get? I = some o ∧ io i o) ∧ src h) (st0 : St 0 s.heap) (hIL : I ≠ L) (hI0 : h₀.get? I = none)
    (F : Fr h₀ L s.heap m) (N : News h₀ L s.heap led) (hled : ∀ p ∈ led, p.1 ≠ I) (h0 : Inv 0 m led)
    (hsrc : ∀ i m₁ led₁ h, Inv i m₁ led₁ → Fr h₀ L h m₁ → News h₀ L h led₁ → src h)
    (hgo : ∀ i v (s₁ : Shared) (Q : Unit → Shared → Prop), P i v → St (i + 1) s₁.heap → Q () s₁ → wpAny (model prog w) A (letOwnedTupleGo target (.ref I) v) Q NoE s₁)
    (step : ∀ i v m₁ led₁ s₁ o, Same s s₁ → i < n → P i v → Inv i m₁ led₁ → Fr h₀ L s₁.heap m₁ → News h₀ L s₁.heap ((I, o) :: led₁) → (∀ p ∈ led₁, p.1 ≠ I) →
      wpAny (model prog w) A (assign target env v) (fun _ s₂ => wpAny (model prog w) A (execs body env) (TurnQ h₀ L I o s (Inv (i + 1)) Q) NoE s₂) NoE s₁)
    (done : ∀ m₁ led₁ s₁, Same s s₁ → Inv n m₁ led₁ → Fr h₀ L s₁.heap m₁ → News h₀ L s₁.heap led₁ → Q .next s₁)

inductive FoI (s₂ : Shared) (St : Nat → Heap → Prop) (h₀ : Heap) (L : Addr) (I : Addr) (Inv : Nat → Map → Led → Prop) (n : Nat) (k : Nat) (s' : Shared) : Prop
  | mk (m₁ led₁ i : _) (h1 : Same s₂ s') (h2 : St i s'.heap) (h3 : Fr h₀ L s'.heap m₁) (h4 : News h₀ L s'.heap led₁) (h5 : (∀ p ∈ led₁, p.1 ≠ I)) (h6 : Inv i m₁ led₁) (h7 : i ≤ n) (h8 : k = n + 1 - i)
theorem for_own {target iter : Expr} {body : List Stmt} {pos : Pos} {Q : Flow → Shared → Prop}
    (h : wpAny (model prog w) A (eval iter env) (fun xv s₁ => wpAny (model prog w) A (pyIter xv) (fun it s₂ => ForAt prog w A h₀ L env target body Q it s₂) NoE s₁) NoE s)
    (hs : ∀ x, foldedSetIterable iter env x = pure x := by intro _; rfl) :
    wpAny (model prog w) A (exec (.For target iter body [] pos) env) Q NoE s := by
  refine wpAny_For (wpAny_mono h (fun xv s₁ h₁ => wpAny_mono h₁ (fun it s₂ h₂ => ?_) fun _ _ e => e.elim) fun _ _ e => e) hs
  obtain ⟨I, fp, n, P, St, io, src, m, led, Inv, rfl, W, hSt, st0, hIL, hI0, F, N, hled, h0, hsrc, hgo, step, done⟩ := h₂
  have upd : ∀ (h h' : Heap) m₁ led₁, Fr h₀ L h m₁ → News h₀ L h led₁ → (∀ p ∈ led₁, p.1 ≠ I) → (∀ b o, b ∉ [I] → h.get? b = some o → h'.get? b = some o) → Fr h₀ L h' m₁ ∧ News h₀ L h' led₁ := by
    intro h h' m₁ led₁ F₁ N₁ hl hk
    refine ⟨⟨F₁.ns.at' fun o e => hk _ o (by simpa using Ne.symm hIL) e, fun b o e => hk b o (fun hb => ?_) (F₁.keep b o e), F₁.above⟩, fun p hp => ⟨hk _ _ (by simpa using hl p hp) (N₁ p hp).1, (N₁ p hp).2⟩⟩
    rw [List.mem_singleton.mp hb, hI0] at e; cases e
  refine codeAny_forLoop_any (FoI s₂ St h₀ L I Inv n) ?_ (n + 1)
    ⟨m, led, 0, Same.refl, st0, F, N, hled, h0, Nat.zero_le _, rfl⟩
  rintro k s' ⟨m₁, led₁, i, hsame, hst, F₁, N₁, hl₁, hJ, hi, rfl⟩
  by_cases hlt : i < n
  · refine W.item i _ _ _ hlt hst fun v h' tk hP hst' hk => ?_
    obtain ⟨F₂, N₂⟩ := upd _ _ _ _ F₁ N₁ hl₁ hk
    obtain ⟨⟨o, ho, hio⟩, _⟩ := (hSt _ _).mp hst'
    have NI : News h₀ L h' ((I, o) :: led₁) := fun p hp => (List.mem_cons.mp hp).elim (fun e => by rw [e]; exact ⟨ho, hIL, hI0⟩) (N₂ p)
    dsimp only
    refine wpAny_mono (hgo i v { s' with heap := h', toks := tk } (fun _ s₂ => s₂ = { s' with heap := h', toks := tk }) hP hst' rfl) (fun _ _ e => ?_) fun _ _ e => e.elim
    subst e
    refine wpAny_mono (step i v m₁ led₁ { s' with heap := h', toks := tk } o (hsame.trans Same.mk) hlt hP hJ F₂ NI hl₁) (fun _ s₃ h₃ => wpAny_mono h₃ (fun f s₄ h₄ => ?_) fun _ _ e => e.elim) fun _ _ e => e.elim
    have fin : TurnEnd h₀ L I o s₂ (Inv (i + 1)) s₄ → ∃ m, m < n + 1 - i ∧ FoI s₂ St h₀ L I Inv n m s₄ := by
      rintro ⟨m₂, led₂, hs₄, F₄, N₄, hl₄, hJ₄⟩
      refine ⟨n + 1 - (i + 1), by omega, m₂, led₂, i + 1, hs₄, (hSt _ _).mpr ⟨⟨o, (N₄ _ (.head _)).1, hio⟩, hsrc _ _ _ _ hJ₄ F₄ (News.tail N₄)⟩, F₄, News.tail N₄, hl₄, hJ₄, hlt, rfl⟩
    cases f with
    | next => exact fin h₄
    | cont => exact fin h₄
    | brk => exact h₄
    | ret v => exact h₄
  · have hin : i = n := by omega
    subst hin
    refine W.done _ _ _ hst fun h' tk hk => wpAny_execs_nil ?_
    obtain ⟨F₂, N₂⟩ := upd _ _ _ _ F₁ N₁ hl₁ hk
    exact done m₁ led₁ _ (hsame.trans Same.mk) hJ F₂ N₂

/-- the end of a turn of a while -/
inductive WEnd (h₀ : Heap) (L : Addr) (s : Shared) (J : Nat → Map → Led → Prop) (n : Nat) (s' : Shared) : Prop
  | mk (k : Nat) (m : Map) (led : Led) (hk : k < n) (hs : Same s s') (F : Fr h₀ L s'.heap m) (N : News h₀ L s'.heap led) (h : J k m led)

def WQ (h₀ : Heap) (L : Addr) (s : Shared) (J : Nat → Map → Led → Prop) (n : Nat) (Q : Flow → Shared → Prop) (f : Flow) (s₃ : Shared) : Prop := match f with
  | .next | .cont => WEnd h₀ L s J n s₃
  | .brk => Q .next s₃
  | .ret v => Q (.ret v) s₃
theorem WQ.ret {J : Nat → Map → Led → Prop} {n : Nat} {Q : Flow → Shared → Prop} {v : Value} {s₃ : Shared} (h : Q (.ret v) s₃) : WQ h₀ L s J n Q (.ret v) s₃ := h
theorem WQ.brk {J : Nat → Map → Led → Prop} {n : Nat} {Q : Flow → Shared → Prop} {s₃ : Shared} (h : Q .next s₃) : WQ h₀ L s J n Q .brk s₃ := h

inductive WhI (s : Shared) (h₀ : Heap) (L : Addr) (Inv : Nat → Map → Led → Prop) (k : Nat) (s' : Shared) : Prop
  | mk (m₁ led₁ : _) (h1 : Same s s') (h2 : Fr h₀ L s'.heap m₁) (h3 : News h₀ L s'.heap led₁) (h4 : Inv k m₁ led₁)
theorem while_own {test : Expr} {body : List Stmt} {pos : Pos} {Q : Flow → Shared → Prop} {m : Map} {led : Led} (Inv : Nat → Map → Led → Prop) (n : Nat) (F : Fr h₀ L s.heap m) (N : News h₀ L s.heap led) (h0 : Inv n m led)
    (turn : ∀ n m₁ led₁ s₁, Same s s₁ → Fr h₀ L s₁.heap m₁ → News h₀ L s₁.heap led₁ → Inv n m₁ led₁ →
      wpAny (model prog w) A (isTrue test env (eval test env)) (fun b s₂ => if b then wpAny (model prog w) A (execs body env) (WQ h₀ L s Inv n Q) NoE s₂ else Q .next s₂) NoE s₁) :
    wpAny (model prog w) A (exec (.While test body [] pos) env) Q NoE s := by
  refine wpAny_While (codeAny_whileLoop (WhI s h₀ L Inv) ?_ n ⟨m, led, Same.refl, F, N, h0⟩)
  rintro k s' ⟨m₁, led₁, hs, F₁, N₁, hJ⟩
  refine wpAny_mono (turn k m₁ led₁ s' hs F₁ N₁ hJ) (fun b s₂ h₂ => ?_) fun _ _ e => e.elim
  cases b with
  | true =>
    simp only [if_true] at h₂ ⊢
    refine wpAny_mono h₂ (fun f s₃ h₃ => ?_) fun _ _ e => e.elim
    have fin : WEnd h₀ L s Inv k s₃ → ∃ m, m < k ∧ WhI s h₀ L Inv m s₃ :=
      fun ⟨k', m₂, led₂, a, b, c, d, e⟩ => ⟨k', a, m₂, led₂, b, c, d, e⟩
    cases f with
    | next => exact fin h₃
    | cont => exact fin h₃
    | brk => exact h₃
    | ret v => exact h₃
  | false =>
    simp only [Bool.false_eq_true, if_false] at h₂ ⊢
    exact wpAny_execs_nil h₂

/-- a name's dict, as an object -/
def NsO (o : Obj) (m : Map) : Prop := ∃ es ep, o.data = .dict es ep ∧ StrKeys es ∧ ∀ name, nsFind es name = m name
theorem NsO.ns {h : Heap} {C : Addr} {o : Obj} {m : Map} (x : NsO o m) (e : h.get? C = some o) : h.Ns C m := let ⟨es, ep, a, b, c⟩ := x; ⟨o, es, ep, e, a, b, c⟩
theorem NsO.of {h : Heap} {C : Addr} {m : Map} (x : h.Ns C m) : ∃ o, h.get? C = some o ∧ NsO o m := let ⟨o, es, ep, e, a, b, c⟩ := x; ⟨o, e, es, ep, a, b, c⟩

/-- the end of a comprehension's turn -/
inductive CEnd (h₀ : Heap) (L : Addr) (m : Map) (I C D : Addr) (oI oC oD : Obj) (s : Shared) (J : Led → Prop) (s' : Shared) : Prop
  | mk (led : Led) (hs : Same s s') (F : Fr h₀ L s'.heap m) (N : News h₀ L s'.heap ((I, oI) :: (C, oC) :: (D, oD) :: led)) (hl : ∀ p ∈ led, p.1 ≠ I ∧ p.1 ≠ C ∧ p.1 ≠ D) (h : J led)

def CompStep (prog : Program) (w : World) (A : Around) (h₀ : Heap) (L : Addr) (env : Env) (scope : Scope) (cl : List (Str × Addr)) (x : Str) (ifs : List Expr) (elt : Expr) (I : Addr) (n : Nat) (P : Nat → Value → Prop) (m : Map) (Inv : Nat → List Value → Led → Prop) (s : Shared) : Prop :=
  ∀ C D i v ys led₁ s₁ oI oC oD mC, Same s s₁ → i < n → P i v → Inv i ys led₁ → Fr h₀ L s₁.heap m → News h₀ L s₁.heap ((I, oI) :: (C, oC) :: (D, oD) :: led₁) → (∀ p ∈ led₁, p.1 ≠ I ∧ p.1 ≠ C ∧ p.1 ≠ D) → NsO oC mC → mC x = some v →
    wpAny (model prog w) A (forIn ifs true fun c r => if r = true then do let ok ← isTrue c (compEnvC scope cl C env) (eval c (compEnvC scope cl C env)); pure (ForInStep.yield ok) else pure (ForInStep.yield r))
      (fun ok s₃ => if ok = true then wpAny (model prog w) A (eval elt (compEnvC scope cl C env)) (fun y s₄ => CEnd h₀ L m I C D oI oC oD s (Inv (i + 1) (ys ++ [y])) s₄) NoE s₃ else CEnd h₀ L m I C D oI oC oD s (Inv (i + 1) ys) s₃) NoE s₁

inductive CoI (s : Shared) (St : Nat → Heap → Prop) (h₀ : Heap) (L : Addr) (m : Map) (I : Addr) (C : Addr) (D : Addr) (Inv : Nat → List Value → Led → Prop) (n : Nat) (k : Nat) (s' : Shared) : Prop
  | mk (i ys led₁ mC k' : _) (h1 : Same s s') (h2 : St i s'.heap) (h3 : Fr h₀ L s'.heap m) (h4 : News h₀ L s'.heap led₁) (h5 : (∀ p ∈ led₁, p.1 ≠ I ∧ p.1 ≠ C ∧ p.1 ≠ D)) (h6 : s'.heap.Ns C mC) (h7 : s'.heap.get? D = some (listOf ys.toArray k')) (h8 : Inv i ys led₁) (h9 : i ≤ n) (h10 : k = n + 1 - i)
theorem comp_core {elt iter : Expr} {x : Str} {px : Pos} {ifs : List Expr} {scope : Scope} {cl : List (Str × Addr)} {pos : Pos} {I : Addr} {fp : List Addr} {n : Nat} {P : Nat → Value → Prop} {St : Nat → Heap → Prop} {io : Nat → Obj → Prop} {src : Heap → Prop} {m : Map} {led : Led} (Inv : Nat → List Value → Led → Prop)
    {RR : Value → Addr → Result → Shared → Prop} {E : Value → Shared → Prop}
    (W : Walks prog w A I fp [I] n P St) (hsz : n ≤ sizeLine) (hSt : ∀ i h, St i h ↔ (∃ o, h.get? I = some o ∧ io i o) ∧ src h) (st0 : St 0 s.heap) (hfp : ∀ b ∈ fp, b < s.heap.objs.size) (hIL : I ≠ L) (hI0 : h₀.get? I = none)
    (F : Fr h₀ L s.heap m) (N : News h₀ L s.heap led) (hled : ∀ p ∈ led, p.1 ≠ I) (h0 : Inv 0 [] led)
    (hsrc : ∀ i ys led₁ h, Inv i ys led₁ → Fr h₀ L h m → News h₀ L h led₁ → src h) (hlen : ∀ i ys led₁, Inv i ys led₁ → ys.length ≤ i)
    (hcell : ∀ y ∈ scope.names, y.2 ≠ .cell) (hkind : scope.kind = .function) (hx : scope.names.lookup x = some .local)
    (step : CompStep prog w A h₀ L env scope cl x ifs elt I n P m Inv s)
    (hRR : ∀ D C led₁ ys s₁ k mC, Same s s₁ → Inv n ys led₁ → Fr h₀ L s₁.heap m → News h₀ L s₁.heap ((D, listOf ys.toArray k) :: led₁) → s₁.heap.Ns C mC → C ≠ L → h₀.get? C = none → D ≠ C → (∀ p ∈ led₁, p.1 ≠ C) → (∀ p ∈ led₁, p.1 ≠ D) → RR (.ref D) C (.ok .next) s₁) :
    wpAny (model prog w) A (newList []) (fun acc s₃ => wpAny (model prog w) A (newFunctionEnv scope env.globals cl [] env.qual none .none (some env)) (fun cenv s₄ =>
      codeAny (model prog w) A (.compStart (.ListComp elt [⟨.Name x px, iter, ifs, 0⟩] scope pos) 0 (.ref I) acc { cenv with scope := relabel scope env }) (RR acc cenv.locals) s₄) E s₃) E s := by
  refine wpAny_newObj_type (wpAny_newFunctionEnv hcell (by intro y hy; simp at hy) (fun h₁ hns₁ hsb₁ => ?_) hkind)
  dsimp only at hns₁ hsb₁ ⊢
  generalize hH2 : s.heap.push { cls := .type "list", dict := none, data := .seq ([] : List Value).toArray } = H2 at hns₁ hsb₁ ⊢
  have hC : H2.objs.size = s.heap.objs.size + 1 := by rw [← hH2, Heap.size_push]
  generalize hCd : H2.objs.size = C at hns₁ hsb₁ hC ⊢
  generalize hDd : s.heap.objs.size = D at hC ⊢
  revert H2 C D
  refine keepP ?_
  set_option tactic.hygienic false in intros
  have hDC : D ≠ C := by rw [hC]; exact Nat.ne_of_lt (Nat.lt_succ_self D)
  have below : ∀ b, b < D → b ≠ C ∧ b ≠ D := fun b hb => ⟨neL (by rw [hC]; exact Nat.lt_succ_of_lt hb), neL hb⟩
  have hDf : D ∉ fp := fun hm => Nat.lt_irrefl _ (hDd ▸ hfp _ hm)
  have hCf : C ∉ fp := fun hm => by have := ltN (hfp _ hm); omega
  have old : ∀ b o, s.heap.get? b = some o → h₁.get? b = some o := fun b o e => hsb₁.extBut b o (below b (hDd ▸ Heap.lt_size e)).1 (Heap.get?_push_of_some _ (hH2 ▸ Heap.get?_push_of_some _ e))
  have hacc : h₁.get? D = some (listOf #[] 0) := hsb₁.extBut _ _ hDC (Heap.get?_push_of_some _ (hH2 ▸ hDd ▸ Heap.get?_push_size _ rfl))
  have fresh : ∀ a, D ≤ a → s.heap.get? a = none := fun a ha => by
    cases e : s.heap.get? a with
    | none => rfl
    | some o' => exact absurd (Heap.lt_size e) (by rw [hDd]; exact Nat.not_lt.mpr ha)
  have fresh0 : ∀ a, D ≤ a → h₀.get? a = none := fun a ha => by
    cases e : h₀.get? a with
    | none => rfl
    | some o' => have := F.keep _ _ e; rw [fresh a ha] at this; cases this
  have hLD : @LT.lt Nat _ L D := hDd ▸ F.ns.lt
  have hDI : D ≠ I := by obtain ⟨⟨o, ho, _⟩, _⟩ := (hSt _ _).mp st0; have := ltN (Heap.lt_size ho); exact neG (by omega)
  have hCI : C ≠ I := by obtain ⟨⟨o, ho, _⟩, _⟩ := (hSt _ _).mp st0; have := ltN (Heap.lt_size ho); exact neG (by omega)
  have hst₁ : St 0 h₁ := W.frame _ _ _ st0 fun b _ o e => old b o e
  have F₁ : Fr h₀ L h₁ m := ⟨F.ns.at' fun o e => old _ o e, fun b o e => old b o (F.keep b o e), F.above⟩
  have N₁ : News h₀ L h₁ led := fun p hp => ⟨old _ _ (N p hp).1, (N p hp).2⟩
  have hled₁ : ∀ p ∈ led, p.1 ≠ I ∧ p.1 ≠ C ∧ p.1 ≠ D := fun p hp => ⟨hled p hp, (below _ (hDd ▸ Heap.lt_size (N p hp).1))⟩
  have loop : ∀ s₃ : Shared, s₃ = { s with heap := h₁, toks := s.toks + ([] : List (Str × Value)).length } →
      codeAny (model prog w) A (.compLoop (.ListComp elt [⟨.Name x px, iter, ifs, 0⟩] scope pos) 0 (.ref I) (.ref D) (compEnvC scope cl C env)) (RR (.ref D) C) s₃ := by
    rintro s₃ rfl
    refine codeAny_compLoop_tests (CoI s St h₀ L m I C D Inv n) ?_ (n + 1)
      ⟨0, [], led, _, 0, Same.mk, hst₁, F₁, N₁, hled₁, hns₁, hacc, h0, Nat.zero_le _, rfl⟩
    rintro k s' ⟨i, ys, led₁, mC, k', hsame, hst, F₂, N₂, hl₂, hn₂, hD₂, hJ, hi, rfl⟩
    by_cases hlt : i < n
    · refine W.item i _ _ _ hlt hst fun v h' tk hP hst' hk => ?_
      dsimp only
      have kI : ∀ b o, b ≠ I → s'.heap.get? b = some o → h'.get? b = some o := fun b o hb e => hk b o (by simpa using hb) e
      refine wpAny_assign_Name (wpAny_storeName_local (lookup_relabel_local hx) (hn₂.at' fun o e => kI _ o hCI e) (fun h₂ hnn hss => ?_) (by simp [compEnvC, relabel, hkind]))
      obtain ⟨⟨oI, hoI, hio⟩, _⟩ := (hSt _ _).mp hst'
      obtain ⟨oC, hoC, hNsC⟩ := NsO.of hnn
      have kC : ∀ b o, b ≠ I → b ≠ C → s'.heap.get? b = some o → h₂.get? b = some o := fun b o hb hb' e => hss.extBut b o hb' (kI b o hb e)
      have F₃ : Fr h₀ L h₂ m := ⟨F₂.ns.at' fun o e => kC _ o (Ne.symm hIL) (neL (by omega)) e, fun b o e => kC b o (fun hb => by rw [hb, hI0] at e; cases e) (fun hb => by rw [hb, fresh0 C (by omega)] at e; cases e) (F₂.keep b o e), F₂.above⟩
      have N₃ : News h₀ L h₂ ((I, oI) :: (C, oC) :: (D, listOf ys.toArray k') :: led₁) := by
        intro p hp
        revert p
        first | refine ac3 ?_ ?_ | refine ac2 ?_ ?_ | refine ac ?_ ?_
        · exact ⟨hss.extBut _ _ (Ne.symm hCI) hoI, hIL, hI0⟩
        refine ac ?_ ?_
        · exact ⟨hoC, neG (show @LT.lt Nat _ L C by omega), fresh0 C (by omega)⟩
        refine ac ?_ ?_
        · exact ⟨kC _ _ hDI hDC hD₂, neG (show @LT.lt Nat _ L D by omega), fresh0 D (Nat.le_refl _)⟩
        intro p hp
        · exact ⟨kC _ _ (hl₂ p hp).1 (hl₂ p hp).2.1 (N₂ p hp).1, (N₂ p hp).2⟩
      refine wpAny_mono (step C D i v ys led₁ _ oI oC _ _ (hsame.trans Same.mk) hlt hP hJ F₃ N₃ hl₂ hNsC (by simp)) (fun ok s₄ h₄ => ?_) fun _ _ e => e.elim
      cases ok with
      | false =>
        simp only [Bool.false_eq_true, if_false] at h₄ ⊢
        obtain ⟨led₂, hs₄, F₄, N₄, hl₄, hJ₄⟩ := h₄
        refine ⟨n + 1 - (i + 1), by omega, i + 1, ys, led₂, _, k', hs₄, (hSt _ _).mpr ⟨⟨oI, (N₄ _ (.head _)).1, hio⟩, hsrc _ _ _ _ hJ₄ F₄ (News.tail (News.tail (News.tail N₄)))⟩, F₄, News.tail (News.tail (News.tail N₄)), hl₄, hNsC.ns (N₄ _ (.tail _ (.head _))).1, (N₄ _ (.tail _ (.tail _ (.head _)))).1, hJ₄, hlt, rfl⟩
      | true =>
        simp only [if_true] at h₄ ⊢
        refine wpAny_mono h₄ (fun y s₅ h₅ => ?_) fun _ _ e => e.elim
        obtain ⟨led₂, hs₅, F₅, N₅, hl₅, hJ₅⟩ := h₅
        have hys : ys.toArray.size ≤ sizeLine := by have := hlen _ _ _ hJ; rw [List.size_toArray]; omega
        refine wpAny_list_append_plain (hsz := hys) ⟨k', (N₅ _ (.tail _ (.tail _ (.head _)))).1⟩ fun h₆ hl₆ hs₆ => ?_
        obtain ⟨k₆, hk₆⟩ := hl₆
        have kD : ∀ b o, b ≠ D → s₅.heap.get? b = some o → h₆.get? b = some o := fun b o hb e => hs₆.extBut b o hb e
        have F₆ : Fr h₀ L h₆ m := ⟨F₅.ns.at' fun o e => kD _ o (neL hLD) e, fun b o e => kD b o (fun hb => by rw [hb, fresh0 D (Nat.le_refl _)] at e; cases e) (F₅.keep b o e), F₅.above⟩
        have N₆ : News h₀ L h₆ led₂ := fun p hp => ⟨kD _ _ (hl₅ p hp).2.2 (N₅ p (.tail _ (.tail _ (.tail _ hp)))).1, (N₅ p (.tail _ (.tail _ (.tail _ hp)))).2⟩
        refine ⟨n + 1 - (i + 1), by omega, i + 1, ys ++ [y], led₂, _, k₆, hs₅.trans ⟨h₆, s₅.toks, rfl⟩, (hSt _ _).mpr ⟨⟨oI, kD _ _ (Ne.symm hDI) (N₅ _ (.head _)).1, hio⟩, hsrc _ _ _ _ hJ₅ F₆ N₆⟩, F₆, N₆, hl₅, hNsC.ns (kD _ _ (Ne.symm hDC) (N₅ _ (.tail _ (.head _))).1), ?_, hJ₅, hlt, rfl⟩
        rw [hk₆]; simp
    · have hin : i = n := by omega
      subst hin
      refine W.done _ _ _ hst fun h' tk hk => ?_
      have kI : ∀ b o, b ≠ I → s'.heap.get? b = some o → h'.get? b = some o := fun b o hb e => hk b o (by simpa using hb) e
      have F₃ : Fr h₀ L h' m := ⟨F₂.ns.at' fun o e => kI _ o (Ne.symm hIL) e, fun b o e => kI b o (fun hb => by rw [hb, hI0] at e; cases e) (F₂.keep b o e), F₂.above⟩
      refine hRR D C led₁ ys _ k' _ (hsame.trans Same.mk) hJ F₃ ?_ (hn₂.at' fun o e => kI _ o hCI e) (neG (show @LT.lt Nat _ L C by omega)) (fresh0 C (by omega)) hDC (fun p hp => (hl₂ p hp).2.1) (fun p hp => (hl₂ p hp).2.2)
      intro p hp
      revert p
      first | refine ac3 ?_ ?_ | refine ac2 ?_ ?_ | refine ac ?_ ?_
      · exact ⟨kI _ _ hDI hD₂, neG (show @LT.lt Nat _ L D by omega), fresh0 D (Nat.le_refl _)⟩
      intro p hp
      · exact ⟨kI _ _ (hl₂ p hp).1 (N₂ p hp).1, (N₂ p hp).2⟩
  exact codeAny_compStart_list (loop _ rfl) (W.self 0 _ _ _ hst₁ (loop _ rfl))
end
section
variable {prog : Program} {w : World} {A : Around} {s : Shared} {env : Env} {h₀ : Heap} {L : Addr}

inductive CompAt (prog : Program) (w : World) (A : Around) (h₀ : Heap) (L : Addr) (env : Env) (scope : Scope) (cl : List (Str × Addr)) (x : Str) (ifs : List Expr) (elt : Expr) (m : Map) (K : Addr → List Value → Nat → Led → Shared → Prop) (it : Value) (s : Shared) : Prop
  | mk (I : Addr) (fp : List Addr) (n : Nat) (P : Nat → Value → Prop) (St : Nat → Heap → Prop) (io : Nat → Obj → Prop) (src : Heap → Prop) (led : Led) (Inv : Nat → List Value → Led → Prop)
    (e : it = .ref I) (W : Walks prog w A I fp [I] n P St) (hsz : n ≤ sizeLine) (hSt : ∀ i h, St i h ↔ (∃ o, h.get? I = some o ∧ io i o) ∧ src h) (st0 : St 0 s.heap) (hfp : ∀ b ∈ fp, b < s.heap.objs.size) (hIL : I ≠ L) (hI0 : h₀.get? I = none)
    (F : Fr h₀ L s.heap m) (N : News h₀ L s.heap led) (hled : ∀ p ∈ led, p.1 ≠ I) (h0 : Inv 0 [] led) (hsrc : ∀ i ys led₁ h, Inv i ys led₁ → Fr h₀ L h m → News h₀ L h led₁ → src h) (hlen : ∀ i ys led₁, Inv i ys led₁ → ys.length ≤ i)
    (step : CompStep prog w A h₀ L env scope cl x ifs elt I n P m Inv s)
    (done : ∀ D led₁ ys s₁ k, Same s s₁ → Inv n ys led₁ → News h₀ L s₁.heap ((D, listOf ys.toArray k) :: led₁) → K D ys k led₁ s₁)

theorem comp_expr {elt iter : Expr} {x : Str} {px : Pos} {ifs : List Expr} {scope : Scope} {cl : List (Str × Addr)} {pos : Pos} {Q : Value → Shared → Prop}
    (hclos : closureFor scope env = pure cl) (hcell : ∀ y ∈ scope.names, y.2 ≠ .cell) (hkind : scope.kind = .function)
    (hnames : ∀ y ∈ scope.names, y.2 = .local → scope.names.lookup y.1 = some .local) (hx : scope.names.lookup x = some .local)
    (h : wpAny (model prog w) A (eval iter env) (fun xv s₁ => wpAny (model prog w) A (pyIter xv) (fun it s₂ => ∃ m, CompAt prog w A h₀ L env scope cl x ifs elt m (fun D _ _ _ s₃ => Fr h₀ L s₃.heap m → Q (.ref D) s₃) it s₂) NoE s₁) NoE s)
    (hs : ∀ x, foldedSetIterable iter env x = pure x := by intro _; rfl) :
    wpAny (model prog w) A (eval (.ListComp elt [⟨.Name x px, iter, ifs, 0⟩] scope pos) env) Q NoE s := by
  rw [eval_ListComp]
  refine wpAny_comprehension_free (use := none) rfl hs hclos hkind hnames (wpAny_mono h (fun xv s₁ h₁ => wpAny_mono h₁ (fun it s₂ h₂ => ?_) fun _ _ e => e.elim) fun _ _ e => e.elim)
  obtain ⟨m, I, fp, n, P, St, io, src, led, Inv, rfl, W, hsz, hSt, st0, hfp, hIL, hI0, F, N, hled, h0, hsrc, hlen, step, done⟩ := h₂
  refine comp_core Inv W hsz hSt st0 hfp hIL hI0 F N hled h0 hsrc hlen hcell hkind hx step (RR := fun acc C => compPost (model prog w) A NoE none Q acc C) ?_
  intro D C led₁ ys s₁ k mC hsame hJ F₁ N₁ hn hCL hC0 hDC hl hlD
  refine ⟨mC, hn, fun h' hs' => ?_⟩
  have kC : ∀ b o, b ≠ C → s₁.heap.get? b = some o → h'.get? b = some o := fun b o hb e => hs'.extBut b o hb e
  refine done D led₁ ys _ k (hsame.trans ⟨h', s₁.toks, rfl⟩) hJ (fun p hp => ⟨kC _ _ ?_ (N₁ p hp).1, (N₁ p hp).2⟩) ⟨F₁.ns.at' fun o e => kC _ o (Ne.symm hCL) e, fun b o e => kC b o (fun hb => by rw [hb, hC0] at e; cases e) (F₁.keep b o e), F₁.above⟩
  revert p
  first | refine ac3 ?_ ?_ | refine ac2 ?_ ?_ | refine ac ?_ ?_
  · exact hDC
  intro p hp
  · exact hl p hp

theorem comp_assign {elt iter : Expr} {x y : Str} {px py : Pos} {ifs : List Expr} {scope : Scope} {cl : List (Str × Addr)} {pos spos : Pos} {Q : Flow → Shared → Prop}
    (hsw : swapsWith (.ListComp elt [⟨.Name x px, iter, ifs, 0⟩] scope pos) (some (.Name y py)) spos.line env = pure true)
    (hclos : closureFor scope env = pure cl) (hcell : ∀ y ∈ scope.names, y.2 ≠ .cell) (hkind : scope.kind = .function)
    (hnames : ∀ y ∈ scope.names, y.2 = .local → scope.names.lookup y.1 = some .local) (hx : scope.names.lookup x = some .local)
    (hL : env.locals = L) (hy : env.kindOf y = some .local) (hp : (env.scope.kind == .class || (env.scope.kind == .module && env.locals != env.globals)) = false)
    (h : wpAny (model prog w) A (eval iter env) (fun xv s₁ => wpAny (model prog w) A (pyIter xv) (fun it s₂ => ∃ m, CompAt prog w A h₀ L env scope cl x ifs elt m (fun D _ _ led₁ s₃ => (∀ p ∈ led₁, p.1 ≠ D) → Fr h₀ L s₃.heap (fun z => if z = y then some (.ref D) else m z) → Q .next s₃) it s₂) NoE s₁) NoE s)
    (hs : ∀ x, foldedSetIterable iter env x = pure x := by intro _; rfl) :
    wpAny (model prog w) A (exec (.Assign [.Name y py] (.ListComp elt [⟨.Name x px, iter, ifs, 0⟩] scope pos) spos) env) Q NoE s := by
  rw [exec_Assign_Name_used _ _ _ _ hsw]
  refine wpAny_bind (wpAny_standAt (wpAny_bind ?_))
  show wpAny (model prog w) A (evalThenUse (.ListComp elt [⟨.Name x px, iter, ifs, 0⟩] scope pos) env _) _ _ _
  unfold evalThenUse
  refine wpAny_bind ?_
  refine wpAny_comprehension_free (Q := fun _ s' => wpAny (model prog w) A (pure ()) (fun _ s' => wpAny (model prog w) A (pure Flow.next) Q NoE s') NoE s') rfl hs hclos hkind hnames (wpAny_mono h (fun xv s₁ h₁ => wpAny_mono h₁ (fun it s₂ h₂ => ?_) fun _ _ e => e.elim) fun _ _ e => e.elim)
  obtain ⟨m, I, fp, n, P, St, io, src, led, Inv, rfl, W, hsz, hSt, st0, hfp, hIL, hI0, F, N, hled, h0, hsrc, hlen, step, done⟩ := h₂
  refine comp_core Inv W hsz hSt st0 hfp hIL hI0 F N hled h0 hsrc hlen hcell hkind hx step (RR := fun acc C => compPost (model prog w) A NoE _ _ acc C) ?_
  intro D C led₁ ys s₁ k mC hsame hJ F₁ N₁ hn hCL hC0 hDC hl hlD
  subst hL
  refine wpAny_assign_Name (wpAny_storeName_local hy F₁.ns (fun h₂ hn₂ hs₂ => ?_) hp)
  have kL : ∀ b o, b ≠ env.locals → s₁.heap.get? b = some o → h₂.get? b = some o := fun b o hb e => hs₂.extBut b o hb e
  refine ⟨mC, hn.at' fun o e => kL _ o hCL e, fun h' hs' => ?_⟩
  have kC : ∀ b o, b ≠ C → h₂.get? b = some o → h'.get? b = some o := fun b o hb e => hs'.extBut b o hb e
  have F₂ := F₁.set hn₂ hs₂
  refine wpAny_pure (wpAny_pure (done D led₁ ys _ k (hsame.trans ⟨h', s₁.toks + 1, rfl⟩) hJ (fun p hp => ⟨kC _ _ ?_ (kL _ _ (N₁ p hp).2.1 (N₁ p hp).1), (N₁ p hp).2⟩) hlD ⟨F₂.ns.at' fun o e => kC _ o (Ne.symm hCL) e, fun b o e => kC b o (fun hb => by rw [hb, hC0] at e; cases e) (F₂.keep b o e), F₂.above⟩))
  revert p
  first | refine ac3 ?_ ?_ | refine ac2 ?_ ?_ | refine ac ?_ ?_
  · exact hDC
  intro p hp
  · exact hl p hp

/-! the sources -/
section
variable {m : Map} {led : Led}
theorem fresh_I (F : Fr h₀ L s.heap m) : h₀.get? s.heap.objs.size = none := by
  cases e : h₀.get? s.heap.objs.size with
  | none => rfl
  | some o => exact absurd (Heap.lt_size (F.keep _ _ e)) (Nat.lt_irrefl _)
theorem fresh_L (F : Fr h₀ L s.heap m) : s.heap.objs.size ≠ L := neG F.ns.lt
theorem fresh_led (N : News h₀ L s.heap led) : ∀ p ∈ led, p.1 ≠ s.heap.objs.size := fun p hp => neL (Heap.lt_size (N p hp).1)
theorem fr_push (F : Fr h₀ L s.heap m) (o : Obj) : Fr h₀ L (s.heap.push o) m := F.push o
theorem news_push (N : News h₀ L s.heap led) (o : Obj) : News h₀ L (s.heap.push o) led := fun p hp => ⟨Heap.get?_push_of_some _ (N p hp).1, (N p hp).2⟩

theorem for_list {target : Expr} {body : List Stmt} {Q : Flow → Shared → Prop} {ax : Addr} {vs : List Value} (hh : A.handled = none)
    (hl : s.heap.IsList ax vs.toArray) (F : Fr h₀ L s.heap m) (N : News h₀ L s.heap led) (Inv : Nat → Map → Led → Prop) (h0 : Inv 0 m led)
    (hsrc : ∀ i m₁ led₁ h, Inv i m₁ led₁ → Fr h₀ L h m₁ → News h₀ L h led₁ → h.IsList ax vs.toArray)
    (hgo : (∃ x p, target = .Name x p) ∨ (∃ e x p, target = .Tuple e x p ∧ ∀ v ∈ vs, ∃ T, v = .ref T))
    (step : ∀ I i v m₁ led₁ s₁ o, Same s s₁ → vs[i]? = some v → Inv i m₁ led₁ → Fr h₀ L s₁.heap m₁ → News h₀ L s₁.heap ((I, o) :: led₁) → (∀ p ∈ led₁, p.1 ≠ I) →
      wpAny (model prog w) A (assign target env v) (fun _ s₂ => wpAny (model prog w) A (execs body env) (TurnQ h₀ L I o s (Inv (i + 1)) Q) NoE s₂) NoE s₁)
    (done : ∀ m₁ led₁ s₁, Same s s₁ → Inv vs.length m₁ led₁ → Fr h₀ L s₁.heap m₁ → News h₀ L s₁.heap led₁ → Q .next s₁) :
    wpAny (model prog w) A (pyIter (.ref ax)) (fun it s₂ => ForAt prog w A h₀ L env target body Q it s₂) NoE s := by
  have hlt : ax < s.heap.objs.size := by obtain ⟨_, e, _⟩ := hl; exact Heap.lt_size e
  refine wpAny_pyIter_list hl ?_
  have tr : ∀ {s'}, Same { s with heap := s.heap.push { cls := .type "list_iterator", data := .fields #[.ref ax, .int 0 0] } } s' → Same s s' := fun h => Same.trans (Same.mk (tk := s.toks)) h
  refine ⟨s.heap.objs.size, [s.heap.objs.size, ax], vs.length, _, _, fun i o => o.cls = .type "list_iterator" ∧ o.data = .fields #[.ref ax, .int i 0], fun h => h.IsList ax vs.toArray, m, led, Inv, rfl,
    (by have := Walks.list (prog := prog) (w := w) hh s.heap.objs.size ax (Nat.ne_of_lt hlt) vs.toArray; rwa [List.size_toArray] at this), fun i h => Iff.rfl, ⟨⟨_, Heap.get?_push_size _ rfl, rfl, rfl⟩, hl.push _⟩, fresh_L F, fresh_I F, F.push _, news_push N _, fresh_led N, h0, hsrc, ?_, ?_, ?_⟩
  · intro i v s₁ Q' hP hst hq
    rcases hgo with ⟨x, p, rfl⟩ | ⟨e, x, p, rfl, hv⟩
    · exact wpAny_pure hq
    · obtain ⟨T, rfl⟩ := hv v (by simpa using Array.mem_of_getElem? hP)
      exact wpAny_letOwnedTupleGo_listiter hst.1 hq
  · intro i v m₁ led₁ s₁ o hs hi hP hJ F₁ N₁ hl₁
    refine wpAny_mono (step _ i v m₁ led₁ s₁ o (tr hs) (by simpa using hP) hJ F₁ N₁ hl₁) (fun _ s₂ h₂ => wpAny_mono h₂ (fun f s₃ h₃ => ?_) fun _ _ e => e) fun _ _ e => e
    have fin : TurnEnd h₀ L s.heap.objs.size o s (Inv (i + 1)) s₃ → TurnEnd h₀ L s.heap.objs.size o { s with heap := s.heap.push { cls := .type "list_iterator", data := .fields #[.ref ax, .int 0 0] } } (Inv (i + 1)) s₃ := by
      rintro ⟨m₂, led₂, ⟨h', tk, rfl⟩, r1, r2, r3, r4⟩
      exact ⟨m₂, led₂, ⟨h', tk, rfl⟩, r1, r2, r3, r4⟩
    cases f with
    | next => exact fin h₃
    | cont => exact fin h₃
    | brk => exact h₃
    | ret v => exact h₃
  · intro m₁ led₁ s₁ hs hJ F₁ N₁
    exact done m₁ led₁ s₁ (tr hs) hJ F₁ N₁
end
end
theorem walks_range {prog : Program} {w : World} {A : Around} {I : Addr} (hh : A.handled = none) (a : Int) (n : Nat) : Walks prog w A I [I] [I] n (fun i v => ∃ t, v = .int (a + (i : Int)) t) (fun i h => IsRangeIter h I (a + (i : Nat) * 1) ((n : Int) - (i : Nat)) 1) :=
  let W := Walks.range (prog := prog) (w := w) hh I a 1 n
  { sub := W.sub, frame := W.frame, done := W.done, self := W.self,
    item := fun i s Q E hi st hQ => W.item i s Q E hi st fun v h' tk hP => hQ v h' tk (by obtain ⟨t, rfl⟩ := hP; exact ⟨t, by rw [Int.mul_one]⟩) }
section
variable {prog : Program} {w : World} {A : Around} {s : Shared} {env : Env} {h₀ : Heap} {L : Addr} {m : Map} {led : Led}

theorem for_src {target : Expr} {body : List Stmt} {Q : Flow → Shared → Prop} {io0 : Obj} {fp : List Addr} {n : Nat} {P : Nat → Value → Prop} {St : Nat → Heap → Prop} {io : Nat → Obj → Prop} {src : Heap → Prop}
    (W : Walks prog w A s.heap.objs.size fp [s.heap.objs.size] n P St) (hSt : ∀ i h, St i h ↔ (∃ o, h.get? s.heap.objs.size = some o ∧ io i o) ∧ src h) (st0 : St 0 (s.heap.push io0))
    (F : Fr h₀ L s.heap m) (N : News h₀ L s.heap led) (Inv : Nat → Map → Led → Prop) (h0 : Inv 0 m led)
    (hsrc : ∀ i m₁ led₁ h, Inv i m₁ led₁ → Fr h₀ L h m₁ → News h₀ L h led₁ → src h) (hgo : ∃ x p, target = .Name x p)
    (step : ∀ I i v m₁ led₁ s₁ o, Same s s₁ → i < n → P i v → Inv i m₁ led₁ → Fr h₀ L s₁.heap m₁ → News h₀ L s₁.heap ((I, o) :: led₁) → (∀ p ∈ led₁, p.1 ≠ I) →
      wpAny (model prog w) A (assign target env v) (fun _ s₂ => wpAny (model prog w) A (execs body env) (TurnQ h₀ L I o s (Inv (i + 1)) Q) NoE s₂) NoE s₁)
    (done : ∀ m₁ led₁ s₁, Same s s₁ → Inv n m₁ led₁ → Fr h₀ L s₁.heap m₁ → News h₀ L s₁.heap led₁ → Q .next s₁) :
    ForAt prog w A h₀ L env target body Q (.ref s.heap.objs.size) { s with heap := s.heap.push io0 } := by
  have tr : ∀ {s'}, Same { s with heap := s.heap.push io0 } s' → Same s s' := fun h => Same.trans (Same.mk (tk := s.toks)) h
  refine ⟨s.heap.objs.size, fp, n, P, St, io, src, m, led, Inv, rfl, W, hSt, st0, fresh_L F, fresh_I F, F.push _, news_push N _, fresh_led N, h0, hsrc, ?_, ?_, ?_⟩
  · intro i v s₁ Q' hP hst hq
    obtain ⟨x, p, rfl⟩ := hgo
    exact wpAny_pure hq
  · intro i v m₁ led₁ s₁ o hs hi hP hJ F₁ N₁ hl₁
    refine wpAny_mono (step _ i v m₁ led₁ s₁ o (tr hs) hi hP hJ F₁ N₁ hl₁) (fun _ s₂ h₂ => wpAny_mono h₂ (fun f s₃ h₃ => ?_) fun _ _ e => e) fun _ _ e => e
    have fin : TurnEnd h₀ L s.heap.objs.size o s (Inv (i + 1)) s₃ → TurnEnd h₀ L s.heap.objs.size o { s with heap := s.heap.push io0 } (Inv (i + 1)) s₃ := by
      rintro ⟨m₂, led₂, ⟨h', tk, rfl⟩, r1, r2, r3, r4⟩
      exact ⟨m₂, led₂, ⟨h', tk, rfl⟩, r1, r2, r3, r4⟩
    cases f with
    | next => exact fin h₃
    | cont => exact fin h₃
    | brk => exact h₃
    | ret v => exact h₃
  · intro m₁ led₁ s₁ hs hJ F₁ N₁
    exact done m₁ led₁ s₁ (tr hs) hJ F₁ N₁

theorem for_tuple {target : Expr} {body : List Stmt} {Q : Flow → Shared → Prop} {ax : Addr} {vs : List Value} (hh : A.handled = none)
    (hl : s.heap.IsTuple ax vs.toArray) (F : Fr h₀ L s.heap m) (N : News h₀ L s.heap led) (Inv : Nat → Map → Led → Prop) (h0 : Inv 0 m led)
    (hsrc : ∀ i m₁ led₁ h, Inv i m₁ led₁ → Fr h₀ L h m₁ → News h₀ L h led₁ → h.IsTuple ax vs.toArray) (hgo : ∃ x p, target = .Name x p)
    (step : ∀ I i v m₁ led₁ s₁ o, Same s s₁ → i < vs.length → vs[i]? = some v → Inv i m₁ led₁ → Fr h₀ L s₁.heap m₁ → News h₀ L s₁.heap ((I, o) :: led₁) → (∀ p ∈ led₁, p.1 ≠ I) →
      wpAny (model prog w) A (assign target env v) (fun _ s₂ => wpAny (model prog w) A (execs body env) (TurnQ h₀ L I o s (Inv (i + 1)) Q) NoE s₂) NoE s₁)
    (done : ∀ m₁ led₁ s₁, Same s s₁ → Inv vs.length m₁ led₁ → Fr h₀ L s₁.heap m₁ → News h₀ L s₁.heap led₁ → Q .next s₁) :
    wpAny (model prog w) A (pyIter (.ref ax)) (fun it s₂ => ForAt prog w A h₀ L env target body Q it s₂) NoE s := by
  have hlt : ax < s.heap.objs.size := by obtain ⟨_, e, _⟩ := hl; exact Heap.lt_size e
  have W := Walks.tuple (prog := prog) (w := w) hh s.heap.objs.size ax (Nat.ne_of_lt hlt) vs.toArray
  rw [List.size_toArray] at W
  exact wpAny_pyIter_tuple hl (for_src W (io := fun i o => o.cls = .type "tuple_iterator" ∧ o.data = .fields #[.ref ax, .int i 0]) (src := fun h => h.IsTuple ax vs.toArray) (fun i h => Iff.rfl)
    ⟨⟨_, Heap.get?_push_size _ rfl, rfl, rfl⟩, hl.push _⟩ F N Inv h0 hsrc hgo (fun I i v m₁ led₁ s₁ o hs hi hP => step I i v m₁ led₁ s₁ o hs hi (by simpa using hP)) done)

theorem rangeIter_iff {I : Addr} {x y c : Int} (h : Heap) : IsRangeIter h I x y c ↔ (∃ o, h.get? I = some o ∧ o = ({ cls := .type "range_iterator", dict := none, data := .fields #[rawInt x, rawInt y, rawInt c], slots := #[] } : Obj)) ∧ True :=
  ⟨fun e => ⟨⟨_, e, rfl⟩, trivial⟩, fun ⟨⟨_, e, q⟩, _⟩ => by subst q; exact e⟩

theorem for_range {target : Expr} {body : List Stmt} {Q : Flow → Shared → Prop} {r : Addr} {a b : Int} {t u v₀ : Tok} (n : Nat) (hh : A.handled = none)
    (hr : IsRange s.heap r a b 1 t u v₀) (ha : -(2 ^ 62) ≤ a) (ha' : a < 2 ^ 62) (hb : -(2 ^ 62) ≤ b) (hb' : b < 2 ^ 62) (hn : (b - a).toNat = n) (F : Fr h₀ L s.heap m) (N : News h₀ L s.heap led) (Inv : Nat → Map → Led → Prop) (h0 : Inv 0 m led)
    (hgo : ∃ x p, target = .Name x p)
    (step : ∀ I (i : Nat) m₁ led₁ s₁ o tk, Same s s₁ → i < n → Inv i m₁ led₁ → Fr h₀ L s₁.heap m₁ → News h₀ L s₁.heap ((I, o) :: led₁) → (∀ p ∈ led₁, p.1 ≠ I) →
      wpAny (model prog w) A (assign target env (.int (a + (i : Int)) tk)) (fun _ s₂ => wpAny (model prog w) A (execs body env) (TurnQ h₀ L I o s (Inv (i + 1)) Q) NoE s₂) NoE s₁)
    (done : ∀ m₁ led₁ s₁, Same s s₁ → Inv n m₁ led₁ → Fr h₀ L s₁.heap m₁ → News h₀ L s₁.heap led₁ → Q .next s₁) :
    wpAny (model prog w) A (pyIter (.ref r)) (fun it s₂ => ForAt prog w A h₀ L env target body Q it s₂) NoE s := by
  refine wpAny_pyIter_range hr (small_one ha ha' hb hb') ?_
  rw [rangeSize_nat, hn]
  refine for_src (walks_range (prog := prog) (w := w) hh a n) (io := fun i o => o = ({ cls := .type "range_iterator", dict := none, data := .fields #[rawInt (a + (i : Nat) * 1), rawInt ((n : Int) - (i : Nat)), rawInt 1], slots := #[] } : Obj)) (src := fun _ => True) (fun i h => rangeIter_iff h)
    ?_ F N Inv h0 (fun _ _ _ _ _ _ _ => trivial) hgo (fun I i v m₁ led₁ s₁ o hs hi hP => ?_) done
  · have e1 : a + ((0 : Nat) : Int) * 1 = a := by simp
    have e2 : (n : Int) - ((0 : Nat) : Int) = n := by simp
    rw [e1, e2]
    exact Heap.get?_push_size _ rfl
  · obtain ⟨tk, rfl⟩ := hP
    exact step I i m₁ led₁ s₁ o tk hs hi

theorem comp_src {scope : Scope} {cl : List (Str × Addr)} {x : Str} {ifs : List Expr} {elt : Expr} {K : Addr → List Value → Nat → Led → Shared → Prop} {io0 : Obj} {fp : List Addr} {n : Nat} {P : Nat → Value → Prop} {St : Nat → Heap → Prop} {io : Nat → Obj → Prop} {src : Heap → Prop}
    (W : Walks prog w A s.heap.objs.size fp [s.heap.objs.size] n P St) (hsz : n ≤ sizeLine) (hSt : ∀ i h, St i h ↔ (∃ o, h.get? s.heap.objs.size = some o ∧ io i o) ∧ src h) (st0 : St 0 (s.heap.push io0)) (hfp : ∀ b ∈ fp, b ≤ s.heap.objs.size)
    (F : Fr h₀ L s.heap m) (N : News h₀ L s.heap led) (Inv : Nat → List Value → Led → Prop) (h0 : Inv 0 [] led)
    (hsrc : ∀ i ys led₁ h, Inv i ys led₁ → Fr h₀ L h m → News h₀ L h led₁ → src h) (hlen : ∀ i ys led₁, Inv i ys led₁ → ys.length ≤ i)
    (step : ∀ I, CompStep prog w A h₀ L env scope cl x ifs elt I n P m Inv s)
    (done : ∀ D led₁ ys s₁ k, Same s s₁ → Inv n ys led₁ → News h₀ L s₁.heap ((D, listOf ys.toArray k) :: led₁) → K D ys k led₁ s₁) :
    CompAt prog w A h₀ L env scope cl x ifs elt m K (.ref s.heap.objs.size) { s with heap := s.heap.push io0 } := by
  have tr : ∀ {s'}, Same { s with heap := s.heap.push io0 } s' → Same s s' := fun h => Same.trans (Same.mk (tk := s.toks)) h
  refine ⟨s.heap.objs.size, fp, n, P, St, io, src, led, Inv, rfl, W, hsz, hSt, st0, fun b hb => by rw [Heap.size_push]; exact Nat.lt_succ_of_le (hfp b hb), fresh_L F, fresh_I F, F.push _, news_push N _, fresh_led N, h0, hsrc, hlen, ?_, ?_⟩
  · intro C D i v ys led₁ s₁ oI oC oD mC hs hi hP hJ F₁ N₁ hl₁ hn hx
    refine wpAny_mono (step _ C D i v ys led₁ s₁ oI oC oD mC (tr hs) hi hP hJ F₁ N₁ hl₁ hn hx) (fun ok s₂ h₂ => ?_) fun _ _ e => e
    have fin : ∀ ys' s₃, CEnd h₀ L m s.heap.objs.size C D oI oC oD s (Inv (i + 1) ys') s₃ → CEnd h₀ L m s.heap.objs.size C D oI oC oD { s with heap := s.heap.push io0 } (Inv (i + 1) ys') s₃ := by
      rintro ys' s₃ ⟨led₂, ⟨h', tk, rfl⟩, r1, r2, r3, r4⟩
      exact ⟨led₂, ⟨h', tk, rfl⟩, r1, r2, r3, r4⟩
    cases ok with
    | true => simp only [if_true] at h₂ ⊢; exact wpAny_mono h₂ (fun y s₃ h₃ => fin _ _ h₃) fun _ _ e => e
    | false => simp only [Bool.false_eq_true, if_false] at h₂ ⊢; exact fin _ _ h₂
  · intro D led₁ ys s₁ k hs hJ N₁
    exact done D led₁ ys s₁ k (tr hs) hJ N₁

theorem comp_list {scope : Scope} {cl : List (Str × Addr)} {x : Str} {ifs : List Expr} {elt : Expr} {K : Map → Addr → List Value → Nat → Led → Shared → Prop} {ax : Addr} {vs : List Value} (hh : A.handled = none)
    (hl : s.heap.IsList ax vs.toArray) (hsz : vs.length ≤ sizeLine) (F : Fr h₀ L s.heap m) (N : News h₀ L s.heap led) (Inv : Nat → List Value → Led → Prop) (h0 : Inv 0 [] led)
    (hsrc : ∀ i ys led₁ h, Inv i ys led₁ → Fr h₀ L h m → News h₀ L h led₁ → h.IsList ax vs.toArray) (hlen : ∀ i ys led₁, Inv i ys led₁ → ys.length ≤ i)
    (step : ∀ I, CompStep prog w A h₀ L env scope cl x ifs elt I vs.length (fun i v => vs[i]? = some v) m Inv s)
    (done : ∀ D led₁ ys s₁ k, Same s s₁ → Inv vs.length ys led₁ → News h₀ L s₁.heap ((D, listOf ys.toArray k) :: led₁) → K m D ys k led₁ s₁) :
    wpAny (model prog w) A (pyIter (.ref ax)) (fun it s₂ => ∃ m, CompAt prog w A h₀ L env scope cl x ifs elt m (K m) it s₂) NoE s := by
  have hlt : ax < s.heap.objs.size := by obtain ⟨_, e, _⟩ := hl; exact Heap.lt_size e
  have W := Walks.list (prog := prog) (w := w) hh s.heap.objs.size ax (Nat.ne_of_lt hlt) vs.toArray
  simp only [List.size_toArray, List.getElem?_toArray] at W
  exact wpAny_pyIter_list hl ⟨m, comp_src W hsz (io := fun i o => o.cls = .type "list_iterator" ∧ o.data = .fields #[.ref ax, .int i 0]) (src := fun h => h.IsList ax vs.toArray) (fun i h => Iff.rfl)
    ⟨⟨_, Heap.get?_push_size _ rfl, rfl, rfl⟩, hl.push _⟩ (fun b hb => by rcases List.mem_cons.mp hb with rfl | hb; exact Nat.le_refl _; rw [List.mem_singleton.mp hb]; exact Nat.le_of_lt hlt) F N Inv h0 hsrc hlen step done⟩

theorem comp_tuple {scope : Scope} {cl : List (Str × Addr)} {x : Str} {ifs : List Expr} {elt : Expr} {K : Map → Addr → List Value → Nat → Led → Shared → Prop} {ax : Addr} {vs : List Value} (hh : A.handled = none)
    (hl : s.heap.IsTuple ax vs.toArray) (hsz : vs.length ≤ sizeLine) (F : Fr h₀ L s.heap m) (N : News h₀ L s.heap led) (Inv : Nat → List Value → Led → Prop) (h0 : Inv 0 [] led)
    (hsrc : ∀ i ys led₁ h, Inv i ys led₁ → Fr h₀ L h m → News h₀ L h led₁ → h.IsTuple ax vs.toArray) (hlen : ∀ i ys led₁, Inv i ys led₁ → ys.length ≤ i)
    (step : ∀ I, CompStep prog w A h₀ L env scope cl x ifs elt I vs.length (fun i v => vs[i]? = some v) m Inv s)
    (done : ∀ D led₁ ys s₁ k, Same s s₁ → Inv vs.length ys led₁ → News h₀ L s₁.heap ((D, listOf ys.toArray k) :: led₁) → K m D ys k led₁ s₁) :
    wpAny (model prog w) A (pyIter (.ref ax)) (fun it s₂ => ∃ m, CompAt prog w A h₀ L env scope cl x ifs elt m (K m) it s₂) NoE s := by
  have hlt : ax < s.heap.objs.size := by obtain ⟨_, e, _⟩ := hl; exact Heap.lt_size e
  have W := Walks.tuple (prog := prog) (w := w) hh s.heap.objs.size ax (Nat.ne_of_lt hlt) vs.toArray
  simp only [List.size_toArray, List.getElem?_toArray] at W
  exact wpAny_pyIter_tuple hl ⟨m, comp_src W hsz (io := fun i o => o.cls = .type "tuple_iterator" ∧ o.data = .fields #[.ref ax, .int i 0]) (src := fun h => h.IsTuple ax vs.toArray) (fun i h => Iff.rfl)
    ⟨⟨_, Heap.get?_push_size _ rfl, rfl, rfl⟩, hl.push _⟩ (fun b hb => by rcases List.mem_cons.mp hb with rfl | hb; exact Nat.le_refl _; rw [List.mem_singleton.mp hb]; exact Nat.le_of_lt hlt) F N Inv h0 hsrc hlen step done⟩

theorem comp_range {scope : Scope} {cl : List (Str × Addr)} {x : Str} {ifs : List Expr} {elt : Expr} {K : Map → Addr → List Value → Nat → Led → Shared → Prop} {r : Addr} {a b : Int} {t u v₀ : Tok} (n : Nat) (hh : A.handled = none)
    (hr : IsRange s.heap r a b 1 t u v₀) (ha : -(2 ^ 62) ≤ a) (ha' : a < 2 ^ 62) (hb : -(2 ^ 62) ≤ b) (hb' : b < 2 ^ 62) (hn : (b - a).toNat = n) (hsz : n ≤ sizeLine) (F : Fr h₀ L s.heap m) (N : News h₀ L s.heap led) (Inv : Nat → List Value → Led → Prop) (h0 : Inv 0 [] led)
    (hlen : ∀ i ys led₁, Inv i ys led₁ → ys.length ≤ i)
    (step : ∀ I, CompStep prog w A h₀ L env scope cl x ifs elt I n (fun i v => ∃ t, v = .int (a + (i : Int)) t) m Inv s)
    (done : ∀ D led₁ ys s₁ k, Same s s₁ → Inv n ys led₁ → News h₀ L s₁.heap ((D, listOf ys.toArray k) :: led₁) → K m D ys k led₁ s₁) :
    wpAny (model prog w) A (pyIter (.ref r)) (fun it s₂ => ∃ m, CompAt prog w A h₀ L env scope cl x ifs elt m (K m) it s₂) NoE s := by
  refine wpAny_pyIter_range hr (small_one ha ha' hb hb') ?_
  rw [rangeSize_nat, hn]
  refine ⟨m, comp_src (walks_range (prog := prog) (w := w) hh a n) hsz (io := fun i o => o = ({ cls := .type "range_iterator", dict := none, data := .fields #[rawInt (a + (i : Nat) * 1), rawInt ((n : Int) - (i : Nat)), rawInt 1], slots := #[] } : Obj)) (src := fun _ => True) (fun i h => rangeIter_iff h)
    ?_ (fun b hb => by rw [List.mem_singleton.mp hb]; exact Nat.le_refl _) F N Inv h0 (fun _ _ _ _ _ _ _ => trivial) hlen step done⟩
  have e1 : a + ((0 : Nat) : Int) * 1 = a := by simp
  have e2 : (n : Int) - ((0 : Nat) : Int) = n := by simp
  rw [e1, e2]
  exact Heap.get?_push_size _ rfl
end
theorem News.after {h₀ h h' : Heap} {L : Addr} {news foot : Led} (N : News h₀ L h news) (hs : ∀ p ∈ foot, p ∈ news) (N' : News h₀ L h' foot) (c : Chg (foot.map (·.1)) h h') : News h₀ L h' news := by
  intro p hp
  by_cases hm : p.1 ∈ foot.map (·.1)
  · obtain ⟨q, hq, e⟩ := List.mem_map.mp hm
    have h1 := (N p hp).1
    have h2 := (N q (hs q hq)).1
    rw [e, h1] at h2
    have : p = q := Prod.ext e.symm (Option.some.inj h2)
    rw [this]; exact ⟨(N' q hq).1, (N' q hq).2⟩
  · exact ⟨c _ _ (N p hp).1 hm, (N p hp).2⟩
theorem News.after2 {h₀ h h' : Heap} {L : Addr} {news foot foot' news' : Led} (N : News h₀ L h news) (N' : News h₀ L h' foot') (c : Chg (foot.map (·.1)) h h') (hs : ∀ p ∈ news', p ∈ foot' ∨ (p ∈ news ∧ p.1 ∉ foot.map (·.1))) : News h₀ L h' news' := by
  intro p hp
  rcases hs p hp with h1 | ⟨h1, h2⟩
  · exact N' p h1
  · exact ⟨c _ _ (N p h1).1 h2, (N p h1).2⟩

/-- the class of a glyph, as the law's gdef has it -/
def clsOf (g : Int) : Int := if g = 1 ∨ g = 2 then 1 else if g = 3 ∨ g = 4 then 3 else 0

structure Gd where
  gdf : Addr
  gdd : Addr
  cdf : Addr
  cdd : Addr
  mp : Addr
  att : Addr
  sets : Addr
  pts : Addr
  crt : Addr
  om : Obj
  ng : Nat
  nc : Nat
  t : Nat → Tok
def Gd.es (P : Params) (g : Gd) : List DictEntry := [
  ⟨PyData.keyHash P (Str.ofString "classes"), .str (Str.ofString "classes") (g.t 0), .ref g.cdf⟩,
  ⟨PyData.keyHash P (Str.ofString "attach"), .str (Str.ofString "attach") (g.t 1), .ref g.att⟩,
  ⟨PyData.keyHash P (Str.ofString "sets"), .str (Str.ofString "sets") (g.t 2), .ref g.sets⟩,
  ⟨PyData.keyHash P (Str.ofString "points"), .str (Str.ofString "points") (g.t 3), .ref g.pts⟩,
  ⟨PyData.keyHash P (Str.ofString "carets"), .str (Str.ofString "carets") (g.t 4), .ref g.crt⟩]
def Gd.cs (P : Params) (g : Gd) : List DictEntry := [
  ⟨PyData.keyHash P (Str.ofString "classes"), .str (Str.ofString "classes") (g.t 5), .ref g.mp⟩]
abbrev Gd.cled (P : Params) (g : Gd) : Led := [(g.cdf, instObj 571 g.cdd), (g.cdd, dictOf (g.cs P) g.nc), (g.mp, g.om)]
abbrev Gd.led (P : Params) (g : Gd) : Led := (g.gdf, instObj 619 g.gdd) :: (g.gdd, dictOf (g.es P) g.ng) :: g.cled P
abbrev clsData : List (PyData × PyData) := [(.int 1, .int 1), (.int 2, .int 1), (.int 3, .int 3), (.int 4, .int 3)]
def Gd.ok (prog : Program) (w : World) (g : Gd) : Prop := (g.mp == sysModules) = false ∧ ∃ kvs, g.om.IsDictOf (intKind prog w) kvs ∧ PyProof.V.FlatPairs PyData.int kvs clsData

theorem cls_lookup (g : Int) : (PySem.Spec.lookup (.int g) clsData).getD (.int 0) = .int (clsOf g) := by
  unfold clsOf
  by_cases h1 : g = 1; · subst h1; rfl
  by_cases h2 : g = 2; · subst h2; rfl
  by_cases h3 : g = 3; · subst h3; rfl
  by_cases h4 : g = 4; · subst h4; rfl
  have e : ∀ k : Int, g ≠ k → PySem.Spec.same (.int k) (.int g) = false := fun k hk => by simp [PySem.Spec.same]; exact fun q => hk q.symm
  simp [PySem.Spec.lookup, clsData, e 1 h1, e 2 h2, e 3 h3, e 4 h4, h1, h2, h3, h4]
inductive OutRO (g : Heap) (L : Addr) (foot : Led) (V : Value → Prop) (s : Shared) (v : Value) (s' : Shared) : Prop
  | mk (m : Str → Option Value) (F : Fr g L s'.heap m) (N : News g L s'.heap foot) (hs : Same s s') (h : V v)
inductive OutM (g : Heap) (L : Addr) (R : Value → Led → Prop) (s : Shared) (v : Value) (s' : Shared) : Prop
  | mk (m : Str → Option Value) (led' : Led) (F : Fr g L s'.heap m) (N : News g L s'.heap led') (hs : Same s s') (h : R v led')
def OutQ (g : Heap) (L : Addr) (R : Value → Led → Prop) (s : Shared) (fl : Flow) (s' : Shared) : Prop := OutM g L R s (match fl with | .ret v => v | _ => .none) s'
def OutRQ (g : Heap) (L : Addr) (foot : Led) (V : Value → Prop) (s : Shared) (fl : Flow) (s' : Shared) : Prop := OutRO g L foot V s (match fl with | .ret v => v | _ => .none) s'
section
variable {prog : Program} {w : World} {A : Around} {E : Value → Shared → Prop} {s : Shared} {h₀ : Heap} {L : Addr} {m : Str → Option Value} {env : Env} {news foot : Led} {n : Nat}

theorem call_mut {Q : Value → Shared → Prop} {name qual : Str} {params : Arguments} {body : List Stmt} {scope : Scope} {dV kV doc pm cdv ct oc : Value} {an od : Option Addr} {osl : Array (Option Value)} {f : Addr} {args : List Value} {kw : List (Str × Value)} (binds : List (Str × Value))
    (R : Value → Led → Prop) (Z : At w A env L h₀ (n + 1)) (F : Fr h₀ L s.heap m) (N : News h₀ L s.heap foot)
    (ho : (hd.heap_1 w.params).lookup f = some ⟨oc, od, .func (fnOf name qual params body scope dV kV doc pm an cdv ct), osl⟩) (hcd : codeIn (hd.heap_1 w.params) cdv qual = true)
    (hbind : BindsTo s (fnOf name qual params body scope dV kV doc pm an cdv ct) ⟨args, kw⟩ binds) (hloc : ∀ y ∈ binds, scope.names.lookup y.1 = some .local)
    (h : ∀ g L' h₁ tk sg sd so dp fr gs un A₀ base p loose mean mg mb, Below A₀ base fr g → Top p loose mean mg mb g → (hd.heap_1 w.params).In g → At w ⟨none, dp, some (envOf qual scope L' f cdv :: fr), gs, un⟩ (envOf qual scope L' f cdv) L' g n →
      Around.units ⟨none, dp, some (envOf qual scope L' f cdv :: fr), gs, un⟩ ≤ 9000 → Fr g L' h₁ (fun y => binds.reverse.lookup y) → News g L' h₁ foot → (∀ p ∈ foot, p.1 < L') →
      wpAny (model prog w) ⟨none, dp, some (envOf qual scope L' f cdv :: fr), gs, un⟩ (execs body (envOf qual scope L' f cdv))
        (OutQ g L' R ⟨h₁, sg, sd, tk, so⟩) (fun _ _ => False)
        ⟨h₁, sg, sd, tk, so⟩)
    (hco : scope.isCoroutine = false) (hgen : scope.isGenerator = false) (hk : scope.kind = .function)
    (hcell : ∀ x ∈ scope.names, x.2 ≠ .cell)
    (hQ : ∀ v h' tk led', Fr h₀ L h' m → News h₀ L h' led' → Chg (foot.map (·.1)) s.heap h' → R v led' → Q v { s with heap := h', toks := tk }) :
    wpAny (model prog w) A (call (.ref f) args kw) Q E s := by
  refine call_own (binds := binds) (fun v s' led' => Same s s' ∧ R v led') Z F N ho hcd hbind hloc (fun g L' h₁ tk dp fr gs un A₀ base p loose mean mg mb B T X Z' hU F' N' hl => ?_) hco hgen hk hcell ?_
  · refine wpAny_mono (h g L' h₁ tk s.gens s.drawn s.os dp fr gs un A₀ base p loose mean mg mb B T X Z' hU F' N' hl) (fun fl s' hf => ?_) fun _ _ e => e
    obtain ⟨m', led', F'', N'', hs, hR⟩ := hf
    exact ⟨m', led', F'', N'', Same.trans Same.mk hs, hR⟩
  · rintro v s' led' F'' N'' c ⟨⟨h', tk, rfl⟩, hR⟩
    exact hQ v h' tk led' F'' N'' c hR

theorem call_ro {Q : Value → Shared → Prop} {name qual : Str} {params : Arguments} {body : List Stmt} {scope : Scope} {dV kV doc pm cdv ct oc : Value} {an od : Option Addr} {osl : Array (Option Value)} {f : Addr} {args : List Value} {kw : List (Str × Value)} (binds : List (Str × Value))
    (foot : Led) (V : Value → Prop) (Z : At w A env L h₀ (n + 1)) (F : Fr h₀ L s.heap m) (N : News h₀ L s.heap news) (hs : ∀ p ∈ foot, p ∈ news)
    (ho : (hd.heap_1 w.params).lookup f = some ⟨oc, od, .func (fnOf name qual params body scope dV kV doc pm an cdv ct), osl⟩) (hcd : codeIn (hd.heap_1 w.params) cdv qual = true)
    (hbind : BindsTo s (fnOf name qual params body scope dV kV doc pm an cdv ct) ⟨args, kw⟩ binds) (hloc : ∀ y ∈ binds, scope.names.lookup y.1 = some .local)
    (h : ∀ g L' h₁ tk sg sd so dp fr gs un A₀ base p loose mean mg mb, Below A₀ base fr g → Top p loose mean mg mb g → (hd.heap_1 w.params).In g → At w ⟨none, dp, some (envOf qual scope L' f cdv :: fr), gs, un⟩ (envOf qual scope L' f cdv) L' g n →
      Around.units ⟨none, dp, some (envOf qual scope L' f cdv :: fr), gs, un⟩ ≤ 9000 → Fr g L' h₁ (fun y => binds.reverse.lookup y) → News g L' h₁ foot → (∀ p ∈ foot, p.1 < L') →
      wpAny (model prog w) ⟨none, dp, some (envOf qual scope L' f cdv :: fr), gs, un⟩ (execs body (envOf qual scope L' f cdv))
        (OutRQ g L' foot V ⟨h₁, sg, sd, tk, so⟩) (fun _ _ => False)
        ⟨h₁, sg, sd, tk, so⟩)
    (hco : scope.isCoroutine = false) (hgen : scope.isGenerator = false) (hk : scope.kind = .function)
    (hcell : ∀ x ∈ scope.names, x.2 ≠ .cell)
    (hQ : ∀ v h' tk, Fr h₀ L h' m → News h₀ L h' news → V v → Q v { s with heap := h', toks := tk }) :
    wpAny (model prog w) A (call (.ref f) args kw) Q E s := by
  refine call_mut binds (fun v led' => V v ∧ led' = foot) Z F (News.sub N hs) ho hcd hbind hloc (fun g L' h₁ tk sg sd so dp fr gs un A₀ base p loose mean mg mb B T X Z' hU F' N' hl => ?_) hco hgen hk hcell ?_
  · refine wpAny_mono (h g L' h₁ tk sg sd so dp fr gs un A₀ base p loose mean mg mb B T X Z' hU F' N' hl) (fun fl s' hf => ?_) fun _ _ e => e
    obtain ⟨m', F'', N'', hs, hV⟩ := hf
    exact ⟨m', foot, F'', N'', hs, hV, rfl⟩
  · rintro v h' tk led' F'' N'' c ⟨hV, rfl⟩
    exact hQ v h' tk F'' (News.after N hs N'' c) hV
end
section
variable {prog : Program} {w : World} {A : Around} {E : Value → Shared → Prop} {s : Shared} {h₀ : Heap} {L : Addr} {m : Str → Option Value} {env : Env} {news foot : Led} {n : Nat}

/-- as call_mut, for a def whose frame has cells -/
theorem call_mutL {Q : Value → Shared → Prop} {name qual : Str} {params : Arguments} {body : List Stmt} {scope : Scope} {dV kV doc pm cdv ct oc : Value} {an od : Option Addr} {osl : Array (Option Value)} {f : Addr} {args : List Value} {kw : List (Str × Value)} (binds : List (Str × Value))
    (R : Value → Led → Prop) (Z : At w A env L h₀ (n + 1)) (F : Fr h₀ L s.heap m) (N : News h₀ L s.heap foot)
    (ho : (hd.heap_1 w.params).lookup f = some ⟨oc, od, .func (fnOf name qual params body scope dV kV doc pm an cdv ct), osl⟩) (hcd : codeIn (hd.heap_1 w.params) cdv qual = true)
    (hbind : BindsTo s (fnOf name qual params body scope dV kV doc pm an cdv ct) ⟨args, kw⟩ binds) (hkind : (binds.all fun y => scope.names.lookup y.1 == some .local || scope.names.lookup y.1 == some .cell) = true)
    (hnd : ((cellsFrom 0 scope.names []).map (·.1)).Nodup)
    (h : ∀ g L' h₁ tk sg sd so cells dp fr gs un A₀ base p loose mean mg mb, s.heap.objs.size = L' → (∀ b o, h₀.get? b = some o → g.get? b = some o) → Below A₀ base fr g → Top p loose mean mg mb g → (hd.heap_1 w.params).In g → At w ⟨none, dp, some (envOfC qual scope L' f cdv :: fr), gs, un⟩ (envOfC qual scope L' f cdv) L' g n →
      Around.units ⟨none, dp, some (envOfC qual scope L' f cdv :: fr), gs, un⟩ ≤ 9000 → Fr g L' h₁ (bindL (envOfC qual scope L' f cdv).kindOf binds fun _ => none) → News g L' h₁ (cells ++ foot) →
      CellsAre (bindC (envOfC qual scope L' f cdv).kindOf binds fun _ => none) (cellsFrom (L' + 1) scope.names []) cells → (∀ p ∈ foot, p.1 < L') →
      wpAny (model prog w) ⟨none, dp, some (envOfC qual scope L' f cdv :: fr), gs, un⟩ (execs body (envOfC qual scope L' f cdv))
        (OutQ g L' R ⟨h₁, sg, sd, tk, so⟩) (fun _ _ => False)
        ⟨h₁, sg, sd, tk, so⟩)
    (hco : scope.isCoroutine = false) (hgen : scope.isGenerator = false) (hk : scope.kind = .function)
    (hQ : ∀ v h' tk led', Fr h₀ L h' m → News h₀ L h' led' → Chg (foot.map (·.1)) s.heap h' → R v led' → Q v { s with heap := h', toks := tk }) :
    wpAny (model prog w) A (call (.ref f) args kw) Q E s := by
  obtain ⟨A₀, base, outer, p, loose, mean, mg, mb, B, T, hA⟩ := Z.ex
  have hroom : A.depth < recursionLimit := by have := Z.room; omega
  have X₀ := Z.X
  refine wpAny_call ?_
  obtain ⟨g, hg, FG, BG, st, lv⟩ := groundK B F N hA Z.hf Z.hk
  have X₁ := X₀.keeps st
  refine codeAny_call_function hroom ((X₀.keeps F.keep) _ _ ho) rfl hco hgen rfl (codeRec_of (X₀.keeps F.keep) hcd) (hbind _ _ _ _ ?_)
  refine wpAny_newFunctionEnv_cells hk (kindsX hkind _) fun env' he s' x => ?_
  subst he
  refine ⟨(T.nolimit.keeps F.keep).keeps x.toInCall.keep, codeAny_func ?_⟩
  obtain ⟨h₁, tk, rfl, _⟩ := x.done
  have hk₁ := x.toInCall.keep
  obtain ⟨cells, NC, Y⟩ := Cl.news (h₀ := s.heap) (Nat.le_refl _) fun n c hm => ⟨x.cell n c (lookup_of_mem_nodup (cellsFrom_names scope.names 0 (s.heap.objs.size + 1) [] [] rfl ▸ hnd) hm), x.above n c hm⟩
  have F₁ : Fr g s.heap.objs.size h₁ (bindL (envOfC qual scope s.heap.objs.size f cdv).kindOf binds fun _ => none) := ⟨x.toInCall.ns, fun b o e => hk₁ b o (of_hideAll _ (hg ▸ e)), Nat.le_of_eq (hg ▸ hideAll_size _ _)⟩
  have N₁ : News g s.heap.objs.size h₁ (cells ++ foot) := fun p hp => by
    rcases List.mem_append.mp hp with hp | hp
    · refine ⟨(NC p hp).1, (NC p hp).2.1, ?_⟩
      cases q : g.get? p.1 with
      | none => rfl
      | some o => have := of_hideAll _ (hg ▸ q); rw [(NC p hp).2.2] at this; cases this
    · exact ⟨hk₁ _ _ (N p hp).1, Nat.ne_of_lt (Heap.lt_size (N p hp).1), hg ▸ hideAll_none _ (List.mem_map_of_mem hp)⟩
  obtain ⟨ah, ad, af, ag, au⟩ := A
  obtain rfl : ah = none := Z.hh
  obtain rfl : af = some (env :: outer) := hA
  have hroom' : ad + 1 + n < recursionLimit := by have := Z.room; dsimp only at this; omega
  have hunits' : au + 3 + 4 * n ≤ 9000 := by have := Z.units; dsimp only at this; omega
  refine wpAny_mono (h g s.heap.objs.size h₁ tk s.gens s.drawn s.os cells (ad + 1) (env :: outer) ag (au + 3) _ base _ _ _ _ _ rfl st BG (T.keeps st) X₁ ⟨⟨_, _, _, _, _, _, _, _, BG, T.keeps st, rfl⟩, X₁, rfl, hk, rfl, hroom', hunits'⟩ (by show au + 3 ≤ 9000; omega) F₁ N₁ Y (fun p hp => Heap.lt_size (N p hp).1)) (fun fl s' hl => ?_) (fun _ _ e => e.elim)
  obtain ⟨m', led', F', N', ⟨h', tk', rfl⟩, hR⟩ := hl
  exact lv (fun r s' => match r with | .ok (.ret v) => Q v s' | .ok _ => False | .error e => E e s') _ _ ⟨_, m', led', F', N', fun Fz Nz => hQ _ h' tk' led' Fz Nz (fun b o e hb => F'.keep b o (hg ▸ hideAll_get _ e hb)) hR⟩

/-- as call_mut, for a def whose frame has cells -/
theorem call_mutC {Q : Value → Shared → Prop} {name qual : Str} {params : Arguments} {body : List Stmt} {scope : Scope} {dV kV doc pm cdv ct oc : Value} {an od : Option Addr} {osl : Array (Option Value)} {f : Addr} {args : List Value} {kw : List (Str × Value)} (binds : List (Str × Value))
    (R : Value → Led → Prop) (Z : At w A env L h₀ (n + 1)) (F : Fr h₀ L s.heap m) (N : News h₀ L s.heap foot)
    (ho : (hd.heap_1 w.params).lookup f = some ⟨oc, od, .func (fnOf name qual params body scope dV kV doc pm an cdv ct), osl⟩) (hcd : codeIn (hd.heap_1 w.params) cdv qual = true)
    (hbind : BindsTo s (fnOf name qual params body scope dV kV doc pm an cdv ct) ⟨args, kw⟩ binds) (hkind : (binds.all fun y => scope.names.lookup y.1 == some .local || scope.names.lookup y.1 == some .cell) = true)
    (hnd : ((cellsFrom 0 scope.names []).map (·.1)).Nodup)
    (h : ∀ g L' h₁ tk sg sd so cells dp fr gs un A₀ base p loose mean mg mb, Below A₀ base fr g → Top p loose mean mg mb g → (hd.heap_1 w.params).In g → At w ⟨none, dp, some (envOfC qual scope L' f cdv :: fr), gs, un⟩ (envOfC qual scope L' f cdv) L' g n →
      Around.units ⟨none, dp, some (envOfC qual scope L' f cdv :: fr), gs, un⟩ ≤ 9000 → Fr g L' h₁ (bindL (envOfC qual scope L' f cdv).kindOf binds fun _ => none) → News g L' h₁ (cells ++ foot) →
      CellsAre (bindC (envOfC qual scope L' f cdv).kindOf binds fun _ => none) (cellsFrom (L' + 1) scope.names []) cells → (∀ p ∈ foot, p.1 < L') →
      wpAny (model prog w) ⟨none, dp, some (envOfC qual scope L' f cdv :: fr), gs, un⟩ (execs body (envOfC qual scope L' f cdv))
        (OutQ g L' R ⟨h₁, sg, sd, tk, so⟩) (fun _ _ => False)
        ⟨h₁, sg, sd, tk, so⟩)
    (hco : scope.isCoroutine = false) (hgen : scope.isGenerator = false) (hk : scope.kind = .function)
    (hQ : ∀ v h' tk led', Fr h₀ L h' m → News h₀ L h' led' → Chg (foot.map (·.1)) s.heap h' → R v led' → Q v { s with heap := h', toks := tk }) :
    wpAny (model prog w) A (call (.ref f) args kw) Q E s :=
  call_mutL binds R Z F N ho hcd hbind hkind hnd (fun g L' h₁ tk sg sd so cells dp fr gs un A₀ base p loose mean mg mb _ _ => h g L' h₁ tk sg sd so cells dp fr gs un A₀ base p loose mean mg mb) hco hgen hk hQ
end
theorem dl_entry : entryFor table "dict.update.loop" = some Builtin.«dict.update.loop» := entryFor_of_tree (by kernel_rfl)
theorem dl_plain : plainId "dict.update.loop" = true := by decide +kernel
theorem dl_miss : typeLookup (.type "list") (Str.ofString "keys") = pure none := am_miss_of_fast (by kernel_rfl)
section
variable {prog : Program} {w : World} {A : Around} {E : Value → Shared → Prop} {s : Shared}
theorem no_keys {a : Addr} {xs : Array Value} {k : Nat} {Q : Option Value → Shared → Prop} (hx : s.heap.get? a = some (listOf xs k)) (hA : A.handled = none)
    (h : ∀ h' tk, (∀ b ob, s.heap.get? b = some ob → h'.get? b = some ob) → Q none { s with heap := h', toks := tk }) :
    wpAny (model prog w) A (getAttr? (.ref a) (Str.ofString "keys")) Q E s := by
  obtain ⟨hp, g, d, tk, os⟩ := s
  have hT : ∀ tk', (⟨hp, g, d, tk', os⟩ : Shared).TypeIs (.ref a) "list" := fun _ => ⟨_, hx, rfl⟩
  have f1 := sub_AttributeError
  have f3 := F.slot_list_getattribute.lookup
  have f4 := F.slot_list_getattribute.bind (.ref a)
  have f5 := am_list_getattr_none
  have hmiss := dl_miss
  unfold getAttr? getAttrBy? getAttrBy
  repeat (any_goals (first | assumption | exact hT _ | ((with_reducible show wpAny _ _ (call (Value.builtin "list.__getattribute__") _ _) _ _ _); refine call_meets F.slot_list_getattribute (hT _) am_entry_list_getattribute (F.args_list_getattribute_2 _ _) (meets_getattribute_miss_list a xs k #[] _ _ hmiss (by decide) (by size_fits)) ⟨hx, hA, fun h' tk' e hx' => ?_⟩) | wp_step))
  obtain ⟨t', u', he⟩ := hx'.there
  have hk := hx'.keeps
  show wpAny _ _ (getattributeRaised _ _ _ _ _ _ _) _ _ _
  unfold getattributeRaised
  repeat (any_goals (first | assumption | wp_step))
  exact h _ _ hk
end
section
variable {prog : Program} {w : World} {A : Around} {E : Value → Shared → Prop} {s : Shared}
theorem dictOf_at {h h' : Heap} {a : Addr} {kvs : List (Int × Value)} (x : h.DictOf (intKind prog w) a kvs) (e : ∀ o, h.get? a = some o → h'.get? a = some o) : h'.DictOf (intKind prog w) a kvs := let ⟨o, es, ep, ho, r⟩ := x; ⟨o, es, ep, e _ ho, r⟩
theorem dict_loop {d I ax : Addr} {vs : List Value} {kvs : List (Int × Value)} {R : Result → Shared → Prop} {b0 : Heap} (hh : A.handled = none) (hai : ax ≠ I) (hdI : d ≠ I) (hda : d ≠ ax) (hlen : kvs.length = vs.length) (hsz : vs.length ≤ 1000) (hn : (kvs.map (·.1)).Nodup)
    (hp : ∀ (i : Nat) (v : Value), vs[i]? = some v → ∃ (T : Addr) (k : Int) (t : Tok) (x : Value) (o : Obj) (nn : Nat), v = .ref T ∧ T ≠ d ∧ T ≠ I ∧ kvs[i]? = some (k, x) ∧ b0.get? T = some o ∧ o.cls = .type "tuple" ∧ o.data = .seq #[.int k t, x] nn) :
    ∀ (j i : Nat) (s : Shared), vs.length - i = j → i ≤ vs.length → s.heap.IsListIter I ax i → s.heap.IsList ax vs.toArray → s.heap.DictOf (intKind prog w) d (kvs.take i) → (∀ b o, b ≠ d → b ≠ I → b0.get? b = some o → s.heap.get? b = some o) →
    (∀ h' tk, h'.DictOf (intKind prog w) d kvs → (∀ b o, b ≠ d → b ≠ I → b0.get? b = some o → h'.get? b = some o) → R (.ok (.ret .none)) { s with heap := h', toks := tk }) →
    codeAny (model prog w) A (.builtin "dict.update.loop" ⟨[.ref d, .ref I, rawInt (i : Int), .none], []⟩) R s := by
  have W := Walks.list (prog := prog) (w := w) (A := A.in1) (by exact hh) I ax hai vs.toArray
  rw [List.size_toArray] at W
  have hbig : (1000 : Nat) + 1000 ≤ sizeLine := by decide
  intro j
  induction j with
  | zero =>
    intro i s hk hi h1 h2 hd hb hR
    have hin : i = vs.length := by omega
    subst hin
    refine codeAny_builtin dl_entry ?_
    rw [Around.under_plainId dl_plain _]
    show wpAny _ A.in1 (pyNext (.ref I) >>= _) _ _ s
    refine wpAny_bind (W.done s _ _ ⟨h1, h2⟩ fun h' tk hm => ?_)
    dsimp only
    show wpAny _ _ (Builtin.Dict.addKeywords d [] >>= _) _ _ _
    refine wpAny_bind (wpAny_pure (wpAny_pure (hR h' tk ?_ ?_)))
    · rw [← hlen, List.take_length] at hd
      exact dictOf_at hd fun o e => hm d o (by simpa using hdI) e
    · intro b o hbd hbI e
      exact hm b o (by simpa using hbI) (hb b o hbd hbI e)
  | succ j ih =>
    intro i s hk hi h1 h2 hd hb hR
    have hlt : i < vs.length := by omega
    refine codeAny_builtin dl_entry ?_
    rw [Around.under_plainId dl_plain _]
    show wpAny _ A.in1 (pyNext (.ref I) >>= _) _ _ s
    refine wpAny_bind (W.item i s _ _ hlt ⟨h1, h2⟩ fun v h' tk hP hst' hm => ?_)
    obtain ⟨T, k, t, x, o, nn, rfl, hTd, hTI, hkv, hoT, hcT, hdT⟩ := hp i v (by simpa using hP)
    have hoT' := hm T o (by simpa using hTI) (hb T o hTd hTI hoT)
    have hd' : h'.DictOf (intKind prog w) d (kvs.take i) := dictOf_at hd fun o e => hm d o (by simpa using hdI) e
    have hT : ∀ tk', (⟨h', s.gens, s.drawn, tk', s.os⟩ : Shared).TypeIs (.ref T) "tuple" := fun _ => ⟨_, hoT', hcT⟩
    dsimp only
    refine wpAny_bind (wpAny_holding ?_)
    refine wpAny_bind (wpAny_tryCatch ?_)
    unfold Builtin.Dict.pairItems
    refine wpAny_bind (wpAny_typeOf (hT _) ?_)
    rw [if_pos (by decide)]
    refine wpAny_bind (wpAny_seqItems hoT' hdT (wpAny_pure ?_))
    dsimp only [Option.getD_some]
    refine wpAny_holding ?_
    have hst : stored (kvs.take i) k x = kvs.take (i + 1) := by
      rw [List.take_add_one, hkv]
      unfold stored
      rw [if_neg]
      · rfl
      · rw [List.any_eq_true]
        rintro ⟨y, hy, he⟩
        obtain ⟨jj, hjl, hjj⟩ := List.mem_take_iff_getElem.mp hy
        have he' : y.1 = k := of_decide_eq_true he
        have hjl' : jj < i := by omega
        have e1 : (kvs.map (·.1))[jj]? = some k := by rw [List.getElem?_map, List.getElem?_eq_getElem (by omega), hjj]; simp [he']
        have e2 : (kvs.map (·.1))[i]? = some k := by rw [List.getElem?_map, hkv]; rfl
        have := (List.getElem?_inj (by simp; omega) hn).mp (e1.trans e2.symm)
        omega
    refine wpAny_dictSet_pairs (knd := intKind prog w) (hsz := by have := List.length_take_le i kvs; omega) (intKind_is _ _ _ _) hd' fun h2 hd2 hs2 => ?_
    rw [hst] at hd2
    have kp : ∀ b o, b ≠ d → h'.get? b = some o → h2.get? b = some o := fun b o hb e => hs2.extBut b o hb e
    refine wpAny_pure ⟨plainId_quiet dl_plain _, ?_⟩
    have := ih (i + 1) { s with heap := h2, toks := tk + 1 } (by omega) hlt (hst'.1.at fun o e => kp I o (Ne.symm hdI) e) (hst'.2.at fun o e => kp ax o (Ne.symm hda) e) hd2
      (fun b o hbd hbI e => kp b o hbd (hm b o (by simpa using hbI) (hb b o hbd hbI e))) hR
    exact this
theorem Heap.IsListD {h : Heap} {a : Addr} {vs : List Value} {k : Nat} (e : h.get? a = some (listOf vs.toArray k)) : h.IsList a vs.toArray := ⟨_, e, rfl, _, rfl⟩
theorem dict_pairs {ax : Addr} {ka : Nat} {vs : List Value} {kvs : List (Int × Value)} {Q : Value → Shared → Prop} (hh : A.handled = none) (ho : s.heap.get? ax = some (listOf vs.toArray ka)) (hlen : kvs.length = vs.length) (hsz : vs.length ≤ 1000) (hn : (kvs.map (·.1)).Nodup)
    (hp : ∀ (i : Nat) (v : Value), vs[i]? = some v → ∃ (T : Addr) (k : Int) (t : Tok) (x : Value) (o : Obj) (nn : Nat), v = .ref T ∧ kvs[i]? = some (k, x) ∧ s.heap.get? T = some o ∧ o.cls = .type "tuple" ∧ o.data = .seq #[.int k t, x] nn)
    (h : ∀ h' tk, h'.DictOf (intKind prog w) s.heap.objs.size kvs → (∀ b o, s.heap.get? b = some o → h'.get? b = some o) → Q (.ref s.heap.objs.size) { s with heap := h', toks := tk }) :
    wpAny (model prog w) A (call (.type "dict") [.ref ax]) Q E s := by
  refine callType_codes (Q₁ := fun obj s₁ => obj = .ref s.heap.objs.size ∧ s₁ = { s with heap := s.heap.push { cls := .type "dict", data := .dict #[] } }) F.kt_called_dict (F.kt_typeCall_dict_1 _) F.entry_dict_init (kt_code_dict_new _ ⟨rfl, rfl⟩) ?_
  rintro obj s₁ ⟨rfl, rfl⟩
  have hnew : (s.heap.push { cls := .type "dict", data := .dict #[] }).DictOf (intKind prog w) s.heap.objs.size [] := Heap.DictOf.new s.heap
  have hax := Heap.lt_size ho
  refine ⟨hnew.typeIs, F.args_dict_init_2 _ _, ?_⟩
  have ho1 := Heap.get?_push_of_some { cls := .type "dict", data := .dict #[] } ho
  unfold Builtin.«dict.__init__»
  refine wpAny_bind ?_
  unfold Builtin.Dict.selfAndRest
  refine wpAny_bind (wpAny_notOrdered_dict hnew.typeIs ?_)
  show wpAny _ _ (pure (s.heap.objs.size, [Value.ref ax])) _ _ _
  refine wpAny_pure ?_
  show wpAny _ _ (Builtin.Dict.updateFrom "dict.__init__" s.heap.objs.size (.ref ax) [] .none) _ _ _
  unfold Builtin.Dict.updateFrom
  refine wpAny_bind (wpAny_typeOf (T := "list") ⟨_, ho1, rfl⟩ ?_)
  rw [if_pos (by decide)]
  refine wpAny_bind (no_keys ho1 (by exact hh) fun h1 tk1 hk1 => ?_)
  rw [if_pos (by rfl)]
  refine wpAny_bind (wpAny_rule ?_)
  refine wpAny_bind (wpAny_pyIter_list (Heap.IsListD (hk1 _ _ ho1)) ?_)
  refine wpAny_pure ⟨plainId_quiet dl_plain _, ?_⟩
  have hsz1 : s.heap.objs.size < h1.objs.size := by
    obtain ⟨_, _, _, e, _⟩ := hnew
    exact Heap.lt_size (hk1 _ _ e)
  have hax1 : ax < h1.objs.size := Nat.lt_trans hax hsz1
  have old : ∀ b o, s.heap.get? b = some o → (h1.push { cls := .type "list_iterator", data := .fields #[.ref ax, .int 0 0] }).get? b = some o := fun b o e => Heap.get?_push_of_some _ (hk1 _ _ (Heap.get?_push_of_some _ e))
  refine dict_loop (A := A.in1) (d := s.heap.objs.size) (I := h1.objs.size) (ax := ax) (vs := vs) (kvs := kvs) (b0 := s.heap) (by exact hh) (Nat.ne_of_lt hax1) (Nat.ne_of_lt hsz1) (Nat.ne_of_gt hax) hlen hsz hn ?_ _ 0 _ rfl (Nat.zero_le _) ?_ ?_ ?_ ?_ ?_
  · intro i v hv
    obtain ⟨T, k, t, x, o, nn, e1, e2, e3, e4, e5⟩ := hp i v hv
    have := Heap.lt_size e3
    exact ⟨T, k, t, x, o, nn, e1, Nat.ne_of_lt this, Nat.ne_of_lt (Nat.lt_trans this hsz1), e2, e3, e4, e5⟩
  · exact ⟨_, Heap.get?_push_size _ rfl, rfl, rfl⟩
  · exact Heap.IsListD (old _ _ ho)
  · rw [List.take_zero]
    exact dictOf_at hnew fun o e => Heap.get?_push_of_some _ (hk1 _ _ e)
  · intro b o _ _ e
    exact old b o e
  · intro h' tk hd hb
    refine ⟨rfl, h h' tk hd fun b o e => ?_⟩
    have := Heap.lt_size e
    exact hb b o (Nat.ne_of_lt this) (Nat.ne_of_lt (Nat.lt_trans this hsz1)) e
end
section
variable {prog : Program} {w : World} {A : Around} {s : Shared} {env : Env} {h₀ : Heap} {L : Addr} {m : Map} {led : Led}
theorem comp_dict {scope : Scope} {cl : List (Str × Addr)} {x : Str} {ifs : List Expr} {elt : Expr} {K : Map → Addr → List Value → Nat → Led → Shared → Prop} {d : Addr} {od : Obj} {kvs : List (Int × Value)} (hh : A.handled = none)
    (lo : (d == sysModules) = false) (hm : s.heap.get? d = some od) (hod : od.IsDictOf (intKind prog w) kvs) (hsz : kvs.length ≤ sizeLine) (F : Fr h₀ L s.heap m) (N : News h₀ L s.heap led) (Inv : Nat → List Value → Led → Prop) (h0 : Inv 0 [] led)
    (hsrc : ∀ i ys led₁ h, Inv i ys led₁ → Fr h₀ L h m → News h₀ L h led₁ → h.get? d = some od) (hlen : ∀ i ys led₁, Inv i ys led₁ → ys.length ≤ i)
    (step : ∀ I, CompStep prog w A h₀ L env scope cl x ifs elt I kvs.length (fun i v => ∃ k x, kvs[i]? = some (k, x) ∧ (intKind prog w).is k v = true) m Inv s)
    (done : ∀ D led₁ ys s₁ k, Same s s₁ → Inv kvs.length ys led₁ → News h₀ L s₁.heap ((D, listOf ys.toArray k) :: led₁) → K m D ys k led₁ s₁) :
    wpAny (model prog w) A (pyIter (.ref d)) (fun it s₂ => ∃ m, CompAt prog w A h₀ L env scope cl x ifs elt m (K m) it s₂) NoE s := by
  obtain ⟨ep, ha⟩ := KdkAt.of hod
  have hD := ha.dictAt hm
  have hlt := Heap.lt_size hm
  refine wpAny_pyIter_dict lo hD ?_
  refine ⟨m, comp_src (Walks.dictKeys (prog := prog) (w := w) (knd := intKind prog w) hh s.heap.objs.size d (Nat.ne_of_lt hlt) kvs ep) hsz (io := fun i o => o.cls = .type "dict_keyiterator" ∧ o.data = .fields #[.ref d, .int i 0, .int kvs.length 0, .int ep 0]) (src := fun h => h.DictAt (intKind prog w) d kvs ep) (fun i h => ⟨fun e => e, fun e => e⟩)
    ⟨⟨_, Heap.get?_push_size _ rfl, rfl, rfl⟩, hD.push _⟩ (fun b hb => ?_) F N Inv h0 (fun i ys led₁ h hi F₁ N₁ => ha.dictAt (hsrc i ys led₁ h hi F₁ N₁)) hlen step done⟩
  simp only [List.mem_cons, List.not_mem_nil, or_false] at hb
  rcases hb with rfl | rfl
  · exact Nat.le_refl _
  · exact Nat.le_of_lt hlt
end
section
variable {prog : Program} {w : World} {A : Around} {E : Value → Shared → Prop} {s : Shared} {h₀ : Heap} {L : Addr} {m : Str → Option Value} {env : Env} {foot : Led} {n : Nat}

/-- a call of a function object of the ledger, with a closure -/
theorem call_clos {Q : Value → Shared → Prop} {name qual : Str} {params : Arguments} {body : List Stmt} {scope : Scope} {cl : List (Str × Addr)} {doc pm ctv : Value} {c' f : Addr} {oc : Obj} {cvs : Array Value} {tc : Tok} {args : List Value} {kw : List (Str × Value)} (binds : List (Str × Value))
    (R : Value → Led → Prop) (Z : At w A env L h₀ (n + 1)) (F : Fr h₀ L s.heap m) (N : News h₀ L s.heap foot)
    (ho : (f, fnMade name qual params body scope cl doc pm c' ctv) ∈ foot) (hcm : (c', oc) ∈ foot) (hcd : oc.data = .fields cvs) (hcv : cvs[1]? = some (.str qual tc))
    (hbind : BindsTo s (fnX name qual params body scope cl .none .none doc pm none (.ref c') ctv) ⟨args, kw⟩ binds) (hloc : ∀ y ∈ binds, scope.names.lookup y.1 = some .local)
    (h : ∀ g L' h₁ tk sg sd so dp fr gs un A₀ base p loose mean mg mb, Below A₀ base fr g → Top p loose mean mg mb g → (hd.heap_1 w.params).In g → At w ⟨none, dp, some (envX qual scope L' f (.ref c') cl :: fr), gs, un⟩ (envX qual scope L' f (.ref c') cl) L' g n →
      Around.units ⟨none, dp, some (envX qual scope L' f (.ref c') cl :: fr), gs, un⟩ ≤ 9000 → Fr g L' h₁ (fun y => binds.reverse.lookup y) → News g L' h₁ foot → (∀ p ∈ foot, p.1 < L') →
      wpAny (model prog w) ⟨none, dp, some (envX qual scope L' f (.ref c') cl :: fr), gs, un⟩ (execs body (envX qual scope L' f (.ref c') cl))
        (OutQ g L' R ⟨h₁, sg, sd, tk, so⟩) (fun _ _ => False)
        ⟨h₁, sg, sd, tk, so⟩)
    (hco : scope.isCoroutine = false) (hgen : scope.isGenerator = false) (hk : scope.kind = .function)
    (hcell : ∀ x ∈ scope.names, x.2 ≠ .cell)
    (hQ : ∀ v h' tk led', Fr h₀ L h' m → News h₀ L h' led' → Chg (foot.map (·.1)) s.heap h' → R v led' → Q v { s with heap := h', toks := tk }) :
    wpAny (model prog w) A (call (.ref f) args kw) Q E s := by
  obtain ⟨A₀, base, outer, p, loose, mean, mg, mb, B, T, hA⟩ := Z.ex
  have hroom : A.depth < recursionLimit := by have := Z.room; omega
  have X₀ := Z.X
  refine wpAny_call ?_
  obtain ⟨g, hg, FG, BG, st, lv⟩ := groundK B F N hA Z.hf Z.hk
  have X₁ := X₀.keeps st
  refine codeAny_call_def (fd := fnX name qual params body scope cl .none .none doc pm none (.ref c') ctv) (body := body) (binds := binds) hroom (N _ ho).1 rfl (T.nolimit.keeps F.keep) (codeRec_news N hcm hcd hcv) rfl hbind hcell hloc (fun h₁ hns hk₁ => ?_) hco hgen hk
  have F₁ : Fr g s.heap.objs.size h₁ (fun y => binds.reverse.lookup y) := ⟨hns, fun b o e => hk₁ b o (of_hideAll _ (hg ▸ e)), Nat.le_of_eq (hg ▸ hideAll_size _ _)⟩
  have N₁ : News g s.heap.objs.size h₁ foot := fun p hp => ⟨hk₁ _ _ (N p hp).1, Nat.ne_of_lt (Heap.lt_size (N p hp).1), hg ▸ hideAll_none _ (List.mem_map_of_mem hp)⟩
  obtain ⟨ah, ad, af, ag, au⟩ := A
  obtain rfl : ah = none := Z.hh
  obtain rfl : af = some (env :: outer) := hA
  have hroom' : ad + 1 + n < recursionLimit := by have := Z.room; dsimp only at this; omega
  have hunits' : au + 3 + 4 * n ≤ 9000 := by have := Z.units; dsimp only at this; omega
  refine wpAny_mono (h g s.heap.objs.size h₁ (s.toks + binds.length) s.gens s.drawn s.os (ad + 1) (env :: outer) ag (au + 3) _ base _ _ _ _ _ BG (T.keeps st) X₁ ⟨⟨_, _, _, _, _, _, _, _, BG, T.keeps st, rfl⟩, X₁, rfl, hk, rfl, hroom', hunits'⟩ (by show au + 3 ≤ 9000; omega) F₁ N₁ (fun p hp => Heap.lt_size (N p hp).1)) (fun fl s' hl => ?_) (fun _ _ e => e.elim)
  obtain ⟨m', led', F', N', ⟨h', tk', rfl⟩, hR⟩ := hl
  exact lv (fun r s' => match r with | .ok (.ret v) => Q v s' | .ok _ => False | .error e => E e s') _ _ ⟨_, m', led', F', N', fun Fz Nz => hQ _ h' tk' led' Fz Nz (fun b o e hb => F'.keep b o (hg ▸ hideAll_get _ e hb)) hR⟩
end
section
variable {prog : Program} {w : World} {A : Around} {E : Value → Shared → Prop} {s : Shared} {env : Env} {h₀ : Heap} {L : Addr}
abbrev cellO : Obj := { cls := .type "cell", data := .cell none }
theorem newEnv_cell {scope : Scope} {globals : Addr} {qual : Str} {x : Str} {Q : Env → Shared → Prop} (hcf : ∀ n, cellsFrom n scope.names [] = [(x, n)]) (hpc : ∀ h, pushCells h scope.names = h.push cellO)
    (h : Q { scope := scope, locals := s.heap.objs.size, globals := globals, cells := [(x, s.heap.objs.size + 1)], qual := qual, func := none, code := env.code, frame := env.frame, builtins := env.builtins }
      { s with heap := (s.heap.push { cls := .type "dict", data := .dict #[] }).push cellO }) :
    wpAny (model prog w) A (newFunctionEnv scope globals [] [] qual none .none (some env)) Q E s := by
  simp only [newFunctionEnv, Option.isSome_some, if_true]
  refine wpAny_bind (wpAny_alloc ?_)
  refine wpAny_bind (wpAny_layCells _ (fun name kind cells => by cases hkc : kind == NameKind.cell <;> simp [hkc]) _ _ _ _ ?_)
  simp only [hcf, hpc, List.forIn_nil, pure_bind]
  rw [Heap.size_push]
  exact wpAny_pure h
inductive CEndC (h₀ : Heap) (L : Addr) (m : Map) (I K C D : Addr) (oI oK oC oD : Obj) (s : Shared) (J : Led → Prop) (s' : Shared) : Prop
  | mk (led : Led) (hs : Same s s') (F : Fr h₀ L s'.heap m) (N : News h₀ L s'.heap ((I, oI) :: (K, oK) :: (C, oC) :: (D, oD) :: led)) (hl : ∀ p ∈ led, p.1 ≠ I ∧ p.1 ≠ K ∧ p.1 ≠ C ∧ p.1 ≠ D) (h : J led)

def CompStepC (prog : Program) (w : World) (A : Around) (h₀ : Heap) (L : Addr) (env : Env) (scope : Scope) (x : Str) (elt : Expr) (I : Addr) (n : Nat) (P : Nat → Value → Prop) (m : Map) (Inv : Nat → List Value → Led → Prop) (s : Shared) : Prop :=
  ∀ K C D i v ys led₁ s₁ oI oK oC oD, Same s s₁ → i < n → P i v → Inv i ys led₁ → Fr h₀ L s₁.heap m → News h₀ L s₁.heap ((I, oI) :: (K, oK) :: (C, oC) :: (D, oD) :: led₁) → (∀ p ∈ led₁, p.1 ≠ I ∧ p.1 ≠ K ∧ p.1 ≠ C ∧ p.1 ≠ D) → oK.data = .cell (some v) →
    wpAny (model prog w) A (eval elt (compEnvC scope [(x, K)] C env)) (fun y s₄ => CEndC h₀ L m I K C D oI oK oC oD s (Inv (i + 1) (ys ++ [y])) s₄) NoE s₁

inductive CoIC (s : Shared) (St : Nat → Heap → Prop) (h₀ : Heap) (L : Addr) (m : Map) (I : Addr) (K : Addr) (C : Addr) (D : Addr) (Inv : Nat → List Value → Led → Prop) (n : Nat) (k : Nat) (s' : Shared) : Prop
  | mk (i ys led₁ mC k' oK vK : _) (h1 : Same s s') (h2 : St i s'.heap) (h3 : Fr h₀ L s'.heap m) (h4 : News h₀ L s'.heap led₁) (h5 : (∀ p ∈ led₁, p.1 ≠ I ∧ p.1 ≠ K ∧ p.1 ≠ C ∧ p.1 ≠ D)) (h6 : s'.heap.Ns C mC) (h7 : s'.heap.get? D = some (listOf ys.toArray k')) (h8 : Inv i ys led₁) (h9 : i ≤ n) (h10 : k = n + 1 - i) (h11 : s'.heap.get? K = some oK) (h12 : oK.data = .cell vK)
theorem comp_coreC {elt iter : Expr} {x : Str} {px : Pos} {scope : Scope} {pos : Pos} {I : Addr} {fp : List Addr} {n : Nat} {P : Nat → Value → Prop} {St : Nat → Heap → Prop} {io : Nat → Obj → Prop} {src : Heap → Prop} {m : Map} {led : Led} (Inv : Nat → List Value → Led → Prop)
    {RR : Value → Addr → Result → Shared → Prop}
    (W : Walks prog w A I fp [I] n P St) (hsz : n ≤ sizeLine) (hSt : ∀ i h, St i h ↔ (∃ o, h.get? I = some o ∧ io i o) ∧ src h) (st0 : St 0 s.heap) (hfp : ∀ b ∈ fp, b < s.heap.objs.size) (hIL : I ≠ L) (hI0 : h₀.get? I = none)
    (F : Fr h₀ L s.heap m) (N : News h₀ L s.heap led) (hled : ∀ p ∈ led, p.1 ≠ I) (h0 : Inv 0 [] led)
    (hsrc : ∀ i ys led₁ h, Inv i ys led₁ → Fr h₀ L h m → News h₀ L h led₁ → src h) (hlen : ∀ i ys led₁, Inv i ys led₁ → ys.length ≤ i)
    (hcf : ∀ n, cellsFrom n scope.names [] = [(x, n)]) (hpc : ∀ h, pushCells h scope.names = h.push cellO) (hkind : scope.kind = .function) (hx : (relabel scope env).names.lookup x = some .cell)
    (step : CompStepC prog w A h₀ L env scope x elt I n P m Inv s)
    (hRR : ∀ D C led₁ ys s₁ k mC, Same s s₁ → Inv n ys led₁ → Fr h₀ L s₁.heap m → News h₀ L s₁.heap ((D, listOf ys.toArray k) :: led₁) → s₁.heap.Ns C mC → C ≠ L → h₀.get? C = none → D ≠ C → (∀ p ∈ led₁, p.1 ≠ C) → (∀ p ∈ led₁, p.1 ≠ D) → RR (.ref D) C (.ok .next) s₁) :
    wpAny (model prog w) A (newList []) (fun acc s₃ => wpAny (model prog w) A (newFunctionEnv scope env.globals [] [] env.qual none .none (some env)) (fun cenv s₄ =>
      codeAny (model prog w) A (.compStart (.ListComp elt [⟨.Name x px, iter, [], 0⟩] scope pos) 0 (.ref I) acc { cenv with scope := relabel scope env }) (RR acc cenv.locals) s₄) E s₃) E s := by
  refine wpAny_newObj_type (newEnv_cell hcf hpc ?_)
  dsimp only
  generalize hH2 : s.heap.push { cls := .type "list", dict := none, data := .seq ([] : List Value).toArray } = H2
  have hC : H2.objs.size = s.heap.objs.size + 1 := by rw [← hH2, Heap.size_push]
  generalize hh1 : (H2.push { cls := .type "dict", data := .dict #[] }).push cellO = h₁
  have hns₁ : h₁.Ns H2.objs.size (fun _ => none) := by
    rw [← hh1]
    exact (Heap.Ns.new H2 (.type "dict")).at' fun o e => Heap.get?_push_of_some _ e
  have hcell₁ : h₁.get? (H2.objs.size + 1) = some cellO := by
    rw [← hh1]
    have : ((H2.push { cls := .type "dict", data := .dict #[] }).push cellO).get? (H2.push { cls := .type "dict", data := .dict #[] }).objs.size = some cellO := Heap.get?_push_size _ rfl
    rwa [Heap.size_push] at this
  have hold₁ : ∀ b o, H2.get? b = some o → h₁.get? b = some o := fun b o e => by rw [← hh1]; exact Heap.get?_push_of_some _ (Heap.get?_push_of_some _ e)
  clear hh1
  revert H2 h₁
  refine keepP ?_
  set_option tactic.hygienic false in intros
  generalize hCd : H2.objs.size = C at hns₁ hcell₁ hC ⊢
  generalize hDd : s.heap.objs.size = D at hC ⊢
  generalize hKd : C + 1 = K at hcell₁ ⊢
  revert C D K
  refine keepP ?_
  set_option tactic.hygienic false in intros
  have hDC : D ≠ C := by rw [hC]; exact Nat.ne_of_lt (Nat.lt_succ_self D)
  have hDK : D ≠ K := by rw [← hKd, hC]; exact neL (Nat.lt_trans (Nat.lt_succ_self D) (Nat.lt_succ_self _))
  have hCK : C ≠ K := by rw [← hKd]; exact neL (Nat.lt_succ_self _)
  have below : ∀ b, b < D → b ≠ K ∧ b ≠ C ∧ b ≠ D := fun b hb => ⟨neL (by rw [← hKd, hC]; exact Nat.lt_succ_of_lt (Nat.lt_succ_of_lt hb)), neL (by rw [hC]; exact Nat.lt_succ_of_lt hb), neL hb⟩
  have hDf : D ∉ fp := fun hm => Nat.lt_irrefl _ (hDd ▸ hfp _ hm)
  have old : ∀ b o, s.heap.get? b = some o → h₁.get? b = some o := fun b o e => hold₁ b o (hH2 ▸ Heap.get?_push_of_some _ e)
  have hacc : h₁.get? D = some (listOf #[] 0) := hold₁ _ _ (hH2 ▸ hDd ▸ Heap.get?_push_size _ rfl)
  have fresh : ∀ a, D ≤ a → s.heap.get? a = none := fun a ha => by
    cases e : s.heap.get? a with
    | none => rfl
    | some o' => exact absurd (Heap.lt_size e) (by rw [hDd]; exact Nat.not_lt.mpr ha)
  have fresh0 : ∀ a, D ≤ a → h₀.get? a = none := fun a ha => by
    cases e : h₀.get? a with
    | none => rfl
    | some o' => have := F.keep _ _ e; rw [fresh a ha] at this; cases this
  have hLD : @LT.lt Nat _ L D := hDd ▸ F.ns.lt
  have hKn : @LE.le Nat _ D K := by rw [← hKd, hC]; exact Nat.le_succ_of_le (Nat.le_succ _)
  have hLK : @LT.lt Nat _ L K := Nat.lt_of_lt_of_le hLD hKn
  have hDI : D ≠ I := by obtain ⟨⟨o, ho, _⟩, _⟩ := (hSt _ _).mp st0; have := ltN (Heap.lt_size ho); exact neG (by omega)
  have hCI : C ≠ I := by obtain ⟨⟨o, ho, _⟩, _⟩ := (hSt _ _).mp st0; have := ltN (Heap.lt_size ho); exact neG (by omega)
  have hKI : K ≠ I := by obtain ⟨⟨o, ho, _⟩, _⟩ := (hSt _ _).mp st0; exact neG (Nat.lt_of_lt_of_le (hDd ▸ Heap.lt_size ho) hKn)
  have hst₁ : St 0 h₁ := W.frame _ _ _ st0 fun b _ o e => old b o e
  have F₁ : Fr h₀ L h₁ m := ⟨F.ns.at' fun o e => old _ o e, fun b o e => old b o (F.keep b o e), F.above⟩
  have N₁ : News h₀ L h₁ led := fun p hp => ⟨old _ _ (N p hp).1, (N p hp).2⟩
  have hled₁ : ∀ p ∈ led, p.1 ≠ I ∧ p.1 ≠ K ∧ p.1 ≠ C ∧ p.1 ≠ D := fun p hp => ⟨hled p hp, (below _ (hDd ▸ Heap.lt_size (N p hp).1))⟩
  have loop : ∀ s₃ : Shared, s₃ = { s with heap := h₁ } →
      codeAny (model prog w) A (.compLoop (.ListComp elt [⟨.Name x px, iter, [], 0⟩] scope pos) 0 (.ref I) (.ref D) (compEnvC scope [(x, K)] C env)) (RR (.ref D) C) s₃ := by
    rintro s₃ rfl
    refine codeAny_compLoop_tests (CoIC s St h₀ L m I K C D Inv n) ?_ (n + 1)
      ⟨0, [], led, _, 0, _, _, Same.mk, hst₁, F₁, N₁, hled₁, hns₁, hacc, h0, Nat.zero_le _, rfl, hcell₁, rfl⟩
    rintro k s' ⟨i, ys, led₁, mC, k', oK, vK, hsame, hst, F₂, N₂, hl₂, hn₂, hD₂, hJ, hi, rfl, hK₂, hKv⟩
    by_cases hlt : i < n
    · refine W.item i _ _ _ hlt hst fun v h' tk hP hst' hk => ?_
      dsimp only
      have kI : ∀ b o, b ≠ I → s'.heap.get? b = some o → h'.get? b = some o := fun b o hb e => hk b o (by simpa using hb) e
      refine wpAny_assign_Name (wpAny_storeName_cell (c := K) (by simp [compEnvC, relabel, hkind]) hx (by simp [compEnvC]) ⟨_, kI _ _ hKI hK₂, hKv⟩ fun h₂ hcv hss => ?_)
      obtain ⟨⟨oI, hoI, hio⟩, _⟩ := (hSt _ _).mp hst'
      obtain ⟨oC, hoC, hNsC⟩ := NsO.of (hn₂.at' fun o e => hss.extBut C o hCK (kI C o hCI e))
      obtain ⟨oK', hoK', hKv'⟩ := hcv
      have kC : ∀ b o, b ≠ I → b ≠ K → s'.heap.get? b = some o → h₂.get? b = some o := fun b o hb hb' e => hss.extBut b o hb' (kI b o hb e)
      have F₃ : Fr h₀ L h₂ m := ⟨F₂.ns.at' fun o e => kC _ o (Ne.symm hIL) (neL hLK) e, fun b o e => kC b o (fun hb => by rw [hb, hI0] at e; cases e) (fun hb => by rw [hb, fresh0 K hKn] at e; cases e) (F₂.keep b o e), F₂.above⟩
      have N₃ : News h₀ L h₂ ((I, oI) :: (K, oK') :: (C, oC) :: (D, listOf ys.toArray k') :: led₁) := by
        intro p hp
        revert p
        first | refine ac3 ?_ ?_ | refine ac2 ?_ ?_ | refine ac ?_ ?_
        · exact ⟨hss.extBut _ _ (Ne.symm hKI) hoI, hIL, hI0⟩
        refine ac ?_ ?_
        · exact ⟨hoK', neG hLK, fresh0 K hKn⟩
        refine ac ?_ ?_
        · exact ⟨hoC, neG (show @LT.lt Nat _ L C by omega), fresh0 C (by omega)⟩
        refine ac ?_ ?_
        · exact ⟨kC _ _ hDI hDK hD₂, neG (show @LT.lt Nat _ L D by omega), fresh0 D (Nat.le_refl _)⟩
        intro p hp
        · exact ⟨kC _ _ (hl₂ p hp).1 (hl₂ p hp).2.1 (N₂ p hp).1, (N₂ p hp).2⟩
      rw [List.forIn_nil]
      refine wpAny_pure ?_
      simp only [if_true]
      refine wpAny_mono (step K C D i v ys led₁ _ oI oK' oC _ (hsame.trans ⟨h₂, tk, rfl⟩) hlt hP hJ F₃ N₃ hl₂ hKv') (fun y s₅ h₅ => ?_) fun _ _ e => e.elim
      obtain ⟨led₂, hs₅, F₅, N₅, hl₅, hJ₅⟩ := h₅
      have hys : ys.toArray.size ≤ sizeLine := by have := hlen _ _ _ hJ; rw [List.size_toArray]; omega
      refine wpAny_list_append_plain (hsz := hys) ⟨k', (N₅ _ (.tail _ (.tail _ (.tail _ (.head _))))).1⟩ fun h₆ hl₆ hs₆ => ?_
      obtain ⟨k₆, hk₆⟩ := hl₆
      have kD : ∀ b o, b ≠ D → s₅.heap.get? b = some o → h₆.get? b = some o := fun b o hb e => hs₆.extBut b o hb e
      have F₆ : Fr h₀ L h₆ m := ⟨F₅.ns.at' fun o e => kD _ o (neL hLD) e, fun b o e => kD b o (fun hb => by rw [hb, fresh0 D (Nat.le_refl _)] at e; cases e) (F₅.keep b o e), F₅.above⟩
      have N₆ : News h₀ L h₆ led₂ := fun p hp => ⟨kD _ _ (hl₅ p hp).2.2.2 (N₅ p (.tail _ (.tail _ (.tail _ (.tail _ hp))))).1, (N₅ p (.tail _ (.tail _ (.tail _ (.tail _ hp))))).2⟩
      refine ⟨n + 1 - (i + 1), by omega, i + 1, ys ++ [y], led₂, _, k₆, oK', _, hs₅.trans ⟨h₆, s₅.toks, rfl⟩, (hSt _ _).mpr ⟨⟨oI, kD _ _ (Ne.symm hDI) (N₅ _ (.head _)).1, hio⟩, hsrc _ _ _ _ hJ₅ F₆ N₆⟩, F₆, N₆, hl₅, hNsC.ns (kD _ _ (Ne.symm hDC) (N₅ _ (.tail _ (.tail _ (.head _)))).1), ?_, hJ₅, hlt, rfl, kD _ _ (Ne.symm hDK) (N₅ _ (.tail _ (.head _))).1, hKv'⟩
      rw [hk₆]; simp
    · have hin : i = n := by omega
      subst hin
      refine W.done _ _ _ hst fun h' tk hk => ?_
      have kI : ∀ b o, b ≠ I → s'.heap.get? b = some o → h'.get? b = some o := fun b o hb e => hk b o (by simpa using hb) e
      have F₃ : Fr h₀ L h' m := ⟨F₂.ns.at' fun o e => kI _ o (Ne.symm hIL) e, fun b o e => kI b o (fun hb => by rw [hb, hI0] at e; cases e) (F₂.keep b o e), F₂.above⟩
      refine hRR D C led₁ ys _ k' _ (hsame.trans Same.mk) hJ F₃ ?_ (hn₂.at' fun o e => kI _ o hCI e) (neG (show @LT.lt Nat _ L C by omega)) (fresh0 C (by omega)) hDC (fun p hp => (hl₂ p hp).2.2.1) (fun p hp => (hl₂ p hp).2.2.2)
      intro p hp
      revert p
      first | refine ac3 ?_ ?_ | refine ac2 ?_ ?_ | refine ac ?_ ?_
      · exact ⟨kI _ _ hDI hD₂, neG (show @LT.lt Nat _ L D by omega), fresh0 D (Nat.le_refl _)⟩
      intro p hp
      · exact ⟨kI _ _ (hl₂ p hp).1 (N₂ p hp).1, (N₂ p hp).2⟩
  exact codeAny_compStart_list (loop _ rfl) (W.self 0 _ _ _ hst₁ (loop _ rfl))

inductive CompAtC (prog : Program) (w : World) (A : Around) (h₀ : Heap) (L : Addr) (env : Env) (scope : Scope) (x : Str) (elt : Expr) (m : Map) (K : Addr → List Value → Nat → Led → Shared → Prop) (it : Value) (s : Shared) : Prop
  | mk (I : Addr) (fp : List Addr) (n : Nat) (P : Nat → Value → Prop) (St : Nat → Heap → Prop) (io : Nat → Obj → Prop) (src : Heap → Prop) (led : Led) (Inv : Nat → List Value → Led → Prop)
    (e : it = .ref I) (W : Walks prog w A I fp [I] n P St) (hsz : n ≤ sizeLine) (hSt : ∀ i h, St i h ↔ (∃ o, h.get? I = some o ∧ io i o) ∧ src h) (st0 : St 0 s.heap) (hfp : ∀ b ∈ fp, b < s.heap.objs.size) (hIL : I ≠ L) (hI0 : h₀.get? I = none)
    (F : Fr h₀ L s.heap m) (N : News h₀ L s.heap led) (hled : ∀ p ∈ led, p.1 ≠ I) (h0 : Inv 0 [] led) (hsrc : ∀ i ys led₁ h, Inv i ys led₁ → Fr h₀ L h m → News h₀ L h led₁ → src h) (hlen : ∀ i ys led₁, Inv i ys led₁ → ys.length ≤ i)
    (step : CompStepC prog w A h₀ L env scope x elt I n P m Inv s)
    (done : ∀ D led₁ ys s₁ k, Same s s₁ → Inv n ys led₁ → News h₀ L s₁.heap ((D, listOf ys.toArray k) :: led₁) → (∀ p ∈ led₁, p.1 ≠ D) → K D ys k led₁ s₁)

theorem comp_exprC {elt iter : Expr} {x : Str} {px : Pos} {scope : Scope} {pos : Pos} {Q : Value → Shared → Prop}
    (hclos : closureFor scope env = pure []) (hcf : ∀ n, cellsFrom n scope.names [] = [(x, n)]) (hpc : ∀ h, pushCells h scope.names = h.push cellO) (hkind : scope.kind = .function)
    (hnames : ∀ y ∈ scope.names, y.2 = .local → scope.names.lookup y.1 = some .local) (hx : (relabel scope env).names.lookup x = some .cell)
    (h : wpAny (model prog w) A (eval iter env) (fun xv s₁ => wpAny (model prog w) A (pyIter xv) (fun it s₂ => ∃ m, CompAtC prog w A h₀ L env scope x elt m (fun D _ _ _ s₃ => Fr h₀ L s₃.heap m → Q (.ref D) s₃) it s₂) NoE s₁) NoE s)
    (hs : ∀ x, foldedSetIterable iter env x = pure x := by intro _; rfl) :
    wpAny (model prog w) A (eval (.ListComp elt [⟨.Name x px, iter, [], 0⟩] scope pos) env) Q NoE s := by
  rw [eval_ListComp]
  refine wpAny_comprehension_free (use := none) rfl hs hclos hkind hnames (wpAny_mono h (fun xv s₁ h₁ => wpAny_mono h₁ (fun it s₂ h₂ => ?_) fun _ _ e => e.elim) fun _ _ e => e.elim)
  obtain ⟨m, I, fp, n, P, St, io, src, led, Inv, rfl, W, hsz, hSt, st0, hfp, hIL, hI0, F, N, hled, h0, hsrc, hlen, step, done⟩ := h₂
  refine comp_coreC Inv W hsz hSt st0 hfp hIL hI0 F N hled h0 hsrc hlen hcf hpc hkind hx step (RR := fun acc C => compPost (model prog w) A NoE none Q acc C) ?_
  intro D C led₁ ys s₁ k mC hsame hJ F₁ N₁ hn hCL hC0 hDC hl hlD
  refine ⟨mC, hn, fun h' hs' => ?_⟩
  have kC : ∀ b o, b ≠ C → s₁.heap.get? b = some o → h'.get? b = some o := fun b o hb e => hs'.extBut b o hb e
  refine done D led₁ ys _ k (hsame.trans ⟨h', s₁.toks, rfl⟩) hJ (fun p hp => ⟨kC _ _ ?_ (N₁ p hp).1, (N₁ p hp).2⟩) hlD ⟨F₁.ns.at' fun o e => kC _ o (Ne.symm hCL) e, fun b o e => kC b o (fun hb => by rw [hb, hC0] at e; cases e) (F₁.keep b o e), F₁.above⟩
  revert p
  first | refine ac3 ?_ ?_ | refine ac2 ?_ ?_ | refine ac ?_ ?_
  · exact hDC
  intro p hp
  · exact hl p hp

theorem comp_listC {scope : Scope} {x : Str} {elt : Expr} {K : Map → Addr → List Value → Nat → Led → Shared → Prop} {m : Map} {led : Led} {ax : Addr} {vs : List Value} (hh : A.handled = none)
    (hl : s.heap.IsList ax vs.toArray) (hsz : vs.length ≤ sizeLine) (F : Fr h₀ L s.heap m) (N : News h₀ L s.heap led) (Inv : Nat → List Value → Led → Prop) (h0 : Inv 0 [] led)
    (hsrc : ∀ i ys led₁ h, Inv i ys led₁ → Fr h₀ L h m → News h₀ L h led₁ → h.IsList ax vs.toArray) (hlen : ∀ i ys led₁, Inv i ys led₁ → ys.length ≤ i)
    (step : ∀ I, CompStepC prog w A h₀ L env scope x elt I vs.length (fun i v => vs[i]? = some v) m Inv s)
    (done : ∀ D led₁ ys s₁ k, Same s s₁ → Inv vs.length ys led₁ → News h₀ L s₁.heap ((D, listOf ys.toArray k) :: led₁) → (∀ p ∈ led₁, p.1 ≠ D) → K m D ys k led₁ s₁) :
    wpAny (model prog w) A (pyIter (.ref ax)) (fun it s₂ => ∃ m, CompAtC prog w A h₀ L env scope x elt m (K m) it s₂) NoE s := by
  have hlt : ax < s.heap.objs.size := by obtain ⟨_, e, _⟩ := hl; exact Heap.lt_size e
  have W := Walks.list (prog := prog) (w := w) hh s.heap.objs.size ax (Nat.ne_of_lt hlt) vs.toArray
  rw [List.size_toArray] at W
  refine wpAny_pyIter_list hl ?_
  have tr : ∀ {s'}, Same { s with heap := s.heap.push { cls := .type "list_iterator", data := .fields #[.ref ax, .int 0 0] } } s' → Same s s' := fun h => Same.trans (Same.mk (tk := s.toks)) h
  refine ⟨m, s.heap.objs.size, [s.heap.objs.size, ax], vs.length, _, _, fun i o => o.cls = .type "list_iterator" ∧ o.data = .fields #[.ref ax, .int i 0], fun h => h.IsList ax vs.toArray, led, Inv, rfl, W, hsz, fun i h => Iff.rfl,
    ⟨⟨_, Heap.get?_push_size _ rfl, rfl, rfl⟩, hl.push _⟩, fun b hb => ?_, fresh_L F, fresh_I F, F.push _, news_push N _, fresh_led N, h0, hsrc, hlen, ?_, ?_⟩
  · simp only [List.mem_cons, List.not_mem_nil, or_false] at hb
    rw [Heap.size_push]
    rcases hb with rfl | rfl
    · exact Nat.lt_succ_self _
    · exact Nat.lt_succ_of_lt hlt
  · intro Kc C D i v ys led₁ s₁ oI oK oC oD hs hi hP hJ F₁ N₁ hl₁ hx
    refine wpAny_mono (step _ Kc C D i v ys led₁ s₁ oI oK oC oD (tr hs) hi (by simpa using hP) hJ F₁ N₁ hl₁ hx) (fun y s₃ h₃ => ?_) fun _ _ e => e
    obtain ⟨led₂, ⟨h', tk, rfl⟩, r1, r2, r3, r4⟩ := h₃
    exact ⟨led₂, ⟨h', tk, rfl⟩, r1, r2, r3, r4⟩
  · intro D led₁ ys s₁ k hs hJ N₁ hf
    exact done D led₁ ys s₁ k (tr hs) hJ N₁ hf
end
section
variable {prog : Program} {w : World} {A : Around} {s : Shared} {env : Env} {h₀ : Heap} {L : Addr}
theorem comp_exprF {elt iter : Expr} {x : Str} {px : Pos} {ifs : List Expr} {scope : Scope} {cl : List (Str × Addr)} {pos : Pos} {Q : Value → Shared → Prop}
    (hclos : closureFor scope env = pure cl) (hcell : ∀ y ∈ scope.names, y.2 ≠ .cell) (hkind : scope.kind = .function)
    (hnames : ∀ y ∈ scope.names, y.2 = .local → scope.names.lookup y.1 = some .local) (hx : scope.names.lookup x = some .local)
    (h : wpAny (model prog w) A (eval iter env) (fun xv s₁ => wpAny (model prog w) A (pyIter xv) (fun it s₂ => ∃ m, CompAt prog w A h₀ L env scope cl x ifs elt m (fun D _ _ led₁ s₃ => (∀ p ∈ led₁, p.1 ≠ D) → Fr h₀ L s₃.heap m → Q (.ref D) s₃) it s₂) NoE s₁) NoE s)
    (hs : ∀ x, foldedSetIterable iter env x = pure x := by intro _; rfl) :
    wpAny (model prog w) A (eval (.ListComp elt [⟨.Name x px, iter, ifs, 0⟩] scope pos) env) Q NoE s := by
  rw [eval_ListComp]
  refine wpAny_comprehension_free (use := none) rfl hs hclos hkind hnames (wpAny_mono h (fun xv s₁ h₁ => wpAny_mono h₁ (fun it s₂ h₂ => ?_) fun _ _ e => e.elim) fun _ _ e => e.elim)
  obtain ⟨m, I, fp, n, P, St, io, src, led, Inv, rfl, W, hsz, hSt, st0, hfp, hIL, hI0, F, N, hled, h0, hsrc, hlen, step, done⟩ := h₂
  refine comp_core Inv W hsz hSt st0 hfp hIL hI0 F N hled h0 hsrc hlen hcell hkind hx step (RR := fun acc C => compPost (model prog w) A NoE none Q acc C) ?_
  intro D C led₁ ys s₁ k mC hsame hJ F₁ N₁ hn hCL hC0 hDC hl hlD
  refine ⟨mC, hn, fun h' hs' => ?_⟩
  have kC : ∀ b o, b ≠ C → s₁.heap.get? b = some o → h'.get? b = some o := fun b o hb e => hs'.extBut b o hb e
  refine done D led₁ ys _ k (hsame.trans ⟨h', s₁.toks, rfl⟩) hJ (fun p hp => ⟨kC _ _ ?_ (N₁ p hp).1, (N₁ p hp).2⟩) hlD ⟨F₁.ns.at' fun o e => kC _ o (Ne.symm hCL) e, fun b o e => kC b o (fun hb => by rw [hb, hC0] at e; cases e) (F₁.keep b o e), F₁.above⟩
  revert p
  first | refine ac3 ?_ ?_ | refine ac2 ?_ ?_ | refine ac ?_ ?_
  · exact hDC
  intro p hp
  · exact hl p hp

end
section
variable {prog : Program} {w : World} {A : Around} {E : Value → Shared → Prop} {s : Shared} {h₀ : Heap} {L : Addr} {m : Str → Option Value} {env : Env} {news : Led} {n : Nat}
theorem under_make_units {C : Addr} {rest : List Value} : (A.under (.builtin "type.__call__" ⟨.ref C :: rest, []⟩)).units = A.units + 1 := by rfl
theorem under_make_frames {C : Addr} {rest : List Value} : (A.under (.builtin "type.__call__" ⟨.ref C :: rest, []⟩)).frames = A.frames := by rfl
theorem under_make_handled {C : Addr} {rest : List Value} : (A.under (.builtin "type.__call__" ⟨.ref C :: rest, []⟩)).handled = A.handled := by rfl

/-- a class is called: a new instance, its __init__ -/
theorem call_new {Q : Value → Shared → Prop} {C fI : Addr} {pos : List Value} {name qual : Str} {params : Arguments} {body : List Stmt} {scope : Scope} {dV kV doc pm cdv ct oc : Value} {an od : Option Addr} {osl : Array (Option Value)} (binds : Addr → List (Str × Value))
    (R : Addr → Addr → Led → Prop) (Z : At w A env L h₀ (n + 2)) (F : Fr h₀ L s.heap m) (N : News h₀ L s.heap news)
    (hm : makesIn (hd.heap_1 w.params) C = true) (hi : findIn (hd.heap_1 w.params) (.ref C) "__init__" = some (some (.ref fI))) (hf : isFn (hd.heap_1 w.params) (.ref fI) = true)
    (ho : (hd.heap_1 w.params).lookup fI = some ⟨oc, od, .func (fnOf name qual params body scope dV kV doc pm an cdv ct), osl⟩) (hcd : codeIn (hd.heap_1 w.params) cdv qual = true)
    (hbind : ∀ (x : Addr) (s' : Shared), (hd.heap_1 w.params).In s'.heap → BindsTo s' (fnOf name qual params body scope dV kV doc pm an cdv ct) ⟨.ref x :: pos, []⟩ (binds x)) (hloc : ∀ x, ∀ y ∈ binds x, scope.names.lookup y.1 = some .local)
    (h : ∀ x dx g L' h₁ tk sg sd so dp fr gs un A₀ base p loose mean mg mb, dx < x → x < L' → Below A₀ base fr g → Top p loose mean mg mb g → (hd.heap_1 w.params).In g → At w ⟨none, dp, some (envOf qual scope L' fI cdv :: fr), gs, un⟩ (envOf qual scope L' fI cdv) L' g n →
      Around.units ⟨none, dp, some (envOf qual scope L' fI cdv :: fr), gs, un⟩ ≤ 9000 → Fr g L' h₁ (fun y => (binds x).reverse.lookup y) → News g L' h₁ [(x, instObj C dx), (dx, dictOf [] 0)] →
      wpAny (model prog w) ⟨none, dp, some (envOf qual scope L' fI cdv :: fr), gs, un⟩ (execs body (envOf qual scope L' fI cdv))
        (OutQ g L' (fun v led' => v = .none ∧ R x dx led') ⟨h₁, sg, sd, tk, so⟩) (fun _ _ => False)
        ⟨h₁, sg, sd, tk, so⟩)
    (hco : scope.isCoroutine = false) (hgen : scope.isGenerator = false) (hk : scope.kind = .function)
    (hcell : ∀ x ∈ scope.names, x.2 ≠ .cell)
    (hQ : ∀ x dx h' tk led', Fr h₀ L h' m → News h₀ L h' led' → News h₀ L h' news → (∀ p ∈ news, p.1 < dx) → dx < x → R x dx led' → Q (.ref x) { s with heap := h', toks := tk }) :
    wpAny (model prog w) A (call (.ref C) pos) Q E s := by
  obtain ⟨A₀, base, outer, p, loose, mean, mg, mb, B, T, hA⟩ := Z.ex
  have X₀ := Z.X
  refine call_cls F X₀ N hm hi hf fun x dx h₁ F₁ N₁ l1 l2 => ?_
  have hroom : (A.under (.builtin "type.__call__" ⟨.ref C :: pos, []⟩)).depth < recursionLimit := by rw [depth_under_make]; have := Z.room; omega
  have hA' : (A.under (.builtin "type.__call__" ⟨.ref C :: pos, []⟩)).frames = some (env :: outer) := by rw [under_make_frames]; exact hA
  have N₂ : News h₀ L h₁ [(x, instObj C dx), (dx, dictOf [] 0)] := News.sub N₁ (fun p hp => by
    simp only [List.mem_cons, List.not_mem_nil, or_false] at hp
    rcases hp with rfl | rfl
    · exact .head _
    · exact .tail _ (.head _))
  have N₃ : News h₀ L h₁ news := fun p hp => N₁ p (.tail _ (.tail _ hp))
  obtain ⟨foot, hfoot⟩ : ∃ foot, [(x, instObj C dx), (dx, dictOf [] 0)] = foot := ⟨_, rfl⟩
  replace N₂ : News h₀ L h₁ foot := hfoot ▸ N₂
  obtain ⟨g, hg, FG, BG, st, lv⟩ := groundK (s := { s with heap := h₁ }) (A := A.under (.builtin "type.__call__" ⟨.ref C :: pos, []⟩)) B F₁ N₂ hA' Z.hf Z.hk
  have X₁ := X₀.keeps st
  refine codeAny_call_def (s := { s with heap := h₁ }) (fd := fnX name qual params body scope [] dV kV doc pm an cdv ct) (body := body) (binds := binds x) hroom ((X₀.keeps F₁.keep) _ _ ho) rfl (T.nolimit.keeps F₁.keep) (codeRec_of (X₀.keeps F₁.keep) hcd) rfl (hbind x _ (X₀.keeps F₁.keep)) hcell (hloc x) (fun h₂ hns hk₁ => ?_) hco hgen hk
  have F₂ : Fr g h₁.objs.size h₂ (fun y => (binds x).reverse.lookup y) := ⟨hns, fun b o e => hk₁ b o (of_hideAll _ (hg ▸ e)), Nat.le_of_eq (hg ▸ hideAll_size _ _)⟩
  have N₄ : News g h₁.objs.size h₂ foot := fun p hp => ⟨hk₁ _ _ (N₂ p hp).1, Nat.ne_of_lt (Heap.lt_size (N₂ p hp).1), hg ▸ hideAll_none _ (List.mem_map_of_mem hp)⟩
  have hxl : x < h₁.objs.size := Heap.lt_size (N₂ (x, instObj C dx) (by rw [← hfoot]; exact .head _)).1
  have hd1 := depth_under_make (A := A) (C := C) (vals := pos)
  have hu1 := under_make_units (A := A) (C := C) (rest := pos)
  have hh1 := under_make_handled (A := A) (C := C) (rest := pos)
  have hrm := Z.room
  have hun := Z.units
  have hhd := Z.hh
  generalize A.under (.builtin "type.__call__" ⟨.ref C :: pos, []⟩) = A' at hd1 hu1 hh1 hA' BG hroom ⊢
  revert A'
  refine keepP ?_
  set_option tactic.hygienic false in intros
  obtain ⟨ah, ad, af, ag, au⟩ := A'
  dsimp only at hd1 hu1 hh1 hA'
  obtain rfl : ah = none := hh1.trans hhd
  subst hA'
  have hroom' : ad + 1 + n < recursionLimit := by omega
  have hunits' : au + 3 + 4 * n ≤ 9000 := by omega
  refine wpAny_mono (h x dx g h₁.objs.size h₂ (s.toks + (binds x).length) s.gens s.drawn s.os (ad + 1) (env :: outer) ag (au + 3) _ base _ _ _ _ _ l2 hxl BG (T.keeps st) X₁ ⟨⟨_, _, _, _, _, _, _, _, BG, T.keeps st, rfl⟩, X₁, rfl, hk, rfl, hroom', hunits'⟩ (by show au + 3 ≤ 9000; omega) F₂ (hfoot ▸ N₄)) (fun fl s' hl => ?_) (fun _ _ e => e.elim)
  obtain ⟨m', led', F', N', ⟨h', tk', rfl⟩, hv, hR⟩ := hl
  refine lv (InitBack x fun r s' => match r with | .ok (.ret v) => Q v s' | .ok _ => False | .error e => E e s') _ _ ⟨_, m', led', F', N', fun Fz Nz => ⟨hv, ?_⟩⟩
  refine hQ x dx h' tk' led' Fz Nz (fun q hq => ⟨F'.keep _ _ (hg ▸ hideAll_get _ (N₃ q hq).1 fun hb => ?_), (N₃ q hq).2⟩) l1 l2 hR
  rw [← hfoot] at hb
  have hq1 := l1 q hq
  simp only [List.map_cons, List.map_nil, List.mem_cons, List.not_mem_nil, or_false] at hb
  rcases hb with e | e
  · exact absurd (e ▸ hq1) (Nat.not_lt.mpr (Nat.le_of_lt l2))
  · exact absurd (e ▸ hq1) (Nat.lt_irrefl _)
end
variable {prog : Program} {w : World} {A : Around} {E : Value → Shared → Prop} {s : Shared} {h₀ : Heap} {L : Addr} {m : Str → Option Value} {env : Env} {news : Led} {n : Nat}
/-- a call of one of the addresses `l` -/
theorem at_call {M : Model} {l : List Nat} {f : Addr} {as : List Value} {kw : List (Str × Value)} {Q : Value → Shared → Prop} (_ : l.contains f = true) (h : wpAny M A (call (.ref f) as kw) Q E s) : wpAny M A (call (.ref f) as kw) Q E s := h
abbrev stC : List Nat := [114, 363, 126, 377, 93, 382, 271, 238, 306, 389, 521, 528, 642]
abbrev stL : List Nat := [340, 170, 571, 619, 52, 103, 192, 528, 76, 647, 630, 635]
local macro_rules | `(tactic| walk_at "st_one") => `(tactic| first | (k_unfold; (try dsimp only); (try clear ek); (try clear qk)) | (with_reducible refine TurnQ.ret ?_) | (with_reducible refine TurnQ.brk ?_) | (with_reducible refine WQ.ret ?_) | (k_end; wrow_close) | walk1 | (dsimp only; walk1) | (leave1; walk_say "STEP leave1"; try dsimp only))
local macro_rules | `(tactic| walk_at "st_gen") => `(tactic| ((fail_if_success (with_reducible show wpAny _ _ (pyIter _) _ _ _)); (fail_if_success (with_reducible show wpAny _ _ (eval (Expr.ListComp _ _ _ _) _) _ _ _))))
local macro_rules | `(tactic| walk_at "st_ass") => `(tactic| (fail_if_success (with_reducible show wpAny _ _ (exec (Stmt.Assign _ (Expr.ListComp _ _ _ _) _) _) _ _ _)))
local macro_rules | `(tactic| walk_at "st_loop") => `(tactic| ((fail_if_success (with_reducible show wpAny _ _ (execs (Stmt.While _ _ _ _ :: _) _) _ _ _)); (fail_if_success (with_reducible show wpAny _ _ (execs (Stmt.For _ _ _ _ _ :: _) _) _ _ _))))
local macro_rules | `(tactic| walk_at "st_item") => `(tactic| (fail_if_success (with_reducible show wpAny _ _ (setItem _ _ _) _ _ _)))
local macro_rules | `(tactic| walk_at "st_att") => `(tactic| (fail_if_success (with_reducible show wpAny _ _ (setAttr _ _ _) _ _ _)))
local macro_rules | `(tactic| walk_at "st_if") => `(tactic| (fail_if_success (with_reducible show wpAny _ _ (execs (Stmt.If _ _ _ _ :: _) _) _ _ _)))
local macro_rules | `(tactic| walk_at "st_c") => `(tactic| (fail_if_success (with_reducible refine at_call (l := stC) (by decide) ?_)))
local macro_rules | `(tactic| walk_at "execs cons") => `(tactic| ((with_reducible refine wpAny_execs_cons ?_); (try dsimp only); (try k_fold)))
local macro_rules | `(tactic| walk_at "zfn") => `(tactic| ((case Z => assumption); (case F => k_asm); (case N => k_asm)))
local macro_rules | `(tactic| walk_at "nhm") => `(tactic| ((case N => k_asm); (case hm => k_mem)))
/-- the closed side goals of a call rule -/
local macro_rules | `(tactic| walk_at "mine_sides") => `(tactic| ((case Z | F => assumption); (case k6 | k7 => k_is); (case k9 => first | exact BindsTo.of_eq rfl | exact binds_K (by k_in) rfl (by k_is) rfl rfl rfl | fail "k_enter: no rule for these arguments"); (case c5 => decide); (case kB => exact locs rfl); (case c2 | c3 | c4 => exact rfl)))
local macro_rules | `(tactic| walk_at "mine_sub") => `(tactic| (repeat' (first | exact List.forall_mem_nil _ | (refine List.forall_mem_cons.mpr ⟨?_, ?_⟩) | k_mem | assumption)))
theorem vint {a b : Int} {t : Tok} (h : a = b) : ∃ t', Value.int a t = .int b t' := ⟨t, by rw [h]⟩
local macro_rules | `(tactic| walk_at "mine_end") => `(tactic| refine (show OutRO _ _ _ _ _ _ _ from ⟨_, by assumption, (by first | assumption | exact News.nil), ⟨_, _, rfl⟩, ?_⟩))

theorem part_count_spec {i : Inf} {Q : Value → Shared → Prop} (Z : At w A env L h₀ (n+1)) (F : Fr h₀ L s.heap m) (N : News h₀ L s.heap news) (hs : ∀ p ∈ i.led w.params, p ∈ news)
    (hQ : ∀ h' tk t, Fr h₀ L h' m → News h₀ L h' news → Q (.int (max i.ligCount 1) t) { s with heap := h', toks := tk }) :
    wpAny (model prog w) A (call (.ref 351) [.ref i.a]) Q E s := by
  have X := Z.X
  refine' call_ro [(Str.ofString "info", .ref i.a)] (i.led w.params) (fun v => ∃ t, v = .int (max i.ligCount 1) t) ?Z ?F N hs ?k6 ?k7 ?k9 ?kB ?_ ?c2 ?c3 ?c4 ?c5 ?kQ
  walk_at "mine_sides"
  · intro g L' h₁ tk sg sd so dp fr gs un A₀ base p loose mean mg mb B' T' X' Z' hU F' N' hl
    k_steps
    exact ⟨_, by assumption, by assumption, ⟨_, _, rfl⟩, _, by rw [show max i.ligCount 1 = if 1 > i.ligCount then 1 else i.ligCount from by split <;> omega]⟩
  · rintro v h' tk F' N' ⟨t, rfl⟩
    exact hQ h' tk t F' N'

theorem class_of_spec {g : Gd} {x : Int} {t : Tok} {Q : Value → Shared → Prop} (Z : At w A env L h₀ (n+1)) (F : Fr h₀ L s.heap m) (N : News h₀ L s.heap news) (hs : ∀ p ∈ g.cled w.params, p ∈ news) (ok : g.ok prog w)
    (hQ : ∀ h' tk t, Fr h₀ L h' m → News h₀ L h' news → Q (.int (clsOf x) t) { s with heap := h', toks := tk }) :
    wpAny (model prog w) A (call (.ref 549) [.ref g.cdf, .int x t]) Q E s := by
  have X := Z.X
  obtain ⟨lo, kvs, ho, hf⟩ := ok
  refine' call_ro [(Str.ofString "self", .ref g.cdf), (Str.ofString "glyph", .int x t)] (g.cled w.params) (fun v => ∃ t, v = .int (clsOf x) t) ?Z ?F N hs ?k6 ?k7 ?k9 ?kB ?_ ?c2 ?c3 ?c4 ?c5 ?kQ
  walk_at "mine_sides"
  · intro g' L' h₁ tk sg sd so dp fr gs un A₀ base p loose mean mg mb B' T' X' Z' hU F' N' hl
    have TT : TabAt (intKind prog w) PyData.int h₁ g.mp clsData := TabAt.ofObj lo (N' (g.mp, g.om) (by simp)).1 ho hf
    k_steps
    rename_i hv
    rw [cls_lookup] at hv
    obtain ⟨t', rfl, _⟩ := reads_int_inv (hv h₁)
    exact ⟨_, by assumption, by assumption, ⟨_, _, rfl⟩, _, rfl⟩
  · rintro v h' tk F' N' ⟨t, rfl⟩
    exact hQ h' tk t F' N'

local macro_rules | `(tactic| walk_at "call ref") => `(tactic| (k_here; refine class_of_spec (by assumption) (by k_asm) (by k_asm) (by walk_at "mine_sub") (by assumption) ?_; intro _ _ _ _ _))

theorem clsOf_cases (x : Int) : clsOf x = 0 ∨ clsOf x = 1 ∨ clsOf x = 3 := by unfold clsOf; split; exact .inr (.inl rfl); split; exact .inr (.inr rfl); exact .inl rfl
theorem glyph_class_spec {g : Gd} {x c : Int} {t : Tok} {Q : Value → Shared → Prop} (Z : At w A env L h₀ (n+2)) (F : Fr h₀ L s.heap m) (N : News h₀ L s.heap news) (hs : ∀ p ∈ g.led w.params, p ∈ news) (ok : g.ok prog w) (hc : clsOf x = c)
    (hQ : ∀ h' tk t, Fr h₀ L h' m → News h₀ L h' news → Q (.int c t) { s with heap := h', toks := tk }) :
    wpAny (model prog w) A (call (.ref 597) [.ref g.gdf, .int x t]) Q E s := by
  have X := Z.X
  refine' call_ro [(Str.ofString "self", .ref g.gdf), (Str.ofString "glyph", .int x t)] (g.led w.params) (fun v => ∃ t, v = .int c t) ?Z ?F N hs ?k6 ?k7 ?k9 ?kB ?_ ?c2 ?c3 ?c4 ?c5 ?kQ
  walk_at "mine_sides"
  · intro g' L' h₁ tk sg sd so dp fr gs un A₀ base p loose mean mg mb B' T' X' Z' hU F' N' hl
    k_steps
    all_goals (walk_at "mine_end"; exact vint (by have := clsOf_cases x; omega))
  · rintro v h' tk F' N' ⟨t, rfl⟩
    exact hQ h' tk t F' N'

def bitOf (x : Int) : Int := if x = 1 then 2 else if x = 2 then 4 else if x = 3 then 8 else 0
theorem class_bit_spec {x : Int} {t : Tok} {Q : Value → Shared → Prop} (Z : At w A env L h₀ (n+1)) (F : Fr h₀ L s.heap m) (N : News h₀ L s.heap news)
    (hQ : ∀ h' tk t, Fr h₀ L h' m → News h₀ L h' news → Q (.int (bitOf x) t) { s with heap := h', toks := tk }) :
    wpAny (model prog w) A (call (.ref 210) [.int x t]) Q E s := by
  have X := Z.X
  refine' call_ro [(Str.ofString "number", .int x t)] [] (fun v => ∃ t, v = .int (bitOf x) t) ?Z ?F N (List.forall_mem_nil _) ?k6 ?k7 ?k9 ?kB ?_ ?c2 ?c3 ?c4 ?c5 ?kQ
  walk_at "mine_sides"
  · intro g' L' h₁ tk sg sd so dp fr gs un A₀ base p loose mean mg mb B' T' X' Z' hU F' N' hl
    k_steps
    all_goals (walk_at "mine_end"; exact vint (by simp [bitOf, *]))
  · rintro v h' tk F' N' ⟨t, rfl⟩
    exact hQ h' tk t F' N'

theorem attach_wanted_spec {x : Int} {t : Tok} {Q : Value → Shared → Prop} (Z : At w A env L h₀ (n+1)) (F : Fr h₀ L s.heap m) (N : News h₀ L s.heap news) (hx : 0 ≤ x ∧ x < 256)
    (hQ : ∀ h' tk t, Fr h₀ L h' m → News h₀ L h' news → Q (.int 0 t) { s with heap := h', toks := tk }) :
    wpAny (model prog w) A (call (.ref 203) [.int x t]) Q E s := by
  have X := Z.X
  refine' call_ro [(Str.ofString "flag", .int x t)] [] (fun v => ∃ t, v = .int 0 t) ?Z ?F N (List.forall_mem_nil _) ?k6 ?k7 ?k9 ?kB ?_ ?c2 ?c3 ?c4 ?c5 ?kQ
  walk_at "mine_sides"
  · intro g' L' h₁ tk sg sd so dp fr gs un A₀ base p loose mean mg mb B' T' X' Z' hU F' N' hl
    k_steps
    all_goals (walk_at "mine_end"; exact vint (by rw [Int.fdiv_eq_ediv_of_nonneg _ (by decide), Int.fmod_eq_emod_of_nonneg _ (by decide)]; omega))
  · rintro v h' tk F' N' ⟨t, rfl⟩
    exact hQ h' tk t F' N'

theorem is_piece_spec {i : Inf} {Q : Value → Shared → Prop} (Z : At w A env L h₀ (n+1)) (F : Fr h₀ L s.heap m) (N : News h₀ L s.heap news) (hs : ∀ p ∈ i.led w.params, p ∈ news) (h0 : i.ligId = 0)
    (hQ : ∀ h' tk, Fr h₀ L h' m → News h₀ L h' news → Q (.bool false) { s with heap := h', toks := tk }) :
    wpAny (model prog w) A (call (.ref 299) [.ref i.a]) Q E s := by
  have X := Z.X
  refine' call_ro [(Str.ofString "info", .ref i.a)] (i.led w.params) (fun v => v = .bool false) ?Z ?F N hs ?k6 ?k7 ?k9 ?kB ?_ ?c2 ?c3 ?c4 ?c5 ?kQ
  walk_at "mine_sides"
  · intro g' L' h₁ tk sg sd so dp fr gs un A₀ base p loose mean mg mb B' T' X' Z' hU F' N' hl
    k_steps
    all_goals (walk_at "mine_end"; simp_all)
  · rintro v h' tk F' N' rfl
    exact hQ h' tk F' N'

/-- a lookup of kind ligature -/
structure Lk where
  lk : Addr
  lkd : Addr
  tabs : Addr
  nl : Nat
  t : Nat → Tok
  u : Nat → Tok
def flagOf : Bool → Int
  | true => 8
  | false => 0
def Lk.es (P : Params) (k : Lk) (pass : Bool) : List DictEntry := [
  ⟨PyData.keyHash P (Str.ofString "kind"), .str (Str.ofString "kind") (k.t 0), .str (Str.ofString "ligature") (k.u 0)⟩,
  ⟨PyData.keyHash P (Str.ofString "flag"), .str (Str.ofString "flag") (k.t 1), .int (flagOf pass) (k.u 1)⟩,
  ⟨PyData.keyHash P (Str.ofString "mark_set"), .str (Str.ofString "mark_set") (k.t 2), .int 0 (k.u 2)⟩,
  ⟨PyData.keyHash P (Str.ofString "tables"), .str (Str.ofString "tables") (k.t 3), .ref k.tabs⟩]
abbrev Lk.led (P : Params) (k : Lk) (pass : Bool) : Led := [(k.lk, instObj 170 k.lkd), (k.lkd, dictOf (k.es P pass) k.nl)]

local macro_rules | `(tactic| walk_at "call ref") => `(tactic| (k_here; refine glyph_class_spec (by assumption) (by k_asm) (by k_asm) (by walk_at "mine_sub") (by assumption) (by first | assumption | exact rfl) ?_; intro _ _ _ _ _))
local macro_rules | `(tactic| walk_at "call ref") => `(tactic| (k_here; refine class_bit_spec (by assumption) (by k_asm) (by k_asm) ?_; intro _ _ _ _ _))
local macro_rules | `(tactic| walk_at "call ref") => `(tactic| (k_here; refine attach_wanted_spec (by assumption) (by k_asm) (by k_asm) (by decide) ?_; intro _ _ _ _ _))

/-- is a glyph passed over -/
def ign (pass : Bool) (x : Int) : Bool := pass && clsOf x == 3
theorem is_ignored_spec {g : Gd} {k : Lk} {pass : Bool} {x : Int} {t : Tok} {Q : Value → Shared → Prop} (Z : At w A env L h₀ (n+3)) (F : Fr h₀ L s.heap m) (N : News h₀ L s.heap news) (hs : ∀ p ∈ g.led w.params ++ k.led w.params pass, p ∈ news) (ok : g.ok prog w)
    (hQ : ∀ h' tk, Fr h₀ L h' m → News h₀ L h' news → Q (.bool (ign pass x)) { s with heap := h', toks := tk }) :
    wpAny (model prog w) A (call (.ref 217) [.ref g.gdf, .ref k.lk, .int x t]) Q E s := by
  have X := Z.X
  refine' call_ro [(Str.ofString "gdef", .ref g.gdf), (Str.ofString "lookup", .ref k.lk), (Str.ofString "glyph", .int x t)] (g.led w.params ++ k.led w.params pass) (fun v => v = .bool (ign pass x)) ?Z ?F N hs ?k6 ?k7 ?k9 ?kB ?_ ?c2 ?c3 ?c4 ?c5 ?kQ
  walk_at "mine_sides"
  · intro g' L' h₁ tk sg sd so dp fr gs un A₀ base p loose mean mg mb B' T' X' Z' hU F' N' hl
    simp only [List.cons_append, List.nil_append] at N'
    have hc3 := clsOf_cases x
    cases pass <;> rcases hc3 with hc | hc | hc
    all_goals k_steps
    all_goals (walk_at "mine_end"; simp [ign, *])
  · rintro v h' tk F' N' rfl
    exact hQ h' tk F' N'
/-- the closed side goals of a call rule -/
local macro_rules | `(tactic| walk_at "mine_endM") => `(tactic| refine (show OutM _ _ _ _ _ _ from ⟨_, _, by assumption, by assumption, ⟨_, _, rfl⟩, ?_⟩))

/-- a scene, its buffer -/
structure Sc where
  sc : Addr
  scd : Addr
  buf : Addr
  bfd : Addr
  row : Addr
  g : Gd
  k : Lk
  lks : Addr
  st : Addr
  ns : Nat
  t : Nat → Tok
  u : Nat → Tok
def Sc.es (P : Params) (c : Sc) : List DictEntry := [
  ⟨PyData.keyHash P (Str.ofString "buffer"), .str (Str.ofString "buffer") (c.t 0), .ref c.buf⟩,
  ⟨PyData.keyHash P (Str.ofString "gdef"), .str (Str.ofString "gdef") (c.t 1), .ref c.g.gdf⟩,
  ⟨PyData.keyHash P (Str.ofString "lookups"), .str (Str.ofString "lookups") (c.t 2), .ref c.lks⟩,
  ⟨PyData.keyHash P (Str.ofString "lookup"), .str (Str.ofString "lookup") (c.t 3), .ref c.k.lk⟩,
  ⟨PyData.keyHash P (Str.ofString "mask"), .str (Str.ofString "mask") (c.t 4), .int 1 (c.u 4)⟩,
  ⟨PyData.keyHash P (Str.ofString "depth"), .str (Str.ofString "depth") (c.t 5), .int 0 (c.u 5)⟩,
  ⟨PyData.keyHash P (Str.ofString "steps"), .str (Str.ofString "steps") (c.t 6), .ref c.st⟩]
def Sc.bs (P : Params) (c : Sc) (ll : Int) (tl : Tok) : List DictEntry := [
  ⟨PyData.keyHash P (Str.ofString "row"), .str (Str.ofString "row") (c.t 7), .ref c.row⟩,
  ⟨PyData.keyHash P (Str.ofString "is_backward"), .str (Str.ofString "is_backward") (c.t 8), .bool false⟩,
  ⟨PyData.keyHash P (Str.ofString "last_lig"), .str (Str.ofString "last_lig") (c.t 9), .int ll tl⟩,
  ⟨PyData.keyHash P (Str.ofString "last_split"), .str (Str.ofString "last_split") (c.t 10), .int 0 (c.u 10)⟩]
abbrev Sc.led (P : Params) (c : Sc) : Led := [(c.sc, instObj 192 c.scd), (c.scd, dictOf (c.es P) c.ns)]
abbrev Sc.bled (P : Params) (c : Sc) (ll : Int) (tl : Tok) (nb : Nat) : Led := [(c.buf, instObj 103 c.bfd), (c.bfd, dictOf (c.bs P ll tl) nb)]
abbrev tupOf (vs : List Value) (n : Nat) : Obj := { cls := .type "tuple", data := .seq vs.toArray n }
abbrev Inf.simC (i i' : Inf) : Prop := i'.a = i.a ∧ i'.d = i.d ∧ i'.glyph = i.glyph ∧ i'.ligId = i.ligId
abbrev Inf.simT (i i' : Inf) : Prop := i'.a = i.a ∧ i'.d = i.d ∧ i'.glyph = i.glyph
def updU (u : Nat → Tok) (k : Nat) (t : Tok) : Nat → Tok := fun j => if j = k then t else u j
theorem put_cluster {P : Params} {i : Inf} {c : Int} {tc : Tok} {h : Int} {k : Value} : (putL (Str.ofString "cluster") h k (.int c tc) (i.es P), putN (Str.ofString "cluster") (i.es P) i.n) = (Inf.es P { i with cluster := c, u := updU i.u 2 tc }, i.n) := by kernel_rfl
theorem put_mask {P : Params} {i : Inf} {c : Int} {tc : Tok} {h : Int} {k : Value} : (putL (Str.ofString "mask") h k (.int c tc) (i.es P), putN (Str.ofString "mask") (i.es P) i.n) = (Inf.es P { i with mask := c, u := updU i.u 3 tc }, i.n) := by kernel_rfl
theorem put_is_unsafe {P : Params} {i : Inf} {b : Bool} {h : Int} {k : Value} : (putL (Str.ofString "is_unsafe") h k (.bool b) (i.es P), putN (Str.ofString "is_unsafe") (i.es P) i.n) = (Inf.es P { i with uns := b }, i.n) := by kernel_rfl
theorem put_lig_id {P : Params} {i : Inf} {c : Int} {tc : Tok} {h : Int} {k : Value} : (putL (Str.ofString "lig_id") h k (.int c tc) (i.es P), putN (Str.ofString "lig_id") (i.es P) i.n) = (Inf.es P { i with ligId := c, u := updU i.u 5 tc }, i.n) := by kernel_rfl
theorem put_lig_part {P : Params} {i : Inf} {c : Int} {tc : Tok} {h : Int} {k : Value} : (putL (Str.ofString "lig_part") h k (.int c tc) (i.es P), putN (Str.ofString "lig_part") (i.es P) i.n) = (Inf.es P { i with ligPart := c, u := updU i.u 6 tc }, i.n) := by kernel_rfl
theorem put_lig_count {P : Params} {i : Inf} {c : Int} {tc : Tok} {h : Int} {k : Value} : (putL (Str.ofString "lig_count") h k (.int c tc) (i.es P), putN (Str.ofString "lig_count") (i.es P) i.n) = (Inf.es P { i with ligCount := c, u := updU i.u 7 tc }, i.n) := by kernel_rfl
theorem put_split_id {P : Params} {i : Inf} {c : Int} {tc : Tok} {h : Int} {k : Value} : (putL (Str.ofString "split_id") h k (.int c tc) (i.es P), putN (Str.ofString "split_id") (i.es P) i.n) = (Inf.es P { i with splitId := c, u := updU i.u 8 tc }, i.n) := by kernel_rfl
theorem put_glyph {P : Params} {i : Inf} {c : Int} {tc : Tok} {h : Int} {k : Value} : (putL (Str.ofString "glyph") h k (.int c tc) (i.es P), putN (Str.ofString "glyph") (i.es P) i.n) = (Inf.es P { i with glyph := c, u := updU i.u 1 tc }, i.n) := by kernel_rfl
theorem led_is {P : Params} {j : Inf} {a d : Addr} {n : Nat} (ha : a = j.a) (hd : d = j.d) (hn : n = j.n) : [(a, instObj 52 d), (d, dictOf (j.es P) n)] = j.led P := by subst ha hd hn; rfl
local macro_rules | `(tactic| walk_at "setAttr ref") => `(tactic| (k_here; k_dflt
  (refine set_dict (by k_asm) (by k_asm) (by k_asm) (by k_inst) (by exact rfl) (by k_is) (by k_is) (by k_is) (by k_is) (by k_get) (by first | exact put_cluster | exact put_is_unsafe | exact put_lig_id | exact put_lig_part | exact put_lig_count | exact put_split_id | exact put_glyph | exact put_mask) (by k_upd) (by exact Nat.le_of_ble_eq_true rfl) ?_; k_whole; intro _ _ _; (try k_sweep))))

theorem is_borne_spec {c : Sc} {i : Inf} {Q : Value → Shared → Prop} (Z : At w A env L h₀ (n+1)) (F : Fr h₀ L s.heap m) (N : News h₀ L s.heap news) (hs : ∀ p ∈ c.led w.params ++ i.led w.params, p ∈ news) (hm : i.mask = 1)
    (hQ : ∀ h' tk, Fr h₀ L h' m → News h₀ L h' news → Q (.bool true) { s with heap := h', toks := tk }) :
    wpAny (model prog w) A (call (.ref 257) [.ref c.sc, .ref i.a]) Q E s := by
  have X := Z.X
  refine' call_ro [(Str.ofString "scene", .ref c.sc), (Str.ofString "info", .ref i.a)] (c.led w.params ++ i.led w.params) (fun v => v = .bool true) ?Z ?F N hs ?k6 ?k7 ?k9 ?kB ?_ ?c2 ?c3 ?c4 ?c5 ?kQ
  walk_at "mine_sides"
  · intro g' L' h₁ tk sg sd so dp fr gs un A₀ base p loose mean mg mb B' T' X' Z' hU F' N' hl
    simp only [List.cons_append, List.nil_append] at N'
    k_steps
    all_goals (walk_at "mine_end"; rw [hm]; rfl)
  · rintro v h' tk F' N' rfl
    exact hQ h' tk F' N'

theorem fits_spec {ta : Addr} {y x : Int} {t0 t1 t2 : Tok} {nt : Nat} {Q : Value → Shared → Prop} (Z : At w A env L h₀ (n+1)) (F : Fr h₀ L s.heap m) (N : News h₀ L s.heap news) (hs : (ta, tupOf [.str (Str.ofString "glyph") t0, .int y t1] nt) ∈ news)
    (hQ : ∀ h' tk, Fr h₀ L h' m → News h₀ L h' news → Q (.bool (y == x)) { s with heap := h', toks := tk }) :
    wpAny (model prog w) A (call (.ref 250) [.ref ta, .int x t2]) Q E s := by
  have X := Z.X
  refine' call_ro [(Str.ofString "test", .ref ta), (Str.ofString "glyph", .int x t2)] [(ta, tupOf [.str (Str.ofString "glyph") t0, .int y t1] nt)] (fun v => v = .bool (y == x)) ?Z ?F N (by simpa using hs) ?k6 ?k7 ?k9 ?kB ?_ ?c2 ?c3 ?c4 ?c5 ?kQ
  walk_at "mine_sides"
  · intro g' L' h₁ tk sg sd so dp fr gs un A₀ base p loose mean mg mb B' T' X' Z' hU F' N' hl
    k_steps
    all_goals (walk_at "mine_end"; rfl)
  · rintro v h' tk F' N' rfl
    exact hQ h' tk F' N'

theorem set_cluster_spec {i : Inf} {c : Int} {tc : Tok} {Q : Value → Shared → Prop} (Z : At w A env L h₀ (n+1)) (F : Fr h₀ L s.heap m) (N : News h₀ L s.heap (i.led w.params))
    (hQ : ∀ h' tk i', Fr h₀ L h' m → News h₀ L h' (i'.led w.params) → Chg ((i.led w.params).map (·.1)) s.heap h' → i.simC i' → Q .none { s with heap := h', toks := tk }) :
    wpAny (model prog w) A (call (.ref 114) [.ref i.a, .int c tc]) Q E s := by
  have X := Z.X
  have hne := neN (ne_of_objs N (a := i.a) (b := i.d) (.head _) (.tail _ (.head _)) (by intro h; cases h))
  refine' call_mut [(Str.ofString "info", .ref i.a), (Str.ofString "cluster", .int c tc)] (fun v led' => v = .none ∧ ∃ i', led' = Inf.led w.params i' ∧ i.simC i') ?Z ?F N ?k6 ?k7 ?k9 ?kB ?_ ?c2 ?c3 ?c4 ?c5 ?kQ
  walk_at "mine_sides"
  · intro g' L' h₁ tk sg sd so dp fr gs un A₀ base p loose mean mg mb B' T' X' Z' hU F' N' hl
    k_steps
    · walk_at "mine_endM"
      exact ⟨rfl, { i with cluster := c, uns := false, u := updU i.u 2 tc }, rfl, rfl, rfl, rfl, rfl⟩
    · walk_at "mine_endM"
      exact ⟨rfl, i, rfl, rfl, rfl, rfl, rfl⟩
  · rintro v h' tk led' F' N' c ⟨rfl, i', rfl, hsim⟩
    exact hQ h' tk i' F' N' c hsim

theorem tie_spec {i : Inf} {lg ah ct : Int} {t1 t2 t3 : Tok} {Q : Value → Shared → Prop} (Z : At w A env L h₀ (n+1)) (F : Fr h₀ L s.heap m) (N : News h₀ L s.heap (i.led w.params))
    (hQ : ∀ h' tk i', Fr h₀ L h' m → News h₀ L h' (i'.led w.params) → Chg ((i.led w.params).map (·.1)) s.heap h' → i.simT i' → Q .none { s with heap := h', toks := tk }) :
    wpAny (model prog w) A (call (.ref 363) [.ref i.a, .int lg t1, .int ah t2, .int ct t3]) Q E s := by
  have X := Z.X
  have hne := neN (ne_of_objs N (a := i.a) (b := i.d) (.head _) (.tail _ (.head _)) (by intro h; cases h))
  refine' call_mut [(Str.ofString "info", .ref i.a), (Str.ofString "lig_id", .int lg t1), (Str.ofString "ahead", .int ah t2), (Str.ofString "count", .int ct t3)] (fun v led' => v = .none ∧ ∃ i', led' = Inf.led w.params i' ∧ i.simT i') ?Z ?F N ?k6 ?k7 ?k9 ?kB ?_ ?c2 ?c3 ?c4 ?c5 ?kQ
  walk_at "mine_sides"
  · intro g' L' h₁ tk sg sd so dp fr gs un A₀ base p loose mean mg mb B' T' X' Z' hU F' N' hl
    k_steps
    all_goals (walk_at "mine_endM"; exact ⟨rfl, _, led_is rfl rfl rfl, rfl, rfl, rfl⟩)
  · rintro v h' tk led' F' N' c ⟨rfl, i', rfl, hsim⟩
    exact hQ h' tk i' F' N' c hsim

theorem put_last_lig {P : Params} {c : Sc} {ll v : Int} {tl tv : Tok} {nb : Nat} {h : Int} {k : Value} : (putL (Str.ofString "last_lig") h k (.int v tv) (c.bs P ll tl), putN (Str.ofString "last_lig") (c.bs P ll tl) nb) = (c.bs P v tv, nb) := by kernel_rfl
local macro_rules | `(tactic| walk_at "setAttr ref") => `(tactic| (k_here; k_dflt
  (refine set_dict (by k_asm) (by k_asm) (by k_asm) (by k_inst) (by exact rfl) (by k_is) (by k_is) (by k_is) (by k_is) (by k_get) (by exact put_last_lig) (by k_upd) (by exact Nat.le_of_ble_eq_true rfl) ?_; k_whole; intro _ _ _; (try k_sweep))))
theorem next_lig_spec {c : Sc} {ll : Int} {tl : Tok} {nb : Nat} {Q : Value → Shared → Prop} (Z : At w A env L h₀ (n+1)) (F : Fr h₀ L s.heap m) (N : News h₀ L s.heap (c.bled w.params ll tl nb))
    (hQ : ∀ h' tk l' tl' t, Fr h₀ L h' m → News h₀ L h' (c.bled w.params l' tl' nb) → Chg ((c.bled w.params ll tl nb).map (·.1)) s.heap h' → Q (.int l' t) { s with heap := h', toks := tk }) :
    wpAny (model prog w) A (call (.ref 93) [.ref c.buf]) Q E s := by
  have X := Z.X
  have hne := neN (ne_of_objs N (a := c.buf) (b := c.bfd) (.head _) (.tail _ (.head _)) (by intro h; cases h))
  refine' call_mut [(Str.ofString "self", .ref c.buf)] (fun v led' => ∃ l' tl' t, v = .int l' t ∧ led' = c.bled w.params l' tl' nb) ?Z ?F N ?k6 ?k7 ?k9 ?kB ?_ ?c2 ?c3 ?c4 ?c5 ?kQ
  walk_at "mine_sides"
  · intro g' L' h₁ tk sg sd so dp fr gs un A₀ base p loose mean mg mb B' T' X' Z' hU F' N' hl
    k_steps
    all_goals (walk_at "mine_endM"; exact ⟨_, _, _, rfl, rfl⟩)
  · rintro v h' tk led' F' N' c ⟨l', tl', t, rfl, rfl⟩
    exact hQ h' tk l' tl' t F' N' c
local macro_rules | `(tactic| walk_at "mine_steps") => `(tactic| ((try k_fold); repeat' (walk_at "st_loop"; walk_at "st_gen"; walk_at "st_ass"; walk_at "st_one")))
/-- the closed side goals of a call rule -/



def infoLed (P : Params) (infos : List Inf) : Led := infos.flatMap (Inf.led P)
abbrev rowO (infos : List Inf) (nr : Nat) : Obj := listOf (infos.map fun i => Value.ref i.a).toArray nr
theorem memI {P : Params} {infos : List Inf} {k : Nat} {i : Inf} (h : infos[k]? = some i) : ∀ p ∈ i.led P, p ∈ infoLed P infos := fun _ hp => List.mem_flatMap.mpr ⟨i, List.mem_of_getElem? h, hp⟩
theorem memA {P : Params} {infos : List Inf} {k : Nat} {i : Inf} (h : infos[k]? = some i) : (i.a, instObj 52 i.d) ∈ infoLed P infos := memI h _ (.head _)
theorem memD {P : Params} {infos : List Inf} {k : Nat} {i : Inf} (h : infos[k]? = some i) : (i.d, dictOf (i.es P) i.n) ∈ infoLed P infos := memI h _ (.tail _ (.head _))
theorem memA' {P : Params} {infos : List Inf} {k : Nat} {i : Inf} (h : infos[k]? = some i) : List.Mem (i.a, instObj 52 i.d) (infoLed P infos) := memA h
theorem memD' {P : Params} {infos : List Inf} {k : Nat} {i : Inf} (h : infos[k]? = some i) : List.Mem (i.d, dictOf (i.es P) i.n) (infoLed P infos) := memD h
theorem memOf {p : Addr × Obj} {l : Led} (h : List.Mem p l) : p ∈ l := h
local macro_rules | `(tactic| k_mem) => `(tactic| with_reducible first | assumption | exact memOf (by assumption) | exact memA' (by assumption) | exact memD' (by assumption) | exact memA (by assumption) | exact memD (by assumption))

abbrev Sc.full (P : Params) (c : Sc) (pass : Bool) (ll : Int) (tl : Tok) (nb : Nat) (infos : List Inf) (nr : Nat) : Led :=
  (c.sc, instObj 192 c.scd) :: (c.scd, dictOf (c.es P) c.ns) :: (c.buf, instObj 103 c.bfd) :: (c.bfd, dictOf (c.bs P ll tl) nb) :: (c.row, rowO infos nr) ::
  (c.g.gdf, instObj 619 c.g.gdd) :: (c.g.gdd, dictOf (c.g.es P) c.g.ng) :: (c.g.cdf, instObj 571 c.g.cdd) :: (c.g.cdd, dictOf (c.g.cs P) c.g.nc) :: (c.g.mp, c.g.om) ::
  (c.k.lk, instObj 170 c.k.lkd) :: (c.k.lkd, dictOf (c.k.es P pass) c.k.nl) :: infoLed P infos


theorem item_row {value slice : PySem.Expr} {infos : List Inf} {r : Addr} {nr : Nat} {k : Int} {u : Tok} {i : Inf} {Q : Value → Shared → Prop} (N : News h₀ L s.heap news) (hm : (r, rowO infos nr) ∈ news) (h0 : 0 ≤ k) (hk : k < 2 ^ 63) (hi : infos[k.toNat]? = some i) (h : Q (.ref i.a) s)
    (hs : subscripted slice false (.ref r) (.int k u) = operate [.ref r, .int k u] (getItem (.ref r) (.int k u)) := by with_unfolding_all rfl) :
    wpAny (model prog w) A (subscriptTail value slice (.ref r) (.int k u)) Q E s :=
  have hL : s.heap.IsList r (infos.map fun i => Value.ref i.a).toArray := ⟨_, (N _ hm).1, rfl, _, rfl⟩
  tail_any hL.typeIs slot_list_getitem.lookup (wpAny_getItem_list hL h0 hk (by simp [hi]) h) hs

theorem len_row {infos : List Inf} {r : Addr} {nr : Nat} {Q : Value → Shared → Prop} (N : News h₀ L s.heap news) (hm : (r, rowO infos nr) ∈ news) (hk : infos.length ≤ 1000) (h : ∀ t tk, Q (.int infos.length t) { s with toks := tk }) :
    wpAny (model prog w) A (call (.builtin "len") [.ref r]) Q E s := by
  have hL : s.heap.IsList r (infos.map fun i => Value.ref i.a).toArray := ⟨_, (N _ hm).1, rfl, _, rfl⟩
  refine Calls.call_len_list hL (by simp; omega) ?_
  have := h (s.toks + 1) (s.toks + 1 + 1)
  simpa using this
local macro_rules | `(tactic| walk_at "call builtin:len") => `(tactic| (k_here; k_dflt (refine len_row (by k_asm) (by k_mem) (by omega) ?_; intro _ _)))
local macro_rules | `(tactic| walk_at "subscriptTail") => `(tactic| (k_here; (with_reducible show wpAny _ _ (subscriptTail _ _ (Value.ref _) (Value.int _ _)) _ _ _); k_dflt (refine item_row (by k_asm) (by k_mem) (by omega) (by omega) (by assumption) ?_)))
local macro_rules | `(tactic| walk_at "call ref") => `(tactic| (k_here; refine is_ignored_spec (by assumption) (by k_asm) (by k_asm) (by simp only [List.cons_append, List.nil_append]; walk_at "mine_sub") (by assumption) ?_; intro _ _ _ _))

theorem passes_spec {c : Sc} {pass : Bool} {ll : Int} {tl : Tok} {nb nr : Nat} {infos : List Inf} {k : Int} {i : Inf} {t : Tok} {Q : Value → Shared → Prop} (Z : At w A env L h₀ (n+4)) (F : Fr h₀ L s.heap m) (N : News h₀ L s.heap news)
    (hs : ∀ p ∈ c.full w.params pass ll tl nb infos nr, p ∈ news) (ok : c.g.ok prog w) (h0 : 0 ≤ k) (hk : k < 2 ^ 63) (hi : infos[k.toNat]? = some i)
    (hQ : ∀ h' tk, Fr h₀ L h' m → News h₀ L h' news → Q (.bool (ign pass i.glyph)) { s with heap := h', toks := tk }) :
    wpAny (model prog w) A (call (.ref 224) [.ref c.sc, .int k t]) Q E s := by
  have X := Z.X
  refine' call_ro [(Str.ofString "scene", .ref c.sc), (Str.ofString "at", .int k t)] (c.full w.params pass ll tl nb infos nr) (fun v => v = .bool (ign pass i.glyph)) ?Z ?F N hs ?k6 ?k7 ?k9 ?kB ?_ ?c2 ?c3 ?c4 ?c5 ?kQ
  walk_at "mine_sides"
  · intro g' L' h₁ tk sg sd so dp fr gs un A₀ base p loose mean mg mb B' T' X' Z' hU F' N' hl
    walk_at "mine_steps"
    walk_at "mine_end"
    rfl
  · rintro v h' tk F' N' rfl
    exact hQ h' tk F' N'

def skip (pass : Bool) (gl : List Int) (k : Nat) : Nat := k + ((gl.drop k).takeWhile (ign pass)).length
abbrev glOf (infos : List Inf) : List Int := infos.map (·.glyph)
theorem skip_stop {pass : Bool} {gl : List Int} {k : Nat} {x : Int} (h : gl[k]? = some x) (hx : ign pass x = false) : skip pass gl k = k := by
  obtain ⟨hk, rfl⟩ := List.getElem?_eq_some_iff.mp h
  unfold skip; rw [List.drop_eq_getElem_cons hk, List.takeWhile_cons, hx]; simp
theorem skip_go {pass : Bool} {gl : List Int} {k : Nat} {x : Int} (h : gl[k]? = some x) (hx : ign pass x = true) : skip pass gl k = skip pass gl (k + 1) := by
  obtain ⟨hk, rfl⟩ := List.getElem?_eq_some_iff.mp h
  unfold skip; rw [List.drop_eq_getElem_cons hk, List.takeWhile_cons, hx]; simp; omega
theorem skip_end {pass : Bool} {gl : List Int} {k : Nat} (h : gl.length ≤ k) : skip pass gl k = k := by
  unfold skip; rw [List.drop_eq_nil_of_le h]; simp
/-- the place behind `at` where the glyph `y` is met, or -1 -/
def nextAt (pass : Bool) (gl : List Int) (y : Int) (at_ : Nat) : Int := if gl[skip pass gl (at_ + 1)]? = some y then (skip pass gl (at_ + 1) : Nat) else -1
theorem nextAt_of {pass : Bool} {gl : List Int} {y : Int} {at_ j : Nat} (h : skip pass gl (at_ + 1) = j) : nextAt pass gl y at_ = if gl[j]? = some y then (j : Int) else -1 := by unfold nextAt; rw [h]

local macro_rules | `(tactic| walk_at "call ref") => `(tactic| (k_here; refine passes_spec (by assumption) (by k_asm) (by k_asm) (by assumption) (by assumption) (by omega) (by omega) (by assumption) ?_; intro _ _ _ _))
local macro_rules | `(tactic| walk_at "call ref") => `(tactic| (k_here; refine fits_spec (by assumption) (by k_asm) (by k_asm) (by k_mem) ?_; intro _ _ _ _))
local macro_rules | `(tactic| walk_at "call ref") => `(tactic| (k_here; refine is_borne_spec (by assumption) (by k_asm) (by k_asm) (by simp only [List.cons_append, List.nil_append]; walk_at "mine_sub") (by assumption) ?_; intro _ _ _ _))

theorem kinds_notin {u : Tok} {Q : Value → Shared → Prop} (F : Fr h₀ L s.heap m) (X : (hd.heap_1 w.params).In h₀) (h : Q (.bool true) s) : wpAny (model prog w) A (compareOp .NotIn (.str (Str.ofString "") u) (.ref 232)) Q E s := by
  refine' notin_tuple_strs (ys := [Str.ofString "zwj", Str.ofString "hidden"]) (tupK (X.keeps F.keep) ?hl) ?hi ?_
  case hl => k_is
  · repeat constructor
  · have e : (!([Str.ofString "zwj", Str.ofString "hidden"].any (· == Str.ofString ""))) = true := by decide +kernel
    rw [e]; exact h
local macro_rules | `(tactic| walk_at "compareOp NotIn str ref") => `(tactic| (k_here; refine kinds_notin (by k_asm) (by assumption) ?_))

def faMap (c : Sc) (at_ : Int) (t1 t2 : Tok) (ta : Addr) (vi : Option Value) (j : Nat) (tj : Tok) : Map := fun y => if y = Str.ofString "info" then vi else if y = Str.ofString "here" then some (.int j tj) else
  List.lookup y [(Str.ofString "scene", .ref c.sc), (Str.ofString "at", .int at_ t1), (Str.ofString "step", .int 1 t2), (Str.ofString "test", .ref ta), (Str.ofString "kinds", .ref 232), (Str.ofString "is_input", .bool true)].reverse

theorem map_new {x y : Str} {v : Option Value} {M : Map} (hM : M x = none) (hxy : x ≠ y) : (fun z => if z = y then v else M z) = (fun z => if z = x then none else if z = y then v else M z) := by
  funext z
  by_cases h : z = x
  · subst h; simp [hM, hxy]
  · simp [h]
theorem map_swap {x y : Str} {v u u' : Option Value} {M : Map} (hxy : x ≠ y) : (fun z => if z = y then v else if z = x then u else if z = y then u' else M z) = (fun z => if z = x then u else if z = y then v else M z) := by
  funext z
  by_cases h : z = x
  · subst h; simp [hxy]
  · by_cases h' : z = y <;> simp [h, h', hxy.symm]
theorem map_swap2 {x y : Str} {v u u' u'' : Option Value} {M : Map} (hxy : x ≠ y) : (fun z => if z = y then v else if z = x then u else if z = x then u'' else if z = y then u' else M z) = (fun z => if z = x then u else if z = y then v else M z) := by
  funext z
  by_cases h : z = x
  · subst h; simp [hxy]
  · by_cases h' : z = y <;> simp [h, h', hxy.symm]

inductive FaI (P : Params) (ta : Addr) (t3 : Tok) (y : Int) (t4 : Tok) (nt : Nat) (c : Sc) (pass : Bool) (ll : Int) (tl : Tok) (nb : Nat) (infos : List Inf) (nr : Nat) (at_ : Nat) (t1 : Tok) (t2 : Tok) (r : Nat) (m₁ : Map) (led₁ : Led) : Prop
  | mk (h1 : led₁ = (ta, tupOf [.str (Str.ofString "glyph") t3, .int y t4] nt) :: c.full P pass ll tl nb infos nr) (j tj vi : _) (h2 : j ≤ infos.length) (h3 : skip pass (glOf infos) (at_ + 1) = skip pass (glOf infos) j) (h4 : r = infos.length - j) (h5 : m₁ = faMap c at_ t1 t2 ta vi j tj)
theorem found_at_spec {c : Sc} {pass : Bool} {ll : Int} {tl : Tok} {nb nr : Nat} {infos : List Inf} {at_ : Nat} {t1 t2 t3 t4 : Tok} {ta nt : Nat} {y : Int} {Q : Value → Shared → Prop} (Z : At w A env L h₀ (n+5)) (F : Fr h₀ L s.heap m) (N : News h₀ L s.heap news)
    (hs : ∀ p ∈ (ta, tupOf [.str (Str.ofString "glyph") t3, .int y t4] nt) :: c.full w.params pass ll tl nb infos nr, p ∈ news) (ok : c.g.ok prog w) (hlen : infos.length ≤ 100) (hat : at_ < infos.length) (hm : ∀ i ∈ infos, i.mask = 1)
    (hQ : ∀ h' tk t, Fr h₀ L h' m → News h₀ L h' news → Q (.int (nextAt pass (glOf infos) y at_) t) { s with heap := h', toks := tk }) :
    wpAny (model prog w) A (call (.ref 264) [.ref c.sc, .int at_ t1, .int 1 t2, .ref ta, .ref 232, .bool true]) Q E s := by
  have X := Z.X
  refine' call_ro [(Str.ofString "scene", .ref c.sc), (Str.ofString "at", .int at_ t1), (Str.ofString "step", .int 1 t2), (Str.ofString "test", .ref ta), (Str.ofString "kinds", .ref 232), (Str.ofString "is_input", .bool true)] ((ta, tupOf [.str (Str.ofString "glyph") t3, .int y t4] nt) :: c.full w.params pass ll tl nb infos nr) (fun v => ∃ t, v = .int (nextAt pass (glOf infos) y at_) t) ?Z ?F N hs ?k6 ?k7 ?k9 ?kB ?_ ?c2 ?c3 ?c4 ?c5 ?kQ
  walk_at "mine_sides"
  · intro g' L' h₁ tk sg sd so dp fr gs un A₀ base p loose mean mg mb B' T' X' Z' hU F' N' hl
    walk_at "mine_steps"
    rename_i h2 F2 N2
    refine wpAny_execs_cons ?_
    refine while_own (FaI w.params ta t3 y t4 nt c pass ll tl nb infos nr at_ t1 t2) (infos.length - (at_ + 1)) F2 N2 ?_ ?_
    · exact ⟨rfl, at_ + 1, _, none, by omega, rfl, rfl, map_new rfl (by decide)⟩
    · rintro r m₁ led₁ s₁ ⟨h₃, tk₃, rfl⟩ F3 N3 ⟨rfl, j, tj, vi, hj, hsk, rfl, rfl⟩
      clear F2 N2
      by_cases hlt : j < infos.length
      · obtain ⟨i, hi⟩ : ∃ i, infos[((j : Nat) : Int).toNat]? = some i := ⟨infos[j], by simp [hlt]⟩
        have hmi : i.mask = 1 := hm i (List.mem_of_getElem? hi)
        have hfull : ∀ p ∈ c.full w.params pass ll tl nb infos nr, p ∈ (ta, tupOf [.str (Str.ofString "glyph") t3, .int y t4] nt) :: c.full w.params pass ll tl nb infos nr := fun p hp => .tail _ hp
        have hgl : (glOf infos)[j]? = some i.glyph := by simpa using congrArg (Option.map (·.glyph)) hi
        walk_at "mine_steps"
        · rename_i hig _ _ _
          refine ⟨infos.length - (j + 1), _, _, by omega, ⟨_, _, rfl⟩, by assumption, by assumption, rfl, j + 1, _, vi, by omega, by rw [hsk]; exact skip_go hgl hig, rfl, by unfold faMap; exact map_swap (by decide)⟩
        · (with_reducible rename (ign pass i.glyph = false) => hnig)
          (with_reducible rename (y = i.glyph) => hy)
          walk_at "mine_end"
          exact vint (by rw [nextAt_of (hsk.trans (skip_stop hgl hnig)), hgl, hy]; simp)
        · (with_reducible rename (ign pass i.glyph = false) => hnig)
          (with_reducible rename (¬ y = i.glyph) => hy)
          walk_at "mine_end"
          exact vint (by rw [nextAt_of (hsk.trans (skip_stop hgl hnig)), hgl, if_neg (by simpa using Ne.symm hy)])
      · walk_at "mine_steps"
        walk_at "mine_end"
        exact vint (by rw [nextAt_of (hsk.trans (skip_end (by simp; omega))), if_neg (by rw [List.getElem?_eq_none (by simp; omega)]; simp)])
  · rintro v h' tk F' N' ⟨t, rfl⟩
    exact hQ h' tk t F' N'
/-- the closed side goals of a call rule -/




theorem sl_list {value slice : PySem.Expr} {vs : List Value} {l : Addr} {nr : Nat} {a b : Int} {ta tb : Tok} {Q : Value → Shared → Prop} (F : Fr h₀ L s.heap m) (N : News h₀ L s.heap news) (hm : (l, listOf vs.toArray nr) ∈ news)
    (h0 : 0 ≤ a) (h1 : a ≤ b) (h2 : b ≤ vs.length) (hz : vs.length ≤ 1000)
    (h : ∀ h' D, Fr h₀ L h' m → News h₀ L h' ((D, listOf ((vs.drop a.toNat).take (b - a).toNat).toArray 0) :: news) → (∀ p ∈ news, p.1 < D) → Q (.ref D) { s with heap := h' })
    (hs : subscripted slice false (.ref l) (.ref s.heap.objs.size) = operate [.ref s.heap.objs.size, .ref l] (getItem (.ref l) (.ref s.heap.objs.size)) := by with_unfolding_all rfl) :
    wpAny (model prog w) A (subscriptTail value slice (.ref l) (.ref s.heap.objs.size)) Q E { s with heap := s.heap.push { cls := .type "slice", data := .fields #[.int a ta, .int b tb, .none] } } := by
  have hL : s.heap.IsList l vs.toArray := ⟨_, (N _ hm).1, rfl, _, rfl⟩
  have ea : a = (a.toNat : Int) := by omega
  have eb : b = (b.toNat : Int) := by omega
  have hsz : vs.toArray.size ≤ sizeLine := by have : (1000 : Nat) ≤ sizeLine := by decide
                                              simp; omega
  refine tail_any (Heap.IsList.typeIs (s := { s with heap := s.heap.push { cls := .type "slice", data := .fields #[.int a ta, .int b tb, .none] } }) (hL.push _)) list_getitem_lookup
    (wpAny_getItem_list_slice (hL.push _) (Heap.IsSliceOf.new ..) (.int a ta) (.int b tb) .none (by simp) ?_ hsz) hs
  have e : slicePick vs.toArray (some a) (some b) none = ((vs.drop a.toNat).take (b - a).toNat).toArray := by
    rw [ea, eb, slicePick_run vs.toArray a.toNat b.toNat (by simp; omega) (by omega)]
    congr 2
    omega
  rw [e]
  have N1 := News.push (F.push { cls := .type "slice", data := .fields #[.int a ta, .int b tb, .none] }) (N.grown fun _ _ e => Heap.get?_push_of_some _ e) { cls := .type "list", data := .seq ((vs.drop a.toNat).take (b - a).toNat).toArray }
  exact h _ _ ((F.push _).push _) N1 (fun p hp => by rw [Heap.size_push]; exact Nat.lt_succ_of_lt (Heap.lt_size (N p hp).1))

theorem sl_from {value slice : PySem.Expr} {vs : List Value} {l : Addr} {nr : Nat} {a : Int} {ta : Tok} {Q : Value → Shared → Prop} (F : Fr h₀ L s.heap m) (N : News h₀ L s.heap news) (hm : (l, listOf vs.toArray nr) ∈ news)
    (h0 : 0 ≤ a) (h2 : a ≤ vs.length) (hz : vs.length ≤ 1000)
    (h : ∀ h' D, Fr h₀ L h' m → News h₀ L h' ((D, listOf (vs.drop a.toNat).toArray 0) :: news) → (∀ p ∈ news, p.1 < D) → Q (.ref D) { s with heap := h' })
    (hs : subscripted slice false (.ref l) (.ref s.heap.objs.size) = operate [.ref s.heap.objs.size, .ref l] (getItem (.ref l) (.ref s.heap.objs.size)) := by with_unfolding_all rfl) :
    wpAny (model prog w) A (subscriptTail value slice (.ref l) (.ref s.heap.objs.size)) Q E { s with heap := s.heap.push { cls := .type "slice", data := .fields #[.int a ta, .none, .none] } } := by
  have hL : s.heap.IsList l vs.toArray := ⟨_, (N _ hm).1, rfl, _, rfl⟩
  have ea : a = (a.toNat : Int) := by omega
  have hsz : vs.toArray.size ≤ sizeLine := by have : (1000 : Nat) ≤ sizeLine := by decide
                                              simp; omega
  refine tail_any (Heap.IsList.typeIs (s := { s with heap := s.heap.push { cls := .type "slice", data := .fields #[.int a ta, .none, .none] } }) (hL.push _)) list_getitem_lookup
    (wpAny_getItem_list_slice (hL.push _) (Heap.IsSliceOf.new ..) (.int a ta) .none .none (by simp) ?_ hsz) hs
  have e : slicePick vs.toArray (some a) none none = (vs.drop a.toNat).toArray := by
    rw [ea, slicePick_from vs.toArray a.toNat (by simp; omega)]
    congr 2
  rw [e]
  have N1 := News.push (F.push { cls := .type "slice", data := .fields #[.int a ta, .none, .none] }) (N.grown fun _ _ e => Heap.get?_push_of_some _ e) { cls := .type "list", data := .seq (vs.drop a.toNat).toArray }
  exact h _ _ ((F.push _).push _) N1 (fun p hp => by rw [Heap.size_push]; exact Nat.lt_succ_of_lt (Heap.lt_size (N p hp).1))

theorem sl_tup1 {value slice : PySem.Expr} {vs : List Value} {v : Value} {l : Addr} {nr : Nat} {ta : Tok} {Q : Value → Shared → Prop} (F : Fr h₀ L s.heap m) (N : News h₀ L s.heap news) (hm : (l, tupOf (v :: vs) nr) ∈ news)
    (hz : vs.length ≤ 1000)
    (h : ∀ h' D, Fr h₀ L h' m → News h₀ L h' ((D, tupOf vs 0) :: news) → (∀ p ∈ news, p.1 < D) → Q (.ref D) { s with heap := h' })
    (hs : subscripted slice false (.ref l) (.ref s.heap.objs.size) = operate [.ref s.heap.objs.size, .ref l] (getItem (.ref l) (.ref s.heap.objs.size)) := by with_unfolding_all rfl)
    (hg : ∀ r, letTemporaryGo value (.ref l) r = pure () := by intro _; with_unfolding_all rfl) :
    wpAny (model prog w) A (subscriptTail value slice (.ref l) (.ref s.heap.objs.size)) Q E { s with heap := s.heap.push { cls := .type "slice", data := .fields #[.int 1 ta, .none, .none] } } := by
  have ht : IsTup s.heap l (v :: vs).toArray := ⟨_, (N _ hm).1, rfl, _, rfl⟩
  have hsz : (v :: vs).toArray.size ≤ sizeLine := by have : (1001 : Nat) ≤ sizeLine := by decide
                                                     simp; omega
  refine slice_tuple_from (a := 1) F N ht (Nat.le_refl _) (by simp) (fun h' F' N' => h h' _ F' ?_ ?_) hs hg hsz
  · simpa using N'
  · exact fun p hp => Nat.lt_succ_of_lt (Heap.lt_size (N p hp).1)

theorem item_tup0 {value slice : PySem.Expr} {v : Value} {vs : List Value} {l : Addr} {nr : Nat} {u : Tok} {Q : Value → Shared → Prop} (N : News h₀ L s.heap news) (hm : (l, tupOf (v :: vs) nr) ∈ news) (h : Q v s)
    (hs : subscripted slice false (.ref l) (.int 0 u) = operate [.ref l, .int 0 u] (getItem (.ref l) (.int 0 u)) := by with_unfolding_all rfl) :
    wpAny (model prog w) A (subscriptTail value slice (.ref l) (.int 0 u)) Q E s :=
  item_tupleT (l := v :: vs) (j := 0) ⟨_, (N _ hm).1, rfl, _, rfl⟩ (by decide) (by decide) (by simp [seqIndex?]) rfl h hs
local macro_rules | `(tactic| walk_at "subscriptTail") => `(tactic| (k_here; (with_reducible show wpAny _ _ (subscriptTail _ _ (Value.ref _) (Value.int 0 _)) _ _ _); k_dflt (refine item_tup0 (by k_asm) (by k_mem) ?_)))
local macro_rules | `(tactic| walk_at "sz") => `(tactic| first | omega | (simp; omega))
local macro_rules | `(tactic| walk_at "subscriptTail Name Slice ref ref") => `(tactic| (k_here; (with_reducible show wpAny _ _ (subscriptTail _ (PySem.Expr.Slice _ _ none _) (Value.ref _) (Value.ref _)) _ _ _); k_dflt (first | refine sl_list (by k_asm) (by k_asm) (by k_mem) (by omega) (by omega) (by walk_at "sz") (by walk_at "sz") ?_ | refine sl_from (by k_asm) (by k_asm) (by k_mem) (by omega) (by walk_at "sz") (by walk_at "sz") ?_ | refine sl_tup1 (by k_asm) (by k_asm) (by k_mem) (by walk_at "sz") ?_); intro _ _ _ _ _))

/-- a test of a glyph -/
structure Tst where
  a : Addr
  n : Nat
  t0 : Tok
  t1 : Tok
  g : Int
abbrev Tst.obj (t : Tst) : Obj := tupOf [.str (Str.ofString "glyph") t.t0, .int t.g t.t1] t.n
def tstLed (ts : List Tst) : Led := ts.map fun t => (t.a, t.obj)
theorem memT' {ts : List Tst} {t : Tst} (h : t ∈ ts) : List.Mem (t.a, t.obj) (tstLed ts) := List.mem_map.mpr ⟨t, h, rfl⟩
theorem memR {p : Addr × Obj} {l r : Led} (h : List.Mem p r) : List.Mem p (l ++ r) := List.mem_append_right _ h
theorem memL {p : Addr × Obj} {l r : Led} (h : List.Mem p l) : List.Mem p (l ++ r) := List.mem_append_left _ h
local macro_rules | `(tactic| k_mem) => `(tactic| first | (with_reducible exact memL (memT' (by assumption))) | ((with_reducible refine' memR ?_); k_mem) | (with_reducible exact memT' (by assumption)))

/-- the places behind `at_` where the glyphs are met one by one -/
def plc (pass : Bool) (gl : List Int) : Nat → List Int → Option (List Nat)
  | _, [] => some []
  | k, r :: rs => if gl[skip pass gl (k + 1)]? = some r then (plc pass gl (skip pass gl (k + 1)) rs).map (skip pass gl (k + 1) :: ·) else none

local macro_rules | `(tactic| walk_at "call ref") => `(tactic| (k_here; refine found_at_spec (by assumption) (by k_asm) (by k_asm) (by assumption) (by assumption) (by omega) (by omega) (by assumption) ?_; intro _ _ _ _ _))
theorem item_ints {value slice : PySem.Expr} {vs : List Value} {ns : List Int} {l : Addr} {nr : Nat} {k x : Int} {u : Tok} {Q : Value → Shared → Prop} (N : News h₀ L s.heap news) (hm : (l, listOf vs.toArray nr) ∈ news) (hi : IntsAre vs ns) (h0 : 0 ≤ k) (hk : k < 2 ^ 63) (hx : ns[k.toNat]? = some x) (h : ∀ t, Q (.int x t) s)
    (hs : subscripted slice false (.ref l) (.int k u) = operate [.ref l, .int k u] (getItem (.ref l) (.int k u)) := by with_unfolding_all rfl) :
    wpAny (model prog w) A (subscriptTail value slice (.ref l) (.int k u)) Q E s := by
  have hL : s.heap.IsList l vs.toArray := ⟨_, (N _ hm).1, rfl, _, rfl⟩
  obtain ⟨t, ht⟩ := hi.get _ _ hx
  exact tail_any hL.typeIs slot_list_getitem.lookup (wpAny_getItem_list hL h0 hk (by simp [ht]) (h t)) hs
theorem item_last {value slice : PySem.Expr} {vs : List Value} {ns : List Int} {l : Addr} {nr : Nat} {x : Int} {u : Tok} {Q : Value → Shared → Prop} (N : News h₀ L s.heap news) (hm : (l, listOf vs.toArray nr) ∈ news) (hi : IntsAre vs ns) (hz : vs.length ≤ 1000) (hx : ns.getLast? = some x) (h : ∀ t, Q (.int x t) s)
    (hs : subscripted slice false (.ref l) (.int (-1) u) = operate [.ref l, .int (-1) u] (getItem (.ref l) (.int (-1) u)) := by with_unfolding_all rfl) :
    wpAny (model prog w) A (subscriptTail value slice (.ref l) (.int (-1) u)) Q E s := by
  have hL : s.heap.IsList l vs.toArray := ⟨_, (N _ hm).1, rfl, _, rfl⟩
  have hlen := hi.length
  have hpos : 0 < ns.length := by cases ns with
    | nil => simp at hx
    | cons => simp
  have hx' : ns[ns.length - 1]? = some x := by rw [← hx, List.getLast?_eq_getElem?]
  obtain ⟨t, ht⟩ := hi.get _ _ hx'
  have e : ((-1 : Int) + (vs.toArray.size : Int)).toNat = ns.length - 1 := by rw [List.size_toArray, hlen]; omega
  refine tail_any hL.typeIs slot_list_getitem.lookup (wpAny_getItem_list_neg hL (by decide) (by rw [List.size_toArray, hlen]; omega) (by decide) (by rw [e]; simp [ht]) (h t)) hs
theorem append_L {vs : List Value} {D : Addr} {k : Nat} {x : Value} {news' : Led} {Q : Value → Shared → Prop} (F : Fr h₀ L s.heap m) (N : News h₀ L s.heap news) (U : Upd D (listOf vs.toArray k) (listOf (vs ++ [x]).toArray (k + 1)) news news') (hz : vs.length ≤ 1000)
    (h : ∀ h', Fr h₀ L h' m → News h₀ L h' news' → Q .none { s with heap := h' }) : wpAny (model prog w) A (call (.builtin "list.append") [.ref D, x]) Q E s := by
  have hsz : vs.toArray.size ≤ sizeLine := by have : (1000 : Nat) ≤ sizeLine := by decide
                                              simp; omega
  exact append_K F N (by rw [List.push_toArray]; exact U) h hsz
local macro_rules | `(tactic| k_all) => `(tactic| with_reducible assumption)
local macro_rules | `(tactic| walk_at "call builtin:list.append") => `(tactic| (k_here; (with_reducible show wpAny _ _ (call (Value.builtin _) [Value.ref _, _]) _ _ _); k_dflt (refine append_L (by k_asm) (by k_asm) (by k_upd) (by omega) ?_); intro _ _ _))
local macro_rules | `(tactic| walk_at "subscriptTail Name UnaryOp ref int") => `(tactic| (k_here; (with_reducible show wpAny _ _ (subscriptTail _ (PySem.Expr.UnaryOp _ _ _) (Value.ref _) (Value.int _ _)) _ _ _); k_dflt (refine item_last (by k_asm) (by k_mem) (by assumption) (by omega) (by assumption) ?_; intro _)))
/-- an item and the whole scene in a longer ledger -/
theorem sub_mem {p : Addr × Obj} {l r : Led} (h : ∀ p ∈ l, p ∈ r) (hp : List.Mem p l) : List.Mem p r := h p hp
local macro_rules | `(tactic| walk_at "mine_subf") => `(tactic| (intro p hp; have hp' : List.Mem p _ := hp; repeat' (first | (with_reducible exact hp') | (with_reducible exact sub_mem (by assumption) hp') | (with_reducible refine' memR ?_) | refine' List.Mem.tail _ ?_)))
local macro_rules | `(tactic| walk_at "call ref") => `(tactic| (k_here; refine found_at_spec (by assumption) (by k_asm) (by k_asm) (by exact List.forall_mem_cons.mpr ⟨by k_mem, by walk_at "mine_subf"⟩) (by assumption) (by omega) (by omega) (by assumption) ?_; intro _ _ _ _ _))
theorem allLt_ne {d : Addr} (l : Led) (h : AllLt d l) : ∀ p ∈ l, p.1 ≠ d := by
  induction l with
  | nil => exact fun _ hp => absurd hp (List.not_mem_nil)
  | cons q r ih =>
    obtain ⟨h1, h2⟩ := h
    intro p hp
    rcases List.mem_cons.mp hp with e | e
    · rw [e]; exact neL h1
    · exact ih h2 p e
def iaMap (c : Sc) (at_ : Nat) (t1 : Tok) (tt fl : Addr) (vt vh : Option Value) : Map := fun y => if y = Str.ofString "here" then vh else if y = Str.ofString "test" then vt else if y = Str.ofString "found" then some (.ref fl) else
  List.lookup y [(Str.ofString "scene", .ref c.sc), (Str.ofString "at", .int at_ t1), (Str.ofString "tests", .ref tt)].reverse
theorem map_redo {x y : Str} {v u v' u' : Option Value} {M : Map} : (fun z => if z = y then v else if z = x then u else if z = y then v' else if z = x then u' else M z) = (fun z => if z = y then v else if z = x then u else M z) := by
  funext z
  by_cases h : z = y
  · simp [h]
  · by_cases h' : z = x <;> simp [h, h']
theorem nextAt_lt {pass : Bool} {gl : List Int} {y : Int} {k : Nat} (h : nextAt pass gl y k < 0) (rs : List Int) : plc pass gl k (y :: rs) = none := by
  unfold nextAt at h; unfold plc
  split at h
  · omega
  · rename_i hn; rw [if_neg hn]
theorem nextAt_ge {pass : Bool} {gl : List Int} {y : Int} {k : Nat} (h : ¬ nextAt pass gl y k < 0) : ∃ j : Nat, nextAt pass gl y k = j ∧ gl[j]? = some y ∧ k < j ∧ ∀ rs, plc pass gl k (y :: rs) = (plc pass gl j rs).map (j :: ·) := by
  unfold nextAt at h ⊢
  split at h
  · rename_i hy; refine ⟨skip pass gl (k + 1), by rw [if_pos hy], hy, by unfold skip; omega, fun rs => by rw [plc, if_pos hy]⟩
  · omega
inductive IaR (pass : Bool) (gl : List Int) (at_ : Nat) (gs : List Int) (foot : Led) (v : Value) (led' : Led) : Prop
  | no (hv : v = .none) (h : plc pass gl at_ gs = none) (hl : led' = foot)
  | yes (ps : List Nat) (fl : Addr) (vs : List Value) (kn : Nat) (hv : v = .ref fl) (h : plc pass gl at_ gs = some ps) (hi : IntsAre vs ((at_ :: ps).map Int.ofNat)) (hl : led' = (fl, listOf vs.toArray kn) :: foot)
inductive IaI (c : Sc) (pass : Bool) (infos : List Inf) (at_ : Nat) (t1 : Tok) (tt fl D : Addr) (ts : List Tst) (foot : Led) (j : Nat) (m₁ : Map) (led₁ : Led) : Prop
  | mk (vs : List Value) (kn : Nat) (ps : List Nat) (cur : Nat) (vt vh : Option Value) (hl : led₁ = (D, tupOf (ts.map fun t => .ref t.a) 0) :: (fl, listOf vs.toArray kn) :: foot) (hvs : IntsAre vs ((at_ :: ps).map Int.ofNat)) (hcur : (at_ :: ps).getLast? = some cur) (hps : ps.length = j) (hcl : cur < infos.length)
    (hpl : plc pass (glOf infos) at_ (ts.map (·.g)) = (plc pass (glOf infos) cur ((ts.drop j).map (·.g))).map (ps ++ ·)) (hjl : j ≤ ts.length) (hm : m₁ = iaMap c at_ t1 tt fl vt vh)
theorem input_at_spec {c : Sc} {pass : Bool} {ll : Int} {tl : Tok} {nb nr : Nat} {infos : List Inf} {at_ : Nat} {i : Inf} {t1 : Tok} {tt nt : Nat} {t₀ : Tst} {ts : List Tst} {Q : Value → Shared → Prop} (Z : At w A env L h₀ (n+6)) (F : Fr h₀ L s.heap m) (N : News h₀ L s.heap news)
    (hs : ∀ p ∈ (tt, tupOf (.ref t₀.a :: ts.map fun t => .ref t.a) nt) :: (t₀.a, t₀.obj) :: (tstLed ts ++ c.full w.params pass ll tl nb infos nr), p ∈ news) (ok : c.g.ok prog w) (hlen : infos.length ≤ 100) (hi : infos[((at_ : Nat) : Int).toNat]? = some i) (hg : t₀.g = i.glyph) (hm : ∀ i ∈ infos, i.mask = 1) (hts : ts.length ≤ 100)
    (hQn : plc pass (glOf infos) at_ (ts.map (·.g)) = none → ∀ h' tk, Fr h₀ L h' m → News h₀ L h' news → Q .none { s with heap := h', toks := tk })
    (hQs : ∀ ps, plc pass (glOf infos) at_ (ts.map (·.g)) = some ps → ∀ h' tk fl vs kn, Fr h₀ L h' m → News h₀ L h' ((fl, listOf vs.toArray kn) :: news) → IntsAre vs ((at_ :: ps).map Int.ofNat) → Q (.ref fl) { s with heap := h', toks := tk }) :
    wpAny (model prog w) A (call (.ref 271) [.ref c.sc, .int at_ t1, .ref tt]) Q E s := by
  have X := Z.X
  have hat : at_ < infos.length := by have := List.getElem?_eq_some_iff.mp hi; obtain ⟨h, _⟩ := this; simpa using h
  refine' call_mut [(Str.ofString "scene", .ref c.sc), (Str.ofString "at", .int at_ t1), (Str.ofString "tests", .ref tt)] (IaR pass (glOf infos) at_ (ts.map (·.g)) ((tt, tupOf (.ref t₀.a :: ts.map fun t => .ref t.a) nt) :: (t₀.a, t₀.obj) :: (tstLed ts ++ c.full w.params pass ll tl nb infos nr))) ?Z ?F (News.sub N hs) ?k6 ?k7 ?k9 ?kB ?_ ?c2 ?c3 ?c4 ?c5 ?kQ
  walk_at "mine_sides"
  · intro g' L' h₁ tk sg sd so dp fr gs un A₀ base p loose mean mg mb B' T' X' Z' hU F' N' hl
    have hg0 : (t₀.g == i.glyph) = true := by simp [hg]
    walk_at "mine_steps"
    (with_reducible rename (_ ∧ _ ∧ AllLt _ _) => lf)
    refine wpAny_execs_cons (for_own (h₀ := g') (L := L') ?_)
    walk_at "mine_steps"
    rename_i fl _ _ F2 N2 h3 D F3 N3 lD
    clear F2 N2
    have hDl : fl ≠ D := neL (lD _ (.head _))
    have hDl' := neN hDl
    refine for_tuple (vs := ts.map fun t => .ref t.a) rfl ⟨_, (N3 _ (.head _)).1, rfl, _, rfl⟩ F3 N3
      (IaI c pass infos at_ t1 tt fl D ts ((tt, tupOf (.ref t₀.a :: ts.map fun t => .ref t.a) nt) :: (t₀.a, t₀.obj) :: (tstLed ts ++ c.full w.params pass ll tl nb infos nr)))
      ?_ ?_ ⟨_, _, rfl⟩ ?_ ?_
    · exact ⟨[.int at_ t1], 0, [], at_, none, none, rfl, .cons _ _ .nil, rfl, rfl, hat, by simp, Nat.zero_le _, by
        unfold iaMap; exact (map_new (x := Str.ofString "test") rfl (by decide)).trans (map_new (x := Str.ofString "here") (y := Str.ofString "test") rfl (by decide))⟩
    · rintro j m₁ led₁ h ⟨vs, kn, ps, cur, vt, vh, rfl, _⟩ F5 N5
      exact ⟨_, (N5 _ (.head _)).1, rfl, _, rfl⟩
    · rintro I j v m₁ led₁ s₁ o ⟨h5, tk5, rfl⟩ hj hv ⟨vs, kn, ps, cur, vt, vh, rfl, hvs, hcur, hps, hcl, hpl, hjl, rfl⟩ F5 N5 hI
      obtain ⟨t, ht, rfl⟩ : ∃ t, ts[j]? = some t ∧ v = .ref t.a := by
        rw [List.getElem?_map] at hv
        obtain ⟨t, h1, h2⟩ := Option.map_eq_some_iff.mp hv
        exact ⟨t, h1, h2.symm⟩
      have hmt : t ∈ ts := List.mem_of_getElem? ht
      have hjt : j < ts.length := (List.getElem?_eq_some_iff.mp ht).1
      have hdr : (ts.drop j).map (·.g) = t.g :: (ts.drop (j + 1)).map (·.g) := by
        obtain ⟨h1, h2⟩ := List.getElem?_eq_some_iff.mp ht
        rw [List.drop_eq_getElem_cons h1, h2]; rfl
      have hIf := neN (hI (fl, listOf vs.toArray kn) (.tail _ (.head _)))
      have hx : ((at_ :: ps).map Int.ofNat).getLast? = some ((cur : Nat) : Int) := by rw [List.getLast?_map, hcur]; rfl
      have hvl : vs.length ≤ 1000 := by rw [hvs.length]; simp; omega
      walk_at "mine_steps"
      · (with_reducible rename (_ < (0 : Int)) => hneg)
        refine (show OutM _ _ _ _ _ _ from ⟨_, _, by assumption, News.sub (by assumption) (fun p hp => .tail _ (.tail _ (.tail _ hp))), ⟨_, _, rfl⟩, .no rfl ?_ rfl⟩)
        rw [hpl, hdr, nextAt_lt hneg]; rfl
      · (with_reducible rename (¬ _ < (0 : Int)) => hpos)
        obtain ⟨j', hj1, hj2, hj3, hj4⟩ := nextAt_ge hpos
        have hj' : j' < infos.length := by have := (List.getElem?_eq_some_iff.mp hj2).1; simpa using this
        have e1 : ∀ tk, IntsAre (vs ++ [Value.int (nextAt pass (glOf infos) t.g cur) tk]) ((at_ :: (ps ++ [j'])).map Int.ofNat) := by
          intro tk
          rw [← List.cons_append, List.map_append]
          exact hvs.append (by rw [hj1]; exact .cons _ _ .nil)
        refine ⟨_, _, ⟨_, _, rfl⟩, by assumption, by assumption, ?_, ?_⟩
        · intro p hp
          rcases List.mem_cons.mp hp with e | hp
          · rw [e]; exact hI _ (.head _)
          rcases List.mem_cons.mp hp with e | hp
          · rw [e]; exact hI (fl, listOf vs.toArray kn) (.tail _ (.head _))
          · exact hI _ (.tail _ (.tail _ hp))
        · exact ⟨_, _, ps ++ [j'], j', some (.ref t.a), _, rfl, e1 _, by simp [List.getLast?_cons], by simp [hps], hj', by rw [hpl, hdr, hj4, Option.map_map]; congr 1; funext x; simp, by omega, by unfold iaMap; exact map_redo⟩
    · rintro m₁ led₁ s₁ ⟨h5, tk5, rfl⟩ ⟨vs, kn, ps, cur, vt, vh, rfl, hvs, hcur, hps, hcl, hpl, hjl, rfl⟩ F5 N5
      have hpl' : plc pass (glOf infos) at_ (ts.map (·.g)) = some ps := by
        rw [hpl, List.length_map, List.drop_length]; simp [plc]
      try dsimp only
      walk_at "mine_steps"
      exact (show OutM _ _ _ _ _ _ from ⟨_, _, by assumption, News.tail N5, ⟨_, _, rfl⟩, .yes ps fl vs kn rfl hpl' hvs rfl⟩)
  · rintro v h' tk led' F' N' c' (⟨rfl, hp, rfl⟩ | ⟨ps, fl, vs, kn, rfl, hp, hvs, rfl⟩)
    · exact hQn hp h' tk F' (News.after N hs N' c')
    · exact hQs ps hp h' tk fl vs kn F' (News.cons (fun q hq => N' q (by rw [List.mem_singleton.mp hq]; exact .head _)) (News.after N hs (News.tail N') c')) hvs
theorem nameQ_L {oC : Obj} (N : News h₀ L s.heap news) (hm : (C, oC) ∈ news) (hn : NsO oC mC) (hv : mC x = some v) (h : Q v s)
    (hk : (compEnvC scope cl C env).scope.kind = .function := by rfl) (hl : (compEnvC scope cl C env).kindOf x = some .local := by rfl) (hd : (x == ("__debug__" : Str)) = false := by decide) :
    wpAny (model prog w) A (eval (.Name x pos) (compEnvC scope cl C env)) Q E s := ldVarK (hn.ns (N _ hm).1) hv h hk hl hd
theorem nameQ_C {c : Addr} {oc : Obj} (N : News h₀ L s.heap news) (hc : cl.lookup x = some c) (hm : (c, oc) ∈ news) (ho : oc.data = .cell (some v)) (h : Q v s)
    (hk : (compEnvC scope cl C env).scope.kind = .function := by rfl) (hl : (compEnvC scope cl C env).kindOf x = some .cell := by rfl) (hd : (x == ("__debug__" : Str)) = false := by decide) :
    wpAny (model prog w) A (eval (.Name x pos) (compEnvC scope cl C env)) Q E s := ldCellK hc ⟨_, (N _ hm).1, ho⟩ h hk hl hd
theorem comp_if0 {elt : Expr} {K : Value → Shared → Prop} {J : Shared → Prop} {cenv : Env} (h : wpAny (model prog w) A (eval elt cenv) K NoE s) :
    wpAny (model prog w) A (forIn ([] : List Expr) true fun c r => if r = true then do let ok ← isTrue c cenv (eval c cenv); pure (ForInStep.yield ok) else pure (ForInStep.yield r))
      (fun ok s₃ => if ok = true then wpAny (model prog w) A (eval elt cenv) K NoE s₃ else J s₃) NoE s := wpAny_pure (by rw [if_pos rfl]; exact h)
theorem comp_if1 {elt t : Expr} {K : Value → Shared → Prop} {J : Shared → Prop} {cenv : Env} (h : wpAny (model prog w) A (isTrue t cenv (eval t cenv)) (fun ok s₃ => if ok = true then wpAny (model prog w) A (eval elt cenv) K NoE s₃ else J s₃) NoE s) :
    wpAny (model prog w) A (forIn [t] true fun c r => if r = true then do let ok ← isTrue c cenv (eval c cenv); pure (ForInStep.yield ok) else pure (ForInStep.yield r))
      (fun ok s₃ => if ok = true then wpAny (model prog w) A (eval elt cenv) K NoE s₃ else J s₃) NoE s := by
  simp only [List.forIn_cons, if_true, List.forIn_nil]
  exact wpAny_bind (wpAny_bind (wpAny_mono h (fun ok s₃ h₃ => wpAny_pure (wpAny_pure h₃)) fun _ _ e => e))
local macro_rules | `(tactic| walk_at "eval Name") => `(tactic| (k_here; k_inBlock; k_dflt (first
  | (refine nameQ_L (by k_asm) (by k_mem) (by assumption) (by assumption) ?_ (by rfl) (by rfl) (by decide))
  | (refine nameQ_C (by k_asm) (by rfl) (by k_mem) (by k_asm) ?_ (by rfl) (by rfl) (by decide)))))
local macro_rules | `(tactic| walk_at "mine_comp") => `(tactic| ((case hclos => with_unfolding_all rfl); (case hcell => decide); (case hkind => with_unfolding_all rfl); (case hnames => decide); (case hx => with_unfolding_all rfl)))

theorem tstLed_snoc {ts : List Tst} {t : Tst} : tstLed (ts ++ [t]) = tstLed ts ++ [(t.a, t.obj)] := by simp [tstLed]
inductive GtR (gs : List Int) (gt : Addr) (vs : List Value) (nt : Nat) (v : Value) (led' : Led) : Prop
  | mk (tt nt' ts : _) (h1 : v = .ref tt) (h2 : ts.map (·.g) = gs) (h3 : led' = (tt, tupOf (ts.map fun t => .ref t.a) nt') :: (tstLed ts ++ [(gt, tupOf vs nt)]))
inductive GtI (gs : List Int) (gt : Addr) (vs : List Value) (nt : Nat) (i : Nat) (ys : List Value) (led : Led) : Prop
  | mk (ts : List Tst) (h1 : ts.length = i) (h2 : i ≤ gs.length) (h3 : ys = ts.map (fun t => .ref t.a)) (h4 : ts.map (·.g) = gs.take i) (h5 : led = tstLed ts ++ [(gt, tupOf vs nt)])
theorem glyph_tests_spec {gt nt : Nat} {vs : List Value} {gs : List Int} {Q : Value → Shared → Prop} (Z : At w A env L h₀ (n+1)) (F : Fr h₀ L s.heap m) (N : News h₀ L s.heap news) (hs : (gt, tupOf vs nt) ∈ news) (hi : IntsAre vs gs) (hz : gs.length ≤ 100)
    (hQ : ∀ h' tk tt nt ts, Fr h₀ L h' m → News h₀ L h' ((tt, tupOf (ts.map fun t => .ref t.a) nt) :: (tstLed ts ++ news)) → ts.map (·.g) = gs → Q (.ref tt) { s with heap := h', toks := tk }) :
    wpAny (model prog w) A (call (.ref 238) [.ref gt]) Q E s := by
  have X := Z.X
  refine' call_mut [(Str.ofString "glyphs", .ref gt)] (GtR gs gt vs nt) ?Z ?F (News.sub N (led' := [(gt, tupOf vs nt)]) (by simpa using hs)) ?k6 ?k7 ?k9 ?kB ?_ ?c2 ?c3 ?c4 ?c5 ?kQ
  walk_at "mine_sides"
  · intro g' L' h₁ tk sg sd so dp fr gs' un A₀ base p loose mean mg mb B' T' X' Z' hU F' N' hl
    walk_at "mine_steps"
    refine' comp_expr (h₀ := g') (L := L') (cl := []) ?hclos ?hcell ?hkind ?hnames ?hx ?_
    walk_at "mine_comp"
    walk_at "mine_steps"
    have hvl := hi.length

    refine comp_tuple (vs := vs) rfl ⟨_, (N' _ (.head _)).1, rfl, _, rfl⟩ (Nat.le_trans (by omega) (by decide : (1000 : Nat) ≤ sizeLine)) F' N'
      (GtI gs gt vs nt) ⟨[], rfl, Nat.zero_le _, rfl, rfl, rfl⟩ ?_ ?_ ?_ ?_
    · rintro i ys led h ⟨ts, h1, h2, rfl, h4, rfl⟩ F5 N5
      exact ⟨_, (N5 (gt, tupOf vs nt) (by simp)).1, rfl, _, rfl⟩
    · rintro i ys led ⟨ts, h1, h2, rfl, h4, rfl⟩
      simp; omega
    · rintro I C D i v ys led s₁ oI oC oD mC ⟨h5, tk5, rfl⟩ hin hv ⟨ts, h1, h2, rfl, h4, rfl⟩ F5 N5 hd hn hx
      obtain ⟨x, tx, rfl, hgx⟩ := hi.at i v hv
      refine comp_if0 ?_
      walk_at "mine_steps"
      rename_i T h9 F9 N9 l9
      obtain ⟨lI, lC, lD, lr⟩ := l9
      refine ⟨tstLed (ts ++ [⟨T, 0, tk5, tx, x⟩]) ++ [(gt, tupOf vs nt)], ⟨_, _, rfl⟩, F9, News.sub N9 ?_, ?_, ts ++ [⟨T, 0, tk5, tx, x⟩], by simp [h1], by omega, by simp, by simp [h4, List.take_add_one, hgx], rfl⟩
      · intro p hp
        simp only [tstLed_snoc, List.mem_cons, List.mem_append, List.append_assoc, List.not_mem_nil, or_false] at hp ⊢
        grind
      · intro p hp
        simp only [tstLed_snoc, List.mem_append, List.mem_singleton] at hp
        rcases hp with (hp | hp) | hp
        · exact hd p (List.mem_append_left _ hp)
        · rw [hp]; exact ⟨neG lI, neG lC, neG lD⟩
        · exact hd p (List.mem_append_right _ (by simpa using hp))
    · rintro D led ys s₁ k hs1 ⟨ts, h1, h2, rfl, h4, rfl⟩ N5 F5
      obtain ⟨h5, tk5, rfl⟩ := hs1
      try dsimp only at N5 F5 ⊢
      walk_at "mine_steps"
      rename_i N6 _ T h9 F9 N9 k9
      exact (show OutM _ _ _ _ _ _ from ⟨_, _, F9, News.sub N9 (fun p hp => by
        simp only [List.mem_cons, List.mem_append] at hp ⊢; grind), ⟨_, _, rfl⟩, T, 0, ts, rfl, by rw [h4, List.take_of_length_le (by omega)], rfl⟩)
  · rintro v h' tk led' F' N' c' ⟨tt, nt', ts, rfl, hg, rfl⟩
    refine hQ h' tk tt nt' ts F' ?_ hg
    have N1 := News.after N (foot := [(gt, tupOf vs nt)]) (by simpa using hs) (News.right (News.tail N')) c'
    exact News.cons (fun q hq => N' q (by rw [List.mem_singleton.mp hq]; exact .head _)) (News.app (News.left (News.tail N')) N1)
local macro_rules | `(tactic| walk_at "subscriptTail Name Constant ref int") => `(tactic| (k_here; k_dflt (refine item_ints (by k_asm) (by k_mem) (by assumption) (by decide) (by decide) (by assumption) ?_; intro _)))

abbrev rowFoot (P : Params) (r : Addr) (infos : List Inf) (nr : Nat) : Led := (r, rowO infos nr) :: infoLed P infos
abbrev IntsN (vs : List Value) (ps : List Nat) : Prop := IntsAre vs (ps.map Int.ofNat)

local macro_rules | `(tactic| walk_at "call ref") => `(tactic| (k_here; refine is_piece_spec (by assumption) (by k_asm) (by k_asm) (by walk_at "mine_sub") (by assumption) ?_; intro _ _ _ _))

def htMap (row pl fa : Addr) (va vo : Option Value) : Map := fun y => if y = Str.ofString "other" then vo else if y = Str.ofString "at" then va else if y = Str.ofString "first" then some (.ref fa) else
  List.lookup y [(Str.ofString "row", .ref row), (Str.ofString "positions", .ref pl)].reverse

inductive HtI (P : Params) (D : Addr) (vs : List Value) (pl : Addr) (kn : Nat) (row : Addr) (infos : List Inf) (nr : Nat) (i0 : Inf) (j : Nat) (m₁ : Map) (led₁ : Led) : Prop
  | mk (va vo : _) (h1 : led₁ = (D, listOf (vs.drop 1).toArray 0) :: (pl, listOf vs.toArray kn) :: rowFoot P row infos nr) (h2 : m₁ = htMap row pl i0.a va vo)
theorem hold_together_spec {row pl nr kn : Nat} {infos : List Inf} {vs : List Value} {p0 : Nat} {ps : List Nat} {Q : Value → Shared → Prop} (Z : At w A env L h₀ (n+2)) (F : Fr h₀ L s.heap m) (N : News h₀ L s.heap news)
    (hs : ∀ p ∈ (pl, listOf vs.toArray kn) :: rowFoot w.params row infos nr, p ∈ news) (hv : IntsN vs (p0 :: ps)) (hps : ∀ p ∈ p0 :: ps, p < infos.length) (hlen : infos.length ≤ 100) (hpl : ps.length ≤ 100) (hz : ∀ i ∈ infos, i.ligId = 0)
    (hQ : ∀ h' tk, Fr h₀ L h' m → News h₀ L h' news → Q (.bool true) { s with heap := h', toks := tk }) :
    wpAny (model prog w) A (call (.ref 306) [.ref row, .ref pl]) Q E s := by
  have X := Z.X
  refine' call_ro [(Str.ofString "row", .ref row), (Str.ofString "positions", .ref pl)] ((pl, listOf vs.toArray kn) :: rowFoot w.params row infos nr) (fun v => v = .bool true) ?Z ?F N hs ?k6 ?k7 ?k9 ?kB ?_ ?c2 ?c3 ?c4 ?c5 ?kQ
  walk_at "mine_sides"
  · intro g' L' h₁ tk sg sd so dp fr gs un A₀ base p loose mean mg mb B' T' X' Z' hU F' N' hl
    have hvl : vs.length = ps.length + 1 := by rw [hv.length]; simp
    have hp0 := hps p0 (.head _)
    have hx0 : ((p0 :: ps).map Int.ofNat)[(0 : Int).toNat]? = some ((p0 : Nat) : Int) := rfl
    obtain ⟨i0, hi0⟩ : ∃ i, infos[((p0 : Nat) : Int).toNat]? = some i := ⟨infos[p0], by simp [hp0]⟩
    have hz0 : i0.ligId = 0 := hz _ (List.mem_of_getElem? hi0)
    walk_at "mine_steps"
    rename_i F2 _
    refine wpAny_execs_cons (for_own (h₀ := g') (L := L') ?_)
    walk_at "mine_steps"
    rename_i h3 D F3 N3 lD
    refine for_list (vs := vs.drop 1) rfl ⟨_, (N3 _ (.head _)).1, rfl, _, rfl⟩ F3 N3
      (HtI w.params D vs pl kn row infos nr i0) ?_ ?_ (.inl ⟨_, _, rfl⟩) ?_ ?_
    · exact ⟨none, none, rfl, by unfold htMap; exact (map_new (x := Str.ofString "at") rfl (by decide)).trans (map_new (x := Str.ofString "other") (y := Str.ofString "at") rfl (by decide))⟩
    · rintro j m₁ led₁ h ⟨va, vo, rfl, rfl⟩ F5 N5
      exact ⟨_, (N5 _ (.head _)).1, rfl, _, rfl⟩
    · rintro I j v m₁ led₁ s₁ o ⟨h5, tk5, rfl⟩ hj ⟨va, vo, rfl, rfl⟩ F5 N5 hI
      obtain ⟨x, tx, rfl, hgx⟩ := (hv.drop 1).at j v hj
      obtain ⟨q, hq, rfl⟩ : ∃ q, q ∈ ps ∧ x = ((q : Nat) : Int) := by
        rw [List.map_cons, List.drop_succ_cons, List.drop_zero, List.getElem?_map] at hgx
        obtain ⟨q, h1, h2⟩ := Option.map_eq_some_iff.mp hgx
        exact ⟨q, List.mem_of_getElem? h1, h2.symm⟩
      have hq' := hps q (.tail _ hq)
      obtain ⟨i1, hi1⟩ : ∃ i, infos[((q : Nat) : Int).toNat]? = some i := ⟨infos[q], by simp [hq']⟩
      have hz1 : i1.ligId = 0 := hz _ (List.mem_of_getElem? hi1)
      walk_at "mine_steps"
      exact (show TurnEnd _ _ _ _ _ _ _ from ⟨_, _, ⟨_, _, rfl⟩, by assumption, by assumption, hI, _, _, rfl, by unfold htMap; exact map_redo⟩)
    · rintro m₁ led₁ s₁ ⟨h5, tk5, rfl⟩ ⟨va, vo, rfl, rfl⟩ F5 N5
      try dsimp only
      walk_at "mine_steps"
      exact (show OutRO _ _ _ _ _ _ _ from ⟨_, F5, News.tail N5, ⟨_, _, rfl⟩, rfl⟩)
  · rintro v h' tk F' N' rfl
    exact hQ h' tk F' N'

theorem map_swap3 {x y : Str} {v u u' : Option Value} {M : Map} (hxy : x ≠ y) : (fun z => if z = y then v else if z = x then u else if z = y then u' else M z) = (fun z => if z = x then u else if z = y then v else M z) := map_swap hxy
theorem map_again {y : Str} {v v' : Option Value} {M : Map} : (fun z => if z = y then v else if z = y then v' else M z) = (fun z => if z = y then v else M z) := by
  funext z
  by_cases h : z = y <;> simp [h]
/-- a loop's exit, kept shut -/
def Exit (P : Shared → Prop) (f : Flow) (s : Shared) : Prop := f = .next ∧ P s
theorem Exit.mk' {P : Shared → Prop} {s : Shared} (h : P s) : Exit P .next s := ⟨rfl, h⟩
def wdMap (row : Addr) (b e : Nat) (t1 t2 : Tok) (vf vb : Option Value) : Map := fun y => if y = Str.ofString "behind" then vb else if y = Str.ofString "first" then vf else
  List.lookup y [(Str.ofString "row", .ref row), (Str.ofString "begin", .int b t1), (Str.ofString "end", .int e t2)].reverse

inductive WdR (P : Params) (infos : List Inf) (row : Addr) (nr : Nat) (v : Value) (led' : Led) : Prop
  | mk (T f g : Nat) (tf tg : Tok) (h1 : v = .ref T) (h2 : f ≤ g) (h3 : g ≤ infos.length) (h4 : led' = (T, tupOf [.int ((f : Nat) : Int) tf, .int ((g : Nat) : Int) tg] 0) :: rowFoot P row infos nr)
inductive WdE (P : Params) (b : Nat) (infos : List Inf) (s : Shared) (g' : Heap) (L' : Addr) (row : Addr) (e : Nat) (t1 : Tok) (t2 : Tok) (nr : Nat) (s' : Shared) : Prop
  | mk (g : Nat) (tg : Tok) (h1 : b < g) (h2 : g ≤ infos.length) (h3 : Same s s') (h4 : Fr g' L' s'.heap (wdMap row b e t1 t2 (some (.int ((b : Nat) : Int) t1)) (some (.int ((g : Nat) : Int) tg)))) (h5 : News g' L' s'.heap (rowFoot P row infos nr))
inductive WdI (P : Params) (row : Addr) (infos : List Inf) (nr : Nat) (b : Nat) (e : Nat) (t1 : Tok) (t2 : Tok) (r : Nat) (m₁ : Map) (led₁ : Led) : Prop
  | mk (h1 : led₁ = rowFoot P row infos nr) (g tg : _) (h2 : b < g) (h3 : g ≤ infos.length) (h4 : r = infos.length - g) (h5 : m₁ = wdMap row b e t1 t2 (some (.int ((b : Nat) : Int) t1)) (some (.int ((g : Nat) : Int) tg)))
inductive WdE2 (P : Params) (b : Nat) (s : Shared) (g' : Heap) (L' : Addr) (row : Addr) (e : Nat) (t1 : Tok) (t2 : Tok) (g : Nat) (tg : Tok) (infos : List Inf) (nr : Nat) (s' : Shared) : Prop
  | mk (f : Nat) (tf : Tok) (h1 : f ≤ b) (h2 : Same s s') (h3 : Fr g' L' s'.heap (wdMap row b e t1 t2 (some (.int ((f : Nat) : Int) tf)) (some (.int ((g : Nat) : Int) tg)))) (h4 : News g' L' s'.heap (rowFoot P row infos nr))
inductive WdI2 (P : Params) (row : Addr) (infos : List Inf) (nr : Nat) (b : Nat) (e : Nat) (t1 : Tok) (t2 : Tok) (g : Nat) (tg : Tok) (r : Nat) (m₁ : Map) (led₁ : Led) : Prop
  | mk (h1 : led₁ = rowFoot P row infos nr) (f tf : _) (h2 : f ≤ b) (h3 : f = r) (h4 : m₁ = wdMap row b e t1 t2 (some (.int ((f : Nat) : Int) tf)) (some (.int ((g : Nat) : Int) tg)))
theorem widened_spec {row nr : Nat} {infos : List Inf} {b e : Nat} {t1 t2 : Tok} {Q : Value → Shared → Prop} (Z : At w A env L h₀ (n+1)) (F : Fr h₀ L s.heap m) (N : News h₀ L s.heap news)
    (hs : ∀ p ∈ rowFoot w.params row infos nr, p ∈ news) (hbe : b < e) (he : e ≤ infos.length) (hlen : infos.length ≤ 100)
    (hQ : ∀ h' tk T f g tf tg, Fr h₀ L h' m → News h₀ L h' ((T, tupOf [.int ((f : Nat) : Int) tf, .int ((g : Nat) : Int) tg] 0) :: news) → f ≤ g → g ≤ infos.length → Q (.ref T) { s with heap := h', toks := tk }) :
    wpAny (model prog w) A (call (.ref 121) [.ref row, .int b t1, .int e t2]) Q E s := by
  have X := Z.X
  refine' call_mut [(Str.ofString "row", .ref row), (Str.ofString "begin", .int b t1), (Str.ofString "end", .int e t2)] (WdR w.params infos row nr) ?Z ?F (News.sub N hs) ?k6 ?k7 ?k9 ?kB ?_ ?c2 ?c3 ?c4 ?c5 ?kQ
  walk_at "mine_sides"
  · intro g' L' h₁ tk sg sd so dp fr gs un A₀ base p loose mean mg mb B' T' X' Z' hU F' N' hl
    walk_at "mine_steps"
    rename_i F2 N2
    refine wpAny_execs_cons ?_
    refine wpAny_mono (while_own (Q := Exit (WdE w.params b infos ⟨h₁, sg, sd, tk, so⟩ g' L' row e t1 t2 nr))
      (WdI w.params row infos nr b e t1 t2) (infos.length - e) F2 N2 ?_ ?_) ?_ fun _ _ e => e
    · exact ⟨rfl, e, _, hbe, he, rfl, rfl⟩
    · rintro r m₁ led₁ s₁ ⟨h5, tk5, rfl⟩ F5 N5 ⟨rfl, g, tg, hg1, hg2, rfl, rfl⟩
      clear F2 N2
      obtain ⟨i0, hi0⟩ : ∃ i, infos[(((g : Nat) : Int) - 1).toNat]? = some i := ⟨infos[g - 1]'(by omega), by rw [show (((g : Nat) : Int) - 1).toNat = g - 1 from by omega]; simp⟩
      by_cases hlt : g < infos.length
      · obtain ⟨i1, hi1⟩ : ∃ i, infos[((g : Nat) : Int).toNat]? = some i := ⟨infos[g], by simp [hlt]⟩
        walk_at "mine_steps"
        · exact (show WEnd _ _ _ _ _ _ from ⟨infos.length - (g + 1), _, _, by omega, ⟨_, _, rfl⟩, by assumption, by assumption, rfl, g + 1, _, by omega, by omega, rfl, by unfold wdMap; exact map_again⟩)
        · exact Exit.mk' ⟨g, tg, hg1, hg2, ⟨_, _, rfl⟩, by assumption, by assumption⟩
      · walk_at "mine_steps"
        exact Exit.mk' ⟨g, tg, hg1, hg2, ⟨_, _, rfl⟩, by assumption, by assumption⟩
    · rintro fl s₁ ⟨rfl, g, tg, hg1, hg2, ⟨h5, tk5, rfl⟩, F5, N5⟩
      clear F2 N2
      try dsimp only
      refine wpAny_execs_cons ?_
      refine wpAny_mono (while_own (Q := Exit (WdE2 w.params b ⟨h₁, sg, sd, tk, so⟩ g' L' row e t1 t2 g tg infos nr))
        (WdI2 w.params row infos nr b e t1 t2 g tg) b F5 N5 ?_ ?_) ?_ fun _ _ e => e
      · exact ⟨rfl, b, _, Nat.le_refl _, rfl, rfl⟩
      · rintro r m₁ led₁ s₁ ⟨h6, tk6, rfl⟩ F6 N6 ⟨rfl, f, tf, hf, rfl, rfl⟩
        clear F5 N5
        obtain ⟨i1, hi1⟩ : ∃ i, infos[((f : Nat) : Int).toNat]? = some i := ⟨infos[f]'(by omega), by simp⟩
        by_cases hlt : 0 < f
        · obtain ⟨i0, hi0⟩ : ∃ i, infos[(((f : Nat) : Int) - 1).toNat]? = some i := ⟨infos[f - 1]'(by omega), by rw [show (((f : Nat) : Int) - 1).toNat = f - 1 from by omega]; simp⟩
          walk_at "mine_steps"
          · exact (show WEnd _ _ _ _ _ _ from ⟨f - 1, _, _, by omega, ⟨_, _, rfl⟩, by assumption, by assumption, rfl, f - 1, _, by omega, rfl, by
              have e : (((f : Nat) : Int) - 1) = (((f - 1 : Nat)) : Int) := by omega
              rw [e]; unfold wdMap; exact map_swap3 (by decide)⟩)
          · exact Exit.mk' ⟨f, tf, hf, ⟨_, _, rfl⟩, by assumption, by assumption⟩
        · walk_at "mine_steps"
          exact Exit.mk' ⟨f, tf, hf, ⟨_, _, rfl⟩, by assumption, by assumption⟩
      · rintro fl s₁ ⟨rfl, f, tf, hf, ⟨h6, tk6, rfl⟩, F6, N6⟩
        clear F5 N5
        try dsimp only
        walk_at "mine_steps"
        exact (show OutM _ _ _ _ _ _ from ⟨_, _, by assumption, by assumption, ⟨_, _, rfl⟩, _, f, g, _, _, rfl, by omega, hg2, rfl⟩)
  · rintro v h' tk led' F' N' c' ⟨T, f, g, tf, tg, rfl, hfg, hg, rfl⟩
    exact hQ h' tk T f g tf tg F' (News.cons (fun q hq => N' q (by rw [List.mem_singleton.mp hq]; exact .head _)) (News.after N hs (News.tail N') c')) hfg hg
local macro_rules | `(tactic| walk_at "mine_stop") => `(tactic| ((try k_fold); repeat' (walk_at "st_c"; walk_at "st_loop"; walk_at "st_gen"; walk_at "st_ass"; walk_at "st_one")))

/-- no two infos share an address -/
def NdI (infos : List Inf) : Prop := ∀ (j k : Nat) (i i' : Inf), infos[j]? = some i → infos[k]? = some i' → j ≠ k → i.a ≠ i'.a ∧ i.d ≠ i'.d ∧ i.a ≠ i'.d
theorem a_ne_d {P : Params} {h : Heap} {i : Inf} (N : News h₀ L h (i.led P)) : i.a ≠ i.d := ne_of_objs N (a := i.a) (b := i.d) (.head _) (.tail _ (.head _)) (by intro h; cases h)
theorem news_setI {P : Params} {h h' : Heap} {pre : Led} {infos : List Inf} {k : Nat} {i i' : Inf} (N : News h₀ L h (pre ++ infoLed P infos)) (N' : News h₀ L h' (i'.led P)) (c : Chg ((i.led P).map (·.1)) h h') (hk : infos[k]? = some i) (_ha : i'.a = i.a) (_hd : i'.d = i.d) (hnd : NdI infos)
    (hpre : ∀ p ∈ pre, p.1 ≠ i.a ∧ p.1 ≠ i.d) : News h₀ L h' (pre ++ infoLed P (infos.set k i')) := by
  refine News.after2 N N' c fun p hp => ?_
  rcases List.mem_append.mp hp with hp | hp
  · refine .inr ⟨List.mem_append_left _ hp, fun hm => ?_⟩
    have := hpre p hp
    simp only [List.map_cons, List.map_nil, List.mem_cons, List.not_mem_nil, or_false] at hm
    rcases hm with e | e
    · exact this.1 e
    · exact this.2 e
  · obtain ⟨j, hj, hpj⟩ := List.mem_flatMap.mp hp
    obtain ⟨q, hq⟩ := List.getElem?_of_mem hj
    by_cases hqk : k = q
    · subst hqk
      rw [List.getElem?_set_self (by exact (List.getElem?_eq_some_iff.mp hk).1)] at hq
      cases hq; exact .inl hpj
    · rw [List.getElem?_set_ne hqk] at hq
      refine .inr ⟨List.mem_append_right _ (memI hq p hpj), fun hm => ?_⟩
      have d1 := hnd k q i j hk hq hqk
      have d2 := hnd q k j i hq hk (Ne.symm hqk)
      simp only [List.map_cons, List.map_nil, List.mem_cons, List.not_mem_nil, or_false] at hm hpj
      rcases hpj with rfl | rfl <;> rcases hm with e | e
      · exact d1.1 e.symm
      · exact d2.2.2 e
      · exact d1.2.2 e.symm
      · exact d1.2.1 e.symm
theorem row_set {infos : List Inf} {nr k : Nat} {i i' : Inf} (hk : infos[k]? = some i) (ha : i'.a = i.a) : rowO (infos.set k i') nr = rowO infos nr := by
  have e : (infos.set k i').map (fun i => Value.ref i.a) = infos.map (fun i => Value.ref i.a) := by
    rw [List.map_set, ha]
    apply List.ext_getElem?
    intro j
    by_cases hj : k = j
    · subst hj; rw [List.getElem?_set_self (by simpa using (List.getElem?_eq_some_iff.mp hk).1)]; simp [hk]
    · rw [List.getElem?_set_ne hj]
  unfold rowO; rw [e]
abbrev coreC (i : Inf) : Nat × Nat × Int × Int := (i.a, i.d, i.glyph, i.ligId)
abbrev coreT (i : Inf) : Nat × Nat × Int := (i.a, i.d, i.glyph)
theorem map_set_same {α : Type} {f : Inf → α} {infos : List Inf} {k : Nat} {i i' : Inf} (hk : infos[k]? = some i) (e : f i' = f i) : (infos.set k i').map f = infos.map f := by
  rw [List.map_set, e]
  apply List.ext_getElem?
  intro j
  by_cases hj : k = j
  · subst hj; rw [List.getElem?_set_self (by simpa using (List.getElem?_eq_some_iff.mp hk).1)]; simp [hk]
  · rw [List.getElem?_set_ne hj]
theorem core_get {α : Type} {f : Inf → α} {infos infos' : List Inf} (e : infos'.map f = infos.map f) {k : Nat} {i : Inf} (hk : infos[k]? = some i) : ∃ i', infos'[k]? = some i' ∧ f i' = f i := by
  have h1 : (infos'.map f)[k]? = some (f i) := by rw [e]; simp [hk]
  rw [List.getElem?_map] at h1
  obtain ⟨i', h2, h3⟩ := Option.map_eq_some_iff.mp h1
  exact ⟨i', h2, h3⟩
theorem NdI.core {α : Type} {f : Inf → α} (hf : ∀ i i', f i = f i' → i.a = i'.a ∧ i.d = i'.d) {infos infos' : List Inf} (e : infos'.map f = infos.map f) (h : NdI infos) : NdI infos' := by
  intro j k i i' hj hk hne
  obtain ⟨i1, h1, e1⟩ := core_get e.symm hj
  obtain ⟨i2, h2, e2⟩ := core_get e.symm hk
  have := h j k i1 i2 h1 h2 hne
  rw [(hf _ _ e1).1, (hf _ _ e1).2, (hf _ _ e2).1, (hf _ _ e2).2] at this
  exact this

theorem infoLed_fst {P : Params} (A : List Inf) : (infoLed P A).map (·.1) = (A.map fun i => (i.a, i.d)).flatMap fun p => [p.1, p.2] := by
  induction A with
  | nil => rfl
  | cons i A ih => simp only [infoLed, List.flatMap_cons, List.map_append, List.map_cons] at ih ⊢; rw [ih]; rfl
theorem infoLed_ne {P : Params} {A B : List Inf} {x : Nat} (e : (A.map fun i => (i.a, i.d)) = B.map fun i => (i.a, i.d)) (h : ∀ p ∈ infoLed P A, p.1 ≠ x) : ∀ p ∈ infoLed P B, p.1 ≠ x := by
  intro p hp
  have h1 : p.1 ∈ (infoLed P B).map (·.1) := List.mem_map_of_mem hp
  rw [infoLed_fst, ← e, ← infoLed_fst (P := P)] at h1
  obtain ⟨q, hq, he⟩ := List.mem_map.mp h1
  rw [← he]; exact h q hq
theorem coreC_ad {A B : List Inf} (e : A.map coreC = B.map coreC) : (A.map fun i => (i.a, i.d)) = B.map fun i => (i.a, i.d) := by
  have : (A.map coreC).map (fun p => (p.1, p.2.1)) = (B.map coreC).map (fun p => (p.1, p.2.1)) := by rw [e]
  simpa [List.map_map, Function.comp_def] using this

abbrev mergeFoot (P : Params) (c : Sc) (ll : Int) (tl : Tok) (nb : Nat) (infos : List Inf) (nr : Nat) : Led := (c.buf, instObj 103 c.bfd) :: (c.bfd, dictOf (c.bs P ll tl) nb) :: rowFoot P c.row infos nr
local macro_rules | `(tactic| walk_at "call ref") => `(tactic| (k_here; refine widened_spec (by assumption) (by k_asm) (by k_asm) (by exact List.forall_mem_cons.mpr ⟨by k_mem, by walk_at "mine_subf"⟩) (by omega) (by omega) (by omega) ?_; intro _ _ _ _ _ _ _ _ _ _ _))
def mgMap (c : Sc) (b e : Nat) (t1 t2 : Tok) (M : Int) (tM : Tok) (f g : Nat) (tf tg : Tok) (vi : Option Value) : Map := fun y => if y = Str.ofString "info" then vi else if y = Str.ofString "behind" then some (.int ((g : Nat) : Int) tg) else if y = Str.ofString "first" then some (.int ((f : Nat) : Int) tf) else if y = Str.ofString "least_cluster" then some (.int M tM) else
  List.lookup y [(Str.ofString "buffer", .ref c.buf), (Str.ofString "begin", .int b t1), (Str.ofString "end", .int e t2)].reverse
inductive MgR (P : Params) (infos : List Inf) (c : Sc) (ll : Int) (tl : Tok) (nb : Nat) (nr : Nat) (v : Value) (led' : Led) : Prop
  | mk (h1 : v = .none) (infos' : _) (h2 : infos'.map coreC = infos.map coreC) (h3 : led' = mergeFoot P c ll tl nb infos' nr)
inductive MgY (P : Params) (D : Addr) (infos : List Inf) (b : Nat) (e : Nat) (c : Sc) (ll : Int) (tl : Tok) (nb : Nat) (nr : Nat) (j : Nat) (ys : List Value) (led : Led) : Prop
  | mk (h1 : led = (D, listOf (((infos.drop b).take (e - b)).map (fun i => Value.ref i.a)).toArray 0) :: mergeFoot P c ll tl nb infos nr) (h2 : ys.length = j) (ns : _) (h3 : IntsAre ys ns)
inductive MgI (P : Params) (infos : List Inf) (D1 : Addr) (f : Nat) (g : Nat) (c : Sc) (ll : Int) (tl : Tok) (nb : Nat) (nr : Nat) (b : Nat) (e : Nat) (t1 : Tok) (t2 : Tok) (M : Int) (tM : Tok) (tf : Tok) (tg : Tok) (j : Nat) (m₁ : Map) (led₁ : Led) : Prop
  | mk (infosj vi : _) (h1 : infosj.map coreC = infos.map coreC) (h2 : led₁ = (D1, listOf (((infos.drop f).take (g - f)).map (fun i => Value.ref i.a)).toArray 0) :: mergeFoot P c ll tl nb infosj nr) (h3 : m₁ = mgMap c b e t1 t2 M tM f g tf tg vi)
theorem merge_spec {c : Sc} {ll : Int} {tl : Tok} {nb nr : Nat} {infos : List Inf} {b e : Nat} {t1 t2 : Tok} {Q : Value → Shared → Prop} (Z : At w A env L h₀ (n+2)) (F : Fr h₀ L s.heap m) (N : News h₀ L s.heap (mergeFoot w.params c ll tl nb infos nr))
    (hbe : b + 2 ≤ e) (he : e ≤ infos.length) (hlen : infos.length ≤ 100) (hnd : NdI infos) (hap : ∀ x ∈ [c.buf, c.bfd, c.row], ∀ i ∈ infos, x ≠ i.a ∧ x ≠ i.d)
    (hQ : ∀ h' tk infos', Fr h₀ L h' m → News h₀ L h' (mergeFoot w.params c ll tl nb infos' nr) → Chg ((mergeFoot w.params c ll tl nb infos nr).map (·.1)) s.heap h' → infos'.map coreC = infos.map coreC → Q .none { s with heap := h', toks := tk }) :
    wpAny (model prog w) A (call (.ref 126) [.ref c.buf, .int b t1, .int e t2]) Q E s := by
  have X := Z.X
  refine' call_mut [(Str.ofString "buffer", .ref c.buf), (Str.ofString "begin", .int b t1), (Str.ofString "end", .int e t2)] (MgR w.params infos c ll tl nb nr) ?Z ?F N ?k6 ?k7 ?k9 ?kB ?_ ?c2 ?c3 ?c4 ?c5 ?kQ
  walk_at "mine_sides"
  · intro g' L' h₁ tk sg sd so dp fr gs un A₀ base p loose mean mg mb B' T' X' Z' hU F' N' hl
    have hvl : (infos.map fun i => Value.ref i.a).length = infos.length := by simp
    walk_at "mine_stop"
    refine' comp_expr (h₀ := g') (L := L') (cl := []) ?hclos ?hcell ?hkind ?hnames ?hx ?_
    walk_at "mine_comp"
    walk_at "mine_stop"
    rename_i h2 D F2 N2 lD
    have hsl : (((infos.map fun i => Value.ref i.a).drop ((b : Nat) : Int).toNat).take (((e : Nat) : Int) - ((b : Nat) : Int)).toNat) = ((infos.drop b).take (e - b)).map (fun i => Value.ref i.a) := by
      rw [Int.toNat_natCast, show (((e : Nat) : Int) - ((b : Nat) : Int)).toNat = e - b from by omega]; simp [List.map_drop, List.map_take]
    rw [hsl] at N2
    have hsub : ∀ j i, ((infos.drop b).take (e - b))[j]? = some i → infos[b + j]? = some i := by
      intro j i hj
      rw [List.getElem?_take] at hj
      split at hj
      · rwa [List.getElem?_drop] at hj
      · cases hj
    have hsubl : ((infos.drop b).take (e - b)).length = e - b := by rw [List.length_take, List.length_drop]; omega
    refine comp_list (vs := ((infos.drop b).take (e - b)).map (fun i => Value.ref i.a)) rfl ⟨_, (N2 _ (.head _)).1, rfl, _, rfl⟩ (Nat.le_trans (by rw [List.length_map, hsubl]; omega) (by decide : (1000 : Nat) ≤ sizeLine)) F2 N2
      (MgY w.params D infos b e c ll tl nb nr) ⟨rfl, rfl, [], .nil⟩ ?_ ?_ ?_ ?_
    · rintro j ys led h ⟨rfl, h1, ns, h3⟩ F5 N5
      exact ⟨_, (N5 _ (.head _)).1, rfl, _, rfl⟩
    · rintro j ys led ⟨rfl, h1, ns, h3⟩
      omega
    · rintro I C D0 j v ys led s₁ oI oC oD mC ⟨h5, tk5, rfl⟩ hjn hv ⟨rfl, h1, ns, h3⟩ F5 N5 hd hn hx
      rw [List.getElem?_map] at hv
      obtain ⟨i, hi, rfl⟩ := Option.map_eq_some_iff.mp hv
      have hi' := hsub j i hi
      refine comp_if0 ?_
      walk_at "mine_stop"
      exact (show CEnd _ _ _ _ _ _ _ _ _ _ _ _ from ⟨_, ⟨_, _, rfl⟩, by assumption, by assumption, hd, rfl, by simp [h1], ns ++ [i.cluster], h3.append (.cons _ _ .nil)⟩)
    · rintro D0 led ys s₁ k ⟨h5, tk5, rfl⟩ ⟨rfl, h1, ns, h3⟩ N5 F5
      clear F2 N2
      have hne : ns ≠ [] := by rintro rfl; have := h3.length; rw [List.length_map, hsubl] at h1; rw [h1] at this; simp only [List.length_nil] at this; omega
      try dsimp only at N5 F5 ⊢
      walk_at "mine_stop"
      rename_i M tM _ _ _ _ _ _ T f g tf tg hfg hg _ _ h6 F6 N6
      refine wpAny_execs_cons (for_own (h₀ := g') (L := L') ?_)
      walk_at "mine_stop"
      rename_i h7 D1 F7 N7 lD1
      clear F6 N6
      have hsl2 : (((infos.map fun i => Value.ref i.a).drop ((f : Nat) : Int).toNat).take (((g : Nat) : Int) - ((f : Nat) : Int)).toNat) = ((infos.drop f).take (g - f)).map (fun i => Value.ref i.a) := by
        rw [Int.toNat_natCast, show (((g : Nat) : Int) - ((f : Nat) : Int)).toNat = g - f from by omega]; simp [List.map_drop, List.map_take]
      rw [hsl2] at N7
      have hsub2 : ∀ j i, ((infos.drop f).take (g - f))[j]? = some i → infos[f + j]? = some i := by
        intro j i hj
        rw [List.getElem?_take] at hj
        split at hj
        · rwa [List.getElem?_drop] at hj
        · cases hj
      have N8 : News g' L' h7 ((D1, listOf (((infos.drop f).take (g - f)).map (fun i => Value.ref i.a)).toArray 0) :: mergeFoot w.params c ll tl nb infos nr) :=
        News.cons (fun q hq => N7 q (by rw [List.mem_singleton.mp hq]; exact .head _)) (News.tail (News.tail (News.tail (News.tail N7))))
      have lD2 : ∀ p ∈ infoLed w.params infos, p.1 < D1 := fun p hp => lD1 p (.tail _ (.tail _ (.tail _ (.tail _ (.tail _ (.tail _ hp))))))
      clear N7 lD1
      refine for_list (vs := ((infos.drop f).take (g - f)).map (fun i => Value.ref i.a)) rfl ⟨_, (N8 _ (.head _)).1, rfl, _, rfl⟩ F7 N8
        (MgI w.params infos D1 f g c ll tl nb nr b e t1 t2 M tM tf tg)
        ⟨infos, none, rfl, rfl, by unfold mgMap; exact map_new (x := Str.ofString "info") rfl (by decide)⟩ ?_ (.inl ⟨_, _, rfl⟩) ?_ ?_
      · rintro j m₁ led₁ h ⟨infosj, vi, hc, rfl, rfl⟩ F5 N5
        exact ⟨_, (N5 _ (.head _)).1, rfl, _, rfl⟩
      · rintro I j v m₁ led₁ s₁ o hsm hj ⟨infosj, vi, hc, rfl, rfl⟩ F5 N5 hI
        obtain ⟨h5, tk9, rfl⟩ : Same (⟨h₁, sg, sd, tk, so⟩ : Shared) s₁ := Same.trans ⟨_, _, rfl⟩ hsm
        clear hsm F7 N8
        rw [List.getElem?_map] at hj
        obtain ⟨i, hi, rfl⟩ := Option.map_eq_some_iff.mp hj
        have hi0 := hsub2 j i hi
        obtain ⟨ij, hij, hcij⟩ := core_get hc hi0
        obtain ⟨ea, ed⟩ : ij.a = i.a ∧ ij.d = i.d := by simp only [coreC, Prod.mk.injEq] at hcij; exact ⟨hcij.1, hcij.2.1⟩
        rw [← ea]
        have hmem := memI (P := w.params) hij
        have hmem0 := memI (P := w.params) hi0
        walk_at "mine_stop"
        refine set_cluster_spec (i := ij) Z' (by assumption) (News.sub (by assumption) fun p hp => .tail _ (.tail _ (.tail _ (.tail _ (.tail _ (hmem p hp)))))) ?_
        intro h8 tk8 i' F8 N8 c8 hsim
        have hpre : ∀ p ∈ [(I, o), (D1, listOf (((infos.drop f).take (g - f)).map (fun i => Value.ref i.a)).toArray 0), (c.buf, instObj 103 c.bfd), (c.bfd, dictOf (c.bs w.params ll tl) nb), (c.row, rowO infosj nr)], p.1 ≠ ij.a ∧ p.1 ≠ ij.d := by
          have hin : i ∈ infos := List.mem_of_getElem? hi0
          intro p hp
          simp only [List.mem_cons, List.not_mem_nil, or_false] at hp
          rcases hp with rfl | rfl | rfl | rfl | rfl
          · exact ⟨Ne.symm (hI _ (.tail _ (.tail _ (.tail _ (.tail _ (hmem _ (.head _))))))), Ne.symm (hI _ (.tail _ (.tail _ (.tail _ (.tail _ (hmem _ (.tail _ (.head _))))))))⟩
          · rw [ea, ed]; exact ⟨neG (lD2 _ (hmem0 _ (.head _))), neG (lD2 _ (hmem0 _ (.tail _ (.head _))))⟩
          · rw [ea, ed]; exact hap _ (.head _) i hin
          · rw [ea, ed]; exact hap _ (.tail _ (.head _)) i hin
          · rw [ea, ed]; exact hap _ (.tail _ (.tail _ (.head _))) i hin
        have hndj : NdI infosj := hnd.core (fun i i' e => by simp only [coreC, Prod.mk.injEq] at e; exact ⟨e.1, e.2.1⟩) hc
        have N9 : News g' L' h8 ((I, o) :: (D1, listOf (((infos.drop f).take (g - f)).map (fun i => Value.ref i.a)).toArray 0) :: mergeFoot w.params c ll tl nb (infosj.set (f + j) i') nr) := by
          unfold mergeFoot rowFoot
          rw [row_set hij hsim.1]
          exact news_setI (pre := [(I, o), (D1, listOf (((infos.drop f).take (g - f)).map (fun i => Value.ref i.a)).toArray 0), (c.buf, instObj 103 c.bfd), (c.bfd, dictOf (c.bs w.params ll tl) nb), (c.row, rowO infosj nr)]) (by assumption) N8 c8 hij hsim.1 hsim.2.1 hndj hpre
        have hcs : (infosj.set (f + j) i').map coreC = infos.map coreC := (map_set_same hij (by simp only [coreC]; rw [hsim.1, hsim.2.1, hsim.2.2.1, hsim.2.2.2])).trans hc
        have hI' : ∀ p ∈ (D1, listOf (((infos.drop f).take (g - f)).map (fun i => Value.ref i.a)).toArray 0) :: mergeFoot w.params c ll tl nb (infosj.set (f + j) i') nr, p.1 ≠ I := by
          have h3 := infoLed_ne (P := w.params) (coreC_ad (hc.trans hcs.symm)) (fun p hp => hI p (.tail _ (.tail _ (.tail _ (.tail _ hp)))))
          intro p hp
          revert p
          first | refine ac3 ?_ ?_ | refine ac2 ?_ ?_ | refine ac ?_ ?_
          · exact hI _ (.head _)
          refine ac ?_ ?_
          · exact hI _ (.tail _ (.head _))
          refine ac ?_ ?_
          · exact hI _ (.tail _ (.tail _ (.head _)))
          refine ac ?_ ?_
          · exact (show c.row ≠ I from hI (c.row, rowO infosj nr) (.tail _ (.tail _ (.tail _ (.head _)))))
          intro p hp
          · exact h3 p hp
        walk_at "mine_stop"
        exact (show TurnEnd _ _ _ _ _ _ _ from ⟨_, _, ⟨_, _, rfl⟩, by assumption, N9, hI', infosj.set (f + j) i', _, hcs, rfl, by unfold mgMap; exact map_again⟩)
      · rintro m₁ led₁ s₁ hsm ⟨infosj, vi, hc, rfl, rfl⟩ F5 N5
        obtain ⟨h5, tk9, rfl⟩ : Same (⟨h₁, sg, sd, tk, so⟩ : Shared) s₁ := Same.trans ⟨_, _, rfl⟩ hsm
        clear hsm F7 N8
        try dsimp only
        walk_at "mine_stop"
        exact (show OutM _ _ _ _ _ _ from ⟨_, _, F5, News.tail N5, ⟨_, _, rfl⟩, rfl, infosj, hc, rfl⟩)
  · rintro v h' tk led' F' N' c' ⟨rfl, infos', hc, rfl⟩
    exact hQ h' tk infos' F' N' c' hc
set_option hygiene true
local macro_rules | `(tactic| walk_at "eval Dict") => `(tactic| (k_here; k_dflt (refine kdn_eval (knd := PySem.intKind _ _) (by k_asm) (by first | k_asm | exact News.nil) (by exact Top.nolimit (by k_asm)) (by rfl) (by rfl) (by exact List.cons_ne_nil _ _) (by exact Nat.le_of_ble_eq_true rfl) ?_); intro d' h' o' F' N' l1 lo' hd'; (try k_lt l1)))
set_option hygiene false
local macro_rules | `(tactic| walk_at "call ref") => `(tactic| (k_here; refine glyph_class_spec (by assumption) (by k_asm) (by k_asm) (by walk_at "mine_subf") (by assumption) (by first | assumption | exact rfl) ?_; intro _ _ _ _ _))
inductive WyC (D : Addr) (vs : List Value) (led0 : Led) (j : Nat) (ys : List Value) (led : Led) : Prop
  | mk (h1 : led = (D, listOf (vs.drop 1).toArray 0) :: led0) (h2 : ys.length ≤ j) (ns : _) (h3 : IntsAre ys ns)
inductive WyR (P : Params) (gl : Addr) (vs : List Value) (nr : Nat) (g : Gd) (v : Value) (led' : Led) : Prop
  | mk (W : Str) (t : Tok) (h1 : v = .str W t) (h2 : led' = (gl, listOf vs.toArray nr) :: g.led P)
theorem way_of_spec {g : Gd} {gl nr : Nat} {vs : List Value} {x0 : Int} {gs : List Int} {Q : Value → Shared → Prop} (Z : At w A env L h₀ (n+3)) (F : Fr h₀ L s.heap m) (N : News h₀ L s.heap news) (hs : ∀ p ∈ (gl, listOf vs.toArray nr) :: g.led w.params, p ∈ news) (ok : g.ok prog w) (hi : IntsAre vs (x0 :: gs)) (hz : gs.length ≤ 100)
    (hQ : ∀ h' tk W t, Fr h₀ L h' m → News h₀ L h' news → Q (.str W t) { s with heap := h', toks := tk }) :
    wpAny (model prog w) A (call (.ref 356) [.ref g.gdf, .ref gl]) Q E s := by
  have X := Z.X
  refine' call_mutC [(Str.ofString "gdef", .ref g.gdf), (Str.ofString "glyphs", .ref gl)] (WyR w.params gl vs nr g) ?Z ?F (News.sub N hs) ?k6 ?k7 ?k9 ?kB ?kN ?_ ?c2 ?c3 ?c4 ?kQ
  (case Z => assumption); (case F => assumption); (case k6 => k_is); (case k7 => k_is); (case k9 => exact BindsTo.of_eq rfl); (case kB => exact rfl); (case kN => decide); (case c2 => exact rfl); (case c3 => exact rfl); (case c4 => exact rfl)
  · intro g' L' h₁ tk sg sd so cells dp fr gs' un A₀ base p loose mean mg mb B' T' X' Z' hU F' N' hc hl
    have hvl := hi.length
    obtain ⟨oc, rfl, hoc⟩ := CellsAre.one hc
    have hoc' : oc.data = .cell (some (.ref g.gdf)) := hoc
    have hlen : vs.length = gs.length + 1 := by rw [hvl]; simp
    simp only [List.cons_append, List.nil_append] at N'
    walk_at "mine_stop"
    refine' comp_expr (h₀ := g') (L := L') (cl := [(Str.ofString "gdef", L' + 1)]) ?hclos ?hcell ?hkind ?hnames ?hx ?_
    walk_at "mine_comp"
    walk_at "mine_stop"
    rename_i h3 D F3 N3 lD
    clear N' F'
    rw [show (Int.toNat 1) = 1 from rfl] at N3
    generalize hled : (L' + 1, oc) :: (gl, listOf vs.toArray nr) :: g.led w.params = led0 at N3 lD
    revert led0
    refine keepP ?_
    set_option tactic.hygienic false in intros
    refine comp_list (vs := vs.drop 1) rfl ⟨_, (N3 _ (.head _)).1, rfl, _, rfl⟩ (Nat.le_trans (by rw [List.length_drop]; omega) (by decide : (1000 : Nat) ≤ sizeLine)) F3 N3
      (WyC D vs led0) ⟨rfl, Nat.le_refl _, [], .nil⟩ ?_ ?_ ?_ ?_
    · rintro j ys led h ⟨rfl, h1, ns, h3⟩ F5 N5
      exact ⟨_, (N5 _ (.head _)).1, rfl, _, rfl⟩
    · rintro j ys led ⟨rfl, h1, ns, h3⟩
      exact h1
    · rintro I C D0 j v ys led s₁ oI oC oD mC ⟨h5, tk5, rfl⟩ hjn hv ⟨rfl, h1, ns, h3⟩ F5 N5 hd hn hx
      obtain ⟨x, tx, rfl, hgx⟩ := (hi.drop 1).at j v hv
      subst hled
      refine comp_if1 ?_
      walk_at "mine_stop"
      · exact (show CEnd _ _ _ _ _ _ _ _ _ _ _ _ from ⟨_, ⟨_, _, rfl⟩, by assumption, by assumption, hd, rfl, by simp; omega, ns ++ [x], h3.append (.cons _ _ .nil)⟩)
      · exact (show CEnd _ _ _ _ _ _ _ _ _ _ _ _ from ⟨_, ⟨_, _, rfl⟩, by assumption, by assumption, hd, rfl, by omega, ns, h3⟩)
    · rintro D0 led ys s₁ k ⟨h5, tk5, rfl⟩ ⟨rfl, h1, ns, h3⟩ N5 F5
      subst hled
      try dsimp only at N5 F5 ⊢
      have hx0 : (x0 :: gs)[(0 : Int).toNat]? = some x0 := rfl
      walk_at "mine_stop"
      all_goals (try dsimp only)
      all_goals exact (show OutM _ _ _ _ _ _ from ⟨_, _, by assumption, News.sub (by assumption) (by walk_at "mine_subf"), ⟨_, _, rfl⟩, _, _, rfl, rfl⟩)
  · rintro v h' tk led' F' N' c' ⟨W, t, rfl, rfl⟩
    exact hQ h' tk W t F' (News.after N hs N' c')
theorem coreT_ad {A B : List Inf} (e : A.map coreT = B.map coreT) : (A.map fun i => (i.a, i.d)) = B.map fun i => (i.a, i.d) := by
  have : (A.map coreT).map (fun p => (p.1, p.2.1)) = (B.map coreT).map (fun p => (p.1, p.2.1)) := by rw [e]
  simpa [List.map_map, Function.comp_def] using this
theorem coreT_ad1 (i i' : Inf) (e : coreT i = coreT i') : i.a = i'.a ∧ i.d = i'.d := by simp only [coreT, Prod.mk.injEq] at e; exact ⟨e.1, e.2.1⟩
theorem coreT_len {A B : List Inf} (e : A.map coreT = B.map coreT) : A.length = B.length := by simpa using congrArg List.length e
def mapL : List (Str × Option Value) → Map
  | [], _ => none
  | p :: r, y => if y = p.1 then p.2 else mapL r y
def setL (k : Str) (v : Option Value) : List (Str × Option Value) → List (Str × Option Value)
  | [] => [(k, v)]
  | p :: r => if k = p.1 then (k, v) :: r else p :: setL k v r
theorem mapL_at (k : Str) (v : Option Value) : ∀ (l : List (Str × Option Value)) (y : Str), (if y = k then v else mapL l y) = mapL (setL k v l) y
  | [], y => rfl
  | p :: r, y => by
    unfold setL
    by_cases h : k = p.1
    · rw [if_pos h]
      show _ = if y = k then v else mapL r y
      by_cases e : y = k
      · rw [if_pos e, if_pos e]
      · rw [if_neg e, if_neg e]
        show (if y = p.1 then p.2 else mapL r y) = _
        rw [if_neg fun q => e (q.trans h.symm)]
    · rw [if_neg h]
      show _ = if y = p.1 then p.2 else mapL (setL k v r) y
      rw [← mapL_at k v r y]
      by_cases e : y = k
      · rw [if_pos e, if_pos e, if_neg fun q => h (e.symm.trans q)]
      · rw [if_neg e, if_neg e]; rfl
theorem mapL_set {l l' : List (Str × Option Value)} {k : Str} {v : Option Value} (e : setL k v l = l') : (fun y => if y = k then v else mapL l y) = mapL l' := e ▸ funext (mapL_at k v l)
theorem mapL_none {l : List (Str × Option Value)} {k : Str} (e : mapL l k = none) : mapL l = mapL ((k, none) :: l) := by
  funext y
  show _ = if y = k then none else mapL l y
  by_cases h : y = k
  · rw [if_pos h, h, e]
  · rw [if_neg h]
def mapB (B : Map) : List (Str × Option Value) → Map
  | [] => fun y => B y
  | p :: r => fun y => if y = p.1 then p.2 else mapB B r y
theorem mapB_out {B : Map} {y : Str} : ∀ {l : List (Str × Option Value)}, (∀ p ∈ l, y ≠ p.1) → mapB B l y = B y
  | [], _ => rfl
  | p :: r, h => (if_neg (h p (.head _))).trans (mapB_out fun q hq => h q (.tail _ hq))
theorem mapB_eq {B : Map} {l l' : List (Str × Option Value)} (h : ∀ p ∈ l, mapB B l p.1 = mapB B l' p.1) (h' : ∀ p ∈ l', mapB B l p.1 = mapB B l' p.1) : mapB B l = mapB B l' := by
  funext y
  by_cases a : ∃ p ∈ l, y = p.1
  · obtain ⟨p, hp, rfl⟩ := a; exact h p hp
  by_cases b : ∃ p ∈ l', y = p.1
  · obtain ⟨p, hp, rfl⟩ := b; exact h' p hp
  · rw [mapB_out fun p hp e => a ⟨p, hp, e⟩, mapB_out fun p hp e => b ⟨p, hp, e⟩]
local macro_rules | `(tactic| walk_at "mapq") => `(tactic| repeat' first | exact List.forall_mem_nil _ | refine ac ?_ ?_ | kernel_rfl)
theorem tie_row {pre : Led} {row nr k : Nat} {infos : List Inf} {i : Inf} {lg ah ct : Int} {t1 t2 t3 : Tok} {Q : Value → Shared → Prop} (Z : At w A env L h₀ (n+1)) (F : Fr h₀ L s.heap m) (N : News h₀ L s.heap (pre ++ rowFoot w.params row infos nr))
    (hk : infos[k]? = some i) (hnd : NdI infos) (hpre : ∀ p ∈ pre, p.1 ≠ i.a ∧ p.1 ≠ i.d) (hrow : row ≠ i.a ∧ row ≠ i.d)
    (hQ : ∀ h' tk infos', Fr h₀ L h' m → News h₀ L h' (pre ++ rowFoot w.params row infos' nr) → infos'.map coreT = infos.map coreT → Q .none { s with heap := h', toks := tk }) :
    wpAny (model prog w) A (call (.ref 363) [.ref i.a, .int lg t1, .int ah t2, .int ct t3]) Q E s := by
  refine tie_spec Z F (News.sub N fun p hp => List.mem_append_right _ (.tail _ (memI hk p hp))) fun h' tk i' F' N' c' hsim => ?_
  refine hQ h' tk (infos.set k i') F' ?_ (map_set_same hk (by simp only [coreT]; rw [hsim.1, hsim.2.1, hsim.2.2]))
  unfold rowFoot
  rw [row_set hk hsim.1]
  have := news_setI (pre := pre ++ [(row, rowO infos nr)]) (by rw [List.append_assoc]; exact N) N' c' hk hsim.1 hsim.2.1 hnd (by
    intro p hp
    rcases List.mem_append.mp hp with hp | hp
    · exact hpre p hp
    · rw [List.mem_singleton.mp hp]; exact hrow)
  rw [List.append_assoc] at this
  exact this
def tbMap (row : Addr) (at_ : Nat) (oi lg ah ct : Int) (t1 t2 t3 t4 t5 : Tok) (k : Nat) (tk : Tok) : Map := fun y => if y = Str.ofString "spot" then some (.int ((k : Nat) : Int) tk) else
  List.lookup y [(Str.ofString "row", .ref row), (Str.ofString "at", .int ((at_ : Nat) : Int) t1), (Str.ofString "old_id", .int oi t2), (Str.ofString "lig_id", .int lg t3), (Str.ofString "ahead", .int ah t4), (Str.ofString "count", .int ct t5)].reverse
inductive TbR (P : Params) (infos : List Inf) (row : Addr) (nr : Nat) (v : Value) (led' : Led) : Prop
  | mk (h1 : v = .none) (infos' : _) (h2 : infos'.map coreT = infos.map coreT) (h3 : led' = rowFoot P row infos' nr)
inductive TbI (P : Params) (infos : List Inf) (row : Addr) (nr : Nat) (at_ : Nat) (oi : Int) (lg : Int) (ah : Int) (ct : Int) (t1 : Tok) (t2 : Tok) (t3 : Tok) (t4 : Tok) (t5 : Tok) (r : Nat) (m₁ : Map) (led₁ : Led) : Prop
  | mk (infosj k tk : _) (h1 : infosj.map coreT = infos.map coreT) (h2 : k ≤ infos.length) (h3 : r = infos.length - k) (h4 : led₁ = rowFoot P row infosj nr) (h5 : m₁ = tbMap row at_ oi lg ah ct t1 t2 t3 t4 t5 k tk)
theorem tie_behind_spec {row nr at_ : Nat} {infos : List Inf} {oi lg ah ct : Int} {t1 t2 t3 t4 t5 : Tok} {Q : Value → Shared → Prop} (Z : At w A env L h₀ (n+2)) (F : Fr h₀ L s.heap m) (N : News h₀ L s.heap (rowFoot w.params row infos nr))
    (hat : at_ ≤ infos.length) (hlen : infos.length ≤ 100) (hnd : NdI infos) (hap : ∀ i ∈ infos, row ≠ i.a ∧ row ≠ i.d)
    (hQ : ∀ h' tk infos', Fr h₀ L h' m → News h₀ L h' (rowFoot w.params row infos' nr) → Chg ((rowFoot w.params row infos nr).map (·.1)) s.heap h' → infos'.map coreT = infos.map coreT → Q .none { s with heap := h', toks := tk }) :
    wpAny (model prog w) A (call (.ref 370) [.ref row, .int ((at_ : Nat) : Int) t1, .int oi t2, .int lg t3, .int ah t4, .int ct t5]) Q E s := by
  have X := Z.X
  refine' call_mut [(Str.ofString "row", .ref row), (Str.ofString "at", .int ((at_ : Nat) : Int) t1), (Str.ofString "old_id", .int oi t2), (Str.ofString "lig_id", .int lg t3), (Str.ofString "ahead", .int ah t4), (Str.ofString "count", .int ct t5)] (TbR w.params infos row nr) ?Z ?F N ?k6 ?k7 ?k9 ?kB ?_ ?c2 ?c3 ?c4 ?c5 ?kQ
  walk_at "mine_sides"
  · intro g' L' h₁ tk sg sd so dp fr gs un A₀ base p loose mean mg mb B' T' X' Z' hU F' N' hl
    walk_at "mine_stop"
    rename_i F2 N2
    refine wpAny_execs_cons ?_
    refine while_own (TbI w.params infos row nr at_ oi lg ah ct t1 t2 t3 t4 t5) (infos.length - at_) F2 N2 ⟨infos, at_, _, rfl, hat, rfl, rfl, rfl⟩ ?_
    rintro r m₁ led₁ s₁ ⟨h5, tk5, rfl⟩ F5 N5 ⟨infosj, k, tk, hc, hk, rfl, rfl, rfl⟩
    clear F2 N2
    have hlj : infosj.length = infos.length := coreT_len hc
    have hndj : NdI infosj := hnd.core coreT_ad1 hc
    by_cases hlt : k < infos.length
    · obtain ⟨i, hi⟩ : ∃ i, infosj[((k : Nat) : Int).toNat]? = some i := ⟨infosj[k], by simp [hlj, hlt]⟩
      have hrow : row ≠ i.a ∧ row ≠ i.d := by
        obtain ⟨i0, hi0, e⟩ := core_get hc.symm hi
        have := hap i0 (List.mem_of_getElem? hi0)
        rw [(coreT_ad1 _ _ e).1, (coreT_ad1 _ _ e).2] at this
        exact this
      walk_at "mine_stop"
      · refine tie_row (k := k) (pre := []) Z' (by assumption) (by assumption) hi hndj (List.forall_mem_nil _) hrow ?_
        intro h8 tk8 infos8 F8 N8 hc8
        dsimp only [List.nil_append] at N8
        walk_at "mine_stop"
        exact (show WEnd _ _ _ _ _ _ from ⟨infos.length - (k + 1), _, _, by omega, ⟨_, _, rfl⟩, by assumption, by assumption, infos8, k + 1, _, hc8.trans hc, by omega, rfl, rfl, by unfold tbMap; exact map_again⟩)
      all_goals exact (show OutM _ _ _ _ _ _ from ⟨_, _, by assumption, by assumption, ⟨_, _, rfl⟩, rfl, infosj, hc, rfl⟩)
    · walk_at "mine_stop"
      all_goals exact (show OutM _ _ _ _ _ _ from ⟨_, _, by assumption, by assumption, ⟨_, _, rfl⟩, rfl, infosj, hc, rfl⟩)
  · rintro v h' tk led' F' N' c' ⟨rfl, infos', hc, rfl⟩
    exact hQ h' tk infos' F' N' c' hc
theorem list_ne_inf {P : Params} {h : Heap} {x k : Nat} {vs : List Value} {i : Inf} (N : News h₀ L h news) (h1 : (x, listOf vs.toArray k) ∈ news) (h2 : ∀ p ∈ i.led P, p ∈ news) : x ≠ i.a ∧ x ≠ i.d :=
  ⟨ne_of_objs N h1 (h2 _ (.head _)) (by intro h; cases h), ne_of_objs N h1 (h2 _ (.tail _ (.head _))) (by intro h; have := congrArg Obj.data h; cases this)⟩
theorem plist_ne_row {h : Heap} {x row k nr : Nat} {vs : List Value} {q : Nat} {qs : List Nat} {infos : List Inf} (N : News h₀ L h news) (hv : IntsN vs (q :: qs)) (h1 : (x, listOf vs.toArray k) ∈ news) (h2 : (row, rowO infos nr) ∈ news) : x ≠ row := by
  refine ne_of_objs N h1 h2 ?_
  intro h
  cases hv with
  | cons =>
    cases infos with
    | nil => simp at h
    | cons i r => simp at h
local macro_rules | `(tactic| walk_at "call ref") => `(tactic| (k_here; refine part_count_spec (by assumption) (by k_asm) (by k_asm) (by walk_at "mine_sub") ?_; intro _ _ _ _ _))
local macro_rules | `(tactic| walk_at "subscriptTail Name BinOp ref int") => `(tactic| (k_here; k_dflt (refine item_ints (by k_asm) (by k_mem) (by assumption) (by omega) (by omega) (by assumption) ?_; intro _)))
local macro_rules | `(tactic| walk_at "subscriptTail Name Name ref int") => `(tactic| (k_here; k_dflt (refine item_ints (by k_asm) (by k_mem) (by assumption) (by omega) (by omega) (by assumption) ?_; intro _)))
def taMap (row pl : Addr) (W : Str) (tw : Tok) (lg : Int) (tl : Tok) (la : Addr) (ah ct oi : Int) (ta tc to : Tok) (vs vp : Option Value) : Map := fun y =>
  if y = Str.ofString "passed" then vp else if y = Str.ofString "spot" then vs else if y = Str.ofString "old_id" then some (.int oi to) else if y = Str.ofString "count" then some (.int ct tc) else if y = Str.ofString "ahead" then some (.int ah ta) else if y = Str.ofString "last" then some (.ref la) else
  List.lookup y [(Str.ofString "row", .ref row), (Str.ofString "places", .ref pl), (Str.ofString "way", .str W tw), (Str.ofString "lig_id", .int lg tl)].reverse
abbrev taL (row pl : Addr) (W : Str) (tw : Tok) (lg : Int) (tl : Tok) (la : Addr) (ah ct oi : Int) (ta tc to : Tok) (vs vp : Option Value) : List (Str × Option Value) := [(Str.ofString "passed", vp), (Str.ofString "spot", vs), (Str.ofString "old_id", some (.int oi to)), (Str.ofString "count", some (.int ct tc)), (Str.ofString "ahead", some (.int ah ta)), (Str.ofString "last", some (.ref la))]
theorem pl_out {P : Params} {h : Heap} {pl row kn nr q : Nat} {qs : List Nat} {vs : List Value} {infos : List Inf} (N : News h₀ L h ((pl, listOf vs.toArray kn) :: rowFoot P row infos nr)) (hv : IntsN vs (q :: qs)) : ∀ p ∈ rowFoot P row infos nr, p.1 ≠ pl := by
  intro p hp
  rcases List.mem_cons.mp hp with rfl | hp'
  · exact (plist_ne_row N hv (.head _) (.tail _ (.head _))).symm
  · obtain ⟨i, hi, hpi⟩ := List.mem_flatMap.mp hp'
    have h1 := list_ne_inf (P := P) (i := i) N (.head _) (fun p hp => .tail _ (.tail _ (List.mem_flatMap.mpr ⟨i, hi, hp⟩)))
    simp only [List.mem_cons, List.not_mem_nil, or_false] at hpi
    rcases hpi with rfl | rfl
    · exact h1.1.symm
    · exact h1.2.symm
theorem row_out {P : Params} {h : Heap} {row nr : Nat} {infos : List Inf} (N : News h₀ L h (rowFoot P row infos nr)) : ∀ i ∈ infos, row ≠ i.a ∧ row ≠ i.d := fun i hi =>
  list_ne_inf (P := P) (i := i) N (.head _) (fun p hp => .tail _ (List.mem_flatMap.mpr ⟨i, hi, hp⟩))
theorem rowFoot_ne {P : Params} {A B : List Inf} {row nr x : Nat} (e : A.map coreT = B.map coreT) (h : ∀ p ∈ rowFoot P row A nr, p.1 ≠ x) : ∀ p ∈ rowFoot P row B nr, p.1 ≠ x := by
  intro p hp
  revert p
  first | refine ac3 ?_ ?_ | refine ac2 ?_ ?_ | refine ac ?_ ?_
  · exact (show row ≠ x from h (row, rowO A nr) (.head _))
  intro p hp
  · exact infoLed_ne (coreT_ad e) (fun p hp => h p (.tail _ hp)) p hp
theorem ta_init {row pl : Addr} {W : Str} {tw : Tok} {lg : Int} {tl : Tok} {la : Addr} {ah ct oi : Int} {ta tc to : Tok} :
    (fun y => if y = Str.ofString "ahead" then some (Value.int ah ta) else if y = Str.ofString "count" then some (.int ct tc) else if y = Str.ofString "old_id" then some (.int oi to) else if y = Str.ofString "last" then some (.ref la) else
      List.lookup y [(Str.ofString "row", .ref row), (Str.ofString "places", .ref pl), (Str.ofString "way", .str W tw), (Str.ofString "lig_id", .int lg tl)].reverse) = taMap row pl W tw lg tl la ah ct oi ta tc to none none :=
  mapB_eq (B := fun y => List.lookup (β := Value) y [(Str.ofString "row", Value.ref row), (Str.ofString "places", Value.ref pl), (Str.ofString "way", Value.str W tw), (Str.ofString "lig_id", Value.int lg tl)].reverse) (l := [(Str.ofString "ahead", some (Value.int ah ta)), (Str.ofString "count", some (Value.int ct tc)), (Str.ofString "old_id", some (Value.int oi to)), (Str.ofString "last", some (Value.ref la))]) (l' := taL row pl W tw lg tl la ah ct oi ta tc to none none) (by walk_at "mapq") (by walk_at "mapq")
theorem ta_step1 {row pl : Addr} {W : Str} {tw : Tok} {lg : Int} {tl : Tok} {la la' : Addr} {ah ct oi ah' ct' oi' : Int} {ta tc to ta' tc' to' : Tok} {vs1 vp : Option Value} :
    (fun y => if y = Str.ofString "ahead" then some (Value.int ah' ta') else if y = Str.ofString "count" then some (.int ct' tc') else if y = Str.ofString "old_id" then some (.int oi' to') else if y = Str.ofString "last" then some (.ref la') else
      taMap row pl W tw lg tl la ah ct oi ta tc to vs1 vp y) = taMap row pl W tw lg tl la' ah' ct' oi' ta' tc' to' vs1 vp :=
  mapB_eq (B := fun y => List.lookup (β := Value) y [(Str.ofString "row", Value.ref row), (Str.ofString "places", Value.ref pl), (Str.ofString "way", Value.str W tw), (Str.ofString "lig_id", Value.int lg tl)].reverse) (l := [(Str.ofString "ahead", some (Value.int ah' ta')), (Str.ofString "count", some (Value.int ct' tc')), (Str.ofString "old_id", some (Value.int oi' to')), (Str.ofString "last", some (Value.ref la'))] ++ taL row pl W tw lg tl la ah ct oi ta tc to vs1 vp) (l' := taL row pl W tw lg tl la' ah' ct' oi' ta' tc' to' vs1 vp) (by walk_at "mapq") (by walk_at "mapq")
theorem ta_step2 {row pl : Addr} {W : Str} {tw : Tok} {lg : Int} {tl : Tok} {la la' : Addr} {ah ct oi ah' ct' oi' : Int} {ta tc to ta' tc' to' : Tok} {vs1 vs2 vp : Option Value} :
    (fun y => if y = Str.ofString "ahead" then some (Value.int ah' ta') else if y = Str.ofString "count" then some (.int ct' tc') else if y = Str.ofString "old_id" then some (.int oi' to') else if y = Str.ofString "last" then some (.ref la') else
      if y = Str.ofString "spot" then vs2 else taMap row pl W tw lg tl la ah ct oi ta tc to vs1 vp y) = taMap row pl W tw lg tl la' ah' ct' oi' ta' tc' to' vs2 vp :=
  mapB_eq (B := fun y => List.lookup (β := Value) y [(Str.ofString "row", Value.ref row), (Str.ofString "places", Value.ref pl), (Str.ofString "way", Value.str W tw), (Str.ofString "lig_id", Value.int lg tl)].reverse) (l := [(Str.ofString "ahead", some (Value.int ah' ta')), (Str.ofString "count", some (Value.int ct' tc')), (Str.ofString "old_id", some (Value.int oi' to')), (Str.ofString "last", some (Value.ref la')), (Str.ofString "spot", vs2)] ++ taL row pl W tw lg tl la ah ct oi ta tc to vs1 vp) (l' := taL row pl W tw lg tl la' ah' ct' oi' ta' tc' to' vs2 vp) (by walk_at "mapq") (by walk_at "mapq")
theorem ta_spot {row pl : Addr} {W : Str} {tw : Tok} {lg : Int} {tl : Tok} {la : Addr} {ah ct oi : Int} {ta tc to : Tok} {vs1 vs2 vp : Option Value} :
    (fun y => if y = Str.ofString "spot" then vs2 else taMap row pl W tw lg tl la ah ct oi ta tc to vs1 vp y) = taMap row pl W tw lg tl la ah ct oi ta tc to vs2 vp :=
  mapB_eq (B := fun y => List.lookup (β := Value) y [(Str.ofString "row", Value.ref row), (Str.ofString "places", Value.ref pl), (Str.ofString "way", Value.str W tw), (Str.ofString "lig_id", Value.int lg tl)].reverse) (l := [(Str.ofString "spot", vs2)] ++ taL row pl W tw lg tl la ah ct oi ta tc to vs1 vp) (l' := taL row pl W tw lg tl la ah ct oi ta tc to vs2 vp) (by walk_at "mapq") (by walk_at "mapq")
inductive TaR (P : Params) (infos : List Inf) (pl : Addr) (vs : List Value) (kn : Nat) (row : Addr) (nr : Nat) (v : Value) (led' : Led) : Prop
  | mk (tot t infos' : _) (h1 : v = .int tot t) (h2 : infos'.map coreT = infos.map coreT) (h3 : led' = (pl, listOf vs.toArray kn) :: rowFoot P row infos' nr)
inductive TaI (P : Params) (infos : List Inf) (pl : Addr) (vs : List Value) (kn : Nat) (row : Addr) (nr : Nat) (W : Str) (tw : Tok) (lg : Int) (tl : Tok) (j : Nat) (m₁ : Map) (led₁ : Led) : Prop
  | mk (infosj la ah ct oi ta tc to vs1 vp : _) (h1 : infosj.map coreT = infos.map coreT) (h2 : led₁ = (pl, listOf vs.toArray kn) :: rowFoot P row infosj nr) (h3 : m₁ = taMap row pl W tw lg tl la ah ct oi ta tc to vs1 vp)
inductive TaK (P : Params) (infosj : List Inf) (I : Addr) (o : Obj) (pl : Addr) (vs : List Value) (kn : Nat) (row : Addr) (nr : Nat) (W : Str) (tw : Tok) (lg : Int) (tl : Tok) (la : Addr) (ah : Int) (ct : Int) (oi : Int) (ta : Tok) (tc : Tok) (to : Tok) (j : Nat) (tkj : Tok) (k : Nat) (m₁ : Map) (led₁ : Led) : Prop
  | mk (infosk vp : _) (h1 : infosk.map coreT = infosj.map coreT) (h2 : led₁ = (I, o) :: (pl, listOf vs.toArray kn) :: rowFoot P row infosk nr) (h3 : m₁ = taMap row pl W tw lg tl la ah ct oi ta tc to (some (.int (1 + (j : Int)) tkj)) vp)
theorem tie_all_spec {row nr pl kn : Nat} {infos : List Inf} {vs : List Value} {p0 : Nat} {ps : List Nat} {W : Str} {lg : Int} {tw tl : Tok} {Q : Value → Shared → Prop} (Z : At w A env L h₀ (n+3)) (F : Fr h₀ L s.heap m) (N : News h₀ L s.heap ((pl, listOf vs.toArray kn) :: rowFoot w.params row infos nr))
    (hv : IntsN vs (p0 :: ps)) (hps : ∀ p ∈ p0 :: ps, p < infos.length) (hlen : infos.length ≤ 100) (hpl : ps.length ≤ 100) (hnd : NdI infos)
    (hQ : ∀ h' tk infos' tot t, Fr h₀ L h' m → News h₀ L h' ((pl, listOf vs.toArray kn) :: rowFoot w.params row infos' nr) → Chg (((pl, listOf vs.toArray kn) :: rowFoot w.params row infos nr).map (·.1)) s.heap h' → infos'.map coreT = infos.map coreT → Q (.int tot t) { s with heap := h', toks := tk }) :
    wpAny (model prog w) A (call (.ref 377) [.ref row, .ref pl, .str W tw, .int lg tl]) Q E s := by
  have X := Z.X
  refine' call_mut [(Str.ofString "row", .ref row), (Str.ofString "places", .ref pl), (Str.ofString "way", .str W tw), (Str.ofString "lig_id", .int lg tl)] (TaR w.params infos pl vs kn row nr) ?Z ?F N ?k6 ?k7 ?k9 ?kB ?_ ?c2 ?c3 ?c4 ?c5 ?kQ
  walk_at "mine_sides"
  · intro g' L' h₁ tk sg sd so dp fr gs un A₀ base p loose mean mg mb B' T' X' Z' hU F' N' hl
    have hvl : vs.length = ps.length + 1 := by rw [hv.length]; simp
    have hp0 := hps p0 (.head _)
    have hx0 : ((p0 :: ps).map Int.ofNat)[(0 : Int).toNat]? = some ((p0 : Nat) : Int) := rfl
    obtain ⟨i0, hi0⟩ : ∃ i, infos[((p0 : Nat) : Int).toNat]? = some i := ⟨infos[p0], by simp [hp0]⟩
    walk_at "mine_stop"
    refine wpAny_execs_cons (for_own (h₀ := g') (L := L') ?_)
    walk_at "mine_stop"
    rename_i h3 tk3 tr1 tr2 tr3 hR F3 N3 hk3
    have N4 := News.tail N3
    have key : ∀ (j : Nat) x, (p0 :: ps)[j]? = some x → x < infos.length := fun j x hx => hps x (List.mem_of_getElem? hx)
    have cell : ∀ (infosj : List Inf), infosj.map coreT = infos.map coreT → ∀ k, k < infos.length → ∃ i, infosj[k]? = some i := fun infosj hc k hk => ⟨infosj[k]'(by rw [coreT_len hc]; exact hk), by simp⟩
    refine for_range ps.length rfl hR (by decide) (by decide) (by omega) (by simp; omega) (by simp) F3 N4
      (TaI w.params infos pl vs kn row nr W tw lg tl)
      ⟨infos, _, _, _, _, _, _, _, none, none, rfl, rfl, ta_init⟩ ⟨_, _, rfl⟩ ?_ ?_
    · rintro I j m₁ led₁ s₁ o tkj ⟨h5, tk5, rfl⟩ hj ⟨infosj, la, ah, ct, oi, ta, tc, to, vs1, vp, hc, rfl, rfl⟩ F5 N5 hI
      obtain ⟨q, hq⟩ : ∃ q, (p0 :: ps)[j]? = some q := ⟨(p0 :: ps)[j]'(by simp; omega), by simp⟩
      obtain ⟨q', hq'⟩ : ∃ q, (p0 :: ps)[j + 1]? = some q := ⟨(p0 :: ps)[j + 1]'(by simp; omega), by simp⟩
      have hx1 : ((p0 :: ps).map Int.ofNat)[(1 + (j : Int) - 1).toNat]? = some ((q : Nat) : Int) := by rw [show (1 + (j : Int) - 1).toNat = j from by omega, List.getElem?_map, hq]; rfl
      have hx2 : ((p0 :: ps).map Int.ofNat)[(1 + (j : Int)).toNat]? = some ((q' : Nat) : Int) := by rw [show (1 + (j : Int)).toNat = j + 1 from by omega, List.getElem?_map, hq']; rfl
      have hql := key _ _ hq
      have hql' := key _ _ hq'
      obtain ⟨ij, hij⟩ : ∃ i, infosj[((q' : Nat) : Int).toNat]? = some i := cell infosj hc q' hql'
      clear F3 N3 N4
      have houtI : ∀ p ∈ rowFoot w.params row infosj nr, p.1 ≠ I := fun p hp => hI p (.tail _ hp)
      have hplI : pl ≠ I := hI (pl, listOf vs.toArray kn) (.head _)
      have hI' : ∀ infosk : List Inf, infosk.map coreT = infosj.map coreT → ∀ p ∈ (pl, listOf vs.toArray kn) :: rowFoot w.params row infosk nr, p.1 ≠ I := fun infosk hck p hp => (List.mem_cons.mp hp).elim (fun e => by rw [e]; exact hplI) (rowFoot_ne hck.symm houtI p)
      walk_at "mine_stop"
      · refine wpAny_execs_cons (for_own (h₀ := g') (L := L') ?_)
        walk_at "mine_stop"
        rename_i h6 tk6 tr1 tr2 tr3 hR6 F6 N6 hk6
        refine for_range (q' - (q + 1)) rfl hR6 (by omega) (by omega) (by omega) (by omega) (by omega) F6 N6
          (TaK w.params infosj I o pl vs kn row nr W tw lg tl la ah ct oi ta tc to j tkj)
          ⟨infosj, vp, rfl, rfl, ta_spot⟩ ⟨_, _, rfl⟩ ?_ ?_
        · rintro I2 k m₁ led₁ s₁ o2 tkk ⟨h7, tk7, rfl⟩ hk ⟨infosk, vp2, hck, rfl, rfl⟩ F7 N7 hI2
          clear F6 N6
          obtain ⟨ik, hik⟩ : ∃ i, infosk[(((q : Nat) : Int) + 1 + (k : Int)).toNat]? = some i := by
            rw [show (((q : Nat) : Int) + 1 + (k : Int)).toNat = q + 1 + k from by omega]
            exact cell infosk (hck.trans hc) _ (by omega)
          have hmi : ∀ p ∈ ik.led w.params, p ∈ rowFoot w.params row infosk nr := fun p hp => .tail _ (memI hik p hp)
          have hpre : ∀ p ∈ [(I2, o2), (I, o), (pl, listOf vs.toArray kn)], p.1 ≠ ik.a ∧ p.1 ≠ ik.d := by
            have h1 := pl_out (News.tail (News.tail N7)) hv
            have h2 := rowFoot_ne hck.symm houtI
            intro p hp
            simp only [List.mem_cons, List.not_mem_nil, or_false] at hp
            rcases hp with rfl | rfl | rfl
            · exact ⟨Ne.symm (hI2 _ (.tail _ (.tail _ (hmi _ (.head _))))), Ne.symm (hI2 _ (.tail _ (.tail _ (hmi _ (.tail _ (.head _))))))⟩
            · exact ⟨Ne.symm (h2 _ (hmi _ (.head _))), Ne.symm (h2 _ (hmi _ (.tail _ (.head _))))⟩
            · exact ⟨Ne.symm (h1 _ (hmi _ (.head _))), Ne.symm (h1 _ (hmi _ (.tail _ (.head _))))⟩
          have hrow := row_out (News.tail (News.tail (News.tail N7))) ik (List.mem_of_getElem? hik)
          have hndk : NdI infosk := hnd.core coreT_ad1 (hck.trans hc)
          walk_at "mine_stop"
          refine tie_row (pre := [(I2, o2), (I, o), (pl, listOf vs.toArray kn)]) Z' (by assumption) (by assumption) hik hndk hpre hrow ?_
          intro h8 tk8 infos8 F8 N8 hc8
          dsimp only [List.cons_append, List.nil_append] at N8
          walk_at "mine_stop"
          try dsimp only
          have hI9 : ∀ p ∈ (I, o) :: (pl, listOf vs.toArray kn) :: rowFoot w.params row infos8 nr, p.1 ≠ I2 := by
            intro p hp
            revert p
            first | refine ac3 ?_ ?_ | refine ac2 ?_ ?_ | refine ac ?_ ?_
            · exact hI2 _ (.head _)
            refine ac ?_ ?_
            · exact hI2 _ (.tail _ (.head _))
            intro p hp
            · exact rowFoot_ne hc8.symm (fun p hp => hI2 p (.tail _ (.tail _ hp))) p hp
          exact (show TurnEnd _ _ _ _ _ _ _ from ⟨_, _, ⟨_, _, rfl⟩, F8, N8, hI9, infos8, some _, hc8.trans hck, rfl, by unfold taMap; exact map_again⟩)
        · rintro m₁ led₁ s₁ ⟨h7, tk7, rfl⟩ ⟨infosk, vp2, hck, rfl, rfl⟩ F7 N7
          clear F6 N6
          obtain ⟨ij', hij'⟩ : ∃ i, infosk[((q' : Nat) : Int).toNat]? = some i := cell infosk (hck.trans hc) q' hql'
          try dsimp only
          walk_at "mine_stop"
          try dsimp only
          exact (show TurnEnd _ _ _ _ _ _ _ from ⟨_, _, ⟨_, _, rfl⟩, by assumption, News.sub (by assumption) (by walk_at "mine_subf"), hI' infosk hck, infosk, _, _, _, _, _, _, _, _, _, hck.trans hc, rfl, ta_step1⟩)
      · try dsimp only
        exact (show TurnEnd _ _ _ _ _ _ _ from ⟨_, _, ⟨_, _, rfl⟩, by assumption, News.sub (by assumption) (by walk_at "mine_subf"), hI' infosj rfl, infosj, _, _, _, _, _, _, _, _, _, hc, rfl, ta_step2⟩)
    · rintro m₁ led₁ s₁ ⟨h5, tk5, rfl⟩ ⟨infosj, la, ah, ct, oi, ta, tc, to, vs1, vp, hc, rfl, rfl⟩ F5 N5
      clear F3 N3 N4
      try dsimp only
      walk_at "mine_stop"
      · obtain ⟨ql, hql1, hql2⟩ : ∃ ql : Nat, ((p0 :: ps).map Int.ofNat).getD (-1 + (((p0 :: ps).map Int.ofNat).length : Int)).toNat 0 = (ql : Int) ∧ ql < infos.length := by
          have e : (-1 + (((p0 :: ps).map Int.ofNat).length : Int)).toNat = ps.length := by simp only [List.length_map, List.length_cons]; omega
          refine ⟨(p0 :: ps)[ps.length]'(by simp), by rw [e, List.getD_eq_getElem?_getD, List.getElem?_map, List.getElem?_eq_getElem (by simp)]; rfl, key ps.length _ (by simp)⟩
        rw [hql1, show ((ql : Nat) : Int) + 1 = ((ql + 1 : Nat) : Int) from by omega]
        refine tie_behind_spec (row := row) (nr := nr) (infos := infosj) Z' (by assumption) (News.tail (by assumption)) (by rw [coreT_len hc]; omega) (by rw [coreT_len hc]; omega) (hnd.core coreT_ad1 hc) (row_out (News.tail (by assumption))) ?_
        intro h8 tk8 infos8 F8 N8 c8 hc8
        have hpo := pl_out (by assumption) hv
        have N9 : News g' L' h8 ((pl, listOf vs.toArray kn) :: rowFoot w.params row infos8 nr) := by
          refine News.after2 (by assumption) N8 c8 fun p hp => ?_
          revert p
          first | refine ac3 ?_ ?_ | refine ac2 ?_ ?_ | refine ac ?_ ?_
          · exact .inr ⟨.head _, fun hm => by obtain ⟨q, hq, e⟩ := List.mem_map.mp hm; exact hpo q hq e⟩
          intro p hp
          · exact .inl hp
        walk_at "mine_stop"
        try dsimp only
        exact (show OutM _ _ _ _ _ _ from ⟨_, _, F8, N9, ⟨_, _, rfl⟩, _, _, infos8, rfl, hc8.trans hc, rfl⟩)
      · try dsimp only
        exact (show OutM _ _ _ _ _ _ from ⟨_, _, by assumption, by assumption, ⟨_, _, rfl⟩, _, _, infosj, rfl, hc, rfl⟩)
  · rintro v h' tk led' F' N' c' ⟨tot, t, infos', rfl, hc, rfl⟩
    exact hQ h' tk infos' tot t F' N' c' hc
theorem set_slice {pre post : Led} {vs ws : List Value} {l D S nr a b : Nat} {ta tb : Tok} {Q : Unit → Shared → Prop} (F : Fr h₀ L s.heap m) (N : News h₀ L s.heap (pre ++ (l, listOf vs.toArray nr) :: post)) (ha : ∀ p ∈ pre, p.1 ≠ l) (hb : ∀ p ∈ post, p.1 ≠ l)
    (hD : s.heap.IsList D ws.toArray) (hne : l ≠ D) (hab : a ≤ b) (hbl : b ≤ vs.length) (hz : vs.length ≤ 1000) (hw : ws.length ≤ 1000) (hsl : s.heap.IsSliceOf S (.int (a : Int) ta) (.int (b : Int) tb) .none)
    (h : ∀ h' nr', Fr h₀ L h' m → News h₀ L h' (pre ++ (l, listOf (vs.take a ++ ws ++ vs.drop b).toArray nr') :: post) → Q () { s with heap := h' }) :
    wpAny (model prog w) A (setItem (.ref l) (.ref S) (.ref D)) Q E s := by
  have z := N (l, listOf vs.toArray nr) (List.mem_append.mpr (.inr (.head _)))
  have ho := z.1
  have hl : s.heap.IsList l vs.toArray := PySem.IsL.isList (n := nr) ho
  obtain ⟨oD, hoD, hcD, nD, hdD⟩ := id hD
  obtain ⟨os, hos, hcs, hds⟩ := id hsl
  have hTs : s.TypeIs (.ref S) "slice" := ⟨os, hos, hcs⟩
  have hbig : (1000 : Nat) + 1000 ≤ sizeLine := by decide
  have hb0 : sliceBounds (some (a : Int)) (some (b : Int)) none vs.toArray.size = ((a : Int), (b : Int), 1) := by
    simp only [sliceBounds, Option.getD_none]
    have h1 : ¬ ((a : Int) < 0) := by omega
    have h2 : ¬ ((b : Int) < 0) := by omega
    simp only [h1, h2, if_false, show (1 : Int) > 0 by decide, if_true]
    congr 1
    · simp; omega
    · congr 1; simp; omega
  unfold setItem
  try with_reducible refine wpAny_holding ?_
  first | refine wpAny_bind (wpAny_pure ?_) | skip
  refine wpAny_bind (wpAny_sequenceKey hl.typeIs (by decide) ?_)
  refine wpAny_bind (wpAny_callSpecial?_slot (name := Str.ofString "__setitem__") hl.typeIs slot_list_setitem
    (wpAny_call_entry slot_list_setitem hl.typeIs entry_list_setitem ?_ (args_list_setitem _ _ _)))
  show wpAny _ _ (Builtin.List.listSubscript? (.ref S) >>= _) _ _ s
  refine wpAny_bind ?_
  unfold Builtin.List.listSubscript?
  refine wpAny_bind (wpAny_specialOf hTs slice_no_index ?_)
  simp only [Option.isNone_none, if_true]
  refine wpAny_pure ?_
  show wpAny _ _ (typeOf (.ref S) >>= _) _ _ s
  refine wpAny_bind (wpAny_typeOf hTs ?_)
  rw [if_neg (by decide)]
  rw [listSliceParts_eq]
  refine wpAny_bind (wpAny_bind (wpAny_field hos hds (x := .none) rfl (wpAny_bind (wpAny_listPart .none ?_))))
  rw [if_neg (by exact Bool.false_ne_true)]
  refine wpAny_bind (wpAny_field hos hds (x := .int (a : Int) ta) rfl (wpAny_bind (wpAny_listPart (.int _ _) ?_)))
  refine wpAny_bind (wpAny_field hos hds (x := .int (b : Int) tb) rfl (wpAny_bind (wpAny_listPart (.int _ _) (wpAny_pure ?_))))
  have hsr : Builtin.List.listSameRef (.ref l) (.ref D) = false := by simp [Builtin.List.listSameRef, hne]
  simp only [hsr, Bool.false_eq_true, if_false]
  refine wpAny_bind (m := Builtin.List.listAllItems (.ref D) _) ?_
  unfold Builtin.List.listAllItems
  refine wpAny_bind (wpAny_typeOf hD.typeIs ?_)
  rw [if_pos (by decide)]
  unfold Builtin.List.listItems
  refine wpAny_bind (wpAny_seqItems hoD hdD (wpAny_pure ?_))
  refine wpAny_bind (wpAny_bind (wpAny_seqItems ho rfl (wpAny_pure ?_)))
  refine wpAny_bind (wpAny_of_eq (sliceIndices_raw (some (a : Int)) (some (b : Int)) none vs.toArray.size (by simp)) ?_)
  rw [hb0]
  try dsimp only
  rw [if_pos (by rfl)]
  have htl : Builtin.List.listTooLong (vs.toArray.size + ws.toArray.size) = false := by
    unfold Builtin.List.listTooLong; simp; omega
  rw [htl]
  refine wpAny_bind (wpAny_rule ?_)
  simp only [Bool.false_eq_true, if_false]
  have emax : (max (a : Int) (b : Int)).toNat = b := by omega
  rw [emax, Int.toNat_natCast]
  have enew : vs.toArray.extract 0 a ++ ws.toArray ++ vs.toArray.extract b vs.toArray.size = (vs.take a ++ ws ++ vs.drop b).toArray := by
    apply Array.toList_inj.mp
    simp
    exact List.take_of_length_le (by simp)
  have hsz2 : (vs.take a ++ ws ++ vs.drop b).toArray.size ≤ sizeLine := by
    simp only [List.size_toArray, List.length_append, List.length_take, List.length_drop]; omega
  show wpAny _ _ (updateSeq l (fun xs => xs.extract 0 a ++ ws.toArray ++ xs.extract b xs.size) >>= _) _ _ s
  refine wpAny_bind (wpAny_updateSeq ho rfl ?_ (by simp; omega) (by rw [enew]; omega))
  refine wpAny_bind (wpAny_letGo ?_)
  refine wpAny_pure ⟨.none, rfl, wpAny_pure ?_⟩
  exact h _ _ (F.change (Heap.SameBut.update ..) z.2.1 z.2.2) (ki_turn _ N ha hb enew rfl)
theorem Upd.mid {d : Addr} {o o' : Obj} {post : Led} (hb : ∀ p ∈ post, p.1 ≠ d) : ∀ (pre : Led), (∀ p ∈ pre, p.1 ≠ d) → Upd d o o' (pre ++ (d, o) :: post) (pre ++ (d, o') :: post)
  | [], _ => .head hb
  | p :: pre, ha => .tail (ha p (.head _)) (Upd.mid hb pre fun q hq => ha q (.tail _ hq))
theorem infoLed_split {P : Params} {infos : List Inf} {k : Nat} {i : Inf} (hk : infos[k]? = some i) : infoLed P infos = infoLed P (infos.take k) ++ (i.a, instObj 52 i.d) :: (i.d, dictOf (i.es P) i.n) :: infoLed P (infos.drop (k + 1)) := by
  obtain ⟨h, rfl⟩ := List.getElem?_eq_some_iff.mp hk
  have e : infos = infos.take k ++ infos[k] :: infos.drop (k + 1) := by rw [← List.drop_eq_getElem_cons h, List.take_append_drop]
  refine (congrArg (infoLed P) e).trans ?_
  simp only [infoLed, List.flatMap_append, List.flatMap_cons, List.cons_append, List.nil_append]
theorem infoLed_set {P : Params} {infos : List Inf} {k : Nat} {i i' : Inf} (hk : infos[k]? = some i) : infoLed P (infos.set k i') = infoLed P (infos.take k) ++ (i'.a, instObj 52 i'.d) :: (i'.d, dictOf (i'.es P) i'.n) :: infoLed P (infos.drop (k + 1)) := by
  obtain ⟨h, rfl⟩ := List.getElem?_eq_some_iff.mp hk
  rw [infoLed_split (k := k) (i := i') (by rw [List.getElem?_set_self h])]
  congr 1
  · rw [List.take_set_of_le (Nat.le_refl _)]
  · rw [List.drop_set_of_lt (Nat.lt_succ_self _)]
theorem setRow {pre : Led} {infos : List Inf} {k x : Nat} {i i' : Inf} {attr : Str} {v : Value} {Q : Unit → Shared → Prop} (X : (hd.heap_1 w.params).In h₀) (F : Fr h₀ L s.heap m) (N : News h₀ L s.heap (pre ++ infoLed w.params infos)) (hk : infos[k]? = some i) (hx : x = i.a) (hnd : NdI infos) (hpre : ∀ p ∈ pre, p.1 ≠ i.d)
    (hs : findIn (hd.heap_1 w.params) (.ref 52) "__setattr__" = some (some (.builtin "object.__setattr__"))) (hp : plainOver (hd.heap_1 w.params) 52 = true) (ht : takerIn (hd.heap_1 w.params) 52 attr = some none) (hh : hasDictIn (hd.heap_1 w.params) 52 = true) (hl : (getL attr (i.es w.params)).isSome = true)
    (e : (putL attr (PyData.keyHash w.params attr) (.str attr (s.toks + 1)) v (i.es w.params), putN attr (i.es w.params) i.n) = (i'.es w.params, i'.n)) (ha : i'.a = i.a) (hd' : i'.d = i.d)
    (h : ∀ h', Fr h₀ L h' m → News h₀ L h' (pre ++ infoLed w.params (infos.set k i')) → Q () { s with heap := h', toks := s.toks + 2 }) :
    wpAny (model prog w) A (setAttr (.ref x) attr v) Q E s := by
  subst hx
  have hi := a_ne_d (i := i) (News.sub N fun p hp => List.mem_append_right _ (memI hk p hp))
  have hm := memI (P := w.params) hk
  have hlt := (List.getElem?_eq_some_iff.mp hk).1
  have apart : ∀ (j : Nat) i1, infos[j]? = some i1 → k ≠ j → ∀ p ∈ i1.led w.params, p.1 ≠ i.d := by
    intro j i1 hj hne p hp
    have d1 := hnd k j i i1 hk hj hne
    have d2 := hnd j k i1 i hj hk (Ne.symm hne)
    simp only [List.mem_cons, List.not_mem_nil, or_false] at hp
    rcases hp with rfl | rfl
    · exact d2.2.2
    · exact d1.2.1.symm
  have hpre' : ∀ p ∈ pre ++ infoLed w.params (infos.take k) ++ [(i.a, instObj 52 i.d)], p.1 ≠ i.d := by
    intro p hp
    rcases List.mem_append.mp hp with hp | hp
    · rcases List.mem_append.mp hp with hp | hp
      · exact hpre p hp
      · obtain ⟨i1, hi1, hp1⟩ := List.mem_flatMap.mp hp
        obtain ⟨j, hj⟩ := List.getElem?_of_mem hi1
        have hjk : j < k := by have := (List.getElem?_eq_some_iff.mp hj).1; rw [List.length_take] at this; omega
        rw [List.getElem?_take_of_lt hjk] at hj
        exact apart j i1 hj (by omega) p hp1
    · rw [List.mem_singleton.mp hp]; exact hi
  have hpost : ∀ p ∈ infoLed w.params (infos.drop (k + 1)), p.1 ≠ i.d := by
    intro p hp
    obtain ⟨i1, hi1, hp1⟩ := List.mem_flatMap.mp hp
    obtain ⟨j, hj⟩ := List.getElem?_of_mem hi1
    rw [List.getElem?_drop] at hj
    exact apart _ i1 hj (by omega) p hp1
  have I : InstAt s.heap i.a (instObj 52 i.d) 52 (some (dictOf (i.es w.params) i.n)) := InstAt.of_news N (List.mem_append_right _ (hm _ (.head _))) (List.mem_append_right _ (hm _ (.tail _ (.head _))))
  refine set_dict (news := pre ++ infoLed w.params infos) (news' := pre ++ infoLed w.params (infos.set k i')) (n' := i'.n) F X N I rfl hs hp ht hh hl e ?_ (Nat.le_of_ble_eq_true rfl) h
  have U := Upd.mid (d := i.d) (o := dictOf (i.es w.params) i.n) (o' := dictOf (i'.es w.params) i'.n) hpost _ hpre'
  rw [infoLed_split hk, infoLed_set hk, ha, hd']
  simpa [List.append_assoc] using U
abbrev Sc.fixA (c : Sc) : List Addr := [c.sc, c.scd, c.g.gdf, c.g.gdd, c.g.cdf, c.g.cdd, c.g.mp, c.k.lk, c.k.lkd]
def Off (x : Addr) (c : Sc) (infos : List Inf) : Prop := x ≠ c.buf ∧ x ≠ c.bfd ∧ x ≠ c.row ∧ ∀ i ∈ infos, x ≠ i.a ∧ x ≠ i.d
structure Apt (c : Sc) (infos : List Inf) : Prop where
  fix : ∀ x ∈ c.fixA, Off x c infos
  own : ∀ x ∈ [c.buf, c.bfd, c.row], ∀ i ∈ infos, x ≠ i.a ∧ x ≠ i.d
  rb : c.row ≠ c.buf ∧ c.row ≠ c.bfd
  nd : NdI infos
theorem ad_get {A B : List Inf} (e : (A.map fun i => (i.a, i.d)) = B.map fun i => (i.a, i.d)) {i : Inf} (hi : i ∈ A) : ∃ j ∈ B, j.a = i.a ∧ j.d = i.d := by
  have : (i.a, i.d) ∈ B.map fun i => (i.a, i.d) := by rw [← e]; exact List.mem_map_of_mem hi
  obtain ⟨j, hj, h⟩ := List.mem_map.mp this
  exact ⟨j, hj, congrArg Prod.fst h, congrArg Prod.snd h⟩
theorem Off.ad {x : Addr} {c : Sc} {A B : List Inf} (e : (B.map fun i => (i.a, i.d)) = A.map fun i => (i.a, i.d)) (h : Off x c A) : Off x c B :=
  ⟨h.1, h.2.1, h.2.2.1, fun i hi => by obtain ⟨j, hj, e1, e2⟩ := ad_get e hi; rw [← e1, ← e2]; exact h.2.2.2 j hj⟩
theorem Apt.ad {c : Sc} {A B : List Inf} (e : (B.map fun i => (i.a, i.d)) = A.map fun i => (i.a, i.d)) (h : Apt c A) : Apt c B :=
  ⟨fun x hx => (h.fix x hx).ad e, fun x hx i hi => by obtain ⟨j, hj, e1, e2⟩ := ad_get e hi; rw [← e1, ← e2]; exact h.own x hx j hj, h.rb,
    h.nd.core (f := fun i => (i.a, i.d)) (fun i i' q => ⟨congrArg Prod.fst q, congrArg Prod.snd q⟩) e⟩
theorem Off.info {x : Addr} {c : Sc} {P : Params} {infos : List Inf} (h : Off x c infos) : ∀ q ∈ infoLed P infos, x ≠ q.1 := by
  intro q hq
  obtain ⟨i, hi, hp⟩ := List.mem_flatMap.mp hq
  simp only [List.mem_cons, List.not_mem_nil, or_false] at hp
  rcases hp with rfl | rfl
  · exact (h.2.2.2 i hi).1
  · exact (h.2.2.2 i hi).2
theorem own_info {x : Addr} {P : Params} {infos : List Inf} (h : ∀ i ∈ infos, x ≠ i.a ∧ x ≠ i.d) : ∀ q ∈ infoLed P infos, x ≠ q.1 := by
  intro q hq
  obtain ⟨i, hi, hp⟩ := List.mem_flatMap.mp hq
  simp only [List.mem_cons, List.not_mem_nil, or_false] at hp
  rcases hp with rfl | rfl
  · exact (h i hi).1
  · exact (h i hi).2
theorem notin_fst {x : Addr} {l : Led} (h : ∀ q ∈ l, x ≠ q.1) : x ∉ l.map (·.1) := fun hm => by obtain ⟨q, hq, e⟩ := List.mem_map.mp hm; exact h q hq e.symm
abbrev jLed (P : Params) (c : Sc) (pass : Bool) (ll : Int) (tl : Tok) (nb : Nat) (infos : List Inf) (nr : Nat) (pl : Addr) (vs : List Value) (kn : Nat) : Led := (pl, listOf vs.toArray kn) :: c.full P pass ll tl nb infos nr
def fixLed (P : Params) (c : Sc) (pass : Bool) : Led := [(c.sc, instObj 192 c.scd), (c.scd, dictOf (c.es P) c.ns), (c.g.gdf, instObj 619 c.g.gdd), (c.g.gdd, dictOf (c.g.es P) c.g.ng), (c.g.cdf, instObj 571 c.g.cdd), (c.g.cdd, dictOf (c.g.cs P) c.g.nc), (c.g.mp, c.g.om),
  (c.k.lk, instObj 170 c.k.lkd), (c.k.lkd, dictOf (c.k.es P pass) c.k.nl)]
theorem fix_off {P : Params} {c : Sc} {pass : Bool} {infos : List Inf} (apt : Apt c infos) : ∀ p ∈ fixLed P c pass, Off p.1 c infos := by
  intro p hp
  refine apt.fix p.1 ?_
  have : p.1 ∈ (fixLed P c pass).map (·.1) := List.mem_map_of_mem hp
  exact this
theorem mem_split {α : Type} {p a0 b1 b2 b3 : α} {F1 F2 t : List α} : p ∈ a0 :: (F1 ++ b1 :: b2 :: b3 :: (F2 ++ t)) ↔ p = a0 ∨ p ∈ F1 ++ F2 ∨ p = b1 ∨ p = b2 ∨ p = b3 ∨ p ∈ t := by
  simp only [List.mem_cons, List.mem_append]
  constructor
  · rintro (h | h | h | h | h | h | h) <;> simp only [h, true_or, or_true]
  · rintro (h | (h | h) | h | h | h | h) <;> simp only [h, true_or, or_true]
theorem jl_iff {P : Params} {c : Sc} {pass : Bool} {ll : Int} {tl : Tok} {nb : Nat} {infos : List Inf} {nr : Nat} {pl : Addr} {vs : List Value} {kn : Nat} {p : Addr × Obj} : p ∈ jLed P c pass ll tl nb infos nr pl vs kn ↔
    p = (pl, listOf vs.toArray kn) ∨ p ∈ fixLed P c pass ∨ p = (c.buf, instObj 103 c.bfd) ∨ p = (c.bfd, dictOf (c.bs P ll tl) nb) ∨ p = (c.row, rowO infos nr) ∨ p ∈ infoLed P infos :=
  mem_split (F1 := [(c.sc, instObj 192 c.scd), (c.scd, dictOf (c.es P) c.ns)]) (F2 := [(c.g.gdf, instObj 619 c.g.gdd), (c.g.gdd, dictOf (c.g.es P) c.g.ng), (c.g.cdf, instObj 571 c.g.cdd), (c.g.cdd, dictOf (c.g.cs P) c.g.nc), (c.g.mp, c.g.om), (c.k.lk, instObj 170 c.k.lkd), (c.k.lkd, dictOf (c.k.es P pass) c.k.nl)])
theorem pl_off {q : Nat} {qs : List Nat} (N : News h₀ L h (X ++ jLed P c pass ll tl nb infos nr pl vs kn)) (hv : IntsN vs (q :: qs)) : Off pl c infos := by
  have mem : ∀ p ∈ jLed P c pass ll tl nb infos nr pl vs kn, p ∈ X ++ jLed P c pass ll tl nb infos nr pl vs kn := fun p hp => List.mem_append_right _ hp
  have h0 := mem _ (jl_iff.mpr (.inl rfl))
  refine ⟨ne_of_objs N h0 (mem _ (jl_iff.mpr (.inr (.inr (.inl rfl))))) (by intro h; cases h), ne_of_objs N h0 (mem _ (jl_iff.mpr (.inr (.inr (.inr (.inl rfl)))))) (by intro h; have := congrArg Obj.data h; cases this),
    plist_ne_row N hv h0 (mem _ (jl_iff.mpr (.inr (.inr (.inr (.inr (.inl rfl))))))), fun i hi => list_ne_inf (P := P) N h0 fun p hp => mem _ (jl_iff.mpr (.inr (.inr (.inr (.inr (.inr (List.mem_flatMap.mpr ⟨i, hi, hp⟩)))))))⟩
theorem turn_merge {infos' : List Inf} (N : News h₀ L h (X ++ jLed P c pass ll tl nb infos nr pl vs kn)) (hX : ∀ p ∈ X, Off p.1 c infos) (hpo : Off pl c infos) (apt : Apt c infos) (N' : News h₀ L h' (mergeFoot P c ll tl nb infos' nr)) (cg : Chg ((mergeFoot P c ll tl nb infos nr).map (·.1)) h h') :
    News h₀ L h' (X ++ jLed P c pass ll tl nb infos' nr pl vs kn) := by
  have off : ∀ x, Off x c infos → x ∉ (mergeFoot P c ll tl nb infos nr).map (·.1) := fun x hx => notin_fst fun q hq => by
    simp only [mergeFoot, rowFoot, List.mem_cons] at hq
    rcases hq with rfl | rfl | rfl | hq
    · exact hx.1
    · exact hx.2.1
    · exact hx.2.2.1
    · exact hx.info q hq
  refine News.after2 N N' cg fun p hp => ?_
  rcases List.mem_append.mp hp with hp | hp
  · exact .inr ⟨List.mem_append_left _ hp, off _ (hX p hp)⟩
  rcases jl_iff.mp hp with rfl | hp | rfl | rfl | rfl | hp
  · exact .inr ⟨List.mem_append_right _ (.head _), off _ hpo⟩
  · exact .inr ⟨List.mem_append_right _ (jl_iff.mpr (.inr (.inl hp))), off _ (fix_off apt p hp)⟩
  · exact .inl (.head _)
  · exact .inl (.tail _ (.head _))
  · exact .inl (.tail _ (.tail _ (.head _)))
  · exact .inl (.tail _ (.tail _ (.tail _ hp)))
theorem turn_lig {l' : Int} {tl' : Tok} (N : News h₀ L h (X ++ jLed P c pass ll tl nb infos nr pl vs kn)) (hX : ∀ p ∈ X, Off p.1 c infos) (hpo : Off pl c infos) (apt : Apt c infos) (N' : News h₀ L h' (c.bled P l' tl' nb)) (cg : Chg ((c.bled P ll tl nb).map (·.1)) h h') :
    News h₀ L h' (X ++ jLed P c pass l' tl' nb infos nr pl vs kn) := by
  have off : ∀ x, x ≠ c.buf → x ≠ c.bfd → x ∉ (c.bled P ll tl nb).map (·.1) := fun x h1 h2 => notin_fst fun q hq => by
    simp only [List.mem_cons, List.not_mem_nil, or_false] at hq
    rcases hq with rfl | rfl
    · exact h1
    · exact h2
  refine News.after2 N N' cg fun p hp => ?_
  rcases List.mem_append.mp hp with hp | hp
  · exact .inr ⟨List.mem_append_left _ hp, off _ (hX p hp).1 (hX p hp).2.1⟩
  rcases jl_iff.mp hp with rfl | hp | rfl | rfl | rfl | hp
  · exact .inr ⟨List.mem_append_right _ (.head _), off _ hpo.1 hpo.2.1⟩
  · exact .inr ⟨List.mem_append_right _ (jl_iff.mpr (.inr (.inl hp))), off _ (fix_off apt p hp).1 (fix_off apt p hp).2.1⟩
  · exact .inl (.head _)
  · exact .inl (.tail _ (.head _))
  · exact .inr ⟨List.mem_append_right _ (jl_iff.mpr (.inr (.inr (.inr (.inr (.inl rfl)))))), off _ apt.rb.1 apt.rb.2⟩
  · exact .inr ⟨List.mem_append_right _ (jl_iff.mpr (.inr (.inr (.inr (.inr (.inr hp)))))), off _ (own_info (apt.own c.buf (by simp)) p hp).symm (own_info (apt.own c.bfd (by simp)) p hp).symm⟩
theorem turn_tie {infos' : List Inf} (N : News h₀ L h (X ++ jLed P c pass ll tl nb infos nr pl vs kn)) (hX : ∀ p ∈ X, Off p.1 c infos ∧ p.1 ≠ pl) (hpo : Off pl c infos) (apt : Apt c infos) (hpf : ∀ p ∈ fixLed P c pass, p.1 ≠ pl) (N' : News h₀ L h' ((pl, listOf vs.toArray kn) :: rowFoot P c.row infos' nr)) (cg : Chg (((pl, listOf vs.toArray kn) :: rowFoot P c.row infos nr).map (·.1)) h h') :
    News h₀ L h' (X ++ jLed P c pass ll tl nb infos' nr pl vs kn) := by
  have off : ∀ x, x ≠ pl → x ≠ c.row → (∀ i ∈ infos, x ≠ i.a ∧ x ≠ i.d) → x ∉ ((pl, listOf vs.toArray kn) :: rowFoot P c.row infos nr).map (·.1) := fun x h1 h2 h3 => notin_fst fun q hq => by
    simp only [rowFoot, List.mem_cons] at hq
    rcases hq with rfl | rfl | hq
    · exact h1
    · exact h2
    · exact own_info h3 q hq
  refine News.after2 N N' cg fun p hp => ?_
  rcases List.mem_append.mp hp with hp | hp
  · exact .inr ⟨List.mem_append_left _ hp, off _ (hX p hp).2 (hX p hp).1.2.2.1 (hX p hp).1.2.2.2⟩
  rcases jl_iff.mp hp with rfl | hp | rfl | rfl | rfl | hp
  · exact .inl (.head _)
  · exact .inr ⟨List.mem_append_right _ (jl_iff.mpr (.inr (.inl hp))), off _ (hpf p hp) (fix_off apt p hp).2.2.1 (fix_off apt p hp).2.2.2⟩
  · exact .inr ⟨List.mem_append_right _ (jl_iff.mpr (.inr (.inr (.inl rfl)))), off _ hpo.1.symm apt.rb.1.symm (apt.own _ (by simp))⟩
  · exact .inr ⟨List.mem_append_right _ (jl_iff.mpr (.inr (.inr (.inr (.inl rfl))))), off _ hpo.2.1.symm apt.rb.2.symm (apt.own _ (by simp))⟩
  · exact .inl (.tail _ (.head _))
  · exact .inl (.tail _ (.tail _ hp))
theorem pl_fix {q : Nat} {qs : List Nat} (N : News h₀ L h (X ++ jLed P c pass ll tl nb infos nr pl vs kn)) (hom : ∃ es ep, c.g.om.data = .dict es ep) : ∀ p ∈ fixLed P c pass, p.1 ≠ pl := by
  intro p hp
  have h1 : (pl, listOf vs.toArray kn) ∈ X ++ jLed P c pass ll tl nb infos nr pl vs kn := List.mem_append_right _ (.head _)
  have h2 : p ∈ X ++ jLed P c pass ll tl nb infos nr pl vs kn := List.mem_append_right _ (jl_iff.mpr (.inr (.inl hp)))
  obtain ⟨es, ep, hom⟩ := hom
  refine (ne_of_objs N h1 (o' := p.2) h2 ?_).symm
  simp only [fixLed, List.mem_cons, List.not_mem_nil, or_false] at hp
  intro h
  have hd := congrArg Obj.data h
  rcases hp with rfl | rfl | rfl | rfl | rfl | rfl | rfl | rfl | rfl <;> first | (cases hd; done) | (dsimp only at hd; rw [hom] at hd; cases hd)
def preJ (P : Params) (c : Sc) (pass : Bool) (ll : Int) (tl : Tok) (nb : Nat) (ro : Obj) (pl : Addr) (vs : List Value) (kn : Nat) : Led := (pl, listOf vs.toArray kn) :: (c.sc, instObj 192 c.scd) :: (c.scd, dictOf (c.es P) c.ns) :: (c.buf, instObj 103 c.bfd) :: (c.bfd, dictOf (c.bs P ll tl) nb) :: (c.row, ro) ::
  (c.g.gdf, instObj 619 c.g.gdd) :: (c.g.gdd, dictOf (c.g.es P) c.g.ng) :: (c.g.cdf, instObj 571 c.g.cdd) :: (c.g.cdd, dictOf (c.g.cs P) c.g.nc) :: (c.g.mp, c.g.om) ::
  (c.k.lk, instObj 170 c.k.lkd) :: (c.k.lkd, dictOf (c.k.es P pass) c.k.nl) :: []
theorem pre_iff {P : Params} {c : Sc} {pass : Bool} {ll : Int} {tl : Tok} {nb : Nat} {ro : Obj} {pl : Addr} {vs : List Value} {kn : Nat} {p : Addr × Obj} : p ∈ preJ P c pass ll tl nb ro pl vs kn ↔
    p = (pl, listOf vs.toArray kn) ∨ p ∈ fixLed P c pass ∨ p = (c.buf, instObj 103 c.bfd) ∨ p = (c.bfd, dictOf (c.bs P ll tl) nb) ∨ p = (c.row, ro) ∨ p ∈ ([] : Led) :=
  mem_split (F1 := [(c.sc, instObj 192 c.scd), (c.scd, dictOf (c.es P) c.ns)]) (F2 := [(c.g.gdf, instObj 619 c.g.gdd), (c.g.gdd, dictOf (c.g.es P) c.g.ng), (c.g.cdf, instObj 571 c.g.cdd), (c.g.cdd, dictOf (c.g.cs P) c.g.nc), (c.g.mp, c.g.om), (c.k.lk, instObj 170 c.k.lkd), (c.k.lkd, dictOf (c.k.es P pass) c.k.nl)])
theorem pre_off {P : Params} {c : Sc} {pass : Bool} {ll : Int} {tl : Tok} {nb nr : Nat} {infos : List Inf} {pl : Addr} {vs : List Value} {kn : Nat} {i : Inf} (apt : Apt c infos) (hpo : Off pl c infos) (hin : i ∈ infos) :
    ∀ p ∈ preJ P c pass ll tl nb (rowO infos nr) pl vs kn, p.1 ≠ i.d := by
  intro p hp
  rcases pre_iff.mp hp with rfl | hp | rfl | rfl | rfl | hp
  · exact (hpo.2.2.2 i hin).2
  · exact ((fix_off apt p hp).2.2.2 i hin).2
  · exact (apt.own _ (.head _) i hin).2
  · exact (apt.own _ (.tail _ (.head _)) i hin).2
  · exact (apt.own _ (.tail _ (.tail _ (.head _))) i hin).2
  · cases hp
theorem setJ {c : Sc} {pass : Bool} {ll : Int} {tl : Tok} {nb : Nat} {infos : List Inf} {nr : Nat} {pl : Addr} {vs : List Value} {kn : Nat} {X : Led} {k x : Nat} {i i' : Inf} {attr : Str} {v : Value} {Q : Unit → Shared → Prop} (hX₀ : (hd.heap_1 w.params).In h₀) (F : Fr h₀ L s.heap m) (N : News h₀ L s.heap (X ++ jLed w.params c pass ll tl nb infos nr pl vs kn)) (hX : ∀ p ∈ X, Off p.1 c infos) (hpo : Off pl c infos) (apt : Apt c infos) (hk : infos[k]? = some i) (hx : x = i.a)
    (hs : findIn (hd.heap_1 w.params) (.ref 52) "__setattr__" = some (some (.builtin "object.__setattr__"))) (hp : plainOver (hd.heap_1 w.params) 52 = true) (ht : takerIn (hd.heap_1 w.params) 52 attr = some none) (hh : hasDictIn (hd.heap_1 w.params) 52 = true) (hl : (getL attr (i.es w.params)).isSome = true)
    (e : (putL attr (PyData.keyHash w.params attr) (.str attr (s.toks + 1)) v (i.es w.params), putN attr (i.es w.params) i.n) = (i'.es w.params, i'.n)) (ha : i'.a = i.a) (hd' : i'.d = i.d)
    (h : ∀ h' infos', Fr h₀ L h' m → News h₀ L h' (X ++ jLed w.params c pass ll tl nb infos' nr pl vs kn) → infos'[k]? = some i' → ((infos'.map fun i => (i.a, i.d)) = infos.map fun i => (i.a, i.d)) → glOf infos' = (glOf infos).set k i'.glyph → Q () { s with heap := h', toks := s.toks + 2 }) :
    wpAny (model prog w) A (setAttr (.ref x) attr v) Q E s := by
  have hin : i ∈ infos := List.mem_of_getElem? hk
  refine setRow (pre := X ++ preJ w.params c pass ll tl nb (rowO infos nr) pl vs kn) (i' := i') hX₀ F (by rw [List.append_assoc]; exact N) hk hx apt.nd ?_ hs hp ht hh hl e ha hd' ?_
  · intro p hp
    rcases List.mem_append.mp hp with hp | hp
    · exact ((hX p hp).2.2.2 i hin).2
    · exact pre_off apt hpo hin p hp
  · intro h' F' N'
    refine h h' (infos.set k i') F' ?_ (List.getElem?_set_self (List.getElem?_eq_some_iff.mp hk).1) (map_set_same hk (by rw [ha, hd'])) (by simp [glOf, List.map_set])
    have e1 : X ++ preJ w.params c pass ll tl nb (rowO infos nr) pl vs kn ++ infoLed w.params (infos.set k i') = X ++ jLed w.params c pass ll tl nb (infos.set k i') nr pl vs kn := by
      rw [List.append_assoc]
      show X ++ _ = _
      simp only [jLed, Sc.full, row_set hk ha]
      rfl
    rw [← e1]; exact N'

/-- what stays of a stretch -/
def keepL {α : Type} (p0 : Nat) (pls : List Nat) (l : List α) (n : Nat) : List α := (List.range n).filterMap fun j => if j = 0 ∨ p0 + j ∉ pls then l[p0 + j]? else none
theorem keepL_len {α : Type} {p0 : Nat} {pls : List Nat} {l : List α} {n : Nat} : (keepL p0 pls l n).length ≤ n := Nat.le_trans (List.length_filterMap_le _ _) (by simp)
theorem keepL_yes {α : Type} {p0 j : Nat} {pls : List Nat} {l : List α} {x : α} (h : j = 0 ∨ p0 + j ∉ pls) (hx : l[p0 + j]? = some x) : keepL p0 pls l j ++ [x] = keepL p0 pls l (j + 1) := by
  unfold keepL
  rw [List.range_succ, List.filterMap_append]
  congr 1
  rw [List.filterMap_cons, if_pos h, hx]; rfl
theorem keepL_no {α : Type} {p0 j : Nat} {pls : List Nat} {l : List α} (h : ¬ (j = 0 ∨ p0 + j ∉ pls)) : keepL p0 pls l j = keepL p0 pls l (j + 1) := by
  unfold keepL
  rw [List.range_succ, List.filterMap_append]
  have : ([j].filterMap fun j => if j = 0 ∨ p0 + j ∉ pls then l[p0 + j]? else none) = [] := by rw [List.filterMap_cons, if_neg h]; rfl
  rw [this, List.append_nil]
theorem fmc {α β : Type} {f g : α → Option β} : ∀ {l : List α}, (∀ a ∈ l, f a = g a) → l.filterMap f = l.filterMap g
  | [], _ => rfl
  | a :: l, h => by rw [List.filterMap_cons, List.filterMap_cons, h a (.head _), fmc fun b hb => h b (.tail _ hb)]
/-- the list without what stands at some places -/
def dropAt {α : Type} (ps : List Nat) (l : List α) : List α := (List.range l.length).filterMap fun j => if j ∈ ps then none else l[j]?
theorem filterMap_getElem? {α : Type} (l : List α) : ∀ n, n ≤ l.length → (List.range n).filterMap (fun j => l[j]?) = l.take n
  | 0, _ => by simp
  | n + 1, h => by
    rw [List.range_succ, List.filterMap_append, filterMap_getElem? l n (by omega), List.take_add_one]
    congr 1
theorem dropAt_split {α : Type} {p0 pz : Nat} {ps : List Nat} {l : List α} (hp : ∀ p ∈ ps, p0 < p ∧ p ≤ pz) (hz : pz < l.length) (h0 : p0 ≤ pz) :
    l.take p0 ++ keepL p0 (p0 :: ps) l (pz + 1 - p0) ++ l.drop (pz + 1) = dropAt ps l := by
  have e : l.length = p0 + ((pz + 1 - p0) + (l.length - (pz + 1))) := by omega
  unfold dropAt
  rw [e, List.range_add, List.range_add, List.map_append, List.filterMap_append, List.filterMap_append, List.append_assoc]
  have hl : l.length = l.length := rfl
  congr 1
  · rw [← filterMap_getElem? l p0 (by omega)]
    apply fmc
    intro j hj
    have hj' := List.mem_range.mp hj
    rw [if_neg (fun h => by have := hp j h; omega)]
  congr 1
  · unfold keepL
    rw [List.filterMap_map]
    apply fmc
    intro j hj
    dsimp only [Function.comp]
    by_cases hjp : p0 + j ∈ ps
    · have h1 := hp _ hjp
      rw [if_pos hjp, if_neg]
      rintro (h | h)
      · omega
      · exact h (List.mem_cons_of_mem _ hjp)
    · rw [if_neg hjp, if_pos]
      by_cases h0 : j = 0
      · exact .inl h0
      · refine .inr fun hm => ?_
        rcases List.mem_cons.mp hm with h | h
        · omega
        · exact hjp h
  · rw [List.map_map, List.filterMap_map]
    have e2 : l.drop (pz + 1) = (List.range (l.length - (pz + 1))).filterMap (fun j => l[pz + 1 + j]?) := by
      have := filterMap_getElem? (l.drop (pz + 1)) (l.length - (pz + 1)) (by rw [List.length_drop]; exact Nat.le_refl _)
      rw [List.take_of_length_le (by rw [List.length_drop]; exact Nat.le_refl _)] at this
      rw [← this]
      apply fmc
      intro j _
      rw [List.getElem?_drop]
    rw [e2]
    apply fmc
    intro j _
    dsimp only [Function.comp]
    have hn : p0 + (pz + 1 - p0 + j) ∉ ps := fun h => by have := hp _ h; omega
    rw [if_neg hn, show p0 + (pz + 1 - p0 + j) = pz + 1 + j from by omega]
theorem dropAt_map {α β : Type} (f : α → β) (ps : List Nat) (l : List α) : (dropAt ps l).map f = dropAt ps (l.map f) := by
  unfold dropAt
  rw [List.map_filterMap, List.length_map]
  apply fmc
  intro j _
  by_cases h : j ∈ ps
  · simp [h]
  · simp [h]
theorem dropAt_set {α : Type} {ps : List Nat} {p0 : Nat} {l : List α} {x : α} (hp : ∀ p ∈ ps, p0 < p) (h0 : p0 < l.length) : dropAt ps (l.set p0 x) = (dropAt ps l).set p0 x := by
  unfold dropAt
  have e : l.length = p0 + (1 + (l.length - (p0 + 1))) := by omega
  have hA : (List.range p0).filterMap (fun j => if j ∈ ps then none else l[j]?) = l.take p0 := by
    rw [← filterMap_getElem? l p0 (by omega)]
    apply fmc
    intro j hj
    have hj' := List.mem_range.mp hj
    rw [if_neg (fun h => by have := hp j h; omega)]
  have hA' : (List.range p0).filterMap (fun j => if j ∈ ps then none else (l.set p0 x)[j]?) = l.take p0 := by
    rw [← hA]
    apply fmc
    intro j hj
    have hj' := List.mem_range.mp hj
    rw [List.getElem?_set_ne (by omega)]
  rw [List.length_set, e, List.range_add, List.range_add, List.map_append, List.filterMap_append, List.filterMap_append, List.filterMap_append, List.filterMap_append, hA, hA']
  have hn : p0 ∉ ps := fun h => by have := hp _ h; omega
  have e1 : (List.map (fun x => p0 + x) (List.range 1)) = [p0] := by simp [List.range_succ]
  rw [e1]
  have e3 : [p0].filterMap (fun j => if j ∈ ps then none else (l.set p0 x)[j]?) = [x] := by
    rw [List.filterMap_cons, if_neg hn, List.getElem?_set_self h0]; rfl
  have e4 : [p0].filterMap (fun j => if j ∈ ps then none else l[j]?) = [l[p0]] := by
    rw [List.filterMap_cons, if_neg hn, List.getElem?_eq_getElem h0]; rfl
  rw [e3, e4, List.set_append_right _ _ (by simp; omega)]
  congr 1
  have : p0 - (l.take p0).length = 0 := by simp; omega
  rw [this]
  simp only [List.cons_append, List.nil_append, List.set_cons_zero]
  congr 1
  rw [List.map_map]
  apply fmc
  intro j hj
  obtain ⟨k, hk, rfl⟩ := List.mem_map.mp hj
  dsimp only [Function.comp]
  rw [List.getElem?_set_ne (by omega)]
theorem any_ofNat {ps : List Nat} {q : Nat} {x : Int} (h : x = (q : Int)) : (ps.map Int.ofNat).any (· == x) = decide (q ∈ ps) := by
  subst h
  rw [Bool.eq_iff_iff]
  simp only [List.any_map, List.any_eq_true, Function.comp, beq_iff_eq, decide_eq_true_eq]
  constructor
  · rintro ⟨a, ha, e⟩
    have : a = q := by have : (a : Int) = (q : Int) := e; omega
    exact this ▸ ha
  · intro h; exact ⟨q, h, rfl⟩
theorem keepL_lt {α : Type} {p0 j1 : Nat} {pls : List Nat} {l : List α} (h : ¬ (j1 = 0 ∨ p0 + j1 ∉ pls)) : ∀ t, (keepL p0 pls l (j1 + 1 + t)).length ≤ j1 + t
  | 0 => by rw [Nat.add_zero, ← keepL_no h]; exact keepL_len
  | t + 1 => by
    have ih := keepL_lt (l := l) h t
    rw [show j1 + 1 + (t + 1) = (j1 + 1 + t) + 1 from by omega]
    unfold keepL at ih ⊢
    rw [List.range_succ, List.filterMap_append, List.length_append]
    have h1 : ([j1 + 1 + t].filterMap fun j => if j = 0 ∨ p0 + j ∉ pls then l[p0 + j]? else none).length ≤ 1 := List.length_filterMap_le _ _
    omega
theorem mem_dropAt {α : Type} {ps : List Nat} {l : List α} {x : α} (h : x ∈ dropAt ps l) : x ∈ l := by
  obtain ⟨j, _, hj⟩ := List.mem_filterMap.mp h
  by_cases hp : j ∈ ps
  · rw [if_pos hp] at hj; cases hj
  · rw [if_neg hp] at hj; exact List.mem_of_getElem? hj
theorem sliceJ {c : Sc} {pass : Bool} {ll : Int} {tl : Tok} {nb : Nat} {infos : List Inf} {nr : Nat} {pl : Addr} {vs : List Value} {kn : Nat} {X : Led} {ys : List Value} {k D0 a b : Nat} {ta tb : Tok} {Q : Unit → Shared → Prop} (F : Fr h₀ L s.heap m) (N : News h₀ L s.heap ((D0, listOf ys.toArray k) :: (X ++ jLed w.params c pass ll tl nb infos nr pl vs kn))) (hX : ∀ p ∈ X, Off p.1 c infos) (hpo : Off pl c infos) (apt : Apt c infos)
    (hDr : D0 ≠ c.row) (hab : a ≤ b) (hbl : b ≤ infos.length) (hz : infos.length ≤ 1000) (hw : ys.length ≤ 1000)
    (h : ∀ h' nr', Fr h₀ L h' m → News h₀ L h' (X ++ (preJ w.params c pass ll tl nb (listOf ((infos.map fun i => Value.ref i.a).take a ++ ys ++ (infos.map fun i => Value.ref i.a).drop b).toArray nr') pl vs kn ++ infoLed w.params infos)) → Q () { s with heap := h' }) :
    wpAny (model prog w) A (setItem (.ref c.row) (.ref s.heap.objs.size) (.ref D0)) Q E { s with heap := s.heap.push { cls := .type "slice", data := .fields #[.int ((a : Nat) : Int) ta, .int ((b : Nat) : Int) tb, .none] } } := by
  have N' := news_push N { cls := .type "slice", data := .fields #[.int ((a : Nat) : Int) ta, .int ((b : Nat) : Int) tb, .none] }
  have hne : ∀ p ∈ fixLed w.params c pass, p.1 ≠ c.row := fun p hp => (fix_off apt p hp).2.2.1
  refine set_slice (pre := (D0, listOf ys.toArray k) :: (X ++ [(pl, listOf vs.toArray kn), (c.sc, instObj 192 c.scd), (c.scd, dictOf (c.es w.params) c.ns), (c.buf, instObj 103 c.bfd), (c.bfd, dictOf (c.bs w.params ll tl) nb)])) (vs := infos.map fun i => Value.ref i.a) (nr := nr)
    (post := (c.g.gdf, instObj 619 c.g.gdd) :: (c.g.gdd, dictOf (c.g.es w.params) c.g.ng) :: (c.g.cdf, instObj 571 c.g.cdd) :: (c.g.cdd, dictOf (c.g.cs w.params) c.g.nc) :: (c.g.mp, c.g.om) :: (c.k.lk, instObj 170 c.k.lkd) :: (c.k.lkd, dictOf (c.k.es w.params pass) c.k.nl) :: infoLed w.params infos)
    (F.push _) (by rw [List.cons_append, List.append_assoc]; exact N') ?_ ?_ ⟨_, (N' _ (.head _)).1, rfl, _, rfl⟩ hDr.symm hab (by simpa using hbl) (by simpa using hz) hw (Heap.IsSliceOf.new ..) ?_
  · intro p hp
    revert p
    first | refine ac3 ?_ ?_ | refine ac2 ?_ ?_ | refine ac ?_ ?_
    · exact hDr
    intro p hp
    rcases List.mem_append.mp hp with hp | hp
    · exact (hX p hp).2.2.1
    revert p
    first | refine ac3 ?_ ?_ | refine ac2 ?_ ?_ | refine ac ?_ ?_
    · exact hpo.2.2.1
    intro p hp
    rcases List.mem_append.mp (show p ∈ [(c.sc, instObj 192 c.scd), (c.scd, dictOf (c.es w.params) c.ns)] ++ [(c.buf, instObj 103 c.bfd), (c.bfd, dictOf (c.bs w.params ll tl) nb)] from hp) with hp | hp
    · exact hne p (List.mem_append_left [(c.g.gdf, instObj 619 c.g.gdd), (c.g.gdd, dictOf (c.g.es w.params) c.g.ng), (c.g.cdf, instObj 571 c.g.cdd), (c.g.cdd, dictOf (c.g.cs w.params) c.g.nc), (c.g.mp, c.g.om), (c.k.lk, instObj 170 c.k.lkd), (c.k.lkd, dictOf (c.k.es w.params pass) c.k.nl)] hp)
    revert p
    first | refine ac3 ?_ ?_ | refine ac2 ?_ ?_ | refine ac ?_ ?_
    · exact apt.rb.1.symm
    intro p hp
    · rw [List.mem_singleton.mp hp]; exact apt.rb.2.symm
  · intro p hp
    rcases List.mem_append.mp (show p ∈ [(c.g.gdf, instObj 619 c.g.gdd), (c.g.gdd, dictOf (c.g.es w.params) c.g.ng), (c.g.cdf, instObj 571 c.g.cdd), (c.g.cdd, dictOf (c.g.cs w.params) c.g.nc), (c.g.mp, c.g.om), (c.k.lk, instObj 170 c.k.lkd), (c.k.lkd, dictOf (c.k.es w.params pass) c.k.nl)] ++ infoLed w.params infos from hp) with hp | hp
    · exact hne p (List.mem_append_right [(c.sc, instObj 192 c.scd), (c.scd, dictOf (c.es w.params) c.ns)] hp)
    · exact (own_info (apt.own c.row (.tail _ (.tail _ (.head _)))) p hp).symm
  · intro h' nr' F' N2
    refine h h' nr' F' (News.sub N2 fun p hp => ?_)
    rw [List.cons_append, List.append_assoc]
    exact .tail _ hp
theorem le_last : ∀ {l : List Nat} {z : Nat}, l.Pairwise (· < ·) → l.getLast? = some z → ∀ q ∈ l, q ≤ z
  | [], _, _, h, _, _ => by simp at h
  | [a], z, _, h, q, hq => by simp at h hq; omega
  | a :: b :: l, z, hp, h, q, hq => by
    rw [List.getLast?_cons_cons] at h
    have ih := le_last (List.pairwise_cons.mp hp).2 h
    revert q
    first | refine ac3 ?_ ?_ | refine ac2 ?_ ?_ | refine ac ?_ ?_
    · have h1 := (List.pairwise_cons.mp hp).1 b (.head _)
      have h2 := ih b (.head _)
      omega
    intro q hq
    · exact ih q hq
theorem jl_dropped {P : Params} {c : Sc} {pass : Bool} {ll : Int} {tl : Tok} {nb : Nat} {infos infosF : List Inf} {nr : Nat} {pl : Addr} {vs : List Value} {kn : Nat} {X : Led} {ro : Obj} (hro : ro = rowO infosF nr) (hs : ∀ i ∈ infosF, i ∈ infos) :
    ∀ p ∈ jLed P c pass ll tl nb infosF nr pl vs kn, p ∈ X ++ (preJ P c pass ll tl nb ro pl vs kn ++ infoLed P infos) := by
  intro p hp
  refine List.mem_append_right _ ?_
  rcases jl_iff.mp hp with h | h | h | h | h | hp
  · exact List.mem_append_left _ (pre_iff.mpr (.inl h))
  · exact List.mem_append_left _ (pre_iff.mpr (.inr (.inl h)))
  · exact List.mem_append_left _ (pre_iff.mpr (.inr (.inr (.inl h))))
  · exact List.mem_append_left _ (pre_iff.mpr (.inr (.inr (.inr (.inl h)))))
  · exact List.mem_append_left _ (pre_iff.mpr (.inr (.inr (.inr (.inr (.inl (hro ▸ h)))))))
  · obtain ⟨i, hi, hpi⟩ := List.mem_flatMap.mp hp
    exact List.mem_append_right _ (List.mem_flatMap.mpr ⟨i, hs i hi, hpi⟩)
theorem list_ne_len {xs ys : List Value} {k k' : Nat} (h : xs.length ≠ ys.length) : listOf xs.toArray k ≠ listOf ys.toArray k' := by
  intro e
  have h1 := congrArg Obj.data e
  injection h1 with h2
  have h3 := congrArg Array.size h2
  simp at h3
  exact h h3
local macro_rules | `(tactic| walk_at "st_ife") => `(tactic| (fail_if_success (with_reducible show wpAny _ _ (execs (Stmt.Assign _ (Expr.IfExp _ _ _ _) _ :: _) _) _ _ _)))
local macro_rules | `(tactic| walk_at "mine_stopI") => `(tactic| ((try k_fold); repeat' (walk_at "st_ife"; walk_at "st_if"; walk_at "st_att"; walk_at "st_item"; walk_at "st_c"; walk_at "st_gen"; walk_at "st_ass"; walk_at "st_one")))
local macro_rules | `(tactic| walk_at "call ref") => `(tactic| (k_here; refine way_of_spec (by assumption) (by k_asm) (by k_asm) (by walk_at "mine_sub") (by assumption) (by assumption) (by omega) ?_; intro _ _ _ _ _ _))
theorem merge_sub {P : Params} {c : Sc} {pass : Bool} {ll : Int} {tl : Tok} {nb : Nat} {infos : List Inf} {nr : Nat} {pl : Addr} {vs : List Value} {kn : Nat} : ∀ p ∈ mergeFoot P c ll tl nb infos nr, p ∈ jLed P c pass ll tl nb infos nr pl vs kn := by
  intro p hp
  simp only [mergeFoot, rowFoot, List.mem_cons] at hp
  rcases hp with rfl | rfl | rfl | hp
  · exact jl_iff.mpr (.inr (.inr (.inl rfl)))
  · exact jl_iff.mpr (.inr (.inr (.inr (.inl rfl))))
  · exact jl_iff.mpr (.inr (.inr (.inr (.inr (.inl rfl)))))
  · exact jl_iff.mpr (.inr (.inr (.inr (.inr (.inr hp)))))
theorem lig_sub {P : Params} {c : Sc} {pass : Bool} {ll : Int} {tl : Tok} {nb : Nat} {infos : List Inf} {nr : Nat} {pl : Addr} {vs : List Value} {kn : Nat} : ∀ p ∈ c.bled P ll tl nb, p ∈ jLed P c pass ll tl nb infos nr pl vs kn := by
  intro p hp
  simp only [List.mem_cons, List.not_mem_nil, or_false] at hp
  rcases hp with rfl | rfl
  · exact jl_iff.mpr (.inr (.inr (.inl rfl)))
  · exact jl_iff.mpr (.inr (.inr (.inr (.inl rfl))))
theorem tie_sub {P : Params} {c : Sc} {pass : Bool} {ll : Int} {tl : Tok} {nb : Nat} {infos : List Inf} {nr : Nat} {pl : Addr} {vs : List Value} {kn : Nat} : ∀ p ∈ (pl, listOf vs.toArray kn) :: rowFoot P c.row infos nr, p ∈ jLed P c pass ll tl nb infos nr pl vs kn := by
  intro p hp
  simp only [rowFoot, List.mem_cons] at hp
  rcases hp with rfl | rfl | hp
  · exact .head _
  · exact jl_iff.mpr (.inr (.inr (.inr (.inr (.inl rfl)))))
  · exact jl_iff.mpr (.inr (.inr (.inr (.inr (.inr hp)))))
theorem notin_L {l k : Nat} {vs : List Value} {ns : List Int} {x : Int} {t : Tok} {b : Bool} {Q : Value → Shared → Prop} (N : News h₀ L s.heap news) (hm : (l, listOf vs.toArray k) ∈ news) (hi : IntsAre vs ns) (hb : ns.any (· == x) = b) (h : Q (.bool (!b)) s) : wpAny (model prog w) A (compareOp .NotIn (.int x t) (.ref l)) Q E s :=
  notin_list_ints ⟨_, (N _ hm).1, rfl, _, rfl⟩ hi (by rw [hb]; exact h)
local macro_rules | `(tactic| walk_at "compareOp NotIn int ref") => `(tactic| (k_here; k_dflt (refine notin_L (by k_asm) (by k_mem) (by assumption) (by assumption) ?_); (try dsimp only [Bool.not_true, Bool.not_false])))
def jB (c : Sc) (lig : Int) (tlg : Tok) : Map := fun y => if y = Str.ofString "ligature" then some (.int lig tlg) else if y = Str.ofString "scene" then some (.ref c.sc) else none
def jM (c : Sc) (lig : Int) (tlg : Tok) (W : Str) (tw : Tok) : Map := fun y => if y = Str.ofString "way" then some (.str W tw) else if y = Str.ofString "buffer" then some (.ref c.buf) else jB c lig tlg y
inductive JnR (P : Params) (q0 : Nat) (ps : List Nat) (infos : List Inf) (p0 : Nat) (lig : Int) (c : Sc) (pass : Bool) (nb : Nat) (pl : Addr) (vs : List Value) (kn : Nat) (v : Value) (led' : Led) : Prop
  | mk (h1 : v = .none) (ll' tl' nr' infos' : _) (h2 : glOf infos' = dropAt (q0 :: ps) ((glOf infos).set p0 lig)) (h3 : led' = jLed P c pass ll' tl' nb infos' nr' pl vs kn)
inductive JnE (P : Params) (s : Shared) (g' : Heap) (L' : Addr) (c : Sc) (lig : Int) (tlg : Tok) (W : Str) (tw : Tok) (o3 : Obj) (o2 : Obj) (pass : Bool) (nb : Nat) (infos7 : List Inf) (nr : Nat) (pl : Addr) (vs : List Value) (kn : Nat) (s' : Shared) : Prop
  | mk (ll' tl' lg tg : _) (h1 : Same s s') (h2 : Fr g' L' s'.heap (fun y => if y = Str.ofString "lig_id" then some (.int lg tg) else jM c lig tlg W tw y)) (h3 : News g' L' s'.heap ((L' + 1 + 1, o3) :: (L' + 1, o2) :: jLed P c pass ll' tl' nb infos7 nr pl vs kn))
inductive JnE2 (P : Params) (s : Shared) (g' : Heap) (L' : Addr) (i0 : Inf) (tot : Int) (ttot : Tok) (lg : Int) (tg : Tok) (c : Sc) (lig : Int) (tlg : Tok) (W : Str) (tw : Tok) (o3 : Obj) (o2 : Obj) (pass : Bool) (ll' : Int) (tl' : Tok) (nb : Nat) (nr : Nat) (pl : Addr) (vs : List Value) (kn : Nat) (infos13 : List Inf) (infos : List Inf) (p0 : Nat) (s' : Shared) : Prop
  | mk (infos' : _) (h1 : Same s s') (h2 : Fr g' L' s'.heap (fun y => if y = Str.ofString "first" then some (.ref i0.a) else if y = Str.ofString "total" then some (.int tot ttot) else if y = Str.ofString "lig_id" then some (.int lg tg) else jM c lig tlg W tw y)) (h3 : News g' L' s'.heap ((L' + 1 + 1, o3) :: (L' + 1, o2) :: jLed P c pass ll' tl' nb infos' nr pl vs kn)) (h4 : ((infos'.map fun i => (i.a, i.d)) = infos13.map fun i => (i.a, i.d))) (h5 : glOf infos' = (glOf infos).set p0 lig)
inductive JnC1 (led0 : Led) (j : Nat) (ys : List Value) (led : Led) : Prop
  | mk (h1 : led = led0) (ns : _) (h2 : IntsAre ys ns) (h3 : ns.length = j)
inductive JnC2 (led0 : Led) (j : Nat) (ys : List Value) (led : Led) : Prop
  | mk (h1 : led = led0) (h2 : ys.length ≤ j) (ns : _) (h3 : IntsAre ys ns)
theorem join_spec {c : Sc} {pass : Bool} {ll : Int} {tl : Tok} {nb nr : Nat} {infos : List Inf} {pl kn p0 q0 : Nat} {vs : List Value} {ps : List Nat} {lig : Int} {tlg : Tok} {Q : Value → Shared → Prop} (Z : At w A env L h₀ (n+4)) (F : Fr h₀ L s.heap m) (N : News h₀ L s.heap (jLed w.params c pass ll tl nb infos nr pl vs kn))
    (ok : c.g.ok prog w) (hv : IntsN vs (p0 :: q0 :: ps)) (hps : ∀ p ∈ p0 :: q0 :: ps, p < infos.length) (hsort : (p0 :: q0 :: ps).Pairwise (· < ·)) (hlen : infos.length ≤ 100) (hpl : ps.length ≤ 90) (apt : Apt c infos)
    (hQ : ∀ h' tk ll' tl' nr' infos', Fr h₀ L h' m → News h₀ L h' (jLed w.params c pass ll' tl' nb infos' nr' pl vs kn) → Chg ((jLed w.params c pass ll tl nb infos nr pl vs kn).map (·.1)) s.heap h' → glOf infos' = dropAt (q0 :: ps) ((glOf infos).set p0 lig) → Q .none { s with heap := h', toks := tk }) :
    wpAny (model prog w) A (call (.ref 382) [.ref c.sc, .ref pl, .int lig tlg]) Q E s := by
  have X := Z.X
  refine' call_mutC [(Str.ofString "scene", .ref c.sc), (Str.ofString "places", .ref pl), (Str.ofString "ligature", .int lig tlg)] (JnR w.params q0 ps infos p0 lig c pass nb pl vs kn) ?Z ?F N ?k6 ?k7 ?k9 ?kB ?kN ?_ ?c2 ?c3 ?c4 ?kQ
  (case Z => assumption); (case F => assumption); (case k6 => k_is); (case k7 => k_is); (case k9 => exact BindsTo.of_eq rfl); (case kB => exact rfl); (case kN => decide); (case c2 => exact rfl); (case c3 => exact rfl); (case c4 => exact rfl)
  · intro g' L' h₁ tk sg sd so cells dp fr gs' un A₀ base p loose mean mg mb B' T' X' Z' hU F' N' hc hl
    have hvl := hv.length
    have hom : ∃ es ep, c.g.om.data = .dict es ep := by obtain ⟨_, kvs, ⟨es, ep, _, hd, _⟩, _⟩ := ok; exact ⟨es, ep, hd⟩
    obtain ⟨o1, o2, rfl, ho1, ho2⟩ := CellsAre.two hc
    simp only [List.cons_append, List.nil_append] at N'
    have ho1' : o1.data = .cell none := ho1
    have ho2' : o2.data = .cell (some (.ref pl)) := ho2
    clear ho1 ho2 hc
    have ha1 : ∀ p ∈ (L' + 1, o2) :: jLed w.params c pass ll tl nb infos nr pl vs kn, p.1 ≠ L' + 1 + 1 := by
      intro p hp
      revert p
      first | refine ac3 ?_ ?_ | refine ac2 ?_ ?_ | refine ac ?_ ?_
      · exact neL (Nat.lt_succ_self _)
      intro p hp
      · exact neL (Nat.lt_trans (hl p hp) (Nat.lt_trans (Nat.lt_succ_self _) (Nat.lt_succ_self _)))
    walk_at "mine_stop"
    rename_i h2 o3 F2 N2 ho3
    refine' comp_expr (h₀ := g') (L := L') (cl := [(Str.ofString "row", L' + 1 + 1)]) ?hclos ?hcell ?hkind ?hnames ?hx ?_
    walk_at "mine_comp"
    walk_at "mine_stop"
    have F2' : Fr g' L' h2 (fun y => if y = Str.ofString "buffer" then some (.ref c.buf) else jB c lig tlg y) := F2
    have hplN : ∀ q ∈ p0 :: q0 :: ps, ∃ i, infos[((q : Nat) : Int).toNat]? = some i := fun q hq => ⟨infos[q]'(hps q hq), by simp⟩
    generalize hled : (L' + 1 + 1, o3) :: (L' + 1, o2) :: jLed w.params c pass ll tl nb infos nr pl vs kn = led0 at N2
    revert led0
    refine keepP ?_
    set_option tactic.hygienic false in intros
    have hm1 : (L' + 1 + 1, o3) ∈ led0 := by rw [← hled]; exact .head _
    have hm2 : ∀ p ∈ jLed w.params c pass ll tl nb infos nr pl vs kn, p ∈ led0 := by rw [← hled]; exact fun p hp => .tail _ (.tail _ hp)
    clear F2
    refine comp_list (vs := vs) rfl ⟨_, (N2 _ (hm2 _ (.head _))).1, rfl, _, rfl⟩ (Nat.le_trans (by rw [hvl]; simp; omega) (by decide : (1000 : Nat) ≤ sizeLine)) F2' N2
      (JnC1 led0) ⟨rfl, [], .nil, rfl⟩ ?_ ?_ ?_ ?_
    · rintro j ys led h ⟨rfl, ns, h3, h4⟩ F5 N5
      exact ⟨_, (N5 _ (hm2 _ (.head _))).1, rfl, _, rfl⟩
    · rintro j ys led ⟨rfl, ns, h3, h4⟩
      rw [h3.length, h4]; exact Nat.le_refl _
    · rintro I C D0 j v ys led s₁ oI oC oD mC ⟨h5, tk5, rfl⟩ hjn hvj ⟨rfl, ns, h3, h4⟩ F5 N5 hd hn hx
      obtain ⟨x, tx, rfl, hgx⟩ := hv.at j v hvj
      obtain ⟨q, hq, rfl⟩ : ∃ q, q ∈ p0 :: q0 :: ps ∧ x = ((q : Nat) : Int) := by
        rw [List.getElem?_map] at hgx
        obtain ⟨q, h1, h2⟩ := Option.map_eq_some_iff.mp hgx
        exact ⟨q, List.mem_of_getElem? h1, h2.symm⟩
      obtain ⟨iq, hiq⟩ := hplN q hq
      have hql := hps q hq
      subst hled
      refine comp_if0 ?_
      walk_at "mine_stop"
      exact (show CEnd _ _ _ _ _ _ _ _ _ _ _ _ from ⟨_, ⟨_, _, rfl⟩, by assumption, by assumption, hd, rfl, ns ++ [iq.glyph], h3.append (.cons _ _ .nil), by simp [h4]⟩)
    · rintro D0 led ys s₁ k ⟨h5, tk5, rfl⟩ ⟨rfl, ns, h3, h4⟩ N5 F5
      subst hled
      try dsimp only at N5 F5 ⊢
      obtain ⟨x0, gs, rfl⟩ : ∃ x0 gs, ns = x0 :: gs := by
        cases ns with
        | nil => rw [hvl] at h4; simp at h4
        | cons a b => exact ⟨a, b, rfl⟩
      have hgsl : gs.length ≤ 100 := by rw [hvl] at h4; simp at h4; omega
      have hx0 : ((p0 :: q0 :: ps).map Int.ofNat)[(0 : Int).toNat]? = some ((p0 : Nat) : Int) := rfl
      obtain ⟨pz, hpz, hpzl⟩ : ∃ pz : Nat, ((p0 :: q0 :: ps).map Int.ofNat).getLast? = some ((pz : Nat) : Int) ∧ (p0 :: q0 :: ps).getLast? = some pz := by
        refine ⟨(p0 :: q0 :: ps).getLast (by simp), by rw [List.getLast?_map, List.getLast?_eq_some_getLast (by simp)]; rfl, by rw [List.getLast?_eq_some_getLast (by simp)]⟩
      have hvl2 : vs.length ≤ 1000 := by rw [hvl]; simp; omega
      walk_at "mine_stop"
      rw [show ((pz : Nat) : Int) + 1 = ((pz + 1 : Nat) : Int) from by omega]
      rename_i W tw h6 F6 N6 _ _
      have hpzlt : pz < infos.length := hps pz (List.mem_of_getLast? hpzl)
      have hpzp0 : p0 + 1 ≤ pz := by
        have h1 : pz ∈ q0 :: ps := by rw [List.getLast?_cons_cons] at hpzl; exact List.mem_of_getLast? hpzl
        exact (List.pairwise_cons.mp hsort).1 pz h1
      have hMs : ∀ p ∈ mergeFoot w.params c ll tl nb infos nr, p ∈ (D0, listOf ys.toArray k) :: (L' + 1 + 1, o3) :: (L' + 1, o2) :: jLed w.params c pass ll tl nb infos nr pl vs kn := fun p hp => .tail _ (.tail _ (.tail _ (merge_sub p hp)))
      have hbelow : ∀ p ∈ [(L' + 1 + 1, o3), (L' + 1, o2)], ∀ q ∈ jLed w.params c pass ll tl nb infos nr pl vs kn, p.1 ≠ q.1 := by
        intro p hp q hq
        have h1 := hl q hq
        simp only [List.mem_cons, List.not_mem_nil, or_false] at hp
        rcases hp with rfl | rfl
        · exact neG (Nat.lt_trans h1 (Nat.lt_trans (Nat.lt_succ_self _) (Nat.lt_succ_self _)))
        · exact neG (Nat.lt_trans h1 (Nat.lt_succ_self _))
      have hX : ∀ p ∈ [(L' + 1 + 1, o3), (L' + 1, o2)], Off p.1 c infos := fun p hp => by
        refine ⟨hbelow p hp _ (jl_iff.mpr (.inr (.inr (.inl rfl)))), hbelow p hp _ (jl_iff.mpr (.inr (.inr (.inr (.inl rfl))))), hbelow p hp _ (jl_iff.mpr (.inr (.inr (.inr (.inr (.inl rfl)))))), fun i hi => ?_⟩
        have h1 : ∀ q ∈ i.led w.params, p.1 ≠ q.1 := fun q hq => hbelow p hp q (jl_iff.mpr (.inr (.inr (.inr (.inr (.inr (List.mem_flatMap.mpr ⟨i, hi, hq⟩)))))))
        exact ⟨h1 _ (.head _), h1 _ (.tail _ (.head _))⟩
      have hXpl : ∀ p ∈ [(L' + 1 + 1, o3), (L' + 1, o2)], p.1 ≠ pl := fun p hp => hbelow p hp _ (.head _)
      have N6' := News.tail N6
      have hpo := pl_off (X := [(L' + 1 + 1, o3), (L' + 1, o2)]) N6' hv
      have hpf := pl_fix (q := 0) (qs := []) (X := [(L' + 1 + 1, o3), (L' + 1, o2)]) N6' hom
      refine merge_spec (infos := infos) (ll := ll) (tl := tl) (nb := nb) (nr := nr) Z' F6 (News.sub N6 hMs) (by omega) (by omega) hlen apt.nd apt.own ?_
      intro h7 tk7 infos7 F7 N7 c7 hc7
      have N8 : News g' L' h7 ((L' + 1 + 1, o3) :: (L' + 1, o2) :: jLed w.params c pass ll tl nb infos7 nr pl vs kn) := turn_merge (X := [(L' + 1 + 1, o3), (L' + 1, o2)]) N6' hX hpo apt N7 c7
      clear N6 N6' F6 N7 c7 hMs
      have F7' : Fr g' L' h7 (jM c lig tlg W tw) := F7
      have e7 := coreC_ad hc7
      have apt7 := apt.ad e7
      have hX7 : ∀ p ∈ [(L' + 1 + 1, o3), (L' + 1, o2)], Off p.1 c infos7 := fun p hp => (hX p hp).ad e7
      have hpo7 := hpo.ad e7
      clear F7
      walk_at "mine_stopI"
      refine wpAny_execs_cons (wpAny_mono (Q := Exit (JnE w.params ⟨h₁, sg, sd, tk, so⟩ g' L' c lig tlg W tw o3 o2 pass nb infos7 nr pl vs kn)) ?_ ?_ fun _ _ e => e)
      · walk_at "mine_stopI"
        · refine next_lig_spec (ll := ll) (tl := tl) (nb := nb) Z' (by assumption) (News.sub N8 fun p hp => .tail _ (.tail _ (lig_sub p hp))) ?_
          intro h9 tk9 ll' tl' t9 F9 N10 c9
          have N11 := turn_lig (X := [(L' + 1 + 1, o3), (L' + 1, o2)]) N8 hX7 hpo7 apt7 N10 c9
          dsimp only [List.cons_append, List.nil_append] at N11
          walk_at "mine_stopI"
          exact Exit.mk' ⟨ll', tl', _, _, ⟨_, _, rfl⟩, by assumption, by assumption⟩
        · exact Exit.mk' ⟨ll, tl, _, _, ⟨_, _, rfl⟩, by assumption, by assumption⟩
      · rintro fl s₁ ⟨rfl, ll', tl', lg, tg, ⟨h9, tk9, rfl⟩, F9, N9⟩
        try dsimp only
        clear N8 F7'
        walk_at "mine_stopI"
        have el7 : infos7.length = infos.length := by simpa using congrArg List.length e7
        refine tie_all_spec (infos := infos7) (row := c.row) (nr := nr) Z' (by assumption) (News.sub N9 fun p hp => .tail _ (.tail _ (tie_sub p hp))) hv (by rw [el7]; exact hps) (by omega) (by simp; omega) apt7.nd ?_
        intro h10 tk10 infos8 tot ttot F10 N10 c10 hc10
        have N11 : News g' L' h10 ((L' + 1 + 1, o3) :: (L' + 1, o2) :: jLed w.params c pass ll' tl' nb infos8 nr pl vs kn) := turn_tie (X := [(L' + 1 + 1, o3), (L' + 1, o2)]) N9 (fun p hp => ⟨hX7 p hp, hXpl p hp⟩) hpo7 apt7 hpf N10 c10
        have e8 := coreT_ad hc10
        have apt8 := apt7.ad e8
        have hX8 : ∀ p ∈ [(L' + 1 + 1, o3), (L' + 1, o2)], Off p.1 c infos8 := fun p hp => (hX7 p hp).ad e8
        have hpo8 := hpo7.ad e8
        have el8 : infos8.length = infos.length := (by simpa using congrArg List.length e8 : infos8.length = infos7.length).trans el7
        clear el7
        have eg8 : glOf infos8 = glOf infos := by
          have h1 := congrArg (List.map fun p : Nat × Nat × Int => p.2.2) hc10
          have h2 := congrArg (List.map fun p : Nat × Nat × Int × Int => p.2.2.1) hc7
          simp only [List.map_map] at h1 h2
          exact h1.trans h2
        clear N9 F9 N10 c10
        have hp0l := hps p0 (.head _)
        obtain ⟨i0, hi0⟩ : ∃ i, infos8[((p0 : Nat) : Int).toNat]? = some i := ⟨infos8[p0]'(by omega), by simp⟩
        walk_at "mine_stopI"
        have hi8 : infos8[p0]? = some i0 := by simpa using hi0
        refine setJ (X := [(L' + 1 + 1, o3), (L' + 1, o2)]) (k := p0) (i := i0) (i' := { i0 with glyph := lig, u := updU i0.u 1 tlg }) X' (by assumption) (by assumption) hX8 hpo8 apt8 hi8 rfl (by k_is) (by k_is) (by k_is) (by k_is) rfl put_glyph rfl rfl ?_
        intro h11 infos11 F11 N11 hi11 e11 eg11
        dsimp only [List.cons_append, List.nil_append] at N11
        have apt11 := apt8.ad e11
        have hX11 : ∀ p ∈ [(L' + 1 + 1, o3), (L' + 1, o2)], Off p.1 c infos11 := fun p hp => (hX8 p hp).ad e11
        have hpo11 := hpo8.ad e11
        have el11 : infos11.length = infos.length := (by simpa using congrArg List.length e11 : infos11.length = infos8.length).trans el8
        clear el8
        walk_at "mine_stopI"
        refine setJ (X := [(L' + 1 + 1, o3), (L' + 1, o2)]) (k := p0) (i := { i0 with glyph := lig, u := updU i0.u 1 tlg }) (i' := { i0 with glyph := lig, splitId := 0, u := updU (updU i0.u 1 tlg) 8 _ }) X' (by assumption) (by assumption) hX11 hpo11 apt11 hi11 rfl (by k_is) (by k_is) (by k_is) (by k_is) rfl put_split_id rfl rfl ?_
        intro h12 infos12 F12 N12 hi12 e12 eg12
        dsimp only [List.cons_append, List.nil_append] at N12
        have apt12 := apt11.ad e12
        have hX12 : ∀ p ∈ [(L' + 1 + 1, o3), (L' + 1, o2)], Off p.1 c infos12 := fun p hp => (hX11 p hp).ad e12
        have hpo12 := hpo11.ad e12
        have el12 : infos12.length = infos.length := (by simpa using congrArg List.length e12 : infos12.length = infos11.length).trans el11
        clear el11
        walk_at "mine_stopI"
        refine' comp_expr (h₀ := g') (L := L') (cl := [(Str.ofString "row", L' + 1 + 1)]) ?hclos ?hcell ?hkind ?hnames ?hx ?_
        walk_at "mine_comp"
        walk_at "mine_stopI"
        clear F11 N11
        obtain ⟨i12, hi12', hg12, ha12⟩ : ∃ i, infos12[p0]? = some i ∧ i.glyph = lig ∧ i.a = i0.a := ⟨_, hi12, rfl, rfl⟩
        have egg12 : glOf infos12 = (glOf infos).set p0 lig := by rw [eg12, eg11, eg8, List.set_set]
        have hplN2 : ∀ q ∈ p0 :: q0 :: ps, ∃ i, infos12[((q : Nat) : Int).toNat]? = some i := fun q hq => ⟨infos12[q]'(by have := hps q hq; omega), by simp⟩
        generalize hled : (L' + 1 + 1, o3) :: (L' + 1, o2) :: jLed w.params c pass ll' tl' nb infos12 nr pl vs kn = led0 at N12
        revert led0
        refine keepP ?_
        set_option tactic.hygienic false in intros
        have hm1 : (L' + 1 + 1, o3) ∈ led0 := by rw [← hled]; exact .head _
        have hm2 : ∀ p ∈ jLed w.params c pass ll' tl' nb infos12 nr pl vs kn, p ∈ led0 := by rw [← hled]; exact fun p hp => .tail _ (.tail _ hp)
        refine comp_list (vs := vs) rfl ⟨_, (N12 _ (hm2 _ (.head _))).1, rfl, _, rfl⟩ (Nat.le_trans (by rw [hvl]; simp; omega) (by decide : (1000 : Nat) ≤ sizeLine)) F12 N12
          (JnC2 led0) ⟨rfl, Nat.le_refl _, [], .nil⟩ ?_ ?_ ?_ ?_
        · rintro j ys led h ⟨rfl, h4, ns, h3⟩ F5 N5
          exact ⟨_, (N5 _ (hm2 _ (.head _))).1, rfl, _, rfl⟩
        · rintro j ys led ⟨rfl, h4, ns, h3⟩
          exact h4
        · rintro I C D0 j v ys led s₁ oI oC oD mC ⟨h5, tk5, rfl⟩ hjn hvj ⟨rfl, h4, ns, h3⟩ F5 N5 hd hn hx
          obtain ⟨x, tx, rfl, hgx⟩ := hv.at j v hvj
          obtain ⟨q, hq, rfl⟩ : ∃ q, q ∈ p0 :: q0 :: ps ∧ x = ((q : Nat) : Int) := by
            rw [List.getElem?_map] at hgx
            obtain ⟨q, h1, h2⟩ := Option.map_eq_some_iff.mp hgx
            exact ⟨q, List.mem_of_getElem? h1, h2.symm⟩
          obtain ⟨iq, hiq⟩ := hplN2 q hq
          have hql := hps q hq
          subst hled
          refine comp_if1 ?_
          walk_at "mine_stop"
          · exact (show CEnd _ _ _ _ _ _ _ _ _ _ _ _ from ⟨_, ⟨_, _, rfl⟩, by assumption, by assumption, hd, rfl, by simp; omega, ns ++ [_], h3.append (.cons _ _ .nil)⟩)
          · exact (show CEnd _ _ _ _ _ _ _ _ _ _ _ _ from ⟨_, ⟨_, _, rfl⟩, by assumption, by assumption, hd, rfl, by omega, ns, h3⟩)
        · rintro D0 led ys s₁ k ⟨h5, tk5, rfl⟩ ⟨rfl, h4, ns, h3⟩ N5 F5
          subst hled
          clear F12 N12
          try dsimp only at N5 F5 ⊢
          walk_at "mine_stopI"
          rename_i hE FE NE lE
          have NE' : News g' L' hE ([(L' + 1 + 1, o3), (L' + 1, o2)] ++ jLed w.params c pass ll' tl' nb infos12 nr pl vs kn) := News.tail (News.tail NE)
          clear NE lE
          refine setJ (X := [(L' + 1 + 1, o3), (L' + 1, o2)]) (k := p0) (i := i12) (i' := { i12 with uns := !decide (ns = []) }) X' (by assumption) NE' hX12 hpo12 apt12 hi12' ha12.symm (by k_is) (by k_is) (by k_is) (by k_is) rfl put_is_unsafe rfl rfl ?_
          intro h13 infos13 F13 N13 hi13 e13 eg13
          dsimp only [List.cons_append, List.nil_append] at N13
          have apt13 := apt12.ad e13
          have hX13 : ∀ p ∈ [(L' + 1 + 1, o3), (L' + 1, o2)], Off p.1 c infos13 := fun p hp => (hX12 p hp).ad e13
          have hpo13 := hpo12.ad e13
          have el13 : infos13.length = infos.length := (by simpa using congrArg List.length e13 : infos13.length = infos12.length).trans el12
          clear el12
          obtain ⟨i13, hi13', hg13, ha13⟩ : ∃ i, infos13[p0]? = some i ∧ i.glyph = lig ∧ i.a = i0.a := ⟨_, hi13, by first | exact hg12 | rfl, ha12⟩
          have egg13 : glOf infos13 = (glOf infos).set p0 lig := by rw [eg13, egg12, List.set_set]; congr 1
          clear NE'
          walk_at "mine_stopI"
          refine wpAny_execs_cons (wpAny_mono (Q := Exit (JnE2 w.params ⟨h₁, sg, sd, tk, so⟩ g' L' i0 tot ttot lg tg c lig tlg W tw o3 o2 pass ll' tl' nb nr pl vs kn infos13 infos p0)) ?_ ?_ fun _ _ e => e)
          · walk_at "mine_stopI"
            · refine setJ (X := [(L' + 1 + 1, o3), (L' + 1, o2)]) (k := p0) (i := i13) (i' := { i13 with ligId := lg, u := updU i13.u 5 tg }) X' (by assumption) (by assumption) hX13 hpo13 apt13 hi13' ha13.symm (by k_is) (by k_is) (by k_is) (by k_is) rfl put_lig_id rfl rfl ?_
              intro h15 infos15 F15 N15 hi15 e15 eg15
              dsimp only [List.cons_append, List.nil_append] at N15
              have apt15 := apt13.ad e15
              have hX15 : ∀ p ∈ [(L' + 1 + 1, o3), (L' + 1, o2)], Off p.1 c infos15 := fun p hp => (hX13 p hp).ad e15
              have hpo15 := hpo13.ad e15
              have el15 : infos15.length = infos.length := (by simpa using congrArg List.length e15 : infos15.length = infos13.length).trans el13
              obtain ⟨i15, hi15', hg15, ha15⟩ : ∃ i, infos15[p0]? = some i ∧ i.glyph = lig ∧ i.a = i0.a := ⟨_, hi15, by first | exact hg13 | rfl, ha13⟩
              have egg15 : glOf infos15 = (glOf infos).set p0 lig := by rw [eg15, egg13, List.set_set]; congr 1
              walk_at "mine_stopI"
              refine setJ (X := [(L' + 1 + 1, o3), (L' + 1, o2)]) (k := p0) (i := i15) (i' := { i15 with ligPart := 0, u := updU i15.u 6 _ }) X' (by assumption) (by assumption) hX15 hpo15 apt15 hi15' ha15.symm (by k_is) (by k_is) (by k_is) (by k_is) rfl put_lig_part rfl rfl ?_
              intro h16 infos16 F16 N16 hi16 e16 eg16
              dsimp only [List.cons_append, List.nil_append] at N16
              have apt16 := apt15.ad e16
              have hX16 : ∀ p ∈ [(L' + 1 + 1, o3), (L' + 1, o2)], Off p.1 c infos16 := fun p hp => (hX15 p hp).ad e16
              have hpo16 := hpo15.ad e16
              have el16 : infos16.length = infos.length := (by simpa using congrArg List.length e16 : infos16.length = infos15.length).trans el15
              obtain ⟨i16, hi16', hg16, ha16⟩ : ∃ i, infos16[p0]? = some i ∧ i.glyph = lig ∧ i.a = i0.a := ⟨_, hi16, by first | exact hg15 | rfl, ha15⟩
              have egg16 : glOf infos16 = (glOf infos).set p0 lig := by rw [eg16, egg15, List.set_set]; congr 1
              walk_at "mine_stopI"
              refine setJ (X := [(L' + 1 + 1, o3), (L' + 1, o2)]) (k := p0) (i := i16) (i' := { i16 with ligCount := tot, u := updU i16.u 7 ttot }) X' (by assumption) (by assumption) hX16 hpo16 apt16 hi16' ha16.symm (by k_is) (by k_is) (by k_is) (by k_is) rfl put_lig_count rfl rfl ?_
              intro h17 infos17 F17 N17 hi17 e17 eg17
              dsimp only [List.cons_append, List.nil_append] at N17
              have apt17 := apt16.ad e17
              have hX17 : ∀ p ∈ [(L' + 1 + 1, o3), (L' + 1, o2)], Off p.1 c infos17 := fun p hp => (hX16 p hp).ad e17
              have hpo17 := hpo16.ad e17
              have el17 : infos17.length = infos.length := (by simpa using congrArg List.length e17 : infos17.length = infos16.length).trans el16
              obtain ⟨i17, hi17', hg17, ha17⟩ : ∃ i, infos17[p0]? = some i ∧ i.glyph = lig ∧ i.a = i0.a := ⟨_, hi17, by first | exact hg16 | rfl, ha16⟩
              have egg17 : glOf infos17 = (glOf infos).set p0 lig := by rw [eg17, egg16, List.set_set]; congr 1
              walk_at "mine_stopI"
              exact Exit.mk' ⟨infos17, ⟨_, _, rfl⟩, by assumption, by assumption, e17.trans (e16.trans e15), egg17⟩
            · exact Exit.mk' ⟨infos13, ⟨_, _, rfl⟩, by assumption, by assumption, rfl, egg13⟩
          · rintro fl s₁ ⟨rfl, infos14, ⟨h9, tk9, rfl⟩, F14, N14, e14, egg14⟩
            try dsimp only
            clear F13 N13
            walk_at "mine_stopI"
            refine wpAny_Assign_Subscript ?_ (by with_unfolding_all rfl)
            refine' comp_expr (h₀ := g') (L := L') (cl := [(Str.ofString "row", L' + 1 + 1), (Str.ofString "places", L' + 1)]) ?hclos ?hcell ?hkind ?hnames ?hx ?_
            walk_at "mine_comp"
            walk_at "mine_stopI"
            rename_i tr1 tr2 hR9 h18 tk18 tr3 tr4 tr5 hR F18 N18 hk18
            generalize hled : (L' + 1 + 1, o3) :: (L' + 1, o2) :: jLed w.params c pass ll' tl' nb infos14 nr pl vs kn = led0 at N18
            revert led0
            refine keepP ?_
            set_option tactic.hygienic false in intros
            have hm1 : (L' + 1 + 1, o3) ∈ led0 := by rw [← hled]; exact .head _
            have hm2 : ∀ p ∈ jLed w.params c pass ll' tl' nb infos14 nr pl vs kn, p ∈ led0 := by rw [← hled]; exact fun p hp => .tail _ (.tail _ hp)
            have el14 : infos14.length = infos.length := (by simpa using congrArg List.length e14 : infos14.length = infos13.length).trans el13
            clear el13
            refine comp_range (pz + 1 - p0) rfl hR (by omega) (by omega) (by omega) (by omega) (by omega) (Nat.le_trans (by omega) (by decide : (1000 : Nat) ≤ sizeLine)) F18 N18
              (fun i ys led => led = led0 ∧ ys = keepL p0 (p0 :: q0 :: ps) (infos14.map fun i => Value.ref i.a) i) ⟨rfl, rfl⟩ ?_ ?_ ?_
            · rintro i ys led ⟨rfl, rfl⟩
              exact keepL_len
            · rintro I C D0 j v ys led s₁ oI oC oD mC ⟨h5, tk5, rfl⟩ hjn ⟨tv, rfl⟩ ⟨rfl, rfl⟩ F5 N5 hd hn hx
              have hjz : p0 + j < infos.length := by omega
              obtain ⟨iq, hiq⟩ : ∃ i, infos14[(((p0 : Nat) : Int) + (j : Int)).toNat]? = some i := ⟨infos14[p0 + j]'(by omega), by rw [show (((p0 : Nat) : Int) + (j : Int)).toNat = p0 + j from by omega]; simp⟩
              subst hled
              have hiq' : infos14[p0 + j]? = some iq := by rwa [show (((p0 : Nat) : Int) + (j : Int)).toNat = p0 + j from by omega] at hiq
              have hiv : (infos14.map fun i => Value.ref i.a)[p0 + j]? = some (.ref iq.a) := by rw [List.getElem?_map, hiq']; rfl
              refine comp_if1 ?_
              by_cases hmem : p0 + j ∈ p0 :: q0 :: ps
              · have hb : ((p0 :: q0 :: ps).map Int.ofNat).any (· == (((p0 : Nat) : Int) + (j : Int))) = true := by rw [any_ofNat (q := p0 + j) (by omega)]; exact decide_eq_true hmem
                walk_at "mine_stop"
                · have hj0 : j = 0 := by omega
                  exact (show CEnd _ _ _ _ _ _ _ _ _ _ _ _ from ⟨_, ⟨_, _, rfl⟩, by assumption, by assumption, hd, rfl, keepL_yes (.inl hj0) hiv⟩)
                · have hj0 : ¬ j = 0 := by omega
                  exact (show CEnd _ _ _ _ _ _ _ _ _ _ _ _ from ⟨_, ⟨_, _, rfl⟩, by assumption, by assumption, hd, rfl, keepL_no (by rintro (h | h); exact hj0 h; exact h hmem)⟩)
              · have hb : ((p0 :: q0 :: ps).map Int.ofNat).any (· == (((p0 : Nat) : Int) + (j : Int))) = false := by rw [any_ofNat (q := p0 + j) (by omega)]; exact decide_eq_false hmem
                walk_at "mine_stop"
                all_goals exact (show CEnd _ _ _ _ _ _ _ _ _ _ _ _ from ⟨_, ⟨_, _, rfl⟩, by assumption, by assumption, hd, rfl, keepL_yes (.inr hmem) hiv⟩)
            · rintro D0 led ys s₁ k ⟨h5, tk5, rfl⟩ ⟨rfl, rfl⟩ N5 F5
              subst hled
              try dsimp only at N5 F5 ⊢
              walk_at "mine_stopI"
              rw [show ((pz : Nat) : Int) + 1 = ((pz + 1 : Nat) : Int) from by omega]
              have e14' := e14
              have apt14 := apt13.ad e14
              have hX14 : ∀ p ∈ [(L' + 1 + 1, o3), (L' + 1, o2)], Off p.1 c infos14 := fun p hp => (hX13 p hp).ad e14
              have hpo14 := hpo13.ad e14
              have hq0 := (List.pairwise_cons.mp hsort).1 q0 (.head _)
              have hpzq : ∀ q ∈ q0 :: ps, p0 < q ∧ q ≤ pz := fun q hq => ⟨(List.pairwise_cons.mp hsort).1 q hq, le_last hsort hpzl q (.tail _ hq)⟩
              have hq0z := (hpzq q0 (.head _)).2
              have hDr : D0 ≠ c.row := by
                refine ne_of_objs N5 (.head _) (.tail _ (.tail _ (.tail _ (jl_iff.mpr (.inr (.inr (.inr (.inr (.inl rfl))))))))) (list_ne_len ?_)
                have h1 := keepL_lt (l := infos14.map fun i => Value.ref i.a) (p0 := p0) (j1 := q0 - p0) (pls := p0 :: q0 :: ps) (by rintro (h | h); omega; exact h (by rw [show p0 + (q0 - p0) = q0 from by omega]; exact .tail _ (.head _))) (pz - q0)
                rw [show q0 - p0 + 1 + (pz - q0) = pz + 1 - p0 from by omega] at h1
                rw [List.length_map]
                omega
              refine sliceJ (X := [(L' + 1 + 1, o3), (L' + 1, o2)]) (by assumption) N5 hX14 hpo14 apt14 hDr (by omega) (by omega) (by omega) (Nat.le_trans keepL_len (by omega)) ?_
              intro h19 nr19 F19 N19
              have hgF : glOf (dropAt (q0 :: ps) infos14) = dropAt (q0 :: ps) ((glOf infos).set p0 lig) := by rw [glOf, dropAt_map, ← egg14]
              have hro : listOf ((infos14.map fun i => Value.ref i.a).take p0 ++ keepL p0 (p0 :: q0 :: ps) (infos14.map fun i => Value.ref i.a) (pz + 1 - p0) ++ (infos14.map fun i => Value.ref i.a).drop (pz + 1)).toArray nr19 = rowO (dropAt (q0 :: ps) infos14) nr19 := by
                rw [dropAt_split hpzq (by rw [List.length_map]; omega) (by omega), rowO, dropAt_map]
              have N20 : News g' L' h19 (jLed w.params c pass ll' tl' nb (dropAt (q0 :: ps) infos14) nr19 pl vs kn) := News.sub N19 (jl_dropped hro fun i hi => mem_dropAt hi)
              walk_at "mine_stopI"
              exact (show OutM _ _ _ _ _ _ from ⟨_, _, F19, N20, ⟨_, _, rfl⟩, rfl, ll', tl', nr19, dropAt (q0 :: ps) infos14, hgF, rfl⟩)
  · rintro v h' tk led' F' N' c' ⟨rfl, ll', tl', nr', infos', hg, rfl⟩
    exact hQ h' tk ll' tl' nr' infos' F' N' c' hg
/-! tables -/
structure TRow where
  a : Addr
  n : Nat
  ga : Addr
  gn : Nat
  vs : List Value
  rest : List Int
  lig : Int
  tl : Tok
abbrev TRow.led (r : TRow) : Led := [(r.a, tupOf [.ref r.ga, .int r.lig r.tl] r.n), (r.ga, tupOf r.vs r.gn)]
structure TSet where
  key : Int
  la : Addr
  ln : Nat
  rows : List TRow
abbrev TSet.led (t : TSet) : Led := (t.la, listOf (t.rows.map fun r => Value.ref r.a).toArray t.ln) :: t.rows.flatMap TRow.led
structure Tab where
  d : Addr
  om : Obj
  sets : List TSet
def Tab.led (t : Tab) : Led := (t.d, t.om) :: t.sets.flatMap TSet.led
structure Tab.ok (prog : Program) (w : World) (t : Tab) : Prop where
  hlow : (t.d == sysModules) = false
  hdict : t.om.IsDictOf (intKind prog w) (t.sets.map fun s => (s.key, .ref s.la))
  hints : ∀ st ∈ t.sets, ∀ r ∈ st.rows, IntsAre r.vs r.rest ∧ r.rest.length ≤ 50
  hfew : ∀ st ∈ t.sets, st.rows.length ≤ 50
def Tab.rowsOf (t : Tab) (x : Int) : List TRow := match t.sets.find? (fun s => s.key = x) with
  | some s => s.rows
  | none => []
theorem rowsOf_mem {t : Tab} {x : Int} {r : TRow} (h : r ∈ t.rowsOf x) : ∃ s ∈ t.sets, r ∈ s.rows := by
  unfold Tab.rowsOf at h
  split at h
  · rename_i s hs; exact ⟨s, List.mem_of_find?_eq_some hs, h⟩
  · cases h
theorem row_led {t : Tab} {x : Int} {r : TRow} (h : r ∈ t.rowsOf x) : ∀ p ∈ r.led, p ∈ t.led := fun p hp => by
  obtain ⟨s, hs, hr⟩ := rowsOf_mem h
  exact .tail _ (List.mem_flatMap.mpr ⟨s, hs, .tail _ (List.mem_flatMap.mpr ⟨r, hr, hp⟩)⟩)
theorem tab_value {t : Tab} {x : Int} : valueAt (t.sets.map fun s => (s.key, Value.ref s.la)) x = (t.sets.find? fun s => s.key = x).map fun s => .ref s.la := by
  unfold valueAt
  rw [List.find?_map, Option.map_map]; rfl
theorem get_rows {t : Tab} {x : Int} {tx : Tok} {D : Addr} {Q : Value → Shared → Prop} (N : News h₀ L s.heap news) (ht : ∀ p ∈ t.led, p ∈ news) (ok : t.ok prog w) (hD : (D, listOf ([] : List Value).toArray 0) ∈ news)
    (h : ∀ LA LN, (LA, listOf ((t.rowsOf x).map fun r => Value.ref r.a).toArray LN) ∈ news → Q (.ref LA) { s with toks := s.toks + 1 }) :
    wpAny (model prog w) A (call (.builtin "dict.get") [.ref t.d, .int x tx, .ref D]) Q E s := by
  cases hf : t.sets.find? (fun s => s.key = x) with
  | none =>
    refine kdg_get2 (knd := PySem.intKind prog w) N (ht _ (.head _)) ok.hdict ok.hlow (intKind_is _ _ _ _) none (by rw [tab_value, hf]; rfl) ?_
    refine h D 0 ?_
    simp only [Tab.rowsOf, hf]; exact hD
  | some st =>
    refine kdg_get2 (knd := PySem.intKind prog w) N (ht _ (.head _)) ok.hdict ok.hlow (intKind_is _ _ _ _) (some (.ref st.la)) (by rw [tab_value, hf]; rfl) ?_
    refine h st.la st.ln ?_
    simp only [Tab.rowsOf, hf]
    exact ht _ (.tail _ (List.mem_flatMap.mpr ⟨st, List.mem_of_find?_eq_some hf, .head _⟩))

theorem plc_facts {pass : Bool} {gl : List Int} : ∀ {rs : List Int} {k : Nat} {ps : List Nat}, plc pass gl k rs = some ps → ps.length = rs.length ∧ (k :: ps).Pairwise (· < ·) ∧ ∀ p ∈ ps, p < gl.length
  | [], k, ps, h => by simp [plc] at h; subst h; exact ⟨rfl, by simp, by simp⟩
  | r :: rs, k, ps, h => by
    unfold plc at h
    split at h
    · rename_i hg
      obtain ⟨qs, h1, rfl⟩ := Option.map_eq_some_iff.mp h
      obtain ⟨a, b, c⟩ := plc_facts h1
      have hlt : k < skip pass gl (k + 1) := by unfold skip; omega
      refine ⟨by simp [a], ?_, ?_⟩
      · refine List.pairwise_cons.mpr ⟨fun q hq => ?_, b⟩
        rcases List.mem_cons.mp hq with rfl | hq
        · exact hlt
        · exact Nat.lt_trans hlt ((List.pairwise_cons.mp b).1 q hq)
      · intro p hp
        rcases List.mem_cons.mp hp with rfl | hp
        · exact (List.getElem?_eq_some_iff.mp hg).1
        · exact c p hp
    · cases h
theorem last_ge : ∀ {ps : List Nat} {k z : Nat}, (k :: ps).Pairwise (· < ·) → (k :: ps).getLast? = some z → k + ps.length ≤ z
  | [], k, z, _, h => by simp at h; simp; omega
  | p :: ps, k, z, hp, h => by
    rw [List.getLast?_cons_cons] at h
    have h1 := last_ge (List.pairwise_cons.mp hp).2 h
    have h2 := (List.pairwise_cons.mp hp).1 p (.head _)
    simp only [List.length_cons]; omega
/-- what the first row that matches gives: the index and the glyphs -/
def rowsDue (pass : Bool) (gl : List Int) (at_ : Nat) : List TRow → Option (Int × List Int)
  | [] => none
  | r :: rs => match plc pass gl at_ r.rest with
    | some ps => some ((((at_ :: ps).getLast?.getD 0 : Nat) : Int) + 1 - (r.rest.length : Nat), dropAt ps (gl.set at_ r.lig))
    | none => rowsDue pass gl at_ rs
theorem dropAt_nil {α : Type} (l : List α) : dropAt [] l = l := by
  unfold dropAt
  have : (List.range l.length).filterMap (fun j => if j ∈ ([] : List Nat) then none else l[j]?) = (List.range l.length).filterMap (fun j => l[j]?) := fmc fun a _ => by simp
  rw [this, filterMap_getElem? l l.length (Nat.le_refl _), List.take_length]
theorem rowsDue_pos {pass : Bool} {gl : List Int} {at_ : Nat} : ∀ {rs : List TRow} {i : Int} {g : List Int}, rowsDue pass gl at_ rs = some (i, g) → 0 ≤ i
  | [], _, _, h => by cases h
  | r :: rs, i, g, h => by
    unfold rowsDue at h
    split at h
    · rename_i ps hps
      obtain ⟨a, b, _⟩ := plc_facts hps
      cases h
      have e : (at_ :: ps).getLast?.getD 0 = (at_ :: ps).getLast (by simp) := by rw [List.getLast?_eq_some_getLast (by simp)]; rfl
      have := last_ge b (List.getLast?_eq_some_getLast (by simp))
      rw [e, ← a]; omega
    · exact rowsDue_pos h
structure Lig where
  a : Addr
  d : Addr
  n : Nat
  t : Tok
  tab : Tab
def Lig.es (P : Params) (l : Lig) : List DictEntry := [⟨PyData.keyHash P (Str.ofString "sets"), .str (Str.ofString "sets") l.t, .ref l.tab.d⟩]
abbrev ligLed (P : Params) (l : Lig) : Led := (l.a, instObj 340 l.d) :: (l.d, dictOf (l.es P) l.n) :: l.tab.led
abbrev alFoot (P : Params) (l : Lig) (c : Sc) (pass : Bool) (ll : Int) (tl : Tok) (nb : Nat) (infos : List Inf) (nr : Nat) : Led := (l.a, instObj 340 l.d) :: (l.d, dictOf (l.es P) l.n) :: (l.tab.led ++ c.full P pass ll tl nb infos nr)
theorem lig_fl {P : Params} {l : Lig} {h : Heap} {fl kn q : Nat} {qs : List Nat} {vs : List Value} (tok : l.tab.ok prog w) (N : News h₀ L h news) (hv : IntsN vs (q :: qs)) (hf : (fl, listOf vs.toArray kn) ∈ news) (hs : ∀ p ∈ ligLed P l, p ∈ news) : ∀ p ∈ ligLed P l, p.1 ≠ fl := by
  intro p hp
  refine ne_of_objs (o := p.2) N (hs p hp) hf ?_
  intro e
  have hcls := congrArg Obj.cls e
  have hdat := congrArg Obj.data e
  rcases List.mem_cons.mp hp with rfl | hp
  · cases hcls
  rcases List.mem_cons.mp hp with rfl | hp
  · cases hdat
  rcases List.mem_cons.mp hp with rfl | hp
  · obtain ⟨es, ep, _, hd, _⟩ := tok.hdict
    dsimp only at hdat
    rw [hd] at hdat; cases hdat
  obtain ⟨st, hst, hp⟩ := List.mem_flatMap.mp hp
  rcases List.mem_cons.mp hp with rfl | hp
  · cases hv with
    | cons =>
      cases hr : st.rows with
      | nil => rw [hr] at hdat; simp at hdat
      | cons a b => rw [hr] at hdat; simp at hdat
  obtain ⟨r, hr, hp⟩ := List.mem_flatMap.mp hp
  simp only [List.mem_cons, List.not_mem_nil, or_false] at hp
  rcases hp with rfl | rfl
  · simp at hcls
  · simp at hcls
def preF (P : Params) (c : Sc) (pass : Bool) (ll : Int) (tl : Tok) (nb : Nat) (ro : Obj) : Led := (c.sc, instObj 192 c.scd) :: (c.scd, dictOf (c.es P) c.ns) :: (c.buf, instObj 103 c.bfd) :: (c.bfd, dictOf (c.bs P ll tl) nb) :: (c.row, ro) ::
  (c.g.gdf, instObj 619 c.g.gdd) :: (c.g.gdd, dictOf (c.g.es P) c.g.ng) :: (c.g.cdf, instObj 571 c.g.cdd) :: (c.g.cdd, dictOf (c.g.cs P) c.g.nc) :: (c.g.mp, c.g.om) ::
  (c.k.lk, instObj 170 c.k.lkd) :: (c.k.lkd, dictOf (c.k.es P pass) c.k.nl) :: []
theorem setA {l : Lig} {c : Sc} {pass : Bool} {ll : Int} {tl : Tok} {nb : Nat} {infos : List Inf} {nr : Nat} {k : Nat} {i i' : Inf} {attr : Str} {v : Value} {Q : Unit → Shared → Prop} (hX₀ : (hd.heap_1 w.params).In h₀) (F : Fr h₀ L s.heap m) (N : News h₀ L s.heap (alFoot w.params l c pass ll tl nb infos nr)) (apt : Apt c infos)
    (hoff : ∀ p ∈ ligLed w.params l, ∀ q ∈ c.full w.params pass ll tl nb infos nr, p.1 ≠ q.1) (hk : infos[k]? = some i)
    (hs : findIn (hd.heap_1 w.params) (.ref 52) "__setattr__" = some (some (.builtin "object.__setattr__"))) (hp : plainOver (hd.heap_1 w.params) 52 = true) (ht : takerIn (hd.heap_1 w.params) 52 attr = some none) (hh : hasDictIn (hd.heap_1 w.params) 52 = true) (hl : (getL attr (i.es w.params)).isSome = true)
    (e : (putL attr (PyData.keyHash w.params attr) (.str attr (s.toks + 1)) v (i.es w.params), putN attr (i.es w.params) i.n) = (i'.es w.params, i'.n)) (ha : i'.a = i.a) (hd' : i'.d = i.d)
    (h : ∀ h', Fr h₀ L h' m → News h₀ L h' (alFoot w.params l c pass ll tl nb (infos.set k i') nr) → Q () { s with heap := h', toks := s.toks + 2 }) :
    wpAny (model prog w) A (setAttr (.ref i.a) attr v) Q E s := by
  have hin : i ∈ infos := List.mem_of_getElem? hk
  have e0 : alFoot w.params l c pass ll tl nb infos nr = (ligLed w.params l ++ preF w.params c pass ll tl nb (rowO infos nr)) ++ infoLed w.params infos := by
    rw [List.append_assoc]; rfl
  refine setRow (pre := ligLed w.params l ++ preF w.params c pass ll tl nb (rowO infos nr)) (i' := i') hX₀ F (by rw [← e0]; exact N) hk rfl apt.nd ?_ hs hp ht hh hl e ha hd' ?_
  · intro p hp
    rcases List.mem_append.mp hp with hp | hp
    · refine hoff p hp (i.d, dictOf (i.es w.params) i.n) ?_
      have : (i.d, dictOf (i.es w.params) i.n) ∈ infoLed w.params infos := List.mem_flatMap.mpr ⟨i, hin, .tail _ (.head _)⟩
      exact List.mem_append_right [(c.sc, instObj 192 c.scd), (c.scd, dictOf (c.es w.params) c.ns), (c.buf, instObj 103 c.bfd), (c.bfd, dictOf (c.bs w.params ll tl) nb), (c.row, rowO infos nr), (c.g.gdf, instObj 619 c.g.gdd), (c.g.gdd, dictOf (c.g.es w.params) c.g.ng), (c.g.cdf, instObj 571 c.g.cdd), (c.g.cdd, dictOf (c.g.cs w.params) c.g.nc), (c.g.mp, c.g.om), (c.k.lk, instObj 170 c.k.lkd), (c.k.lkd, dictOf (c.k.es w.params pass) c.k.nl)] this
    · exact pre_off (pl := c.sc) (vs := []) (kn := 0) apt (fix_off (P := w.params) (pass := pass) apt (c.sc, instObj 192 c.scd) (.head _)) hin p (.tail _ hp)
  · intro h' F' N'
    refine h h' F' ?_
    have e1 : alFoot w.params l c pass ll tl nb (infos.set k i') nr = (ligLed w.params l ++ preF w.params c pass ll tl nb (rowO infos nr)) ++ infoLed w.params (infos.set k i') := by
      rw [List.append_assoc, ← row_set hk ha]; rfl
    rw [e1]; exact N'
theorem len_tup {t k : Nat} {vs : List Value} {Q : Value → Shared → Prop} (N : News h₀ L s.heap news) (hm : (t, tupOf vs k) ∈ news) (hk : vs.length ≤ 1000) (h : ∀ t tk, Q (.int vs.length t) { s with toks := tk }) : wpAny (model prog w) A (call (.builtin "len") [.ref t]) Q E s := by
  refine PySem.P.len_tuple (items := vs.toArray) (n := k) (N _ hm).1 (by simp; omega) ?_
  have := h (s.toks + 1) (s.toks + 1 + 1)
  simpa using this
local macro_rules | `(tactic| walk_at "mine_stopJ") => `(tactic| ((try k_fold); repeat' (walk_at "st_att"; walk_at "st_item"; walk_at "st_c"; walk_at "st_gen"; walk_at "st_ass"; walk_at "st_one")))
theorem tabD {t : Tab} : List.Mem (t.d, t.om) t.led := .head _
local macro_rules | `(tactic| walk_at "mine_tab") => `(tactic| (intro p hp; have hp' : List.Mem p _ := hp; repeat' (first | (with_reducible exact memL hp') | (with_reducible exact hp') | refine' List.Mem.tail _ ?_)))
local macro_rules | `(tactic| walk_at "getMethod ref") => `(tactic| (k_here; (with_reducible show wpAny _ _ (getMethod (Value.ref _) (PySem.Str.ofString "get") _) _ _ _); k_dflt (refine kdg_method (knd := intKind _ _) (by k_asm) (by repeat' (first | (with_reducible exact memL tabD) | refine' List.Mem.tail _ ?_)) (Tab.ok.hdict (by assumption)) ?_)))
local macro_rules | `(tactic| walk_at "call builtin:dict.get") => `(tactic| (k_here; k_dflt (refine get_rows (t := _) (by k_asm) (by walk_at "mine_tab") (by assumption) (by k_mem) ?_); intro _ _ _))
theorem eq_tup_nil {a b k k2 : Nat} {vs : List Value} {Q : Value → Shared → Prop} (N : News h₀ L s.heap news) (ha : (a, tupOf vs k) ∈ news) (hb : (b, tupOf [] k2) ∈ news) (hne : vs ≠ []) (hu : A.units < cLine) (h : Q (.bool false) s) : wpAny (model prog w) A (compareOp .Eq (.ref a) (.ref b)) Q E s := by
  refine PySem.SeqAt.eq_tupleAt (items := vs.toArray) (items2 := #[]) (e := fun _ => true) ⟨_, (N _ ha).1, rfl, _, rfl⟩ ⟨_, (N _ hb).1, rfl, _, rfl⟩ hu (fun j h1 h2 => absurd h2 (Nat.not_lt_zero _)) ?_
  have e : (vs.toArray.size == (#[] : Array Value).size) = false := by
    cases vs with
    | nil => exact absurd rfl hne
    | cons a r => simp
  rw [e, Bool.and_false]; exact h
local macro_rules | `(tactic| walk_at "compareOp Eq ref ref") => `(tactic| (k_here; k_dflt (refine eq_tup_nil (by k_asm) (by k_mem) (by k_mem) (by assumption) (by first | units_room | exact Nat.lt_of_le_of_lt (by assumption) (by decide)) ?_)))
theorem add_tup {t b k k2 : Nat} {x : Int} {tx : Tok} {vs : List Value} {ns : List Int} {Q : Value → Shared → Prop} (F : Fr h₀ L s.heap m) (N : News h₀ L s.heap news) (ht : (t, tupOf [.int x tx] k) ∈ news) (hb : (b, tupOf vs k2) ∈ news) (hi : IntsAre vs ns) (hne : vs ≠ []) (hz : vs.length ≤ 100)
    (h : ∀ D h', Fr h₀ L h' m → News h₀ L h' ((D, tupOf (.int x tx :: vs) 0) :: news) → (∀ p ∈ news, p.1 < D) → IntsAre (.int x tx :: vs) (x :: ns) → Q (.ref D) { s with heap := h' }) : wpAny (model prog w) A (binaryOp .Add (.ref t) (.ref b)) Q E s :=
  add_tuples_right F N ⟨_, (N _ ht).1, rfl, _, rfl⟩ ⟨_, (N _ hb).1, rfl, _, rfl⟩ (.cons x tx .nil) hi hne (fun e => by cases e) (fun h' F' N' hi' => h _ h' F' N' (fun p hp => Heap.lt_size (N p hp).1) hi')
    (by have : (1000 : Nat) ≤ sizeLine := by decide
        simp; omega)
local macro_rules | `(tactic| walk_at "binaryOp Add ref ref") => `(tactic| (k_here; k_dflt (refine add_tup (by k_asm) (by k_asm) (by k_mem) (by k_mem) (by assumption) (by assumption) (by omega) ?_); intro _ _ _ _ _ _))
local macro_rules | `(tactic| walk_at "call builtin:len") => `(tactic| (k_here; k_dflt (refine len_tup (by k_asm) (by k_mem) (by omega) ?_; intro _ _)))
def alMap (c : Sc) (l : Lig) (at_ : Nat) (t1 : Tok) (x : Int) (tx : Tok) (vr vl vp : Option Value) : Map := fun y => if y = Str.ofString "places" then vp else if y = Str.ofString "ligature" then vl else if y = Str.ofString "rest" then vr else if y = Str.ofString "first" then some (.int x tx) else if y = Str.ofString "row" then some (.ref c.row) else
  List.lookup y [(Str.ofString "scene", .ref c.sc), (Str.ofString "table", .ref l.a), (Str.ofString "at", .int ((at_ : Nat) : Int) t1)].reverse
abbrev alL (c : Sc) (l : Lig) (at_ : Nat) (t1 : Tok) (x : Int) (tx : Tok) (vr vl vp : Option Value) : List (Str × Option Value) := [(Str.ofString "places", vp), (Str.ofString "ligature", vl), (Str.ofString "rest", vr), (Str.ofString "first", some (.int x tx)), (Str.ofString "row", some (.ref c.row))]
theorem al_init {c : Sc} {l : Lig} {at_ : Nat} {t1 : Tok} {x : Int} {tx : Tok} : (fun y => if y = Str.ofString "first" then some (Value.int x tx) else if y = Str.ofString "row" then some (.ref c.row) else List.lookup y [(Str.ofString "scene", .ref c.sc), (Str.ofString "table", .ref l.a), (Str.ofString "at", .int ((at_ : Nat) : Int) t1)].reverse) = alMap c l at_ t1 x tx none none none :=
  mapB_eq (B := fun y => List.lookup (β := Value) y [(Str.ofString "scene", Value.ref c.sc), (Str.ofString "table", Value.ref l.a), (Str.ofString "at", Value.int ((at_ : Nat) : Int) t1)].reverse) (l := [(Str.ofString "first", some (Value.int x tx)), (Str.ofString "row", some (Value.ref c.row))]) (l' := alL c l at_ t1 x tx none none none) (by walk_at "mapq") (by walk_at "mapq")
theorem al_step {c : Sc} {l : Lig} {at_ : Nat} {t1 : Tok} {x : Int} {tx : Tok} {vr vl vp vr' vl' vp' : Option Value} : (fun y => if y = Str.ofString "places" then vp' else if y = Str.ofString "ligature" then vl' else if y = Str.ofString "rest" then vr' else alMap c l at_ t1 x tx vr vl vp y) = alMap c l at_ t1 x tx vr' vl' vp' :=
  mapB_eq (B := fun y => List.lookup (β := Value) y [(Str.ofString "scene", Value.ref c.sc), (Str.ofString "table", Value.ref l.a), (Str.ofString "at", Value.int ((at_ : Nat) : Int) t1)].reverse) (l := [(Str.ofString "places", vp'), (Str.ofString "ligature", vl'), (Str.ofString "rest", vr')] ++ alL c l at_ t1 x tx vr vl vp) (l' := alL c l at_ t1 x tx vr' vl' vp') (by walk_at "mapq") (by walk_at "mapq")
inductive AlI (P : Params) (D : Addr) (l : Lig) (c : Sc) (pass : Bool) (ll : Int) (tl : Tok) (nb : Nat) (infos : List Inf) (nr : Nat) (at_ : Nat) (i : Inf) (t1 : Tok) (j : Nat) (m₁ : Map) (led₁ : Led) : Prop
  | mk (vr vl vp : _) (h1 : led₁ = (D, listOf ([] : List Value).toArray 0) :: alFoot P l c pass ll tl nb infos nr) (h2 : rowsDue pass (glOf infos) at_ (l.tab.rowsOf i.glyph) = rowsDue pass (glOf infos) at_ ((l.tab.rowsOf i.glyph).drop j)) (h3 : m₁ = alMap c l at_ t1 i.glyph (i.u 1) vr vl vp)
inductive DueR (due : Option (Int × List Int)) (L0 : Led) (L1 : Int → Tok → Nat → List Inf → Led) (v : Value) (led' : Led) : Prop
  | no (h : due = none) (t : Tok) (hv : v = .int (-1) t) (hl : led' = L0)
  | yes (ix : Int) (g : List Int) (t : Tok) (ll' : Int) (tl' : Tok) (nr' : Nat) (infos' : List Inf) (h : due = some (ix, g)) (hv : v = .int ix t) (hg : glOf infos' = g) (hl : led' = L1 ll' tl' nr' infos')
theorem apply_ligature_spec {l : Lig} {c : Sc} {pass : Bool} {ll : Int} {tl : Tok} {nb nr : Nat} {infos : List Inf} {at_ : Nat} {i : Inf} {t1 : Tok} {Q : Value → Shared → Prop} (Z : At w A env L h₀ (n+7)) (F : Fr h₀ L s.heap m) (N : News h₀ L s.heap (alFoot w.params l c pass ll tl nb infos nr))
    (ok : c.g.ok prog w) (tok : l.tab.ok prog w) (hlen : infos.length ≤ 80) (hi : infos[((at_ : Nat) : Int).toNat]? = some i) (hm : ∀ i ∈ infos, i.mask = 1) (hz : ∀ i ∈ infos, i.ligId = 0) (apt : Apt c infos)
    (hoff : ∀ p ∈ (l.a, instObj 340 l.d) :: (l.d, dictOf (l.es w.params) l.n) :: l.tab.led, ∀ q ∈ c.full w.params pass ll tl nb infos nr, p.1 ≠ q.1)
    (hQn : rowsDue pass (glOf infos) at_ (l.tab.rowsOf i.glyph) = none → ∀ h' tk t, Fr h₀ L h' m → News h₀ L h' (alFoot w.params l c pass ll tl nb infos nr) → Chg ((alFoot w.params l c pass ll tl nb infos nr).map (·.1)) s.heap h' → Q (.int (-1) t) { s with heap := h', toks := tk })
    (hQs : ∀ ix g, rowsDue pass (glOf infos) at_ (l.tab.rowsOf i.glyph) = some (ix, g) → ∀ h' tk t ll' tl' nr' infos', Fr h₀ L h' m → News h₀ L h' (alFoot w.params l c pass ll' tl' nb infos' nr') → Chg ((alFoot w.params l c pass ll tl nb infos nr).map (·.1)) s.heap h' → glOf infos' = g → Q (.int ix t) { s with heap := h', toks := tk }) :
    wpAny (model prog w) A (call (.ref 389) [.ref c.sc, .ref l.a, .int ((at_ : Nat) : Int) t1]) Q E s := by
  have X := Z.X
  refine' call_mut [(Str.ofString "scene", .ref c.sc), (Str.ofString "table", .ref l.a), (Str.ofString "at", .int ((at_ : Nat) : Int) t1)] (DueR (rowsDue pass (glOf infos) at_ (l.tab.rowsOf i.glyph)) (alFoot w.params l c pass ll tl nb infos nr) (fun ll' tl' nr' infos' => alFoot w.params l c pass ll' tl' nb infos' nr')) ?Z ?F N ?k6 ?k7 ?k9 ?kB ?_ ?c2 ?c3 ?c4 ?c5 ?kQ
  walk_at "mine_sides"
  · intro g' L' h₁ tk sg sd so dp fr gs un A₀ base p loose mean mg mb B' T' X' Z' hU F' N' hl
    have hat : at_ < infos.length := by have := (List.getElem?_eq_some_iff.mp hi).1; omega
    walk_at "mine_stop"
    refine wpAny_execs_cons (for_own (h₀ := g') (L := L') ?_)
    walk_at "mine_stop"
    rename_i D h2 F2 N2 lD LA LN hLA
    refine for_list (vs := (l.tab.rowsOf i.glyph).map fun r => Value.ref r.a) rfl ⟨_, (N2 _ hLA).1, rfl, _, rfl⟩ F2 N2
      (AlI w.params D l c pass ll tl nb infos nr at_ i t1)
      ⟨none, none, none, rfl, by rw [List.drop_zero], al_init⟩ ?_ (.inr ⟨_, _, _, rfl, ?_⟩) ?_ ?_
    · rintro j m₁ led₁ h ⟨vr, vl, vp, rfl, _, _⟩ F5 N5
      exact ⟨_, (N5 _ hLA).1, rfl, _, rfl⟩
    · intro v hv
      obtain ⟨r, _, rfl⟩ := List.mem_map.mp hv
      exact ⟨_, rfl⟩
    · rintro I j v m₁ led₁ s₁ o ⟨h5, tk5, rfl⟩ hj ⟨vr, vl, vp, rfl, hdue, rfl⟩ F5 N5 hI
      rw [List.getElem?_map] at hj
      obtain ⟨r, hr, rfl⟩ := Option.map_eq_some_iff.mp hj
      have hrm := List.mem_of_getElem? hr
      have hrl := row_led hrm
      obtain ⟨st, hst, hrs⟩ := rowsOf_mem hrm
      obtain ⟨hri, hrlen⟩ := tok.hints st hst r hrs
      have hdj : (l.tab.rowsOf i.glyph).drop j = r :: (l.tab.rowsOf i.glyph).drop (j + 1) := by
        obtain ⟨h1, h2⟩ := List.getElem?_eq_some_iff.mp hr
        rw [List.drop_eq_getElem_cons h1, h2]
      have up : ∀ p ∈ r.led, p ∈ (I, o) :: (D, listOf ([] : List Value).toArray 0) :: alFoot w.params l c pass ll tl nb infos nr := fun p hp => .tail _ (.tail _ (.tail _ (.tail _ (List.mem_append_left _ (hrl p hp)))))
      have N6 : News g' L' h5 ((r.a, tupOf [.ref r.ga, .int r.lig r.tl] r.n) :: (r.ga, tupOf r.vs r.gn) :: (I, o) :: (D, listOf ([] : List Value).toArray 0) :: alFoot w.params l c pass ll tl nb infos nr) :=
        fun p hp => by
          revert p
          first | refine ac3 ?_ ?_ | refine ac2 ?_ ?_ | refine ac ?_ ?_
          · exact N5 _ (up _ (.head _))
          refine ac ?_ ?_
          · exact N5 _ (up _ (.tail _ (.head _)))
          intro p hp
          · exact N5 p hp
      clear F2 N2
      clear N5
      cases hri' : r.rest with
      | nil =>
        have hrv : r.vs = [] := by have := hri.length; rw [hri'] at this; exact List.eq_nil_of_length_eq_zero this
        rw [hrv] at N6
        have hpn : plc pass (glOf infos) at_ r.rest = some [] := by rw [hri']; rfl
        walk_at "mine_stopJ"
        refine setA (l := l) (nr := nr) (infos := infos) (k := at_) (i := i) (i' := { i with glyph := r.lig, u := updU i.u 1 r.tl }) X' (by assumption) (News.sub (by assumption) (fun p hp => .tail _ (.tail _ (.tail _ (.tail _ (.tail _ hp)))))) apt hoff (by simpa using hi) (by k_is) (by k_is) (by k_is) (by k_is) rfl put_glyph rfl rfl ?_
        intro h8 F8 N8
        walk_at "mine_stopJ"
        try dsimp only
        have hv9 : ∀ t, Value.int (((at_ : Nat) : Int) + 1) t = .int (((at_ : Nat) : Int) + 1 - (r.rest.length : Nat)) t := fun t => by rw [hri']; simp
        exact (show OutM _ _ _ _ _ _ from ⟨_, _, F8, N8, ⟨_, _, rfl⟩, .yes (((at_ : Nat) : Int) + 1 - (r.rest.length : Nat)) (dropAt [] ((glOf infos).set at_ r.lig)) _ ll tl nr _ (by rw [hdue, hdj]; simp only [rowsDue, hpn]; rfl) (hv9 _) (by rw [dropAt_nil]; simp [glOf, List.map_set]) rfl⟩)
      | cons y ys =>
        rw [hri'] at hri
        have hrvl : r.vs.length ≤ 100 := by have := hri.length; rw [hri'] at hrlen; omega
        have hrne : r.vs ≠ [] := by intro h; have := hri.length; rw [h] at this; simp at this
        walk_at "mine_stopJ"
        have hyl : ys.length ≤ 49 := by rw [hri'] at hrlen; simp at hrlen; omega
        refine glyph_tests_spec (gs := i.glyph :: y :: ys) Z' (by assumption) (by assumption) (by exact .head _) (by assumption) (by simp; omega) ?_
        intro h8 tk8 tt nt ts F8 N8 hts
        obtain ⟨t₀, ts', rfl⟩ : ∃ a b, ts = a :: b := by
          cases ts with
          | nil => simp at hts
          | cons a b => exact ⟨a, b, rfl⟩
        have hg0 : t₀.g = i.glyph := by simp at hts; exact hts.1
        have hgs : ts'.map (·.g) = r.rest := by rw [hri']; simp at hts; exact hts.2
        have hgl : ts'.length ≤ 100 := by have := congrArg List.length hgs; rw [hri'] at this; simp at this; omega
        have N8' : News g' L' h8 ((tt, tupOf (.ref t₀.a :: ts'.map fun t => .ref t.a) nt) :: (t₀.a, t₀.obj) :: (tstLed ts' ++ ((r.ga, tupOf r.vs r.gn) :: (I, o) :: (D, listOf ([] : List Value).toArray 0) :: alFoot w.params l c pass ll tl nb infos nr))) := News.sub N8 fun p hp => by
          revert p
          first | refine ac3 ?_ ?_ | refine ac2 ?_ ?_ | refine ac ?_ ?_
          · exact .head _
          refine ac ?_ ?_
          · exact .tail _ (.head _)
          intro p hp
          rcases List.mem_append.mp hp with hp | hp
          · exact .tail _ (.tail _ (List.mem_append_left _ hp))
          · exact .tail _ (.tail _ (List.mem_append_right _ (.tail _ (.tail _ (.tail _ (.tail _ hp))))))
        clear N8
        walk_at "mine_stopJ"
        refine input_at_spec (infos := infos) (i := i) (t₀ := t₀) (ts := ts') Z' F8 N8' (fun p hp => by
          revert p
          first | refine ac3 ?_ ?_ | refine ac2 ?_ ?_ | refine ac ?_ ?_
          · exact .head _
          refine ac ?_ ?_
          · exact .tail _ (.head _)
          intro p hp
          rcases List.mem_append.mp hp with hp | hp
          · exact .tail _ (.tail _ (List.mem_append_left _ hp))
          · exact .tail _ (.tail _ (List.mem_append_right _ (.tail _ (.tail _ (.tail _ (.tail _ (.tail _ (List.mem_append_right _ hp))))))))) ok (by omega) hi hg0 hm hgl ?_ ?_
        · intro hpn h9 tk9 F9 N9
          rw [hgs] at hpn
          clear F8 N8'
          walk_at "mine_stopJ"
          try dsimp only
          exact (show TurnEnd _ _ _ _ _ _ _ from ⟨_, _, ⟨_, _, rfl⟩, by assumption, News.sub (by assumption) (fun p hp => .tail _ (.tail _ (List.mem_append_right _ (.tail _ hp)))), hI, _, _, _, rfl, by rw [hdue, hdj]; simp only [rowsDue, hpn], al_step⟩)
        · intro ps hps h9 tk9 fl vs kn F9 N9 hvs
          rw [hgs] at hps
          clear F8 N8'
          obtain ⟨hpsl, hpss, hpsb⟩ := plc_facts hps
          obtain ⟨q0, qs, rfl⟩ : ∃ a b, ps = a :: b := by
            cases ps with
            | nil => rw [hri'] at hpsl; simp at hpsl
            | cons a b => exact ⟨a, b, rfl⟩
          have hpb : ∀ p ∈ at_ :: q0 :: qs, p < infos.length := fun p hp => by
            revert p
            first | refine ac3 ?_ ?_ | refine ac2 ?_ ?_ | refine ac ?_ ?_
            · exact hat
            intro p hp
            · have := hpsb p hp; simpa using this
          have hqsl : qs.length ≤ 49 := by rw [hri'] at hpsl; simp at hpsl; omega
          have upJ : ∀ p ∈ jLed w.params c pass ll tl nb infos nr fl vs kn, p ∈ (fl, listOf vs.toArray kn) :: (tt, tupOf (.ref t₀.a :: ts'.map fun t => .ref t.a) nt) :: (t₀.a, t₀.obj) :: (tstLed ts' ++ ((r.ga, tupOf r.vs r.gn) :: (I, o) :: (D, listOf ([] : List Value).toArray 0) :: alFoot w.params l c pass ll tl nb infos nr)) := fun p hp => by
            revert p
            first | refine ac3 ?_ ?_ | refine ac2 ?_ ?_ | refine ac ?_ ?_
            · exact .head _
            intro p hp
            · exact .tail _ (.tail _ (.tail _ (List.mem_append_right _ (.tail _ (.tail _ (.tail _ (.tail _ (.tail _ (List.mem_append_right _ hp)))))))))
          walk_at "mine_stopJ"
          refine hold_together_spec (infos := infos) (nr := nr) (kn := kn) (vs := vs) (p0 := at_) (ps := q0 :: qs) Z' (by assumption) (by assumption) (fun p hp => upJ p (tie_sub p hp)) hvs hpb (by omega) (by simp; omega) hz ?_
          intro h10 tk10 F10 N10
          walk_at "mine_stopJ"
          refine join_spec (infos := infos) (vs := vs) (ps := qs) Z' (by assumption) (News.sub N10 upJ) ok hvs hpb hpss (by omega) (by omega) apt ?_
          intro h11 tk11 ll' tl' nr' infos' F11 N11 c11 hg11

          have hkeep : ∀ p ∈ (l.a, instObj 340 l.d) :: (l.d, dictOf (l.es w.params) l.n) :: l.tab.led, p.1 ∉ (jLed w.params c pass ll tl nb infos nr fl vs kn).map (·.1) := fun p hp => notin_fst fun q hq => by
            revert q
            first | refine ac3 ?_ ?_ | refine ac2 ?_ ?_ | refine ac ?_ ?_
            · exact lig_fl tok N10 hvs (.head _) (fun p hp => by
                revert p
                first | refine ac3 ?_ ?_ | refine ac2 ?_ ?_ | refine ac ?_ ?_
                · exact .tail _ (.tail _ (.tail _ (List.mem_append_right _ (.tail _ (.tail _ (.tail _ (.head _)))))))
                refine ac ?_ ?_
                · exact .tail _ (.tail _ (.tail _ (List.mem_append_right _ (.tail _ (.tail _ (.tail _ (.tail _ (.head _))))))))
                intro p hp
                · exact .tail _ (.tail _ (.tail _ (List.mem_append_right _ (.tail _ (.tail _ (.tail _ (.tail _ (.tail _ (List.mem_append_left _ hp)))))))))) p hp
            intro q hq
            · exact hoff p hp q hq
          have N12 : News g' L' h11 ((fl, listOf vs.toArray kn) :: (r.ga, tupOf r.vs r.gn) :: alFoot w.params l c pass ll' tl' nb infos' nr') := by
            have up : ∀ p ∈ (r.ga, tupOf r.vs r.gn) :: (l.a, instObj 340 l.d) :: (l.d, dictOf (l.es w.params) l.n) :: l.tab.led, p ∈ (fl, listOf vs.toArray kn) :: (tt, tupOf (.ref t₀.a :: ts'.map fun t => .ref t.a) nt) :: (t₀.a, t₀.obj) :: (tstLed ts' ++ ((r.ga, tupOf r.vs r.gn) :: (I, o) :: (D, listOf ([] : List Value).toArray 0) :: alFoot w.params l c pass ll tl nb infos nr)) := fun p hp => by
              revert p
              first | refine ac3 ?_ ?_ | refine ac2 ?_ ?_ | refine ac ?_ ?_
              · exact .tail _ (.tail _ (.tail _ (List.mem_append_right _ (.head _))))
              refine ac ?_ ?_
              · exact .tail _ (.tail _ (.tail _ (List.mem_append_right _ (.tail _ (.tail _ (.tail _ (.head _)))))))
              refine ac ?_ ?_
              · exact .tail _ (.tail _ (.tail _ (List.mem_append_right _ (.tail _ (.tail _ (.tail _ (.tail _ (.head _))))))))
              intro p hp
              · exact .tail _ (.tail _ (.tail _ (List.mem_append_right _ (.tail _ (.tail _ (.tail _ (.tail _ (.tail _ (List.mem_append_left _ hp)))))))))
            refine News.after2 N10 N11 c11 fun p hp => ?_
            revert p
            first | refine ac3 ?_ ?_ | refine ac2 ?_ ?_ | refine ac ?_ ?_
            · exact .inl (.head _)
            refine ac ?_ ?_
            · exact .inr ⟨up _ (.head _), hkeep _ (.tail _ (.tail _ (hrl _ (.tail _ (.head _)))))⟩
            refine ac ?_ ?_
            · exact .inr ⟨up _ (.tail _ (.head _)), hkeep _ (.head _)⟩
            refine ac ?_ ?_
            · exact .inr ⟨up _ (.tail _ (.tail _ (.head _))), hkeep _ (.tail _ (.head _))⟩
            intro p hp
            rcases List.mem_append.mp hp with hp | hp
            · exact .inr ⟨up _ (.tail _ (.tail _ (.tail _ hp))), hkeep _ (.tail _ (.tail _ hp))⟩
            · exact .inl (.tail _ hp)
          clear N10 F10 N11
          obtain ⟨pz, hpz, hpzl⟩ : ∃ pz : Nat, ((at_ :: q0 :: qs).map Int.ofNat).getLast? = some ((pz : Nat) : Int) ∧ (at_ :: q0 :: qs).getLast? = some pz := by
            refine ⟨(at_ :: q0 :: qs).getLast (by simp), by rw [List.getLast?_map, List.getLast?_eq_some_getLast (by simp)]; rfl, by rw [List.getLast?_eq_some_getLast (by simp)]⟩
          have hvl2 : vs.length ≤ 1000 := by rw [hvs.length]; simp; omega
          walk_at "mine_stopJ"
          try dsimp only
          have hv9 : ∀ t, Value.int (((pz : Nat) : Int) + 1 - (r.vs.length : Nat)) t = .int (((pz : Nat) : Int) + 1 - (r.rest.length : Nat)) t := fun t => by rw [hri.length, hri']
          exact (show OutM _ _ _ _ _ _ from ⟨_, _, by assumption, News.sub (led' := alFoot w.params l c pass ll' tl' nb infos' nr') (by assumption) (fun p hp => .tail _ (.tail _ hp)), ⟨_, _, rfl⟩, .yes (((pz : Nat) : Int) + 1 - (r.rest.length : Nat)) (dropAt (q0 :: qs) ((glOf infos).set at_ r.lig)) _ ll' tl' nr' infos' (by rw [hdue, hdj]; simp only [rowsDue, hps, hpzl, Option.getD_some]) (hv9 _) hg11 rfl⟩)
    · rintro m₁ led₁ s₁ ⟨h5, tk5, rfl⟩ ⟨vr, vl, vp, rfl, hdue, rfl⟩ F5 N5
      clear F2 N2
      try dsimp only
      walk_at "mine_stop"
      try dsimp only
      exact (show OutM _ _ _ _ _ _ from ⟨_, _, by assumption, News.sub (by assumption) (fun p hp => .tail _ hp), ⟨_, _, rfl⟩, .no (by rw [hdue, List.length_map, List.drop_length]; rfl) _ rfl rfl⟩)
  · rintro v h' tk led' F' N' c' (⟨h1, t, rfl, rfl⟩ | ⟨ix, g, t, ll', tl', nr', infos', h1, rfl, h2, rfl⟩)
    · exact hQn h1 h' tk t F' N' c'
    · exact hQs ix g h1 h' tk t ll' tl' nr' infos' F' N' c' h2
theorem apply_table_spec {l : Lig} {c : Sc} {pass : Bool} {ll : Int} {tl : Tok} {nb nr : Nat} {infos : List Inf} {at_ : Nat} {i : Inf} {t1 tk0 : Tok} {Q : Value → Shared → Prop} (Z : At w A env L h₀ (n+8)) (F : Fr h₀ L s.heap m) (N : News h₀ L s.heap (alFoot w.params l c pass ll tl nb infos nr))
    (ok : c.g.ok prog w) (tok : l.tab.ok prog w) (hlen : infos.length ≤ 80) (hi : infos[((at_ : Nat) : Int).toNat]? = some i) (hm : ∀ i ∈ infos, i.mask = 1) (hz : ∀ i ∈ infos, i.ligId = 0) (apt : Apt c infos)
    (hoff : ∀ p ∈ ligLed w.params l, ∀ q ∈ c.full w.params pass ll tl nb infos nr, p.1 ≠ q.1)
    (hQn : rowsDue pass (glOf infos) at_ (l.tab.rowsOf i.glyph) = none → ∀ h' tk t, Fr h₀ L h' m → News h₀ L h' (alFoot w.params l c pass ll tl nb infos nr) → Chg ((alFoot w.params l c pass ll tl nb infos nr).map (·.1)) s.heap h' → Q (.int (-1) t) { s with heap := h', toks := tk })
    (hQs : ∀ ix g, rowsDue pass (glOf infos) at_ (l.tab.rowsOf i.glyph) = some (ix, g) → ∀ h' tk t ll' tl' nr' infos', Fr h₀ L h' m → News h₀ L h' (alFoot w.params l c pass ll' tl' nb infos' nr') → Chg ((alFoot w.params l c pass ll tl nb infos nr).map (·.1)) s.heap h' → glOf infos' = g → Q (.int ix t) { s with heap := h', toks := tk }) :
    wpAny (model prog w) A (call (.ref 521) [.ref c.sc, .str (Str.ofString "ligature") tk0, .ref l.a, .int ((at_ : Nat) : Int) t1]) Q E s := by
  have X := Z.X
  refine' call_mut [(Str.ofString "scene", .ref c.sc), (Str.ofString "kind", .str (Str.ofString "ligature") tk0), (Str.ofString "table", .ref l.a), (Str.ofString "at", .int ((at_ : Nat) : Int) t1)] (DueR (rowsDue pass (glOf infos) at_ (l.tab.rowsOf i.glyph)) (alFoot w.params l c pass ll tl nb infos nr) (fun ll' tl' nr' infos' => alFoot w.params l c pass ll' tl' nb infos' nr')) ?Z ?F N ?k6 ?k7 ?k9 ?kB ?_ ?c2 ?c3 ?c4 ?c5 ?kQ
  walk_at "mine_sides"
  · intro g' L' h₁ tk sg sd so dp fr gs un A₀ base p loose mean mg mb B' T' X' Z' hU F' N' hl
    walk_at "mine_stopJ"
    refine apply_ligature_spec (l := l) (infos := infos) (nr := nr) Z' (by assumption) (by assumption) ok tok hlen hi hm hz apt hoff ?_ ?_
    · intro h1 h2 tk2 t2 F2 N2 c2
      walk_at "mine_stopJ"
      try dsimp only
      exact (show OutM _ _ _ _ _ _ from ⟨_, _, F2, N2, ⟨_, _, rfl⟩, .no h1 _ rfl rfl⟩)
    · intro ix g h1 h2 tk2 t2 ll' tl' nr' infos' F2 N2 c2 hg
      walk_at "mine_stopJ"
      try dsimp only
      exact (show OutM _ _ _ _ _ _ from ⟨_, _, F2, N2, ⟨_, _, rfl⟩, .yes ix g _ ll' tl' nr' infos' h1 rfl hg rfl⟩)
  · rintro v h' tk led' F' N' c' (⟨h1, t, rfl, rfl⟩ | ⟨ix, g, t, ll', tl', nr', infos', h1, rfl, h2, rfl⟩)
    · exact hQn h1 h' tk t F' N' c'
    · exact hQs ix g h1 h' tk t ll' tl' nr' infos' F' N' c' h2
def tabsDue (pass : Bool) (gl : List Int) (at_ : Nat) (x : Int) : List Lig → Option (Int × List Int)
  | [] => none
  | l :: ls => match rowsDue pass gl at_ (l.tab.rowsOf x) with
    | some r => some r
    | none => tabsDue pass gl at_ x ls
theorem News.after3 {h h' : Heap} {keep fx mv mv' : Led} (N : News h₀ L h news) (hf : ∀ p ∈ fx, p ∈ news) (hk : ∀ p ∈ keep, p ∈ news ∧ ∀ q ∈ mv, p.1 ≠ q.1) (N' : News h₀ L h' (fx ++ mv')) (cg : Chg ((fx ++ mv).map (·.1)) h h') : News h₀ L h' (keep ++ mv') := by
  intro p hp
  rcases List.mem_append.mp hp with hp | hp
  · obtain ⟨h1, h2⟩ := hk p hp
    by_cases hm : p.1 ∈ (fx ++ mv).map (·.1)
    · obtain ⟨q, hq, e⟩ := List.mem_map.mp hm
      rcases List.mem_append.mp hq with hq | hq
      · have a1 := (N p h1).1
        have a2 := (N q (hf q hq)).1
        rw [e, a1] at a2
        have : p = q := Prod.ext e.symm (Option.some.inj a2)
        rw [this]; exact N' q (List.mem_append_left _ hq)
      · exact absurd e.symm (h2 q hq)
    · exact ⟨cg _ _ (N p h1).1 hm, (N p h1).2⟩
  · exact N' p (List.mem_append_right _ hp)
abbrev saFoot (P : Params) (ligs : List Lig) (nt : Nat) (c : Sc) (pass : Bool) (ll : Int) (tl : Tok) (nb : Nat) (infos : List Inf) (nr : Nat) : Led := (c.k.tabs, listOf (ligs.map fun l => Value.ref l.a).toArray nt) :: (ligs.flatMap (ligLed P) ++ c.full P pass ll tl nb infos nr)
def saMap (c : Sc) (at_ : Nat) (t1 : Tok) (vt vf : Option Value) : Map := fun y => if y = Str.ofString "found" then vf else if y = Str.ofString "table" then vt else List.lookup y [(Str.ofString "scene", .ref c.sc), (Str.ofString "at", .int ((at_ : Nat) : Int) t1)].reverse
abbrev saL (c : Sc) (at_ : Nat) (t1 : Tok) (vt vf : Option Value) : List (Str × Option Value) := [(Str.ofString "found", vf), (Str.ofString "table", vt)]
theorem sa_init {c : Sc} {at_ : Nat} {t1 : Tok} : (fun y => List.lookup y [(Str.ofString "scene", Value.ref c.sc), (Str.ofString "at", .int ((at_ : Nat) : Int) t1)].reverse) = saMap c at_ t1 none none :=
  mapB_eq (B := fun y => List.lookup (β := Value) y [(Str.ofString "scene", Value.ref c.sc), (Str.ofString "at", Value.int ((at_ : Nat) : Int) t1)].reverse) (l := []) (l' := saL c at_ t1 none none) (by walk_at "mapq") (by walk_at "mapq")
inductive SaI (P : Params) (ligs : List Lig) (nt : Nat) (c : Sc) (pass : Bool) (ll : Int) (tl : Tok) (nb : Nat) (infos : List Inf) (nr : Nat) (at_ : Nat) (i : Inf) (t1 : Tok) (j : Nat) (m₁ : Map) (led₁ : Led) : Prop
  | mk (vt vf : _) (h1 : led₁ = saFoot P ligs nt c pass ll tl nb infos nr) (h2 : tabsDue pass (glOf infos) at_ i.glyph ligs = tabsDue pass (glOf infos) at_ i.glyph (ligs.drop j)) (h3 : m₁ = saMap c at_ t1 vt vf)
theorem substitute_at_spec {ligs : List Lig} {nt : Nat} {c : Sc} {pass : Bool} {ll : Int} {tl : Tok} {nb nr : Nat} {infos : List Inf} {at_ : Nat} {i : Inf} {t1 : Tok} {Q : Value → Shared → Prop} (Z : At w A env L h₀ (n+9)) (F : Fr h₀ L s.heap m) (N : News h₀ L s.heap (saFoot w.params ligs nt c pass ll tl nb infos nr))
    (ok : c.g.ok prog w) (tok : ∀ l ∈ ligs, l.tab.ok prog w) (hln : ligs.length ≤ 50) (hlen : infos.length ≤ 80) (hi : infos[((at_ : Nat) : Int).toNat]? = some i) (hm : ∀ i ∈ infos, i.mask = 1) (hz : ∀ i ∈ infos, i.ligId = 0) (apt : Apt c infos)
    (hoff : ∀ p ∈ (c.k.tabs, listOf (ligs.map fun l => Value.ref l.a).toArray nt) :: ligs.flatMap (ligLed w.params), ∀ q ∈ c.full w.params pass ll tl nb infos nr, p.1 ≠ q.1)
    (hQn : tabsDue pass (glOf infos) at_ i.glyph ligs = none → ∀ h' tk t, Fr h₀ L h' m → News h₀ L h' (saFoot w.params ligs nt c pass ll tl nb infos nr) → Chg ((saFoot w.params ligs nt c pass ll tl nb infos nr).map (·.1)) s.heap h' → Q (.int (-1) t) { s with heap := h', toks := tk })
    (hQs : ∀ ix g, tabsDue pass (glOf infos) at_ i.glyph ligs = some (ix, g) → ∀ h' tk t ll' tl' nr' infos', Fr h₀ L h' m → News h₀ L h' (saFoot w.params ligs nt c pass ll' tl' nb infos' nr') → Chg ((saFoot w.params ligs nt c pass ll tl nb infos nr).map (·.1)) s.heap h' → glOf infos' = g → Q (.int ix t) { s with heap := h', toks := tk }) :
    wpAny (model prog w) A (call (.ref 528) [.ref c.sc, .int ((at_ : Nat) : Int) t1]) Q E s := by
  have X := Z.X
  refine' call_mut [(Str.ofString "scene", .ref c.sc), (Str.ofString "at", .int ((at_ : Nat) : Int) t1)] (DueR (tabsDue pass (glOf infos) at_ i.glyph ligs) (saFoot w.params ligs nt c pass ll tl nb infos nr) (fun ll' tl' nr' infos' => saFoot w.params ligs nt c pass ll' tl' nb infos' nr')) ?Z ?F N ?k6 ?k7 ?k9 ?kB ?_ ?c2 ?c3 ?c4 ?c5 ?kQ
  walk_at "mine_sides"
  · intro g' L' h₁ tk sg sd so dp fr gs un A₀ base p loose mean mg mb B' T' X' Z' hU F' N' hl
    refine wpAny_execs_cons (for_own (h₀ := g') (L := L') ?_)
    walk_at "mine_stopJ"
    refine for_list (vs := ligs.map fun l => Value.ref l.a) rfl ⟨_, (N' _ (.head _)).1, rfl, _, rfl⟩ F' N'
      (SaI w.params ligs nt c pass ll tl nb infos nr at_ i t1)
      ⟨none, none, rfl, by rw [List.drop_zero], sa_init⟩ ?_ (.inl ⟨_, _, rfl⟩) ?_ ?_
    · rintro j m₁ led₁ h ⟨vt, vf, rfl, _, _⟩ F5 N5
      exact ⟨_, (N5 _ (.head _)).1, rfl, _, rfl⟩
    · rintro I j v m₁ led₁ s₁ o ⟨h5, tk5, rfl⟩ hj ⟨vt, vf, rfl, hdue, rfl⟩ F5 N5 hI
      rw [List.getElem?_map] at hj
      obtain ⟨l, hl1, rfl⟩ := Option.map_eq_some_iff.mp hj
      have hlm := List.mem_of_getElem? hl1
      have hdj : ligs.drop j = l :: ligs.drop (j + 1) := by
        obtain ⟨h1, h2⟩ := List.getElem?_eq_some_iff.mp hl1
        rw [List.drop_eq_getElem_cons h1, h2]
      have hsub : ∀ p ∈ ligLed w.params l, p ∈ ligs.flatMap (ligLed w.params) := fun p hp => List.mem_flatMap.mpr ⟨l, hlm, hp⟩
      have hA : ∀ p ∈ alFoot w.params l c pass ll tl nb infos nr, p ∈ (I, o) :: saFoot w.params ligs nt c pass ll tl nb infos nr := fun p hp => by
        have hp' : p ∈ ligLed w.params l ++ c.full w.params pass ll tl nb infos nr := hp
        rcases List.mem_append.mp hp' with h | h
        · exact .tail _ (.tail _ (List.mem_append_left _ (hsub p h)))
        · exact .tail _ (.tail _ (List.mem_append_right _ h))
      walk_at "mine_stopJ"
      rename_i N6
      refine apply_table_spec (l := l) (infos := infos) (nr := nr) Z' (by assumption) (News.sub N6 hA) ok (tok l hlm) hlen hi hm hz apt (fun p hp q hq => hoff p (.tail _ (hsub p hp)) q hq) ?_ ?_
      · intro h1 h2 tk2 t2 F2 N2 c2
        have N3 := News.after N6 hA N2 c2
        walk_at "mine_stopJ"
        try dsimp only
        exact (show TurnEnd _ _ _ _ _ _ _ from ⟨_, _, ⟨_, _, rfl⟩, by assumption, by assumption, hI, _, _, rfl, by rw [hdue, hdj]; simp only [tabsDue, h1], by unfold saMap; exact map_redo⟩)
      · intro ix g h1 h2 tk2 t2 ll' tl' nr' infos' F2 N2 c2 hg
        have hpos : 0 ≤ ix := rowsDue_pos h1
        have N3 : News g' L' h2 (saFoot w.params ligs nt c pass ll' tl' nb infos' nr') :=
          News.after3 (keep := ((c.k.tabs, listOf (ligs.map fun l : Lig => Value.ref l.a).toArray nt) :: ligs.flatMap (ligLed w.params) : Led)) (fx := ligLed w.params l) (mv := c.full w.params pass ll tl nb infos nr) (mv' := c.full w.params pass ll' tl' nb infos' nr') N6 (fun p hp => hA p (List.mem_append_left _ hp)) (fun p hp => ⟨.tail _ (by
            revert p
            first | refine ac3 ?_ ?_ | refine ac2 ?_ ?_ | refine ac ?_ ?_
            · exact .head _
            intro p hp
            · exact .tail _ (List.mem_append_left _ hp)), hoff p hp⟩) N2 c2
        clear N6
        walk_at "mine_stopJ"
        try dsimp only
        exact (show OutM _ _ _ _ _ _ from ⟨_, _, by assumption, by assumption, ⟨_, _, rfl⟩, .yes ix g _ ll' tl' nr' infos' (by rw [hdue, hdj]; simp only [tabsDue, h1]) rfl hg rfl⟩)
    · rintro m₁ led₁ s₁ ⟨h5, tk5, rfl⟩ ⟨vt, vf, rfl, hdue, rfl⟩ F5 N5
      try dsimp only
      walk_at "mine_stopJ"
      try dsimp only
      exact (show OutM _ _ _ _ _ _ from ⟨_, _, by assumption, by assumption, ⟨_, _, rfl⟩, .no (by rw [hdue, List.length_map, List.drop_length]; rfl) _ rfl rfl⟩)
  · rintro v h' tk led' F' N' c' (⟨h1, t, rfl, rfl⟩ | ⟨ix, g, t, ll', tl', nr', infos', h1, rfl, h2, rfl⟩)
    · exact hQn h1 h' tk t F' N' c'
    · exact hQs ix g h1 h' tk t ll' tl' nr' infos' F' N' c' h2
theorem glyphs_spec {c : Sc} {ll : Int} {tl : Tok} {nb nr : Nat} {infos : List Inf} {Q : Value → Shared → Prop} (Z : At w A env L h₀ (n+1)) (F : Fr h₀ L s.heap m) (N : News h₀ L s.heap news) (hs : ∀ p ∈ mergeFoot w.params c ll tl nb infos nr, p ∈ news) (hlen : infos.length ≤ 100)
    (hQ : ∀ h' tk D vs k, Fr h₀ L h' m → News h₀ L h' ((D, listOf vs.toArray k) :: news) → IntsAre vs (glOf infos) → Q (.ref D) { s with heap := h', toks := tk }) :
    wpAny (model prog w) A (call (.ref 76) [.ref c.buf]) Q E s := by
  have X := Z.X
  refine' call_mut [(Str.ofString "self", .ref c.buf)] (fun v led' => ∃ D vs k, v = .ref D ∧ IntsAre vs (glOf infos) ∧ led' = (D, listOf vs.toArray k) :: mergeFoot w.params c ll tl nb infos nr) ?Z ?F (News.sub N hs) ?k6 ?k7 ?k9 ?kB ?_ ?c2 ?c3 ?c4 ?c5 ?kQ
  walk_at "mine_sides"
  · intro g' L' h₁ tk sg sd so dp fr gs un A₀ base p loose mean mg mb B' T' X' Z' hU F' N' hl
    walk_at "mine_stop"
    refine' comp_expr (h₀ := g') (L := L') (cl := []) ?hclos ?hcell ?hkind ?hnames ?hx ?_
    walk_at "mine_comp"
    walk_at "mine_stop"
    refine comp_list (vs := infos.map fun i => Value.ref i.a) rfl ⟨_, (N' _ (.tail _ (.tail _ (.head _)))).1, rfl, _, rfl⟩ (Nat.le_trans (by rw [List.length_map]; omega) (by decide : (1000 : Nat) ≤ sizeLine)) F' N'
      (fun j ys led => led = mergeFoot w.params c ll tl nb infos nr ∧ j ≤ infos.length ∧ IntsAre ys ((glOf infos).take j)) ⟨rfl, Nat.zero_le _, .nil⟩ ?_ ?_ ?_ ?_
    · rintro j ys led h ⟨rfl, h1, h3⟩ F5 N5
      exact ⟨_, (N5 _ (.tail _ (.tail _ (.head _)))).1, rfl, _, rfl⟩
    · rintro j ys led ⟨rfl, h1, h3⟩
      rw [h3.length, List.length_take]; exact Nat.min_le_left _ _
    · rintro I C D0 j v ys led s₁ oI oC oD mC ⟨h5, tk5, rfl⟩ hjn hv ⟨rfl, h1, h3⟩ F5 N5 hd hn hx
      rw [List.getElem?_map] at hv
      obtain ⟨i, hi, rfl⟩ := Option.map_eq_some_iff.mp hv
      have hjl := (List.getElem?_eq_some_iff.mp hi).1
      have hgi : (glOf infos)[j]? = some i.glyph := by rw [List.getElem?_map, hi]; rfl
      refine comp_if0 ?_
      walk_at "mine_stop"
      exact (show CEnd _ _ _ _ _ _ _ _ _ _ _ _ from ⟨_, ⟨_, _, rfl⟩, by assumption, by assumption, hd, rfl, by omega, by rw [List.take_add_one, hgi]; exact h3.append (.cons _ _ .nil)⟩)
    · rintro D0 led ys s₁ k ⟨h5, tk5, rfl⟩ ⟨rfl, h1, h3⟩ N5 F5
      try dsimp only at N5 F5 ⊢
      rw [List.take_of_length_le (by simp)] at h3
      walk_at "mine_stop"
      exact (show OutM _ _ _ _ _ _ from ⟨_, _, by assumption, N5, ⟨_, _, rfl⟩, D0, ys, k, rfl, h3, rfl⟩)
  · rintro v h' tk led' F' N' c' ⟨D, vs, k, rfl, hi, rfl⟩
    exact hQ h' tk D vs k F' (News.cons (fun q hq => N' q (by rw [List.mem_singleton.mp hq]; exact .head _)) (News.after N hs (News.tail N') c')) hi
def lpMap (ra : Addr) (at_ : Nat) (t1 : Tok) (ga : Addr) (pass : Bool) (fl : Addr) (h : Nat) (th : Tok) (vg : Option Value) : Map := fun y => if y = Str.ofString "glyph" then vg else if y = Str.ofString "here" then some (.int ((h : Nat) : Int) th) else if y = Str.ofString "places" then some (.ref fl) else
  List.lookup y [(Str.ofString "row", .ref ra), (Str.ofString "at", .int ((at_ : Nat) : Int) t1), (Str.ofString "rest", .ref ga), (Str.ofString "is_passing", .bool pass)].reverse
abbrev lpL (ra : Addr) (at_ : Nat) (t1 : Tok) (ga : Addr) (pass : Bool) (fl : Addr) (h : Nat) (th : Tok) (vg : Option Value) : List (Str × Option Value) := [(Str.ofString "glyph", vg), (Str.ofString "here", some (.int ((h : Nat) : Int) th)), (Str.ofString "places", some (.ref fl))]
theorem ign_any (x : Int) : ign true x = ([3, 4].any fun y => y == x) := by
  unfold ign clsOf
  by_cases h3 : x = 3
  · subst h3; rfl
  by_cases h4 : x = 4
  · subst h4; rfl
  have e3 : ((3 : Int) == x) = false := by simp; omega
  have e4 : ((4 : Int) == x) = false := by simp; omega
  simp only [List.any_cons, List.any_nil, e3, e4, Bool.or_false, Bool.true_and, h3, h4, or_self, if_false]
  split <;> rfl
theorem lp_step {ra : Addr} {at_ : Nat} {t1 : Tok} {ga : Addr} {pass : Bool} {fl : Addr} {h k : Nat} {th tk : Tok} {vg vg' : Option Value} : (fun y => if y = Str.ofString "here" then some (Value.int ((k : Nat) : Int) tk) else if y = Str.ofString "glyph" then vg' else lpMap ra at_ t1 ga pass fl h th vg y) = lpMap ra at_ t1 ga pass fl k tk vg' :=
  mapB_eq (B := fun y => List.lookup (β := Value) y [(Str.ofString "row", Value.ref ra), (Str.ofString "at", Value.int ((at_ : Nat) : Int) t1), (Str.ofString "rest", Value.ref ga), (Str.ofString "is_passing", Value.bool pass)].reverse) (l := [(Str.ofString "here", some (Value.int ((k : Nat) : Int) tk)), (Str.ofString "glyph", vg')] ++ lpL ra at_ t1 ga pass fl h th vg) (l' := lpL ra at_ t1 ga pass fl k tk vg') (by walk_at "mapq") (by walk_at "mapq")
theorem lp_here {ra : Addr} {at_ : Nat} {t1 : Tok} {ga : Addr} {pass : Bool} {fl : Addr} {h k : Nat} {th tk : Tok} {vg : Option Value} : (fun y => if y = Str.ofString "here" then some (Value.int ((k : Nat) : Int) tk) else lpMap ra at_ t1 ga pass fl h th vg y) = lpMap ra at_ t1 ga pass fl k tk vg :=
  mapB_eq (B := fun y => List.lookup (β := Value) y [(Str.ofString "row", Value.ref ra), (Str.ofString "at", Value.int ((at_ : Nat) : Int) t1), (Str.ofString "rest", Value.ref ga), (Str.ofString "is_passing", Value.bool pass)].reverse) (l := [(Str.ofString "here", some (Value.int ((k : Nat) : Int) tk))] ++ lpL ra at_ t1 ga pass fl h th vg) (l' := lpL ra at_ t1 ga pass fl k tk vg) (by walk_at "mapq") (by walk_at "mapq")
abbrev lpFoot (ra rn : Nat) (rvs : List Value) (ga gn : Nat) (vs : List Value) : Led := [(ra, listOf rvs.toArray rn), (ga, tupOf vs gn)]
inductive LpI (fl : Addr) (ra : Addr) (rn : Nat) (rvs : List Value) (ga : Addr) (gn : Nat) (vs : List Value) (at_ : Nat) (gl : List Int) (pass : Bool) (rest : List Int) (t1 : Tok) (j : Nat) (m₁ : Map) (led₁ : Led) : Prop
  | mk (pvs kn ps cur th vg : _) (h1 : led₁ = (fl, listOf pvs.toArray kn) :: lpFoot ra rn rvs ga gn vs) (h2 : IntsAre pvs ((at_ :: ps).map Int.ofNat)) (h3 : (at_ :: ps).getLast? = some cur) (h4 : ps.length = j) (h5 : cur < gl.length) (h6 : plc pass gl at_ rest = (plc pass gl cur (rest.drop j)).map (ps ++ ·)) (h7 : j ≤ rest.length) (h8 : m₁ = lpMap ra at_ t1 ga pass fl cur th vg)
inductive LpE (cur : Nat) (gl : List Int) (pass : Bool) (s : Shared) (g' : Heap) (L' : Addr) (ra : Addr) (at_ : Nat) (t1 : Tok) (ga : Addr) (fl : Addr) (y : Int) (ty : Tok) (I : Addr) (o : Obj) (pvs : List Value) (kn : Nat) (rn : Nat) (rvs : List Value) (gn : Nat) (vs : List Value) (s' : Shared) : Prop
  | mk (k : Nat) (tk : Tok) (h1 : cur + 1 ≤ k) (h2 : k ≤ gl.length) (h3 : skip pass gl (cur + 1) = k) (h4 : Same s s') (h5 : Fr g' L' s'.heap (lpMap ra at_ t1 ga pass fl k tk (some (.int y ty)))) (h6 : News g' L' s'.heap ((I, o) :: (fl, listOf pvs.toArray kn) :: lpFoot ra rn rvs ga gn vs))
inductive LpW (I : Addr) (o : Obj) (fl : Addr) (pvs : List Value) (kn : Nat) (ra : Addr) (rn : Nat) (rvs : List Value) (ga : Addr) (gn : Nat) (vs : List Value) (cur : Nat) (gl : List Int) (pass : Bool) (at_ : Nat) (t1 : Tok) (y : Int) (ty : Tok) (r : Nat) (m₁ : Map) (led₁ : Led) : Prop
  | mk (h1 : led₁ = (I, o) :: (fl, listOf pvs.toArray kn) :: lpFoot ra rn rvs ga gn vs) (k : Nat) (tk : Tok) (h2 : cur + 1 ≤ k) (h3 : k ≤ gl.length) (h4 : r = gl.length - k) (h5 : skip pass gl (cur + 1) = skip pass gl k) (h6 : m₁ = lpMap ra at_ t1 ga pass fl k tk (some (.int y ty)))
inductive LpR (r : Option (List Nat)) (at_ : Nat) (L0 : Led) (v : Value) (led' : Led) : Prop
  | no (hv : v = .none) (h : r = none) (hl : led' = L0)
  | yes (ps : List Nat) (fl : Addr) (pvs : List Value) (kn : Nat) (hv : v = .ref fl) (h : r = some ps) (h2 : IntsAre pvs ((at_ :: ps).map Int.ofNat)) (hl : led' = (fl, listOf pvs.toArray kn) :: L0)
theorem law_places_spec {ra rn ga gn at_ : Nat} {rvs vs : List Value} {gl rest : List Int} {pass : Bool} {t1 : Tok} {Q : Value → Shared → Prop} (Z : At w A env L h₀ (n+1)) (F : Fr h₀ L s.heap m) (N : News h₀ L s.heap news) (hs : ∀ p ∈ lpFoot ra rn rvs ga gn vs, p ∈ news)
    (hr : IntsAre rvs gl) (hv : IntsAre vs rest) (hat : at_ < gl.length) (hlen : gl.length ≤ 80) (hrest : rest.length ≤ 50)
    (hQn : plc pass gl at_ rest = none → ∀ h' tk, Fr h₀ L h' m → News h₀ L h' news → Q .none { s with heap := h', toks := tk })
    (hQs : ∀ ps, plc pass gl at_ rest = some ps → ∀ h' tk fl pvs kn, Fr h₀ L h' m → News h₀ L h' ((fl, listOf pvs.toArray kn) :: news) → IntsAre pvs ((at_ :: ps).map Int.ofNat) → Q (.ref fl) { s with heap := h', toks := tk }) :
    wpAny (model prog w) A (call (.ref 642) [.ref ra, .int ((at_ : Nat) : Int) t1, .ref ga, .bool pass]) Q E s := by
  have X := Z.X
  refine' call_mut [(Str.ofString "row", .ref ra), (Str.ofString "at", .int ((at_ : Nat) : Int) t1), (Str.ofString "rest", .ref ga), (Str.ofString "is_passing", .bool pass)] (LpR (plc pass gl at_ rest) at_ (lpFoot ra rn rvs ga gn vs)) ?Z ?F (News.sub N hs) ?k6 ?k7 ?k9 ?kB ?_ ?c2 ?c3 ?c4 ?c5 ?kQ
  walk_at "mine_sides"
  · intro g' L' h₁ tk sg sd so dp fr gs un A₀ base p loose mean mg mb B' T' X' Z' hU F' N' hl
    have hrl := hr.length
    have hvl := hv.length
    walk_at "mine_stop"

    refine wpAny_execs_cons (for_own (h₀ := g') (L := L') ?_)
    walk_at "mine_stop"
    rename_i fl _ lf _ _ _ h2 F2 N2
    have hflr : ra ≠ fl := neL lf.1
    have hflg : ga ≠ fl := neL lf.2
    have hfl : ∀ p ∈ lpFoot ra rn rvs ga gn vs, p.1 ≠ fl := fun p hp => by
      simp only [List.mem_cons, List.not_mem_nil, or_false] at hp
      rcases hp with rfl | rfl
      · exact hflr
      · exact hflg
    refine for_tuple (vs := vs) rfl ⟨_, (N2 _ (.tail _ (.tail _ (.head _)))).1, rfl, _, rfl⟩ F2 N2
      (LpI fl ra rn rvs ga gn vs at_ gl pass rest t1)
      ?_ ?_ ⟨_, _, rfl⟩ ?_ ?_
    · exact ⟨[.int at_ t1], 0, [], at_, _, none, rfl, .cons _ _ .nil, rfl, rfl, hat, by simp, Nat.zero_le _, by unfold lpMap; exact map_new (x := Str.ofString "glyph") rfl (by decide)⟩
    · rintro j m₁ led₁ h ⟨pvs, kn, ps, cur, th, vg, rfl, _⟩ F5 N5
      exact ⟨_, (N5 _ (.tail _ (.tail _ (.head _)))).1, rfl, _, rfl⟩
    · rintro I j v m₁ led₁ s₁ o ⟨h5, tk5, rfl⟩ hj hvj ⟨pvs, kn, ps, cur, th, vg, rfl, hvs, hcur, hps, hcl, hpl, hjl, rfl⟩ F5 N5 hI
      clear F2 N2
      obtain ⟨y, ty, rfl, hyr⟩ := hv.at j v hvj
      have hjr : j < rest.length := (List.getElem?_eq_some_iff.mp hyr).1
      have hdr : rest.drop j = y :: rest.drop (j + 1) := by
        obtain ⟨h1, h2⟩ := List.getElem?_eq_some_iff.mp hyr
        rw [List.drop_eq_getElem_cons h1, h2]
      have hpvl : pvs.length ≤ 1000 := by rw [hvs.length]; simp; omega
      have hIf : fl ≠ I := hI (fl, listOf pvs.toArray kn) (.head _)
      have hIf' := neN hIf
      walk_at "mine_stop"
      rename_i F6 N6
      refine wpAny_execs_cons ?_
      refine wpAny_mono (while_own (Q := Exit (LpE cur gl pass ⟨h₁, sg, sd, tk, so⟩ g' L' ra at_ t1 ga fl y ty I o pvs kn rn rvs gn vs))
        (LpW I o fl pvs kn ra rn rvs ga gn vs cur gl pass at_ t1 y ty) (gl.length - (cur + 1)) F6 N6 ?_ ?_) ?_ fun _ _ e => e
      · exact ⟨rfl, cur + 1, _, Nat.le_refl _, by omega, rfl, rfl, lp_step (k := cur + 1)⟩
      · rintro r m₁ led₁ s₁ ⟨h6, tk6, rfl⟩ F7 N7 ⟨rfl, k, tk, hk1, hk2, rfl, hsk, rfl⟩
        clear F6 N6
        by_cases hlt : k < gl.length
        · have hgk : gl[((k : Nat) : Int).toNat]? = some gl[k] := by simp [hlt]
          generalize gl[k] = x at hgk
          have hgk' : gl[k]? = some x := by simpa using hgk
          cases pass with
          | false =>
            walk_at "mine_stop"
            exact Exit.mk' ⟨k, tk, hk1, hk2, hsk.trans (skip_stop hgk' rfl), ⟨_, _, rfl⟩, by assumption, by assumption⟩
          | true =>
            walk_at "mine_stop"
            · (with_reducible rename (List.any _ _ = true) => ha)
              try dsimp only
              exact (show WEnd _ _ _ _ _ _ from ⟨gl.length - (k + 1), _, _, by omega, ⟨_, _, rfl⟩, by assumption, News.sub (by assumption) (fun p hp => .tail _ hp), rfl, k + 1, _, by omega, by omega, rfl, hsk.trans (skip_go hgk' ((ign_any x).trans ha)), lp_here (k := k + 1)⟩)
            · have ha : ign true x = false := by
                (with_reducible rename (List.any _ _ = false) => ha)
                rw [ign_any]; exact ha
              exact Exit.mk' ⟨k, tk, hk1, hk2, hsk.trans (skip_stop hgk' ha), ⟨_, _, rfl⟩, by assumption, News.sub (by assumption) (fun p hp => .tail _ hp)⟩
        · walk_at "mine_stop"
          exact Exit.mk' ⟨k, tk, hk1, hk2, hsk.trans (skip_end (by omega)), ⟨_, _, rfl⟩, by assumption, by assumption⟩
      · rintro fll s₁ ⟨rfl, k, tk, hk1, hk2, hsk, ⟨h6, tk6, rfl⟩, F7, N7⟩
        clear F6 N6
        try dsimp only
        have hpy : plc pass gl cur (y :: rest.drop (j + 1)) = if gl[k]? = some y then (plc pass gl k (rest.drop (j + 1))).map (k :: ·) else none := by rw [plc, hsk]
        by_cases hlt : k < gl.length
        · have hgk : gl[((k : Nat) : Int).toNat]? = some gl[k] := by simp [hlt]
          generalize gl[k] = x at hgk
          have hgk' : gl[k]? = some x := by simpa using hgk
          walk_at "mine_stop"
          · (with_reducible rename (¬ x = y) => hne)
            try dsimp only
            exact (show OutM _ _ _ _ _ _ from ⟨_, _, by assumption, News.sub (by assumption) (fun p hp => .tail _ (.tail _ hp)), ⟨_, _, rfl⟩, .no rfl (by rw [hpl, hdr, hpy, hgk', if_neg (fun h => hne (Option.some.inj h))]; rfl) rfl⟩)
          · (with_reducible rename (x = y) => heq)
            try dsimp only
            have e1 : ∀ tk, IntsAre (pvs ++ [Value.int ((k : Nat) : Int) tk]) ((at_ :: (ps ++ [k])).map Int.ofNat) := by
              intro tk
              rw [← List.cons_append, List.map_append]
              exact hvs.append (.cons _ _ .nil)
            refine (show TurnEnd _ _ _ _ _ _ _ from ⟨_, _, ⟨_, _, rfl⟩, by assumption, by assumption, ?_, ?_⟩)
            · intro p hp
              revert p
              first | refine ac3 ?_ ?_ | refine ac2 ?_ ?_ | refine ac ?_ ?_
              · exact hIf
              intro p hp
              · exact hI p (.tail _ hp)
            · exact ⟨_, _, ps ++ [k], k, _, _, rfl, e1 _, by simp [List.getLast?_cons], by simp [hps], hlt, by rw [hpl, hdr, hpy, hgk', heq, if_pos rfl, Option.map_map]; congr 1; funext z; simp, by omega, rfl⟩
        · walk_at "mine_stop"
          try dsimp only
          exact (show OutM _ _ _ _ _ _ from ⟨_, _, by assumption, News.sub (by assumption) (fun p hp => .tail _ (.tail _ hp)), ⟨_, _, rfl⟩, .no rfl (by rw [hpl, hdr, hpy, List.getElem?_eq_none (by omega), if_neg (by simp)]; rfl) rfl⟩)
    · rintro m₁ led₁ s₁ ⟨h5, tk5, rfl⟩ ⟨pvs, kn, ps, cur, th, vg, rfl, hvs, hcur, hps, hcl, hpl, hjl, rfl⟩ F5 N5
      have hpl' : plc pass gl at_ rest = some ps := by
        rw [hpl, hvl, List.drop_length]; simp [plc]
      try dsimp only
      walk_at "mine_stop"
      try dsimp only
      exact (show OutM _ _ _ _ _ _ from ⟨_, _, by assumption, N5, ⟨_, _, rfl⟩, .yes ps fl pvs kn rfl hpl' hvs rfl⟩)
  · rintro v h' tk led' F' N' c' (⟨rfl, hp, rfl⟩ | ⟨ps, fl, pvs, kn, rfl, hp, hvs, rfl⟩)
    · exact hQn hp h' tk F' (News.after N hs N' c')
    · exact hQs ps hp h' tk fl pvs kn F' (News.cons (fun q hq => N' q (by rw [List.mem_singleton.mp hq]; exact .head _)) (News.after N hs (News.tail N') c')) hvs
local macro_rules | `(tactic| walk_at "mine_tabs") => `(tactic| (intro p hp; have hp' : List.Mem p _ := (by with_reducible assumption : ∀ p ∈ _, p ∈ List.flatMap Tab.led _) p hp; repeat' (first | (with_reducible exact hp') | refine' List.Mem.tail _ ?_)))
local macro_rules | `(tactic| walk_at "getMethod ref") => `(tactic| (k_here; (with_reducible show wpAny _ _ (getMethod (Value.ref _) (PySem.Str.ofString "get") _) _ _ _); k_dflt (refine kdg_method (knd := intKind _ _) (by k_asm) (by repeat' (first | (with_reducible assumption) | refine' List.Mem.tail _ ?_)) (Tab.ok.hdict (by assumption)) ?_)))
local macro_rules | `(tactic| walk_at "call builtin:dict.get") => `(tactic| (k_here; k_dflt (refine get_rows (t := _) (by k_asm) (by walk_at "mine_tabs") (by assumption) (by k_mem) ?_); intro _ _ _))
theorem len_L {l k : Nat} {vs : List Value} {Q : Value → Shared → Prop} (N : News h₀ L s.heap news) (hm : (l, listOf vs.toArray k) ∈ news) (hk : vs.length ≤ 1000) (h : ∀ t tk, Q (.int vs.length t) { s with toks := tk }) : wpAny (model prog w) A (call (.builtin "len") [.ref l]) Q E s := by
  refine Calls.call_len_list (items := vs.toArray) ⟨_, (N _ hm).1, rfl, _, rfl⟩ (by simp; omega) ?_
  have := h (s.toks + 1) (s.toks + 1 + 1)
  simpa using this
local macro_rules | `(tactic| walk_at "call builtin:len") => `(tactic| (k_here; k_dflt (first | (refine len_tup (by k_asm) (by k_mem) (by omega) ?_) | (refine len_L (by k_asm) (by k_mem) (by omega) ?_)); intro _ _))
theorem set_at {pre post : Led} {vs : List Value} {l nr : Nat} {k : Int} {t : Tok} {v : Value} {Q : Unit → Shared → Prop} (F : Fr h₀ L s.heap m) (N : News h₀ L s.heap (pre ++ (l, listOf vs.toArray nr) :: post)) (ha : ∀ p ∈ pre, p.1 ≠ l) (hb : ∀ p ∈ post, p.1 ≠ l) (h0 : 0 ≤ k) (hk : k.toNat < vs.length) (hfit : k < 2 ^ 63)
    (h : ∀ h', Fr h₀ L h' m → News h₀ L h' (pre ++ (l, listOf (vs.set k.toNat v).toArray nr) :: post) → Q () { s with heap := h' }) : wpAny (model prog w) A (setItem (.ref l) (.int k t) v) Q E s := by
  have z := N (l, listOf vs.toArray nr) (List.mem_append.mpr (.inr (.head _)))
  refine ki_setAt z.1 h0 hfit (by simp; omega) (h _ (F.change (Heap.SameBut.update ..) z.2.1 z.2.2) (ki_turn _ N ha hb ?_ ?_))
  · apply Array.toList_inj.mp
    simp
  · simp
theorem last_ints {ps : List Nat} {a : Nat} : ((a :: ps).map Int.ofNat).getLast? = some ((((a :: ps).getLast?.getD 0 : Nat)) : Int) := by
  rw [List.getLast?_map, List.getLast?_eq_some_getLast (by simp)]
  rfl
theorem dropAt_len {α : Type} {ps : List Nat} {p0 : Nat} {l : List α} (hp : ∀ p ∈ ps, p0 < p) (h0 : p0 < l.length) : p0 < (dropAt ps l).length := by
  have e : List.range l.length = List.range (p0 + 1) ++ (List.range (l.length - (p0 + 1))).map (p0 + 1 + ·) := by
    rw [← List.range_add]; congr 1; omega
  have hA : (List.range (p0 + 1)).filterMap (fun j => if j ∈ ps then none else l[j]?) = l.take (p0 + 1) := by
    rw [← filterMap_getElem? l (p0 + 1) (by omega)]
    apply fmc
    intro j hj
    have hj' := List.mem_range.mp hj
    rw [if_neg (fun h => by have := hp j h; omega)]
  unfold dropAt
  rw [e, List.filterMap_append, hA, List.length_append, List.length_take]
  omega
theorem ints_set {vs : List Value} {ns : List Int} {k : Nat} {x : Int} (h : IntsAre vs ns) (t : Tok) : IntsAre (vs.set k (.int x t)) (ns.set k x) := by
  induction h generalizing k with
  | nil => exact .nil
  | cons a b h ih =>
    cases k with
    | zero => exact .cons _ _ h
    | succ k => exact .cons _ _ ih
/-- the first of some lists of rows that gives something -/
def dueL (pass : Bool) (gl : List Int) (at_ : Nat) : List (List TRow) → Option (Int × List Int)
  | [] => none
  | rs :: ls => match rowsDue pass gl at_ rs with
    | some r => some r
    | none => dueL pass gl at_ ls
theorem tabsDue_dueL {pass : Bool} {gl : List Int} {at_ : Nat} {x : Int} : ∀ {ligs : List Lig}, tabsDue pass gl at_ x ligs = dueL pass gl at_ (ligs.map fun l => l.tab.rowsOf x)
  | [] => rfl
  | l :: ls => by
    rw [tabsDue, List.map_cons, dueL]
    cases rowsDue pass gl at_ (l.tab.rowsOf x) with
    | none => exact tabsDue_dueL
    | some r => rfl
abbrev ldFoot (tb nt : Nat) (tabs : List Tab) (ra rn : Nat) (rvs : List Value) : Led := (tb, listOf (tabs.map fun t => Value.ref t.d).toArray nt) :: (ra, listOf rvs.toArray rn) :: tabs.flatMap Tab.led
def ldB (at_ : Nat) (t1 : Tok) (tb : Addr) (pass : Bool) : Map := fun y => if y = Str.ofString "is_passing" then some (.bool pass) else if y = Str.ofString "tables" then some (.ref tb) else if y = Str.ofString "at" then some (.int ((at_ : Nat) : Int) t1) else none
def ldMap (at_ : Nat) (t1 : Tok) (tb : Addr) (pass : Bool) (vs vr vl : Option Value) : Map := fun y => if y = Str.ofString "ligature" then vl else if y = Str.ofString "rest" then vr else if y = Str.ofString "sets" then vs else ldB at_ t1 tb pass y
abbrev ldL (at_ : Nat) (t1 : Tok) (tb : Addr) (pass : Bool) (vs vr vl : Option Value) : List (Str × Option Value) := [(Str.ofString "ligature", vl), (Str.ofString "rest", vr), (Str.ofString "sets", vs)]
theorem ld_init {at_ : Nat} {t1 : Tok} {tb : Addr} {pass : Bool} : ldB at_ t1 tb pass = ldMap at_ t1 tb pass none none none :=
  mapB_eq (B := ldB at_ t1 tb pass) (l := []) (l' := ldL at_ t1 tb pass none none none) (by walk_at "mapq") (by walk_at "mapq")
theorem ld_sets {at_ : Nat} {t1 : Tok} {tb : Addr} {pass : Bool} {vs vs' vr vl : Option Value} : (fun y => if y = Str.ofString "sets" then vs' else ldMap at_ t1 tb pass vs vr vl y) = ldMap at_ t1 tb pass vs' vr vl :=
  mapB_eq (B := ldB at_ t1 tb pass) (l := [(Str.ofString "sets", vs')] ++ ldL at_ t1 tb pass vs vr vl) (l' := ldL at_ t1 tb pass vs' vr vl) (by walk_at "mapq") (by walk_at "mapq")
theorem ld_row {at_ : Nat} {t1 : Tok} {tb : Addr} {pass : Bool} {vs vr vl vr' vl' : Option Value} : (fun y => if y = Str.ofString "ligature" then vl' else if y = Str.ofString "rest" then vr' else ldMap at_ t1 tb pass vs vr vl y) = ldMap at_ t1 tb pass vs vr' vl' :=
  mapB_eq (B := ldB at_ t1 tb pass) (l := [(Str.ofString "ligature", vl'), (Str.ofString "rest", vr')] ++ ldL at_ t1 tb pass vs vr vl) (l' := ldL at_ t1 tb pass vs vr' vl') (by walk_at "mapq") (by walk_at "mapq")
inductive LdR (pass : Bool) (gl : List Int) (at_ : Nat) (tabs : List Tab) (x : Int) (tb : Addr) (nt : Nat) (ra : Addr) (rn : Nat) (rvs : List Value) (v : Value) (led' : Led) : Prop
  | mk (ix g T la lk lvs t : _) (h1 : (dueL pass gl at_ (tabs.map fun t => t.rowsOf x)).getD (-1, gl) = (ix, g)) (h2 : v = .ref T) (h3 : IntsAre lvs g) (h4 : led' = (T, tupOf [.int ix t, .ref la] 0) :: (la, listOf lvs.toArray lk) :: ldFoot tb nt tabs ra rn rvs)
inductive LdI (L' : Addr) (o2 : Obj) (tb : Addr) (nt : Nat) (tabs : List Tab) (ra : Addr) (rn : Nat) (rvs : List Value) (pass : Bool) (gl : List Int) (at_ : Nat) (x : Int) (t1 : Tok) (j : Nat) (m₁ : Map) (led₁ : Led) : Prop
  | mk (oP vp vs1 vr vl : _) (h1 : led₁ = (L' + 1 + 1, oP) :: (L' + 1, o2) :: ldFoot tb nt tabs ra rn rvs) (h2 : oP.data = .cell vp) (h3 : dueL pass gl at_ (tabs.map fun t => t.rowsOf x) = dueL pass gl at_ ((tabs.drop j).map fun t => t.rowsOf x)) (h4 : m₁ = ldMap at_ t1 tb pass vs1 vr vl)
inductive LdK (D : Addr) (I : Addr) (o : Obj) (L' : Addr) (o2 : Obj) (tb : Addr) (nt : Nat) (tabs : List Tab) (ra : Addr) (rn : Nat) (rvs : List Value) (pass : Bool) (gl : List Int) (at_ : Nat) (t : Tab) (x : Int) (t1 : Tok) (j : Nat) (m₁ : Map) (led₁ : Led) : Prop
  | mk (oP vp vs1 vr vl : _) (h1 : led₁ = (D, listOf ([] : List Value).toArray 0) :: (I, o) :: (L' + 1 + 1, oP) :: (L' + 1, o2) :: ldFoot tb nt tabs ra rn rvs) (h2 : oP.data = .cell vp) (h3 : rowsDue pass gl at_ (t.rowsOf x) = rowsDue pass gl at_ ((t.rowsOf x).drop j)) (h4 : m₁ = ldMap at_ t1 tb pass vs1 vr vl)
theorem law_due_spec {tb nt ra rn at_ : Nat} {tabs : List Tab} {rvs : List Value} {gl : List Int} {x : Int} {pass : Bool} {t1 : Tok} {Q : Value → Shared → Prop} (Z : At w A env L h₀ (n+2)) (F : Fr h₀ L s.heap m) (N : News h₀ L s.heap news) (hs : ∀ p ∈ ldFoot tb nt tabs ra rn rvs, p ∈ news)
    (hr : IntsAre rvs gl) (tok : ∀ t ∈ tabs, t.ok prog w) (hx : gl[((at_ : Nat) : Int).toNat]? = some x) (hlen : gl.length ≤ 80)
    (hQ : ∀ ix g, (dueL pass gl at_ (tabs.map fun t => t.rowsOf x)).getD (-1, gl) = (ix, g) → ∀ h' tk T la lk lvs t, Fr h₀ L h' m → News h₀ L h' ((T, tupOf [.int ix t, .ref la] 0) :: news) → News h₀ L h' [(la, listOf lvs.toArray lk)] → IntsAre lvs g → Q (.ref T) { s with heap := h', toks := tk }) :
    wpAny (model prog w) A (call (.ref 647) [.ref ra, .int ((at_ : Nat) : Int) t1, .ref tb, .bool pass]) Q E s := by
  have X := Z.X
  refine' call_mutC [(Str.ofString "row", .ref ra), (Str.ofString "at", .int ((at_ : Nat) : Int) t1), (Str.ofString "tables", .ref tb), (Str.ofString "is_passing", .bool pass)] (LdR pass gl at_ tabs x tb nt ra rn rvs) ?Z ?F (News.sub N hs) ?k6 ?k7 ?k9 ?kB ?kN ?_ ?c2 ?c3 ?c4 ?kQ
  (case Z => assumption); (case F => assumption); (case k6 => k_is); (case k7 => k_is); (case k9 => exact BindsTo.of_eq rfl); (case kB => exact rfl); (case kN => decide); (case c2 => exact rfl); (case c3 => exact rfl); (case c4 => exact rfl)
  · intro g' L' h₁ tk sg sd so cells dp fr gs' un A₀ base p loose mean mg mb B' T' X' Z' hU F' N' hc hl
    have hrl := hr.length
    have hat : at_ < gl.length := by have := (List.getElem?_eq_some_iff.mp hx).1; omega
    obtain ⟨o1, o2, rfl, ho1, ho2⟩ := CellsAre.two hc
    simp only [List.cons_append, List.nil_append] at N'
    have ho1' : o1.data = .cell none := ho1
    have ho2' : o2.data = .cell (some (.ref ra)) := ho2
    clear ho1 ho2 hc
    have F'' : Fr g' L' h₁ (ldB at_ t1 tb pass) := F'
    clear F'
    have hP : ∀ p ∈ (L' + 1, o2) :: ldFoot tb nt tabs ra rn rvs, p.1 ≠ L' + 1 + 1 := by
      intro p hp
      revert p
      first | refine ac3 ?_ ?_ | refine ac2 ?_ ?_ | refine ac ?_ ?_
      · exact neL (Nat.lt_succ_self _)
      intro p hp
      · exact neL (Nat.lt_trans (hl p hp) (Nat.lt_trans (Nat.lt_succ_self _) (Nat.lt_succ_self _)))
    refine wpAny_execs_cons (for_own (h₀ := g') (L := L') ?_)
    walk_at "mine_stop"
    refine for_list (vs := tabs.map fun t => Value.ref t.d) rfl ⟨_, (N' _ (.tail _ (.tail _ (.head _)))).1, rfl, _, rfl⟩ F'' N'
      (LdI L' o2 tb nt tabs ra rn rvs pass gl at_ x t1)
      ⟨o1, none, none, none, none, rfl, ho1', by rw [List.drop_zero], ld_init⟩ ?_ (.inl ⟨_, _, rfl⟩) ?_ ?_
    · rintro j m₁ led₁ h ⟨oP, vp, vs1, vr, vl, rfl, _⟩ F5 N5
      exact ⟨_, (N5 _ (.tail _ (.tail _ (.head _)))).1, rfl, _, rfl⟩
    · rintro I j v m₁ led₁ s₁ o ⟨h5, tk5, rfl⟩ hj ⟨oP, vp, vs1, vr, vl, rfl, hoP, hdue, rfl⟩ F5 N5 hI
      rw [List.getElem?_map] at hj
      obtain ⟨t, ht, rfl⟩ := Option.map_eq_some_iff.mp hj
      have htm := List.mem_of_getElem? ht
      have tokt := tok t htm
      have hdj : tabs.drop j = t :: tabs.drop (j + 1) := by
        obtain ⟨h1, h2⟩ := List.getElem?_eq_some_iff.mp ht
        rw [List.drop_eq_getElem_cons h1, h2]
      have htl : ∀ p ∈ t.led, p ∈ tabs.flatMap Tab.led := fun p hp => List.mem_flatMap.mpr ⟨t, htm, hp⟩
      have htd : List.Mem (t.d, t.om) (tabs.flatMap Tab.led) := htl _ (List.Mem.head _)
      walk_at "mine_stop"
      refine wpAny_execs_cons (for_own (h₀ := g') (L := L') ?_)
      walk_at "mine_stop"
      rename_i D h2 F2 N2 lD LA LN hLA
      have hLA' : ∀ oP2, (LA, listOf ((t.rowsOf x).map fun r => Value.ref r.a).toArray LN) ∈ (D, listOf ([] : List Value).toArray 0) :: (I, o) :: (L' + 1 + 1, oP2) :: (L' + 1, o2) :: ldFoot tb nt tabs ra rn rvs := by
        intro oP2
        rcases List.mem_cons.mp hLA with h | h
        · rw [h]; exact .head _
        rcases List.mem_cons.mp h with h | h
        · rw [h]; exact .tail _ (.head _)
        rcases List.mem_cons.mp h with h | h
        · have h1 := congrArg (fun p : Addr × Obj => p.2.data) h
          dsimp only at h1
          rw [hoP] at h1; cases h1
        · exact .tail _ (.tail _ (.tail _ h))
      have hDP : D ≠ L' + 1 + 1 := neG lD.2.1
      have hIP : I ≠ L' + 1 + 1 := (hI _ (.head _)).symm
      have hDP' := neN hDP
      have hIP' := neN hIP
      refine for_list (vs := (t.rowsOf x).map fun r => Value.ref r.a) rfl ⟨_, (N2 _ hLA).1, rfl, _, rfl⟩ F2 N2
        (LdK D I o L' o2 tb nt tabs ra rn rvs pass gl at_ t x t1)
        ⟨oP, vp, _, _, _, rfl, hoP, by rw [List.drop_zero], ld_sets⟩ ?_ (.inr ⟨_, _, _, rfl, ?_⟩) ?_ ?_
      · rintro j2 m₁ led₁ h ⟨oP2, vp2, vs2, vr2, vl2, rfl, _⟩ F6 N6
        exact ⟨_, (N6 _ (hLA' oP2)).1, rfl, _, rfl⟩
      · intro v hv
        obtain ⟨r, _, rfl⟩ := List.mem_map.mp hv
        exact ⟨_, rfl⟩
      · rintro I2 j2 v m₁ led₁ s₁ oo ⟨h6, tk6, rfl⟩ hj2 ⟨oP2, vp2, vs2, vr2, vl2, rfl, hoP2, hdue2, rfl⟩ F6 N6 hI2
        rw [List.getElem?_map] at hj2
        obtain ⟨r, hr2, rfl⟩ := Option.map_eq_some_iff.mp hj2
        have hrm := List.mem_of_getElem? hr2
        have hrl2 := row_led hrm
        obtain ⟨st, hst, hrs⟩ := rowsOf_mem hrm
        obtain ⟨hri, hrlen⟩ := tokt.hints st hst r hrs
        have hdj2 : (t.rowsOf x).drop j2 = r :: (t.rowsOf x).drop (j2 + 1) := by
          obtain ⟨h1, h2⟩ := List.getElem?_eq_some_iff.mp hr2
          rw [List.drop_eq_getElem_cons h1, h2]
        have up : ∀ p ∈ r.led, p ∈ (I2, oo) :: (D, listOf ([] : List Value).toArray 0) :: (I, o) :: (L' + 1 + 1, oP2) :: (L' + 1, o2) :: ldFoot tb nt tabs ra rn rvs := fun p hp => .tail _ (.tail _ (.tail _ (.tail _ (.tail _ (.tail _ (.tail _ (htl p (hrl2 p hp))))))))
        have N7 : News g' L' h6 ((r.a, tupOf [.ref r.ga, .int r.lig r.tl] r.n) :: (r.ga, tupOf r.vs r.gn) :: (I2, oo) :: (D, listOf ([] : List Value).toArray 0) :: (I, o) :: (L' + 1 + 1, oP2) :: (L' + 1, o2) :: ldFoot tb nt tabs ra rn rvs) :=
          fun p hp => by
            revert p
            first | refine ac3 ?_ ?_ | refine ac2 ?_ ?_ | refine ac ?_ ?_
            · exact N6 _ (up _ (.head _))
            refine ac ?_ ?_
            · exact N6 _ (up _ (.tail _ (.head _)))
            intro p hp
            · exact N6 p hp
        clear F2 N2
        clear N6
        have hbel : ∀ p ∈ r.led, p.1 ≠ L' + 1 + 1 := fun p hp => hP p (.tail _ (.tail _ (.tail _ (htl p (hrl2 p hp)))))
        have hraP : r.a ≠ L' + 1 + 1 := hbel _ (.head _)
        have hrgP : r.ga ≠ L' + 1 + 1 := hbel _ (.tail _ (.head _))
        have hI2P : I2 ≠ L' + 1 + 1 := (hI2 _ (.tail _ (.tail _ (.head _)))).symm
        have hI2g : ∀ oQ, ∀ p ∈ (D, listOf ([] : List Value).toArray 0) :: (I, o) :: (L' + 1 + 1, oQ) :: (L' + 1, o2) :: ldFoot tb nt tabs ra rn rvs, p.1 ≠ I2 := by
          intro oQ p hp
          revert p
          first | refine ac3 ?_ ?_ | refine ac2 ?_ ?_ | refine ac ?_ ?_
          · exact hI2 _ (.head _)
          refine ac ?_ ?_
          · exact hI2 _ (.tail _ (.head _))
          refine ac ?_ ?_
          · exact hI2 (L' + 1 + 1, oP2) (.tail _ (.tail _ (.head _)))
          intro p hp
          · exact hI2 p (.tail _ (.tail _ (.tail _ hp)))
        have hraP' := neN hraP
        have hrgP' := neN hrgP
        have hI2P' := neN hI2P
        walk_at "mine_stopJ"
        refine law_places_spec (rn := rn) (rvs := rvs) (gn := r.gn) (vs := r.vs) (gl := gl) (rest := r.rest) Z' (by assumption) (by assumption) (by
          intro p hp
          simp only [List.mem_cons, List.not_mem_nil, or_false] at hp
          rcases hp with rfl | rfl
          · exact .tail _ (.tail _ (.tail _ (.tail _ (.tail _ (.tail _ (.tail _ (.tail _ (.head _))))))))
          · exact .tail _ (.head _)) hr hri hat hlen hrlen ?_ ?_
        · intro hpn h8 tk8 F8 N8
          walk_at "mine_stopJ"
          try dsimp only
          exact (show TurnEnd _ _ _ _ _ _ _ from ⟨_, _, ⟨_, _, rfl⟩, by assumption, News.sub (by assumption) (fun p hp => .tail _ (.tail _ hp)), hI2g _, _, _, _, _, _, rfl, by assumption, by rw [hdue2, hdj2]; simp only [rowsDue, hpn], ld_row⟩)
        · intro ps hps h8 tk8 fl pvs kn F8 N8 hpv
          have hflP : fl ≠ L' + 1 + 1 := ne_of_objs N8 (.head _) (b := L' + 1 + 1) (o' := oP2) (.tail _ (.tail _ (.tail _ (.tail _ (.tail _ (.tail _ (.head _))))))) (by intro h; have := congrArg Obj.data h; rw [hoP2] at this; cases this)
          have hflP' := neN hflP
          walk_at "mine_stopJ"
          rename_i h9 oP3 F9 N9 hoP3 _ _
          refine' comp_assign (h₀ := g') (L := L') (cl := [(Str.ofString "row", L' + 1), (Str.ofString "places", L' + 1 + 1)]) ?hsw ?hclos ?hcell ?hkind ?hnames ?hx ?hL ?hy ?hp ?_
          (case hsw => with_unfolding_all rfl)
          (case hL => rfl)
          (case hy => rfl)
          (case hp => rfl)
          walk_at "mine_comp"
          walk_at "mine_stopJ"
          rename_i h10 tk10 ta1 ta2 ta3 hR F10 N10 hk10
          generalize hled : (fl, listOf pvs.toArray kn) :: (r.a, tupOf [.ref r.ga, .int r.lig r.tl] r.n) :: (r.ga, tupOf r.vs r.gn) :: (I2, oo) :: (D, listOf ([] : List Value).toArray 0) :: (I, o) :: (L' + 1 + 1, oP3) :: (L' + 1, o2) :: ldFoot tb nt tabs ra rn rvs = led0 at N10
          revert led0
          refine keepP ?_
          set_option tactic.hygienic false in intros
          refine comp_range gl.length rfl hR (by decide) (by decide) (by omega) (by omega) (by omega) (Nat.le_trans (by omega) (by decide : (1000 : Nat) ≤ sizeLine)) F10 N10
            (fun i ys led => led = led0 ∧ IntsAre ys ((List.range i).filterMap fun j => if j ∈ ps then none else gl[j]?)) ⟨rfl, .nil⟩ ?_ ?_ ?_
          · rintro i ys led ⟨rfl, h3⟩
            rw [h3.length]
            exact Nat.le_trans (List.length_filterMap_le _ _) (by simp)
          · rintro I3 C3 D3 j3 v ys led s₁ oI oC oD mC ⟨h11, tk11, rfl⟩ hjn ⟨tv, rfl⟩ ⟨rfl, h3⟩ F11 N11 hd hn hx3
            have hgx : gl[((0 : Int) + (j3 : Int)).toNat]? = some gl[j3] := by simp [hjn]
            generalize gl[j3] = x3 at hgx
            have hpvl : pvs.length = ps.length + 1 := by rw [hpv.length]; simp
            have hpsl := (plc_facts hps).1
            have hpd : IntsAre (pvs.drop (Int.toNat 1)) (ps.map Int.ofNat) := by
              have := hpv.drop 1
              simpa using this
            subst hled
            refine comp_if1 ?_
            have hgx' : gl[j3]? = some x3 := by rwa [show ((0 : Int) + (j3 : Int)).toNat = j3 from by omega] at hgx
            have hany := any_ofNat (ps := ps) (q := j3) (x := (0 : Int) + (j3 : Int)) (by omega)
            walk_at "mine_stopJ"
            · have hin : j3 ∈ ps := by
                first | assumption | exact of_decide_eq_true (by assumption)
              exact (show CEnd _ _ _ _ _ _ _ _ _ _ _ _ from ⟨_, ⟨_, _, rfl⟩, by assumption, News.sub (by assumption) (fun p hp => .tail _ hp), hd, rfl, by rw [List.range_succ, List.filterMap_append, List.filterMap_cons, if_pos hin]; simpa using h3⟩)
            · have hin : j3 ∉ ps := by
                first | assumption | exact of_decide_eq_false (by assumption)
              exact (show CEnd _ _ _ _ _ _ _ _ _ _ _ _ from ⟨_, ⟨_, _, rfl⟩, by assumption, News.sub (by assumption) (fun p hp => .tail _ hp), hd, rfl, by rw [List.range_succ, List.filterMap_append, List.filterMap_cons, if_neg hin, hgx']; exact h3.append (.cons _ _ .nil)⟩)
          · rintro D0 led ys s₁ k ⟨h12, tk12, rfl⟩ ⟨rfl, h3⟩ N12 hfresh F12
            subst hled
            have hpp := plc_facts hps
            have hdl : IntsAre ys (dropAt ps gl) := h3
            have hlast := last_ints (ps := ps) (a := at_)
            have hgt : ∀ p ∈ ps, at_ < p := (List.pairwise_cons.mp hpp.2.1).1
            have hpvl : pvs.length = ps.length + 1 := by rw [hpv.length]; simp
            have hpsl := hpp.1
            try dsimp only
            walk_at "mine_stopJ"
            dsimp only at F12 N12
            have hyl := hdl.length
            have hdln := dropAt_len hgt hat
            refine set_at (pre := []) (vs := ys) (nr := k) F12 N12 (by simp) (fun p hp => hfresh p hp) (by omega) (by omega) (by omega) fun h14 F14 N14 => ?_
            dsimp only [List.nil_append] at N14
            clear F12 N12
            have hrvl := hri.length
            walk_at "mine_stopJ"
            try dsimp only
            have hset : IntsAre (ys.set ((at_ : Nat) : Int).toNat (.int r.lig r.tl)) (dropAt ps (gl.set at_ r.lig)) := by
              rw [dropAt_set hgt hat, Int.toNat_natCast]
              exact ints_set hdl _
            have hdu : (dueL pass gl at_ (tabs.map fun t => t.rowsOf x)).getD (-1, gl) = (((((at_ :: ps).getLast?.getD 0 : Nat) : Int) + 1 - (r.vs.length : Nat)), dropAt ps (gl.set at_ r.lig)) := by
              rw [hrvl, hdue, hdj]
              simp only [List.map_cons, dueL, hdue2, hdj2, rowsDue, hps, Option.getD_some]
            exact (show OutM _ _ _ _ _ _ from ⟨_, _, by assumption, News.sub (by assumption) (fun p hp => by
              revert p
              first | refine ac3 ?_ ?_ | refine ac2 ?_ ?_ | refine ac ?_ ?_
              · exact .head _
              refine ac ?_ ?_
              · exact .tail _ (.head _)
              intro p hp
              · exact .tail _ (.tail _ (.tail _ (.tail _ (.tail _ (.tail _ (.tail _ (.tail _ (.tail _ (.tail _ hp)))))))))), ⟨_, _, rfl⟩, _, _, _, D0, k, _, _, hdu, rfl, hset, rfl⟩)
      · rintro m₁ led₁ s₁ ⟨h6, tk6, rfl⟩ ⟨oP2, vp2, vs2, vr2, vl2, rfl, hoP2, hdue2, rfl⟩ F6 N6
        clear F2 N2
        try dsimp only
        walk_at "mine_stopJ"
        try dsimp only
        have hrn0 : rowsDue pass gl at_ (t.rowsOf x) = none := by rw [hdue2, List.length_map, List.drop_length]; rfl
        exact (show TurnEnd _ _ _ _ _ _ _ from ⟨_, _, ⟨_, _, rfl⟩, F6, News.tail N6, (fun p hp => by
          revert p
          first | refine ac3 ?_ ?_ | refine ac2 ?_ ?_ | refine ac ?_ ?_
          · exact hI (L' + 1 + 1, oP) (.head _)
          intro p hp
          · exact hI p (.tail _ hp)), oP2, vp2, _, _, _, rfl, hoP2, by rw [hdue, hdj]; simp only [List.map_cons, dueL, hrn0], rfl⟩)
    · rintro m₁ led₁ s₁ ⟨h5, tk5, rfl⟩ ⟨oP, vp, vs1, vr, vl, rfl, hoP, hdue, rfl⟩ F5 N5
      try dsimp only
      have hd0 : (dueL pass gl at_ (tabs.map fun t => t.rowsOf x)).getD (-1, gl) = (-1, gl) := by rw [hdue, List.length_map, List.drop_length]; rfl
      walk_at "mine_stop"
      try dsimp only
      exact (show OutM _ _ _ _ _ _ from ⟨_, _, by assumption, News.sub (by assumption) (fun p hp => by
        revert p
        first | refine ac3 ?_ ?_ | refine ac2 ?_ ?_ | refine ac ?_ ?_
        · exact .head _
        refine ac ?_ ?_
        · exact .tail _ (.tail _ (.tail _ (.tail _ (.head _))))
        intro p hp
        · exact .tail _ (.tail _ (.tail _ hp))), ⟨_, _, rfl⟩, -1, gl, _, ra, rn, rvs, _, hd0, rfl, hr, rfl⟩)
  · rintro v h' tk led' F' N' c' ⟨ix, g, T, la, lk, lvs, t, hd, rfl, hi, rfl⟩
    exact hQ ix g hd h' tk T la lk lvs t F' (News.cons (fun q hq => N' q (by rw [List.mem_singleton.mp hq]; exact .head _)) (News.after N hs (News.tail (News.tail N')) c')) (fun q hq => N' q (by rw [List.mem_singleton.mp hq]; exact .tail _ (.head _))) hi
local macro_rules | `(tactic| walk_at "st_def") => `(tactic| (fail_if_success (with_reducible show wpAny _ _ (execs (Stmt.FunctionDef _ _ _ _ _ _ _ _ _ _ :: _) _) _ _ _)))
local macro_rules | `(tactic| walk_at "mine_stopF") => `(tactic| ((try k_fold); repeat' (walk_at "st_item"; walk_at "st_if"; walk_at "st_def"; walk_at "st_gen"; walk_at "st_ass"; walk_at "st_one")))
theorem chg_less {lp : Addr} {o1 o2 : Obj} {r : Led} {h h' : Heap} (N : News h₀ L h ((lp, o1) :: r)) (N' : News h₀ L h' ((lp, o2) :: r)) (c : Chg (((lp, o1) :: r).map (·.1)) h h') : Chg [lp] h h' := by
  intro b o e hb
  by_cases hm : b ∈ ((lp, o1) :: r).map (·.1)
  · obtain ⟨q, hq, rfl⟩ := List.mem_map.mp hm
    have h1 := (N q hq).1
    rw [e] at h1
    cases h1
    rcases List.mem_cons.mp hq with rfl | hq
    · exact absurd (List.mem_singleton.mpr rfl) hb
    · exact (N' q (.tail _ hq)).1
  · exact c b o e hm
theorem noPyl {n : Nat} (hn : n ≤ 400) (a : Int) : Builtin.divisionGoesByPylong a ((720720 : Int) ^ n) = false := by
  refine PyProof.noPylong_of_log2 ?_
  have e : ((720720 : Int) ^ n).natAbs = 720720 ^ n := by rw [Int.natAbs_pow]; rfl
  rw [e]
  have h0 : (720720 : Nat) ^ n ≠ 0 := Nat.ne_of_gt (Nat.pow_pos (by decide))
  refine (Nat.log2_lt h0).mpr ?_
  have h1 : (720720 : Nat) ^ n ≤ (2 ^ 20) ^ n := Nat.pow_le_pow_left (by decide) n
  rw [← Nat.pow_mul] at h1
  have h2 : (2 : Nat) ^ (20 * n) < 2 ^ 9000 := Nat.pow_lt_pow_right (by decide) (by omega)
  exact Nat.lt_of_le_of_lt h1 h2
theorem pow_ne (n : Nat) : (720720 : Int) ^ n ≠ 0 := Int.pow_ne_zero (by decide)
local macro_rules | `(tactic| walk_at "binaryOp Pow int int") => `(tactic| (refine pow_int_small (by assumption) (by assumption) (by decide) ?_))
local macro_rules | `(tactic| walk_at "binaryOp FloorDiv int int") => `(tactic| (refine floordiv_int (pow_ne _) ?_ (Or.inl (noPyl (by assumption) _))))
def tkB (sc : Addr) : Map := fun y => if y = Str.ofString "script" then some (.ref sc) else none
/-- the objects that take stands on -/
structure Tk where
  f : Addr
  c : Addr
  c1 : Addr
  c2 : Addr
  lc : Addr
  lp : Addr
  fo : Obj
  oc : Obj
  o1 : Obj
  o2 : Obj
  vs : List Value
  nc : Nat
abbrev Tk.fix (T : Tk) : Led := [(T.f, T.fo), (T.c, T.oc), (T.c1, T.o1), (T.c2, T.o2), (T.lc, listOf T.vs.toArray T.nc)]
abbrev Tk.led (T : Tk) (k : Int) (t : Tok) : Led := (T.lp, listOf [Value.int k t].toArray 0) :: T.fix
/-- how take behaves -/
def TakeOk (prog : Program) (w : World) (T : Tk) : Prop :=
  (∀ p ∈ T.fix, p.1 ≠ T.lp) ∧ (∃ oc od fd sl, T.fo = (⟨oc, od, .func fd, sl⟩ : Obj)) ∧
  ∀ {A : Around} {E : Value → Shared → Prop} {s : Shared} {h₀ : Heap} {L : Addr} {m : Map} {env : Env} {n : Nat} {Q : Value → Shared → Prop} (k lim : Int) (t tl : Tok), At w A env L h₀ (n + 1) → Fr h₀ L s.heap m → News h₀ L s.heap (T.led k t) → 0 ≤ k → k ≤ 400 → 1 ≤ lim → lim ≤ 8 →
    (∀ v tv t' h' tk, 0 ≤ v → v < lim → Fr h₀ L h' m → News h₀ L h' (T.led (k + 1) t') → Chg [T.lp] s.heap h' → Q (.int v tv) { s with heap := h', toks := tk }) →
    wpAny (model prog w) A (call (.ref T.f) [.int lim tl]) Q E s

inductive TkR (prog : Program) (w : World) (s : Shared) (v : Value) (led' : Led) : Prop
  | mk (T t ps' : _) (h1 : v = .ref T.f) (h2 : TakeOk prog w T) (h3 : (∀ p ∈ T.led 0 t, s.heap.objs.size < p.1)) (h4 : led' = T.led 0 t ++ [(625, tabObj ps')])
inductive TkE (s : Shared) (g' : Heap) (L' : Addr) (sc : Addr) (o1 : Obj) (s' : Shared) : Prop
  | mk (D ws ns' kD oc : _) (h1 : Same s s') (h2 : Fr g' L' s'.heap (tkB sc)) (h3 : News g' L' s'.heap [(D, listOf ws.toArray kD), (L' + 1 + 1, o1), (L' + 1, oc), (625, tabObj #[])]) (h4 : IntsAre ws ns') (h5 : ns' ≠ []) (h6 : ns'.length ≤ 63) (h7 : oc.data = .cell (some (.ref D))) (h8 : L' < D)
inductive TkN (lim : Int) (lp : Addr) (k : Int) (ft : Led) (v : Value) (led' : Led) : Prop
  | mk (x tv t' : _) (h1 : v = .int x tv) (h2 : 0 ≤ x) (h3 : x < lim) (h4 : led' = (lp, listOf [Value.int (k + 1) t'].toArray 0) :: ft)
theorem taker_spec {sc : Nat} {vs : List Value} {ns : List Int} {Q : Value → Shared → Prop} (Z : At w A env L h₀ (n+2)) (F : Fr h₀ L s.heap m) (N : News h₀ L s.heap news) (hs1 : h₀.IsList sc vs.toArray) (hs2 : (625, tabObj #[]) ∈ news)
    (hv : IntsAre vs ns) (hlen : ns.length ≤ 63)
    (hQ : ∀ h' tk T t ps', Fr h₀ L h' m → News h₀ L h' (T.led 0 t ++ [(625, tabObj ps')]) → TakeOk prog w T → Chg [625] s.heap h' → (∀ p ∈ T.led 0 t, s.heap.objs.size < p.1) → Q (.ref T.f) { s with heap := h', toks := tk }) :
    wpAny (model prog w) A (call (.ref 630) [.ref sc]) Q E s := by
  have X := Z.X
  refine' call_mutL [(Str.ofString "script", .ref sc)] (TkR prog w s) ?Z ?F (foot := [(625, tabObj #[])]) (News.sub N ?hs) ?k6 ?k7 ?k9 ?kB ?kN ?_ ?c2 ?c3 ?c4 ?kQ
  (case Z => assumption); (case F => assumption); (case k6 => k_is); (case k7 => k_is); (case k9 => exact BindsTo.of_eq rfl); (case kB => exact rfl); (case kN => decide); (case c2 => exact rfl); (case c3 => exact rfl); (case c4 => exact rfl)
  (case hs =>
    intro p hp
    simp only [List.mem_cons, List.not_mem_nil, or_false] at hp
    rw [hp]; exact hs2)
  · intro g' L' h₁ tk sg sd so cells dp fr gs' un A₀ base p loose mean mg mb hszz hst B' T' X' Z' hU F' N' hc hl
    have hsl : g'.IsList sc vs.toArray := hs1.at fun o e => hst _ _ e
    have hvl := hv.length
    obtain ⟨o1, o2, rfl, ho1, ho2⟩ := CellsAre.two hc
    simp only [List.cons_append, List.nil_append] at N'
    have ho1' : o1.data = .cell none := ho1
    have ho2' : o2.data = .cell none := ho2
    clear ho1 ho2 hc
    have C' : CodeHd g' 629 625 := codeHd_of_K X' (by kernel_rfl)
    have F'' : Fr g' L' h₁ (tkB sc) := F'
    clear F'
    walk_at "mine_stopF"
    rename_i D ws h2 F2 N2 hiw hcw hLw lD h3 oc3 F3 N3 hoc3
    dsimp only [List.cons_append, List.nil_append] at N3 ⊢
    clear F2 N2
    have hwl := hiw.length
    have n1 := neN (neG lD.2.1)
    have n2 := neN (neG (show L' + 1 < L' + 1 + 1 from Nat.lt_succ_self _))
    have n3 := neN (neL (show 625 < L' + 1 from Nat.lt_succ_of_lt (hl _ (.head _))))
    refine wpAny_execs_cons (wpAny_mono (Q := Exit (TkE ⟨h₁, sg, sd, tk, so⟩ g' L' sc o1)) ?_ ?_ fun _ _ e => e)
    · walk_at "mine_stopF"
      · rename_i hd9 h9 o9 F9 N9 ho9
        try dsimp only [List.cons_append, List.nil_append] at N9
        exact Exit.mk' ⟨_, [.int 1 _], [1], _, o9, ⟨_, _, rfl⟩, F9, News.sub N9 (fun p hp => by
          rcases List.mem_cons.mp hp with rfl | hp
          · exact .head _
          · exact .tail _ (.tail _ (.tail _ hp))), .cons 1 _ .nil, by simp, by simp, ho9, Nat.lt_trans (Nat.lt_succ_self _) hd9.2.2.2.1⟩
      · exact Exit.mk' ⟨D, ws, _, _, oc3, ⟨_, _, rfl⟩, by assumption, News.sub (by assumption) (fun p hp => .tail _ hp), hiw, of_decide_eq_false (by assumption), by omega, hoc3, Nat.lt_trans (Nat.lt_succ_self _) lD.2.1⟩
    · rintro fl s₁ ⟨rfl, D4, ws4, ns4, kD, oc4, ⟨h4, tk4, rfl⟩, F4, N4, hi4, hne4, hl4, ho4, hLD4⟩
      try dsimp only
      clear N3 F3
      walk_at "mine_stopF"
      rename_i lp h5 F5 N5 l5 h6 oc6 F6 N6 ho6
      dsimp only [List.cons_append, List.nil_append] at N6
      clear N5 F5
      have q1 : lp ≠ 625 := ne_of_objs N6 (.head _) (.tail _ (.tail _ (.tail _ (.tail _ (.head _))))) (by intro h; cases h)
      have q2 : D4 ≠ 625 := ne_of_objs N6 (.tail _ (.head _)) (.tail _ (.tail _ (.tail _ (.tail _ (.head _))))) (by intro h; cases h)
      have q4 : L' + 1 + 1 ≠ 625 := ne_of_objs N6 (.tail _ (.tail _ (.head _))) (.tail _ (.tail _ (.tail _ (.tail _ (.head _))))) (by intro h; have := congrArg Obj.data h; rw [ho6] at this; cases this)
      have q5 : L' + 1 ≠ 625 := ne_of_objs N6 (.tail _ (.tail _ (.tail _ (.head _)))) (.tail _ (.tail _ (.tail _ (.tail _ (.head _))))) (by intro h; have := congrArg Obj.data h; rw [ho4] at this; cases this)
      refine wpAny_execs_cons ?_
      refine nestDef_K rfl rfl rfl ?_
      refine nest_K (ps := #[]) F6 N6 T' C' rfl (UpdF.tail q1 (UpdF.tail q2 (UpdF.tail q4 (UpdF.tail q5 (UpdF.head (by simp)))))) (by kn_triples) (by kn_among) rfl ?_
      intro f c' oc cvs tcv ctv doc h7 tk7 F7 N7 hcd7 hcv7 l71 l72
      dsimp only at N7
      clear F6 N6
      have hex := (⟨_, _, rfl, N7⟩ : ∃ fo ps', fo = _ ∧ News g' L' h7 ((f, fo) :: (c', oc) :: (lp, _) :: (D4, _) :: (L' + 1 + 1, _) :: (L' + 1, _) :: (625, tabObj ps') :: _))
      clear N7
      obtain ⟨fo, ps', hfo, N7⟩ := hex
      have hlc : lp < c' := l71 _ (.head _)
      have hlp : f ≠ lp ∧ c' ≠ lp ∧ L' + 1 ≠ lp ∧ L' + 1 + 1 ≠ lp ∧ D4 ≠ lp := ⟨neG (Nat.lt_trans hlc l72), neG hlc, neL l5.2.2.1, neL l5.2.1, neL l5.1⟩
      walk_at "mine_stopF"
      try dsimp only
      refine (show OutM _ _ _ _ _ _ from ⟨_, _, by assumption, News.sub (by assumption) ?_, ⟨_, _, rfl⟩, ⟨f, c', L' + 1, L' + 1 + 1, D4, lp, fo, oc, oc4, oc6, ws4, kD⟩, tk4, ps', rfl, ?_, ?_, rfl⟩)
      · intro p hp
        simp only [Tk.led, Tk.fix, List.cons_append, List.nil_append, List.mem_cons, List.not_mem_nil, or_false] at hp
        rcases hp with rfl | rfl | rfl | rfl | rfl | rfl | rfl
        · exact .tail _ (.tail _ (.head _))
        · exact .head _
        · exact .tail _ (.head _)
        · exact .tail _ (.tail _ (.tail _ (.tail _ (.tail _ (.head _)))))
        · exact .tail _ (.tail _ (.tail _ (.tail _ (.head _))))
        · exact .tail _ (.tail _ (.tail _ (.head _)))
        · exact .tail _ (.tail _ (.tail _ (.tail _ (.tail _ (.tail _ (.head _))))))
      · refine ⟨?_, ⟨_, _, _, _, hfo⟩, ?_⟩
        · intro p hp
          simp only [List.mem_cons, List.not_mem_nil, or_false] at hp
          rcases hp with rfl | rfl | rfl | rfl | rfl
          · exact hlp.1
          · exact hlp.2.1
          · exact hlp.2.2.1
          · exact hlp.2.2.2.1
          · exact hlp.2.2.2.2
        · clear Z F N hs1 hs2 hv hlen hQ X B' T' X' Z' hU hl
          intro A E s h₀ L m env n Q k lim t tl Z F N hk0 hk1 hl0 hl1 hQ
          have X := Z.X
          obtain ⟨ft, hft⟩ : ∃ ft : Led, ft = [(f, fo), (c', oc), (L' + 1, oc4), (L' + 1 + 1, oc6), (D4, listOf ws4.toArray kD)] := ⟨_, rfl⟩
          have ho2 : ∀ X, fo = X → (f, X) ∈ (lp, listOf [Value.int k t].toArray 0) :: [(f, fo), (c', oc), (L' + 1, oc4), (L' + 1 + 1, oc6), (D4, listOf ws4.toArray kD)] := fun X h => h ▸ .tail _ (.head _)
          refine' call_clos [(Str.ofString "limit", .int lim tl)] (TkN lim lp k ft) ?Z2 ?F2 (foot := (lp, listOf [Value.int k t].toArray 0) :: [(f, fo), (c', oc), (L' + 1, oc4), (L' + 1 + 1, oc6), (D4, listOf ws4.toArray kD)]) N (ho2 _ hfo) (.tail _ (.tail _ (.head _))) hcd7 hcv7 ?k92 ?kB2 ?_ ?c22 ?c32 ?c42 ?c52 ?kQ2
          (case Z2 => assumption); (case F2 => assumption); (case k92 => exact BindsTo.of_eq rfl); (case kB2 => exact locs rfl); (case c22 => exact rfl); (case c32 => exact rfl); (case c42 => exact rfl); (case c52 => decide)
          · intro g2 L2 h9 tk9 dp fr gs' un A₀ base p loose mean mg mb B' T' X' Z' hU F9 N9 hl
            try dsimp only at N9
            have hl6 := hi4.length
            have hik : IntsAre [Value.int k t] [k] := .cons _ _ .nil
            have hx0 : [k][(0 : Int).toNat]? = some k := rfl
            have hnp : 0 < ns4.length := List.length_pos_iff.mpr hne4
            have hnz : (ns4.length : Int) ≠ 0 := by omega
            have hv0 : 0 ≤ k.fdiv ns4.length := Int.fdiv_nonneg hk0 (by omega)
            have hv2 : k.fdiv ns4.length ≤ k := by
              rw [Int.fdiv_eq_ediv_of_nonneg _ (by omega)]
              exact Int.ediv_le_self _ hk0
            have hv1 : k.fdiv ns4.length ≤ 1000000 := by omega
            have hv3 : (k.fdiv ns4.length).toNat ≤ 400 := by omega
            rw [← hl6] at hnp hnz hv0 hv1 hv2 hv3
            clear ho2 hfo
            walk_at "mine_stopF"
            rename_i h10 F10 N10
            refine set_at (pre := []) (vs := [Value.int k t]) (nr := 0) F10 N10 (by simp) (fun p hp => ?_) (by decide) (by show 0 < 1; decide) (by decide) fun h11 F11 N11 => ?_
            · simp only [List.mem_cons, List.not_mem_nil, or_false] at hp
              rcases hp with rfl | rfl | rfl | rfl | rfl
              · exact hlp.1
              · exact hlp.2.1
              · exact hlp.2.2.1
              · exact hlp.2.2.2.1
              · exact hlp.2.2.2.2
            clear F10 N10
            obtain ⟨tn, N12⟩ : ∃ tn, News g2 L2 h11 ((lp, listOf [Value.int (k + 1) tn].toArray 0) :: [(f, fo), (c', oc), (L' + 1, oc4), (L' + 1 + 1, oc6), (D4, listOf ws4.toArray kD)]) := ⟨_, N11⟩
            clear N11
            walk_at "mine_stopF"
            have hlim : 0 < lim := by omega
            exact (show OutM _ _ _ _ _ _ from ⟨_, _, by assumption, by rw [hft]; assumption, ⟨_, _, rfl⟩, _, _, tn, rfl, Int.fmod_nonneg_of_pos _ hlim, Int.fmod_lt_of_pos _ hlim, rfl⟩)
          · rintro v h' tk led' F' N' c' ⟨x, tv, t', rfl, hx0, hx1, rfl⟩
            subst hft
            exact hQ x tv t' h' tk hx0 hx1 F' N' (chg_less N N' c')
      · have hLlp : L' < lp := Nat.lt_trans hLD4 l5.1
        intro p hp
        rw [hszz]
        simp only [List.mem_cons, List.not_mem_nil, or_false] at hp
        rcases hp with rfl | rfl | rfl | rfl | rfl | rfl
        · exact hLlp
        · exact Nat.lt_trans (Nat.lt_trans hLlp hlc) l72
        · exact Nat.lt_trans hLlp hlc
        · exact Nat.lt_succ_self _
        · exact Nat.lt_succ_of_lt (Nat.lt_succ_self _)
        · exact hLD4
  · rintro v h' tk led' F' N' c ⟨T, t, ps', rfl, ok, hlow, rfl⟩
    exact hQ h' tk T t ps' F' N' ok c hlow

theorem fnAt_take {T : Tk} {h : Heap} (ok : TakeOk prog w T) (N : News h₀ L h news) (hm : (T.f, T.fo) ∈ news) : FnAt T.f h := by
  obtain ⟨oc, od, fd, sl, e⟩ := ok.2.1
  exact ⟨oc, od, fd, sl, e ▸ (N _ hm).1⟩
theorem take_call {T : Tk} {k lim : Int} {t tl : Tok} {g : Obj → Led} {Q : Value → Shared → Prop} (ok : TakeOk prog w T) (Z : At w A env L h₀ (n + 1)) (F : Fr h₀ L s.heap m) (N : News h₀ L s.heap news) (hs : ∀ p ∈ T.led k t, p ∈ news)
    (U : UpdF T.lp (listOf [Value.int k t].toArray 0) news g) (h0 : 0 ≤ k) (hk : k ≤ 400) (hl0 : 1 ≤ lim) (hl1 : lim ≤ 8)
    (h : ∀ v tv t' h' tk, 0 ≤ v → v < lim → Fr h₀ L h' m → News h₀ L h' (g (listOf [Value.int (k + 1) t'].toArray 0)) → Q (.int v tv) { s with heap := h', toks := tk }) :
    wpAny (model prog w) A (call (.ref T.f) [.int lim tl]) Q E s := by
  refine ok.2.2 k lim t tl Z F (News.sub N hs) h0 hk hl0 hl1 fun v tv t' h' tk v0 v1 F' N' c => h v tv t' h' tk v0 v1 F' ?_
  obtain ⟨pre, post, rfl, hg, ha, hb⟩ := U.split
  rw [hg]
  intro p hp
  rcases List.mem_append.mp hp with hp | hp
  · have := N p (List.mem_append_left _ hp)
    exact ⟨c _ _ this.1 (by simpa using ha p hp), this.2⟩
  rcases List.mem_cons.mp hp with rfl | hp
  · exact N' _ (.head _)
  · have := N p (List.mem_append_right _ (.tail _ hp))
    exact ⟨c _ _ this.1 (by simpa using hb p hp), this.2⟩
local macro_rules | `(tactic| walk_at "st_get") => `(tactic| (fail_if_success (with_reducible show wpAny _ _ (call (Value.builtin "dict.get") _ _) _ _ _)))
local macro_rules | `(tactic| walk_at "mine_stopT") => `(tactic| ((try k_fold); repeat' (walk_at "st_item"; walk_at "st_get"; walk_at "st_if"; walk_at "st_loop"; walk_at "st_gen"; walk_at "st_ass"; walk_at "st_one")))
theorem mem_swap {lp : Addr} {o o' : Obj} {q : Addr × Obj} (hne : q.2 ≠ o) : ∀ {A B : Led}, q ∈ A ++ (lp, o) :: B → q ∈ A ++ (lp, o') :: B
  | [], B, h => by
    rcases List.mem_cons.mp h with rfl | h
    · exact absurd rfl hne
    · exact .tail _ h
  | a :: A, B, h => by
    rcases List.mem_cons.mp h with rfl | h
    · exact .head _
    · exact .tail _ (mem_swap hne h)
theorem rows_ne_int {rows : List TRow} {x : Int} {tx : Tok} {n1 n2 : Nat} : listOf (rows.map fun r => Value.ref r.a).toArray n1 ≠ listOf [Value.int x tx].toArray n2 := by
  intro h
  have h1 := congrArg Obj.data h
  injection h1 with h2
  have h3 := congrArg Array.toList h2
  cases rows with
  | nil => simp at h3
  | cons r q => simp at h3
theorem rowsOf_len {t : Tab} {x : Int} {b : Nat} (h : ∀ st ∈ t.sets, st.rows.length ≤ b) : (t.rowsOf x).length ≤ b := by
  unfold Tab.rowsOf
  split
  · rename_i s hs; exact h s (List.mem_of_find?_eq_some hs)
  · exact Nat.zero_le _
set_option hygiene true
local macro_rules | `(tactic| walk_at "newTuple") => `(tactic| (k_here; k_dflt (refine kup_newTuple (by k_asm) (by k_asm) ?_ (by exact Nat.le_of_ble_eq_true rfl)); intro D' h' F' N' l1; (try k_lt l1)))
set_option hygiene false
def putRow (sets : List TSet) (key : Int) (la : Addr) (rows : List TRow) : List TSet :=
  if sets.any (fun s => s.key = key) then sets.map (fun s => if s.key = key then ⟨s.key, la, 0, rows⟩ else s) else sets ++ [⟨key, la, 0, rows⟩]
theorem putRow_stored {sets : List TSet} {key : Int} {la : Addr} {rows : List TRow} : (putRow sets key la rows).map (fun s => (s.key, Value.ref s.la)) = stored (sets.map fun s => (s.key, Value.ref s.la)) key (.ref la) := by
  unfold putRow stored
  rw [List.any_map]
  show _ = if (sets.any fun s => decide (s.key = key)) = true then _ else _
  split
  · rw [List.map_map, List.map_map]
    apply List.map_congr_left
    intro s _
    show (fun s => (s.key, Value.ref s.la)) (if s.key = key then _ else s) = _
    by_cases h : s.key = key
    · simp [h]
    · simp [h]
  · simp
theorem putRow_mem {sets : List TSet} {key : Int} {la : Addr} {rows : List TRow} {st : TSet} (h : st ∈ putRow sets key la rows) : st ∈ sets ∨ (st.la = la ∧ st.ln = 0 ∧ st.rows = rows) := by
  unfold putRow at h
  split at h
  · obtain ⟨s, hs, rfl⟩ := List.mem_map.mp h
    by_cases e : s.key = key
    · rw [if_pos e]; exact .inr ⟨rfl, rfl, rfl⟩
    · rw [if_neg e]; exact .inl hs
  · rcases List.mem_append.mp h with h | h
    · exact .inl h
    · rw [List.mem_singleton.mp h]; exact .inr ⟨rfl, rfl, rfl⟩
theorem putRow_len {sets : List TSet} {key : Int} {la : Addr} {rows : List TRow} : (putRow sets key la rows).length ≤ sets.length + 1 := by
  unfold putRow
  split
  · simp
  · simp
theorem putRow_led {t : Tab} {key : Int} {la : Addr} {r : TRow} : ∀ p ∈ (putRow t.sets key la (t.rowsOf key ++ [r])).flatMap TSet.led, p = (la, listOf ((t.rowsOf key ++ [r]).map fun r => Value.ref r.a).toArray 0) ∨ p ∈ r.led ∨ p ∈ t.sets.flatMap TSet.led := by
  intro p hp
  obtain ⟨st, hst, hp⟩ := List.mem_flatMap.mp hp
  rcases putRow_mem hst with h | ⟨h1, h2, h3⟩
  · exact .inr (.inr (List.mem_flatMap.mpr ⟨st, h, hp⟩))
  · revert p
    first | refine ac3 ?_ ?_ | refine ac2 ?_ ?_ | refine ac ?_ ?_
    · rw [h1, h2, h3]; exact .inl rfl
    intro p hp
    · rw [h3] at hp
      obtain ⟨q, hq, hp⟩ := List.mem_flatMap.mp hp
      rcases List.mem_append.mp hq with hq | hq
      · obtain ⟨s, hs, hr⟩ := rowsOf_mem hq
        exact .inr (.inr (List.mem_flatMap.mpr ⟨s, hs, .tail _ (List.mem_flatMap.mpr ⟨q, hr, hp⟩)⟩))
      · rw [List.mem_singleton.mp hq] at hp
        exact .inr (.inl hp)
theorem tup_of {l kl : Nat} {vs : List Value} {Q : Value → Shared → Prop} (F : Fr h₀ L s.heap m) (N : News h₀ L s.heap news) (hm : (l, listOf vs.toArray kl) ∈ news) (hz : vs.length ≤ 1000)
    (h : ∀ D h', Fr h₀ L h' m → News h₀ L h' ((D, tupOf vs 0) :: news) → (∀ p ∈ news, p.1 < D) → Q (.ref D) { s with heap := h' }) :
    wpAny (model prog w) A (call (.type "tuple") [.ref l]) Q E s := by
  have hzz : vs.toArray.size ≤ sizeLine := by
    have : (1000 : Nat) ≤ sizeLine := by decide
    rw [List.size_toArray]; omega
  refine call_tuple_list (hsz := hzz) ⟨_, (N _ hm).1, rfl, _, rfl⟩ fun h' hk => ?_
  have F' : Fr h₀ L h' m := ⟨F.ns.at' fun o e => hk _ o e, fun b o e => hk b o (F.keep b o e), F.above⟩
  have N' : News h₀ L h' news := fun p hp => ⟨hk _ _ (N p hp).1, (N p hp).2⟩
  exact h _ _ (F'.push _) (News.push F' N' _) (fun p hp => Heap.lt_size (N' p hp).1)
set_option hygiene true
local macro_rules | `(tactic| walk_at "call type:tuple") => `(tactic| (k_here; k_dflt (refine tup_of (by k_asm) (by k_asm) (by k_mem) (by omega) ?_); intro D' h' F' N' l1; (try k_lt l1)))
set_option hygiene false
local macro_rules | `(tactic| walk_at "callWith ref") => `(tactic| (k_here; k_dflt (refine callWith_F (by exact fnAt_take (by assumption) (by k_asm) (by k_mem)) ?_)))
local macro_rules | `(tactic| walk_at "FnAt") => `(tactic| (exact fnAt_take (by assumption) (by k_asm) (by k_mem)))
set_option hygiene true
local macro_rules | `(tactic| walk_at "call ref") => `(tactic| (k_here; refine take_call (k := _) (t := _) (by assumption) (by assumption) (by k_asm) (by k_asm) (by walk_at "mine_sub") (by k_updF) (by omega) (by omega) (by omega) (by omega) ?_; intro v' tv' t' h' tk' v0' v1' F' N'; (try dsimp only at N')))
set_option hygiene false
local macro_rules | `(tactic| walk_at "getMethod ref") => `(tactic| (k_here; (with_reducible show wpAny _ _ (getMethod (Value.ref _) (PySem.Str.ofString "get") _) _ _ _); k_dflt (refine kdg_method (knd := intKind _ _) (by k_asm) (by k_mem) (by assumption) ?_)))
theorem addrs {P : Addr → Prop} {l l' : Led} (e : l'.map (·.1) = l.map (·.1)) (h : ∀ p ∈ l, P p.1) : ∀ p ∈ l', P p.1 := by
  intro p hp
  have h1 : p.1 ∈ l'.map (·.1) := List.mem_map_of_mem hp
  rw [e] at h1
  obtain ⟨q, hq, e2⟩ := List.mem_map.mp h1
  rw [← e2]; exact h q hq
def ltMap (D : Addr) (vt vf vr : Option Value) : Map := fun y => if y = Str.ofString "rest" then vr else if y = Str.ofString "first" then vf else if y = Str.ofString "turn" then vt else if y = Str.ofString "sets" then some (.ref D) else none
abbrev ltL (D : Addr) (vt vf vr : Option Value) : List (Str × Option Value) := [(Str.ofString "rest", vr), (Str.ofString "first", vf), (Str.ofString "turn", vt), (Str.ofString "sets", some (.ref D))]
theorem lt_init {D : Addr} : (fun y => if y = Str.ofString "sets" then some (Value.ref D) else none) = ltMap D none none none :=
  mapB_eq (B := fun _ => none) (l := [(Str.ofString "sets", some (Value.ref D))]) (l' := ltL D none none none) (by walk_at "mapq") (by walk_at "mapq")
theorem lt_set {D : Addr} {vt vf vr vt' vf' vr' : Option Value} : (fun y => if y = Str.ofString "rest" then vr' else if y = Str.ofString "first" then vf' else if y = Str.ofString "turn" then vt' else ltMap D vt vf vr y) = ltMap D vt' vf' vr' :=
  mapB_eq (B := fun _ => none) (l := [(Str.ofString "rest", vr'), (Str.ofString "first", vf'), (Str.ofString "turn", vt')] ++ ltL D vt vf vr) (l' := ltL D vt' vf' vr') (by walk_at "mapq") (by walk_at "mapq")
abbrev ltLed (D : Addr) (od : Obj) (c : Addr) (o1 : Obj) (T : Tk) (k : Int) (t : Tok) (sets : List TSet) : Led := (D, od) :: (c, o1) :: (T.lp, listOf [Value.int k t].toArray 0) :: (T.f, T.fo) :: (T.c, T.oc) :: (T.c1, T.o1) :: (T.c2, T.o2) :: (T.lc, listOf T.vs.toArray T.nc) :: sets.flatMap TSet.led
inductive LtR (k : Int) (prog : Program) (w : World) (s : Shared) (T : Tk) (v : Value) (led' : Led) : Prop
  | mk (tab : Tab) (k' : Int) (t' : Tok) (h1 : v = .ref tab.d) (h2 : k ≤ k') (h3 : k' ≤ k + 20) (h4 : tab.ok prog w) (h5 : tab.sets.length ≤ 3) (h6 : (∀ p ∈ tab.led, s.heap.objs.size ≤ p.1)) (h7 : led' = T.led k' t' ++ tab.led)
inductive LtI (D : Addr) (L' : Addr) (o1 : Obj) (T : Tk) (prog : Program) (w : World) (k : Int) (j : Nat) (m₁ : Map) (led₁ : Led) : Prop
  | mk (od sets k' t' vt vf vr : _) (h1 : led₁ = ltLed D od (L' + 1) o1 T k' t' sets) (h2 : od.IsDictOf (intKind prog w) (sets.map fun s => (s.key, .ref s.la))) (h3 : (∀ st ∈ sets, st.rows.length ≤ j ∧ ∀ r ∈ st.rows, IntsAre r.vs r.rest ∧ r.rest.length ≤ 50)) (h4 : sets.length ≤ j) (h5 : k ≤ k') (h6 : k' ≤ k + 1 + 6 * j) (h7 : (∀ p ∈ sets.flatMap TSet.led, D < p.1)) (h8 : m₁ = ltMap D vt vf vr)
inductive LtY (I : Addr) (o : Obj) (D : Addr) (od5 : Obj) (L' : Addr) (o1 : Obj) (T : Tk) (sets : List TSet) (k5 : Int) (i : Nat) (ys : List Value) (led : Led) : Prop
  | mk (k' t' ns : _) (h1 : led = (I, o) :: ltLed D od5 (L' + 1) o1 T k' t' sets) (h2 : k5 + 2 ≤ k') (h3 : k' ≤ k5 + 2 + i) (h4 : IntsAre ys ns) (h5 : ns.length = i)
theorem table_spec {T : Tk} {k : Int} {t : Tok} {Q : Value → Shared → Prop} (Z : At w A env L h₀ (n+2)) (F : Fr h₀ L s.heap m) (N : News h₀ L s.heap (T.led k t)) (ok : TakeOk prog w T) (hk0 : 0 ≤ k) (hk : k ≤ 300)
    (hQ : ∀ h' tk (tab : Tab) k' t', Fr h₀ L h' m → News h₀ L h' (T.led k' t' ++ tab.led) → Chg [T.lp] s.heap h' → k ≤ k' → k' ≤ k + 20 → tab.ok prog w → tab.sets.length ≤ 3 → (∀ p ∈ tab.led, s.heap.objs.size ≤ p.1) → Q (.ref tab.d) { s with heap := h', toks := tk }) :
    wpAny (model prog w) A (call (.ref 635) [.ref T.f]) Q E s := by
  have X := Z.X
  refine' call_mutL [(Str.ofString "take", .ref T.f)] (LtR k prog w s T) ?Z ?F N ?k6 ?k7 ?k9 ?kB ?kN ?_ ?c2 ?c3 ?c4 ?kQ
  (case Z => assumption); (case F => assumption); (case k6 => k_is); (case k7 => k_is); (case k9 => exact BindsTo.of_eq rfl); (case kB => exact rfl); (case kN => decide); (case c2 => exact rfl); (case c3 => exact rfl); (case c4 => exact rfl)
  · intro g' L' h₁ tk sg sd so cells dp fr gs' un A₀ base p loose mean mg mb hsz hst B' T' X' Z' hU F' N' hc hl
    obtain ⟨o1, rfl, ho1⟩ := CellsAre.one hc
    simp only [List.cons_append, List.nil_append] at N'
    have ho1' : o1.data = .cell (some (.ref T.f)) := ho1
    clear ho1 hc
    have hfx := ok.1
    have F'' : Fr g' L' h₁ (fun _ => none) := F'
    clear F'
    walk_at "mine_stopT"
    rename_i D _ od lo _ _ hod _ lD h2 F2 N2
    try dsimp only at N2 ⊢
    have lDL : L' < D := Nat.lt_trans (Nat.lt_succ_self _) lD.1
    have hlp : T.lp < L' := hl _ (.head _)
    have nD := neN (neG lD.2.1)
    have nC := neN (neG (show T.lp < L' + 1 from Nat.lt_succ_of_lt hlp))
    refine wpAny_execs_cons (for_own (h₀ := g') (L := L') ?_)
    walk_at "mine_stopT"
    rename_i v1 tv1 t1 h3 tk3 v10 v11 F3 N3 h4 tk4 ta tb tc hR F4 N4 hkk4
    clear F3 N3 F2 N2
    obtain ⟨n1, rfl, hn1⟩ : ∃ n1 : Nat, v1 = n1 ∧ n1 ≤ 2 := ⟨v1.toNat, by omega, by omega⟩
    have hnv3 : n1 + 1 ≤ 3 := Nat.succ_le_succ hn1
    clear v10 v11
    refine for_range (n1 + 1) rfl hR (by decide) (by decide) (by omega) (by omega) (by omega) F4 N4
      (LtI D L' o1 T prog w k)
      ⟨od, [], k + 1, t1, none, none, none, rfl, hod, by simp, by simp, by omega, by omega, by simp, lt_init⟩ ⟨_, _, rfl⟩ ?_ ?_
    · rintro I j m₁ led₁ s₁ o tk5 ⟨h5, tk5', rfl⟩ hj ⟨od5, sets, k5, t5, vt, vf, vr, rfl, hod5, hrows, hsl, hk5a, hk5b, hab, rfl⟩ F5 N5 hI
      have hj3 : j < 3 := Nat.lt_of_lt_of_le hj hnv3
      have hsl3 : sets.length ≤ 3 := Nat.le_trans hsl (Nat.le_of_lt hj3)
      have hk5c : k5 ≤ 320 := by omega
      have hk5d : k5 ≤ 400 := Int.le_trans hk5c (by decide)
      have hk5e : k5 + 1 ≤ 400 := Int.le_trans (Int.add_le_add_right hk5c 1) (by decide)
      have hk50 : 0 ≤ k5 := Int.le_trans hk0 hk5a
      have hfx5 : ∀ p ∈ (T.f, T.fo) :: (T.c, T.oc) :: (T.c1, T.o1) :: (T.c2, T.o2) :: (T.lc, listOf T.vs.toArray T.nc) :: sets.flatMap TSet.led, p.1 ≠ T.lp := by
        intro p hp
        rcases List.mem_append.mp (show p ∈ T.fix ++ sets.flatMap TSet.led from hp) with hp | hp
        · exact hfx p hp
        · exact neG (Nat.lt_trans (Nat.lt_trans hlp lDL) (hab p hp))
      have nI := neN (hI _ (.tail _ (.tail _ (.head _)))).symm
      clear F4 N4
      walk_at "mine_stopT"
      rename_i h6 tk6 v6 tv6 t6 h7 tk7 v60 v61 h8 F8 N8
      refine' comp_exprF (h₀ := g') (L := L') (cl := [(Str.ofString "take", L' + 1)]) ?hclos ?hcell ?hkind ?hnames ?hx ?_
      walk_at "mine_comp"
      walk_at "mine_stopT"
      rename_i v9 tv9 t9 h9 tk9 v90 v91 F9 N9 h10 tk10 td te tf hR10 F10 N10 hkk10
      clear F9 N9 F8 N8
      obtain ⟨nw, rfl, hnw3⟩ : ∃ nw : Nat, v9 = nw ∧ nw ≤ 3 := ⟨v9.toNat, by omega, by omega⟩
      clear v90 v91
      refine comp_range nw rfl hR10 (by decide) (by decide) (by omega) (by omega) (by omega) (Nat.le_trans (by omega) (by decide : (1000 : Nat) ≤ sizeLine)) F10 N10
        (LtY I o D od5 L' o1 T sets k5) ⟨_, _, [], rfl, by omega, by omega, .nil, rfl⟩ ?_ ?_ ?_
      · rintro i ys led ⟨k', t', ns, rfl, _, _, h3, h4⟩
        rw [h3.length]; omega
      · rintro I3 C3 D3 j3 v ys led s₁ oI oC oD mC ⟨h11, tk11, rfl⟩ hjn ⟨tv, rfl⟩ ⟨k', t', ns, rfl, hka, hkb, h3, h4⟩ F11 N11 hd3 hn3 hx3
        have hkc : k' ≤ 400 := by omega
        have hk'0 : 0 ≤ k' := by omega
        have hd3' := hd3 (T.lp, listOf [Value.int k' t'].toArray 0) (.tail _ (.tail _ (.tail _ (.head _))))
        have nI3 := neN hd3'.1.symm
        have nC3 := neN hd3'.2.1.symm
        have nD3 := neN hd3'.2.2.symm
        refine comp_if0 ?_
        walk_at "mine_stopT"
        exact (show CEnd _ _ _ _ _ _ _ _ _ _ _ _ from ⟨(I, o) :: ltLed D od5 (L' + 1) o1 T (k' + 1) _ sets, ⟨_, _, rfl⟩, by assumption, by assumption, addrs (P := fun a => a ≠ I3 ∧ a ≠ C3 ∧ a ≠ D3) (l := (I, o) :: ltLed D od5 (L' + 1) o1 T k' t' sets) rfl hd3, k' + 1, _, ns ++ [_], rfl, by omega, by push_cast; omega, h3.append (.cons _ _ .nil), by simp [h4]⟩)
      · rintro D0 led ys s₁ kD ⟨h11, tk11, rfl⟩ ⟨k', t', ns, rfl, hka, hkb, h3, h4⟩ N11 hf11 F11
        have hkc : k' ≤ 400 := by omega
        have hk'0 : 0 ≤ k' := by omega
        have hnl : ns.length ≤ 50 := by omega
        try dsimp only at N11 F11 ⊢
        have hyl := h3.length
        have n1 := neN (hI (L' + 1, o1) (.tail _ (.head _)))
        clear F10 N10
        walk_at "mine_stopT"
        rename_i RT hA lRT hB E0 hC F12 N12 lE
        have tab5 : Tab.ok prog w ⟨D, od5, sets⟩ := ⟨lo, hod5, fun st hst r hr => (hrows st hst).2 r hr, fun st hst => by have := (hrows st hst).1; omega⟩
        refine get_rows (t := ⟨D, od5, sets⟩) N12 (fun p hp => ?_) tab5 (.head _) fun LA LN hLA => ?_
        · revert p
          first | refine ac3 ?_ ?_ | refine ac2 ?_ ?_ | refine ac ?_ ?_
          · exact .tail _ (.tail _ (.tail _ (.tail _ (.head _))))
          intro p hp
          · exact .tail _ (.tail _ (.tail _ (.tail _ (.tail _ (.tail _ (.tail _ (.tail _ (.tail _ (.tail _ (.tail _ (.tail _ hp)))))))))))
        have nE := neN (neG lE.2.2.2.2.2.1)
        have nR := neN (neG lRT.2.2.2.2.1)
        have nD0 := neN (hf11 (T.lp, listOf [Value.int k' t'].toArray 0) (.tail _ (.tail _ (.tail _ (.head _))))).symm
        walk_at "mine_stopT"
        rename_i v13 tv13 t13 h13 tk13 v130 v131 TU h14 lTU LB h15 F15 N15 lB
        have hrl : ((Tab.mk D od5 sets).rowsOf (1 + v6)).length ≤ 3 := rowsOf_len fun st hst => by have := (hrows st hst).1; omega
        have hLA15 : (LA, listOf (((Tab.mk D od5 sets).rowsOf (1 + v6)).map fun r => Value.ref r.a).toArray LN) ∈ (LB, listOf [Value.ref TU].toArray 0) :: (TU, tupOf [.ref RT, .int (7 + v13) tk13] 0) :: (E0, listOf ([] : List Value).toArray 0) :: (RT, tupOf ys 0) :: (D0, listOf ys.toArray kD) :: (I, o) :: ltLed D od5 (L' + 1) o1 T (k' + 1) t13 sets := .tail _ (.tail _ (mem_swap (A := [(E0, listOf ([] : List Value).toArray 0), (RT, tupOf ys 0), (D0, listOf ys.toArray kD), (I, o), (D, od5), (L' + 1, o1)]) rows_ne_int hLA))
        refine kmk_add_lit F15 N15 ⟨_, (N15 _ hLA15).1, rfl, _, rfl⟩ ⟨_, (N15 _ (.head _)).1, rfl, _, rfl⟩ rfl (fun LC h16 F16 N16 lC => ?_) (Nat.le_trans (by simp; omega) (by decide : (1000 : Nat) ≤ sizeLine))
        walk_at "mine_stopT"
        obtain ⟨r, hr⟩ : ∃ r : TRow, r = ⟨TU, 0, RT, 0, ys, ns, 7 + v13, tk13⟩ := ⟨_, rfl⟩
        have er : ((((Tab.mk D od5 sets).rowsOf (1 + v6)).map fun r => Value.ref r.a).toArray.toList ++ (#[Value.ref TU] : Array Value).toList).toArray = (((Tab.mk D od5 sets).rowsOf (1 + v6) ++ [r]).map fun r => Value.ref r.a).toArray := by subst hr; simp
        rw [er] at N16
        have N17 : News g' L' h16 ((LC, listOf (((Tab.mk D od5 sets).rowsOf (1 + v6) ++ [r]).map fun r => Value.ref r.a).toArray 0) :: (TU, tupOf [.ref RT, .int (7 + v13) tk13] 0) :: (RT, tupOf ys 0) :: (I, o) :: ltLed D od5 (L' + 1) o1 T (k' + 1) t13 sets) := News.sub N16 (fun p hp => by
          revert p
          first | refine ac3 ?_ ?_ | refine ac2 ?_ ?_ | refine ac ?_ ?_
          · exact .head _
          refine ac ?_ ?_
          · exact .tail _ (.tail _ (.head _))
          refine ac ?_ ?_
          · exact .tail _ (.tail _ (.tail _ (.tail _ (.head _))))
          intro p hp
          · exact .tail _ (.tail _ (.tail _ (.tail _ (.tail _ (.tail _ hp))))))
        clear N16 hLA15
        have hIC : I < LC := lC (I, o) (.tail _ (.tail _ (.tail _ (.tail _ (.tail _ (.head _))))))
        have hDC : D < LC := lC (D, od5) (.tail _ (.tail _ (.tail _ (.tail _ (.tail _ (.tail _ (.head _)))))))
        have hDI : D ≠ I := hI (D, od5) (.head _)
        have hfr : ∀ p ∈ T.fix, p.1 < D := fun p hp => Nat.lt_trans (hl p (.tail _ hp)) lDL
        have hrest : ∀ p ∈ (L' + 1, o1) :: (T.lp, listOf [Value.int (k' + 1) t13].toArray 0) :: (T.f, T.fo) :: (T.c, T.oc) :: (T.c1, T.o1) :: (T.c2, T.o2) :: (T.lc, listOf T.vs.toArray T.nc) :: sets.flatMap TSet.led, p.1 ≠ D := by
          intro p hp
          revert p
          first | refine ac3 ?_ ?_ | refine ac2 ?_ ?_ | refine ac ?_ ?_
          · exact neL lD.1
          refine ac ?_ ?_
          · exact neL lD.2.1
          intro p hp
          rcases List.mem_append.mp (show p ∈ T.fix ++ sets.flatMap TSet.led from hp) with hp | hp
          · exact neL (hfr p hp)
          · exact neG (hab p hp)
        refine kda_set (knd := intKind prog w) F16 N17 (UpdF.tail (neG hDC) (UpdF.tail (neG lTU.2.2.2.2.1) (UpdF.tail (neG lRT.2.2.1) (UpdF.tail hDI.symm (UpdF.head hrest))))) hod5 (intKind_is _ _ _ _) (Nat.le_trans (by simp; omega) (by decide : (1000 : Nat) ≤ sizeLine)) fun h18 od6 F18 N18 hod6 => ?_
        clear F16 N17
        walk_at "mine_stopT"
        try dsimp only
        have hled6 : ∀ p ∈ (putRow sets (1 + v6) LC ((Tab.mk D od5 sets).rowsOf (1 + v6) ++ [r])).flatMap TSet.led, p = (LC, listOf (((Tab.mk D od5 sets).rowsOf (1 + v6) ++ [r]).map fun r => Value.ref r.a).toArray 0) ∨ p ∈ r.led ∨ p ∈ sets.flatMap TSet.led := putRow_led (t := Tab.mk D od5 sets)
        have hrled : ∀ p ∈ r.led, p = (TU, tupOf [.ref RT, .int (7 + v13) tk13] 0) ∨ p = (RT, tupOf ys 0) := by
          subst hr; intro p hp; simpa using hp
        have hrows6 : ∀ q ∈ ((Tab.mk D od5 sets).rowsOf (1 + v6) ++ [r]), IntsAre q.vs q.rest ∧ q.rest.length ≤ 50 := by
          intro q hq
          rcases List.mem_append.mp hq with hq | hq
          · obtain ⟨s, hs, hr⟩ := rowsOf_mem hq
            exact (hrows s hs).2 q hr
          · rw [List.mem_singleton.mp hq]; subst hr; exact ⟨h3, by show ns.length ≤ 50; omega⟩
        refine (show TurnEnd _ _ _ _ _ _ _ from ⟨_, ltLed D od6 (L' + 1) o1 T (k' + 1) t13 (putRow sets (1 + v6) LC ((Tab.mk D od5 sets).rowsOf (1 + v6) ++ [r])), ⟨_, _, rfl⟩, by assumption, News.sub (by assumption) ?_, ?_, od6, putRow sets (1 + v6) LC ((Tab.mk D od5 sets).rowsOf (1 + v6) ++ [r]), k' + 1, t13, _, _, _, rfl, by rw [putRow_stored]; exact hod6, ?_, Nat.le_trans putRow_len (by omega), by omega, by push_cast; omega, ?_, lt_set⟩)
        · intro p hp
          revert p
          first | refine ac3 ?_ ?_ | refine ac2 ?_ ?_ | refine ac ?_ ?_
          · exact .tail _ (.tail _ (.tail _ (.head _)))
          refine ac ?_ ?_
          · exact .tail _ (.tail _ (.tail _ (.tail _ (.head _))))
          refine ac ?_ ?_
          · exact .tail _ (.tail _ (.tail _ (.tail _ (.tail _ (.head _)))))
          refine ac ?_ ?_
          · exact .tail _ (.tail _ (.tail _ (.tail _ (.tail _ (.tail _ (.head _))))))
          intro p hp
          rcases List.mem_append.mp (show p ∈ T.fix ++ _ from hp) with hp | hp
          · exact .tail _ (.tail _ (.tail _ (.tail _ (.tail _ (.tail _ (.tail _ (List.mem_append_left (sets.flatMap TSet.led) hp)))))))
          rcases hled6 p hp with rfl | hp | hp
          · exact .head _
          · rcases hrled p hp with rfl | rfl
            · exact .tail _ (.head _)
            · exact .tail _ (.tail _ (.head _))
          · exact .tail _ (.tail _ (.tail _ (.tail _ (.tail _ (.tail _ (.tail _ (List.mem_append_right T.fix hp)))))))
        · intro p hp
          revert p
          first | refine ac3 ?_ ?_ | refine ac2 ?_ ?_ | refine ac ?_ ?_
          · exact hDI
          refine ac ?_ ?_
          · exact hI (L' + 1, o1) (.tail _ (.head _))
          refine ac ?_ ?_
          · exact hI (T.lp, listOf [Value.int k5 t5].toArray 0) (.tail _ (.tail _ (.head _)))
          intro p hp
          rcases List.mem_append.mp (show p ∈ T.fix ++ _ from hp) with hp | hp
          · exact hI p (.tail _ (.tail _ (.tail _ (List.mem_append_left (sets.flatMap TSet.led) hp))))
          rcases hled6 p hp with rfl | hp | hp
          · exact neG hIC
          · rcases hrled p hp with rfl | rfl
            · exact neG lTU.2.2.2.1
            · exact neG lRT.2.1
          · exact hI p (.tail _ (.tail _ (.tail _ (List.mem_append_right T.fix hp))))
        · intro st hst
          rcases putRow_mem hst with h | ⟨_, _, h⟩
          · exact ⟨by have := (hrows st h).1; omega, (hrows st h).2⟩
          · rw [h]
            exact ⟨by rw [List.length_append]; have := rowsOf_len (t := Tab.mk D od5 sets) (x := 1 + v6) (fun st hst => (hrows st hst).1); simp; omega, hrows6⟩
        · intro p hp
          rcases hled6 p hp with rfl | hp | hp
          · exact hDC
          · rcases hrled p hp with rfl | rfl
            · exact lTU.2.2.2.2.1
            · exact lRT.2.2.1
          · exact hab p hp
    · rintro m₁ led₁ s₁ ⟨h5, tk5, rfl⟩ ⟨od5, sets, k5, t5, vt, vf, vr, rfl, hod5, hrows, hsl, hk5a, hk5b, hab, rfl⟩ F5 N5
      clear F4 N4
      try dsimp only
      walk_at "mine_stopT"
      try dsimp only
      refine (show OutM _ _ _ _ _ _ from ⟨_, _, by assumption, News.sub (by assumption) ?_, ⟨_, _, rfl⟩, ⟨D, od5, sets⟩, k5, t5, rfl, by omega, by omega, ⟨lo, hod5, fun st hst r hr => (hrows st hst).2 r hr, fun st hst => by have := (hrows st hst).1; omega⟩, by show sets.length ≤ 3; omega, ?_, rfl⟩)
      · intro p hp
        rcases List.mem_cons.mp (show p ∈ (T.lp, listOf [Value.int k5 t5].toArray 0) :: (T.fix ++ (D, od5) :: sets.flatMap TSet.led) from hp) with rfl | hp
        · exact .tail _ (.tail _ (.head _))
        rcases List.mem_append.mp hp with hp | hp
        · exact .tail _ (.tail _ (.tail _ (List.mem_append_left (sets.flatMap TSet.led) hp)))
        revert p
        first | refine ac3 ?_ ?_ | refine ac2 ?_ ?_ | refine ac ?_ ?_
        · exact .head _
        intro p hp
        · exact .tail _ (.tail _ (.tail _ (List.mem_append_right T.fix hp)))
      · intro p hp
        rw [hsz]
        rcases List.mem_cons.mp (show p ∈ (D, od5) :: sets.flatMap TSet.led from hp) with rfl | hp
        · exact Nat.le_of_lt lDL
        · exact Nat.le_of_lt (Nat.lt_trans lDL (hab p hp))
  · rintro v h' tk led' F' N' c ⟨tab, k', t', rfl, h1, h2, h3, h4, h5, rfl⟩
    exact hQ h' tk tab k' t' F' N' (chg_less (r := T.fix) N (News.sub N' fun p hp => List.mem_append_left _ hp) c) h1 h2 h3 h4 h5
local macro_rules | `(tactic| walk_at "mine_steps0") => `(tactic| ((try k_fold); repeat' (walk_at "st_one")))
local macro_rules | `(tactic| walk_at "mine_new") => `(tactic| ((case Z | F | N => assumption); (case hm | hi | hf | ho | hcd => k_is); (case hbind => intro x s' hK; first | exact BindsTo.of_eq rfl | exact binds_K hK rfl (by k_is) rfl rfl rfl); (case hloc => intro x; exact locs rfl); (case hco | hgen | hkn => exact rfl); (case hcell => decide)))
abbrev rawE (P : Params) (name : Str) (t : Tok) (v : Value) : DictEntry := ⟨PyData.keyHash P name, .str name t, v⟩
section
variable {prog : Program} {w : World} {A : Around} {E : Value → Shared → Prop} {h₀ : Heap} {L : Addr} {m : Str → Option Value}
/-- what an __init__ assigns: a parameter, an int, a bool, a str -/
inductive FK | nm (y : Str) (v : Value) | int (k : Int) | bool (b : Bool) | str (x : Str)
structure Fld where
  name : Str
  k : FK
  p1 : Pos
  p2 : Pos
  p3 : Pos
  p4 : Pos
def FK.e : FK → Pos → PySem.Expr
  | .nm y _, p => .Name y p
  | .int k, p => .Constant (.int k) 0 p
  | .bool b, p => .Constant (.bool b) 0 p
  | .str x, p => .Constant (.str x) 0 p
def FK.V : FK → Tok → Value
  | .nm _ v, _ => v
  | .int k, t => .int k t
  | .bool b, _ => .bool b
  | .str x, t => .str x t
def FK.ok (m : Str → Option Value) (env : Env) : FK → Prop
  | .nm y v => m y = some v ∧ env.kindOf y = some .local ∧ (y == ("__debug__" : Str)) = false
  | _ => True
def Fld.stmt (f : Fld) : Stmt := .Assign [.Attribute (.Name (Str.ofString "self") f.p1) f.name f.p2] (f.k.e f.p4) f.p3
def entsF (P : Params) (t u : Nat → Tok) : Nat → List Fld → List DictEntry
  | _, [] => []
  | k, f :: r => ⟨PyData.keyHash P f.name, .str f.name (t k), f.k.V (u k)⟩ :: entsF P t u (k+1) r
theorem entsF_congr {P : Params} {t u t' u' : Nat → Tok} : ∀ {fs : List Fld} {k : Nat}, (∀ j, k ≤ j → t j = t' j ∧ u j = u' j) → entsF P t u k fs = entsF P t' u' k fs
  | [], _, _ => rfl
  | f :: r, k, h => by
    unfold entsF
    rw [(h k (Nat.le_refl _)).1, (h k (Nat.le_refl _)).2, entsF_congr (fs := r) fun j hj => h j (Nat.le_of_succ_le hj)]
theorem putL_new {name : Str} {h : Int} {k v : Value} : ∀ {es : List DictEntry}, (∀ e ∈ es, e.key.isStr name = false) → putL name h k v es = es ++ [⟨h, k, v⟩] ∧ es.any (·.key.isStr name) = false ∧ es.find? (·.key.isStr name) = none
  | [], _ => ⟨rfl, rfl, rfl⟩
  | e :: r, q => by
    have he := q e (.head _)
    obtain ⟨a, b, c⟩ := putL_new (h := h) (k := k) (v := v) (es := r) fun x hx => q x (.tail _ hx)
    refine ⟨?_, ?_, ?_⟩
    · unfold putL; rw [he, a]; rfl
    · rw [List.any_cons, he, b]; rfl
    · rw [List.find?_cons, he, c]
theorem FK.gives {cn : Str} {cs : Scope} {cf : Addr} {ccd : Value} {s : Shared} {Q : Value → Shared → Prop} (hf : cs.kind = .function) (k : FK) {p : Pos} (F : Fr h₀ L s.heap m) (hk : k.ok m (envOf cn cs L cf ccd)) (h : ∀ t tk, Q (k.V t) { s with toks := tk }) :
    wpAny (model prog w) A (eval (k.e p) (envOf cn cs L cf ccd)) Q E s := by
  cases k with
  | nm y v => exact ld F hk.1 (h 0 s.toks) hf hk.2.1 hk.2.2
  | int k => exact wpAny_Constant_int (h _ _)
  | bool b => exact wpAny_Constant_bool (h 0 s.toks)
  | str x => exact wpAny_Constant_str (h _ _)
/-- the body of an __init__ that only assigns plain fields -/
theorem inits {K : Frag} {C x d : Addr} {cn : Str} {cs : Scope} {cf : Addr} {ccd : Value} {Q : Flow → Shared → Prop} (X : K.In h₀) (hf : cs.kind = .function) (hxd : x ≠ d) (hm : m (Str.ofString "self") = some (.ref x))
    (hself : (envOf cn cs L cf ccd).kindOf (Str.ofString "self") = some .local)
    (h1 : findIn K (.ref C) "__setattr__" = some (some (.builtin "object.__setattr__"))) (h2 : plainOver K C = true) (h3 : hasDictIn K C = true) :
    ∀ (fs : List Fld) (es : List DictEntry) (s : Shared) (rest : List Stmt), (∀ f ∈ fs, takerIn K C f.name = some none) → (∀ f ∈ fs, f.k.ok m (envOf cn cs L cf ccd)) → (fs.map (·.name)).Nodup → (∀ e ∈ es, e.refKey = false ∧ ∀ f ∈ fs, e.key.isStr f.name = false) →
      es.length + fs.length ≤ 1000 → Fr h₀ L s.heap m → News h₀ L s.heap [(x, instObj C d), (d, dictOf es es.length)] →
      (∀ t u h' tk, Fr h₀ L h' m → News h₀ L h' [(x, instObj C d), (d, dictOf (es ++ entsF w.params t u es.length fs) (es.length + fs.length))] → wpAny (model prog w) A (execs rest (envOf cn cs L cf ccd)) Q E { s with heap := h', toks := tk }) →
      wpAny (model prog w) A (execs (fs.map Fld.stmt ++ rest) (envOf cn cs L cf ccd)) Q E s := by
  intro fs
  induction fs with
  | nil =>
    intro es s rest _ _ _ _ _ F N h
    exact h (fun _ => 0) (fun _ => 0) s.heap s.toks F (by show News _ _ _ [_, (d, dictOf (es ++ []) es.length)]; rw [List.append_nil]; exact N)
  | cons f fs ih =>
    intro es s rest g1 g2 g3 g4 g5 F N h
    have hnew := putL_new (h := PyData.keyHash w.params f.name) (k := .none) (v := .none) (es := es) (name := f.name) fun e he => (g4 e he).2 f (.head _)
    have hl : es.length + fs.length + 1 ≤ 1000 := g5
    refine wpAny_execs_cons ?_
    refine plainObj_wpAny_Assign_Attribute ?_ ?sw
    case sw => cases f.k <;> rfl
    refine FK.gives hf f.k F (g2 f (.head _)) fun t1 tk1 => ?_
    refine ld F hm ?_ hf hself
    refine set_dict (s := { s with toks := tk1 }) (news' := [(x, instObj C d), (d, dictOf (es ++ [⟨PyData.keyHash w.params f.name, .str f.name (tk1 + 1), f.k.V t1⟩]) (es.length + 1))]) F X N (InstAt.of_news N (.head _) (.tail _ (.head _))) rfl h1 h2 (g1 f (.head _)) h3 ?_ ?_ (.tail hxd (.head (fun p hp => (by cases hp)))) ?_ fun h' F' N' => ?_
    · unfold getL; rw [hnew.2.2]
      have : es.any (·.refKey) = false := by rw [List.any_eq_false]; intro e he; rw [(g4 e he).1]; decide
      rw [this]; rfl
    · rw [(putL_new fun e he => (g4 e he).2 f (.head _)).1]; unfold putN; rw [hnew.2.1]; rfl
    · rw [List.length_append]; show es.length + 1 ≤ 1000; omega
    · have hlen : (es ++ [(⟨PyData.keyHash w.params f.name, .str f.name (tk1 + 1), f.k.V t1⟩ : DictEntry)]).length = es.length + 1 := List.length_append
      refine ih _ _ _ (fun f' q => g1 f' (.tail _ q)) (fun f' q => g2 f' (.tail _ q)) (List.nodup_cons.mp g3).2 ?_ (by rw [hlen]; omega) F' (hlen ▸ N') fun t u h'' tk F'' N'' => ?_
      · intro e he
        rcases List.mem_append.mp he with he | he
        · exact ⟨(g4 e he).1, fun f' q => (g4 e he).2 f' (.tail _ q)⟩
        · rw [List.mem_singleton.mp he]
          refine ⟨rfl, fun f' q => ?_⟩
          have hne : f.name ≠ f'.name := fun q' => (List.nodup_cons.mp g3).1 (List.mem_map.mpr ⟨f', q, q'.symm⟩)
          exact beq_eq_false_iff_ne.mpr hne
      · refine h (fun j => if j = es.length then tk1 + 1 else t j) (fun j => if j = es.length then t1 else u j) h'' tk F'' ?_
        rw [hlen] at N''
        unfold entsF
        rw [entsF_congr (fs := fs) (t' := t) (u' := u) (fun j hj => by rw [if_neg (by omega), if_neg (by omega)]; exact ⟨rfl, rfl⟩), if_pos rfl, if_pos rfl]
        rw [List.append_assoc] at N''
        rw [show es.length + (f :: fs).length = es.length + 1 + fs.length by rw [List.length_cons]; omega]
        exact N''
end
local macro_rules | `(tactic| walk_at "mine_lst") => `(tactic| repeat' first | exact List.forall_mem_nil _ | refine List.forall_mem_cons.mpr ⟨?_, ?_⟩ | exact True.intro | exact ⟨rfl, rfl, rfl⟩ | (show takerIn _ _ (Str.ofString _) = _; k_is))
local macro_rules | `(tactic| walk_at "mine_flat") => `(tactic| ((case Z | F | N => assumption); (case hm | hi | hf | ho | hcd | h1 | h2 | h3 => k_is); (case hb => exact rfl); (case hbind => intro x s' hK; first | exact BindsTo.of_eq rfl | exact binds_K hK rfl (by k_is) rfl rfl rfl); (case hloc => intro x; exact locs rfl); (case hco | hgen | hkn => exact rfl); (case hcell => decide); (case hself | hkself => intro x; exact rfl); (case g1 => walk_at "mine_lst"); (case g2 => intro x y; walk_at "mine_lst"); (case g3 => exact of_decide_eq_true (by kernel_rfl)); (case g5 => exact Nat.le_of_ble_eq_true rfl)))
def kz (n : Str) (k : FK) (p1 p2 p3 p4 : Pos) : Fld := ⟨n, k, p1, p2, p3, p4⟩

/-- a class whose __init__ only assigns plain fields is called -/
theorem new_flat {C fI : Addr} {pos : List Value} {name qual : Str} {params : Arguments} {body : List Stmt} {scope : Scope} {dV kV doc pm cdv ct oc : Value} {an od : Option Addr} {osl : Array (Option Value)} {Q : Value → Shared → Prop} (binds : Addr → List (Str × Value)) (fs : List Fld)
    (Z : At w A env L h₀ (n + 2)) (F : Fr h₀ L s.heap m) (N : News h₀ L s.heap news)
    (hm : makesIn (hd.heap_1 w.params) C = true) (hi : findIn (hd.heap_1 w.params) (.ref C) "__init__" = some (some (.ref fI))) (hf : isFn (hd.heap_1 w.params) (.ref fI) = true)
    (ho : (hd.heap_1 w.params).lookup fI = some ⟨oc, od, .func (fnOf name qual params body scope dV kV doc pm an cdv ct), osl⟩) (hcd : codeIn (hd.heap_1 w.params) cdv qual = true)
    (hb : fs.map Fld.stmt ++ [] = body) (hbind : ∀ (x : Addr) (s' : Shared), (hd.heap_1 w.params).In s'.heap → BindsTo s' (fnOf name qual params body scope dV kV doc pm an cdv ct) ⟨.ref x :: pos, []⟩ (binds x)) (hloc : ∀ x, ∀ y ∈ binds x, scope.names.lookup y.1 = some .local)
    (hco : scope.isCoroutine = false) (hgen : scope.isGenerator = false) (hkn : scope.kind = .function) (hcell : ∀ x ∈ scope.names, x.2 ≠ .cell)
    (hself : ∀ x, (binds x).reverse.lookup (Str.ofString "self") = some (.ref x))
    (hkself : ∀ L', (envOf qual scope L' fI cdv).kindOf (Str.ofString "self") = some .local)
    (h1 : findIn (hd.heap_1 w.params) (.ref C) "__setattr__" = some (some (.builtin "object.__setattr__"))) (h2 : plainOver (hd.heap_1 w.params) C = true) (h3 : hasDictIn (hd.heap_1 w.params) C = true)
    (g1 : ∀ f ∈ fs, takerIn (hd.heap_1 w.params) C f.name = some none) (g2 : ∀ x L', ∀ f ∈ fs, f.k.ok (fun y => (binds x).reverse.lookup y) (envOf qual scope L' fI cdv)) (g3 : (fs.map (·.name)).Nodup) (g5 : 0 + fs.length ≤ 1000)
    (h : ∀ x d t u h' tk, Fr h₀ L h' m → News h₀ L h' ((x, instObj C d) :: (d, dictOf (entsF w.params t u 0 fs) (0 + fs.length)) :: news) → (∀ p ∈ news, p.1 < d) → d < x → Q (.ref x) { s with heap := h', toks := tk }) :
    wpAny (model prog w) A (call (.ref C) pos) Q E s := by
  subst hb
  refine call_new binds (fun x d led => ∃ t u, led = [(x, instObj C d), (d, dictOf (entsF w.params t u 0 fs) (0 + fs.length))]) Z F N hm hi hf ho hcd hbind hloc ?_ hco hgen hkn hcell ?_
  · intro x dx g' L' h₁ tk sg sd so dp fr gs un A₀ base p loose mean mg mb l2 lx B' T' X' Z' hU F' N'
    refine inits X' hkn (neN (neG l2)) (hself x) (hkself L') h1 h2 h3 fs [] _ [] g1 (g2 x L') g3 (List.forall_mem_nil _) g5 F' N' fun t u h' tk' F'' N'' => ?_
    exact wpAny_execs_nil (show OutM _ _ _ _ _ _ from ⟨_, _, F'', N'', ⟨_, _, rfl⟩, rfl, t, u, rfl⟩)
  · rintro x d h' tk led' F' N' Nn l1 l2 ⟨t, u, rfl⟩
    exact h x d t u h' tk F' (News.app N' Nn) l1 l2
theorem lig_new {D : Addr} {Q : Value → Shared → Prop} (Z : At w A env L h₀ (n+3)) (F : Fr h₀ L s.heap m) (N : News h₀ L s.heap news)
    (h : ∀ x d t h' tk, Fr h₀ L h' m → News h₀ L h' ((x, instObj 340 d) :: (d, dictOf [rawE w.params (Str.ofString "sets") t (.ref D)] 1) :: news) → (∀ p ∈ news, p.1 < d) → d < x → Q (.ref x) { s with heap := h', toks := tk }) :
    wpAny (model prog w) A (call (.ref 340) [.ref D]) Q E s := by
  have X := Z.X
  refine' new_flat (fun x => [(Str.ofString "self", .ref x), (Str.ofString "sets", .ref D)]) [kz (Str.ofString "sets") (.nm (Str.ofString "sets") (.ref D)) _ _ _ _] ?Z ?F ?N ?hm ?hi ?hf ?ho ?hcd ?hb ?hbind ?hloc ?hco ?hgen ?hkn ?hcell ?hself ?hkself ?h1 ?h2 ?h3 ?g1 ?g2 ?g3 ?g5 ?_
  walk_at "mine_flat"
  exact fun x d t u h' tk F' N' l1 l2 => h x d (t 0) h' tk F' N' l1 l2

theorem lookup_new {u0 tf tz : Tok} {fl : Int} {T : Addr} {Q : Value → Shared → Prop} (Z : At w A env L h₀ (n+3)) (F : Fr h₀ L s.heap m) (N : News h₀ L s.heap news)
    (h : ∀ x d t0 t1 t2 t3 h' tk, Fr h₀ L h' m → News h₀ L h' ((x, instObj 170 d) :: (d, dictOf [rawE w.params (Str.ofString "kind") t0 (.str (Str.ofString "ligature") u0), rawE w.params (Str.ofString "flag") t1 (.int fl tf), rawE w.params (Str.ofString "mark_set") t2 (.int 0 tz), rawE w.params (Str.ofString "tables") t3 (.ref T)] 4) :: news) → (∀ p ∈ news, p.1 < d) → d < x → Q (.ref x) { s with heap := h', toks := tk }) :
    wpAny (model prog w) A (call (.ref 170) [.str (Str.ofString "ligature") u0, .int fl tf, .int 0 tz, .ref T]) Q E s := by
  have X := Z.X
  refine' new_flat (fun x => [(Str.ofString "self", .ref x), (Str.ofString "kind", .str (Str.ofString "ligature") u0), (Str.ofString "flag", .int fl tf), (Str.ofString "mark_set", .int 0 tz), (Str.ofString "tables", .ref T)]) [kz (Str.ofString "kind") (.nm (Str.ofString "kind") (.str (Str.ofString "ligature") u0)) _ _ _ _, kz (Str.ofString "flag") (.nm (Str.ofString "flag") (.int fl tf)) _ _ _ _, kz (Str.ofString "mark_set") (.nm (Str.ofString "mark_set") (.int 0 tz)) _ _ _ _, kz (Str.ofString "tables") (.nm (Str.ofString "tables") (.ref T)) _ _ _ _] ?Z ?F ?N ?hm ?hi ?hf ?ho ?hcd ?hb ?hbind ?hloc ?hco ?hgen ?hkn ?hcell ?hself ?hkself ?h1 ?h2 ?h3 ?g1 ?g2 ?g3 ?g5 ?_
  walk_at "mine_flat"
  exact fun x d t u h' tk F' N' l1 l2 => h x d (t 0) (t 1) (t 2) (t 3) h' tk F' N' l1 l2

theorem cdef_new {D : Addr} {Q : Value → Shared → Prop} (Z : At w A env L h₀ (n+3)) (F : Fr h₀ L s.heap m) (N : News h₀ L s.heap news)
    (h : ∀ x d t h' tk, Fr h₀ L h' m → News h₀ L h' ((x, instObj 571 d) :: (d, dictOf [rawE w.params (Str.ofString "classes") t (.ref D)] 1) :: news) → (∀ p ∈ news, p.1 < d) → d < x → Q (.ref x) { s with heap := h', toks := tk }) :
    wpAny (model prog w) A (call (.ref 571) [.ref D]) Q E s := by
  have X := Z.X
  refine' new_flat (fun x => [(Str.ofString "self", .ref x), (Str.ofString "classes", .ref D)]) [kz (Str.ofString "classes") (.nm (Str.ofString "classes") (.ref D)) _ _ _ _] ?Z ?F ?N ?hm ?hi ?hf ?ho ?hcd ?hb ?hbind ?hloc ?hco ?hgen ?hkn ?hcell ?hself ?hkself ?h1 ?h2 ?h3 ?g1 ?g2 ?g3 ?g5 ?_
  walk_at "mine_flat"
  exact fun x d t u h' tk F' N' l1 l2 => h x d (t 0) h' tk F' N' l1 l2

theorem gdef_new {D1 D2 D3 : Addr} {Q : Value → Shared → Prop} (Z : At w A env L h₀ (n+3)) (F : Fr h₀ L s.heap m) (N : News h₀ L s.heap news)
    (h : ∀ x d t0 t1 t2 t3 t4 p1 p2 h' tk, Fr h₀ L h' m → News h₀ L h' ((x, instObj 619 d) :: (d, dictOf [rawE w.params (Str.ofString "classes") t0 (.ref D1), rawE w.params (Str.ofString "attach") t1 (.ref D2), rawE w.params (Str.ofString "sets") t2 (.ref D3), rawE w.params (Str.ofString "points") t3 (.ref p1), rawE w.params (Str.ofString "carets") t4 (.ref p2)] 5) :: news) → (∀ p ∈ news, p.1 < d) → d < x → Q (.ref x) { s with heap := h', toks := tk }) :
    wpAny (model prog w) A (call (.ref 619) [.ref D1, .ref D2, .ref D3]) Q E s := by
  have X := Z.X
  refine' call_new (fun x => [(Str.ofString "self", .ref x), (Str.ofString "classes", .ref D1), (Str.ofString "attach", .ref D2), (Str.ofString "sets", .ref D3), (Str.ofString "points", .none), (Str.ofString "carets", .none)]) (fun x d led => ∃ t0 t1 t2 t3 t4 p1 p2, led = [(x, instObj 619 d), (d, dictOf [rawE w.params (Str.ofString "classes") t0 (.ref D1), rawE w.params (Str.ofString "attach") t1 (.ref D2), rawE w.params (Str.ofString "sets") t2 (.ref D3), rawE w.params (Str.ofString "points") t3 (.ref p1), rawE w.params (Str.ofString "carets") t4 (.ref p2)] 5)]) ?Z ?F ?N ?hm ?hi ?hf ?ho ?hcd ?hbind ?hloc ?_ ?hco ?hgen ?hkn ?hcell ?kQ
  walk_at "mine_new"
  · intro x dx g' L' h₁ tk sg sd so dp fr gs un A₀ base p loose mean mg mb l2 lx B' T' X' Z' hU F' N'
    have hxd := neN (neL l2)
    have hxd' := neN (neG l2)
    refine inits X' rfl hxd' (x := x) rfl rfl (by k_is) (by k_is) (by k_is) [kz (Str.ofString "classes") (.nm (Str.ofString "classes") (.ref D1)) _ _ _ _, kz (Str.ofString "attach") (.nm (Str.ofString "attach") (.ref D2)) _ _ _ _, kz (Str.ofString "sets") (.nm (Str.ofString "sets") (.ref D3)) _ _ _ _] [] _ _ ?g1 ?g2 ?g3 (List.forall_mem_nil _) ?g5 F' N' fun t u h' tk' F'' N'' => ?_
    case g1 | g2 => walk_at "mine_lst"
    case g3 => exact of_decide_eq_true (by kernel_rfl)
    case g5 => exact Nat.le_of_ble_eq_true rfl
    replace N'' : News _ _ h' [(x, _), (dx, dictOf [rawE w.params (Str.ofString "classes") (t 0) (.ref D1), rawE w.params (Str.ofString "attach") (t 1) (.ref D2), rawE w.params (Str.ofString "sets") (t 2) (.ref D3)] 3)] := N''
    clear N' F'
    walk_at "mine_steps0"
    exact (show OutM _ _ _ _ _ _ from ⟨_, _, by assumption, News.sub (by assumption) (fun p hp => by
      revert p
      first | refine ac3 ?_ ?_ | refine ac2 ?_ ?_ | refine ac ?_ ?_
      · exact .tail _ (.tail _ (.head _))
      intro p hp
      · rw [List.mem_singleton.mp hp]; exact .tail _ (.tail _ (.tail _ (.head _)))), ⟨_, _, rfl⟩, rfl, _, _, _, _, _, _, _, rfl⟩)
  · rintro x d h' tk led' F' N' Nn l1 l2 ⟨t0, t1, t2, t3, t4, p1, p2, rfl⟩
    exact h x d t0 t1 t2 t3 t4 p1 p2 h' tk F' (News.app N' Nn) l1 l2

theorem info_new2 {c0 c1 c2 : Tok} {gl cl : Int} {Q : Value → Shared → Prop} (Z : At w A env L h₀ (n+3)) (F : Fr h₀ L s.heap m) (N : News h₀ L s.heap news)
    (h : ∀ (i : Inf) h' tk, Fr h₀ L h' m → News h₀ L h' ((i.a, instObj 52 i.d) :: (i.d, dictOf (i.es w.params) i.n) :: news) → (∀ p ∈ news, p.1 < i.d) → i.d < i.a → i.glyph = gl → i.mask = 0 → i.ligId = 0 → Q (.ref i.a) { s with heap := h', toks := tk }) :
    wpAny (model prog w) A (call (.ref 52) [.int 0 c0, .int gl c1, .int cl c2]) Q E s := by
  have X := Z.X
  refine' new_flat (fun x => [(Str.ofString "self", .ref x), (Str.ofString "code", .int 0 c0), (Str.ofString "glyph", .int gl c1), (Str.ofString "cluster", .int cl c2)]) [kz (Str.ofString "code") (.nm (Str.ofString "code") (.int 0 c0)) _ _ _ _, kz (Str.ofString "glyph") (.nm (Str.ofString "glyph") (.int gl c1)) _ _ _ _, kz (Str.ofString "cluster") (.nm (Str.ofString "cluster") (.int cl c2)) _ _ _ _, kz (Str.ofString "mask") (.int 0) _ _ _ _, kz (Str.ofString "is_unsafe") (.bool false) _ _ _ _, kz (Str.ofString "lig_id") (.int 0) _ _ _ _, kz (Str.ofString "lig_part") (.int 0) _ _ _ _, kz (Str.ofString "lig_count") (.int 0) _ _ _ _, kz (Str.ofString "split_id") (.int 0) _ _ _ _, kz (Str.ofString "kind") (.str (Str.ofString "")) _ _ _ _, kz (Str.ofString "x_advance") (.int 0) _ _ _ _, kz (Str.ofString "y_advance") (.int 0) _ _ _ _, kz (Str.ofString "x_offset") (.int 0) _ _ _ _, kz (Str.ofString "y_offset") (.int 0) _ _ _ _, kz (Str.ofString "parent") (.int 0) _ _ _ _, kz (Str.ofString "bond") (.str (Str.ofString "")) _ _ _ _] ?Z ?F ?N ?hm ?hi ?hf ?ho ?hcd ?hb ?hbind ?hloc ?hco ?hgen ?hkn ?hcell ?hself ?hkself ?h1 ?h2 ?h3 ?g1 ?g2 ?g3 ?g5 ?_
  walk_at "mine_flat"
  exact fun x d t u h' tk F' N' l1 l2 => h ⟨x, d, 16, t, fun j => if j = 0 then c0 else if j = 1 then c1 else if j = 2 then c2 else u j, gl, cl, 0, false, 0, 0, 0, 0⟩ h' tk F' N' l1 l2 rfl rfl rfl

theorem buffer_new {D : Addr} {Q : Value → Shared → Prop} (Z : At w A env L h₀ (n+3)) (F : Fr h₀ L s.heap m) (N : News h₀ L s.heap news)
    (h : ∀ x d t0 t1 t2 t3 u2 u3 h' tk, Fr h₀ L h' m → News h₀ L h' ((x, instObj 103 d) :: (d, dictOf [rawE w.params (Str.ofString "row") t0 (.ref D), rawE w.params (Str.ofString "is_backward") t1 (.bool false), rawE w.params (Str.ofString "last_lig") t2 (.int 0 u2), rawE w.params (Str.ofString "last_split") t3 (.int 0 u3)] 4) :: news) → (∀ p ∈ news, p.1 < d) → d < x → Q (.ref x) { s with heap := h', toks := tk }) :
    wpAny (model prog w) A (call (.ref 103) [.ref D]) Q E s := by
  have X := Z.X
  refine' new_flat (fun x => [(Str.ofString "self", .ref x), (Str.ofString "infos", .ref D), (Str.ofString "is_backward", .bool false)]) [kz (Str.ofString "row") (.nm (Str.ofString "infos") (.ref D)) _ _ _ _, kz (Str.ofString "is_backward") (.nm (Str.ofString "is_backward") (.bool false)) _ _ _ _, kz (Str.ofString "last_lig") (.int 0) _ _ _ _, kz (Str.ofString "last_split") (.int 0) _ _ _ _] ?Z ?F ?N ?hm ?hi ?hf ?ho ?hcd ?hb ?hbind ?hloc ?hco ?hgen ?hkn ?hcell ?hself ?hkself ?h1 ?h2 ?h3 ?g1 ?g2 ?g3 ?g5 ?_
  walk_at "mine_flat"
  exact fun x d t u h' tk F' N' l1 l2 => h x d (t 0) (t 1) (t 2) (t 3) (u 2) (u 3) h' tk F' N' l1 l2

theorem scene_new {D1 D2 D3 D4 : Addr} {u4 : Tok} {Q : Value → Shared → Prop} (Z : At w A env L h₀ (n+3)) (F : Fr h₀ L s.heap m) (N : News h₀ L s.heap news)
    (h : ∀ x d t0 t1 t2 t3 t4 t5 t6 p1 h' tk, Fr h₀ L h' m → News h₀ L h' ((x, instObj 192 d) :: (d, dictOf [rawE w.params (Str.ofString "buffer") t0 (.ref D1), rawE w.params (Str.ofString "gdef") t1 (.ref D2), rawE w.params (Str.ofString "lookups") t2 (.ref D3), rawE w.params (Str.ofString "lookup") t3 (.ref D4), rawE w.params (Str.ofString "mask") t4 (.int 1 u4), rawE w.params (Str.ofString "depth") t5 (.int 0 439), rawE w.params (Str.ofString "steps") t6 (.ref p1)] 7) :: news) → (∀ p ∈ news, p.1 < d) → d < x → Q (.ref x) { s with heap := h', toks := tk }) :
    wpAny (model prog w) A (call (.ref 192) [.ref D1, .ref D2, .ref D3, .ref D4, .int 1 u4]) Q E s := by
  have X := Z.X
  refine' call_new (fun x => [(Str.ofString "self", .ref x), (Str.ofString "buffer", .ref D1), (Str.ofString "gdef", .ref D2), (Str.ofString "lookups", .ref D3), (Str.ofString "lookup", .ref D4), (Str.ofString "mask", .int 1 u4), (Str.ofString "depth", .int 0 439)]) (fun x d led => ∃ t0 t1 t2 t3 t4 t5 t6 p1, led = [(x, instObj 192 d), (d, dictOf [rawE w.params (Str.ofString "buffer") t0 (.ref D1), rawE w.params (Str.ofString "gdef") t1 (.ref D2), rawE w.params (Str.ofString "lookups") t2 (.ref D3), rawE w.params (Str.ofString "lookup") t3 (.ref D4), rawE w.params (Str.ofString "mask") t4 (.int 1 u4), rawE w.params (Str.ofString "depth") t5 (.int 0 439), rawE w.params (Str.ofString "steps") t6 (.ref p1)] 7)]) ?Z ?F ?N ?hm ?hi ?hf ?ho ?hcd ?hbind ?hloc ?_ ?hco ?hgen ?hkn ?hcell ?kQ
  walk_at "mine_new"
  · intro x dx g' L' h₁ tk sg sd so dp fr gs un A₀ base p loose mean mg mb l2 lx B' T' X' Z' hU F' N'
    have hxd := neN (neL l2)
    have hxd' := neN (neG l2)
    refine inits X' rfl hxd' (x := x) rfl rfl (by k_is) (by k_is) (by k_is) [kz (Str.ofString "buffer") (.nm (Str.ofString "buffer") (.ref D1)) _ _ _ _, kz (Str.ofString "gdef") (.nm (Str.ofString "gdef") (.ref D2)) _ _ _ _, kz (Str.ofString "lookups") (.nm (Str.ofString "lookups") (.ref D3)) _ _ _ _, kz (Str.ofString "lookup") (.nm (Str.ofString "lookup") (.ref D4)) _ _ _ _, kz (Str.ofString "mask") (.nm (Str.ofString "mask") (.int 1 u4)) _ _ _ _, kz (Str.ofString "depth") (.nm (Str.ofString "depth") (.int 0 439)) _ _ _ _] [] _ _ ?g1 ?g2 ?g3 (List.forall_mem_nil _) ?g5 F' N' fun t u h' tk' F'' N'' => ?_
    case g1 | g2 => walk_at "mine_lst"
    case g3 => exact of_decide_eq_true (by kernel_rfl)
    case g5 => exact Nat.le_of_ble_eq_true rfl
    replace N'' : News _ _ h' [(x, _), (dx, dictOf [rawE w.params (Str.ofString "buffer") (t 0) (.ref D1), rawE w.params (Str.ofString "gdef") (t 1) (.ref D2), rawE w.params (Str.ofString "lookups") (t 2) (.ref D3), rawE w.params (Str.ofString "lookup") (t 3) (.ref D4), rawE w.params (Str.ofString "mask") (t 4) (.int 1 u4), rawE w.params (Str.ofString "depth") (t 5) (.int 0 439)] 6)] := N''
    clear N' F'
    walk_at "mine_steps0"
    exact (show OutM _ _ _ _ _ _ from ⟨_, _, by assumption, News.sub (by assumption) (fun p hp => by
      revert p
      first | refine ac3 ?_ ?_ | refine ac2 ?_ ?_ | refine ac ?_ ?_
      · exact .tail _ (.head _)
      intro p hp
      · rw [List.mem_singleton.mp hp]; exact .tail _ (.tail _ (.head _))), ⟨_, _, rfl⟩, rfl, _, _, _, _, _, _, _, _, rfl⟩)
  · rintro x d h' tk led' F' N' Nn l1 l2 ⟨t0, t1, t2, t3, t4, t5, t6, p1, rfl⟩
    exact h x d t0 t1 t2 t3 t4 t5 t6 p1 h' tk F' (News.app N' Nn) l1 l2
theorem cls_dict {p1 p2 p3 p4 p5 p6 p7 p8 pos : Pos} {Q : Value → Shared → Prop} (Z : At w A env L h₀ n) (F : Fr h₀ L s.heap m) (N : News h₀ L s.heap news)
    (h : ∀ D o kvs h' tk, Fr h₀ L h' m → News h₀ L h' ((D, o) :: news) → (∀ p ∈ news, p.1 < D) → (D == sysModules) = false → o.IsDictOf (intKind prog w) kvs → PyProof.V.FlatPairs PyData.int kvs clsData → Q (.ref D) { s with heap := h', toks := tk }) :
    wpAny (model prog w) A (eval (.Dict [some (.Constant (.int 1) 0 p1), some (.Constant (.int 2) 0 p2), some (.Constant (.int 3) 0 p3), some (.Constant (.int 4) 0 p4)] [.Constant (.int 1) 0 p5, .Constant (.int 1) 0 p6, .Constant (.int 3) 0 p7, .Constant (.int 3) 0 p8] pos) env) Q E s := by
  obtain ⟨A₀, base, outer, p, loose, mean, mg, mb, B, T, hA⟩ := Z.ex
  with_reducible refine kdn_int ?a1 F N T.nolimit ?a2 ?a3 ?a4 ?a5 fun d h1 o F1 N1 l1 lo hd => ?_
  (case a1 => rfl); (case a2 => rfl); (case a3 => rfl); (case a4 => exact List.cons_ne_nil _ _); (case a5 => exact Nat.le_of_ble_eq_true rfl)
  refine evalPairs_lits _ _ clsData _ _ (by rfl) fun vs tk hr => ?_
  obtain ⟨e1, e2, e3⟩ := hr.int rfl
  refine kdn_made_int (s := { s with heap := h1, toks := tk }) F1 N1 (UpdF.head fun q hq => neL (l1 q hq)) hd e1 (by rw [e2]; decide) fun h2 o2 F2 N2 hd2 => ?_
  exact h d o2 _ h2 _ F2 N2 l1 lo hd2 e3
theorem dict_each {ks : List (Option PySem.Expr)} {vs rest : List PySem.Expr} {p : Pos} {env : Env} : starEach (.Dict ks vs p :: rest) env = (false, eval (.Dict ks vs p) env) :: starEach rest env := rfl
theorem plain_nil {p : Pos} {env : Env} : (backTo p (starEach [] env)).any (·.1) = false := rfl
theorem cw_dict {K : Frag} {f : Value} {first : List Value} {ks : List (Option PySem.Expr)} {vs : List PySem.Expr} {p p0 : Pos} {Q : Value → Shared → Prop} (X : K.In h₀) (hk : keepIn K f = true)
    (h : wpAny (model prog w) A (spliced (backTo p0 (starEach [.Dict ks vs p] env))) (fun vs s₁ => K.In s₁.heap ∧ wpAny (model prog w) A (call f (first ++ vs)) Q E s₁) E s) :
    wpAny (model prog w) A (callWith p0 f first (backTo p0 (starEach [.Dict ks vs p] env)) []) Q E s := callWith_K X hk h dict_each plain_nil
theorem cw_dict2 {K : Frag} {f : Value} {first : List Value} {ks : List (Option PySem.Expr)} {vs : List PySem.Expr} {p p0 : Pos} {Q : Value → Shared → Prop} (X : K.In h₀) (hk : keepIn K f = true)
    (h : wpAny (model prog w) A (eval (.Dict ks vs p) env) (fun v s₁ => K.In s₁.heap ∧ wpAny (model prog w) A (call f (first ++ [v])) Q E s₁) E s) :
    wpAny (model prog w) A (callWith p0 f first (backTo p0 (starEach [.Dict ks vs p] env)) []) Q E s :=
  cw_dict X hk (spliced_more (wpAny_mono h (fun v s₁ h₁ => spliced_none h₁) fun _ _ e => e) dict_each)
theorem eqvAll_ints : ∀ ns : List Int, PyData.eqvAll (ns.map PyData.int) (ns.map PyData.int) = true
  | [] => by simp [PyData.eqvAll]
  | a :: r => by simp [PyData.eqvAll, PyData.eqv, eqvAll_ints r]
theorem shaped_pair (x : Int) (ns : List Int) : SeqAt.shaped (.tuple [.int x, .list (ns.map PyData.int)]) = true := by
  simp [SeqAt.shaped, PyData.canLay0, PyData.canLayAll0, PyData.depth, PyData.depthAll, ke_canLayAll0, ke_depthAll]
theorem reads_pair {h : Heap} {a l k1 k2 : Nat} {x : Int} {t : Tok} {vs : List Value} {ns : List Int} (ha : h.get? a = some (tupOf [.int x t, .ref l] k1)) (hl : h.get? l = some (listOf vs.toArray k2)) (hi : IntsAre vs ns) : ∃ as, Reads h (.ref a) (.tuple [.int x, .list (ns.map PyData.int)]) as := by
  exact ⟨_, reads_tuple_at ha rfl rfl (ReadsAll.cons (Reads.int _ _) (ReadsAll.cons (reads_newData ⟨_, hl, rfl, _, rfl⟩ (ke_carried hi)) ReadsAll.nil))⟩
theorem ne_pairs {a b l1 l2 k1 k2 k3 k4 : Nat} {x : Int} {t1 t2 : Tok} {vs ws : List Value} {ns : List Int} {Q : Value → Shared → Prop} (N : News h₀ L s.heap news) (ha : (a, tupOf [.int x t1, .ref l1] k1) ∈ news) (hb : (b, tupOf [.int x t2, .ref l2] k2) ∈ news) (h1 : (l1, listOf vs.toArray k3) ∈ news) (h2 : (l2, listOf ws.toArray k4) ∈ news)
    (hi : IntsAre vs ns) (hj : IntsAre ws ns) (hu : A.units + 64 < cLine) (h : Q (.bool false) s) : wpAny (model prog w) A (compareOp .NotEq (.ref a) (.ref b)) Q E s := by
  obtain ⟨as, r1⟩ := reads_pair (N _ ha).1 (N _ h1).1 hi
  obtain ⟨bs, r2⟩ := reads_pair (N _ hb).1 (N _ h2).1 hj
  refine ne_dataH r1 r2 (shaped_pair _ _) (shaped_pair _ _) hu ?_
  simp only [PyData.eqv, PyData.eqvAll, eqvAll_ints, beq_self_eq_true, Bool.and_true, Bool.true_and, Bool.not_true]
  exact h
theorem dropAt_le {α : Type} (ps : List Nat) (l : List α) : (dropAt ps l).length ≤ l.length := by
  unfold dropAt
  exact Nat.le_trans (List.length_filterMap_le _ _) (by simp)
theorem rowsDue_len {pass : Bool} {gl : List Int} {at_ : Nat} : ∀ {rs : List TRow} {i : Int} {g : List Int}, rowsDue pass gl at_ rs = some (i, g) → g.length ≤ gl.length
  | [], _, _, h => by cases h
  | r :: rs, i, g, h => by
    unfold rowsDue at h
    split at h
    · cases h
      exact Nat.le_trans (dropAt_le _ _) (by simp)
    · exact rowsDue_len h
theorem dueL_len {pass : Bool} {gl : List Int} {at_ : Nat} : ∀ {ls : List (List TRow)} {i : Int} {g : List Int}, dueL pass gl at_ ls = some (i, g) → g.length ≤ gl.length
  | [], _, _, h => by cases h
  | r :: rs, i, g, h => by
    rw [dueL] at h
    split at h
    · rename_i q hq
      cases h
      exact rowsDue_len hq
    · exact dueL_len h
local macro_rules | `(tactic| walk_at "st_l") => `(tactic| ((fail_if_success (with_reducible show wpAny _ _ (eval (Expr.Dict (_ :: _) _ _) _) _ _ _)); (fail_if_success (with_reducible refine at_call (l := stL) (by decide) ?_))))
local macro_rules | `(tactic| walk_at "st_ifx") => `(tactic| (fail_if_success (with_reducible show wpAny _ _ (eval (Expr.IfExp _ _ _ _) _) _ _ _)))
local macro_rules | `(tactic| walk_at "st_ty") => `(tactic| ((fail_if_success (with_reducible show wpAny _ _ (call (Value.type "dict") _ _) _ _ _)); (fail_if_success (with_reducible show wpAny _ _ (call (Value.type "list") _ _) _ _ _))))
local macro_rules | `(tactic| walk_at "mine_stopU") => `(tactic| ((try k_fold); repeat' (walk_at "st_l"; walk_at "st_att"; walk_at "st_item"; walk_at "st_loop"; walk_at "st_gen"; walk_at "st_one")))
local macro_rules | `(tactic| walk_at "mine_stopV") => `(tactic| ((try k_fold); repeat' (walk_at "st_l"; walk_at "st_att"; walk_at "st_item"; walk_at "st_loop"; walk_at "st_ass"; walk_at "st_gen"; walk_at "st_one")))
local macro_rules | `(tactic| walk_at "mine_stopX") => `(tactic| ((try k_fold); repeat' (walk_at "st_l"; walk_at "st_ty"; walk_at "st_att"; walk_at "st_item"; walk_at "st_loop"; walk_at "st_ass"; walk_at "st_gen"; walk_at "st_one")))
local macro_rules | `(tactic| walk_at "mine_stopW") => `(tactic| ((try k_fold); repeat' (walk_at "st_l"; walk_at "st_ifx"; walk_at "st_ty"; walk_at "st_att"; walk_at "st_item"; walk_at "st_loop"; walk_at "st_ass"; walk_at "st_gen"; walk_at "st_one")))
local macro_rules | `(tactic| walk_at "mine_stopY") => `(tactic| ((try k_fold); repeat' (walk_at "st_l"; walk_at "st_ifx"; walk_at "st_ty"; walk_at "st_item"; walk_at "st_loop"; walk_at "st_ass"; walk_at "st_gen"; walk_at "st_one")))
local macro_rules | `(tactic| walk_at "mine_one") => `(tactic| (walk_at "st_l"; walk_at "st_ifx"; walk_at "st_ty"; walk_at "st_item"; walk_at "st_loop"; walk_at "st_ass"; walk_at "st_gen"; walk_at "st_one"))
local macro_rules | `(tactic| walk_at "subscriptTail Name Name ref int") => `(tactic| (k_here; k_dflt (refine kda_item (knd := PySem.intKind _ _) (by k_asm) (by k_mem) (by assumption) (intKind_is _ _ _ _) (by assumption) ?_)))
local macro_rules | `(tactic| walk_at "spliced") => `(tactic| ((with_reducible show wpAny _ _ (spliced (backTo _ (starEach (Expr.Dict _ _ _ :: _) _))) _ _ _); refine spliced_more ?_ dict_each))
local macro_rules | `(tactic| k_in) => `(tactic| with_reducible first | assumption | exact Frag.In.keeps (by assumption) (Fr.keep (by assumption)))
local macro_rules | `(tactic| tm_at "eq") => `(tactic| exact PyProof.Rows.v_eq_bool (PyProof.Rows.v_res (by rfl)) PyProof.Rows.v_lit)
set_option hygiene true
local macro_rules | `(tactic| walk_at "callWith ref") => `(tactic| ((with_reducible refine' cw_dict2 ?k1 ?k2 ?_); (case k1 => assumption); (case k2 => k_is)))
set_option hygiene false

theorem with_At {body : List Stmt} {Q : Flow → Shared → Prop} (h : At w A env L h₀ n → wpAny (model prog w) A (execs body env) Q E s) (Z : At w A env L h₀ n) : wpAny (model prog w) A (execs body env) Q E s := h Z
inductive LawEnd (g : Heap) (L : Addr) (s : Shared) (f : Flow) (s' : Shared) : Prop
  | mk (h : f = .ret (.bool true)) (m : Map) (ps' : _) (hs : Same s s') (F : Fr g L s'.heap m) (N : News g L s'.heap [(625, tabObj ps')])
abbrev tkCons (T : Tk) (k : Int) (t : Tok) (X : Led) : Led := (T.lp, listOf [Value.int k t].toArray 0) :: (T.f, T.fo) :: (T.c, T.oc) :: (T.c1, T.o1) :: (T.c2, T.o2) :: (T.lc, listOf T.vs.toArray T.nc) :: X
theorem addrsZ {P : Addr → Prop} {l l' : Led} (e : l'.map (·.1) = l.map (·.1)) (h : ∀ p ∈ l, P p.1) : ∀ p ∈ l', P p.1 := by
  intro p hp
  have h1 : p.1 ∈ l'.map (·.1) := List.mem_map_of_mem hp
  rw [e] at h1
  obtain ⟨q, hq, e2⟩ := List.mem_map.mp h1
  rw [← e2]; exact h q hq
theorem tab_turn {T : Tk} {k k' : Int} {t t' : Tok} {tab : Tab} {h h' : Heap} {P S : Led} (N : News h₀ L h (P ++ tkCons T k t S)) (N' : News h₀ L h' (T.led k' t' ++ tab.led)) (c : Chg [T.lp] h h') (hP : ∀ p ∈ P, p.1 ≠ T.lp) (hS : ∀ p ∈ S, p.1 ≠ T.lp) :
    News h₀ L h' (P ++ tkCons T k' t' (S ++ tab.led)) := by
  intro p hp
  have old : ∀ q ∈ P ++ tkCons T k t S, q.1 ≠ T.lp → h'.get? q.1 = some q.2 ∧ q.1 ≠ L ∧ h₀.get? q.1 = none := fun q hq hne => ⟨c _ _ (N q hq).1 (by simpa using hne), (N q hq).2⟩
  rcases List.mem_append.mp hp with hp | hp
  · exact old p (List.mem_append_left _ hp) (hP p hp)
  rcases List.mem_append.mp (show p ∈ T.led k' t' ++ (S ++ tab.led) from hp) with hp | hp
  · exact N' p (List.mem_append_left _ hp)
  rcases List.mem_append.mp hp with hp | hp
  · exact old p (List.mem_append_right _ (show p ∈ T.led k t ++ S from List.mem_append_right _ hp)) (hS p hp)
  · exact N' p (List.mem_append_right _ hp)
def lwL (sc : Addr) (pass : Bool) (TBL : Addr) (vlk vgd vat vis vif vbu vix : Option Value) : List (Str × Option Value) := [(Str.ofString "index", vix), (Str.ofString "buffer", vbu), (Str.ofString "info", vif), (Str.ofString "infos", vis), (Str.ofString "at", vat), (Str.ofString "gdef", vgd), (Str.ofString "lookup", vlk), (Str.ofString "tables", some (.ref TBL)), (Str.ofString "is_passing", some (.bool pass)), (Str.ofString "script", some (.ref sc))]
def lwMap (sc : Addr) (pass : Bool) (TBL : Addr) (vlk vgd vat vis vif vbu vix : Option Value) : Map := mapL (lwL sc pass TBL vlk vgd vat vis vif vbu vix)
theorem lw_init {sc : Addr} {pass : Bool} {TBL : Addr} : (fun y => if y = Str.ofString "tables" then some (Value.ref TBL) else if y = Str.ofString "is_passing" then some (Value.bool pass) else if y = Str.ofString "script" then some (.ref sc) else none) = lwMap sc pass TBL none none none none none none none :=
  (mapL_none (l := [(Str.ofString "tables", some (.ref TBL)), (Str.ofString "is_passing", some (.bool pass)), (Str.ofString "script", some (.ref sc))]) (by kernel_rfl)).trans ((mapL_none (by kernel_rfl)).trans ((mapL_none (by kernel_rfl)).trans ((mapL_none (by kernel_rfl)).trans ((mapL_none (by kernel_rfl)).trans ((mapL_none (by kernel_rfl)).trans (mapL_none (k := Str.ofString "index") (by kernel_rfl)))))))
def IfP (pass : Bool) (h : Heap) (s : Shared) (v : Value) (s' : Shared) : Prop := ∃ t, v = .int (flagOf pass) t ∧ ∃ tk, s' = { s with heap := h, toks := tk }
abbrev Cp := Addr × Tok × TSet
abbrev cpLed (c : Cp) : Led := [(c.1, tupOf [.int c.2.2.key c.2.1, .ref c.2.2.la] 0), (c.2.2.la, listOf (c.2.2.rows.map fun r => Value.ref r.a).toArray c.2.2.ln)]
theorem valueAt_of : ∀ {kvs : List (Int × Value)}, (kvs.map (·.1)).Nodup → ∀ {i : Nat} {k : Int} {v : Value}, kvs[i]? = some (k, v) → valueAt kvs k = some v
  | [], _, i, k, v, h => by simp at h
  | p :: r, hn, 0, k, v, h => by
    simp at h
    subst h
    simp [valueAt]
  | p :: r, hn, i + 1, k, v, h => by
    rw [List.map_cons, List.nodup_cons] at hn
    have hm : k ∈ r.map (·.1) := List.mem_map.mpr ⟨(k, v), List.mem_of_getElem? (by simpa using h), rfl⟩
    have hne : ¬ p.1 = k := fun e => hn.1 (e ▸ hm)
    have ih := valueAt_of hn.2 (i := i) (k := k) (v := v) (by simpa using h)
    unfold valueAt at ih ⊢
    rw [List.find?_cons, decide_eq_false hne]
    exact ih
theorem dict_nodup {o : Obj} {kvs : List (Int × Value)} (h : o.IsDictOf (intKind prog w) kvs) : (kvs.map (·.1)).Nodup := by
  obtain ⟨ep, es, _, _, _, _, hn⟩ := KdkAt.of h
  exact hn
abbrev keyRows (s : TSet) : Int × List TRow := (s.key, s.rows)
theorem rowsOf_eq : ∀ {a b : List TSet} {x : Int}, a.map keyRows = b.map keyRows → ((a.find? fun s => s.key = x).map fun s => s.rows) = ((b.find? fun s => s.key = x).map fun s => s.rows)
  | [], [], _, _ => rfl
  | p :: r, q :: t, x, h => by
    rw [List.map_cons, List.map_cons] at h
    injection h with h1 h2
    injection h1 with h3 h4
    rw [List.find?_cons, List.find?_cons, h3]
    by_cases e : q.key = x
    · simp [e, h4]
    · simp only [e, decide_false]; exact rowsOf_eq h2
theorem rowsOf_same {a b : Tab} {x : Int} (h : a.sets.map keyRows = b.sets.map keyRows) : a.rowsOf x = b.rowsOf x := by
  have e := rowsOf_eq (x := x) h
  unfold Tab.rowsOf
  revert e
  cases a.sets.find? (fun s => s.key = x) <;> cases b.sets.find? (fun s => s.key = x) <;> simp
theorem lw_at {sc : Addr} {pass : Bool} {TBL : Addr} {vlk vgd vat vis vif vbu vix v : Option Value} : (fun y => if y = Str.ofString "at" then v else lwMap sc pass TBL vlk vgd vat vis vif vbu vix y) = lwMap sc pass TBL vlk vgd v vis vif vbu vix := mapL_set (l := lwL sc pass TBL vlk vgd vat vis vif vbu vix) (by kernel_rfl)
theorem lw_infos {sc : Addr} {pass : Bool} {TBL : Addr} {vlk vgd vat vis vif vbu vix v : Option Value} : (fun y => if y = Str.ofString "infos" then v else lwMap sc pass TBL vlk vgd vat vis vif vbu vix y) = lwMap sc pass TBL vlk vgd vat v vif vbu vix := mapL_set (l := lwL sc pass TBL vlk vgd vat vis vif vbu vix) (by kernel_rfl)
theorem lw_info {sc : Addr} {pass : Bool} {TBL : Addr} {vlk vgd vat vis vif vbu vix v : Option Value} : (fun y => if y = Str.ofString "info" then v else lwMap sc pass TBL vlk vgd vat vis vif vbu vix y) = lwMap sc pass TBL vlk vgd vat vis v vbu vix := mapL_set (l := lwL sc pass TBL vlk vgd vat vis vif vbu vix) (by kernel_rfl)
theorem lw_set {sc : Addr} {pass : Bool} {TBL : Addr} {vlk vgd vat vis vif vbu vix v1 v2 : Option Value} : (fun y => if y = Str.ofString "index" then v1 else if y = Str.ofString "buffer" then v2 else lwMap sc pass TBL vlk vgd vat vis vif vbu vix y) = lwMap sc pass TBL vlk vgd vat vis vif v2 v1 :=
  (congrArg (fun (M : Map) => fun y => if y = Str.ofString "index" then v1 else M y) (mapL_set (l := lwL sc pass TBL vlk vgd vat vis vif vbu vix) (k := Str.ofString "buffer") (v := v2) (l' := lwL sc pass TBL vlk vgd vat vis vif v2 vix) (by kernel_rfl))).trans (mapL_set (l := lwL sc pass TBL vlk vgd vat vis vif v2 vix) (by kernel_rfl))
theorem nd_of {infos : List Inf} (h1 : ∀ x ∈ infos, x.d < x.a) (h2 : infos.Pairwise (fun x y => x.a < y.d)) : NdI infos := by
  have key : ∀ (j k : Nat) (i i' : Inf), infos[j]? = some i → infos[k]? = some i' → j < k → i.a < i'.d := fun j k i i' hj hk hlt => by
    obtain ⟨a1, a2⟩ := List.getElem?_eq_some_iff.mp hj
    obtain ⟨b1, b2⟩ := List.getElem?_eq_some_iff.mp hk
    have := List.pairwise_iff_getElem.mp h2 j k a1 b1 hlt
    rwa [a2, b2] at this
  intro j k i i' hj hk hne
  have m1 := h1 i (List.mem_of_getElem? hj)
  have m2 := h1 i' (List.mem_of_getElem? hk)
  rcases Nat.lt_or_gt_of_ne hne with h | h
  · have := key j k i i' hj hk h
    exact ⟨neL (Nat.lt_trans this m2), neL (Nat.lt_trans m1 this), neL this⟩
  · have := key k j i' i hk hj h
    exact ⟨neG (Nat.lt_trans this m1), neG (Nat.lt_trans m2 this), neG (Nat.lt_trans (Nat.lt_trans m2 this) m1)⟩
theorem lw_buf {sc : Addr} {pass : Bool} {TBL : Addr} {vlk vgd vat vis vif vbu vix v : Option Value} : (fun y => if y = Str.ofString "buffer" then v else lwMap sc pass TBL vlk vgd vat vis vif vbu vix y) = lwMap sc pass TBL vlk vgd vat vis vif v vix := mapL_set (l := lwL sc pass TBL vlk vgd vat vis vif vbu vix) (by kernel_rfl)
theorem lw_index {sc : Addr} {pass : Bool} {TBL : Addr} {vlk vgd vat vis vif vbu vix v : Option Value} : (fun y => if y = Str.ofString "index" then v else lwMap sc pass TBL vlk vgd vat vis vif vbu vix y) = lwMap sc pass TBL vlk vgd vat vis vif vbu v := mapL_set (l := lwL sc pass TBL vlk vgd vat vis vif vbu vix) (by kernel_rfl)
structure Keep (p : Prop) : Prop where
  h : p
theorem lw_two {sc : Addr} {pass : Bool} {TBL : Addr} {vlk vgd vat vis vif vbu vix v1 v2 : Option Value} : (fun y => if y = Str.ofString "gdef" then v1 else if y = Str.ofString "lookup" then v2 else lwMap sc pass TBL vlk vgd vat vis vif vbu vix y) = lwMap sc pass TBL v2 v1 vat vis vif vbu vix :=
  (congrArg (fun (M : Map) => fun y => if y = Str.ofString "gdef" then v1 else M y) (mapL_set (l := lwL sc pass TBL vlk vgd vat vis vif vbu vix) (k := Str.ofString "lookup") (v := v2) (l' := lwL sc pass TBL v2 vgd vat vis vif vbu vix) (by kernel_rfl))).trans (mapL_set (l := lwL sc pass TBL v2 vgd vat vis vif vbu vix) (by kernel_rfl))

inductive LwA (L : Addr) (oR : Obj) (oT3 : Obj) (T : Tk) (ps2 : Array Value) (i : Nat) (ys : List Value) (led : Led) : Prop
  | mk (k' t' ns : _) (h1 : led = (L + 1 + 1, oR) :: (L + 1, oT3) :: tkCons T k' t' [(625, tabObj ps2)]) (h2 : 1 ≤ k') (h3 : k' ≤ 1 + i) (h4 : IntsAre ys ns) (h5 : ns.length = i)
inductive LwB (R : Addr) (rvs : List Value) (rk : Nat) (L : Addr) (oR4 : Obj) (oT3 : Obj) (T : Tk) (ps2 : Array Value) (w : World) (i : Nat) (ys : List Value) (led : Led) : Prop
  | mk (tabs : List Tab) (k' : Int) (t' : Tok) (h1 : led = [(R, listOf rvs.toArray rk), (L + 1 + 1, oR4), (L + 1, oT3)] ++ tkCons T k' t' ((625, tabObj ps2) :: tabs.flatMap Tab.led)) (h2 : ys = tabs.map (fun t => Value.ref t.d)) (h3 : tabs.length = i) (h4 : 0 ≤ k') (h5 : k' ≤ 50 + 20 * i) (h6 : (∀ t ∈ tabs, t.ok Challenge.rw_pb0204_01.row.prog w ∧ t.sets.length ≤ 3)) (h7 : ∀ p ∈ tabs.flatMap Tab.led, p.1 ≠ T.lp)
inductive LwC (P : Params) (base : Led) (tabs : List Tab) (w : World) (i : Nat) (ys : List Value) (led : Led) : Prop
  | mk (ligs : List Lig) (h1 : led = base ++ ligs.flatMap (ligLed P)) (h2 : ys = ligs.map (fun l => Value.ref l.a)) (h3 : ligs.length = i) (h4 : (ligs.map fun l => l.tab.sets.map keyRows) = (tabs.take i).map (fun t => t.sets.map keyRows)) (h5 : ∀ l ∈ ligs, l.tab.ok Challenge.rw_pb0204_01.row.prog w)
inductive LwD (t : Tab) (IL : Addr) (oI : Obj) (Kc : Addr) (oK : Obj) (C3 : Addr) (oC : Obj) (D3 : Addr) (oD : Obj) (base2 : Led) (i2 : Nat) (ys : List Value) (led : Led) : Prop
  | mk (cs : List Cp) (h1 : led = (t.d, t.om) :: (IL, oI) :: (Kc, oK) :: (C3, oC) :: (D3, oD) :: (base2 ++ cs.flatMap cpLed)) (h2 : ys = cs.map (fun c => Value.ref c.1)) (h3 : cs.length = i2) (h4 : (cs.map fun c => keyRows c.2.2) = (t.sets.take i2).map keyRows) (h5 : ∀ p ∈ cs.flatMap cpLed, IL < p.1 ∧ Kc < p.1 ∧ C3 < p.1 ∧ D3 < p.1)
inductive LwE (L : Addr) (oR4 : Obj) (R : Addr) (rvs : List Value) (rk : Nat) (mb : Led) (sc : Addr) (pass : Bool) (TBL : Addr) (lkr : Lk) (gd : Gd) (j : Nat) (m₁ : Map) (led₁ : Led) : Prop
  | mk (h1 : led₁ = (L + 1 + 1, oR4) :: (R, listOf rvs.toArray rk) :: mb) (vat vis vif vbu vix : _) (h2 : m₁ = lwMap sc pass TBL (some (.ref lkr.lk)) (some (.ref gd.gdf)) vat vis vif vbu vix)
inductive LwF (P : Params) (I : Addr) (o : Obj) (L : Addr) (oR4 : Obj) (R : Addr) (rvs : List Value) (rk : Nat) (mb : Led) (gl : List Int) (i : Nat) (ys : List Value) (led : Led) : Prop
  | mk (infos : List Inf) (h1 : led = (I, o) :: (L + 1 + 1, oR4) :: (R, listOf rvs.toArray rk) :: (mb ++ infoLed P infos)) (h2 : ys = infos.map (fun i => Value.ref i.a)) (h3 : infos.length = i) (h4 : glOf infos = gl.take i) (h5 : (∀ x ∈ infos, x.mask = 0 ∧ x.ligId = 0 ∧ x.d < x.a ∧ I < x.d ∧ ∀ p ∈ mb, p.1 < x.d)) (h6 : infos.Pairwise (fun x y => x.a < y.d))
inductive LwG (P : Params) (RW : Addr) (infos : List Inf) (rwn : Nat) (I : Addr) (o : Obj) (L : Addr) (oR4 : Obj) (R : Addr) (rvs : List Value) (rk : Nat) (mb : Led) (sc : Addr) (pass : Bool) (TBL : Addr) (lkr : Lk) (gd : Gd) (j : Nat) (tk43 : Tok) (vbu : Option Value) (vix : Option Value) (jj : Nat) (m₁ : Map) (led₁ : Led) : Prop
  | mk (infos' vif' : _) (h1 : led₁ = (RW, listOf (infos.map fun i => Value.ref i.a).toArray rwn) :: (I, o) :: (L + 1 + 1, oR4) :: (R, listOf rvs.toArray rk) :: (mb ++ infoLed P infos')) (h2 : (infos'.map fun i => (i.a, i.d)) = (infos.map fun i => (i.a, i.d))) (h3 : glOf infos' = glOf infos) (h4 : (∀ (kk : Nat) (x : Inf), infos'[kk]? = some x → kk < jj → x.mask = 1)) (h5 : (∀ x ∈ infos', x.ligId = 0)) (h6 : m₁ = lwMap sc pass TBL (some (.ref lkr.lk)) (some (.ref gd.gdf)) (some (.int ((j : Nat) : Int) tk43)) (some (.ref RW)) vif' vbu vix)
inductive LwQ (pass : Bool) (infos' : List Inf) (j : Nat) (x : Int) (ligs : List Lig) (s : Shared) (g : Heap) (L : Addr) (M : Map) (P : Params) (lgn : Nat) (c : Sc) (I : Addr) (o : Obj) (mb : Led) (v : Value) (s' : Shared) : Prop
  | mk (ix g' ll tl nr infos2 t h60 tk60 : _) (h1 : (tabsDue pass (glOf infos') j x ligs).getD (-1, glOf infos') = (ix, g')) (h2 : v = .int ix t) (h3 : glOf infos2 = g') (h4 : infos2.length ≤ 80) (h5 : s' = { s with heap := h60, toks := tk60 }) (h6 : Fr g L h60 M) (h7 : News g L h60 (saFoot P ligs lgn c pass ll tl 4 infos2 nr)) (h8 : News g L h60 ((I, o) :: mb))
theorem tail2 {a b : Addr × Obj} {A B : Led} : ∀ p ∈ A ++ (B ++ [a, b]), p ∈ a :: b :: (A ++ B) := fun p hp => by
  rcases List.mem_append.mp hp with h | h
  · exact .tail _ (.tail _ (List.mem_append_left _ h))
  rcases List.mem_append.mp h with h | h
  · exact .tail _ (.tail _ (List.mem_append_right _ h))
  rcases List.mem_cons.mp h with rfl | h
  · exact .head _
  · rw [List.mem_singleton.mp h]; exact .tail _ (.head _)
theorem tail2' {a b : Addr × Obj} {A B : Led} {P : Addr × Obj → Prop} (h : ∀ p ∈ A ++ B, P p) (ha : P a) (hb : P b) : ∀ p ∈ A ++ (B ++ [a, b]), P p := fun p hp => by
  rcases List.mem_cons.mp (tail2 p hp) with rfl | hp
  · exact ha
  revert p
  first | refine ac3 ?_ ?_ | refine ac2 ?_ ?_ | refine ac ?_ ?_
  · exact hb
  intro p hp
  · exact h p hp
/- The head that follows would lay a copy of each of the top's objects beside it (named law_holds.tw..), 110 MB in the compiled file, with no need here. The names are taken ahead of it. -/
theorem law_holds.tw5062152199769849712 : True := trivial
theorem law_holds.tw5389484754426515990 : True := trivial
theorem law_holds.tw13154458805202713791 : True := trivial
theorem law_holds.tw17480344262867656076 : True := trivial
theorem law_holds.tw13766487248619392586 : True := trivial
theorem law_holds.tw12303009252429188658 : True := trivial
theorem law_holds.tw12780804625047726367 : True := trivial
theorem law_holds.tw718173064312146323 : True := trivial
theorem law_holds.tw16614716721108272449 : True := trivial
theorem law_holds.tw602461330855297101 : True := trivial
theorem law_holds.tw18326849912455186884 : True := trivial
theorem law_holds.tw15607887362523206001 : True := trivial
theorem law_holds.tw12831907817818079685 : True := trivial
theorem law_holds.tw15544829507116839252 : True := trivial
theorem law_holds.tw16836969012518115619 : True := trivial
theorem law_holds.tw10817052189556005596 : True := trivial
theorem law_holds.tw3438298445031660282 : True := trivial
theorem law_holds.tw10188763426450519768 : True := trivial
theorem law_holds.tw3426384778480675251 : True := trivial
theorem law_holds.tw4781243967656130014 : True := trivial
theorem law_holds.tw4441770287765753910 : True := trivial
theorem law_holds.tw8652346329174877282 : True := trivial
theorem law_holds.tw12116493165278983582 : True := trivial
theorem law_holds.tw545109181885906688 : True := trivial
theorem law_holds.tw12115171985352901274 : True := trivial
theorem law_holds.tw17713402740875732926 : True := trivial
theorem law_holds.tw724200737284857819 : True := trivial
theorem law_holds.tw10566571302883470556 : True := trivial
theorem law_holds.tw11404014056486942332 : True := trivial
theorem law_holds.tw7408322871517469003 : True := trivial
theorem law_holds.tw11347954631545130290 : True := trivial
theorem law_holds.tw8984712037535005518 : True := trivial
theorem law_holds.tw2043166853727251185 : True := trivial
theorem law_holds.tw7185456241796803578 : True := trivial
theorem law_holds.tw3776956092104397036 : True := trivial
theorem law_holds.tw3035144380315620824 : True := trivial
theorem law_holds.tw8970147916757833333 : True := trivial
theorem law_holds.tw498061464947678834 : True := trivial
theorem law_holds.tw784011647948385275 : True := trivial
theorem law_holds.tw3253568177066640346 : True := trivial
theorem law_holds.tw18254337876149969668 : True := trivial
theorem law_holds.tw5506821171919863439 : True := trivial
theorem law_holds.tw6776455111828631412 : True := trivial
theorem law_holds.tw14925382992726071281 : True := trivial
theorem law_holds.tw4464252984393422682 : True := trivial
theorem law_holds.tw9552830710289189752 : True := trivial
theorem law_holds.tw2503670479209048990 : True := trivial
theorem law_holds.tw6860709855171689206 : True := trivial
theorem law_holds.tw14774650325386425613 : True := trivial
theorem law_holds.tw15274831704391544125 : True := trivial
theorem law_holds.tw10371022188087798493 : True := trivial
theorem law_holds.tw653560878884961445 : True := trivial
theorem law_holds.tw2102315897755806987 : True := trivial
theorem law_holds.tw12459966957829302596 : True := trivial
theorem law_holds.tw14385925486924208373 : True := trivial
theorem law_holds.tw11846676642670509255 : True := trivial
theorem law_holds.tw18090433342136740992 : True := trivial
theorem law_holds.tw17911580528928914924 : True := trivial
theorem law_holds.tw15448297888555860652 : True := trivial
theorem law_holds.tw14390095281932903014 : True := trivial
theorem law_holds.tw18203989763732354715 : True := trivial
theorem law_holds.tw3158129796062787159 : True := trivial
theorem law_holds.tw9255152265573255198 : True := trivial
theorem law_holds.tw11625900857008200698 : True := trivial
theorem law_holds.tw10368410895845634921 : True := trivial
theorem law_holds.tw2136269947727277649 : True := trivial
theorem law_holds.tw6934448944433832347 : True := trivial
theorem law_holds.tw3366817510852727610 : True := trivial
theorem law_holds.tw10028117763298573888 : True := trivial
theorem law_holds.tw6896717019858035522 : True := trivial
theorem law_holds.tw14160533322030094474 : True := trivial
theorem law_holds.tw10958410103948607464 : True := trivial
theorem law_holds.tw6499956759230125245 : True := trivial
theorem law_holds.tw8266603773606604290 : True := trivial
theorem law_holds.tw13397297893571687751 : True := trivial
theorem law_holds.tw5112083995522966620 : True := trivial
theorem law_holds.tw13780023080261437657 : True := trivial
theorem law_holds.tw1905533677188600702 : True := trivial
theorem law_holds.tw4818577856007422655 : True := trivial
theorem law_holds.tw7497986649931050792 : True := trivial
theorem law_holds.tw1670043908289496885 : True := trivial
theorem law_holds.tw16470317323979864763 : True := trivial
theorem law_holds.tw11609493526922420660 : True := trivial
theorem law_holds.tw519298541982818421 : True := trivial
theorem law_holds.tw13392613628428298086 : True := trivial
theorem law_holds.tw3956099054510807996 : True := trivial
theorem law_holds.tw576407869801174206 : True := trivial
theorem law_holds.tw3850375180904979519 : True := trivial
theorem law_holds.tw9606376775287448836 : True := trivial
theorem law_holds.tw1689763614830377041 : True := trivial
theorem law_holds.tw575232530192455986 : True := trivial
theorem law_holds.tw15014403891855920072 : True := trivial
theorem law_holds.tw12223724995276690173 : True := trivial
theorem law_holds.tw11484002064277903863 : True := trivial
theorem law_holds.tw6159533029260741167 : True := trivial
theorem law_holds.tw13182730311906835528 : True := trivial
theorem law_holds.tw7910590604623066228 : True := trivial
theorem law_holds.tw12889673554181485818 : True := trivial
theorem law_holds.tw9779807473162285230 : True := trivial
theorem law_holds.tw3910120701321347557 : True := trivial
theorem law_holds.tw17255088995462705879 : True := trivial
theorem law_holds.tw8441880690091102137 : True := trivial
theorem law_holds.tw7019463264422422977 : True := trivial
theorem law_holds.tw3186734533307500241 : True := trivial
theorem law_holds.tw1385162719727133579 : True := trivial
theorem law_holds.tw8634839017697508684 : True := trivial
theorem law_holds.tw2075624079617657780 : True := trivial
theorem law_holds.tw11098625913536864229 : True := trivial
theorem law_holds.tw10024239376800412576 : True := trivial
theorem law_holds.tw11097350217990362986 : True := trivial
theorem law_holds.tw2578278018795888234 : True := trivial
theorem law_holds.tw14545874151571354728 : True := trivial
theorem law_holds.tw11781800970755023335 : True := trivial
theorem law_holds.tw16406091861079842607 : True := trivial
theorem law_holds.tw14326059299131336239 : True := trivial
theorem law_holds.tw8785698371604719795 : True := trivial
theorem law_holds.tw8191475993861738794 : True := trivial
theorem law_holds.tw676263390381983339 : True := trivial
theorem law_holds.tw1989176631692091739 : True := trivial
theorem law_holds.tw8249079356659094474 : True := trivial
theorem law_holds.tw3882201998751590657 : True := trivial
theorem law_holds.tw4614512636035447770 : True := trivial
theorem law_holds.tw13800757232730249582 : True := trivial
theorem law_holds.tw10264638600885302300 : True := trivial
theorem law_holds.tw3912811242725288453 : True := trivial
theorem law_holds.tw3756308257209627903 : True := trivial
theorem law_holds.tw4593294709026258786 : True := trivial
theorem law_holds.tw2269544990204364226 : True := trivial
theorem law_holds.tw8909828626151137519 : True := trivial
theorem law_holds.tw3850404396616230974 : True := trivial
theorem law_holds.tw3943428198234077543 : True := trivial
theorem law_holds.tw14883556706271630602 : True := trivial
theorem law_holds.tw5731563423909890137 : True := trivial
theorem law_holds.tw8666519363043736892 : True := trivial
theorem law_holds.tw907578622648922086 : True := trivial
theorem law_holds.tw7636989558263936852 : True := trivial
theorem law_holds.tw12835091436910803158 : True := trivial
theorem law_holds.tw8553002610548859549 : True := trivial
theorem law_holds.tw13402424001964919149 : True := trivial
theorem law_holds.tw17942709131360195518 : True := trivial
theorem law_holds.tw3850334171643177529 : True := trivial
theorem law_holds.tw11182679623053108816 : True := trivial
theorem law_holds.tw7356724547972884604 : True := trivial
theorem law_holds.tw6564709946809587534 : True := trivial
theorem law_holds.tw13028658284911697911 : True := trivial
theorem law_holds.tw1622690429015379626 : True := trivial
theorem law_holds.tw9288214680346807717 : True := trivial
theorem law_holds.tw8176227357466254829 : True := trivial
theorem law_holds.tw15694993059591697976 : True := trivial
theorem law_holds.tw2295933128562542503 : True := trivial
theorem law_holds.tw9069877914133315304 : True := trivial
theorem law_holds.tw4439653461905209652 : True := trivial
theorem law_holds.tw7407239408455114201 : True := trivial
theorem law_holds.tw2856731137302751260 : True := trivial
theorem law_holds.tw3742325753681652743 : True := trivial
theorem law_holds.tw8330938851228082562 : True := trivial
theorem law_holds.tw4515466672771955728 : True := trivial
theorem law_holds.tw4992725456586698614 : True := trivial
theorem law_holds.tw13220211186989608806 : True := trivial
theorem law_holds.tw8857742495270377987 : True := trivial
theorem law_holds.tw1762888911704233025 : True := trivial
theorem law_holds.tw6667284449218939238 : True := trivial
theorem law_holds.tw9875236377963488844 : True := trivial
theorem law_holds.tw2006301483956418059 : True := trivial
theorem law_holds.tw8854015012368427407 : True := trivial
theorem law_holds.tw14991590004735058009 : True := trivial
theorem law_holds.tw4030767218360268280 : True := trivial
theorem law_holds.tw6723812968561706957 : True := trivial
theorem law_holds.tw8720880381367431298 : True := trivial
theorem law_holds.tw2558664710541493025 : True := trivial
theorem law_holds.tw15150646450996357022 : True := trivial
theorem law_holds.tw11223184984439025696 : True := trivial
theorem law_holds.tw15154110283740273250 : True := trivial
theorem law_holds.tw2322801206320994539 : True := trivial
theorem law_holds.tw1186782194237197914 : True := trivial
theorem law_holds.tw4370086069003782432 : True := trivial
theorem law_holds.tw13478230802861573701 : True := trivial
theorem law_holds.tw15617896438947887921 : True := trivial
theorem law_holds.tw17237755526102222789 : True := trivial
theorem law_holds.tw6709271908398517637 : True := trivial
theorem law_holds.tw4503035019201841076 : True := trivial
theorem law_holds.tw15527639110640922598 : True := trivial
theorem law_holds.tw17253691774821329096 : True := trivial
theorem law_holds.tw17993387198741990920 : True := trivial
theorem law_holds.tw6911747868599837429 : True := trivial
theorem law_holds.tw13882729330811710610 : True := trivial
theorem law_holds.tw4329158554759489670 : True := trivial
theorem law_holds.tw1341266762083198811 : True := trivial
theorem law_holds.tw11803358882649189518 : True := trivial
theorem law_holds.tw6861490101519172755 : True := trivial
theorem law_holds.tw8369274380968253667 : True := trivial
theorem law_holds.tw9843604407834444796 : True := trivial
theorem law_holds.tw8549365171731915398 : True := trivial
theorem law_holds.tw445335354869643106 : True := trivial
theorem law_holds.tw10609929442622069884 : True := trivial
theorem law_holds.tw11677100312832694166 : True := trivial
theorem law_holds.tw2055734563569237896 : True := trivial
theorem law_holds.tw14904137174637212347 : True := trivial
theorem law_holds.tw3253820488102484341 : True := trivial
theorem law_holds.tw11924911360389889469 : True := trivial
theorem law_holds.tw11126432536435168541 : True := trivial
theorem law_holds.tw3682559726232862161 : True := trivial
theorem law_holds.tw15162217921772873613 : True := trivial
theorem law_holds.tw13650905803964671038 : True := trivial
theorem law_holds.tw1767730674963353768 : True := trivial
theorem law_holds.tw11690447701083486646 : True := trivial
theorem law_holds.tw6727219029552735585 : True := trivial
theorem law_holds.tw11289095316329951393 : True := trivial
theorem law_holds.tw17974257514489008736 : True := trivial
theorem law_holds.tw5769158387606399586 : True := trivial
theorem law_holds.tw2842810181116790245 : True := trivial
theorem law_holds.tw5274592661964301406 : True := trivial
theorem law_holds.tw1819975233463548508 : True := trivial
theorem law_holds.tw14051398506283589457 : True := trivial
theorem law_holds.tw10296202853966499060 : True := trivial
theorem law_holds.tw11470271118054631628 : True := trivial
theorem law_holds.tw2124134355350193313 : True := trivial
theorem law_holds.tw11544315989524547432 : True := trivial
theorem law_holds.tw16563099163409725306 : True := trivial
theorem law_holds.tw1035469204868569938 : True := trivial
theorem law_holds.tw12296726922439171297 : True := trivial
theorem law_holds.tw15732109348078318572 : True := trivial
theorem law_holds.tw15883345262158282383 : True := trivial
theorem law_holds.tw11097158420108258118 : True := trivial
theorem law_holds.tw16381176275627223697 : True := trivial
theorem law_holds.tw16947615914383616782 : True := trivial
theorem law_holds.tw12977093529070104392 : True := trivial
theorem law_holds.tw4524032621918665186 : True := trivial
theorem law_holds.tw6265907326580845545 : True := trivial
theorem law_holds.tw14872900085578418628 : True := trivial
theorem law_holds.tw15829985883664642994 : True := trivial
theorem law_holds.tw3756957479349018193 : True := trivial
theorem law_holds.tw16978406815995349258 : True := trivial
theorem law_holds.tw12419048959643632839 : True := trivial
theorem law_holds.tw7495221243884187115 : True := trivial
theorem law_holds.tw12456547296908542839 : True := trivial
theorem law_holds.tw18006792725990754497 : True := trivial
theorem law_holds.tw8417186165934385351 : True := trivial
theorem law_holds.tw5455921660152230842 : True := trivial
theorem law_holds.tw2090888555730037645 : True := trivial
theorem law_holds.tw11017292853192552079 : True := trivial
theorem law_holds.tw9634471323475708679 : True := trivial
theorem law_holds.tw16009327648451700120 : True := trivial
theorem law_holds.tw607667584577438428 : True := trivial
theorem law_holds.tw2139172203440323022 : True := trivial
theorem law_holds.tw3049941959672503198 : True := trivial
theorem law_holds.tw8570087061310353148 : True := trivial
theorem law_holds.tw7472407996622490835 : True := trivial
theorem law_holds.tw3974387499553966400 : True := trivial
theorem law_holds.tw10442559174759676424 : True := trivial
theorem law_holds.tw3005452535816212104 : True := trivial
theorem law_holds.tw10812634152524527747 : True := trivial
theorem law_holds.tw1973129929022764952 : True := trivial
theorem law_holds.tw5364902710198789758 : True := trivial
theorem law_holds.tw14377833709258309704 : True := trivial
theorem law_holds.tw17899081815984039989 : True := trivial
theorem law_holds.tw18388893480867403737 : True := trivial
theorem law_holds.tw6881874429007886204 : True := trivial
theorem law_holds.tw18430954121086234272 : True := trivial
theorem law_holds.tw17028624522117568015 : True := trivial
theorem law_holds.tw3494445600050047599 : True := trivial
theorem law_holds.tw4995542688137877417 : True := trivial
theorem law_holds.tw4146061822495498468 : True := trivial
theorem law_holds.tw1791086108937442324 : True := trivial
theorem law_holds.tw2887050238494874643 : True := trivial
theorem law_holds.tw1909877003179415225 : True := trivial
theorem law_holds.tw9889521400790421688 : True := trivial
theorem law_holds.tw17865009358878524859 : True := trivial
theorem law_holds.tw11881114122080957857 : True := trivial
theorem law_holds.tw18221428039690301666 : True := trivial
theorem law_holds.tw4072507727158212662 : True := trivial
theorem law_holds.tw14892801356780361778 : True := trivial
theorem law_holds.tw1685627985566243432 : True := trivial
theorem law_holds.tw850272041215511910 : True := trivial
theorem law_holds.tw7311554392007033315 : True := trivial
theorem law_holds.tw17274716441693411508 : True := trivial
theorem law_holds.tw2618386414584295968 : True := trivial
theorem law_holds.tw7566432030715092817 : True := trivial
theorem law_holds.tw5858263632927829637 : True := trivial
theorem law_holds.tw6333624483447246961 : True := trivial
theorem law_holds.tw15293083901398250104 : True := trivial
theorem law_holds.tw10108825076125807744 : True := trivial
theorem law_holds.tw1496123403401453975 : True := trivial
theorem law_holds.tw3896150654470677357 : True := trivial
theorem law_holds.tw5451054884063135654 : True := trivial
theorem law_holds.tw15333956030411951890 : True := trivial
theorem law_holds.tw6719018230134327050 : True := trivial
theorem law_holds.tw8040771413219435098 : True := trivial
theorem law_holds.tw1096898596823417342 : True := trivial
theorem law_holds.tw981846192996546977 : True := trivial
theorem law_holds.tw14354538779393863138 : True := trivial
theorem law_holds.tw2078624436916829710 : True := trivial
theorem law_holds.tw10983241140555628109 : True := trivial
theorem law_holds.tw9992725586745946429 : True := trivial
theorem law_holds.tw17923851452625207687 : True := trivial
theorem law_holds.tw6677821561840896501 : True := trivial
theorem law_holds.tw3955097671198598788 : True := trivial
theorem law_holds.tw14789792462180790578 : True := trivial
theorem law_holds.tw15272395603832836080 : True := trivial
theorem law_holds.tw10516828495840041881 : True := trivial
theorem law_holds.tw14746732674962391887 : True := trivial
theorem law_holds.tw12291295341487003417 : True := trivial
theorem law_holds.tw11946022803392826334 : True := trivial
theorem law_holds.tw302768837105346163 : True := trivial
theorem law_holds.tw12687621791434340054 : True := trivial
theorem law_holds.tw3046938939346580660 : True := trivial
theorem law_holds.tw16873799427995575018 : True := trivial
theorem law_holds.tw7604666192120794032 : True := trivial
theorem law_holds.tw41732636909640268 : True := trivial
theorem law_holds.tw11463670642173560981 : True := trivial
theorem law_holds.tw881140697980615281 : True := trivial
theorem law_holds.tw11977050620070087417 : True := trivial
theorem law_holds.tw7089819591129360890 : True := trivial
theorem law_holds.tw2602977815382960713 : True := trivial
theorem law_holds.tw3979707639553702691 : True := trivial
theorem law_holds.tw1053317679998426468 : True := trivial
theorem law_holds.tw8790382262760724670 : True := trivial
theorem law_holds.tw3390839446522356110 : True := trivial
theorem law_holds.tw6674817763981286723 : True := trivial
theorem law_holds.tw5914491427308094424 : True := trivial
theorem law_holds.tw10350734228115807855 : True := trivial
theorem law_holds.tw9317688335297629284 : True := trivial
theorem law_holds.tw1258919526383655059 : True := trivial
theorem law_holds.tw10093380194815717143 : True := trivial
theorem law_holds.tw8386679336120195906 : True := trivial
theorem law_holds.tw10441050188594101415 : True := trivial
theorem law_holds.tw2695550118857162214 : True := trivial
theorem law_holds.tw3927331946688356228 : True := trivial
theorem law_holds.tw14531881819706719225 : True := trivial
theorem law_holds.tw1784627337472249616 : True := trivial
theorem law_holds.tw5950301352895977177 : True := trivial
theorem law_holds.tw12149405283708829123 : True := trivial
theorem law_holds.tw18051328159682125866 : True := trivial
theorem law_holds.tw7408472829698581751 : True := trivial
theorem law_holds.tw15140378357190847165 : True := trivial
theorem law_holds.tw1172607208729018732 : True := trivial
theorem law_holds.tw16190678330180157336 : True := trivial
theorem law_holds.tw13281950902743806629 : True := trivial
theorem law_holds.tw5898729028444588960 : True := trivial
theorem law_holds.tw8984152853971343422 : True := trivial
theorem law_holds.tw3959601488294255719 : True := trivial
theorem law_holds.tw59864651932915081 : True := trivial
theorem law_holds.tw16462895619179043833 : True := trivial
theorem law_holds.tw7404543985812422374 : True := trivial
theorem law_holds.tw2903333896348957400 : True := trivial
theorem law_holds.tw14646867148444618371 : True := trivial
theorem law_holds.tw2175471002772951711 : True := trivial
theorem law_holds.tw13190703287169160282 : True := trivial
theorem law_holds.tw17345407343664743607 : True := trivial
theorem law_holds.tw16935243356766158856 : True := trivial
theorem law_holds.tw10301956948240465243 : True := trivial
theorem law_holds.tw4008084134468147086 : True := trivial
theorem law_holds.tw15352839923633478061 : True := trivial
theorem law_holds.tw5981114437932730796 : True := trivial
theorem law_holds.tw3136910860242942599 : True := trivial
theorem law_holds.tw5989267464594152519 : True := trivial
theorem law_holds.tw12847567107135931479 : True := trivial
theorem law_holds.tw15726739188670627701 : True := trivial
theorem law_holds.tw8890443458166856008 : True := trivial
theorem law_holds.tw5037970770195530229 : True := trivial
theorem law_holds.tw5045712524691215523 : True := trivial
theorem law_holds.tw4643041051132140158 : True := trivial
theorem law_holds.tw16074064945343616743 : True := trivial
theorem law_holds.tw11330957891505755796 : True := trivial
theorem law_holds.tw6553333263825352884 : True := trivial
theorem law_holds.tw908389787484368193 : True := trivial
theorem law_holds.tw8806649888931605024 : True := trivial
theorem law_holds.tw631266038723830076 : True := trivial
theorem law_holds.tw10222300733896627045 : True := trivial
theorem law_holds.tw3329330481660614911 : True := trivial
theorem law_holds.tw12481875629721207810 : True := trivial
theorem law_holds.tw16332274672890094952 : True := trivial
theorem law_holds.tw12394330538082041428 : True := trivial
theorem law_holds.tw3028213030429885723 : True := trivial
theorem law_holds.tw8860054118572591635 : True := trivial
theorem law_holds.tw1710076424337546998 : True := trivial
theorem law_holds.tw13429453918920967058 : True := trivial
theorem law_holds.tw18155623678392573649 : True := trivial
theorem law_holds.tw160851071654074740 : True := trivial
theorem law_holds.tw1031057903888850656 : True := trivial
theorem law_holds.tw13336368349410954346 : True := trivial
theorem law_holds.tw13087128984098923117 : True := trivial
theorem law_holds.tw6746360682218282392 : True := trivial
theorem law_holds.tw11586273756423631628 : True := trivial
theorem law_holds.tw8804120190785687885 : True := trivial
theorem law_holds.tw18234560199702728603 : True := trivial
theorem law_holds.tw194939583717160490 : True := trivial
theorem law_holds.tw3572487005457819259 : True := trivial
theorem law_holds.tw11067727234611919522 : True := trivial
theorem law_holds.tw4741859662064258567 : True := trivial
theorem law_holds.tw17169043682955552997 : True := trivial
theorem law_holds.tw808278469055374699 : True := trivial
theorem law_holds.tw17183477848116922584 : True := trivial
theorem law_holds.tw16963379459963715452 : True := trivial
theorem law_holds.tw3110860835449505704 : True := trivial
theorem law_holds.tw4916342969005030805 : True := trivial
theorem law_holds.tw15031514592837009168 : True := trivial
theorem law_holds.tw11315637435222106236 : True := trivial
theorem law_holds.tw10189704592693192966 : True := trivial
theorem law_holds.tw12874571214893485439 : True := trivial
theorem law_holds.tw3258674603298201628 : True := trivial
theorem law_holds.tw13092103797297032270 : True := trivial
theorem law_holds.tw11956458263131016624 : True := trivial
theorem law_holds.tw9758593294864014727 : True := trivial
theorem law_holds.tw14289194402921355359 : True := trivial
theorem law_holds.tw12663309570017281627 : True := trivial
theorem law_holds.tw10954758410522031216 : True := trivial
theorem law_holds.tw18221580467831097590 : True := trivial
theorem law_holds.tw11297062200503488469 : True := trivial
theorem law_holds.tw17830944117370523080 : True := trivial
theorem law_holds.tw9403268196540146800 : True := trivial
theorem law_holds.tw17137235678499792623 : True := trivial
theorem law_holds.tw2142710703020379005 : True := trivial
theorem law_holds.tw2782584491509435139 : True := trivial
theorem law_holds.tw10242277825702978295 : True := trivial
theorem law_holds.tw723553956927101924 : True := trivial
theorem law_holds.tw6751701741844952029 : True := trivial
theorem law_holds.tw10346744231138586394 : True := trivial
theorem law_holds.tw12294597709558488554 : True := trivial
theorem law_holds.tw1376783240425437725 : True := trivial
theorem law_holds.tw2667362832866536986 : True := trivial
theorem law_holds.tw17264387287909652857 : True := trivial
theorem law_holds.tw16691439815215545270 : True := trivial
theorem law_holds.tw5640673133297012132 : True := trivial
theorem law_holds.tw9187647767651647856 : True := trivial
theorem law_holds.tw14064573792008682920 : True := trivial
theorem law_holds.tw2127001594154878533 : True := trivial
theorem law_holds.tw11714151634956498000 : True := trivial
theorem law_holds.tw7544913113114293122 : True := trivial
theorem law_holds.tw2788888992717563140 : True := trivial
theorem law_holds.tw12476058986133298565 : True := trivial
theorem law_holds.tw14281342344845405768 : True := trivial
theorem law_holds.tw16057390660189216267 : True := trivial
theorem law_holds.tw17309000430359075326 : True := trivial
theorem law_holds.tw15644819842384902770 : True := trivial
theorem law_holds.tw15341342317828512493 : True := trivial
theorem law_holds.tw12108977868540685583 : True := trivial
theorem law_holds.tw8591876402714022951 : True := trivial
theorem law_holds.tw15695062497276918967 : True := trivial
theorem law_holds.tw15806970514647361693 : True := trivial
theorem law_holds.tw3672438013989251361 : True := trivial
theorem law_holds.tw8061732933902216757 : True := trivial
theorem law_holds.tw11666318101497114028 : True := trivial
theorem law_holds.tw12949845418750544790 : True := trivial
theorem law_holds.tw15848713872586308078 : True := trivial
theorem law_holds.tw15567558954438479688 : True := trivial
theorem law_holds.tw13667737974841707781 : True := trivial
theorem law_holds.tw5087963091746180759 : True := trivial
theorem law_holds.tw17458534234597298029 : True := trivial
theorem law_holds.tw447027507633508388 : True := trivial
theorem law_holds.tw13642005409729077643 : True := trivial
theorem law_holds.tw10458381655096516384 : True := trivial
theorem law_holds.tw4991859449750346478 : True := trivial
theorem law_holds.tw8572072892066365893 : True := trivial
theorem law_holds.tw12253411696296436870 : True := trivial
theorem law_holds.tw4492043994082249198 : True := trivial
theorem law_holds.tw293627430662643474 : True := trivial
theorem law_holds.tw7767266014307106701 : True := trivial
theorem law_holds.tw16461882675039125421 : True := trivial
theorem law_holds.tw13294052699122959228 : True := trivial
theorem law_holds.tw16612359704951912572 : True := trivial
theorem law_holds.tw3674665740742831893 : True := trivial
theorem law_holds.tw1722738952054099684 : True := trivial
theorem law_holds.tw12001131798957381970 : True := trivial
theorem law_holds.tw2303879751551577860 : True := trivial
theorem law_holds.tw17580165497215679439 : True := trivial
theorem law_holds.tw17942499455142895165 : True := trivial
theorem law_holds.tw17046799393618780204 : True := trivial
theorem law_holds.tw11303081109005220762 : True := trivial
theorem law_holds.tw3012480247710183994 : True := trivial
theorem law_holds.tw7775064044895347852 : True := trivial
theorem law_holds.tw17758146289354676595 : True := trivial
theorem law_holds.tw10517181812226103804 : True := trivial
theorem law_holds.tw15514866124879379921 : True := trivial
theorem law_holds.tw811035903429128223 : True := trivial
theorem law_holds.tw1377309892636839040 : True := trivial
theorem law_holds.tw2782419253953178936 : True := trivial
theorem law_holds.tw6580623548314892615 : True := trivial
theorem law_holds.tw14489315793263303861 : True := trivial
theorem law_holds.tw687851300278632918 : True := trivial
theorem law_holds.tw9871626496009991038 : True := trivial
theorem law_holds.tw5842969613912506279 : True := trivial
theorem law_holds.tw13454136545276886934 : True := trivial
theorem law_holds.tw11532970265236058100 : True := trivial
theorem law_holds.tw10007947361888340627 : True := trivial
theorem law_holds.tw5542243279508502960 : True := trivial
theorem law_holds.tw3586223124089845285 : True := trivial
theorem law_holds.tw3127913417769977931 : True := trivial
theorem law_holds.tw7345768897557615242 : True := trivial
theorem law_holds.tw16771549258648962210 : True := trivial
theorem law_holds.tw10079444305495103266 : True := trivial
theorem law_holds.tw17545576798567701639 : True := trivial
theorem law_holds.tw4963573110770748834 : True := trivial
theorem law_holds.tw1285599515219305098 : True := trivial
theorem law_holds.tw13840902789983287329 : True := trivial
theorem law_holds.tw17553930602362091883 : True := trivial
theorem law_holds.tw2096525686368166746 : True := trivial
theorem law_holds.tw12597187120891498251 : True := trivial
theorem law_holds.tw7983211939772527470 : True := trivial
theorem law_holds.tw17249539165995611551 : True := trivial
theorem law_holds.tw18153520721480276881 : True := trivial
theorem law_holds.tw17419225075052043924 : True := trivial
theorem law_holds.tw16765433158599729185 : True := trivial
theorem law_holds.tw8856317710758748564 : True := trivial
theorem law_holds.tw11169275537108399364 : True := trivial
theorem law_holds.tw1588742098881680585 : True := trivial
theorem law_holds.tw12320438053989627958 : True := trivial
theorem law_holds.tw1681173693875575501 : True := trivial
theorem law_holds.tw7695934317539461687 : True := trivial
theorem law_holds.tw1242418559920758562 : True := trivial
theorem law_holds.tw17792525830624384078 : True := trivial
theorem law_holds.tw5212653520564569363 : True := trivial
theorem law_holds.tw16098570224071239113 : True := trivial
theorem law_holds.tw2325693721150917532 : True := trivial
theorem law_holds.tw13800329570527188203 : True := trivial
theorem law_holds.tw6882020374766023752 : True := trivial
theorem law_holds.tw415365407113419659 : True := trivial
theorem law_holds.tw8210953160692291510 : True := trivial
theorem law_holds.tw10897144627088453450 : True := trivial
theorem law_holds.tw503957847093417577 : True := trivial
theorem law_holds.tw2851267720448770887 : True := trivial
theorem law_holds.tw13902218012105463410 : True := trivial
theorem law_holds.tw12732824653754844360 : True := trivial
theorem law_holds.tw1997475870405608531 : True := trivial
theorem law_holds.tw16092355726972411579 : True := trivial
theorem law_holds.tw4568741812840581045 : True := trivial
theorem law_holds.tw2414074194907454277 : True := trivial
theorem law_holds.tw2865737869514987218 : True := trivial
theorem law_holds.tw13055523775352357715 : True := trivial
theorem law_holds.tw4581845663705801772 : True := trivial
theorem law_holds.tw4635674611617693574 : True := trivial
theorem law_holds.tw5791418645094131800 : True := trivial
theorem law_holds.tw9758047768218912823 : True := trivial
theorem law_holds.tw12153922251378674784 : True := trivial
theorem law_holds.tw12668044768207566790 : True := trivial
theorem law_holds.tw367903286550418209 : True := trivial
theorem law_holds.tw9975692261777386857 : True := trivial
theorem law_holds.tw15661869461025623997 : True := trivial
theorem law_holds.tw9009705080361974123 : True := trivial
theorem law_holds.tw9989359697036934923 : True := trivial
theorem law_holds.tw16245577235439221107 : True := trivial
theorem law_holds.tw6177970194926469781 : True := trivial
theorem law_holds.tw1556451293825771818 : True := trivial
theorem law_holds.tw1929443778124869092 : True := trivial
theorem law_holds.tw15741379261994504178 : True := trivial
theorem law_holds.tw10283916278828761575 : True := trivial
theorem law_holds.tw9529696498207198238 : True := trivial
theorem law_holds.tw10803361673654935901 : True := trivial
theorem law_holds.tw9212889513913684515 : True := trivial
theorem law_holds.tw13528896222378765290 : True := trivial
theorem law_holds.tw13301187468288870568 : True := trivial
theorem law_holds.tw8285764192309689115 : True := trivial
theorem law_holds.tw7120836010843673076 : True := trivial
theorem law_holds.tw13431030151845061361 : True := trivial
theorem law_holds.tw4037582482628031876 : True := trivial
theorem law_holds.tw16805829885119392726 : True := trivial
theorem law_holds.tw14988988175077273356 : True := trivial
theorem law_holds.tw9423440377400516374 : True := trivial
theorem law_holds.tw17027635718292003107 : True := trivial
theorem law_holds.tw4273555757443719353 : True := trivial
theorem law_holds.tw14571795756577361901 : True := trivial
theorem law_holds.tw7304591109411159013 : True := trivial
theorem law_holds.tw9184033795430018204 : True := trivial
theorem law_holds.tw2143268655074302082 : True := trivial
theorem law_holds.tw14997073306097389879 : True := trivial
theorem law_holds.tw8835965917227929528 : True := trivial
theorem law_holds.tw14498155544194170393 : True := trivial
theorem law_holds.tw2644310842459337959 : True := trivial
theorem law_holds.tw179590077315354965 : True := trivial
theorem law_holds.tw7085375772137924610 : True := trivial
theorem law_holds.tw15157858054915424247 : True := trivial
theorem law_holds.tw11273199465777005636 : True := trivial
theorem law_holds.tw8298017015332610266 : True := trivial
theorem law_holds.tw9450212984237758361 : True := trivial
theorem law_holds.tw14703596234621391172 : True := trivial
theorem law_holds.tw12987099998540325985 : True := trivial
theorem law_holds.tw1832781179975386347 : True := trivial
theorem law_holds.tw13853622120263080157 : True := trivial
theorem law_holds.tw5711532620962867551 : True := trivial
theorem law_holds.tw14070009673099963248 : True := trivial
theorem law_holds.tw8255755865160638884 : True := trivial
theorem law_holds.tw9853128532771029439 : True := trivial
theorem law_holds.tw7075805920889398618 : True := trivial
theorem law_holds.tw16124956940837004246 : True := trivial
theorem law_holds.tw11598889155169971307 : True := trivial
theorem law_holds.tw7635358736021980338 : True := trivial
theorem law_holds.tw13825115054619410371 : True := trivial
theorem law_holds.tw237066045713159214 : True := trivial
theorem law_holds.tw9649402825286304879 : True := trivial
theorem law_holds.tw12889056044993165476 : True := trivial
theorem law_holds.tw4534962325383280446 : True := trivial
theorem law_holds.tw9583802560038701412 : True := trivial
theorem law_holds.tw14040501469028458813 : True := trivial
theorem law_holds.tw15148592363749028121 : True := trivial
theorem law_holds.tw1444705308102531055 : True := trivial
theorem law_holds.tw7731979676555859252 : True := trivial
theorem law_holds.tw15759456685926392790 : True := trivial
theorem law_holds.tw16934287975200006854 : True := trivial
theorem law_holds.tw935726295958277989 : True := trivial
set_option Elab.async true in
theorem law_holds : PySem.Challenge.rw_pb0204_01.Holds := by
  w_on
  o_law
  k_head
  (case hw => w_witness2)
  w_strict (
    k_go0
    (all_goals try k_fold)
    rename_i w s₀ s₁ mg mb G Y fa o pm cd doc ho hcd hg X V T B TE TW ns hs hlay0 hL1 hr1 hl2 w6 w5 sc vs w2 hL ra w1 r0 hI hr hcond1 hcond hD h₁ tk₁ oR oT left right X0 X' T' K' F' N' l0
    replace X' : (hd.heap_1 w.params).In _ := X'
    clear hL1 hr1 hl2 ra w1 r0 hr hD hs hlay0 hL X0 ho G X V T B TE TW hcd Y hT8
    dsimp only at N' F' codeHd left right
    generalize hgg : ghostOf s₁.heap [(629, 625)] = g at *
    generalize hLL : s₁.heap.objs.size = L at *
    clear hgg hLL
    generalize s₁.gens = sg at *
    generalize s₁.drawn = sd at *
    generalize s₁.os = so at *
    revert g L sg sd so
    refine keepP ?_
    set_option tactic.hygienic false in intros
    refine with_At (L := L) (h₀ := g) (n := 40) (fun Z => ?_) ⟨⟨_, _, _, _, _, _, _, _, K', T', rfl⟩, X', rfl, rfl, rfl, Nat.le_of_ble_eq_true rfl, Nat.le_of_ble_eq_true rfl⟩
    try dsimp only
    refine wpAny_mono (Q := LawEnd g L ⟨h₁, sg, sd, tk₁, so⟩) (E := NoE) ?_ ?_ (fun _ _ e => e.elim)
    · have hoR : oR.data = .cell none := left
      have hoT : oT.data = .cell none := right
      clear left right
      have F0 : Fr g L h₁ (fun y => if y = Str.ofString "script" then some (.ref sc) else none) := F'
      clear F'
      have hnl : ns.length ≤ 63 := by omega
      walk_at "mine_stopU"
      refine taker_spec Z (by assumption) (by assumption) lifted (.tail _ (.tail _ (.head _))) hI hnl fun h2 tk2 T t2 ps2 F2 N2 ok c2 hlow => ?_
      have hszL : L < h₁.objs.size := F0.ns.lt
      have hTR : ∀ p ∈ T.led 0 t2, L + 1 + 1 < p.1 := fun p hp => Nat.lt_trans (Heap.lt_size (N' _ (.head _)).1) (hlow p hp)
      have N3 : News g L h2 ((L + 1 + 1, oR) :: (L + 1, oT) :: tkCons T 0 t2 [(625, tabObj ps2)]) := News.after2 (foot := [(625, tabObj #[])]) N' N2 c2 (fun p hp => by
        revert p
        first | refine ac3 ?_ ?_ | refine ac2 ?_ ?_ | refine ac ?_ ?_
        · exact .inr ⟨.head _, fun h => neG (Nat.lt_succ_of_lt (Nat.lt_succ_of_lt l0)) (List.mem_singleton.mp h)⟩
        refine ac ?_ ?_
        · exact .inr ⟨.tail _ (.head _), fun h => neG (Nat.lt_succ_of_lt l0) (List.mem_singleton.mp h)⟩
        intro p hp
        · exact .inl hp)
      clear N2 N' F0
      have hfx : ∀ p ∈ T.fix, p.1 ≠ T.lp := ok.1
      have hfx' : ∀ p ∈ (T.f, T.fo) :: (T.c, T.oc) :: (T.c1, T.o1) :: (T.c2, T.o2) :: (T.lc, listOf T.vs.toArray T.nc) :: [(625, tabObj ps2)], p.1 ≠ T.lp := by
        intro p hp
        rcases List.mem_append.mp (show p ∈ T.fix ++ [(625, tabObj ps2)] from hp) with hp | hp
        · exact hfx p hp
        · rw [List.mem_singleton.mp hp]; exact neL (Nat.lt_trans l0 (Nat.lt_trans (Nat.lt_succ_of_lt (Nat.lt_succ_self _)) (hTR _ (.head _))))
      have hR1 : ∀ p ∈ T.led 0 t2 ++ [(625, tabObj ps2)], p.1 ≠ L + 1 + 1 := fun p hp => by
        rcases List.mem_append.mp hp with hp | hp
        · exact neG (hTR p hp)
        · rw [List.mem_singleton.mp hp]; exact neL (Nat.lt_succ_of_lt (Nat.lt_succ_of_lt l0))
      have hR2 : ∀ p ∈ T.led 0 t2 ++ [(625, tabObj ps2)], p.1 ≠ L + 1 := fun p hp => by
        rcases List.mem_append.mp hp with hp | hp
        · exact neG (Nat.lt_trans (Nat.lt_succ_self _) (hTR p hp))
        · rw [List.mem_singleton.mp hp]; exact neL (Nat.lt_succ_of_lt l0)
      have hR2' : ∀ p ∈ tkCons T 0 t2 [(625, tabObj ps2)], p.1 ≠ L + 1 := hR2
      have nR1 := neN (hR1 _ (.head _)).symm
      have nR2 := neN (hR2 _ (.head _)).symm
      have n12 : L + 1 + 1 ≠ L + 1 := neG (Nat.lt_succ_self _)
      have n12' := neN n12
      walk_at "mine_stopU"
      rename_i h3 oT3 F3 N4 hoT3
      refine' comp_exprF (h₀ := g) (L := L) (cl := [(Str.ofString "take", L + 1)]) ?hclos ?hcell ?hkind ?hnames ?hx ?_
      walk_at "mine_comp"
      walk_at "mine_stopU"
      rename_i v4 tv4 t4 h4 tk4 v40 v41 F4 N5 h5 tk5 ta tb tc hR5 F5 N6 hk5
      obtain ⟨nw, rfl, hnw7⟩ : ∃ nw : Nat, v4 = nw ∧ nw ≤ 7 := ⟨v4.toNat, by omega, by omega⟩
      clear v40 v41
      refine comp_range nw rfl hR5 (by decide) (by decide) (by omega) (by omega) (by omega) (Nat.le_trans (by omega) (by decide : (1000 : Nat) ≤ sizeLine)) F5 N6
        (LwA L oR oT3 T ps2) ⟨_, _, [], rfl, by omega, by omega, .nil, rfl⟩ ?_ ?_ ?_
      · rintro i ys led ⟨k', t', ns, rfl, _, _, h3, h4⟩
        rw [h3.length]; omega
      · rintro I3 C3 D3 j3 v ys led s₁ oI oC oD mC ⟨h11, tk11, rfl⟩ hjn ⟨tv, rfl⟩ ⟨k', t', ns', rfl, hka, hkb, h3, h4⟩ F11 N11 hd3 hn3 hx3
        have hd3' := hd3 (T.lp, listOf [Value.int k' t'].toArray 0) (.tail _ (.tail _ (.head _)))
        have nI3 := neN hd3'.1.symm
        have nC3 := neN hd3'.2.1.symm
        have nD3 := neN hd3'.2.2.symm
        refine comp_if0 ?_
        walk_at "mine_stopU"
        exact (show CEnd _ _ _ _ _ _ _ _ _ _ _ _ from ⟨(L + 1 + 1, oR) :: (L + 1, oT3) :: tkCons T (k' + 1) _ [(625, tabObj ps2)], ⟨_, _, rfl⟩, by assumption, by assumption, addrsZ (P := fun a => a ≠ I3 ∧ a ≠ C3 ∧ a ≠ D3) (l := (L + 1 + 1, oR) :: (L + 1, oT3) :: tkCons T k' t' [(625, tabObj ps2)]) rfl hd3, k' + 1, _, ns' ++ [_], rfl, by omega, by push_cast; omega, h3.append (.cons _ _ .nil), by simp [h4]⟩)
      · rintro R led rvs s₁ rk ⟨h6, tk6, rfl⟩ ⟨k6, t6, gl, rfl, hka, hkb, hrv, hgl⟩ N7 hf7 F7
        try dsimp only at N7 F7 ⊢
        clear F5 N6
        have khrv0 := Keep.mk hrv
        have hgl7 : gl.length ≤ 7 := by omega
        have khoR : True := trivial
        have hall : ∀ p ∈ (L + 1, oT3) :: tkCons T k6 t6 [(625, tabObj ps2)], p.1 ≠ L + 1 + 1 := by
          intro p hp
          revert p
          first | refine ac3 ?_ ?_ | refine ac2 ?_ ?_ | refine ac ?_ ?_
          · exact n12.symm
          intro p hp
          · exact addrsZ (P := fun a => a ≠ L + 1 + 1) (l := T.led 0 t2 ++ [(625, tabObj ps2)]) (l' := tkCons T k6 t6 [(625, tabObj ps2)]) rfl hR1 p hp
        have nR3 := neN (hf7 (L + 1 + 1, oR) (.head _)).symm
        have nRl := neN (hf7 (T.lp, listOf [Value.int k6 t6].toArray 0) (.tail _ (.tail _ (.head _)))).symm
        walk_at "mine_stopV"
        rename_i h8 oR4 hoR4 v9 tv9 t9 h9 tk9 v90 v91 h10 F10 N10
        generalize hpass : (v9 == 1) = pass at F10
        have hbase : ∀ p ∈ [(R, listOf rvs.toArray rk), (L + 1 + 1, oR4), (L + 1, oT3)], p.1 ≠ T.lp := by
          intro p hp
          simp only [List.mem_cons, List.not_mem_nil, or_false] at hp
          rcases hp with rfl | rfl | rfl
          · exact nRl
          · exact nR1
          · exact nR2
        refine' comp_assign (h₀ := g) (L := L) (cl := [(Str.ofString "take", L + 1)]) ?hsw2 ?hclos ?hcell ?hkind ?hnames ?hx ?hL2 ?hy2 ?hp2 ?_
        (case hsw2 => with_unfolding_all rfl)
        (case hL2 => rfl)
        (case hy2 => rfl)
        (case hp2 => rfl)
        walk_at "mine_comp"
        walk_at "mine_stopV"
        rename_i v11 tv11 t11 h11 tk11 v110 v111 F11 N11 h12 tk12 td te tf hR12 F12 N12 hk12
        clear F11 N11 F10 N10
        obtain ⟨n1, rfl, hn1⟩ : ∃ n1 : Nat, v11 = n1 ∧ n1 ≤ 2 := ⟨v11.toNat, by omega, by omega⟩
        have hnv3 : n1 + 1 ≤ 3 := Nat.succ_le_succ hn1
        clear v110 v111
        refine comp_range (n1 + 1) rfl hR12 (by decide) (by decide) (by omega) (by omega) (by omega) (Nat.le_trans (by omega) (by decide : (1000 : Nat) ≤ sizeLine)) F12 N12
          (LwB R rvs rk L oR4 oT3 T ps2 w)
          ⟨[], _, _, rfl, rfl, rfl, by omega, by omega, by simp, by simp⟩ ?_ ?_ ?_
        · rintro i ys led ⟨tabs, k', t', rfl, rfl, h2, _⟩
          simp [h2]
        · rintro I3 C3 D3 j3 v ys led s₁ oI oC oD mC ⟨h13, tk13, rfl⟩ hjn ⟨tv, rfl⟩ ⟨tabs, k', t', rfl, rfl, htl, hka, hkb, htok, hoffl⟩ F13 N13 hd3 hn3 hx3
          refine comp_if0 ?_
          walk_at "mine_stopV"
          dsimp only at F13 N13
          have hd3' := hd3 (T.lp, listOf [Value.int k' t'].toArray 0) (.tail _ (.tail _ (.tail _ (.head _))))
          have hS : ∀ p ∈ (625, tabObj ps2) :: tabs.flatMap Tab.led, p.1 ≠ T.lp := by
            intro p hp
            revert p
            first | refine ac3 ?_ ?_ | refine ac2 ?_ ?_ | refine ac ?_ ?_
            · exact hfx' _ (.tail _ (.tail _ (.tail _ (.tail _ (.tail _ (.head _))))))
            intro p hp
            · exact hoffl p hp
          have hP : ∀ p ∈ [(I3, oI), (C3, oC), (D3, oD), (R, listOf rvs.toArray rk), (L + 1 + 1, oR4), (L + 1, oT3)], p.1 ≠ T.lp := by
            intro p hp
            revert p
            first | refine ac3 ?_ ?_ | refine ac2 ?_ ?_ | refine ac ?_ ?_
            · exact hd3'.1.symm
            refine ac ?_ ?_
            · exact hd3'.2.1.symm
            refine ac ?_ ?_
            · exact hd3'.2.2.symm
            intro p hp
            · exact hbase p hp
          have hszs : ∀ p ∈ [(I3, oI), (C3, oC), (D3, oD)], p.1 < h13.objs.size := fun p hp => by
            simp only [List.mem_cons, List.not_mem_nil, or_false] at hp
            rcases hp with rfl | rfl | rfl
            · exact Heap.lt_size (N13 _ (.head _)).1
            · exact Heap.lt_size (N13 _ (.tail _ (.head _))).1
            · exact Heap.lt_size (N13 _ (.tail _ (.tail _ (.head _)))).1
          have hlpz : T.lp < h13.objs.size := Heap.lt_size (N13 (T.lp, listOf [Value.int k' t'].toArray 0) (.tail _ (.tail _ (.tail _ (.tail _ (.tail _ (.tail _ (.head _)))))))).1
          refine table_spec Z F13 (News.sub N13 fun p hp => .tail _ (.tail _ (.tail _ (.tail _ (.tail _ (.tail _ (List.mem_append_left ((625, tabObj ps2) :: tabs.flatMap Tab.led) hp))))))) ok hka (by omega) fun h14 tk14 tab k'' t'' F14 N14 c14 hk1 hk2 tok14 hsl14 hfr14 => ?_
          have N15 := tab_turn (P := [(I3, oI), (C3, oC), (D3, oD), (R, listOf rvs.toArray rk), (L + 1 + 1, oR4), (L + 1, oT3)]) N13 N14 c14 hP hS
          have hfm : (tabs ++ [tab]).flatMap Tab.led = tabs.flatMap Tab.led ++ tab.led := by simp
          refine (show CEnd _ _ _ _ _ _ _ _ _ _ _ _ from ⟨[(R, listOf rvs.toArray rk), (L + 1 + 1, oR4), (L + 1, oT3)] ++ tkCons T k'' t'' ((625, tabObj ps2) :: (tabs ++ [tab]).flatMap Tab.led), ⟨_, _, rfl⟩, F14, by rw [hfm]; exact N15, ?_, tabs ++ [tab], k'', t'', rfl, by simp, by simp [htl], by omega, by push_cast; omega, ?_, ?_⟩)
          · intro p hp
            rw [hfm] at hp
            rcases List.mem_append.mp (show p ∈ ([(R, listOf rvs.toArray rk), (L + 1 + 1, oR4), (L + 1, oT3)] ++ tkCons T k'' t'' ((625, tabObj ps2) :: tabs.flatMap Tab.led)) ++ tab.led from by simpa [List.append_assoc] using hp) with hp | hp
            · exact addrsZ (P := fun a => a ≠ I3 ∧ a ≠ C3 ∧ a ≠ D3) (l := [(R, listOf rvs.toArray rk), (L + 1 + 1, oR4), (L + 1, oT3)] ++ tkCons T k' t' ((625, tabObj ps2) :: tabs.flatMap Tab.led)) (l' := [(R, listOf rvs.toArray rk), (L + 1 + 1, oR4), (L + 1, oT3)] ++ tkCons T k'' t'' ((625, tabObj ps2) :: tabs.flatMap Tab.led)) rfl hd3 p hp
            · have hge := hfr14 p hp
              exact ⟨neG (Nat.lt_of_lt_of_le (hszs _ (.head _)) hge), neG (Nat.lt_of_lt_of_le (hszs _ (.tail _ (.head _))) hge), neG (Nat.lt_of_lt_of_le (hszs _ (.tail _ (.tail _ (.head _)))) hge)⟩
          · intro t ht
            rcases List.mem_append.mp ht with ht | ht
            · exact htok t ht
            · rw [List.mem_singleton.mp ht]; exact ⟨tok14, hsl14⟩
          · intro p hp
            rw [hfm] at hp
            rcases List.mem_append.mp hp with hp | hp
            · exact hoffl p hp
            · exact neG (Nat.lt_of_lt_of_le hlpz (hfr14 p hp))
        · rintro TBL led tys s₁ tbk ⟨h15, tk15, rfl⟩ ⟨tabs, k15, t15, rfl, rfl, htl, _, _, htok, _⟩ N15 hf15 F15
          try dsimp only at N15 F15 ⊢
          have N16 : News g L h15 ((TBL, listOf (tabs.map fun t => Value.ref t.d).toArray tbk) :: (R, listOf rvs.toArray rk) :: (L + 1 + 1, oR4) :: (625, tabObj ps2) :: tabs.flatMap Tab.led) := News.sub N15 (fun p hp => by
            revert p
            first | refine ac3 ?_ ?_ | refine ac2 ?_ ?_ | refine ac ?_ ?_
            · exact .head _
            refine ac ?_ ?_
            · exact .tail _ (.head _)
            refine ac ?_ ?_
            · exact .tail _ (.tail _ (.head _))
            intro p hp
            · exact .tail _ (.tail _ (.tail _ (.tail _ (List.mem_append_right (T.led k15 t15) hp)))))
          clear N15 F12 N12
          have htl3 : tabs.length ≤ 3 := by omega
          have F16 : Fr g L h15 (lwMap sc pass TBL none none none none none none none) := by rw [← lw_init]; exact F15
          clear F15
          walk_at "mine_stopW"
          refine wpAny_mono (Q := IfP pass h15 ⟨h15, sg, sd, 0, so⟩) ?_ ?_ (fun _ _ e => e)
          · cases pass
            · walk_at "mine_stopX"
              exact ⟨_, rfl, _, rfl⟩
            · walk_at "mine_stopX"
              exact ⟨_, rfl, _, rfl⟩
          · rintro v s' ⟨tf, rfl, tk16, rfl⟩
            walk_at "mine_stopW"
            refine' comp_exprC (h₀ := g) (L := L) ?hclosC ?hcfC ?hpcC ?hkindC ?hnamesC ?hxC ?_
            (case hclosC => with_unfolding_all rfl)
            (case hcfC => intro n; rfl)
            (case hpcC => intro h; rfl)
            (case hkindC => with_unfolding_all rfl)
            (case hnamesC => decide)
            (case hxC => with_unfolding_all rfl)
            walk_at "mine_stopW"
            obtain ⟨base, hbase⟩ : ∃ base : Led, base = (TBL, listOf (tabs.map fun t => Value.ref t.d).toArray tbk) :: (R, listOf rvs.toArray rk) :: (L + 1 + 1, oR4) :: (625, tabObj ps2) :: tabs.flatMap Tab.led := ⟨_, rfl⟩
            rw [← hbase] at N16
            refine comp_listC (vs := tabs.map fun t => Value.ref t.d) rfl ⟨_, (N16 _ (by rw [hbase]; exact .head _)).1, rfl, _, rfl⟩ (Nat.le_trans (by simp; omega) (by decide : (1000 : Nat) ≤ sizeLine)) F16 N16
              (LwC w.params base tabs w)
              ⟨[], by simp, rfl, rfl, by simp, by simp⟩ ?_ ?_ ?_ ?_
            · rintro i ys led h ⟨ligs, rfl, _⟩ F1 N1
              exact ⟨_, (N1 _ (List.mem_append_left _ (by rw [hbase]; exact .head _))).1, rfl, _, rfl⟩
            · rintro i ys led ⟨ligs, rfl, rfl, h2, _⟩
              simp [h2]
            · rintro IL Kc C3 D3 i v ys led s₁ oI oK oC oD ⟨h17, tk17, rfl⟩ hi hv ⟨ligs, rfl, rfl, hll, hkr, hlok⟩ F17 N17 hd17 hoK
              rw [List.getElem?_map] at hv
              obtain ⟨t, ht, rfl⟩ := Option.map_eq_some_iff.mp hv
              have htm := List.mem_of_getElem? ht
              obtain ⟨tok17, tl17⟩ := htok t htm
              have hlow := tok17.hlow
              have hdict := tok17.hdict
              have htl : ∀ p ∈ t.led, p ∈ base := fun p hp => by
                rw [hbase]; exact .tail _ (.tail _ (.tail _ (.tail _ (List.mem_flatMap.mpr ⟨t, htm, hp⟩))))
              dsimp only at F17 N17
              walk_at "mine_stopW"
              obtain ⟨base2, hbase2⟩ : ∃ base2 : Led, base2 = base ++ ligs.flatMap (ligLed w.params) := ⟨_, rfl⟩
              rw [← hbase2] at N17 hd17
              have htl2 : ∀ p ∈ t.led, p ∈ base2 := fun p hp => by rw [hbase2]; exact List.mem_append_left _ (htl p hp)
              have N18 : News g L h17 ((t.d, t.om) :: (IL, oI) :: (Kc, oK) :: (C3, oC) :: (D3, oD) :: base2) := News.cons (fun q hq => by rw [List.mem_singleton.mp hq]; exact N17 _ (.tail _ (.tail _ (.tail _ (.tail _ (htl2 _ (.head _))))))) N17
              have hsl := Heap.lt_size (N17 (IL, oI) (.head _)).1
              clear N17
              refine' comp_exprF (h₀ := g) (L := L) (cl := [(Str.ofString "sets", Kc)]) ?hclosI ?hcellI ?hkindI ?hnamesI ?hxI ?_
              (case hclosI => with_unfolding_all rfl)
              (case hcellI => decide)
              (case hkindI => with_unfolding_all rfl)
              (case hnamesI => decide)
              (case hxI => with_unfolding_all rfl)
              walk_at "mine_stopW"
              refine comp_dict (kvs := t.sets.map fun s => (s.key, .ref s.la)) rfl hlow (N18 _ (.head _)).1 hdict (Nat.le_trans (by simp; omega) (by decide : (1000 : Nat) ≤ sizeLine)) F17 N18
                (LwD t IL oI Kc oK C3 oC D3 oD base2)
                ⟨[], by simp, rfl, rfl, by simp, by simp⟩ ?_ ?_ ?_ ?_
              · rintro i2 ys led h ⟨cs, rfl, _⟩ F1 N1
                exact (N1 _ (.head _)).1
              · rintro i2 ys led ⟨cs, rfl, rfl, h2, _⟩
                simp [h2]
              · rintro I4 C4 D4 i4 v ys led s₁ oI4 oC4 oD4 mC ⟨h18, tk18, rfl⟩ hi4 ⟨k4, x4, hkx, hkv⟩ ⟨cs, rfl, rfl, hcl, hck, hca⟩ F18 N19 hd18 hn18 hx18
                obtain ⟨tv, rfl⟩ := Value.isInt_shape hkv
                rw [List.getElem?_map] at hkx
                obtain ⟨st, hst, e4⟩ := Option.map_eq_some_iff.mp hkx
                simp only [Prod.mk.injEq] at e4
                obtain ⟨rfl, rfl⟩ := e4
                have hval : valueAt (t.sets.map fun s => (s.key, Value.ref s.la)) st.key = some (.ref st.la) := valueAt_of (dict_nodup hdict) (i := i4) (by rw [List.getElem?_map, hst]; rfl)
                have hstm := List.mem_of_getElem? hst
                refine comp_if0 ?_
                walk_at "mine_stopW"
                have hsm : (st.la, listOf (st.rows.map fun r => Value.ref r.a).toArray st.ln) ∈ base2 := htl2 _ (.tail _ (List.mem_flatMap.mpr ⟨st, hstm, .head _⟩))
                dsimp only at N19 F18
                refine kup_listOf (zs := st.rows.map fun r => Value.ref r.a) F18 N19 (.tail _ (.tail _ (.tail _ (.tail _ (.tail _ (.tail _ (.tail _ (.tail _ (List.mem_append_left _ hsm))))))))) rfl (fun LA cA h20 F20 N20 lA => ?_) (Nat.le_trans (by have := tok17.hfew st hstm; simp; omega) (by decide : (1000 : Nat) ≤ sizeLine))
                clear F18 N19
                walk_at "mine_stopW"
                rename_i TU h21 F21 N21 lTU
                have hfm : (cs ++ [((TU, tv, ⟨st.key, LA, cA, st.rows⟩) : Cp)]).flatMap cpLed = cs.flatMap cpLed ++ [(TU, tupOf [.int st.key tv, .ref LA] 0), (LA, listOf (st.rows.map fun r => Value.ref r.a).toArray cA)] := by simp
                have b1 : ∀ (q : Addr × Obj), q ∈ (I4, oI4) :: (C4, oC4) :: (D4, oD4) :: (t.d, t.om) :: (IL, oI) :: (Kc, oK) :: (C3, oC) :: (D3, oD) :: (base2 ++ cs.flatMap cpLed) → q.1 < LA := fun q hq => lA q hq
                have b2 : ∀ (q : Addr × Obj), q ∈ (I4, oI4) :: (C4, oC4) :: (D4, oD4) :: (t.d, t.om) :: (IL, oI) :: (Kc, oK) :: (C3, oC) :: (D3, oD) :: (base2 ++ cs.flatMap cpLed) → q.1 < TU := fun q hq => Nat.lt_trans (b1 q hq) lTU.1
                exact (show CEnd _ _ _ _ _ _ _ _ _ _ _ _ from ⟨(t.d, t.om) :: (IL, oI) :: (Kc, oK) :: (C3, oC) :: (D3, oD) :: (base2 ++ (cs ++ [((TU, tv, ⟨st.key, LA, cA, st.rows⟩) : Cp)]).flatMap cpLed), ⟨_, _, rfl⟩, by assumption, News.sub N21 (fun p hp => by
                  rw [hfm] at hp
                  exact tail2 (A := (I4, oI4) :: (C4, oC4) :: (D4, oD4) :: (t.d, t.om) :: (IL, oI) :: (Kc, oK) :: (C3, oC) :: (D3, oD) :: base2) p hp), (by
                  rw [hfm]
                  exact tail2' (P := fun p => p.1 ≠ I4 ∧ p.1 ≠ C4 ∧ p.1 ≠ D4) (A := (t.d, t.om) :: (IL, oI) :: (Kc, oK) :: (C3, oC) :: (D3, oD) :: base2) hd18 ⟨neG (b2 _ (.head _)), neG (b2 _ (.tail _ (.head _))), neG (b2 _ (.tail _ (.tail _ (.head _))))⟩ ⟨neG (b1 _ (.head _)), neG (b1 _ (.tail _ (.head _))), neG (b1 _ (.tail _ (.tail _ (.head _))))⟩), cs ++ [((TU, tv, ⟨st.key, LA, cA, st.rows⟩) : Cp)], rfl, by simp, by simp [hcl], by rw [List.map_append, hck, List.take_add_one, hst]; simp, by
                  rw [hfm]
                  exact tail2' (P := fun p => IL < p.1 ∧ Kc < p.1 ∧ C3 < p.1 ∧ D3 < p.1) (A := []) hca ⟨b2 _ (.tail _ (.tail _ (.tail _ (.tail _ (.head _))))), b2 _ (.tail _ (.tail _ (.tail _ (.tail _ (.tail _ (.head _)))))), b2 _ (.tail _ (.tail _ (.tail _ (.tail _ (.tail _ (.tail _ (.head _))))))), b2 _ (.tail _ (.tail _ (.tail _ (.tail _ (.tail _ (.tail _ (.tail _ (.head _))))))))⟩ ⟨b1 _ (.tail _ (.tail _ (.tail _ (.tail _ (.head _))))), b1 _ (.tail _ (.tail _ (.tail _ (.tail _ (.tail _ (.head _)))))), b1 _ (.tail _ (.tail _ (.tail _ (.tail _ (.tail _ (.tail _ (.head _))))))), b1 _ (.tail _ (.tail _ (.tail _ (.tail _ (.tail _ (.tail _ (.tail _ (.head _))))))))⟩⟩)
              · rintro D0 led tys s₁ k0 ⟨h18, tk18, rfl⟩ ⟨cs, rfl, rfl, hcl, hck, hca⟩ N19 hf19 F19
                try dsimp only at N19 F19 ⊢
                walk_at "mine_stopW"
                rw [List.length_map, List.take_length] at hck
                have hck1 : cs.map (fun c => c.2.2.key) = t.sets.map (fun s => s.key) := by
                  have := congrArg (List.map Prod.fst) hck
                  simpa [List.map_map, Function.comp_def] using this
                have hnd : ((cs.map fun c => (c.2.2.key, Value.ref c.2.2.la)).map (·.1)).Nodup := by
                  have := dict_nodup hdict
                  simp only [List.map_map, Function.comp_def] at this ⊢
                  rw [hck1]; exact this
                have hfr19 : g.get? h18.objs.size = none := by
                  cases e : g.get? h18.objs.size with
                  | none => rfl
                  | some o' => exact absurd (Heap.lt_size (F19.keep _ _ e)) (Nat.lt_irrefl _)
                refine dict_pairs (vs := cs.map fun c => Value.ref c.1) (kvs := cs.map fun c => (c.2.2.key, Value.ref c.2.2.la)) rfl (N19 _ (.head _)).1 (by simp) (by simp at hcl ⊢; omega) hnd (fun i v hv => ?_) fun h20 tk20 hD20 hk20 => ?_
                · rw [List.getElem?_map] at hv
                  obtain ⟨c, hc, rfl⟩ := Option.map_eq_some_iff.mp hv
                  have hcm := List.mem_of_getElem? hc
                  exact ⟨c.1, c.2.2.key, c.2.1, .ref c.2.2.la, _, 0, rfl, by rw [List.getElem?_map, hc]; rfl, (N19 (c.1, tupOf [.int c.2.2.key c.2.1, .ref c.2.2.la] 0) (.tail _ (.tail _ (.tail _ (.tail _ (.tail _ (.tail _ (List.mem_append_right _ (List.mem_flatMap.mpr ⟨c, hcm, .head _⟩))))))))).1, rfl, rfl⟩
                · obtain ⟨o20, ho20, hd20⟩ := Heap.dictOf_iff.mp hD20
                  have F20 := F19.keeps hk20
                  obtain ⟨D20, hDz⟩ : ∃ D20, D20 = h18.objs.size := ⟨_, rfl⟩
                  have hb20 : ∀ p ∈ (t.d, t.om) :: (IL, oI) :: (Kc, oK) :: (C3, oC) :: (D3, oD) :: (base2 ++ cs.flatMap cpLed), p.1 < D20 := fun p hp => by rw [hDz]; exact Heap.lt_size (N19 p (.tail _ hp)).1
                  have lo20 : (D20 == sysModules) = false := by rw [hDz]; exact F19.notModules (modules_low T'.nolimit)
                  have N20 : News g L h20 ((D20, o20) :: (t.d, t.om) :: (IL, oI) :: (Kc, oK) :: (C3, oC) :: (D3, oD) :: (base2 ++ cs.flatMap cpLed)) := by
                    intro p hp
                    revert p
                    first | refine ac3 ?_ ?_ | refine ac2 ?_ ?_ | refine ac ?_ ?_
                    · exact ⟨by rw [hDz]; exact ho20, by rw [hDz]; exact neG F19.ns.lt, by rw [hDz]; exact hfr19⟩
                    intro p hp
                    · exact ⟨hk20 _ _ (N19 p (.tail _ hp)).1, (N19 p (.tail _ hp)).2⟩
                  try dsimp only
                  rw [← hDz]
                  clear F19 N19 hD20 ho20
                  walk_at "mine_stopY"
                  refine lig_new Z F20 N20 fun x d tt hC tkC kF kN l0' l2 => ?_
                  have l1 : D20 < d := l0' _ (.head _)
                  have kN2 : News g L hC ((x, instObj 340 d) :: (d, dictOf (Lig.es w.params ⟨x, d, 1, tt, ⟨D20, o20, cs.map (fun c => c.2.2)⟩⟩) 1) :: (D20, o20) :: (t.d, t.om) :: (IL, oI) :: (Kc, oK) :: (C3, oC) :: (D3, oD) :: (base2 ++ cs.flatMap cpLed)) := kN
                  clear kN N20 F20
                  have hrow : ∀ c ∈ cs, ∃ st ∈ t.sets, st.rows = c.2.2.rows := fun c hc => by
                    have h1 : keyRows c.2.2 ∈ t.sets.map keyRows := hck ▸ List.mem_map_of_mem (f := fun c : Cp => keyRows c.2.2) hc
                    obtain ⟨st, hst, e⟩ := List.mem_map.mp h1
                    exact ⟨st, hst, (Prod.mk.inj e).2⟩
                  have hset : ∀ p ∈ (cs.map (fun c => c.2.2)).flatMap TSet.led, p ∈ base2 ∨ p ∈ cs.flatMap cpLed := fun p hp => by
                    obtain ⟨s, hs, hp⟩ := List.mem_flatMap.mp hp
                    obtain ⟨c, hc, rfl⟩ := List.mem_map.mp hs
                    revert p
                    first | refine ac3 ?_ ?_ | refine ac2 ?_ ?_ | refine ac ?_ ?_
                    · exact .inr (List.mem_flatMap.mpr ⟨c, hc, .tail _ (.head _)⟩)
                    intro p hp
                    · obtain ⟨st, hst, e⟩ := hrow c hc
                      exact .inl (htl2 _ (.tail _ (List.mem_flatMap.mpr ⟨st, hst, .tail _ (by rw [e]; exact hp)⟩)))
                  have hfl : (ligs ++ [(⟨x, d, 1, tt, ⟨D20, o20, cs.map (fun c => c.2.2)⟩⟩ : Lig)]).flatMap (ligLed w.params) = ligs.flatMap (ligLed w.params) ++ (x, instObj 340 d) :: (d, dictOf (Lig.es w.params ⟨x, d, 1, tt, ⟨D20, o20, cs.map (fun c => c.2.2)⟩⟩) 1) :: (D20, o20) :: (cs.map (fun c => c.2.2)).flatMap TSet.led := by
                    rw [List.flatMap_append, List.flatMap_cons, List.flatMap_nil, List.append_nil]; rfl
                  have hspl : ∀ p ∈ base ++ (ligs ++ [(⟨x, d, 1, tt, ⟨D20, o20, cs.map (fun c => c.2.2)⟩⟩ : Lig)]).flatMap (ligLed w.params), p ∈ base2 ∨ p = (x, instObj 340 d) ∨ p = (d, dictOf (Lig.es w.params ⟨x, d, 1, tt, ⟨D20, o20, cs.map (fun c => c.2.2)⟩⟩) 1) ∨ p = (D20, o20) ∨ p ∈ cs.flatMap cpLed := fun p hp => by
                    rw [hfl, ← List.append_assoc, ← hbase2] at hp
                    rcases List.mem_append.mp hp with hp | hp
                    · exact .inl hp
                    rcases List.mem_cons.mp hp with hp | hp
                    · exact .inr (.inl hp)
                    rcases List.mem_cons.mp hp with hp | hp
                    · exact .inr (.inr (.inl hp))
                    rcases List.mem_cons.mp hp with hp | hp
                    · exact .inr (.inr (.inr (.inl hp)))
                    · rcases hset p hp with hp | hp
                      · exact .inl hp
                      · exact .inr (.inr (.inr (.inr hp)))
                  have a1 := hb20 (IL, oI) (.tail _ (.head _))
                  have a2 := hb20 (Kc, oK) (.tail _ (.tail _ (.head _)))
                  have a3 := hb20 (C3, oC) (.tail _ (.tail _ (.tail _ (.head _))))
                  have a4 := hb20 (D3, oD) (.tail _ (.tail _ (.tail _ (.tail _ (.head _)))))
                  refine (show CEndC _ _ _ _ _ _ _ _ _ _ _ _ _ _ from ⟨base ++ (ligs ++ [(⟨x, d, 1, tt, ⟨D20, o20, cs.map (fun c => c.2.2)⟩⟩ : Lig)]).flatMap (ligLed w.params), ⟨_, _, rfl⟩, kF, ?_, ?_, ligs ++ [(⟨x, d, 1, tt, ⟨D20, o20, cs.map (fun c => c.2.2)⟩⟩ : Lig)], rfl, by simp, by simp [hll], ?_, ?_⟩)
                  · refine News.sub kN2 (fun p hp => ?_)
                    revert p
                    first | refine ac3 ?_ ?_ | refine ac2 ?_ ?_ | refine ac ?_ ?_
                    · exact .tail _ (.tail _ (.tail _ (.tail _ (.head _))))
                    refine ac ?_ ?_
                    · exact .tail _ (.tail _ (.tail _ (.tail _ (.tail _ (.head _)))))
                    refine ac ?_ ?_
                    · exact .tail _ (.tail _ (.tail _ (.tail _ (.tail _ (.tail _ (.head _))))))
                    refine ac ?_ ?_
                    · exact .tail _ (.tail _ (.tail _ (.tail _ (.tail _ (.tail _ (.tail _ (.head _)))))))
                    intro p hp
                    rcases hspl p hp with hp | rfl | rfl | rfl | hp
                    · exact .tail _ (.tail _ (.tail _ (.tail _ (.tail _ (.tail _ (.tail _ (.tail _ (List.mem_append_left _ hp))))))))
                    · exact .head _
                    · exact .tail _ (.head _)
                    · exact .tail _ (.tail _ (.head _))
                    · exact .tail _ (.tail _ (.tail _ (.tail _ (.tail _ (.tail _ (.tail _ (.tail _ (List.mem_append_right _ hp))))))))
                  · intro p hp
                    rcases hspl p hp with hp | rfl | rfl | rfl | hp
                    · exact hd17 p hp
                    · exact ⟨neG (Nat.lt_trans a1 (Nat.lt_trans l1 l2)), neG (Nat.lt_trans a2 (Nat.lt_trans l1 l2)), neG (Nat.lt_trans a3 (Nat.lt_trans l1 l2)), neG (Nat.lt_trans a4 (Nat.lt_trans l1 l2))⟩
                    · exact ⟨neG (Nat.lt_trans a1 l1), neG (Nat.lt_trans a2 l1), neG (Nat.lt_trans a3 l1), neG (Nat.lt_trans a4 l1)⟩
                    · exact ⟨neG a1, neG a2, neG a3, neG a4⟩
                    · have := hca p hp
                      exact ⟨neG this.1, neG this.2.1, neG this.2.2.1, neG this.2.2.2⟩
                  · rw [List.map_append, hkr, List.take_add_one, ht, List.map_append]
                    congr 1
                    simpa [List.map_map, Function.comp_def] using hck
                  · intro l hl
                    rcases List.mem_append.mp hl with hl | hl
                    · exact hlok l hl
                    · rw [List.mem_singleton.mp hl]
                      refine ⟨lo20, by simpa [List.map_map, Function.comp_def] using hd20, ?_, ?_⟩
                      · intro s hs r hr
                        obtain ⟨c, hc, rfl⟩ := List.mem_map.mp hs
                        obtain ⟨st, hst, e⟩ := hrow c hc
                        exact tok17.hints st hst r (e ▸ hr)
                      · intro s hs
                        obtain ⟨c, hc, rfl⟩ := List.mem_map.mp hs
                        obtain ⟨st, hst, e⟩ := hrow c hc
                        exact e ▸ tok17.hfew st hst
            · rintro LGS led lys s₁ lgn ⟨h30, tk30, rfl⟩ ⟨ligs, rfl, rfl, hll, hkr, hlok⟩ N30 hf30 F30
              try dsimp only at N30 F30 ⊢
              clear F16 N16
              walk_at "mine_stopY"
              refine lookup_new Z F30 N30 fun lk lkd t0 t1 t2 t3 h31 tk31 F31 N31 b31 c31 => ?_
              clear F30 N30
              walk_at "mine_stopY"
              with_reducible refine cls_dict Z (by assumption) (by assumption) fun MP omp kvm h32 tk32 F32 N32 b32 lo32 hd32 hf32 => ?_
              have khd := Keep.mk hd32
              have khf := Keep.mk hf32
              walk_at "mine_stopY"
              refine cdef_new Z (by assumption) (by assumption) fun cdf cdd ct1 h33 tk33 F33 N33 b33 c33 => ?_
              clear F32 N32
              walk_at "mine_stopY"
              refine cdef_new Z (by assumption) (by assumption) fun adf add ct2 h34 tk34 F34 N34 b34 c34 => ?_
              walk_at "mine_stopY"
              refine gdef_new Z (by assumption) (by assumption) fun gdf gdd g0 g1 g2 g3 g4 p1 p2 h35 tk35 F35 N35 b35 c35 => ?_
              walk_at "mine_stopY"
              rename_i DE hE oE loE hsE fsE hiE fiE lE SL hSL lSL h40 F36 N36
              have F40 : Fr g L h40 (lwMap sc pass TBL (some (.ref lk)) (some (.ref gdf)) none none none none none) := by rw [← lw_two]; exact F36
              clear F36
              have n1 : lkd < MP := b32 _ (.tail _ (.head _))
              have n2 : MP < cdd := b33 _ (.head _)
              have n3 : cdf < gdd := b35 (cdf, instObj 571 cdd) (.tail _ (.tail _ (.tail _ (.tail _ (.head _)))))
              have hex : ∃ (gd : Gd) (lkr : Lk), lkr.lk = lk ∧ lkr.lkd = lkd ∧ lkr.tabs = LGS ∧ gd.gdf = gdf ∧ gd.gdd = gdd ∧ gd.cdf = cdf ∧ gd.cdd = cdd ∧ gd.mp = MP ∧ gd.om = omp ∧ News g L h40 (gd.led w.params ++ lkr.led w.params pass ++ (LGS, listOf (ligs.map fun l => Value.ref l.a).toArray lgn) :: (base ++ ligs.flatMap (ligLed w.params))) := by
                refine ⟨⟨gdf, gdd, cdf, cdd, MP, adf, SL, p1, p2, omp, 5, 1, fun j => [g0, g1, g2, g3, g4, ct1].getD j 0⟩, ⟨lk, lkd, LGS, 4, fun j => [t0, t1, t2, t3].getD j 0, fun j => [tk15, tf, tk16].getD j 0⟩, rfl, rfl, rfl, rfl, rfl, rfl, rfl, rfl, rfl, fun p hp => ?_⟩
                revert p
                first | refine ac3 ?_ ?_ | refine ac2 ?_ ?_ | refine ac ?_ ?_
                · exact N36 _ (.head _)
                refine ac ?_ ?_
                · exact N36 _ (.tail _ (.head _))
                refine ac ?_ ?_
                · exact N36 _ (.tail _ (.tail _ (.tail _ (.tail _ (.tail _ (.tail _ (.head _)))))))
                refine ac ?_ ?_
                · exact N36 _ (.tail _ (.tail _ (.tail _ (.tail _ (.tail _ (.tail _ (.tail _ (.head _))))))))
                refine ac ?_ ?_
                · exact N36 _ (.tail _ (.tail _ (.tail _ (.tail _ (.tail _ (.tail _ (.tail _ (.tail _ (.head _)))))))))
                refine ac ?_ ?_
                · exact N36 _ (.tail _ (.tail _ (.tail _ (.tail _ (.tail _ (.tail _ (.tail _ (.tail _ (.tail _ (.head _))))))))))
                refine ac ?_ ?_
                · exact N36 _ (.tail _ (.tail _ (.tail _ (.tail _ (.tail _ (.tail _ (.tail _ (.tail _ (.tail _ (.tail _ (.head _)))))))))))
                intro p hp
                · exact N36 _ (.tail _ (.tail _ (.tail _ (.tail _ (.tail _ (.tail _ (.tail _ (.tail _ (.tail _ (.tail _ (.tail _ (hp))))))))))))
              clear N36
              obtain ⟨gd, lkr, rfl, rfl, hlkt, rfl, rfl, rfl, rfl, rfl, rfl, N40⟩ := hex
              have hgok : gd.ok Challenge.rw_pb0204_01.row.prog w := ⟨lo32, kvm, khd.h, khf.h⟩
              have hlow : ∀ p ∈ (LGS, listOf (ligs.map fun l => Value.ref l.a).toArray lgn) :: (base ++ ligs.flatMap (ligLed w.params)), p.1 < lkr.lkd := b31
              have hhigh : ∀ p ∈ gd.led w.params ++ lkr.led w.params pass, lkr.lkd ≤ p.1 := by
                intro p hp
                revert p
                first | refine ac3 ?_ ?_ | refine ac2 ?_ ?_ | refine ac ?_ ?_
                · exact Nat.le_of_lt (Nat.lt_trans (Nat.lt_trans (Nat.lt_trans (Nat.lt_trans n1 n2) c33) n3) c35)
                refine ac ?_ ?_
                · exact Nat.le_of_lt (Nat.lt_trans (Nat.lt_trans (Nat.lt_trans n1 n2) c33) n3)
                refine ac ?_ ?_
                · exact Nat.le_of_lt (Nat.lt_trans (Nat.lt_trans n1 n2) c33)
                refine ac ?_ ?_
                · exact Nat.le_of_lt (Nat.lt_trans n1 n2)
                refine ac ?_ ?_
                · exact Nat.le_of_lt n1
                refine ac ?_ ?_
                · exact Nat.le_of_lt c31
                intro p hp
                · rw [List.mem_singleton.mp hp]; exact Nat.le_refl _
              have hll2 : ligs.length = tabs.length := by rw [hll]; simp
              rw [List.length_map, List.take_length] at hkr
              have hrv := khrv0.h
              obtain ⟨mb, hmb⟩ : ∃ mb : Led, mb = gd.led w.params ++ lkr.led w.params pass ++ (LGS, listOf (ligs.map fun l => Value.ref l.a).toArray lgn) :: (base ++ ligs.flatMap (ligLed w.params)) := ⟨_, rfl⟩
              rw [← hmb] at N40
              have hcell : (L + 1 + 1, oR4) ∈ mb := by rw [hmb, hbase]; exact List.mem_append_right _ (.tail _ (.tail _ (.tail _ (.head _))))
              have hRm : (R, listOf rvs.toArray rk) ∈ mb := by rw [hmb, hbase]; exact List.mem_append_right _ (.tail _ (.tail _ (.head _)))
              have N41 : News g L h40 ((L + 1 + 1, oR4) :: (R, listOf rvs.toArray rk) :: mb) := fun p hp => by
                revert p
                first | refine ac3 ?_ ?_ | refine ac2 ?_ ?_ | refine ac ?_ ?_
                · exact N40 _ hcell
                refine ac ?_ ?_
                · exact N40 _ hRm
                intro p hp
                · exact N40 p hp
              have hrl := hrv.length
              have khrv := Keep.mk hrv
              clear N40
              refine wpAny_execs_cons (for_own (h₀ := g) (L := L) ?_)
              walk_at "mine_stopV"
              rename_i t41 tk41 hlen41 h41 tk41' ta4 tb4 tc4 hR41 F41 N42 hk41
              refine for_range gl.length rfl hR41 (by decide) (by decide) (by omega) (by omega) (by omega) F41 N42
                (LwE L oR4 R rvs rk mb sc pass TBL lkr gd)
                ⟨rfl, _, _, _, _, _, rfl⟩ ⟨_, _, rfl⟩ ?_ ?_
              · rintro I j m₁ led₁ s₂ o tk43 ⟨h43, tk43', rfl⟩ hj ⟨rfl, vat, vis, vif, vbu, vix, rfl⟩ F43 N43 hI
                rw [Int.zero_add]
                clear F41 N42
                walk_at "mine_stopV"
                rename_i h44 F44 N44
                refine' comp_assign (h₀ := g) (L := L) (cl := [(Str.ofString "row", L + 1 + 1)]) ?hsw3 ?hclos3 ?hcell3 ?hkind3 ?hnames3 ?hx3 ?hL3 ?hy3 ?hp3 ?_
                (case hsw3 => with_unfolding_all rfl)
                (case hclos3 => with_unfolding_all rfl)
                (case hcell3 => decide)
                (case hkind3 => with_unfolding_all rfl)
                (case hnames3 => decide)
                (case hx3 => with_unfolding_all rfl)
                (case hL3 => rfl)
                (case hy3 => rfl)
                (case hp3 => rfl)
                walk_at "mine_stopV"
                rename_i t45 tk45 hl45 h45 tk45' ta5 tb5 tc5 hR45 F45 N45 hk45
                have F46 : Fr g L h45 (lwMap sc pass TBL (some (.ref lkr.lk)) (some (.ref gd.gdf)) (some (.int ((j : Nat) : Int) tk43)) vis vif vbu vix) := by rw [← lw_at]; exact F45
                clear F45
                refine comp_range gl.length rfl hR45 (by decide) (by decide) (by omega) (by omega) (by omega) (Nat.le_trans (by omega) (by decide : (1000 : Nat) ≤ sizeLine)) F46 N45
                  (LwF w.params I o L oR4 R rvs rk mb gl)
                  ⟨[], by simp [infoLed], rfl, rfl, by simp [glOf], by simp, .nil⟩ ?_ ?_ ?_
                · rintro i ys led ⟨infos, rfl, rfl, h2, _⟩
                  simp [h2]
                · rintro I3 C3 D3 j3 v ys led s₁ oI oC oD mC ⟨h46, tk46, rfl⟩ hjn ⟨tv, rfl⟩ ⟨infos, rfl, rfl, hil, hig, hix, hip⟩ F47 N47 hd3 hn3 hx3
                  have hgx : gl[((0 : Int) + (j3 : Int)).toNat]? = some gl[j3] := by simp [hjn]
                  generalize hgj : gl[j3] = x3 at hgx
                  refine comp_if0 ?_
                  walk_at "mine_stopV"
                  refine info_new2 Z (by assumption) (by assumption) fun x h47 tk47 F48 N48 b48 l48 e1 e2 e3 => ?_
                  have hil2 : infoLed w.params (infos ++ [x]) = infoLed w.params infos ++ [(x.a, instObj 52 x.d), (x.d, dictOf (x.es w.params) x.n)] := by simp [infoLed]
                  have bI3 : I3 < x.d := b48 _ (.head _)
                  have bC3 : C3 < x.d := b48 _ (.tail _ (.head _))
                  have bD3 : D3 < x.d := b48 _ (.tail _ (.tail _ (.head _)))
                  have bI : I < x.d := b48 _ (.tail _ (.tail _ (.tail _ (.head _))))
                  have bmb : ∀ p ∈ mb, p.1 < x.d := fun p hp => b48 p (.tail _ (.tail _ (.tail _ (.tail _ (.tail _ (.tail _ (List.mem_append_left _ hp)))))))
                  have bin : ∀ y ∈ infos, y.a < x.d := fun y hy => b48 (y.a, instObj 52 y.d) (.tail _ (.tail _ (.tail _ (.tail _ (.tail _ (.tail _ (List.mem_append_right _ (List.mem_flatMap.mpr ⟨y, hy, .head _⟩))))))))
                  refine (show CEnd _ _ _ _ _ _ _ _ _ _ _ _ from ⟨(I, o) :: (L + 1 + 1, oR4) :: (R, listOf rvs.toArray rk) :: (mb ++ infoLed w.params (infos ++ [x])), ⟨_, _, rfl⟩, F48, News.sub N48 ?_, ?_, infos ++ [x], rfl, by simp, by simp [hil], ?_, ?_, ?_⟩)
                  · intro p hp
                    rw [hil2] at hp
                    exact tail2 (A := (I3, oI) :: (C3, oC) :: (D3, oD) :: (I, o) :: (L + 1 + 1, oR4) :: (R, listOf rvs.toArray rk) :: mb) p hp
                  · rw [hil2]
                    exact tail2' (P := fun p => p.1 ≠ I3 ∧ p.1 ≠ C3 ∧ p.1 ≠ D3) (A := (I, o) :: (L + 1 + 1, oR4) :: (R, listOf rvs.toArray rk) :: mb) hd3 ⟨neG (Nat.lt_trans bI3 l48), neG (Nat.lt_trans bC3 l48), neG (Nat.lt_trans bD3 l48)⟩ ⟨neG bI3, neG bC3, neG bD3⟩
                  · rw [List.take_add_one]
                    have : gl[j3]? = some x3 := by rw [← hgj]; exact List.getElem?_eq_getElem _
                    rw [this, ← hig]
                    simp [glOf, e1]
                  · intro y hy
                    rcases List.mem_append.mp hy with hy | hy
                    · exact hix y hy
                    · rw [List.mem_singleton.mp hy]; exact ⟨e2, e3, l48, bI, bmb⟩
                  · refine List.pairwise_append.mpr ⟨hip, by simp, fun y hy z hz => ?_⟩
                    rw [List.mem_singleton.mp hz]; exact bin y hy
                · rintro RW led ys s₁ rwn ⟨h48, tk48, rfl⟩ ⟨infos, rfl, rfl, hil, hig, hix, hip⟩ N49 hf49 F49
                  have F50 : Fr g L h48 (lwMap sc pass TBL (some (.ref lkr.lk)) (some (.ref gd.gdf)) (some (.int ((j : Nat) : Int) tk43)) (some (.ref RW)) vif vbu vix) := by rw [← lw_infos]; exact F49
                  try dsimp only at N49 ⊢
                  clear F49 F46 N45
                  have hnd := nd_of (fun x hx => (hix x hx).2.2.1) hip
                  have hal : ∀ x ∈ infos, ∀ p ∈ (RW, listOf (infos.map fun i => Value.ref i.a).toArray rwn) :: (I, o) :: (L + 1 + 1, oR4) :: (R, listOf rvs.toArray rk) :: mb, p.1 ≠ x.d := fun x hx p hp => by
                    revert p
                    first | refine ac3 ?_ ?_ | refine ac2 ?_ ?_ | refine ac ?_ ?_
                    · exact (hf49 (x.d, dictOf (x.es w.params) x.n) (.tail _ (.tail _ (.tail _ (List.mem_append_right _ (List.mem_flatMap.mpr ⟨x, hx, .tail _ (.head _)⟩)))))).symm
                    refine ac ?_ ?_
                    · exact neL (hix x hx).2.2.2.1
                    refine ac ?_ ?_
                    · exact neL ((hix x hx).2.2.2.2 _ hcell)
                    refine ac ?_ ?_
                    · exact neL ((hix x hx).2.2.2.2 _ hRm)
                    intro p hp
                    · exact neL ((hix x hx).2.2.2.2 p hp)
                  refine wpAny_execs_cons (for_own (h₀ := g) (L := L) ?_)
                  walk_at "mine_stopV"
                  refine for_list (vs := infos.map fun i => Value.ref i.a) rfl ⟨_, (N49 _ (.head _)).1, rfl, _, rfl⟩ F50 N49
                    (LwG w.params RW infos rwn I o L oR4 R rvs rk mb sc pass TBL lkr gd j tk43 vbu vix)
                    ⟨infos, _, rfl, rfl, rfl, by omega, fun x hx => (hix x hx).2.1, rfl⟩ ?_ (.inl ⟨_, _, rfl⟩) ?_ ?_
                  · rintro i m₁ led₁ h ⟨infos', vif', rfl, _⟩ F1 N1
                    exact ⟨_, (N1 _ (.head _)).1, rfl, _, rfl⟩
                  · rintro I5 k5 v m₁ led₁ s₁ o5 ⟨h50, tk50, rfl⟩ hv ⟨infos', vif', rfl, had, hgl', hmk, hlz, rfl⟩ F51 N51 hI5
                    rw [List.getElem?_map] at hv
                    obtain ⟨i0, hi0, rfl⟩ := Option.map_eq_some_iff.mp hv
                    obtain ⟨i5, hi5, e5⟩ : ∃ i5, infos'[k5]? = some i5 ∧ (i5.a, i5.d) = (i0.a, i0.d) := by
                      have := congrArg (fun l => l[k5]?) had
                      simp only [List.getElem?_map, hi0, Option.map_some] at this
                      obtain ⟨i5, h1, h2⟩ := Option.map_eq_some_iff.mp this
                      exact ⟨i5, h1, h2⟩
                    have ea := congrArg Prod.fst e5
                    have ed := congrArg Prod.snd e5
                    dsimp only at ea ed
                    have hi0m := List.mem_of_getElem? hi0
                    have hi5m := List.mem_of_getElem? hi5
                    clear F50 N49
                    walk_at "mine_stopV"
                    rename_i h51 F52 N52
                    have F53 : Fr g L h51 (lwMap sc pass TBL (some (.ref lkr.lk)) (some (.ref gd.gdf)) (some (.int ((j : Nat) : Int) tk43)) (some (.ref RW)) (some (.ref i0.a)) vbu vix) := by rw [← lw_info]; exact F52
                    have hnd5 : NdI infos' := NdI.core (f := fun i => (i.a, i.d)) (fun i i' q => ⟨congrArg Prod.fst q, congrArg Prod.snd q⟩) had hnd
                    clear F52
                    refine setRow (pre := (I5, o5) :: (RW, listOf (infos.map fun i => Value.ref i.a).toArray rwn) :: (I, o) :: (L + 1 + 1, oR4) :: (R, listOf rvs.toArray rk) :: mb) (infos := infos') (k := k5) (i := i5) (i' := { i5 with mask := 1, u := updU i5.u 3 _ }) X' F53 N52 hi5 ea.symm hnd5 (fun p hp => ?_) (by k_is) (by k_is) (by k_is) (by k_is) rfl put_mask rfl rfl fun h52 F54 N54 => ?_
                    · rw [ed]
                      revert p
                      first | refine ac3 ?_ ?_ | refine ac2 ?_ ?_ | refine ac ?_ ?_
                      · rw [← ed]
                        exact (hI5 (i5.d, dictOf (i5.es w.params) i5.n) (.tail _ (.tail _ (.tail _ (.tail _ (List.mem_append_right _ (List.mem_flatMap.mpr ⟨i5, hi5m, .tail _ (.head _)⟩))))))).symm
                      intro p hp
                      · exact hal i0 hi0m p hp
                    · clear N52 F53
                      have hex := (⟨_, N54, rfl, rfl, rfl, rfl, rfl⟩ : ∃ i6 : Inf, News g L h52 (((I5, o5) :: (RW, listOf (infos.map fun i => Value.ref i.a).toArray rwn) :: (I, o) :: (L + 1 + 1, oR4) :: (R, listOf rvs.toArray rk) :: mb) ++ infoLed w.params (infos'.set k5 i6)) ∧ i6.a = i5.a ∧ i6.d = i5.d ∧ i6.glyph = i5.glyph ∧ i6.mask = 1 ∧ i6.ligId = i5.ligId)
                      clear N54
                      obtain ⟨i6, N55, e61, e62, e63, e64, e65⟩ := hex
                      walk_at "mine_stopV"
                      try dsimp only
                      have had6 : ((infos'.set k5 i6).map fun i => (i.a, i.d)) = infos'.map fun i => (i.a, i.d) := map_set_same hi5 (by rw [e61, e62])
                      refine (show TurnEnd _ _ _ _ _ _ _ from ⟨_, (RW, listOf (infos.map fun i => Value.ref i.a).toArray rwn) :: (I, o) :: (L + 1 + 1, oR4) :: (R, listOf rvs.toArray rk) :: (mb ++ infoLed w.params (infos'.set k5 i6)), ⟨_, _, rfl⟩, F54, N55, ?_, infos'.set k5 i6, _, rfl, had6.trans had, ?_, ?_, ?_, rfl⟩)
                      · intro p hp
                        rcases List.mem_append.mp (show p ∈ ((RW, listOf (infos.map fun i => Value.ref i.a).toArray rwn) :: (I, o) :: (L + 1 + 1, oR4) :: (R, listOf rvs.toArray rk) :: mb) ++ infoLed w.params (infos'.set k5 i6) from hp) with hp | hp
                        · exact hI5 p (show p ∈ ((RW, listOf (infos.map fun i => Value.ref i.a).toArray rwn) :: (I, o) :: (L + 1 + 1, oR4) :: (R, listOf rvs.toArray rk) :: mb) ++ infoLed w.params infos' from List.mem_append_left _ hp)
                        · obtain ⟨y, hy, hp⟩ := List.mem_flatMap.mp hp
                          obtain ⟨z, hz, z1, z2⟩ := ad_get had6 hy
                          have q1 := hI5 (z.a, instObj 52 z.d) (.tail _ (.tail _ (.tail _ (.tail _ (List.mem_append_right _ (List.mem_flatMap.mpr ⟨z, hz, .head _⟩))))))
                          have q2 := hI5 (z.d, dictOf (z.es w.params) z.n) (.tail _ (.tail _ (.tail _ (.tail _ (List.mem_append_right _ (List.mem_flatMap.mpr ⟨z, hz, .tail _ (.head _)⟩))))))
                          dsimp only at q1 q2
                          simp only [List.mem_cons, List.not_mem_nil, or_false] at hp
                          rcases hp with rfl | rfl
                          · rw [← z1]; exact q1
                          · rw [← z2]; exact q2
                      · rw [← hgl']; exact map_set_same hi5 e63
                      · intro kk x hx hlt
                        rw [List.getElem?_set] at hx
                        by_cases hkk : k5 = kk
                        · rw [if_pos hkk] at hx
                          split at hx
                          · cases hx; exact e64
                          · cases hx
                        · rw [if_neg hkk] at hx
                          exact hmk kk x hx (by omega)
                      · intro x hx
                        rcases List.mem_or_eq_of_mem_set hx with hx | rfl
                        · exact hlz x hx
                        · rw [e65]; exact hlz _ hi5m
                  · rintro m₁ led₁ s₁ ⟨h55, tk55, rfl⟩ ⟨infos', vif', rfl, had, hgl', hmk, hlz, rfl⟩ F56 N56
                    try dsimp only at F56 N56 ⊢
                    clear F50 N49
                    walk_at "mine_stopW"
                    refine buffer_new Z F56 N56 fun bf bfd b0 b1 b2 b3 ub2 ub3 h57 tk57 F57 N57 lb1 lb2 => ?_
                    clear F56 N56
                    walk_at "mine_stopW"
                    refine scene_new Z (by assumption) (by assumption) fun scn scd s0 s1 s2 s3 s4 s5 s6 st h59 tk59 F59 N59 ls1 ls2 => ?_
                    walk_at "mine_stopW"
                    rename_i h57b LKS h58 F58 N58 l58
                    clear F58 N58
                    have hra : (infos.map fun i => Value.ref i.a) = infos'.map fun i => Value.ref i.a := by
                      have := congrArg (List.map fun q : Addr × Addr => Value.ref q.1) had
                      simpa [List.map_map, Function.comp_def] using this.symm
                    rw [hra] at N59
                    have hcN : ∃ c : Sc, c.sc = scn ∧ c.scd = scd ∧ c.buf = bf ∧ c.bfd = bfd ∧ c.row = RW ∧ c.g = gd ∧ c.k = lkr ∧ News g L h59 ((c.sc, instObj 192 c.scd) :: (c.scd, dictOf (c.es w.params) c.ns) :: (LKS, listOf [Value.ref c.k.lk].toArray 0) :: (c.buf, instObj 103 c.bfd) :: (c.bfd, dictOf (c.bs w.params 0 ub2) 4) :: (c.row, rowO infos' rwn) :: (I, o) :: (L + 1 + 1, oR4) :: (R, listOf rvs.toArray rk) :: (mb ++ infoLed w.params infos')) :=
                      ⟨⟨scn, scd, bf, bfd, RW, gd, lkr, LKS, st, 7, fun j => [s0, s1, s2, s3, s4, s5, s6, b0, b1, b2, b3].getD j 0, fun j => if j = 4 then _ else if j = 5 then 439 else if j = 10 then ub3 else 0⟩, rfl, rfl, rfl, rfl, rfl, rfl, rfl, N59⟩
                    clear N59
                    obtain ⟨c, rfl, rfl, rfl, rfl, rfl, rfl, rfl, N59⟩ := hcN
                    have hmg : ∀ p ∈ c.g.led w.params, p ∈ mb := fun p hp => by rw [hmb]; exact List.mem_append_left _ (List.mem_append_left _ hp)
                    have hmk2 : ∀ p ∈ c.k.led w.params pass, p ∈ mb := fun p hp => by rw [hmb]; exact List.mem_append_left _ (List.mem_append_right _ hp)
                    have hml : ∀ p ∈ (LGS, listOf (ligs.map fun l => Value.ref l.a).toArray lgn) :: ligs.flatMap (ligLed w.params), p ∈ mb := fun p hp => by
                      rw [hmb]
                      revert p
                      first | refine ac3 ?_ ?_ | refine ac2 ?_ ?_ | refine ac ?_ ?_
                      · exact List.mem_append_right _ (.head _)
                      intro p hp
                      · exact List.mem_append_right _ (.tail _ (List.mem_append_right _ hp))
                    have lm : ∀ p ∈ mb, p.1 < c.bfd := fun p hp => lb1 p (.tail _ (.tail _ (.tail _ (.tail _ (List.mem_append_left _ hp)))))
                    have li : ∀ y ∈ infos', y.a < c.bfd ∧ y.d < c.bfd := fun y hy => ⟨lb1 (y.a, instObj 52 y.d) (.tail _ (.tail _ (.tail _ (.tail _ (List.mem_append_right _ (List.mem_flatMap.mpr ⟨y, hy, .head _⟩)))))), lb1 (y.d, dictOf (y.es w.params) y.n) (.tail _ (.tail _ (.tail _ (.tail _ (List.mem_append_right _ (List.mem_flatMap.mpr ⟨y, hy, .tail _ (.head _)⟩))))))⟩
                    have lr : c.row < c.bfd := lb1 _ (.head _)
                    have sb : c.buf < c.scd := ls1 (c.buf, instObj 103 c.bfd) (.tail _ (.head _))
                    have mbx : ∀ p ∈ mb, ∀ y ∈ infos', p.1 < y.d ∧ y.d < y.a := fun p hp y hy => by
                      obtain ⟨z, hz, z1, z2⟩ := ad_get had hy
                      rw [← z1, ← z2]
                      exact ⟨(hix z hz).2.2.2.2 p hp, (hix z hz).2.2.1⟩
                    have mr : ∀ p ∈ mb, p.1 ≠ c.row := fun p hp => hf49 p (.tail _ (.tail _ (.tail _ (List.mem_append_left _ hp))))
                    have ri : ∀ y ∈ infos', c.row ≠ y.a ∧ c.row ≠ y.d := fun y hy => by
                      obtain ⟨z, hz, z1, z2⟩ := ad_get had hy
                      rw [← z1, ← z2]
                      exact ⟨(hf49 (z.a, instObj 52 z.d) (.tail _ (.tail _ (.tail _ (List.mem_append_right _ (List.mem_flatMap.mpr ⟨z, hz, .head _⟩)))))).symm, (hf49 (z.d, dictOf (z.es w.params) z.n) (.tail _ (.tail _ (.tail _ (List.mem_append_right _ (List.mem_flatMap.mpr ⟨z, hz, .tail _ (.head _)⟩)))))).symm⟩
                    have N60 : News g L h59 (saFoot w.params ligs lgn c pass 0 ub2 4 infos' rwn) := by
                      refine News.sub N59 (fun p hp => ?_)
                      revert p
                      first | refine ac3 ?_ ?_ | refine ac2 ?_ ?_ | refine ac ?_ ?_
                      · show (c.k.tabs, _) ∈ _
                        rw [hlkt]
                        exact .tail _ (.tail _ (.tail _ (.tail _ (.tail _ (.tail _ (.tail _ (.tail _ (.tail _ (List.mem_append_left _ (hml _ (.head _)))))))))))
                      intro p hp
                      rcases List.mem_append.mp hp with hp | hp
                      · exact .tail _ (.tail _ (.tail _ (.tail _ (.tail _ (.tail _ (.tail _ (.tail _ (.tail _ (List.mem_append_left _ (hml p (.tail _ hp)))))))))))
                      revert p
                      first | refine ac3 ?_ ?_ | refine ac2 ?_ ?_ | refine ac ?_ ?_
                      · exact .head _
                      refine ac ?_ ?_
                      · exact .tail _ (.head _)
                      refine ac ?_ ?_
                      · exact .tail _ (.tail _ (.tail _ (.head _)))
                      refine ac ?_ ?_
                      · exact .tail _ (.tail _ (.tail _ (.tail _ (.head _))))
                      refine ac ?_ ?_
                      · exact .tail _ (.tail _ (.tail _ (.tail _ (.tail _ (.head _)))))
                      intro p hp
                      rcases List.mem_append.mp (show p ∈ (c.g.led w.params ++ c.k.led w.params pass) ++ infoLed w.params infos' from hp) with hp | hp
                      · rcases List.mem_append.mp hp with hp | hp
                        · exact .tail _ (.tail _ (.tail _ (.tail _ (.tail _ (.tail _ (.tail _ (.tail _ (.tail _ (List.mem_append_left _ (hmg p hp))))))))))
                        · exact .tail _ (.tail _ (.tail _ (.tail _ (.tail _ (.tail _ (.tail _ (.tail _ (.tail _ (List.mem_append_left _ (hmk2 p hp))))))))))
                      · exact .tail _ (.tail _ (.tail _ (.tail _ (.tail _ (.tail _ (.tail _ (.tail _ (.tail _ (List.mem_append_right _ hp)))))))))
                    have offmb : ∀ p ∈ mb, Off p.1 c infos' := fun p hp => by
                      exact ⟨neL (Nat.lt_trans (lm p hp) lb2), neL (lm p hp), mr p hp, fun y hy => ⟨neL (Nat.lt_trans (mbx p hp y hy).1 (mbx p hp y hy).2), neL (mbx p hp y hy).1⟩⟩
                    have apt : Apt c infos' := by
                      refine ⟨?_, ?_, ?_, NdI.core (f := fun i => (i.a, i.d)) (fun i i' q => ⟨congrArg Prod.fst q, congrArg Prod.snd q⟩) had hnd⟩
                      · have o1 := offmb _ (hmg _ (.head _))
                        have o2 := offmb _ (hmg _ (.tail _ (.head _)))
                        have o3 := offmb _ (hmg _ (.tail _ (.tail _ (.head _))))
                        have o4 := offmb _ (hmg _ (.tail _ (.tail _ (.tail _ (.head _)))))
                        have o5 := offmb _ (hmg _ (.tail _ (.tail _ (.tail _ (.tail _ (.head _))))))
                        have o6 := offmb _ (hmk2 _ (.head _))
                        have o7 := offmb _ (hmk2 _ (.tail _ (.head _)))
                        intro x hx
                        simp only [Sc.fixA, List.mem_cons, List.not_mem_nil, or_false] at hx
                        rcases hx with rfl | rfl | rfl | rfl | rfl | rfl | rfl | rfl | rfl
                        · exact ⟨neG (Nat.lt_trans sb ls2), neG (Nat.lt_trans (Nat.lt_trans lb2 sb) ls2), neG (Nat.lt_trans (Nat.lt_trans (Nat.lt_trans lr lb2) sb) ls2), fun y hy => ⟨neG (Nat.lt_trans (Nat.lt_trans (Nat.lt_trans (li y hy).1 lb2) sb) ls2), neG (Nat.lt_trans (Nat.lt_trans (Nat.lt_trans (li y hy).2 lb2) sb) ls2)⟩⟩
                        · exact ⟨neG sb, neG (Nat.lt_trans lb2 sb), neG (Nat.lt_trans (Nat.lt_trans lr lb2) sb), fun y hy => ⟨neG (Nat.lt_trans (Nat.lt_trans (li y hy).1 lb2) sb), neG (Nat.lt_trans (Nat.lt_trans (li y hy).2 lb2) sb)⟩⟩
                        · exact o1
                        · exact o2
                        · exact o3
                        · exact o4
                        · exact o5
                        · exact o6
                        · exact o7
                      · intro x hx y hy
                        simp only [List.mem_cons, List.not_mem_nil, or_false] at hx
                        rcases hx with rfl | rfl | rfl
                        · exact ⟨neG (Nat.lt_trans (li y hy).1 lb2), neG (Nat.lt_trans (li y hy).2 lb2)⟩
                        · exact ⟨neG (li y hy).1, neG (li y hy).2⟩
                        · exact ri y hy
                      · exact ⟨neL (Nat.lt_trans lr lb2), neL lr⟩
                    have hoff : ∀ p ∈ (c.k.tabs, listOf (ligs.map fun l => Value.ref l.a).toArray lgn) :: ligs.flatMap (ligLed w.params), ∀ q ∈ c.full w.params pass 0 ub2 4 infos' rwn, p.1 ≠ q.1 := by
                      intro p hp q hq
                      have hp' : p ∈ (LGS, listOf (ligs.map fun l => Value.ref l.a).toArray lgn) :: ligs.flatMap (ligLed w.params) := by
                        rw [← hlkt]; exact hp
                      have hpm := hml p hp'
                      have hpl : p.1 < c.k.lkd := by
                        refine hlow p ?_
                        rcases List.mem_cons.mp hp' with rfl | h
                        · exact .head _
                        · exact .tail _ (List.mem_append_right _ h)
                      have lmp := lm p hpm
                      revert q
                      first | refine ac3 ?_ ?_ | refine ac2 ?_ ?_ | refine ac ?_ ?_
                      · exact neL (Nat.lt_trans (Nat.lt_trans (Nat.lt_trans lmp lb2) sb) ls2)
                      refine ac ?_ ?_
                      · exact neL (Nat.lt_trans (Nat.lt_trans lmp lb2) sb)
                      refine ac ?_ ?_
                      · exact neL (Nat.lt_trans lmp lb2)
                      refine ac ?_ ?_
                      · exact neL lmp
                      refine ac ?_ ?_
                      · exact mr p hpm
                      intro q hq
                      rcases List.mem_append.mp (show q ∈ (c.g.led w.params ++ c.k.led w.params pass) ++ infoLed w.params infos' from hq) with hq | hq
                      · exact neL (Nat.lt_of_lt_of_le hpl (hhigh q hq))
                      · exact (offmb p hpm).info q hq
                    have hgi : glOf infos' = gl := by rw [hgl', hig, List.take_length]
                    have hlen' : infos'.length = gl.length := by rw [← hgi]; simp [glOf]
                    have hjl : j < infos'.length := by omega
                    have hij : infos'[((j : Nat) : Int).toNat]? = some infos'[j] := by simp [hjl]
                    have hmk1 : ∀ x ∈ infos', x.mask = 1 := fun x hx => by
                      obtain ⟨kk, hkk⟩ := List.getElem?_of_mem hx
                      refine hmk kk x hkk ?_
                      have := (List.getElem?_eq_some_iff.mp hkk).1
                      have h2 := congrArg List.length had
                      simp at h2 ⊢
                      omega
                    refine wpAny_mono (Q := LwQ pass infos' j (infos'[j]).glyph ligs ⟨g, sg, sd, 0, so⟩ g L (lwMap sc pass TBL (some (.ref c.k.lk)) (some (.ref c.g.gdf)) (some (.int ((j : Nat) : Int) tk43)) (some (.ref c.row)) vif' (some (.ref c.buf)) vix) w.params lgn c I o mb) ?_ ?_ (fun _ _ e => e)
                    · have F60 : Fr g L h59 (lwMap sc pass TBL (some (.ref c.k.lk)) (some (.ref c.g.gdf)) (some (.int ((j : Nat) : Int) tk43)) (some (.ref c.row)) vif' (some (.ref c.buf)) vix) := by rw [← lw_buf]; exact F59
                      have hkeep : ∀ (h' : Heap) (X' : Led), News g L h' ((c.k.tabs, listOf (ligs.map fun l => Value.ref l.a).toArray lgn) :: (ligs.flatMap (ligLed w.params) ++ X')) → (∀ p ∈ c.g.led w.params ++ c.k.led w.params pass, p ∈ X') → Chg ((saFoot w.params ligs lgn c pass 0 ub2 4 infos' rwn).map (·.1)) h59 h' → News g L h' ((I, o) :: mb) := by
                        intro h' X' N' hX cg p hp
                        revert p
                        first | refine ac3 ?_ ?_ | refine ac2 ?_ ?_ | refine ac ?_ ?_
                        · have hIn := N59 (I, o) (.tail _ (.tail _ (.tail _ (.tail _ (.tail _ (.tail _ (.head _)))))))
                          refine ⟨cg _ _ hIn.1 (notin_fst fun q hq => ?_), hIn.2⟩
                          revert q
                          first | refine ac3 ?_ ?_ | refine ac2 ?_ ?_ | refine ac ?_ ?_
                          · rw [hlkt]; exact (hI _ (.tail _ (.tail _ (hml _ (.head _))))).symm
                          intro q hq
                          rcases List.mem_append.mp hq with hq | hq
                          · exact (hI q (.tail _ (.tail _ (hml q (.tail _ hq))))).symm
                          revert q
                          first | refine ac3 ?_ ?_ | refine ac2 ?_ ?_ | refine ac ?_ ?_
                          · exact neL (Nat.lt_trans (Nat.lt_trans (Nat.lt_trans (lb1 (I, o) (.tail _ (.head _))) lb2) sb) ls2)
                          refine ac ?_ ?_
                          · exact neL (Nat.lt_trans (Nat.lt_trans (lb1 (I, o) (.tail _ (.head _))) lb2) sb)
                          refine ac ?_ ?_
                          · exact neL (Nat.lt_trans (lb1 (I, o) (.tail _ (.head _))) lb2)
                          refine ac ?_ ?_
                          · exact neL (lb1 (I, o) (.tail _ (.head _)))
                          refine ac ?_ ?_
                          · exact hf49 (I, o) (.head _)
                          intro q hq
                          rcases List.mem_append.mp (show q ∈ (c.g.led w.params ++ c.k.led w.params pass) ++ infoLed w.params infos' from hq) with hq | hq
                          · rcases List.mem_append.mp hq with hq | hq
                            · exact (hI q (.tail _ (.tail _ (hmg q hq)))).symm
                            · exact (hI q (.tail _ (.tail _ (hmk2 q hq)))).symm
                          · refine own_info (P := w.params) (infos := infos') (x := I) (fun y hy => ?_) q hq
                            obtain ⟨z, hz, z1, z2⟩ := ad_get had hy
                            rw [← z1, ← z2]
                            have := (hix z hz)
                            exact ⟨neL (Nat.lt_trans this.2.2.2.1 this.2.2.1), neL this.2.2.2.1⟩
                        intro p hp
                        · have hpn := N59 p (.tail _ (.tail _ (.tail _ (.tail _ (.tail _ (.tail _ (.tail _ (.tail _ (.tail _ (List.mem_append_left _ hp))))))))))
                          have same : ∀ q ∈ saFoot w.params ligs lgn c pass 0 ub2 4 infos' rwn, q.1 = p.1 → p = q := fun q hq e => by
                            have h2 := (N60 q hq).1
                            rw [e, hpn.1] at h2
                            exact Prod.ext e.symm (Option.some.inj h2)
                          have lmp := lm p hp
                          by_cases hm : p.1 ∈ (saFoot w.params ligs lgn c pass 0 ub2 4 infos' rwn).map (·.1)
                          · obtain ⟨q, hq, e⟩ := List.mem_map.mp hm
                            have epq := same q hq e
                            subst epq
                            rcases List.mem_cons.mp hq with h | hq
                            · rw [h]; exact N' _ (.head _)
                            rcases List.mem_append.mp hq with hq | hq
                            · exact N' _ (.tail _ (List.mem_append_left _ hq))
                            rcases List.mem_cons.mp hq with h | hq
                            · exact absurd (congrArg Prod.fst h) (neL (Nat.lt_trans (Nat.lt_trans (Nat.lt_trans lmp lb2) sb) ls2))
                            rcases List.mem_cons.mp hq with h | hq
                            · exact absurd (congrArg Prod.fst h) (neL (Nat.lt_trans (Nat.lt_trans lmp lb2) sb))
                            rcases List.mem_cons.mp hq with h | hq
                            · exact absurd (congrArg Prod.fst h) (neL (Nat.lt_trans lmp lb2))
                            rcases List.mem_cons.mp hq with h | hq
                            · exact absurd (congrArg Prod.fst h) (neL lmp)
                            rcases List.mem_cons.mp hq with h | hq
                            · exact absurd (congrArg Prod.fst h) (mr p hp)
                            rcases List.mem_append.mp (show p ∈ (c.g.led w.params ++ c.k.led w.params pass) ++ infoLed w.params infos' from hq) with hq | hq
                            · exact N' _ (.tail _ (List.mem_append_right _ (hX p hq)))
                            · exact absurd rfl ((offmb p hp).info p hq)
                          · exact ⟨cg _ _ hpn.1 hm, hpn.2⟩
                      refine substitute_at_spec Z F60 N60 hgok hlok (by omega) (by omega) hij hmk1 hlz apt hoff (fun hd h' tk' t' F' N' cg => ?_) (fun ix g1 hd h' tk' t' ll' tl' nr' infos2 F' N' cg hg => ?_)
                      · exact ⟨-1, glOf infos', 0, ub2, rwn, infos', t', h', tk', by rw [hd]; rfl, rfl, rfl, by omega, rfl, F', N', hkeep h' _ N' (fun p hp => .tail _ (.tail _ (.tail _ (.tail _ (.tail _ (List.mem_append_left (infoLed w.params _) hp)))))) cg⟩
                      · exact ⟨ix, g1, ll', tl', nr', infos2, t', h', tk', by rw [hd]; rfl, rfl, hg, by
                          have h1 := dueL_len (tabsDue_dueL ▸ hd)
                          have h2 : infos2.length = g1.length := by rw [← hg]; simp [glOf]
                          rw [hgi] at h1; omega, rfl, F', N', hkeep h' _ N' (fun p hp => .tail _ (.tail _ (.tail _ (.tail _ (.tail _ (List.mem_append_left (infoLed w.params _) hp)))))) cg⟩
                    · rintro v s' ⟨ix, g', ll, tl, nr, infos2, t60, h60, tk60, hdue, rfl, hg2, hl2, rfl, F61, N61, N62⟩
                      have N63 : News g L h60 ((c.buf, instObj 103 c.bfd) :: (c.bfd, dictOf (c.bs w.params ll tl) 4) :: (L + 1 + 1, oR4) :: (I, o) :: (rowFoot w.params c.row infos2 nr ++ mb)) := fun p hp => by
                        revert p
                        first | refine ac3 ?_ ?_ | refine ac2 ?_ ?_ | refine ac ?_ ?_
                        · exact N61 _ (.tail _ (List.mem_append_right _ (.tail _ (.tail _ (.head _)))))
                        refine ac ?_ ?_
                        · exact N61 _ (.tail _ (List.mem_append_right _ (.tail _ (.tail _ (.tail _ (.head _))))))
                        refine ac ?_ ?_
                        · exact N62 _ (.tail _ hcell)
                        refine ac ?_ ?_
                        · exact N62 _ (.head _)
                        intro p hp
                        rcases List.mem_append.mp hp with hp | hp
                        · revert p
                          first | refine ac3 ?_ ?_ | refine ac2 ?_ ?_ | refine ac ?_ ?_
                          · exact N61 _ (.tail _ (List.mem_append_right _ (.tail _ (.tail _ (.tail _ (.tail _ (.head _)))))))
                          intro p hp
                          · exact N61 _ (.tail _ (List.mem_append_right _ (.tail _ (.tail _ (.tail _ (.tail _ (.tail _ (List.mem_append_right (c.g.led w.params ++ c.k.led w.params pass) hp))))))))
                        · exact N62 _ (.tail _ hp)
                      clear N61 N62 N60 N59 F59
                      walk_at "mine_stopW"
                      rename_i h61 F63 N64
                      dsimp only [List.cons_append, List.nil_append]
                      refine glyphs_spec (c := c) (ll := ll) (tl := tl) (nb := 4) (nr := nr) (infos := infos2) Z F63 N64 (fun p hp => ?_) (by omega) fun h62 tk62 DG dvs dk F64 N65 hdi => ?_
                      · revert p
                        first | refine ac3 ?_ ?_ | refine ac2 ?_ ?_ | refine ac ?_ ?_
                        · exact .head _
                        refine ac ?_ ?_
                        · exact .tail _ (.head _)
                        intro p hp
                        · exact .tail _ (.tail _ (.tail _ (.tail _ (List.mem_append_left _ hp))))
                      have khdi := Keep.mk hdi
                      have N66 : News g L h62 ((DG, listOf dvs.toArray dk) :: (L + 1 + 1, oR4) :: (I, o) :: mb) := News.sub N65 (fun p hp => by
                        revert p
                        first | refine ac3 ?_ ?_ | refine ac2 ?_ ?_ | refine ac ?_ ?_
                        · exact .head _
                        refine ac ?_ ?_
                        · exact .tail _ (.tail _ (.tail _ (.head _)))
                        refine ac ?_ ?_
                        · exact .tail _ (.tail _ (.tail _ (.tail _ (.head _))))
                        intro p hp
                        · exact .tail _ (.tail _ (.tail _ (.tail _ (.tail _ (List.mem_append_right _ hp))))))

                      walk_at "mine_stopW"
                      rename_i TU h63 F65 N67 lTU
                      have hxg : gl[((j : Nat) : Int).toNat]? = some (infos'[j]).glyph := by
                        have h1 : (glOf infos')[j]? = some (infos'[j]).glyph := by simp [glOf, hjl]
                        rw [hgi] at h1; simpa using h1
                      refine law_due_spec (tb := TBL) (nt := tbk) (tabs := tabs) (ra := R) (rn := rk) (rvs := rvs) (gl := gl) (pass := pass) Z F65 N67 (fun p hp => ?_) khrv.h (fun t ht => (htok t ht).1) hxg (by omega) fun ix2 g2 hd2 h64 tk64 T2 la lk2 lvs t2 F66 N68 N69 hi2 => ?_
                      · refine .tail _ (.tail _ (.tail _ (.tail _ ?_)))
                        show p ∈ mb
                        rw [hmb, hbase]
                        refine List.mem_append_right _ (.tail _ (List.mem_append_left _ ?_))
                        revert p
                        first | refine ac3 ?_ ?_ | refine ac2 ?_ ?_ | refine ac ?_ ?_
                        · exact .head _
                        refine ac ?_ ?_
                        · exact .tail _ (.head _)
                        intro p hp
                        · exact .tail _ (.tail _ (.tail _ (.tail _ hp)))
                      have hrows : (ligs.map fun l => l.tab.rowsOf (infos'[j]).glyph) = tabs.map fun t => t.rowsOf (infos'[j]).glyph := by
                        apply List.ext_getElem?
                        intro q
                        have := congrArg (fun l => l[q]?) hkr
                        simp only [List.getElem?_map] at this ⊢
                        cases h1 : ligs[q]? <;> cases h2 : tabs[q]? <;> simp [h1, h2] at this ⊢
                        exact rowsOf_same this
                      have heq : (ix, g') = (ix2, g2) := by
                        rw [← hdue, ← hd2, tabsDue_dueL, hrows, hgi]
                      obtain ⟨rfl, rfl⟩ := Prod.mk.inj heq
                      have hdi2 : IntsAre dvs g' := hg2 ▸ khdi.h
                      have N70 : News g L h64 ((la, listOf lvs.toArray lk2) :: (T2, tupOf [.int ix t2, .ref la] 0) :: (TU, tupOf [.int ix t60, .ref DG] 0) :: (DG, listOf dvs.toArray dk) :: (L + 1 + 1, oR4) :: (I, o) :: mb) := News.cons N69 N68
                      try dsimp only
                      refine ne_pairs N70 (.tail _ (.tail _ (.head _))) (.tail _ (.head _)) (.tail _ (.tail _ (.tail _ (.head _)))) (.head _) hdi2 hi2 (Nat.le_of_ble_eq_true rfl) ?_
                      walk_at "mine_stopW"
                      try dsimp only
                      exact (show TurnEnd _ _ _ _ _ _ _ from ⟨_, (L + 1 + 1, oR4) :: (R, listOf rvs.toArray rk) :: mb, ⟨_, _, rfl⟩, F66, News.sub N70 (fun p hp => by
                        revert p
                        first | refine ac3 ?_ ?_ | refine ac2 ?_ ?_ | refine ac ?_ ?_
                        · exact .tail _ (.tail _ (.tail _ (.tail _ (.tail _ (.head _)))))
                        refine ac ?_ ?_
                        · exact .tail _ (.tail _ (.tail _ (.tail _ (.head _))))
                        refine ac ?_ ?_
                        · exact .tail _ (.tail _ (.tail _ (.tail _ (.tail _ (.tail _ hRm)))))
                        intro p hp
                        · exact .tail _ (.tail _ (.tail _ (.tail _ (.tail _ (.tail _ hp)))))), hI, rfl, _, _, _, _, _, lw_index⟩)
              · rintro m₁ led₁ s₂ ⟨h70, tk70, rfl⟩ ⟨rfl, vat, vis, vif, vbu, vix, rfl⟩ F70 N71
                try dsimp only
                walk_at "mine_stopW"
                exact (show LawEnd _ _ _ _ _ from ⟨rfl, _, ps2, ⟨_, _, rfl⟩, by assumption, fun p hp => by
                  rw [List.mem_singleton.mp hp]
                  exact N71 _ (.tail _ (.tail _ (by rw [hmb, hbase]; exact List.mem_append_right _ (.tail _ (.tail _ (.tail _ (.tail _ (.head _))))))))⟩)
    · rintro f s' ⟨rfl, m, ps', ⟨h', tk', rfl⟩, F1, N1⟩
      try dsimp only
      walk_at "mine_stopU"
)
end Mine
theorem PySem.Challenge.cw_pb0204_01_holds : PySem.Challenge.rw_pb0204_01.Holds := by
  exact Mine.law_holds
