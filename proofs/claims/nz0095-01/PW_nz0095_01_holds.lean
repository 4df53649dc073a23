import PyProof.Rows.All
import Wide.All
import OpenK.AllK
import Wide.FinOn
import Lean
import PySem.Challenge.RW_nz0095_01
open PySem PySem.W PyProof.Rows PySem.Spec PySem.Calls
set_option Elab.async false
set_option compiler.extract_closed false
set_option linter.unusedSimpArgs false
set_option maxRecDepth 100000
set_option maxHeartbeats 8000000
set_option linter.unusedVariables false
namespace Mine
section
local macro_rules | `(tactic| o_head $H) => `(tactic| (assumption; exact $H))
noncomputable def H : Hook := by
  refine ((fun (_ : PySem.Challenge.rw_nz0095_01.row.Holds → PySem.Challenge.rw_nz0095_01.row.Holds) => ?hk) (fun h => ?p))
  rotate_left
  k_head
end
end Mine
namespace Mine
theorem hp.tw11573735771062695058 : True := trivial
set_option Elab.async true in
theorem hp : (fun (_ : Params → Frag) => Bool.true) Mine.H.heap_1 = Bool.true := by
  first | k_qdec | rfl
#print axioms hp
end Mine
local macro_rules | `(tactic| walk_at $s:str) => `(tactic| k_extra $(Lean.Syntax.mkStrLit ("nz:" ++ s.getString)))
local macro_rules | `(tactic| omega) => `(tactic| k_extra "nz:omega")
local macro_rules | `(tactic| k_mem) => `(tactic| k_extra "nz:k_mem")
local macro_rules | `(tactic| size_fits) => `(tactic| k_extra "nz:size_fits")
local macro_rules | `(tactic| k_room) => `(tactic| k_extra "nz:k_room")
local macro_rules | `(tactic| k_all) => `(tactic| k_extra "nz:k_all")
local macro_rules | `(tactic| ktr_units) => `(tactic| k_extra "nz:ktr_units")
local macro_rules | `(tactic| k_upd) => `(tactic| k_extra "nz:k_upd")
theorem Nz.rowsO : True := by
  (k_with "nz:omega" => ((k_whole; first | with_reducible assumption | exact Nat.le_refl _ | exact Nat.zero_le _ | exact Nat.le_trans (by with_reducible assumption) (Nat.le_of_ble_eq_true rfl) | exact Nat.ne_of_lt (by with_reducible assumption) | exact Nat.ne_of_gt (by with_reducible assumption) | exact Nat.le_of_lt (by with_reducible assumption) | (with_reducible exact Nz.tnlt0 (by assumption) (by assumption)) | (with_reducible exact Nz.tnlt (by assumption) (by assumption) (by assumption)) | (with_reducible exact Nat.sub_one_lt_of_lt (by assumption)) | (with_reducible exact Nz.lec (by assumption) (by assumption) (Eq.refl true)) | (with_reducible exact Nz.up_le (by assumption) (Eq.refl true)) | (with_reducible exact Nz.n_up) | (with_reducible exact Nz.lt_up (by assumption)) | (with_reducible exact Nz.pa1 (by assumption)) | (with_reducible exact Nz.pa2 (by assumption)) | (with_reducible exact Nz.pa3 (by assumption)) | (with_reducible exact Nz.pa4 (by assumption)) | (with_reducible exact Nat.pred_lt (by assumption)) | (with_reducible exact Nz.kltc (by assumption) (by assumption) (by decide)) | (with_reducible exact Nz.tnm1) | (with_reducible exact Nz.tnx (by assumption)) | (with_reducible exact Nz.tn1 (by assumption)) | (with_reducible exact Nz.tn2 (by assumption)) | (with_reducible exact Nz.tn2m (by assumption)) | (with_reducible exact Nz.tn3m (by assumption)) | (with_reducible exact Nz.m1lt (by assumption)) | lia)))
  trivial
namespace Nz
section
/-! small arithmetic, said once -/
theorem tnlt0 {x : Int} {n : Nat} (hx : x < (n : Int)) (h0 : 0 ≤ x) : x.toNat < n := (Int.toNat_lt h0).mpr hx
theorem tnlt {x : Int} {n m : Nat} (hx : x < (n : Int)) (h0 : 0 ≤ x) (h : m = n) : x.toNat < m := h ▸ tnlt0 hx h0
theorem lec {a b c d : Nat} (h : a = b) (hb : b ≤ c) (hd : Nat.ble c d = true) : a ≤ d := h ▸ Nat.le_trans hb (Nat.le_of_ble_eq_true hd)
theorem kltc {k d : Int} {n c : Nat} (h : k < (n : Int)) (h2 : n ≤ c) (hd : (c : Int) ≤ d) : k < d := Int.lt_of_lt_of_le h (Int.le_trans (Int.ofNat_le.mpr h2) hd)
theorem n_up {n : Nat} : (n : Int) < ((n + 1 : Nat) : Int) := Int.ofNat_lt.mpr (Nat.lt_succ_self n)
theorem lt_up {n : Nat} {x : Int} (h : x < (n : Int)) : x < ((n + 1 : Nat) : Int) := Int.lt_trans h n_up
theorem up_le {n c d : Nat} (h : n ≤ c) (hd : Nat.ble (c + 1) d = true) : n + 1 ≤ d := Nat.le_trans (Nat.succ_le_succ h) (Nat.le_of_ble_eq_true hd)
theorem pa1 {p a : Nat} (h : ¬ a = 0) : ((p + a : Nat) : Int) - 1 = ((p + (a - 1) : Nat) : Int) := by
  cases a with
  | zero => exact absurd rfl h
  | succ k => exact Int.add_sub_cancel ((p + k : Nat) : Int) 1
theorem pa2 {p a : Nat} (h : ¬ a = 0) : (((p + a : Nat) : Int) - 1).toNat = p + (a - 1) := by rw [pa1 h]; rfl
theorem pa3 {p a l : Nat} (h : p + a ≤ l) : p + (a - 1) ≤ l := Nat.le_trans (Nat.add_le_add_left (Nat.sub_le a 1) p) h
theorem pa4 {p a l : Nat} (h : p + a < l) : p + (a - 1) < l := Nat.lt_of_le_of_lt (Nat.add_le_add_left (Nat.sub_le a 1) p) h
theorem tnmc (c a : Nat) : (-(c : Int) + (a : Int)).toNat = a - c := by rw [Int.add_comm]; exact Int.toNat_sub a c
theorem tnm1 {a : Nat} : (-1 + (a : Int)).toNat = a - 1 := tnmc 1 a
theorem tn1 {a b : Nat} (h : a = b + 1) : (-1 + (a : Int)).toNat = b := h ▸ tnmc 1 (b + 1)
theorem tn2 {a b : Nat} (h : a = b + 2) : (-2 + (a : Int)).toNat = b := h ▸ tnmc 2 (b + 2)
theorem tn2m {a b : Nat} (h : a = b + 1) : (-2 + (a : Int)).toNat = b - 1 := h ▸ tnmc 2 (b + 1)
theorem tn3m {a b : Nat} (h : a = b + 2) : (-3 + (a : Int)).toNat = b - 1 := h ▸ tnmc 3 (b + 2)
theorem m1lt {a b : Nat} (h : a = b + 1) : b - 1 < a := h ▸ Nat.lt_succ_of_le (Nat.sub_le b 1)
theorem tnx {v f : Nat} (h : v = f) : ((v : Int) - 1).toNat = f - 1 := h ▸ Int.toNat_sub v 1
theorem minadd {c l n : Nat} (h : l ≤ n) : min c l + (l - c + 1) ≤ n + 1 := by
  have h1 : min c l + (l - c) ≤ l := by
    cases Nat.le_total c l with
    | inl hc => rw [Nat.min_eq_left hc, Nat.add_sub_cancel' hc]; exact Nat.le_refl _
    | inr hc => rw [Nat.min_eq_right hc, Nat.sub_eq_zero_of_le hc]; exact Nat.le_refl _
  exact Nat.succ_le_succ (Nat.le_trans h1 h)
abbrev Led := List (Addr × Obj)
abbrev tupOf (vs : List Value) (n : Nat) : Obj := { cls := .type "tuple", data := .seq vs.toArray n }
abbrev lsOf (vs : List Value) (n : Nat) : Obj := listOf vs.toArray n
abbrev keys (l : Led) : List Addr := l.map (·.1)
def refs (l : Led) : List Value := l.map fun p => Value.ref p.1

theorem sub_c {x : Addr × Obj} {l l' : Led} (h : x ∈ l') (k : ∀ p ∈ l, p ∈ l') : ∀ p ∈ x :: l, p ∈ l' := List.forall_mem_cons.mpr ⟨h, k⟩
theorem sub_a {l₁ l₂ l' : Led} (h : ∀ p ∈ l₁, p ∈ l') (k : ∀ p ∈ l₂, p ∈ l') : ∀ p ∈ l₁ ++ l₂, p ∈ l' := List.forall_mem_append.mpr ⟨h, k⟩
theorem sub_n {l' : Led} : ∀ p ∈ ([] : Led), p ∈ l' := fun _ h => nomatch h
theorem sub_ab {a b r r' : Led} (h : ∀ p ∈ r, p ∈ r') : ∀ p ∈ a ++ (b ++ r), p ∈ a ++ (b ++ r') :=
  sub_a (fun _ k => List.mem_append_left _ k) (sub_a (fun _ k => List.mem_append_right _ (List.mem_append_left _ k)) fun p k => List.mem_append_right _ (List.mem_append_right _ (h p k)))
theorem sub_swap {a b r : Led} : ∀ p ∈ a ++ (b ++ r), p ∈ b ++ (a ++ r) :=
  sub_a (fun _ k => List.mem_append_right _ (List.mem_append_left _ k)) (sub_a (fun _ k => List.mem_append_left _ k) fun _ k => List.mem_append_right _ (List.mem_append_right _ k))
theorem sub_front {a b r : Led} {x : Addr × Obj} : ∀ p ∈ a ++ (b ++ x :: r), p ∈ x :: (a ++ (b ++ r)) :=
  sub_a (fun _ k => .tail _ (List.mem_append_left _ k)) (sub_a (fun _ k => .tail _ (List.mem_append_right _ (List.mem_append_left _ k))) (sub_c (.head _) fun _ k => .tail _ (List.mem_append_right _ (List.mem_append_right _ k))))
structure Sep (l r : Led) : Prop where
  nd : (keys l).Nodup
  off : ∀ p ∈ l, ∀ q ∈ r, p.1 ≠ q.1

theorem Sep.of_keys {l l' r : Led} (S : Sep l r) (h : keys l' = keys l) : Sep l' r :=
  ⟨h ▸ S.nd, fun p hp q hq e => by
    have : p.1 ∈ keys l' := List.mem_map.mpr ⟨p, hp, rfl⟩
    rw [h] at this
    obtain ⟨p', hp', e'⟩ := List.mem_map.mp this
    exact S.off p' hp' q hq (e'.trans e)⟩

structure ARest where
  depth : Nat
  frames : List Env
  guards : Option (List Code)
  units : Nat
def Ar (x : ARest) : Around := { handled := none, depth := x.depth, frames := some x.frames, guards := x.guards, units := x.units }
theorem Ar.of {A : Around} {l : List Env} (h : A.handled = none) (hA : A.frames = some l) : ∃ x, A = Ar x := by
  obtain ⟨a, b, c, d, e⟩ := A
  obtain rfl : a = none := h
  obtain rfl : c = some l := hA
  exact ⟨⟨b, l, d, e⟩, rfl⟩
/-- there is room for D frames and U units -/
def Room (A : Around) (D U : Nat) : Prop := A.handled = none ∧ A.depth + D < recursionLimit ∧ A.units + U < cLine
theorem Room.han {A : Around} {D U : Nat} (h : Room A D U) : A.handled = none := h.1
theorem Room.mono {A : Around} {D U D' U' : Nat} (h : Room A D U) (hD : D' ≤ D) (hU : U' ≤ U) : Room A D' U' := ⟨h.1, by have := h.2.1; omega, by have := h.2.2; omega⟩
/-- a call that takes the ledger l to a ledger and a value with Post -/
def Tells (prog : Program) (w : World) (p : Program) (loose : List Str) (mean : ExcName → Option Value) (mg mb : Str → Option Value)
    (D U : Nat) (f : Addr) (args : List Value) (l : Led) (Post : Value → Led → Prop) : Prop :=
  ∀ (x : ARest) (env : Env) (outer : List Env) (A₀ : Around) (base h₀ : Heap) (L : Addr) (m : Str → Option Value) (s : Shared) (Q E : Value → Shared → Prop),
    (Ar x).frames = some (env :: outer) → env.frame = some L → env.scope.kind = .function →
    Below A₀ base outer h₀ → Fr h₀ L s.heap m → (Mine.H.heap_1 w.params).In h₀ → News h₀ L s.heap l → Top p loose mean mg mb h₀ → Room (Ar x) D U →
    (∀ v l' h' tk', Post v l' → Fr h₀ L h' m → News h₀ L h' l' → Q v { s with heap := h', toks := tk' }) →
    wpAny (model prog w) (Ar x) (call (.ref f) args) Q E s

theorem News.sub {g h : Heap} {L : Addr} {l l' : Led} (N : News g L h l) (hs : ∀ p ∈ l', p ∈ l) : News g L h l' := fun p hp => N p (hs p hp)

theorem nodup_set {l : Led} {i : Nat} {D : Addr} {o o' : Obj} (nd : (keys l).Nodup) (hi : l[i]? = some (D, o)) :
    ∀ p ∈ l.set i (D, o'), p = (D, o') ∨ (p ∈ l ∧ p.1 ≠ D) := by
  induction l generalizing i with
  | nil => intro p hp; simp at hp
  | cons x l ih =>
    obtain ⟨h1, h2⟩ := List.nodup_cons.mp nd
    intro p hp
    cases i with
    | zero =>
      simp only [List.getElem?_cons_zero, Option.some.injEq] at hi
      subst hi
      rw [List.set_cons_zero] at hp
      rcases List.mem_cons.mp hp with rfl | hp
      · exact .inl rfl
      · exact .inr ⟨.tail _ hp, fun e => h1 (List.mem_map.mpr ⟨p, hp, e⟩)⟩
    | succ i =>
      rw [List.getElem?_cons_succ] at hi
      rw [List.set_cons_succ] at hp
      rcases List.mem_cons.mp hp with rfl | hp
      · exact .inr ⟨.head _, fun e => h1 (List.mem_map.mpr ⟨(D, o), List.mem_of_getElem? hi, e.symm⟩)⟩
      · exact (ih h2 hi p hp).imp id fun q => ⟨.tail _ q.1, q.2⟩

section
variable {g h h' : Heap} {L D : Addr} {m : Str → Option Value} {l l' r : Led} {o o' : Obj}
theorem news_led (N : News g L h (l ++ r)) (S : Sep l r) (i : Nat) (hi : l[i]? = some (D, o)) (hl : l.set i (D, o') = l') (hs : Heap.SameBut D h h') (ho : h'.get? D = some o') : News g L h' (l' ++ r) := by
  subst hl
  have hm := List.mem_of_getElem? hi
  have z := N (D, o) (List.mem_append_left _ hm)
  intro p hp
  rcases List.mem_append.mp hp with hp | hp
  · rcases nodup_set S.nd hi p hp with rfl | ⟨hp, hn⟩
    · exact ⟨ho, z.2⟩
    · have y := N p (List.mem_append_left _ hp)
      exact ⟨(hs.2 _ hn).trans y.1, y.2⟩
  · have y := N p (List.mem_append_right _ hp)
    exact ⟨(hs.2 _ fun e => S.off _ hm p hp e.symm).trans y.1, y.2⟩
theorem keys_set {l : Led} {i : Nat} {D : Addr} {o o' : Obj} (hi : l[i]? = some (D, o)) : keys (l.set i (D, o')) = keys l := by
  induction l generalizing i with
  | nil => rfl
  | cons x l ih =>
    cases i with
    | zero =>
      simp only [List.getElem?_cons_zero, Option.some.injEq] at hi
      subst hi
      rfl
    | succ i =>
      rw [List.getElem?_cons_succ] at hi
      simp [keys] at ih ⊢
      exact ih hi
theorem fr_led (F : Fr g L h m) (N : News g L h (l ++ r)) (i : Nat) (hi : l[i]? = some (D, o)) (hs : Heap.SameBut D h h') : Fr g L h' m := by
  have z := N (D, o) (List.mem_append_left _ (List.mem_of_getElem? hi))
  exact F.change hs z.2.1 z.2.2
end

section
variable {prog : Program} {w : World} {A : Around} {E : Value → Shared → Prop} {s : Shared} {g : Heap} {L D : Addr} {m : Str → Option Value} {l l' r : Led}
theorem led_append {its : List Value} {n : Nat} {x : Value} {Q : Value → Shared → Prop} (i : Nat) (F : Fr g L s.heap m) (N : News g L s.heap (l ++ r)) (S : Sep l r) (hi : l[i]? = some (D, lsOf its n)) (hl : l.set i (D, lsOf (its ++ [x]) (n + 1)) = l')
    (hz : its.length ≤ 1000) (h : ∀ h', Fr g L h' m → News g L h' (l' ++ r) → Sep l' r → Q .none { s with heap := h' }) : wpAny (model prog w) A (call (.builtin "list.append") [.ref D, x]) Q E s := by
  have z := N (D, _) (List.mem_append_left _ (List.mem_of_getElem? hi))
  exact append_at (hsz := by rw [sizeLine_eq, List.size_toArray]; omega) z.1 fun h' hs ho' => h h' (fr_led F N i hi hs) (news_led N S i hi hl hs (by simpa using ho')) (S.of_keys (hl ▸ keys_set hi))
end

/-! the tree -/
structure TAd where
  t : Addr
  td : Addr
  kI : Addr
  spI : Addr
  nI : Addr
  aI : Addr
  xI : Addr
  pI : Addr
  cI : Addr
  coI : Addr
structure TRaw where
  tk : Nat → Tok
  kV : List Value
  spV : List Value
  nV : List Value
  xV : List Value
  pV : List Value
  kN : Nat
  spN : Nat
  nN : Nat
  aN : Nat
  xN : Nat
  pN : Nat
  cN : Nat
  coO : Obj
  aL : Led
  cL : Led
def TRaw.es (P : Params) (ad : TAd) (tk : Nat → Tok) : List DictEntry :=
  [⟨PyData.keyHash P "kinds", .str "kinds" (tk 0), .ref ad.kI⟩, ⟨PyData.keyHash P "spaces", .str "spaces" (tk 1), .ref ad.spI⟩, ⟨PyData.keyHash P "names", .str "names" (tk 2), .ref ad.nI⟩, ⟨PyData.keyHash P "attrs", .str "attrs" (tk 3), .ref ad.aI⟩,
    ⟨PyData.keyHash P "texts", .str "texts" (tk 4), .ref ad.xI⟩, ⟨PyData.keyHash P "parents", .str "parents" (tk 5), .ref ad.pI⟩, ⟨PyData.keyHash P "children", .str "children" (tk 6), .ref ad.cI⟩, ⟨PyData.keyHash P "contents", .str "contents" (tk 7), .ref ad.coI⟩]
def TRaw.led (P : Params) (ad : TAd) (w : TRaw) : Led :=
  (ad.t, instObj 408 ad.td) ::
  (ad.td, dictOf (TRaw.es P ad w.tk) 8) ::
  (ad.kI, lsOf w.kV w.kN) :: (ad.spI, lsOf w.spV w.spN) :: (ad.nI, lsOf w.nV w.nN) :: (ad.aI, lsOf (refs w.aL) w.aN) :: (ad.xI, lsOf w.xV w.xN) :: (ad.pI, lsOf w.pV w.pN) :: (ad.cI, lsOf (refs w.cL) w.cN) :: (ad.coI, w.coO) :: (w.aL ++ w.cL)

def TupIn (P : Params) (l : Led) (a : Addr) (vs : List Value) : Prop := (∃ n, (a, tupOf vs n) ∈ l) ∨ ∃ o n, (Mine.H.heap_1 P).lookup a = some o ∧ o.cls = .type "tuple" ∧ o.data = .seq vs.toArray n
theorem TupIn.isTup {P : Params} {l : Led} {a : Addr} {vs : List Value} {g h : Heap} {L : Addr} (x : TupIn P l a vs) (N : News g L h l) (X : (Mine.H.heap_1 P).In h) : IsTup h a vs.toArray := by
  rcases x with ⟨n, hm⟩ | ⟨o, n, hm, c, d⟩
  · exact N.isTup hm
  · exact ⟨o, X _ _ hm, c, n, d⟩
theorem TupIn.mono {P : Params} {l l' : Led} {a : Addr} {vs : List Value} (x : TupIn P l a vs) (hs : ∀ p ∈ l, p ∈ l') : TupIn P l' a vs := by
  rcases x with ⟨n, hm⟩ | y
  · exact .inl ⟨n, hs _ hm⟩
  · exact .inr y

/-- the tree as plain data -/
structure Tr where
  kinds : List Str
  spaces : List Str
  names : List Str
  attrs : List (List (Str × Str))
  texts : List Str
  parents : List Int
  children : List (List Int)
  contents : List (Int × Int)
def Tr.add (T : Tr) (kind space name : Str) (d : List (Str × Str)) : Tr :=
  { kinds := T.kinds ++ [kind], spaces := T.spaces ++ [space], names := T.names ++ [name], attrs := T.attrs ++ [d], texts := T.texts ++ [Str.ofString ""], parents := T.parents ++ [-1], children := T.children ++ [[]], contents := T.contents }

inductive PairsAre (z : Led) : List Value → List (Str × Str) → Prop
  | nil : PairsAre z [] []
  | cons {a : Addr} {x y : Str} {t u : Tok} {n : Nat} {vs ds} : (a, tupOf [.str x t, .str y u] n) ∈ z → PairsAre z vs ds → PairsAre z (.ref a :: vs) ((x, y) :: ds)
inductive AttrsAre (z : Led) : Led → List (List (Str × Str)) → Prop
  | nil : AttrsAre z [] []
  | cons {a : Addr} {vs : List Value} {n : Nat} {d : List (Str × Str)} {l ds} : PairsAre z vs d → AttrsAre z l ds → AttrsAre z ((a, lsOf vs n) :: l) (d :: ds)
inductive KidsAre : Led → List (List Int) → Prop
  | nil : KidsAre [] []
  | cons {a : Addr} {vs : List Value} {n : Nat} {d : List Int} {l ds} : IntsAre vs d → KidsAre l ds → KidsAre ((a, lsOf vs n) :: l) (d :: ds)
theorem AttrsAre.append {z l l' : Led} {ds ds' : List (List (Str × Str))} (x : AttrsAre z l ds) (y : AttrsAre z l' ds') : AttrsAre z (l ++ l') (ds ++ ds') := by
  induction x with
  | nil => exact y
  | cons h _ ih => exact .cons h ih
theorem KidsAre.append {l l' : Led} {ds ds' : List (List Int)} (x : KidsAre l ds) (y : KidsAre l' ds') : KidsAre (l ++ l') (ds ++ ds') := by
  induction x with
  | nil => exact y
  | cons h _ ih => exact .cons h ih
theorem strs_snoc {vs : List Value} {ys : List Str} {y : Str} {t : Tok} (h : StrsAre vs ys) : StrsAre (vs ++ [.str y t]) (ys ++ [y]) := by
  induction h with
  | nil => exact .cons _ _ .nil
  | cons y t _ ih => exact .cons _ _ ih
theorem ints_snoc {vs : List Value} {ys : List Int} {y : Int} {t : Tok} (h : IntsAre vs ys) : IntsAre (vs ++ [.int y t]) (ys ++ [y]) := by
  induction h with
  | nil => exact .cons _ _ .nil
  | cons y t _ ih => exact .cons _ _ ih

def coD (cs : List (Int × Int)) : List (PyData × PyData) := cs.map fun c => (.int c.1, .int c.2)
def CoAre (prog : Program) (w : World) (o : Obj) (cs : List (Int × Int)) : Prop := ∃ kvs, o.IsDictOf (intKind prog w) kvs ∧ PyProof.V.FlatPairs PyData.int kvs (coD cs)
structure TAbs (prog : Program) (w : World) (ad : TAd) (z : Led) (u : TRaw) (T : Tr) : Prop where
  lo : (ad.coI == sysModules) = false
  co : CoAre prog w u.coO T.contents
  k : StrsAre u.kV T.kinds
  sp : StrsAre u.spV T.spaces
  n : StrsAre u.nV T.names
  a : AttrsAre z u.aL T.attrs
  x : StrsAre u.xV T.texts
  p : IntsAre u.pV T.parents
  c : KidsAre u.cL T.children

def TRaw.added (u : TRaw) (kind space name text par : Value) (at' ct : Addr × Obj) : TRaw :=
  { u with kV := u.kV ++ [kind], kN := u.kN + 1, spV := u.spV ++ [space], spN := u.spN + 1, nV := u.nV ++ [name], nN := u.nN + 1, aL := u.aL ++ [at'], aN := u.aN + 1, xV := u.xV ++ [text], xN := u.xN + 1, pV := u.pV ++ [par], pN := u.pN + 1, cL := u.cL ++ [ct], cN := u.cN + 1 }
theorem TAbs.added {prog : Program} {w : World} {ad : TAd} {z : Led} {u : TRaw} {T : Tr} (R : TAbs prog w ad z u T) {kind space name : Str} {t1 t2 t3 t4 t5 : Tok} {a c : Addr} {vs : List Value} {n n' : Nat} {d : List (Str × Str)} (hd : PairsAre z vs d) :
    TAbs prog w ad z (u.added (.str kind t1) (.str space t2) (.str name t3) (.str (Str.ofString "") t4) (.int (-1) t5) (a, lsOf vs n) (c, lsOf [] n')) (T.add kind space name d) :=
  ⟨R.lo, R.co, strs_snoc R.k, strs_snoc R.sp, strs_snoc R.n, R.a.append (.cons hd .nil), strs_snoc R.x, ints_snoc R.p, R.c.append (.cons .nil .nil)⟩

theorem refs_snoc (l : Led) (p : Addr × Obj) : refs (l ++ [p]) = refs l ++ [.ref p.1] := by simp [refs]
theorem refs_length (l : Led) : (refs l).length = l.length := by simp [refs]

section
variable {prog : Program} {w : World} {A : Around} {E : Value → Shared → Prop} {s : Shared} {g : Heap} {L : Addr} {m : Str → Option Value} {r : Led} {ad : TAd} {u : TRaw} {P : Params} {x : Value} {Q : Value → Shared → Prop}
theorem app_kI (F : Fr g L s.heap m) (N : News g L s.heap (u.led P ad ++ r)) (S : Sep (u.led P ad) r) (hz : u.kV.length ≤ 1000)
    (h : ∀ h', Fr g L h' m → News g L h' (({ u with kV := u.kV ++ [x], kN := u.kN + 1 } : TRaw).led P ad ++ r) → Sep (({ u with kV := u.kV ++ [x], kN := u.kN + 1 } : TRaw).led P ad) r → Q .none { s with heap := h' }) :
    wpAny (model prog w) A (call (.builtin "list.append") [.ref ad.kI, x]) Q E s := led_append 2 F N S rfl rfl hz h
theorem app_spI (F : Fr g L s.heap m) (N : News g L s.heap (u.led P ad ++ r)) (S : Sep (u.led P ad) r) (hz : u.spV.length ≤ 1000)
    (h : ∀ h', Fr g L h' m → News g L h' (({ u with spV := u.spV ++ [x], spN := u.spN + 1 } : TRaw).led P ad ++ r) → Sep (({ u with spV := u.spV ++ [x], spN := u.spN + 1 } : TRaw).led P ad) r → Q .none { s with heap := h' }) :
    wpAny (model prog w) A (call (.builtin "list.append") [.ref ad.spI, x]) Q E s := led_append 3 F N S rfl rfl hz h
theorem app_nI (F : Fr g L s.heap m) (N : News g L s.heap (u.led P ad ++ r)) (S : Sep (u.led P ad) r) (hz : u.nV.length ≤ 1000)
    (h : ∀ h', Fr g L h' m → News g L h' (({ u with nV := u.nV ++ [x], nN := u.nN + 1 } : TRaw).led P ad ++ r) → Sep (({ u with nV := u.nV ++ [x], nN := u.nN + 1 } : TRaw).led P ad) r → Q .none { s with heap := h' }) :
    wpAny (model prog w) A (call (.builtin "list.append") [.ref ad.nI, x]) Q E s := led_append 4 F N S rfl rfl hz h
theorem app_xI (F : Fr g L s.heap m) (N : News g L s.heap (u.led P ad ++ r)) (S : Sep (u.led P ad) r) (hz : u.xV.length ≤ 1000)
    (h : ∀ h', Fr g L h' m → News g L h' (({ u with xV := u.xV ++ [x], xN := u.xN + 1 } : TRaw).led P ad ++ r) → Sep (({ u with xV := u.xV ++ [x], xN := u.xN + 1 } : TRaw).led P ad) r → Q .none { s with heap := h' }) :
    wpAny (model prog w) A (call (.builtin "list.append") [.ref ad.xI, x]) Q E s := led_append 6 F N S rfl rfl hz h
theorem app_pI (F : Fr g L s.heap m) (N : News g L s.heap (u.led P ad ++ r)) (S : Sep (u.led P ad) r) (hz : u.pV.length ≤ 1000)
    (h : ∀ h', Fr g L h' m → News g L h' (({ u with pV := u.pV ++ [x], pN := u.pN + 1 } : TRaw).led P ad ++ r) → Sep (({ u with pV := u.pV ++ [x], pN := u.pN + 1 } : TRaw).led P ad) r → Q .none { s with heap := h' }) :
    wpAny (model prog w) A (call (.builtin "list.append") [.ref ad.pI, x]) Q E s := led_append 7 F N S rfl rfl hz h

theorem Sep.tail {l r : Led} {q : Addr × Obj} (S : Sep l (q :: r)) : Sep l r := ⟨S.nd, fun p hp q' hq => S.off p hp q' (.tail _ hq)⟩
theorem Sep.move {l l' r : Led} {a : Addr} {o : Obj} (S : Sep l ((a, o) :: r)) (hr : ∀ q ∈ r, a ≠ q.1) (X Y : List Addr) (h1 : keys l' = X ++ a :: Y) (h2 : keys l = X ++ Y) : Sep l' r := by
  have hp : (keys l').Perm (a :: keys l) := by rw [h1, h2]; exact List.perm_middle
  have ha : a ∉ keys l := fun hm => by
    obtain ⟨p, hp, e⟩ := List.mem_map.mp hm
    exact S.off p hp _ (.head _) e
  refine ⟨hp.nodup_iff.mpr (List.nodup_cons.mpr ⟨ha, S.nd⟩), fun p hp' q hq e => ?_⟩
  have : p.1 ∈ a :: keys l := hp.mem_iff.mp (List.mem_map.mpr ⟨p, hp', rfl⟩)
  rcases List.mem_cons.mp this with e' | hm
  · exact hr q hq (e'.symm.trans e)
  · obtain ⟨p', hp', e'⟩ := List.mem_map.mp hm
    exact S.off p' hp' q (.tail _ hq) (e'.trans e)
theorem app_aI {a : Addr} {o : Obj} (F : Fr g L s.heap m) (N : News g L s.heap (u.led P ad ++ (a, o) :: r)) (S : Sep (u.led P ad) ((a, o) :: r)) (hr : ∀ q ∈ r, a ≠ q.1) (hz : u.aL.length ≤ 1000)
    (h : ∀ h', Fr g L h' m → News g L h' (({ u with aL := u.aL ++ [(a, o)], aN := u.aN + 1 } : TRaw).led P ad ++ r) → Sep (({ u with aL := u.aL ++ [(a, o)], aN := u.aN + 1 } : TRaw).led P ad) r → Q .none { s with heap := h' }) :
    wpAny (model prog w) A (call (.builtin "list.append") [.ref ad.aI, .ref a]) Q E s := by
  refine led_append 5 F N S rfl rfl (by rw [refs_length]; exact hz) fun h' F' N' S' => h h' F' (News.sub N' ?_) ?_
  · refine sub_a (sub_c ?_ (sub_c ?_ (sub_c ?_ (sub_c ?_ (sub_c ?_ (sub_c ?_ (sub_c ?_ (sub_c ?_ (sub_c ?_ (sub_c ?_ (sub_a (sub_a (fun p hp => ?_) (sub_c ?_ sub_n)) (fun p hp => ?_)))))))))))) (fun p hp => ?_)
    all_goals (try dsimp only)
    all_goals (try rw [refs_snoc])
    all_goals first | exact List.mem_append_right _ (.tail _ hp) | exact List.mem_append_right _ (.head _) | (refine List.mem_append_left _ ?_; repeat (first | exact .head _ | exact List.mem_append_left _ hp | exact List.mem_append_right _ hp | refine .tail _ ?_))
  · exact S.move hr ((keys (u.led P ad)).take 10 ++ keys u.aL) (keys u.cL) (by simp [TRaw.led, keys]) (by simp [TRaw.led, keys])
theorem app_cI {a : Addr} {o : Obj} (F : Fr g L s.heap m) (N : News g L s.heap (u.led P ad ++ (a, o) :: r)) (S : Sep (u.led P ad) ((a, o) :: r)) (hr : ∀ q ∈ r, a ≠ q.1) (hz : u.cL.length ≤ 1000)
    (h : ∀ h', Fr g L h' m → News g L h' (({ u with cL := u.cL ++ [(a, o)], cN := u.cN + 1 } : TRaw).led P ad ++ r) → Sep (({ u with cL := u.cL ++ [(a, o)], cN := u.cN + 1 } : TRaw).led P ad) r → Q .none { s with heap := h' }) :
    wpAny (model prog w) A (call (.builtin "list.append") [.ref ad.cI, .ref a]) Q E s := by
  refine led_append 8 F N S rfl rfl (by rw [refs_length]; exact hz) fun h' F' N' S' => h h' F' (News.sub N' ?_) ?_
  · refine sub_a (sub_c ?_ (sub_c ?_ (sub_c ?_ (sub_c ?_ (sub_c ?_ (sub_c ?_ (sub_c ?_ (sub_c ?_ (sub_c ?_ (sub_c ?_ (sub_a (fun p hp => ?_) (sub_a (fun p hp => ?_) (sub_c ?_ sub_n))))))))))))) (fun p hp => ?_)
    all_goals (try dsimp only)
    all_goals (try rw [refs_snoc])
    all_goals first | exact List.mem_append_right _ (.tail _ hp) | exact List.mem_append_right _ (.head _) | (refine List.mem_append_left _ ?_; repeat (first | exact .head _ | exact List.mem_append_left _ hp | exact List.mem_append_right _ hp | refine .tail _ ?_))
  · exact S.move hr ((keys (u.led P ad)).take 10 ++ keys u.aL ++ keys u.cL) [] (by simp [TRaw.led, keys]) (by simp [TRaw.led, keys])

theorem Sep.fresh {l r : Led} {a : Addr} {o : Obj} (S : Sep l r) (ha : ∀ p ∈ l ++ r, p.1 < a) : Sep l ((a, o) :: r) :=
  ⟨S.nd, fun p hp q hq => by
    rcases List.mem_cons.mp hq with rfl | hq
    · exact Nat.ne_of_lt (ha p (List.mem_append_left _ hp))
    · exact S.off p hp q hq⟩
theorem news_front {h : Heap} {l r : Led} {a : Addr} {o : Obj} (N : News g L h ((a, o) :: (l ++ r))) : News g L h (l ++ (a, o) :: r) := News.sub N (sub_a (fun _ k => .tail _ (List.mem_append_left _ k)) (sub_c (.head _) fun _ k => .tail _ (List.mem_append_right _ k)))
/-- list(x) of a tuple: the new list stands at the private part's head -/
theorem list_of_tup {l r : Led} {a : Addr} {vs : List Value} (F : Fr g L s.heap m) (N : News g L s.heap (l ++ r)) (S : Sep l r) (X : (Mine.H.heap_1 w.params).In g) (T : TupIn w.params (l ++ r) a vs) (hz : vs.length ≤ 1000)
    (h : ∀ D c h', Fr g L h' m → News g L h' (l ++ (D, lsOf vs c) :: r) → Sep l ((D, lsOf vs c) :: r) → (∀ q ∈ r, D ≠ q.1) → Q (.ref D) { s with heap := h' }) :
    wpAny (model prog w) A (call (.type "list") [.ref a]) Q E s :=
  list_copyKT F N (T.isTup N (X.keeps F.keep)) (fun D c h' F' N' l1 => h D c h' F' (news_front N') (S.fresh l1) fun q hq => Ne.symm (Nat.ne_of_lt (l1 q (List.mem_append_right _ hq)))) (by rw [sizeLine_eq, List.size_toArray]; omega)
theorem new_list {l r : Led} {vs : List Value} (F : Fr g L s.heap m) (N : News g L s.heap (l ++ r)) (S : Sep l r) (hz : vs.length ≤ 1000)
    (h : ∀ D h', Fr g L h' m → News g L h' (l ++ (D, lsOf vs 0) :: r) → Sep l ((D, lsOf vs 0) :: r) → (∀ q ∈ r, D ≠ q.1) → Q (.ref D) { s with heap := h' }) :
    wpAny (model prog w) A (newList vs) Q E s :=
  newList_K F N (fun D h' F' N' l1 => h D h' F' (news_front N') (S.fresh l1) fun q hq => Ne.symm (Nat.ne_of_lt (l1 q (List.mem_append_right _ hq)))) (by rw [sizeLine_eq]; omega)
theorem len_led {l : Led} {D : Addr} {its : List Value} {n : Nat} (N : News g L s.heap l) (hm : (D, lsOf its n) ∈ l) (hz : its.length ≤ 1003) (h : ∀ t tk', Q (.int (its.length : Nat) t) { s with toks := tk' }) :
    wpAny (model prog w) A (call (.builtin "len") [.ref D]) Q E s :=
  kun_lenL (N.isList hm) (by rw [List.size_toArray]) (by omega) (h _ _)
end
end
section
theorem and2 {p1 p2 C : Prop} (h : p1 ∧ p2) (k : p1 → p2 → C) : C := k h.1 h.2
theorem and3 {p1 p2 p3 C : Prop} (h : p1 ∧ p2 ∧ p3) (k : p1 → p2 → p3 → C) : C := k h.1 h.2.1 h.2.2
theorem and4 {p1 p2 p3 p4 C : Prop} (h : p1 ∧ p2 ∧ p3 ∧ p4) (k : p1 → p2 → p3 → p4 → C) : C := k h.1 h.2.1 h.2.2.1 h.2.2.2
theorem and5 {p1 p2 p3 p4 p5 C : Prop} (h : p1 ∧ p2 ∧ p3 ∧ p4 ∧ p5) (k : p1 → p2 → p3 → p4 → p5 → C) : C := k h.1 h.2.1 h.2.2.1 h.2.2.2.1 h.2.2.2.2
theorem and6 {p1 p2 p3 p4 p5 p6 C : Prop} (h : p1 ∧ p2 ∧ p3 ∧ p4 ∧ p5 ∧ p6) (k : p1 → p2 → p3 → p4 → p5 → p6 → C) : C := k h.1 h.2.1 h.2.2.1 h.2.2.2.1 h.2.2.2.2.1 h.2.2.2.2.2
theorem and7 {p1 p2 p3 p4 p5 p6 p7 C : Prop} (h : p1 ∧ p2 ∧ p3 ∧ p4 ∧ p5 ∧ p6 ∧ p7) (k : p1 → p2 → p3 → p4 → p5 → p6 → p7 → C) : C := k h.1 h.2.1 h.2.2.1 h.2.2.2.1 h.2.2.2.2.1 h.2.2.2.2.2.1 h.2.2.2.2.2.2
theorem and8 {p1 p2 p3 p4 p5 p6 p7 p8 C : Prop} (h : p1 ∧ p2 ∧ p3 ∧ p4 ∧ p5 ∧ p6 ∧ p7 ∧ p8) (k : p1 → p2 → p3 → p4 → p5 → p6 → p7 → p8 → C) : C := k h.1 h.2.1 h.2.2.1 h.2.2.2.1 h.2.2.2.2.1 h.2.2.2.2.2.1 h.2.2.2.2.2.2.1 h.2.2.2.2.2.2.2
theorem and9 {p1 p2 p3 p4 p5 p6 p7 p8 p9 C : Prop} (h : p1 ∧ p2 ∧ p3 ∧ p4 ∧ p5 ∧ p6 ∧ p7 ∧ p8 ∧ p9) (k : p1 → p2 → p3 → p4 → p5 → p6 → p7 → p8 → p9 → C) : C := k h.1 h.2.1 h.2.2.1 h.2.2.2.1 h.2.2.2.2.1 h.2.2.2.2.2.1 h.2.2.2.2.2.2.1 h.2.2.2.2.2.2.2.1 h.2.2.2.2.2.2.2.2
theorem and10 {p1 p2 p3 p4 p5 p6 p7 p8 p9 p10 C : Prop} (h : p1 ∧ p2 ∧ p3 ∧ p4 ∧ p5 ∧ p6 ∧ p7 ∧ p8 ∧ p9 ∧ p10) (k : p1 → p2 → p3 → p4 → p5 → p6 → p7 → p8 → p9 → p10 → C) : C := k h.1 h.2.1 h.2.2.1 h.2.2.2.1 h.2.2.2.2.1 h.2.2.2.2.2.1 h.2.2.2.2.2.2.1 h.2.2.2.2.2.2.2.1 h.2.2.2.2.2.2.2.2.1 h.2.2.2.2.2.2.2.2.2
theorem and11 {p1 p2 p3 p4 p5 p6 p7 p8 p9 p10 p11 C : Prop} (h : p1 ∧ p2 ∧ p3 ∧ p4 ∧ p5 ∧ p6 ∧ p7 ∧ p8 ∧ p9 ∧ p10 ∧ p11) (k : p1 → p2 → p3 → p4 → p5 → p6 → p7 → p8 → p9 → p10 → p11 → C) : C := k h.1 h.2.1 h.2.2.1 h.2.2.2.1 h.2.2.2.2.1 h.2.2.2.2.2.1 h.2.2.2.2.2.2.1 h.2.2.2.2.2.2.2.1 h.2.2.2.2.2.2.2.2.1 h.2.2.2.2.2.2.2.2.2.1 h.2.2.2.2.2.2.2.2.2.2
theorem ex1 {α1 : Type} {P : α1 → Prop} {C : Prop} (h : ∃ a1, P a1) (k : ∀ a1, P a1 → C) : C := by
  obtain ⟨a1, p⟩ := h
  exact k a1 p
theorem ex2 {α1 α2 : Type} {P : α1 → α2 → Prop} {C : Prop} (h : ∃ a1 a2, P a1 a2) (k : ∀ a1 a2, P a1 a2 → C) : C := by
  obtain ⟨a1, a2, p⟩ := h
  exact k a1 a2 p
theorem ex3 {α1 α2 α3 : Type} {P : α1 → α2 → α3 → Prop} {C : Prop} (h : ∃ a1 a2 a3, P a1 a2 a3) (k : ∀ a1 a2 a3, P a1 a2 a3 → C) : C := by
  obtain ⟨a1, a2, a3, p⟩ := h
  exact k a1 a2 a3 p
theorem ex4 {α1 α2 α3 α4 : Type} {P : α1 → α2 → α3 → α4 → Prop} {C : Prop} (h : ∃ a1 a2 a3 a4, P a1 a2 a3 a4) (k : ∀ a1 a2 a3 a4, P a1 a2 a3 a4 → C) : C := by
  obtain ⟨a1, a2, a3, a4, p⟩ := h
  exact k a1 a2 a3 a4 p
theorem ex5 {α1 α2 α3 α4 α5 : Type} {P : α1 → α2 → α3 → α4 → α5 → Prop} {C : Prop} (h : ∃ a1 a2 a3 a4 a5, P a1 a2 a3 a4 a5) (k : ∀ a1 a2 a3 a4 a5, P a1 a2 a3 a4 a5 → C) : C := by
  obtain ⟨a1, a2, a3, a4, a5, p⟩ := h
  exact k a1 a2 a3 a4 a5 p
theorem ex6 {α1 α2 α3 α4 α5 α6 : Type} {P : α1 → α2 → α3 → α4 → α5 → α6 → Prop} {C : Prop} (h : ∃ a1 a2 a3 a4 a5 a6, P a1 a2 a3 a4 a5 a6) (k : ∀ a1 a2 a3 a4 a5 a6, P a1 a2 a3 a4 a5 a6 → C) : C := by
  obtain ⟨a1, a2, a3, a4, a5, a6, p⟩ := h
  exact k a1 a2 a3 a4 a5 a6 p
theorem retA1 {α1 : Type} {P : α1 → Prop} {Y : α1 → Value} {Lf : α1 → Led} {Fh : Heap → Prop} {Nh : Heap → Led → Prop} {G : Value → Heap → Nat → Prop}
    (k : ∀ a1, P a1 → ∀ h t, Fh h → Nh h (Lf a1) → G (Y a1) h t) (y : Value) (l : Led) (h : Heap) (t : Nat) (hp : ∃ a1, y = Y a1 ∧ l = Lf a1 ∧ P a1) : Fh h → Nh h l → G y h t := by
  obtain ⟨a1, rfl, rfl, p⟩ := hp
  exact k a1 p h t
theorem retA2 {α1 α2 : Type} {P : α1 → α2 → Prop} {Y : α1 → α2 → Value} {Lf : α1 → α2 → Led} {Fh : Heap → Prop} {Nh : Heap → Led → Prop} {G : Value → Heap → Nat → Prop}
    (k : ∀ a1 a2, P a1 a2 → ∀ h t, Fh h → Nh h (Lf a1 a2) → G (Y a1 a2) h t) (y : Value) (l : Led) (h : Heap) (t : Nat) (hp : ∃ a1 a2, y = Y a1 a2 ∧ l = Lf a1 a2 ∧ P a1 a2) : Fh h → Nh h l → G y h t := by
  obtain ⟨a1, a2, rfl, rfl, p⟩ := hp
  exact k a1 a2 p h t
theorem retA3 {α1 α2 α3 : Type} {P : α1 → α2 → α3 → Prop} {Y : α1 → α2 → α3 → Value} {Lf : α1 → α2 → α3 → Led} {Fh : Heap → Prop} {Nh : Heap → Led → Prop} {G : Value → Heap → Nat → Prop}
    (k : ∀ a1 a2 a3, P a1 a2 a3 → ∀ h t, Fh h → Nh h (Lf a1 a2 a3) → G (Y a1 a2 a3) h t) (y : Value) (l : Led) (h : Heap) (t : Nat) (hp : ∃ a1 a2 a3, y = Y a1 a2 a3 ∧ l = Lf a1 a2 a3 ∧ P a1 a2 a3) : Fh h → Nh h l → G y h t := by
  obtain ⟨a1, a2, a3, rfl, rfl, p⟩ := hp
  exact k a1 a2 a3 p h t
theorem retA4 {α1 α2 α3 α4 : Type} {P : α1 → α2 → α3 → α4 → Prop} {Y : α1 → α2 → α3 → α4 → Value} {Lf : α1 → α2 → α3 → α4 → Led} {Fh : Heap → Prop} {Nh : Heap → Led → Prop} {G : Value → Heap → Nat → Prop}
    (k : ∀ a1 a2 a3 a4, P a1 a2 a3 a4 → ∀ h t, Fh h → Nh h (Lf a1 a2 a3 a4) → G (Y a1 a2 a3 a4) h t) (y : Value) (l : Led) (h : Heap) (t : Nat) (hp : ∃ a1 a2 a3 a4, y = Y a1 a2 a3 a4 ∧ l = Lf a1 a2 a3 a4 ∧ P a1 a2 a3 a4) : Fh h → Nh h l → G y h t := by
  obtain ⟨a1, a2, a3, a4, rfl, rfl, p⟩ := hp
  exact k a1 a2 a3 a4 p h t
theorem retA5 {α1 α2 α3 α4 α5 : Type} {P : α1 → α2 → α3 → α4 → α5 → Prop} {Y : α1 → α2 → α3 → α4 → α5 → Value} {Lf : α1 → α2 → α3 → α4 → α5 → Led} {Fh : Heap → Prop} {Nh : Heap → Led → Prop} {G : Value → Heap → Nat → Prop}
    (k : ∀ a1 a2 a3 a4 a5, P a1 a2 a3 a4 a5 → ∀ h t, Fh h → Nh h (Lf a1 a2 a3 a4 a5) → G (Y a1 a2 a3 a4 a5) h t) (y : Value) (l : Led) (h : Heap) (t : Nat) (hp : ∃ a1 a2 a3 a4 a5, y = Y a1 a2 a3 a4 a5 ∧ l = Lf a1 a2 a3 a4 a5 ∧ P a1 a2 a3 a4 a5) : Fh h → Nh h l → G y h t := by
  obtain ⟨a1, a2, a3, a4, a5, rfl, rfl, p⟩ := hp
  exact k a1 a2 a3 a4 a5 p h t
theorem retB1 {α1 : Type} {P : α1 → Prop} {Y : Value} {Lf : α1 → Led} {Fh : Heap → Prop} {Nh : Heap → Led → Prop} {G : Value → Heap → Nat → Prop}
    (k : ∀ a1, P a1 → ∀ h t, Fh h → Nh h (Lf a1) → G Y h t) (y : Value) (l : Led) (h : Heap) (t : Nat) (hp : y = Y ∧ ∃ a1, l = Lf a1 ∧ P a1) : Fh h → Nh h l → G y h t := by
  obtain ⟨rfl, a1, rfl, p⟩ := hp
  exact k a1 p h t
theorem retB2 {α1 α2 : Type} {P : α1 → α2 → Prop} {Y : Value} {Lf : α1 → α2 → Led} {Fh : Heap → Prop} {Nh : Heap → Led → Prop} {G : Value → Heap → Nat → Prop}
    (k : ∀ a1 a2, P a1 a2 → ∀ h t, Fh h → Nh h (Lf a1 a2) → G Y h t) (y : Value) (l : Led) (h : Heap) (t : Nat) (hp : y = Y ∧ ∃ a1 a2, l = Lf a1 a2 ∧ P a1 a2) : Fh h → Nh h l → G y h t := by
  obtain ⟨rfl, a1, a2, rfl, p⟩ := hp
  exact k a1 a2 p h t
theorem ret0 {Y : Value} {Lf : Led} {Fh : Heap → Prop} {Nh : Heap → Led → Prop} {G : Value → Heap → Nat → Prop} (k : ∀ h t, Fh h → Nh h Lf → G Y h t) (y : Value) (l : Led) (h : Heap) (t : Nat) (hp : y = Y ∧ l = Lf) : Fh h → Nh h l → G y h t :=
  hp.1 ▸ hp.2 ▸ k h t
theorem retC1 {α1 : Type} {Y : α1 → Value} {Lf : α1 → Led} {Fh : Heap → Prop} {Nh : Heap → Led → Prop} {G : Value → Heap → Nat → Prop}
    (k : ∀ a1, ∀ h t, Fh h → Nh h (Lf a1) → G (Y a1) h t) (y : Value) (l : Led) (h : Heap) (t : Nat) (hp : ∃ a1, y = Y a1 ∧ l = Lf a1) : Fh h → Nh h l → G y h t := by
  obtain ⟨a1, rfl, rfl⟩ := hp
  exact k a1 h t
theorem retC2 {α1 α2 : Type} {Y : α1 → α2 → Value} {Lf : α1 → α2 → Led} {Fh : Heap → Prop} {Nh : Heap → Led → Prop} {G : Value → Heap → Nat → Prop}
    (k : ∀ a1 a2, ∀ h t, Fh h → Nh h (Lf a1 a2) → G (Y a1 a2) h t) (y : Value) (l : Led) (h : Heap) (t : Nat) (hp : ∃ a1 a2, y = Y a1 a2 ∧ l = Lf a1 a2) : Fh h → Nh h l → G y h t := by
  obtain ⟨a1, a2, rfl, rfl⟩ := hp
  exact k a1 a2 h t
theorem retC3 {α1 α2 α3 : Type} {Y : α1 → α2 → α3 → Value} {Lf : α1 → α2 → α3 → Led} {Fh : Heap → Prop} {Nh : Heap → Led → Prop} {G : Value → Heap → Nat → Prop}
    (k : ∀ a1 a2 a3, ∀ h t, Fh h → Nh h (Lf a1 a2 a3) → G (Y a1 a2 a3) h t) (y : Value) (l : Led) (h : Heap) (t : Nat) (hp : ∃ a1 a2 a3, y = Y a1 a2 a3 ∧ l = Lf a1 a2 a3) : Fh h → Nh h l → G y h t := by
  obtain ⟨a1, a2, a3, rfl, rfl⟩ := hp
  exact k a1 a2 a3 h t
end
section
section
variable {prog : Program} {w : World} {A : Around} {E : Value → Shared → Prop} {s : Shared} {g h h' : Heap} {L D : Addr} {m : Str → Option Value} {l l' r : Led}

/-! reading a list of the ledger -/
theorem sub_at {value slice : PySem.Expr} {vs : List Value} {n : Nat} {k : Int} {u : Tok} {v : Value} {Q : Value → Shared → Prop} (N : News g L s.heap l) (hm : (D, lsOf vs n) ∈ l) (h0 : 0 ≤ k) (hk : k < 1000) (hx : vs[k.toNat]? = some v) (h : Q v s)
    (hs : subscripted slice false (.ref D) (.int k u) = operate [.ref D, .int k u] (getItem (.ref D) (.int k u)) := by with_unfolding_all rfl) :
    wpAny (model prog w) A (subscriptTail value slice (.ref D) (.int k u)) Q E s :=
  tail_any (N.isList hm).typeIs slot_list_getitem.lookup (wpAny_getItem_list (N.isList hm) h0 (by omega) (by simpa using hx) h) hs
theorem ints_at {vs : List Value} {ns : List Int} (hi : IntsAre vs ns) {k : Nat} (hk : k < ns.length) : ∃ t, vs[k]? = some (.int (ns.getD k 0) t) := by
  obtain ⟨t, ht⟩ := hi.get k (ns.getD k 0) (by rw [List.getD_eq_getElem?_getD, List.getElem?_eq_getElem hk]; rfl)
  exact ⟨t, ht⟩
theorem strs_at {vs : List Value} {ys : List Str} (hi : StrsAre vs ys) {k : Nat} (hk : k < ys.length) : ∃ t, vs[k]? = some (.str (ys.getD k (Str.ofString "")) t) := by
  induction hi generalizing k with
  | nil => exact absurd hk (Nat.not_lt_zero _)
  | cons y t _ ih =>
    cases k with
    | zero => exact ⟨t, rfl⟩
    | succ k => exact ih (Nat.lt_of_succ_lt_succ hk)
theorem sub_int {value slice : PySem.Expr} {vs : List Value} {ns : List Int} {n : Nat} {k : Int} {u : Tok} {Q : Value → Shared → Prop} (N : News g L s.heap l) (hm : (D, lsOf vs n) ∈ l) (hi : IntsAre vs ns) (h0 : 0 ≤ k) (hk : k < 1000) (hx : k < ns.length) (h : ∀ t, Q (.int (ns.getD k.toNat 0) t) s)
    (hs : subscripted slice false (.ref D) (.int k u) = operate [.ref D, .int k u] (getItem (.ref D) (.int k u)) := by with_unfolding_all rfl) :
    wpAny (model prog w) A (subscriptTail value slice (.ref D) (.int k u)) Q E s := by
  obtain ⟨t, ht⟩ := ints_at hi (k := k.toNat) (by omega)
  exact sub_at N hm h0 hk ht (h t) hs
theorem sub_str {value slice : PySem.Expr} {vs : List Value} {ys : List Str} {n : Nat} {k : Int} {u : Tok} {Q : Value → Shared → Prop} (N : News g L s.heap l) (hm : (D, lsOf vs n) ∈ l) (hi : StrsAre vs ys) (h0 : 0 ≤ k) (hk : k < 1000) (hx : k < ys.length) (h : ∀ t, Q (.str (ys.getD k.toNat (Str.ofString "")) t) s)
    (hs : subscripted slice false (.ref D) (.int k u) = operate [.ref D, .int k u] (getItem (.ref D) (.int k u)) := by with_unfolding_all rfl) :
    wpAny (model prog w) A (subscriptTail value slice (.ref D) (.int k u)) Q E s := by
  obtain ⟨t, ht⟩ := strs_at hi (k := k.toNat) (by omega)
  exact sub_at N hm h0 hk ht (h t) hs
theorem kids_at {cl : Led} {ds : List (List Int)} (hi : KidsAre cl ds) {k : Nat} (hk : k < ds.length) : ∃ c vs n, cl[k]? = some (c, lsOf vs n) ∧ IntsAre vs (ds.getD k []) := by
  induction hi generalizing k with
  | nil => exact absurd hk (Nat.not_lt_zero _)
  | @cons a vs n d l ds h _ ih =>
    cases k with
    | zero => exact ⟨a, vs, n, rfl, h⟩
    | succ k => exact ih (Nat.lt_of_succ_lt_succ hk)
theorem attrs_at {z cl : Led} {ds : List (List (Str × Str))} (hi : AttrsAre z cl ds) {k : Nat} (hk : k < ds.length) : ∃ c vs n, cl[k]? = some (c, lsOf vs n) ∧ PairsAre z vs (ds.getD k []) := by
  induction hi generalizing k with
  | nil => exact absurd hk (Nat.not_lt_zero _)
  | @cons a vs n d l ds h _ ih =>
    cases k with
    | zero => exact ⟨a, vs, n, rfl, h⟩
    | succ k => exact ih (Nat.lt_of_succ_lt_succ hk)
theorem sub_ref {value slice : PySem.Expr} {cl : Led} {n : Nat} {k : Int} {u : Tok} {c : Addr} {o : Obj} {Q : Value → Shared → Prop} (N : News g L s.heap l) (hm : (D, lsOf (refs cl) n) ∈ l) (h0 : 0 ≤ k) (hk : k < 1000) (hx : cl[k.toNat]? = some (c, o)) (h : Q (.ref c) s)
    (hs : subscripted slice false (.ref D) (.int k u) = operate [.ref D, .int k u] (getItem (.ref D) (.int k u)) := by with_unfolding_all rfl) :
    wpAny (model prog w) A (subscriptTail value slice (.ref D) (.int k u)) Q E s :=
  sub_at N hm h0 hk (by simp [refs, hx]) h hs

theorem tup_at {value slice : PySem.Expr} {vs : List Value} {n : Nat} {k : Int} {u : Tok} {v : Value} {Q : Value → Shared → Prop} (N : News g L s.heap l) (hm : (D, tupOf vs n) ∈ l) (h0 : 0 ≤ k) (hk : k < 1000) (hx : vs[k.toNat]? = some v) (h : Q v s)
    (hs : subscripted slice false (.ref D) (.int k u) = operate [.ref D, .int k u] (getItem (.ref D) (.int k u)) := by with_unfolding_all rfl) :
    wpAny (model prog w) A (subscriptTail value slice (.ref D) (.int k u)) Q E s :=
  item_tupleT (j := k.toNat) (N.isTup hm) (by omega) (by omega) (by
    obtain ⟨hl, _⟩ := List.getElem?_eq_some_iff.mp hx
    exact PyProof.Rows.seqIndex_at h0 (by omega)) hx h hs
theorem in_ints {vs : List Value} {ns : List Int} {n : Nat} {x : Int} {u : Tok} {Q : Value → Shared → Prop} (N : News g L s.heap l) (hm : (D, lsOf vs n) ∈ l) (hi : IntsAre vs ns) (h : Q (.bool (decide (x ∈ ns))) s) :
    wpAny (model prog w) A (compareOp .In (.int x u) (.ref D)) Q E s :=
  in_list_ints (N.isList hm) hi (by rw [show ns.any (· == x) = decide (x ∈ ns) by rw [Bool.eq_iff_iff]; simp]; exact h)
theorem notin_ints {vs : List Value} {ns : List Int} {n : Nat} {x : Int} {u : Tok} {Q : Value → Shared → Prop} (N : News g L s.heap l) (hm : (D, lsOf vs n) ∈ l) (hi : IntsAre vs ns) (h : Q (.bool (!decide (x ∈ ns))) s) :
    wpAny (model prog w) A (compareOp .NotIn (.int x u) (.ref D)) Q E s :=
  notin_list_ints (N.isList hm) hi (by rw [show ns.any (· == x) = decide (x ∈ ns) by rw [Bool.eq_iff_iff]; simp]; exact h)

/-! turning a list of the ledger's own group -/
theorem news_mut {vs vs' : List Value} {n : Nat} (f : Array Value → Array Value) (i : Nat) (N : News g L h (l ++ r)) (S : Sep l r) (hi : l[i]? = some (D, lsOf vs n)) (he : f vs.toArray = vs'.toArray) :
    News g L (h.update D (Obj.mapSeq f)) (l.set i (D, lsOf vs' (if vs'.length == vs.length then n else n + 1)) ++ r) := by
  refine news_led N S i hi rfl (Heap.SameBut.update ..) ?_
  have q := PySem.IsL.update (N (D, lsOf vs n) (List.mem_append_left _ (List.mem_of_getElem? hi))).1 f
  rw [he] at q
  simpa only [List.size_toArray] using q
theorem fr_mut {vs : List Value} {n : Nat} (f : Obj → Obj) (i : Nat) (F : Fr g L h m) (N : News g L h (l ++ r)) (hi : l[i]? = some (D, lsOf vs n)) : Fr g L (h.update D f) m := fr_led F N i hi (Heap.SameBut.update ..)
theorem sep_set {i : Nat} {o o' : Obj} (S : Sep l r) (hi : l[i]? = some (D, o)) : Sep (l.set i (D, o')) r := S.of_keys (keys_set hi)

theorem led_insert {vs : List Value} {n : Nat} {k : Int} {u : Tok} {y : Value} {Q : Value → Shared → Prop} (i : Nat) (F : Fr g L s.heap m) (N : News g L s.heap (l ++ r)) (S : Sep l r) (hi : l[i]? = some (D, lsOf vs n)) (h0 : 0 ≤ k) (hk : k ≤ vs.length) (hz : vs.length ≤ 1000)
    (h : ∀ n' h', Fr g L h' m → News g L h' (l.set i (D, lsOf (vs.take k.toNat ++ y :: vs.drop k.toNat) n') ++ r) → Sep (l.set i (D, lsOf (vs.take k.toNat ++ y :: vs.drop k.toNat) n')) r → Q .none { s with heap := h' }) :
    wpAny (model prog w) A (call (.builtin "list.insert") [.ref D, .int k u, y]) Q E s := by
  have z := N (D, lsOf vs n) (List.mem_append_left _ (List.mem_of_getElem? hi))
  have hf : Builtin.List.listFitsIndex k = true := fitsIndex_of h0 (by omega)
  have e : vs.toArray.size = vs.length := List.size_toArray ..
  refine call_meets PySem.F.slot_list_insert ⟨_, z.1, rfl⟩ PySem.F.entry_list_insert (PySem.F.args_list_insert_3 _ _ _) (PySem.AutoSeq1.list_insert_list_int_val_1 D _ n k u y (by simp [hf]) (by rw [List.size_toArray, sizeLine_eq]; omega)) ⟨z.1, ?_⟩
  refine h _ _ (fr_mut _ i F N hi) (news_mut _ i N S hi ?_) (sep_set S hi)
  show (vs.toArray.extract 0 (if k < 0 then (k + (vs.toArray.size : Int)).toNat else min k.toNat vs.toArray.size)).push y ++ vs.toArray.extract (if k < 0 then (k + (vs.toArray.size : Int)).toNat else min k.toNat vs.toArray.size) = _
  have e2 : (if k < 0 then (k + (vs.toArray.size : Int)).toNat else min k.toNat vs.toArray.size) = k.toNat := by
    rw [if_neg (by omega), e]
    omega
  rw [e2]
  exact kl_ins_eq vs k.toNat y

theorem ne_before {ns : List Int} {x : Int} : ∀ {j : Nat} {hj : j < ns.length}, j < ns.idxOf x → (ns[j] == x) = false := by
  induction ns with
  | nil => intro j hj; exact absurd hj (Nat.not_lt_zero _)
  | cons y ns ih =>
    intro j hj hlt
    rw [List.idxOf_cons] at hlt
    cases hb : y == x with
    | true => rw [hb] at hlt; exact absurd hlt (Nat.not_lt_zero _)
    | false =>
      rw [hb] at hlt
      cases j with
      | zero => exact hb
      | succ j => exact ih (by simpa using hlt)
theorem index_ints {vs : List Value} {ns : List Int} {n : Nat} {x : Int} {u : Tok} {Q : Value → Shared → Prop} (N : News g L s.heap l) (hm : (D, lsOf vs n) ∈ l) (hi : IntsAre vs ns) (hx : x ∈ ns) (hz : ns.length ≤ 1000)
    (h : ∀ t, Q (.int (ns.idxOf x : Nat) t) { s with toks := s.toks + 1 }) : wpAny (model prog w) A (call (.builtin "list.index") [.ref D, .int x u]) Q E s := by
  have hlt : ns.idxOf x < ns.length := List.idxOf_lt_length_iff.mpr hx
  have hl : vs.length = ns.length := hi.length
  have isn : ∀ (j : Nat) (hj : j < vs.length), isInt x vs[j] = (ns[j]'(hl ▸ hj) == x) := by
    intro j hj
    obtain ⟨t, ht⟩ := hi.get j (ns[j]'(hl ▸ hj)) (List.getElem?_eq_getElem _)
    rw [List.getElem?_eq_getElem hj] at ht
    rw [Option.some.inj ht]
    rfl
  refine call_meets PySem.F.slot_list_index ⟨_, (N _ hm).1, rfl⟩ PySem.F.entry_list_index (PySem.F.args_list_index_2 _ _)
    (MeetsSeq.list_index D vs.toArray n (.int x u) (isInt x) (fun y hy => eq_isInt x u hi y (by simpa using hy)) (ns.idxOf x) (by rw [List.size_toArray]; omega) (by omega) ?_ ?_) ⟨(N _ hm).1, h _⟩
  · rw [List.getElem_toArray, isn _ (by omega)]
    simp
  · intro j hj hlt'
    rw [List.getElem_toArray, isn _ (by rwa [List.size_toArray] at hj)]
    exact ne_before hlt'

theorem ints_erase {vs : List Value} {ns : List Int} (h : IntsAre vs ns) (x : Int) : IntsAre (vs.eraseIdx (ns.idxOf x)) (ns.erase x) := by
  induction h with
  | nil => exact .nil
  | cons y t _ ih =>
    by_cases e : y = x
    · subst e
      simpa using ‹IntsAre _ _›
    · have hb : (y == x) = false := by simpa using e
      rw [List.idxOf_cons, hb, List.erase_cons_tail (by simpa using e), cond_false, List.eraseIdx_cons_succ]
      exact .cons _ _ ih
theorem led_remove {vs : List Value} {ns : List Int} {n : Nat} {x : Int} {u : Tok} {Q : Value → Shared → Prop} (i : Nat) (F : Fr g L s.heap m) (N : News g L s.heap (l ++ r)) (S : Sep l r) (hi : l[i]? = some (D, lsOf vs n)) (hv : IntsAre vs ns) (hx : x ∈ ns) (hz : vs.length ≤ 1000)
    (h : ∀ vs' n' h', IntsAre vs' (ns.erase x) → Fr g L h' m → News g L h' (l.set i (D, lsOf vs' n') ++ r) → Sep (l.set i (D, lsOf vs' n')) r → Q .none { s with heap := h' }) :
    wpAny (model prog w) A (call (.builtin "list.remove") [.ref D, .int x u]) Q E s := by
  have hlt : ns.idxOf x < ns.length := List.idxOf_lt_length_iff.mpr hx
  have hl : vs.length = ns.length := hv.length
  have isn : ∀ (j : Nat) (hj : j < vs.length), isInt x vs[j] = (ns[j]'(hl ▸ hj) == x) := by
    intro j hj
    obtain ⟨t, ht⟩ := hv.get j (ns[j]'(hl ▸ hj)) (List.getElem?_eq_getElem _)
    rw [List.getElem?_eq_getElem hj] at ht
    rw [Option.some.inj ht]
    rfl
  have z := N (D, lsOf vs n) (List.mem_append_left _ (List.mem_of_getElem? hi))
  refine call_meets PySem.F.slot_list_remove ⟨_, z.1, rfl⟩ PySem.F.entry_list_remove (PySem.F.args_list_remove_2 _ _)
    (MeetsSeq.list_remove D vs.toArray n (.int x u) (isInt x) (fun y hy => eq_isInt x u hv y (by simpa using hy)) (ns.idxOf x) (by rw [List.size_toArray]; omega) ?_ ?_ (by rw [List.size_toArray, sizeLine_eq]; omega))
    ⟨z.1, h _ _ _ (ints_erase hv x) (fr_mut _ i F N hi) (news_mut _ i N S hi ?_) (sep_set S hi)⟩
  · rw [List.getElem_toArray, isn _ (by omega)]
    simp
  · intro j hj hlt'
    rw [List.getElem_toArray, isn _ (by rwa [List.size_toArray] at hj)]
    exact ne_before hlt'
  · apply Array.toList_inj.mp
    simp

theorem led_pop {vs : List Value} {n : Nat} {y : Value} {Q : Value → Shared → Prop} (i : Nat) (F : Fr g L s.heap m) (N : News g L s.heap (l ++ r)) (S : Sep l r) (hi : l[i]? = some (D, lsOf (vs ++ [y]) n)) (hz : vs.length ≤ 1000)
    (h : ∀ n' h', Fr g L h' m → News g L h' (l.set i (D, lsOf vs n') ++ r) → Sep (l.set i (D, lsOf vs n')) r → Q y { s with heap := h' }) : wpAny (model prog w) A (call (.builtin "list.pop") [.ref D]) Q E s := by
  have z := N (D, _) (List.mem_append_left _ (List.mem_of_getElem? hi))
  have hk : (vs ++ [y]).toArray.size - 1 = vs.length := by rw [List.size_toArray, List.length_append]; rfl
  have hy : (vs ++ [y]).toArray[(vs ++ [y]).toArray.size - 1]? = some y := by rw [hk]; simp
  refine call_meets PySem.F.slot_list_pop ⟨_, z.1, rfl⟩ PySem.F.entry_list_pop (PySem.F.args_list_pop_1 _) (PySem.MeetsSeq.list_pop_last D _ n y hy (by rw [List.size_toArray, sizeLine_eq, List.length_append]; simp; omega)) ⟨z.1, h _ _ (fr_mut _ i F N hi) (news_mut _ i N S hi ?_) (sep_set S hi)⟩
  show (vs ++ [y]).toArray.eraseIdxIfInBounds ((vs ++ [y]).toArray.size - 1) = vs.toArray
  rw [hk, kl_erase, List.append_nil]

theorem led_setItem {vs : List Value} {n : Nat} {k : Int} {u : Tok} {y : Value} {Q : Unit → Shared → Prop} (i : Nat) (F : Fr g L s.heap m) (N : News g L s.heap (l ++ r)) (S : Sep l r) (hi : l[i]? = some (D, lsOf vs n)) (h0 : 0 ≤ k) (hk : k < vs.length) (hz : vs.length ≤ 1003)
    (h : ∀ n' h', Fr g L h' m → News g L h' (l.set i (D, lsOf (vs.set k.toNat y) n') ++ r) → Sep (l.set i (D, lsOf (vs.set k.toNat y) n')) r → Q () { s with heap := h' }) :
    wpAny (model prog w) A (setItem (.ref D) (.int k u) y) Q E s := by
  have z := N (D, _) (List.mem_append_left _ (List.mem_of_getElem? hi))
  refine ki_setAt z.1 h0 (by omega) (by rw [List.size_toArray]; omega) (h _ _ (fr_mut _ i F N hi) (news_mut _ i N S hi ?_) (sep_set S hi))
  apply Array.toList_inj.mp
  simp

/-! a list at the private part's head -/
theorem news_priv {vs : List Value} {n : Nat} {o' : Obj} (N : News g L h (l ++ (D, lsOf vs n) :: r)) (S : Sep l ((D, lsOf vs n) :: r)) (hr : ∀ q ∈ r, D ≠ q.1) (hs : Heap.SameBut D h h') (ho : h'.get? D = some o') : News g L h' (l ++ (D, o') :: r) := by
  have z := N (D, lsOf vs n) (List.mem_append_right _ (.head _))
  intro q hq
  rcases List.mem_append.mp hq with hq | hq
  · have y := N q (List.mem_append_left _ hq)
    exact ⟨(hs.2 _ (S.off q hq _ (.head _))).trans y.1, y.2⟩
  · rcases List.mem_cons.mp hq with rfl | hq
    · exact ⟨ho, z.2⟩
    · have y := N q (List.mem_append_right _ (.tail _ hq))
      exact ⟨(hs.2 _ (Ne.symm (hr q hq))).trans y.1, y.2⟩
theorem Sep.head' {q q' : Addr × Obj} (S : Sep l (q :: r)) (e : q'.1 = q.1) : Sep l (q' :: r) := ⟨S.nd, fun x hx y hy => by
  rcases List.mem_cons.mp hy with rfl | hy
  · exact e ▸ S.off x hx _ (.head _)
  · exact S.off x hx y (.tail _ hy)⟩
theorem priv_append {vs : List Value} {n : Nat} {x : Value} {Q : Value → Shared → Prop} (F : Fr g L s.heap m) (N : News g L s.heap (l ++ (D, lsOf vs n) :: r)) (S : Sep l ((D, lsOf vs n) :: r)) (hr : ∀ q ∈ r, D ≠ q.1) (hz : vs.length ≤ 1000)
    (h : ∀ h', Fr g L h' m → News g L h' (l ++ (D, lsOf (vs ++ [x]) (n + 1)) :: r) → Sep l ((D, lsOf (vs ++ [x]) (n + 1)) :: r) → Q .none { s with heap := h' }) : wpAny (model prog w) A (call (.builtin "list.append") [.ref D, x]) Q E s := by
  have z := N (D, lsOf vs n) (List.mem_append_right _ (.head _))
  exact append_at (hsz := by rw [sizeLine_eq, List.size_toArray]; omega) z.1 fun h' hs ho' => h h' (F.change hs z.2.1 z.2.2) (news_priv N S hr hs (by simpa using ho')) (S.head' rfl)

/-! reading the tree -/
theorem sub_pI {value slice : PySem.Expr} {ad : TAd} {u : TRaw} {z : Led} {T : Tr} {k : Int} {tk : Tok} {Q : Value → Shared → Prop} (R : TAbs prog w ad z u T) (N : News g L s.heap l) (hm : (ad.pI, lsOf u.pV u.pN) ∈ l) (h0 : 0 ≤ k) (hx : k < T.parents.length) (hk : T.parents.length ≤ 600) (h : ∀ t, Q (.int (T.parents.getD k.toNat 0) t) s)
    (hs : subscripted slice false (.ref ad.pI) (.int k tk) = operate [.ref ad.pI, .int k tk] (getItem (.ref ad.pI) (.int k tk)) := by with_unfolding_all rfl) :
    wpAny (model prog w) A (subscriptTail value slice (.ref ad.pI) (.int k tk)) Q E s := sub_int N hm R.p h0 (by omega) hx h hs
theorem sub_spI {value slice : PySem.Expr} {ad : TAd} {u : TRaw} {z : Led} {T : Tr} {k : Int} {tk : Tok} {Q : Value → Shared → Prop} (R : TAbs prog w ad z u T) (N : News g L s.heap l) (hm : (ad.spI, lsOf u.spV u.spN) ∈ l) (h0 : 0 ≤ k) (hx : k < T.spaces.length) (hk : T.spaces.length ≤ 600) (h : ∀ t, Q (.str (T.spaces.getD k.toNat (Str.ofString "")) t) s)
    (hs : subscripted slice false (.ref ad.spI) (.int k tk) = operate [.ref ad.spI, .int k tk] (getItem (.ref ad.spI) (.int k tk)) := by with_unfolding_all rfl) :
    wpAny (model prog w) A (subscriptTail value slice (.ref ad.spI) (.int k tk)) Q E s := sub_str N hm R.sp h0 (by omega) hx h hs
theorem sub_nI {value slice : PySem.Expr} {ad : TAd} {u : TRaw} {z : Led} {T : Tr} {k : Int} {tk : Tok} {Q : Value → Shared → Prop} (R : TAbs prog w ad z u T) (N : News g L s.heap l) (hm : (ad.nI, lsOf u.nV u.nN) ∈ l) (h0 : 0 ≤ k) (hx : k < T.names.length) (hk : T.names.length ≤ 600) (h : ∀ t, Q (.str (T.names.getD k.toNat (Str.ofString "")) t) s)
    (hs : subscripted slice false (.ref ad.nI) (.int k tk) = operate [.ref ad.nI, .int k tk] (getItem (.ref ad.nI) (.int k tk)) := by with_unfolding_all rfl) :
    wpAny (model prog w) A (subscriptTail value slice (.ref ad.nI) (.int k tk)) Q E s := sub_str N hm R.n h0 (by omega) hx h hs
theorem mem_cL {P : Params} {ad : TAd} {u : TRaw} {q : Addr × Obj} (h : q ∈ u.cL) : q ∈ u.led P ad := by
  unfold TRaw.led
  simp [h]
theorem mem_aL {P : Params} {ad : TAd} {u : TRaw} {q : Addr × Obj} (h : q ∈ u.aL) : q ∈ u.led P ad := by
  unfold TRaw.led
  simp [h]
/-- a child list, by its number -/
structure KidAt (u : TRaw) (T : Tr) (k : Nat) (c : Addr) (vs : List Value) (n : Nat) : Prop where
  at' : u.cL[k]? = some (c, lsOf vs n)
  iv : IntsAre vs (T.children.getD k [])
theorem KidAt.mem {P : Params} {ad : TAd} {u : TRaw} {T : Tr} {k : Nat} {c : Addr} {vs : List Value} {n : Nat} (h : KidAt u T k c vs n) : (c, lsOf vs n) ∈ u.led P ad := mem_cL (List.mem_of_getElem? h.at')
theorem sub_cI {value slice : PySem.Expr} {ad : TAd} {u : TRaw} {z : Led} {T : Tr} {k : Int} {tk : Tok} {Q : Value → Shared → Prop} (R : TAbs prog w ad z u T) (N : News g L s.heap l) (hm : (ad.cI, lsOf (refs u.cL) u.cN) ∈ l) (h0 : 0 ≤ k) (hx : k < T.children.length) (hk : T.children.length ≤ 600) (hz : ∀ c ∈ T.children, c.length ≤ 600) (h : ∀ c vs n, KidAt u T k.toNat c vs n → vs.length = (T.children.getD k.toNat []).length → vs.length ≤ 600 → Q (.ref c) s)
    (hs : subscripted slice false (.ref ad.cI) (.int k tk) = operate [.ref ad.cI, .int k tk] (getItem (.ref ad.cI) (.int k tk)) := by with_unfolding_all rfl) :
    wpAny (model prog w) A (subscriptTail value slice (.ref ad.cI) (.int k tk)) Q E s := by
  obtain ⟨c, vs, n, hc, hi⟩ := kids_at R.c (k := k.toNat) (by omega)
  have e : T.children.getD k.toNat [] ∈ T.children := by
    rw [List.getD_eq_getElem?_getD, List.getElem?_eq_getElem (by omega)]
    exact List.getElem_mem _
  exact sub_ref N hm h0 (by omega) hc (h c vs n ⟨hc, hi⟩ hi.length (by rw [hi.length]; exact hz _ e)) hs
theorem pairs_length {z : Led} {vs : List Value} {d : List (Str × Str)} (h : PairsAre z vs d) : vs.length = d.length := by
  induction h with
  | nil => rfl
  | cons _ _ ih => rw [List.length_cons, List.length_cons, ih]
structure AttrAt (z : Led) (u : TRaw) (T : Tr) (k : Nat) (c : Addr) (vs : List Value) (n : Nat) : Prop where
  at' : u.aL[k]? = some (c, lsOf vs n)
  pairs : PairsAre z vs (T.attrs.getD k [])
theorem AttrAt.mem {P : Params} {ad : TAd} {z : Led} {u : TRaw} {T : Tr} {k : Nat} {c : Addr} {vs : List Value} {n : Nat} (h : AttrAt z u T k c vs n) : (c, lsOf vs n) ∈ u.led P ad := mem_aL (List.mem_of_getElem? h.at')
theorem sub_aI {value slice : PySem.Expr} {ad : TAd} {u : TRaw} {z : Led} {T : Tr} {k : Int} {tk : Tok} {Q : Value → Shared → Prop} (R : TAbs prog w ad z u T) (N : News g L s.heap l) (hm : (ad.aI, lsOf (refs u.aL) u.aN) ∈ l) (h0 : 0 ≤ k) (hx : k < T.attrs.length) (hk : T.attrs.length ≤ 600) (hz : ∀ d ∈ T.attrs, d.length ≤ 600) (h : ∀ c vs n, AttrAt z u T k.toNat c vs n → vs.length = (T.attrs.getD k.toNat []).length → vs.length ≤ 600 → Q (.ref c) s)
    (hs : subscripted slice false (.ref ad.aI) (.int k tk) = operate [.ref ad.aI, .int k tk] (getItem (.ref ad.aI) (.int k tk)) := by with_unfolding_all rfl) :
    wpAny (model prog w) A (subscriptTail value slice (.ref ad.aI) (.int k tk)) Q E s := by
  obtain ⟨c, vs, n, hc, hi⟩ := attrs_at R.a (k := k.toNat) (by omega)
  have e : T.attrs.getD k.toNat [] ∈ T.attrs := by
    rw [List.getD_eq_getElem?_getD, List.getElem?_eq_getElem (by omega)]
    exact List.getElem_mem _
  exact sub_ref N hm h0 (by omega) hc (h c vs n ⟨hc, hi⟩ (pairs_length hi) (by rw [pairs_length hi]; exact hz _ e)) hs

/-! turning a child list and a parent -/
theorem refs_set {cl : Led} {k : Nat} {c : Addr} {o o' : Obj} (h : cl[k]? = some (c, o)) : refs (cl.set k (c, o')) = refs cl := by
  induction cl generalizing k with
  | nil => rfl
  | cons x cl ih =>
    cases k with
    | zero =>
      simp only [List.getElem?_cons_zero, Option.some.injEq] at h
      subst h
      rfl
    | succ k =>
      rw [List.getElem?_cons_succ] at h
      simp only [List.set_cons_succ, refs, List.map_cons]
      exact congrArg _ (ih h)
theorem led_kid {P : Params} {ad : TAd} {u : TRaw} {k : Nat} {c : Addr} {o : Obj} (h : u.cL[k]? = some (c, o)) : (u.led P ad)[10 + u.aL.length + k]? = some (c, o) := by
  have e : u.led P ad = (u.led P ad).take 10 ++ (u.aL ++ u.cL) := by simp [TRaw.led]
  rw [e, List.getElem?_append_right (by simp [TRaw.led]; omega), List.getElem?_append_right (by simp [TRaw.led]; omega)]
  rw [← h]
  congr 1
  simp [TRaw.led]
  omega
theorem led_set_kid {P : Params} {ad : TAd} {u : TRaw} {k : Nat} {c : Addr} {o o' : Obj} (h : u.cL[k]? = some (c, o)) : (u.led P ad).set (10 + u.aL.length + k) (c, o') = ({ u with cL := u.cL.set k (c, o') } : TRaw).led P ad := by
  have e : ∀ v : TRaw, v.led P ad = (v.led P ad).take 10 ++ (v.aL ++ v.cL) := by intro v; simp [TRaw.led]
  have e2 : (({ u with cL := u.cL.set k (c, o') } : TRaw).led P ad).take 10 = (u.led P ad).take 10 := by
    simp only [TRaw.led, refs_set h, List.take_succ_cons, List.take_zero]
  have e3 : ((u.led P ad).take 10).length = 10 := by simp [TRaw.led]
  rw [e u, e { u with cL := u.cL.set k (c, o') }, e2, List.set_append_right _ _ (by rw [e3]; omega), List.set_append_right _ _ (by rw [e3]; omega), e3]
  congr 3
  omega
theorem ins_kid {ad : TAd} {u : TRaw} {T : Tr} {j : Nat} {c : Addr} {vs : List Value} {n : Nat} {k : Int} {t : Tok} {y : Value} {Q : Value → Shared → Prop} (K : KidAt u T j c vs n) (F : Fr g L s.heap m) (N : News g L s.heap (u.led w.params ad ++ r)) (S : Sep (u.led w.params ad) r) (h0 : 0 ≤ k) (hk : k ≤ vs.length) (hz : vs.length ≤ 1000)
    (h : ∀ n' h', Fr g L h' m → News g L h' (({ u with cL := u.cL.set j (c, lsOf (vs.take k.toNat ++ y :: vs.drop k.toNat) n') } : TRaw).led w.params ad ++ r) → Sep (({ u with cL := u.cL.set j (c, lsOf (vs.take k.toNat ++ y :: vs.drop k.toNat) n') } : TRaw).led w.params ad) r → Q .none { s with heap := h' }) :
    wpAny (model prog w) A (call (.builtin "list.insert") [.ref c, .int k t, y]) Q E s := by
  refine led_insert (10 + u.aL.length + j) F N S (led_kid K.at') h0 hk hz fun n' h' F' N' S' => ?_
  rw [led_set_kid K.at'] at N' S'
  exact h n' h' F' N' S'
theorem set_pI {ad : TAd} {u : TRaw} {k : Int} {t : Tok} {y : Value} {Q : Unit → Shared → Prop} (F : Fr g L s.heap m) (N : News g L s.heap (u.led w.params ad ++ r)) (S : Sep (u.led w.params ad) r) (h0 : 0 ≤ k) (hk : k < u.pV.length) (hz : u.pV.length ≤ 1000)
    (h : ∀ n' h', Fr g L h' m → News g L h' (({ u with pV := u.pV.set k.toNat y, pN := n' } : TRaw).led w.params ad ++ r) → Sep (({ u with pV := u.pV.set k.toNat y, pN := n' } : TRaw).led w.params ad) r → Q () { s with heap := h' }) :
    wpAny (model prog w) A (setItem (.ref ad.pI) (.int k t) y) Q E s :=
  led_setItem 7 F N S rfl h0 hk (by omega) fun n' h' F' N' S' => h n' h' F' N' S'
def Tr.ins (T : Tr) (q i b : Int) : Tr :=
  { T with children := T.children.modify q.toNat (fun c => c.take (if b = -1 then c.length else c.idxOf b) ++ i :: c.drop (if b = -1 then c.length else c.idxOf b)), parents := T.parents.set i.toNat q }
theorem kids_set {cl : Led} {ds : List (List Int)} (h : KidsAre cl ds) {k : Nat} {c : Addr} {o : Obj} {vs : List Value} {n : Nat} (hc : cl[k]? = some (c, o)) {f : List Int → List Int} (hv : IntsAre vs (f (ds.getD k []))) : KidsAre (cl.set k (c, lsOf vs n)) (ds.modify k f) := by
  induction h generalizing k with
  | nil => simp at hc
  | @cons a vs' n' d l ds h _ ih =>
    cases k with
    | zero =>
      simp only [List.getElem?_cons_zero, Option.some.injEq, Prod.mk.injEq] at hc
      rw [hc.1]
      exact .cons hv ‹_›
    | succ k =>
      rw [List.getElem?_cons_succ] at hc
      rw [List.set_cons_succ, List.modify_succ_cons]
      exact .cons h (ih hc hv)
theorem ints_set' {x : Int} {u : Tok} {vs : List Value} {ns : List Int} (h : IntsAre vs ns) (j : Nat) : IntsAre (vs.set j (.int x u)) (ns.set j x) := by
  induction h generalizing j with
  | nil => exact .nil
  | cons y t _ ih =>
    cases j with
    | zero => exact .cons _ _ ‹_›
    | succ j => exact .cons _ _ (ih j)
theorem TAbs.ins {ad : TAd} {u : TRaw} {z : Led} {T : Tr} {q i b : Int} {c : Addr} {vs : List Value} {n n' n'' : Nat} {ti tq : Tok} (R : TAbs prog w ad z u T) (K : KidAt u T q.toNat c vs n) {at' : Nat} (ha : at' = (if b = -1 then (T.children.getD q.toNat []).length else (T.children.getD q.toNat []).idxOf b)) :
    TAbs prog w ad z { u with cL := u.cL.set q.toNat (c, lsOf (vs.take at' ++ .int i ti :: vs.drop at') n'), pV := u.pV.set i.toNat (.int q tq), pN := n'' } (T.ins q i b) := by
  refine ⟨R.lo, R.co, R.k, R.sp, R.n, R.a, R.x, ints_set' R.p _, kids_set R.c K.at' ?_⟩
  rw [← ha]
  exact (K.iv.take at').append (.cons _ _ (K.iv.drop at'))

/-! groups -/
theorem upd_led {o o' : Obj} (S : Sep l r) (i : Nat) (hi : l[i]? = some (D, o)) : Upd D o o' (l ++ r) (l.set i (D, o') ++ r) := by
  obtain ⟨nd, off⟩ := S
  have hr : ∀ q ∈ r, q.1 ≠ D := fun q hq e => off _ (List.mem_of_getElem? hi) q hq e.symm
  clear off
  induction l generalizing i with
  | nil => simp at hi
  | cons x l ih =>
    obtain ⟨h1, h2⟩ := List.nodup_cons.mp nd
    cases i with
    | zero =>
      simp only [List.getElem?_cons_zero, Option.some.injEq] at hi
      subst hi
      refine .head fun q hq => ?_
      rcases List.mem_append.mp hq with hq | hq
      · exact fun e => h1 (List.mem_map.mpr ⟨q, hq, e⟩)
      · exact hr q hq
    | succ i =>
      rw [List.getElem?_cons_succ] at hi
      exact .tail (fun e => h1 (List.mem_map.mpr ⟨(D, o), List.mem_of_getElem? hi, e.symm⟩)) (ih i hi h2)
theorem updF_led {o : Obj} (S : Sep l r) (i : Nat) (hi : l[i]? = some (D, o)) : UpdF D o (l ++ r) (fun o' => l.set i (D, o') ++ r) := by
  obtain ⟨nd, off⟩ := S
  have hr : ∀ q ∈ r, q.1 ≠ D := fun q hq e => off _ (List.mem_of_getElem? hi) q hq e.symm
  clear off
  induction l generalizing i with
  | nil => simp at hi
  | cons x l ih =>
    obtain ⟨h1, h2⟩ := List.nodup_cons.mp nd
    cases i with
    | zero =>
      simp only [List.getElem?_cons_zero, Option.some.injEq] at hi
      subst hi
      refine .head fun q hq => ?_
      rcases List.mem_append.mp hq with hq | hq
      · exact fun e => h1 (List.mem_map.mpr ⟨q, hq, e⟩)
      · exact hr q hq
    | succ i =>
      rw [List.getElem?_cons_succ] at hi
      exact .tail (fun e => h1 (List.mem_map.mpr ⟨(D, o), List.mem_of_getElem? hi, e.symm⟩)) (ih i hi h2)

/-! the contents -/
theorem co_set {ad : TAd} {u : TRaw} {cs : List (Int × Int)} {k v : Int} {t1 t2 : Tok} {Q : Unit → Shared → Prop} (F : Fr g L s.heap m) (N : News g L s.heap (u.led w.params ad ++ r)) (S : Sep (u.led w.params ad) r) (C : CoAre prog w u.coO cs) (hk : ∀ c ∈ cs, c.1 ≠ k) (hz : cs.length ≤ 1000)
    (h : ∀ h' o', Fr g L h' m → News g L h' (({ u with coO := o' } : TRaw).led w.params ad ++ r) → Sep (({ u with coO := o' } : TRaw).led w.params ad) r → CoAre prog w o' (cs ++ [(k, v)]) → Q () { s with heap := h', toks := s.toks + 1 }) :
    wpAny (model prog w) A (setItem (.ref ad.coI) (.int k t1) (.int v t2)) Q E s := by
  obtain ⟨kvs, hd, hf⟩ := C
  have hi : (u.led w.params ad)[9]? = some (ad.coI, u.coO) := rfl
  have hD : PyProof.V.putD (.int k) (.int v) (coD cs) = coD (cs ++ [(k, v)]) := by
    unfold PyProof.V.putD
    rw [if_neg, coD, coD, List.map_append]
    · rfl
    · simp only [coD, List.any_map, List.any_eq_true, not_exists, not_and]
      intro c hc e
      exact hk c hc (by simpa [PyProof.V.same_int] using e)
  refine setItem_K (knd := intKind prog w) (enc := PyData.int) PyProof.V.same_int (by simp [intKind, Value.isInt]) (PyProof.V.Flat.int v t2) F N (updF_led S 9 hi) hd hf (fun h' o' F' N' hd' hf' => h h' o' F' N' (S.of_keys rfl) ⟨_, hd', hD ▸ hf'⟩) ?_
  rw [coD, List.length_map, sizeLine_eq]
  omega
theorem co_tab {ad : TAd} {u : TRaw} {cs : List (Int × Int)} (lo : (ad.coI == sysModules) = false) (N : News g L s.heap l) (hm : (ad.coI, u.coO) ∈ l) (C : CoAre prog w u.coO cs) : PyProof.Rows.TabAt (intKind prog w) PyData.int s.heap ad.coI (coD cs) := by
  obtain ⟨kvs, hd, hf⟩ := C
  exact ⟨lo, kvs, Heap.dictOf_iff.mpr ⟨_, (N _ hm).1, hd⟩, hf⟩
theorem lookup_no {cs : List (Int × Int)} {k : Int} (h : ∀ c ∈ cs, c.1 ≠ k) : PySem.Spec.lookup (.int k) (coD cs) = none := by
  induction cs with
  | nil => rfl
  | cons c cs ih =>
    show (if PySem.Spec.same (.int c.1) (.int k) = true then some (PyData.int c.2) else PySem.Spec.lookup (.int k) (coD cs)) = none
    rw [if_neg, ih fun c' hc => h c' (.tail _ hc)]
    rw [PyProof.V.same_int]
    simpa using h c (.head _)
theorem in_co_no {ad : TAd} {u : TRaw} {z : Led} {T : Tr} {k : Int} {t : Tok} {Q : Value → Shared → Prop} (R : TAbs prog w ad z u T) (N : News g L s.heap l) (hm : (ad.coI, u.coO) ∈ l) (hk : ∀ c ∈ T.contents, c.1 ≠ k) (h : Q (.bool false) { s with toks := s.toks + 1 }) :
    wpAny (model prog w) A (compareOp .In (.int k t) (.ref ad.coI)) Q E s :=
  in_tab (knd := intKind prog w) (enc := PyData.int) (k := k) PyProof.V.same_int (by simp [intKind, Value.isInt]) (co_tab R.lo N hm R.co) (by rw [lookup_no hk]; exact h)
theorem in_co_yes {ad : TAd} {u : TRaw} {z : Led} {T : Tr} {k c : Int} {t : Tok} {Q : Value → Shared → Prop} (R : TAbs prog w ad z u T) (N : News g L s.heap l) (hm : (ad.coI, u.coO) ∈ l) (hk : PySem.Spec.lookup (.int k) (coD T.contents) = some (.int c)) (h : Q (.bool true) { s with toks := s.toks + 1 }) :
    wpAny (model prog w) A (compareOp .In (.int k t) (.ref ad.coI)) Q E s :=
  in_tab (knd := intKind prog w) (enc := PyData.int) (k := k) PyProof.V.same_int (by simp [intKind, Value.isInt]) (co_tab R.lo N hm R.co) (by rw [hk]; exact h)
theorem item_co {value slice : PySem.Expr} {ad : TAd} {u : TRaw} {z : Led} {T : Tr} {k c : Int} {t : Tok} {Q : Value → Shared → Prop} (R : TAbs prog w ad z u T) (N : News g L s.heap l) (hm : (ad.coI, u.coO) ∈ l) (hk : PySem.Spec.lookup (.int k) (coD T.contents) = some (.int c)) (h : ∀ t', Q (.int c t') { s with toks := s.toks + 1 })
    (hs : subscripted slice false (.ref ad.coI) (.int k t) = operate [.ref ad.coI, .int k t] (getItem (.ref ad.coI) (.int k t)) := by with_unfolding_all rfl) :
    wpAny (model prog w) A (subscriptTail value slice (.ref ad.coI) (.int k t)) Q E s := by
  have T' := co_tab (prog := prog) R.lo N hm R.co
  refine tab_tail T' (getItem_tab (k := k) PyProof.V.same_int (by simp [intKind, Value.isInt]) T' hk fun v hv => ?_) hs
  have hv' := hv {}
  cases hv'
  exact h _
end
/-! while by an invariant with a measure -/
def Hold (P : Prop) : Prop := P
theorem Hold.mk' {P : Prop} (h : Hold P) : P := h
theorem Hold.out {P : Prop} (h : P) : Hold P := h
def Again (I : Nat → Shared → Prop) (k : Nat) (s : Shared) : Prop := ∃ k', k' < k ∧ I k' s
def WEnd (I : Nat → Shared → Prop) (k : Nat) (Q : Flow → Shared → Prop) (f : Flow) (s : Shared) : Prop :=
  match f with
  | .next => Again I k s
  | .cont => Again I k s
  | .brk => Q .next s
  | .ret v => Q (.ret v) s
section
variable {prog : Program} {w : World} {A : Around} {E : Value → Shared → Prop} {s : Shared} {env : Env} {test : PySem.Expr} {body orelse : List Stmt} {pos : Pos} {Q : Flow → Shared → Prop}
theorem whl_inv (I : Nat → Shared → Prop) (hE : PassesOwn (model prog w) A env E) (k : Nat) (h0 : I k s)
    (step : ∀ k s, I k s → wpAny (model prog w) A (isTrue test env (eval test env)) (fun b s₂ => (b = true → wpAny (model prog w) A (execs body env) (WEnd I k Q) E s₂) ∧ (b = false → wpAny (model prog w) A (execs orelse env) Q E s₂)) E s) :
    wpAny (model prog w) A (exec (.While test body orelse pos) env) Q E s := by
  have all : ∀ n k s, k < n → I k s → WhlRest prog w A E env test body orelse Q (k + 1) s := by
    intro n
    induction n with
    | zero => intro k s h; exact absurd h (Nat.not_lt_zero _)
    | succ n ih =>
      intro k s hk hI
      refine whl_turn hE (wpAny_mono (step k s hI) (fun b s₂ h => ?_) fun _ _ e => e)
      cases b with
      | false => exact WhlIf.no rfl (h.2 rfl)
      | true =>
        refine WhlIf.yes rfl (wpAny_mono (h.1 rfl) (fun f s₃ h₃ => ?_) fun _ _ e => e)
        cases f with
        | next => obtain ⟨k', hk', hI'⟩ := h₃; exact ih k' s₃ (by omega) hI'
        | cont => obtain ⟨k', hk', hI'⟩ := h₃; exact ih k' s₃ (by omega) hI'
        | brk => exact h₃
        | ret v => exact h₃
  exact whl_start (k + 1) (all (k + 1) k s (Nat.lt_succ_self _) h0)
end
section
variable {prog : Program} {w : World} {p : Program} {loose : List Str} {mean : ExcName → Option Value} {mg mb : Str → Option Value} {D U : Nat} {f : Addr} {args : List Value} {l : Led} {Post : Value → Led → Prop}
theorem Tells.use (C : Tells prog w p loose mean mg mb D U f args l Post) {A : Around} {env : Env} {outer : List Env} {A₀ : Around} {base h₀ : Heap} {L : Addr} {m : Str → Option Value} {s : Shared}
    {Q E : Value → Shared → Prop} (hA : A.frames = some (env :: outer)) (hf : env.frame = some L) (hk : env.scope.kind = .function) (B : Below A₀ base outer h₀) (F : Fr h₀ L s.heap m) (X : (Mine.H.heap_1 w.params).In h₀) (N : News h₀ L s.heap l) (T : Top p loose mean mg mb h₀) (hR : Room A D U)
    (ret : ∀ v l' h' tk', Post v l' → Fr h₀ L h' m → News h₀ L h' l' → Q v { s with heap := h', toks := tk' }) :
    wpAny (model prog w) A (call (.ref f) args) Q E s := by
  obtain ⟨x, rfl⟩ := Ar.of hR.han hA
  exact C _ _ _ _ _ _ _ _ _ _ _ hA hf hk B F X N T hR ret
theorem Tells.conv {l₁ : Led} {Post₁ : Value → Led → Prop} (C : Tells prog w p loose mean mg mb D U f args l Post) (h1 : ∀ p ∈ l, p ∈ l₁) (h2 : ∀ v l', Post v l' → ∃ l₂, Post₁ v l₂ ∧ ∀ p ∈ l₂, p ∈ l') : Tells prog w p loose mean mg mb D U f args l₁ Post₁ := by
  intro A env outer A₀ base h₀ L m s Q E hA hf hk B F X N T hR ret
  refine C _ _ _ _ _ _ _ _ _ _ _ hA hf hk B F X (News.sub N h1) T hR fun v l' h' tk' hp F' N' => ?_
  obtain ⟨l₂, a, b⟩ := h2 v l' hp
  exact ret v l₂ h' tk' a F' (News.sub N' b)
end
/-- the way back out of a body -/
def RetK (h₀ : Heap) (L : Addr) (m : Str → Option Value) (g : Heap) (Q : Value → Shared → Prop) (fl : Flow) (s' : Shared) : Prop :=
  ∃ L' m' news', Fr g L' s'.heap m' ∧ News g L' s'.heap news' ∧ (Fr h₀ L s'.heap m → News h₀ L s'.heap news' → Q (match fl with | .ret v => v | _ => .none) s')
theorem retK_ {h₀ g : Heap} {L L' : Addr} {m m' : Str → Option Value} {news' : Led} {Q : Value → Shared → Prop} {fl : Flow} {s' : Shared} (F' : Fr g L' s'.heap m') (N' : News g L' s'.heap news')
    (k : Fr h₀ L s'.heap m → News h₀ L s'.heap news' → Q (match fl with | .ret v => v | _ => .none) s') : RetK h₀ L m g Q fl s' := ⟨L', m', news', F', N', k⟩
def NoE : Value → Shared → Prop := fun _ _ => False
theorem Room.under {A : Around} {D U : Nat} (h : Room A D U) (hD : 1 ≤ D) (hU : 3 ≤ U) (env : Env) : Room (A.deeper env) (D - 1) (U - 3) := by
  obtain ⟨h0, h1, h2⟩ := h
  refine ⟨h0, ?_, ?_⟩
  · rw [depth_deeper]; omega
  · rw [units_deeper]; omega
theorem frames_under {A : Around} {env : Env} {outer : List Env} (h : A.frames = some (env :: outer)) (e : Env) : (A.deeper e).frames = some (e :: env :: outer) := by
  show A.frames.map (e :: ·) = _
  rw [h]; rfl
section
variable {prog : Program} {w : World} {p : Program} {loose : List Str} {mean : ExcName → Option Value} {mg mb : Str → Option Value} {D U : Nat} {A A₀ : Around} {env : Env} {outer : List Env} {base h₀ : Heap} {L f : Addr} {m : Str → Option Value} {s : Shared} {K : Frag} {news : Led}
  {Q E : Value → Shared → Prop} {name qual : Str} {params : Arguments} {body : List Stmt} {scope : Scope} {dV kV doc pm cdv ct oc : Value} {an od : Option Addr} {osl : Array (Option Value)} {args : List Value} {binds : List (Str × Value)}
theorem enter_ (hA : A.frames = some (env :: outer)) (hf : env.frame = some L) (hke : env.scope.kind = .function) (B : Below A₀ base outer h₀) (F : Fr h₀ L s.heap m) (X₀ : K.In h₀) (N : News h₀ L s.heap news) (T : Top p loose mean mg mb h₀) (hR : Room A D U) (hD : 1 ≤ D) (hU : 3 ≤ U)
    (ho : K.lookup f = some ⟨oc, od, .func (fnOf name qual params body scope dV kV doc pm an cdv ct), osl⟩) (hcd : codeIn K cdv qual = true)
    (hbind : BindsTo s (fnOf name qual params body scope dV kV doc pm an cdv ct) ⟨args, []⟩ binds) (hloc : ∀ y ∈ binds, scope.names.lookup y.1 = some .local)
    (hco : scope.isCoroutine = false) (hgen : scope.isGenerator = false) (hk : scope.kind = .function)
    (hcell : ∀ x ∈ scope.names, x.2 ≠ .cell)
    (h : ∀ x1 g L' h₁, (Ar x1).frames = some (envOf qual scope L' f cdv :: env :: outer) → Room (Ar x1) (D - 1) (U - 3) → Fr h₀ L g m → Fr g L' h₁ (fun y => binds.reverse.lookup y) → News g L' h₁ news → Below A base (env :: outer) g → K.In g → Top p loose mean mg mb g →
      wpAny (model prog w) (Ar x1) (execs body (envOf qual scope L' f cdv)) (RetK h₀ L m g Q) NoE { s with heap := h₁, toks := s.toks + binds.length }) : wpAny (model prog w) A (call (.ref f) args) Q E s := by
  refine wpAny_call ?_
  refine code_def B F X₀ N T hA hf hke ho hcd (by have := hR.2.1; omega) hbind hloc (fun g L' h₁ FG F' N' B' X' T' => ?_) hco hgen hk hcell
  have hA2 := frames_under hA (envOf qual scope L' f cdv)
  have hR2 := hR.under hD hU (envOf qual scope L' f cdv)
  obtain ⟨x1, ex⟩ := Ar.of hR2.han hA2
  rw [ex] at hA2 hR2 ⊢
  refine wpAny_mono (h x1 g L' h₁ hA2 hR2 FG F' N' B' X' T') (fun fl s' x => ?_) (fun _ _ x => x.elim)
  obtain ⟨L2, m2, n2, a, b, k⟩ := x
  exact ⟨L2, m2, n2, a, b, k⟩
theorem enterC_ (hA : A.frames = some (env :: outer)) (hf : env.frame = some L) (hke : env.scope.kind = .function) (B : Below A₀ base outer h₀) (F : Fr h₀ L s.heap m) (X₀ : K.In h₀) (N : News h₀ L s.heap news) (T : Top p loose mean mg mb h₀) (hR : Room A D U) (hD : 1 ≤ D) (hU : 3 ≤ U)
    (ho : K.lookup f = some ⟨oc, od, .func (fnOf name qual params body scope dV kV doc pm an cdv ct), osl⟩) (hcd : codeIn K cdv qual = true)
    (hbind : BindsTo s (fnOf name qual params body scope dV kV doc pm an cdv ct) ⟨args, []⟩ binds) (hkind : (binds.all fun y => scope.names.lookup y.1 == some .local || scope.names.lookup y.1 == some .cell) = true)
    (hnd : ((cellsFrom 0 scope.names []).map (·.1)).Nodup)
    (hco : scope.isCoroutine = false) (hgen : scope.isGenerator = false) (hk : scope.kind = .function)
    (h : ∀ x1 g L' h₁ tk cells, (Ar x1).frames = some (envOfC qual scope L' f cdv :: env :: outer) → Room (Ar x1) (D - 1) (U - 3) → Fr h₀ L g m → Fr g L' h₁ (bindL (envOfC qual scope L' f cdv).kindOf binds fun _ => none) → News g L' h₁ (cells ++ news) →
      CellsAre (bindC (envOfC qual scope L' f cdv).kindOf binds fun _ => none) (cellsFrom (L' + 1) scope.names []) cells → Below A base (env :: outer) g → K.In g → Top p loose mean mg mb g → (∀ p ∈ news, p.1 < L') →
      wpAny (model prog w) (Ar x1) (execs body (envOfC qual scope L' f cdv)) (RetK h₀ L m g Q) NoE { s with heap := h₁, toks := tk }) : wpAny (model prog w) A (call (.ref f) args) Q E s := by
  refine wpAny_call ?_
  refine code_defC B F X₀ N T hA hf hke ho hcd (by have := hR.2.1; omega) hbind hkind hnd (fun g L' h₁ tk cells FG F' N' Y' B' X' T' l1 => ?_) hco hgen hk
  have hA2 := frames_under hA (envOfC qual scope L' f cdv)
  have hR2 := hR.under hD hU (envOfC qual scope L' f cdv)
  obtain ⟨x1, ex⟩ := Ar.of hR2.han hA2
  rw [ex] at hA2 hR2 ⊢
  refine wpAny_mono (h x1 g L' h₁ tk cells hA2 hR2 FG F' N' Y' B' X' T' l1) (fun fl s' x => ?_) (fun _ _ x => x.elim)
  obtain ⟨L2, m2, n2, a, b, k⟩ := x
  exact ⟨L2, m2, n2, a, b, k⟩
end
end
section
/-! the builder, its stack and its list of formatting elements -/
structure BAd where
  b : Addr
  bd : Addr
  st : Addr
  sd : Addr
  sI : Addr
  fm : Addr
  fd : Addr
  fI : Addr
  eI : Addr
structure BRaw where
  tk : Nat → Tok
  vv : Nat → Value
  mode : Str
  mtk : Tok
  foster : Bool
  sV : List Value
  fV : List Value
  sN : Nat
  fN : Nat
  eN : Nat
def BRaw.es (P : Params) (ad : TAd) (bd : BAd) (w : BRaw) : List DictEntry :=
  [⟨PyData.keyHash P "rules", .str "rules" (w.tk 0), w.vv 0⟩, ⟨PyData.keyHash P "tree", .str "tree" (w.tk 1), .ref ad.t⟩, ⟨PyData.keyHash P "stack", .str "stack" (w.tk 2), .ref bd.st⟩, ⟨PyData.keyHash P "formatting", .str "formatting" (w.tk 3), .ref bd.fm⟩,
    ⟨PyData.keyHash P "mode", .str "mode" (w.tk 4), .str w.mode w.mtk⟩, ⟨PyData.keyHash P "original", .str "original" (w.tk 5), w.vv 1⟩, ⟨PyData.keyHash P "modes", .str "modes" (w.tk 6), w.vv 2⟩, ⟨PyData.keyHash P "head", .str "head" (w.tk 7), w.vv 3⟩,
    ⟨PyData.keyHash P "form", .str "form" (w.tk 8), w.vv 4⟩, ⟨PyData.keyHash P "owners", .str "owners" (w.tk 9), w.vv 5⟩, ⟨PyData.keyHash P "is_frameset_ok", .str "is_frameset_ok" (w.tk 10), w.vv 6⟩, ⟨PyData.keyHash P "is_scripting", .str "is_scripting" (w.tk 11), w.vv 7⟩,
    ⟨PyData.keyHash P "is_foster", .str "is_foster" (w.tk 12), .bool w.foster⟩, ⟨PyData.keyHash P "context", .str "context" (w.tk 13), w.vv 8⟩, ⟨PyData.keyHash P "quirks", .str "quirks" (w.tk 14), w.vv 9⟩, ⟨PyData.keyHash P "errors", .str "errors" (w.tk 15), .ref bd.eI⟩,
    ⟨PyData.keyHash P "pending", .str "pending" (w.tk 16), w.vv 10⟩, ⟨PyData.keyHash P "wish", .str "wish" (w.tk 17), w.vv 11⟩, ⟨PyData.keyHash P "is_skipping", .str "is_skipping" (w.tk 18), w.vv 12⟩, ⟨PyData.keyHash P "is_acknowledged", .str "is_acknowledged" (w.tk 19), w.vv 13⟩,
    ⟨PyData.keyHash P "is_done", .str "is_done" (w.tk 20), w.vv 14⟩]
def BRaw.esS (P : Params) (ad : TAd) (bd : BAd) (w : BRaw) : List DictEntry :=
  [⟨PyData.keyHash P "tree", .str "tree" (w.tk 21), .ref ad.t⟩, ⟨PyData.keyHash P "items", .str "items" (w.tk 22), .ref bd.sI⟩]
def BRaw.esF (P : Params) (ad : TAd) (bd : BAd) (w : BRaw) : List DictEntry :=
  [⟨PyData.keyHash P "tree", .str "tree" (w.tk 23), .ref ad.t⟩, ⟨PyData.keyHash P "items", .str "items" (w.tk 24), .ref bd.fI⟩]
def BRaw.led (P : Params) (ad : TAd) (bd : BAd) (w : BRaw) : Led :=
  (bd.b, instObj 486 bd.bd) ::
  (bd.bd, dictOf (BRaw.es P ad bd w) 21) ::
  (bd.st, instObj 291 bd.sd) :: (bd.sd, dictOf (BRaw.esS P ad bd w) 2) :: (bd.sI, lsOf w.sV w.sN) ::
  (bd.fm, instObj 179 bd.fd) :: (bd.fd, dictOf (BRaw.esF P ad bd w) 2) :: (bd.fI, lsOf w.fV w.fN) ::
  (bd.eI, lsOf [] w.eN) :: []
structure BAbs (v : BRaw) (stack fmt : List Int) : Prop where
  s : IntsAre v.sV stack
  f : IntsAre v.fV fmt

section
variable {g h h' : Heap} {L D : Addr} {m : Str → Option Value} {l l' l₁ l₂ r : Led}
theorem News.swap (N : News g L h (l₁ ++ (l₂ ++ r))) : News g L h (l₂ ++ (l₁ ++ r)) := News.sub N sub_swap
/-- two groups, each apart from the other and from the rest -/
structure Sep2 (l₁ l₂ r : Led) : Prop where
  one : Sep l₁ (l₂ ++ r)
  two : Sep l₂ (l₁ ++ r)
theorem Sep2.swap (S : Sep2 l₁ l₂ r) : Sep2 l₂ l₁ r := ⟨S.two, S.one⟩
theorem Sep2.of_two (S : Sep2 l₁ l₂ r) (T : Sep l' (l₁ ++ r)) : Sep2 l₁ l' r :=
  ⟨⟨S.one.nd, fun p hp q hq => by
    rcases List.mem_append.mp hq with hq | hq
    · exact fun e => T.off q hq p (List.mem_append_left _ hp) e.symm
    · exact S.one.off p hp q (List.mem_append_right _ hq)⟩, T⟩
theorem Sep2.of_one (S : Sep2 l₁ l₂ r) (T : Sep l' (l₂ ++ r)) : Sep2 l' l₂ r := (S.swap.of_two T).swap
theorem Sep2.fresh {a : Addr} {o : Obj} (S : Sep2 l₁ l₂ r) (ha : ∀ p ∈ l₁ ++ (l₂ ++ r), p.1 < a) : Sep2 l₁ l₂ ((a, o) :: r) :=
  ⟨⟨S.one.nd, fun p hp q hq => by
    rcases List.mem_append.mp hq with hq | hq
    · exact S.one.off p hp q (List.mem_append_left _ hq)
    · rcases List.mem_cons.mp hq with rfl | hq
      · exact Nat.ne_of_lt (ha p (List.mem_append_left _ hp))
      · exact S.one.off p hp q (List.mem_append_right _ hq)⟩,
   ⟨S.two.nd, fun p hp q hq => by
    rcases List.mem_append.mp hq with hq | hq
    · exact S.two.off p hp q (List.mem_append_left _ hq)
    · rcases List.mem_cons.mp hq with rfl | hq
      · exact Nat.ne_of_lt (ha p (List.mem_append_right _ (List.mem_append_left _ hp)))
      · exact S.two.off p hp q (List.mem_append_right _ hq)⟩⟩
theorem Sep2.sub {r' : Led} (S : Sep2 l₁ l₂ r) (h : ∀ q ∈ r', q ∈ r) : Sep2 l₁ l₂ r' :=
  ⟨⟨S.one.nd, fun p hp q hq => S.one.off p hp q ((List.mem_append.mp hq).elim (fun z => List.mem_append_left _ z) fun z => List.mem_append_right _ (h q z))⟩,
   ⟨S.two.nd, fun p hp q hq => S.two.off p hp q ((List.mem_append.mp hq).elim (fun z => List.mem_append_left _ z) fun z => List.mem_append_right _ (h q z))⟩⟩
end

section
variable {prog : Program} {w : World} {A : Around} {E : Value → Shared → Prop} {s : Shared} {g : Heap} {L : Addr} {m : Str → Option Value} {r : Led} {ad : TAd} {bd : BAd} {u : TRaw} {v : BRaw} {x : Value} {Q : Value → Shared → Prop}
theorem app_sI (F : Fr g L s.heap m) (N : News g L s.heap (v.led w.params ad bd ++ (u.led w.params ad ++ r))) (S : Sep2 (v.led w.params ad bd) (u.led w.params ad) r) (hz : v.sV.length ≤ 1000)
    (h : ∀ h', Fr g L h' m → News g L h' (({ v with sV := v.sV ++ [x], sN := v.sN + 1 } : BRaw).led w.params ad bd ++ (u.led w.params ad ++ r)) → Sep2 (({ v with sV := v.sV ++ [x], sN := v.sN + 1 } : BRaw).led w.params ad bd) (u.led w.params ad) r → Q .none { s with heap := h' }) :
    wpAny (model prog w) A (call (.builtin "list.append") [.ref bd.sI, x]) Q E s := led_append 4 F N S.one rfl rfl hz fun h' F' N' S' => h h' F' N' (S.of_one S')
theorem app_fI (F : Fr g L s.heap m) (N : News g L s.heap (v.led w.params ad bd ++ (u.led w.params ad ++ r))) (S : Sep2 (v.led w.params ad bd) (u.led w.params ad) r) (hz : v.fV.length ≤ 1000)
    (h : ∀ h', Fr g L h' m → News g L h' (({ v with fV := v.fV ++ [x], fN := v.fN + 1 } : BRaw).led w.params ad bd ++ (u.led w.params ad ++ r)) → Sep2 (({ v with fV := v.fV ++ [x], fN := v.fN + 1 } : BRaw).led w.params ad bd) (u.led w.params ad) r → Q .none { s with heap := h' }) :
    wpAny (model prog w) A (call (.builtin "list.append") [.ref bd.fI, x]) Q E s := led_append 7 F N S.one rfl rfl hz fun h' F' N' S' => h h' F' N' (S.of_one S')
theorem pop_sI {vs : List Value} {y : Value} (e : v.sV = vs ++ [y]) (F : Fr g L s.heap m) (N : News g L s.heap (v.led w.params ad bd ++ (u.led w.params ad ++ r))) (S : Sep2 (v.led w.params ad bd) (u.led w.params ad) r) (hz : vs.length ≤ 1000)
    (h : ∀ n' h', Fr g L h' m → News g L h' (({ v with sV := vs, sN := n' } : BRaw).led w.params ad bd ++ (u.led w.params ad ++ r)) → Sep2 (({ v with sV := vs, sN := n' } : BRaw).led w.params ad bd) (u.led w.params ad) r → Q y { s with heap := h' }) :
    wpAny (model prog w) A (call (.builtin "list.pop") [.ref bd.sI]) Q E s := led_pop (n := v.sN) 4 F N S.one (by rw [← e]; rfl) hz fun n' h' F' N' S' => h n' h' F' N' (S.of_one S')
theorem rem_sI {ns : List Int} {y : Int} {t : Tok} (e : IntsAre v.sV ns) (hy : y ∈ ns) (F : Fr g L s.heap m) (N : News g L s.heap (v.led w.params ad bd ++ (u.led w.params ad ++ r))) (S : Sep2 (v.led w.params ad bd) (u.led w.params ad) r) (hz : v.sV.length ≤ 1000)
    (h : ∀ vs n' h', IntsAre vs (ns.erase y) → Fr g L h' m → News g L h' (({ v with sV := vs, sN := n' } : BRaw).led w.params ad bd ++ (u.led w.params ad ++ r)) → Sep2 (({ v with sV := vs, sN := n' } : BRaw).led w.params ad bd) (u.led w.params ad) r → Q .none { s with heap := h' }) :
    wpAny (model prog w) A (call (.builtin "list.remove") [.ref bd.sI, .int y t]) Q E s := led_remove 4 F N S.one rfl e hy hz fun vs n' h' hv F' N' S' => h vs n' h' hv F' N' (S.of_one S')
theorem set_fI {k : Int} {t : Tok} {Q : Unit → Shared → Prop} (F : Fr g L s.heap m) (N : News g L s.heap (v.led w.params ad bd ++ (u.led w.params ad ++ r))) (S : Sep2 (v.led w.params ad bd) (u.led w.params ad) r) (h0 : 0 ≤ k) (hk : k < v.fV.length) (hz : v.fV.length ≤ 1000)
    (h : ∀ n' h', Fr g L h' m → News g L h' (({ v with fV := v.fV.set k.toNat x, fN := n' } : BRaw).led w.params ad bd ++ (u.led w.params ad ++ r)) → Sep2 (({ v with fV := v.fV.set k.toNat x, fN := n' } : BRaw).led w.params ad bd) (u.led w.params ad) r → Q () { s with heap := h' }) :
    wpAny (model prog w) A (setItem (.ref bd.fI) (.int k t) x) Q E s := led_setItem 7 F N S.one rfl h0 hk (by omega) fun n' h' F' N' S' => h n' h' F' N' (S.of_one S')
theorem sub_sI {value slice : PySem.Expr} {l : Led} {stack fmt : List Int} {k : Int} {tk : Tok} (R : BAbs v stack fmt) (N : News g L s.heap l) (hm : (bd.sI, lsOf v.sV v.sN) ∈ l) (h0 : 0 ≤ k) (hx : k < stack.length) (hk : stack.length ≤ 600) (h : ∀ t, Q (.int (stack.getD k.toNat 0) t) s)
    (hs : subscripted slice false (.ref bd.sI) (.int k tk) = operate [.ref bd.sI, .int k tk] (getItem (.ref bd.sI) (.int k tk)) := by with_unfolding_all rfl) :
    wpAny (model prog w) A (subscriptTail value slice (.ref bd.sI) (.int k tk)) Q E s := sub_int N hm R.s h0 (by omega) hx h hs
theorem sub_fI {value slice : PySem.Expr} {l : Led} {stack fmt : List Int} {k : Int} {tk : Tok} (R : BAbs v stack fmt) (N : News g L s.heap l) (hm : (bd.fI, lsOf v.fV v.fN) ∈ l) (h0 : 0 ≤ k) (hx : k < fmt.length) (hk : fmt.length ≤ 600) (h : ∀ t, Q (.int (fmt.getD k.toNat 0) t) s)
    (hs : subscripted slice false (.ref bd.fI) (.int k tk) = operate [.ref bd.fI, .int k tk] (getItem (.ref bd.fI) (.int k tk)) := by with_unfolding_all rfl) :
    wpAny (model prog w) A (subscriptTail value slice (.ref bd.fI) (.int k tk)) Q E s := sub_int N hm R.f h0 (by omega) hx h hs
theorem tuple_of_list {l₁ l₂ : Led} {c : Addr} {vs : List Value} {n : Nat} (F : Fr g L s.heap m) (N : News g L s.heap (l₁ ++ (l₂ ++ r))) (S : Sep2 l₁ l₂ r) (hm : (c, lsOf vs n) ∈ l₁ ++ (l₂ ++ r)) (hz : vs.length ≤ 1000)
    (h : ∀ D h', Fr g L h' m → News g L h' (l₁ ++ (l₂ ++ (D, tupOf vs 0) :: r)) → Sep2 l₁ l₂ ((D, tupOf vs 0) :: r) → (∀ q ∈ r, D ≠ q.1) → Q (.ref D) { s with heap := h' }) :
    wpAny (model prog w) A (call (.type "tuple") [.ref c]) Q E s :=
  kde_tupleOf F N (N.isList hm) (by rw [List.size_toArray]; omega) rfl fun D h' F' N' l1 => h D h' F' (News.sub N' sub_front) (S.fresh l1) fun q hq => Ne.symm (Nat.ne_of_lt (l1 q (List.mem_append_right _ (List.mem_append_right _ hq))))
theorem sub_sIn {value slice : PySem.Expr} {l : Led} {stack fmt : List Int} {k : Nat} {tk : Tok} (R : BAbs v stack fmt) (N : News g L s.heap l) (hm : (bd.sI, lsOf v.sV v.sN) ∈ l) (hx : k < stack.length) (hk : stack.length ≤ 600) (h : ∀ t, Q (.int (stack.getD k 0) t) s)
    (hs : subscripted slice false (.ref bd.sI) (.int (k : Nat) tk) = operate [.ref bd.sI, .int (k : Nat) tk] (getItem (.ref bd.sI) (.int (k : Nat) tk)) := by with_unfolding_all rfl) :
    wpAny (model prog w) A (subscriptTail value slice (.ref bd.sI) (.int (k : Nat) tk)) Q E s := sub_int N hm R.s (by omega) (by omega) (by omega) h hs
theorem sub_fIn {value slice : PySem.Expr} {l : Led} {stack fmt : List Int} {k : Nat} {tk : Tok} (R : BAbs v stack fmt) (N : News g L s.heap l) (hm : (bd.fI, lsOf v.fV v.fN) ∈ l) (hx : k < fmt.length) (hk : fmt.length ≤ 600) (h : ∀ t, Q (.int (fmt.getD k 0) t) s)
    (hs : subscripted slice false (.ref bd.fI) (.int (k : Nat) tk) = operate [.ref bd.fI, .int (k : Nat) tk] (getItem (.ref bd.fI) (.int (k : Nat) tk)) := by with_unfolding_all rfl) :
    wpAny (model prog w) A (subscriptTail value slice (.ref bd.fI) (.int (k : Nat) tk)) Q E s := sub_int N hm R.f (by omega) (by omega) (by omega) h hs
theorem mem_getD {xs : List Int} {j : Nat} (h : j < xs.length) : xs.getD j 0 ∈ xs := by
  rw [List.getD_eq_getElem?_getD, List.getElem?_eq_getElem h]
  exact List.getElem_mem _
theorem new_tuple2 {l₁ l₂ : Led} {vs : List Value} (F : Fr g L s.heap m) (N : News g L s.heap (l₁ ++ (l₂ ++ r))) (S : Sep2 l₁ l₂ r) (hz : vs.length ≤ 1000)
    (h : ∀ D h', Fr g L h' m → News g L h' (l₁ ++ (l₂ ++ (D, tupOf vs 0) :: r)) → Sep2 l₁ l₂ ((D, tupOf vs 0) :: r) → (∀ q ∈ r, D ≠ q.1) → Q (.ref D) { s with heap := h' }) :
    wpAny (model prog w) A (newTuple vs) Q E s :=
  newTuple_N F N (fun h' F' N' => h _ h' F' (News.sub N' sub_front) (S.fresh fun p hp => Heap.lt_size (N p hp).1) fun q hq => Ne.symm (Nat.ne_of_lt (Heap.lt_size (N q (List.mem_append_right _ (List.mem_append_right _ hq))).1))) (by rw [sizeLine_eq]; omega)
end
section
variable {prog : Program} {w : World} {p : Program} {loose : List Str} {mean : ExcName → Option Value} {mg mb : Str → Option Value} {D U : Nat} {f : Addr} {args : List Value} {l l₁ l₂ r : Led}
/-- a call that reads alone, its ledger's groups in another order -/
theorem Tells.ro {P : Value → Prop} (C : Tells prog w p loose mean mg mb D U f args l (fun v l' => P v ∧ l' = l)) (h : ∀ p, p ∈ l ↔ p ∈ l₁) : Tells prog w p loose mean mg mb D U f args l₁ (fun v l' => P v ∧ l' = l₁) :=
  C.conv (fun p hp => (h p).mp hp) fun _ l' hp => ⟨l₁, ⟨hp.1, rfl⟩, fun p hq => hp.2 ▸ (h p).mpr hq⟩
theorem swap_iff : ∀ q, q ∈ l₁ ++ (l₂ ++ r) ↔ q ∈ l₂ ++ (l₁ ++ r) := fun q => ⟨sub_swap q, sub_swap q⟩
def Tr.isH (T : Tr) (i : Int) (nm : Str) : Bool := T.spaces.getD i.toNat (Str.ofString "") == Str.ofString "html" && T.names.getD i.toNat (Str.ofString "") == nm
end
end
section
def isPart (nm : Str) : Bool := [Str.ofString "table", Str.ofString "tbody", Str.ofString "tfoot", Str.ofString "thead", Str.ofString "tr"].any (· == nm)
structure Small (u : TRaw) (n : Nat) : Prop where
  k : u.kV.length ≤ n
  sp : u.spV.length ≤ n
  nm : u.nV.length ≤ n
  a : u.aL.length ≤ n
  x : u.xV.length ≤ n
  p : u.pV.length ≤ n
  c : u.cL.length ≤ n
theorem Small.added {u : TRaw} {n : Nat} {kind space name text par : Value} {at' ct : Addr × Obj} (h : Small u n) : Small (u.added kind space name text par at' ct) (n + 1) := by
  obtain ⟨a, b, c, d, e, f, g⟩ := h
  constructor <;> simp only [TRaw.added, List.length_append, List.length_cons, List.length_nil] <;> omega
structure WF (T : Tr) (n : Nat) : Prop where
  k : T.kinds.length = n
  sp : T.spaces.length = n
  nm : T.names.length = n
  a : T.attrs.length = n
  x : T.texts.length = n
  p : T.parents.length = n
  c : T.children.length = n
  up : ∀ i : Nat, i < n → -1 ≤ T.parents.getD i 0 ∧ T.parents.getD i 0 < i

theorem len_attrs {z l : Led} {ds : List (List (Str × Str))} (h : AttrsAre z l ds) : l.length = ds.length := by
  induction h with
  | nil => rfl
  | cons _ _ ih => rw [List.length_cons, List.length_cons, ih]
theorem len_kids {l : Led} {ds : List (List Int)} (h : KidsAre l ds) : l.length = ds.length := by
  induction h with
  | nil => rfl
  | cons _ _ ih => rw [List.length_cons, List.length_cons, ih]
theorem len_strs {vs : List Value} {ys : List Str} (h : StrsAre vs ys) : vs.length = ys.length := by
  induction h with
  | nil => rfl
  | cons _ _ _ ih => rw [List.length_cons, List.length_cons, ih]
theorem small_of {prog : Program} {w : World} {ad : TAd} {z : Led} {u : TRaw} {T : Tr} {n : Nat} (R : TAbs prog w ad z u T) (W : WF T n) : Small u n :=
  ⟨Nat.le_of_eq ((len_strs R.k).trans W.k), Nat.le_of_eq ((len_strs R.sp).trans W.sp), Nat.le_of_eq ((len_strs R.n).trans W.nm), Nat.le_of_eq ((len_attrs R.a).trans W.a), Nat.le_of_eq ((len_strs R.x).trans W.x), Nat.le_of_eq (R.p.length.trans W.p), Nat.le_of_eq ((len_kids R.c).trans W.c)⟩
theorem getD_snoc {α : Type} {xs : List α} {x d : α} {i : Nat} : (xs ++ [x]).getD i d = if i < xs.length then xs.getD i d else if i = xs.length then x else d := by
  simp only [List.getD_eq_getElem?_getD]
  by_cases h : i < xs.length
  · rw [if_pos h, List.getElem?_append_left h]
  · rw [if_neg h, List.getElem?_append_right (by omega)]
    by_cases e : i = xs.length
    · subst e
      simp
    · rw [if_neg e, List.getElem?_eq_none (by simp; omega)]
      rfl
theorem WF.add {T : Tr} {n : Nat} (W : WF T n) (kind space name : Str) (d : List (Str × Str)) : WF (T.add kind space name d) (n + 1) := by
  obtain ⟨h1, h2, h3, h4, h5, h6, h7, h8⟩ := W
  refine ⟨by simp [Tr.add, h1], by simp [Tr.add, h2], by simp [Tr.add, h3], by simp [Tr.add, h4], by simp [Tr.add, h5], by simp [Tr.add, h6], by simp [Tr.add, h7], fun i hi => ?_⟩
  show -1 ≤ (T.parents ++ [-1]).getD i 0 ∧ (T.parents ++ [-1]).getD i 0 < (i : Int)
  rw [getD_snoc]
  by_cases h : i < T.parents.length
  · rw [if_pos h]
    exact h8 i (by omega)
  · rw [if_neg h, if_pos (by omega)]
    omega
theorem getD_set {xs : List Int} {x : Int} {i j : Nat} (h : i < xs.length) : (xs.set i x).getD j 0 = if j = i then x else xs.getD j 0 := by
  simp only [List.getD_eq_getElem?_getD, List.getElem?_set]
  by_cases e : i = j
  · subst e
    simp [h]
  · rw [if_neg e, if_neg (fun h => e h.symm)]
theorem WF.ins {T : Tr} {n : Nat} (W : WF T n) {q i b : Int} (h0 : 0 ≤ q) (hq : q < i) (hi : i < n) : WF (T.ins q i b) n := by
  obtain ⟨h1, h2, h3, h4, h5, h6, h7, h8⟩ := W
  refine ⟨h1, h2, h3, h4, h5, by simp [Tr.ins, h6], by simp [Tr.ins, h7], fun j hj => ?_⟩
  show -1 ≤ (T.parents.set i.toNat q).getD j 0 ∧ (T.parents.set i.toNat q).getD j 0 < (j : Int)
  rw [getD_set (by omega)]
  by_cases e : j = i.toNat
  · rw [if_pos e]
    omega
  · rw [if_neg e]
    exact h8 j hj
theorem kids_add {T : Tr} {n : Nat} (h : ∀ c ∈ T.children, c.length ≤ n) (kind space name : Str) (d : List (Str × Str)) : ∀ c ∈ (T.add kind space name d).children, c.length ≤ n := by
  intro c hc
  rcases List.mem_append.mp hc with hc | hc
  · exact h c hc
  · rw [List.mem_singleton.mp hc]
    exact Nat.zero_le _
theorem kids_ins {T : Tr} {n : Nat} {q i b : Int} (h : ∀ c ∈ T.children, c.length ≤ n) : ∀ c ∈ (T.ins q i b).children, c.length ≤ n + 1 := by
  intro c hc
  obtain ⟨j, hj, rfl⟩ := List.getElem_of_mem hc
  simp only [Tr.ins, List.length_modify] at hj
  simp only [Tr.ins, List.getElem_modify]
  have z := h _ (List.getElem_mem hj)
  split
  · simp only [List.length_append, List.length_take, List.length_cons, List.length_drop]
    exact minadd z
  · omega

/-- the builder, as plain data, and its bounds -/
structure St (prog : Program) (w : World) (ad : TAd) (bd : BAd) (z : Led) (u : TRaw) (v : BRaw) (T : Tr) (stack fmt : List Int) (n : Nat) : Prop where
  R : TAbs prog w ad z u T
  B : BAbs v stack fmt
  W : WF T n
  K : ∀ c ∈ T.children, c.length ≤ n
  hst : ∀ x ∈ stack, 0 ≤ x ∧ x < n
  hl : stack.length ≤ n
section
variable {prog : Program} {w : World} {ad : TAd} {bd : BAd} {z : Led} {u u' : TRaw} {v v' : BRaw} {T : Tr} {stack fmt : List Int} {n : Nat}
theorem add_par {T : Tr} {n : Nat} (W : WF T n) (kind space name : Str) (d : List (Str × Str)) : (T.add kind space name d).parents.getD ((n : Nat) : Int).toNat 0 = -1 := by
  show (T.parents ++ [-1]).getD n 0 = -1
  rw [getD_snoc, if_neg (by rw [W.p]; omega), if_pos W.p.symm]
theorem add_kid {T : Tr} {n : Nat} (W : WF T n) (kind space name : Str) (d : List (Str × Str)) {q : Int} (h0 : 0 ≤ q) (hq : q < n) : (T.add kind space name d).children.getD q.toNat [] = T.children.getD q.toNat [] := by
  show (T.children ++ [[]]).getD q.toNat [] = _
  rw [getD_snoc, if_pos (by rw [W.c]; omega)]
theorem St.ins (H : St prog w ad bd z u v T stack fmt n) {nm : Str} {d : List (Str × Str)} {q b : Int} {sN : Nat} {tk : Tok} (h0 : 0 ≤ q) (hq : q < n) (R : TAbs prog w ad z u' ((T.add (Str.ofString "element") (Str.ofString "html") nm d).ins q n b)) :
    St prog w ad bd z u' { v with sV := v.sV ++ [.int (n : Nat) tk], sN := sN } ((T.add (Str.ofString "element") (Str.ofString "html") nm d).ins q n b) (stack ++ [(n : Int)]) fmt (n + 1) :=
  ⟨R, ⟨ints_snoc H.B.s, H.B.f⟩, (H.W.add _ _ _ _).ins h0 hq (by omega), kids_ins (kids_add H.K _ _ _ _), fun x hx => by
    rcases List.mem_append.mp hx with hx | hx
    · have := H.hst x hx
      omega
    · rw [List.mem_singleton.mp hx]
      omega, by
    have := H.hl
    simp
    omega⟩
/-- a template element and its contents -/
def Tr.elT (T : Tr) (d : List (Str × Str)) : Tr :=
  { (T.add (Str.ofString "element") (Str.ofString "html") (Str.ofString "template") d).add (Str.ofString "fragment") (Str.ofString "") (Str.ofString "") [] with contents := T.contents ++ [((T.kinds.length : Int), (T.kinds.length : Int) + 1)] }
theorem WF.elT {T : Tr} {n : Nat} (W : WF T n) (d : List (Str × Str)) : WF (T.elT d) (n + 2) := by
  have W2 := (W.add (Str.ofString "element") (Str.ofString "html") (Str.ofString "template") d).add (Str.ofString "fragment") (Str.ofString "") (Str.ofString "") []
  exact ⟨W2.k, W2.sp, W2.nm, W2.a, W2.x, W2.p, W2.c, W2.up⟩
theorem kids_elT {T : Tr} {n : Nat} (h : ∀ c ∈ T.children, c.length ≤ n) (d : List (Str × Str)) : ∀ c ∈ (T.elT d).children, c.length ≤ n :=
  kids_add (kids_add h (Str.ofString "element") (Str.ofString "html") (Str.ofString "template") d) (Str.ofString "fragment") (Str.ofString "") (Str.ofString "") []
theorem elT_par {T : Tr} {n : Nat} (W : WF T n) (d : List (Str × Str)) : (T.elT d).parents.getD ((n : Nat) : Int).toNat 0 = -1 := by
  show ((T.parents ++ [-1]) ++ [-1]).getD n 0 = -1
  rw [getD_snoc, if_pos (by simp [W.p])]
  exact add_par W (Str.ofString "element") (Str.ofString "html") (Str.ofString "template") d
theorem elT_kid {T : Tr} {n : Nat} (W : WF T n) (d : List (Str × Str)) {q : Int} (h0 : 0 ≤ q) (hq : q < n) : (T.elT d).children.getD q.toNat [] = T.children.getD q.toNat [] := by
  show ((T.children ++ [[]]) ++ [[]]).getD q.toNat [] = _
  rw [getD_snoc, if_pos (by simp [W.c]; omega)]
  exact add_kid W (Str.ofString "element") (Str.ofString "html") (Str.ofString "template") d h0 hq
theorem St.insT (H : St prog w ad bd z u v T stack fmt n) {d : List (Str × Str)} {q b : Int} {sN : Nat} {tk : Tok} (h0 : 0 ≤ q) (hq : q < n) (R : TAbs prog w ad z u' ((T.elT d).ins q n b)) :
    St prog w ad bd z u' { v with sV := v.sV ++ [.int (n : Nat) tk], sN := sN } ((T.elT d).ins q n b) (stack ++ [(n : Int)]) fmt (n + 2) :=
  ⟨R, ⟨ints_snoc H.B.s, H.B.f⟩, (H.W.elT _).ins h0 hq (by omega), fun c hc => Nat.le_succ_of_le (kids_ins (kids_elT H.K _) c hc), fun x hx => by
    rcases List.mem_append.mp hx with hx | hx
    · have := H.hst x hx
      omega
    · rw [List.mem_singleton.mp hx]
      omega, by
    have := H.hl
    simp
    omega⟩
end
end
section
/-! loops by an invariant over the frame's map and the ledger -/
def WOut (J : Shared → Prop) (f : Flow) (s : Shared) : Prop :=
  match f with
  | .next => J s
  | _ => False
section
variable {prog : Program} {w : World} {A : Around} {E : Value → Shared → Prop} {s : Shared} {env : Env} {h₀ : Heap} {x : Str} {body : List Stmt} {Q : Flow → Shared → Prop}
theorem whl_to {test : PySem.Expr} {orelse : List Stmt} {pos : Pos} (I : Nat → Shared → Prop) (J : Shared → Prop) (hE : PassesOwn (model prog w) A env E) (k : Nat) (h0 : I k s)
    (step : ∀ k s, I k s → wpAny (model prog w) A (isTrue test env (eval test env)) (fun b s₂ => (b = true → wpAny (model prog w) A (execs body env) (WEnd I k (WOut J)) E s₂) ∧ (b = false → wpAny (model prog w) A (execs orelse env) (WOut J) E s₂)) E s)
    (after : ∀ s, J s → Q .next s) : wpAny (model prog w) A (exec (.While test body orelse pos) env) Q E s :=
  wpAny_mono (whl_inv I hE k h0 step) (fun f s h => by
    cases f with
    | next => exact after s h
    | cont => exact h.elim
    | brk => exact h.elim
    | ret v => exact h.elim) fun _ _ e => e
theorem whl_to0 {test : PySem.Expr} {orelse : List Stmt} {pos : Pos} (I : Nat → Shared → Prop) (hE : PassesOwn (model prog w) A env E) (k : Nat) (h0 : I k s)
    (step : ∀ k s, I k s → wpAny (model prog w) A (isTrue test env (eval test env)) (fun b s₂ => (b = true → wpAny (model prog w) A (execs body env) (WEnd I k (WOut (I 0))) E s₂) ∧ (b = false → wpAny (model prog w) A (execs orelse env) (WOut (I 0)) E s₂)) E s)
    (after : ∀ s, I 0 s → Q .next s) : wpAny (model prog w) A (exec (.While test body orelse pos) env) Q E s := whl_to I (I 0) hE k h0 step after

theorem UnrEnd.mono' {L I : Addr} {it : Obj} {P P' : (Str → Option Value) → List (Addr × Obj) → Prop} {s₂ : Shared} (h : UnrEnd h₀ L s I it P s₂) (hp : ∀ m l, P m l → P' m l) : UnrEnd h₀ L s I it P' s₂ := by
  obtain ⟨h', tk, m', news', e, F, N, o, r⟩ := h
  exact ⟨h', tk, m', news', e, F, N, o, hp _ _ r⟩
theorem unr_to {L I : Addr} {it : Obj} {P P' : (Str → Option Value) → List (Addr × Obj) → Prop} {J : Shared → Prop} {f : Flow} {s₂ : Shared} (h : UnrPost h₀ L s I it P (WOut J) f s₂) (hp : ∀ m l, P m l → P' m l) (after : ∀ s, J s → Q .next s) : UnrPost h₀ L s I it P' Q f s₂ := by
  cases f with
  | next => exact UnrEnd.mono' h hp
  | cont => exact UnrEnd.mono' h hp
  | brk => exact after _ h
  | ret v => exact h.elim
theorem mono_to {t : Sem Flow} (J : Shared → Prop) (h : wpAny (model prog w) A t (WOut J) E s) (after : ∀ s, J s → Q .next s) : wpAny (model prog w) A t Q E s :=
  wpAny_mono h (fun f s h => by
    cases f with
    | next => exact after s h
    | cont => exact h.elim
    | brk => exact h.elim
    | ret v => exact h.elim) fun _ _ e => e
/-- for over a range, by an invariant; J holds behind it -/
theorem rng_to {r : Addr} {a₀ b₀ c : Int} {t₀ u₀ v₀ : Tok} {n : Nat} {m₀ : Str → Option Value} {news : List (Addr × Obj)} (P : Addr → Nat → (Str → Option Value) → List (Addr × Obj) → Prop) (J : Shared → Prop)
    (hh : A.handled = none) (hr : IsRange s.heap r a₀ b₀ c t₀ u₀ v₀) (hsmall : Builtin.Range.small a₀ b₀ c = true) (hn : Builtin.Range.rangeSize a₀ b₀ c = (n : Int)) (F : Fr h₀ env.locals s.heap m₀) (N : News h₀ env.locals s.heap news)
    (h0 : ∀ I : Addr, (∀ p ∈ news, p.1 < I) → P I 0 m₀ news)
    (step : ∀ I i m l, i < n → P I i m l → ∀ t it h tk, Fr h₀ env.locals h (fun y => if y = x then some (.int (a₀ + (i : Int) * c) t) else m y) → News h₀ env.locals h ((I, it) :: l) →
      wpAny (model prog w) A (execs body env) (UnrPost h₀ env.locals { s with heap := h, toks := tk } I it (P I (i + 1)) (WOut J)) E { s with heap := h, toks := tk })
    (done : ∀ I m l h tk, P I n m l → Fr h₀ env.locals h m → News h₀ env.locals h l → J { s with heap := h, toks := tk })
    (after : ∀ s, J s → Q .next s) :
    wpAny (model prog w) A (pyIter (.ref r)) (fun it s₂ => LoopAtV prog w A h₀ env x body Q E it s₂) E s := by
  refine krs_iter hh hr hsmall hn F N fun I hI => ?_
  have all : ∀ k i m l, i + k = n → P I i m l → KrsRest prog w A E h₀ env x body Q s I a₀ c n k i m l := by
    intro k
    induction k with
    | zero =>
      intro i m l e hP
      have e' : i = n := by omega
      subst e'
      exact KrsRest.zero fun h tk F N => after _ (done I m l h tk hP F N)
    | succ k ih =>
      intro i m l e hP
      exact KrsRest.succ rfl fun t h tk F N => wpAny_mono (step I i m l (by omega) hP t _ h tk F N) (fun f s₂ hu => unr_to hu (fun m' l' hP' => ih (i + 1) m' l' (by omega) hP') after) fun _ _ e => e
  exact all n 0 m₀ news (by omega) (h0 I hI)
/-- for over a list of the ledger, by an invariant -/
theorem lst_to {ax : Addr} {lo : Obj} {vs : List Value} {n : Nat} {m₀ : Str → Option Value} {news : List (Addr × Obj)} (P : Addr → Nat → (Str → Option Value) → List (Addr × Obj) → Prop) (J : Shared → Prop)
    (hh : A.handled = none) (F : Fr h₀ env.locals s.heap m₀) (N : News h₀ env.locals s.heap news) (hm : (ax, lo) ∈ news) (hc : lo.cls = .type "list") (hd : lo.data = .seq vs.toArray n)
    (h0 : ∀ I : Addr, (∀ p ∈ news, p.1 < I) → P I 0 m₀ news)
    (step : ∀ I i m l v, vs[i]? = some v → P I i m l → ∀ it h tk, it.cls = .type "list_iterator" → Fr h₀ env.locals h (fun y => if y = x then some v else m y) → News h₀ env.locals h ((I, it) :: l) →
      wpAny (model prog w) A (execs body env) (UnrPost h₀ env.locals { s with heap := h, toks := tk } I it (fun m' n' => (ax, lo) ∈ n' ∧ P I (i + 1) m' n') (WOut J)) E { s with heap := h, toks := tk })
    (done : ∀ I m l h tk, P I vs.length m l → Fr h₀ env.locals h m → News h₀ env.locals h l → J { s with heap := h, toks := tk })
    (after : ∀ s, J s → Q .next s) :
    wpAny (model prog w) A (pyIter (.ref ax)) (fun it s₂ => LoopAtV prog w A h₀ env x body Q E it s₂) E s := by
  refine iter_listUnr hh F N hm hc hd fun I hI => ?_
  have all : ∀ (vs' : List Value) i m l, vs.drop i = vs' → i ≤ vs.length → P I i m l → ListRest prog w A E h₀ env x body Q s I (ax, lo) vs' m l := by
    intro vs'
    induction vs' with
    | nil =>
      intro i m l e hi hP
      have e' : i = vs.length := by
        have := congrArg List.length e
        rw [List.length_drop, List.length_nil] at this
        omega
      subst e'
      exact ListRest.zero fun h tk F N => after _ (done I m l h tk hP F N)
    | cons v vs' ih =>
      intro i m l e hi hP
      have hlt : i < vs.length := by
        have := congrArg List.length e
        rw [List.length_drop, List.length_cons] at this
        omega
      have hv : vs[i]? = some v := by
        have := congrArg (fun l => l[0]?) e
        simpa using this
      exact ListRest.succ fun it h tk hc F N => wpAny_mono (step I i m l v hv hP it h tk hc F N) (fun f s₂ hu => unr_to hu (fun m' l' hP' => ⟨hP'.1, ih (i + 1) m' l' (by
        rw [← List.tail_drop, e]
        rfl) hlt hP'.2⟩) after) fun _ _ e => e
  exact all vs 0 m₀ news rfl (Nat.zero_le _) (h0 I hI)
/-- the end of a turn -/
theorem turn_end {L I : Addr} {it : Obj} {P : (Str → Option Value) → List (Addr × Obj) → Prop} {s₁ : Shared} {h' : Heap} {tk : Nat} {m' : Str → Option Value} {all l : List (Addr × Obj)} (F : Fr h₀ L h' m') (N : News h₀ L h' all) (hI : (I, it) ∈ all) (sub : ∀ p ∈ l, p ∈ all) (off : ∀ p ∈ l, p.1 ≠ I) (hP : P m' l) :
    UnrEnd h₀ L s₁ I it P { s₁ with heap := h', toks := tk } :=
  UnrEnd.intro F N l (fun p hp => by
    rcases List.mem_cons.mp hp with rfl | hp
    · exact hI
    · exact sub p hp) off hP
end
theorem allLt_ne {d X : Addr} {r : Led} (h : AllLt d r) (hx : @LE.le Nat _ d X) : ∀ p ∈ r, p.1 ≠ X := by
  induction r with
  | nil => exact fun p hp => nomatch hp
  | cons q r ih =>
    intro p hp
    rcases List.mem_cons.mp hp with rfl | hp
    · exact Nat.ne_of_lt (Nat.lt_of_lt_of_le h.1 hx)
    · exact ih h.2 p hp
theorem allLt_mem {d : Addr} {r : Led} (h : AllLt d r) : ∀ p ∈ r, @LT.lt Nat _ p.1 d := by
  induction r with
  | nil => exact fun p hp => nomatch hp
  | cons q r ih =>
    intro p hp
    rcases List.mem_cons.mp hp with rfl | hp
    · exact h.1
    · exact ih h.2 p hp
end
section
def Tr.nil : Tr := { kinds := [], spaces := [], names := [], attrs := [], texts := [], parents := [], children := [], contents := [] }
section
variable {prog : Program} {w : World} {g h : Heap} {L : Addr} {R r z : Led} {P : Params}
theorem pw_cons {a b : Nat} {l : List Nat} (h : a < b) (k : (b :: l).Pairwise (· < ·)) : (a :: b :: l).Pairwise (· < ·) :=
  .cons (fun c hc => (List.mem_cons.mp hc).elim (fun e => e ▸ h) fun hc => Nat.lt_trans h (List.rel_of_pairwise_cons k hc)) k
theorem pw_one {a : Nat} : [a].Pairwise (· < ·) := List.pairwise_singleton _ _
theorem asc_le {a x : Nat} {l : List Nat} (h : (a :: l).Pairwise (· < ·)) (hx : x ∈ a :: l) : a ≤ x := (List.mem_cons.mp hx).elim (fun e => e ▸ Nat.le_refl _) fun hx => Nat.le_of_lt (List.rel_of_pairwise_cons h hx)
theorem asc_nd {l : List Nat} (h : l.Pairwise (· < ·)) : l.Nodup := h.imp Nat.ne_of_lt
theorem asc_sep {l R : Led} {a : Nat} {ks : List Nat} (hk : List.Perm (keys l) (a :: ks)) (h : (a :: ks).Pairwise (· < ·)) (hR : ∀ p ∈ R, @LT.lt Nat _ p.1 a) : Sep l R :=
  ⟨hk.nodup_iff.mpr (asc_nd h), fun p hp q hq => Nat.ne_of_gt (Nat.lt_of_lt_of_le (hR q hq) (asc_le h (hk.mem_iff.mp (List.mem_map.mpr ⟨p, hp, rfl⟩))))⟩
theorem tree_start {t td kI spI nI aI xI pI cI coI : Addr} {k0 k1 k2 k3 k4 k5 k6 k7 : Tok} {oC : Obj}
    (N : News g L h ((coI, oC) :: (cI, listOf #[] 0) :: (pI, listOf #[] 0) :: (xI, listOf #[] 0) :: (aI, listOf #[] 0) :: (nI, listOf #[] 0) :: (spI, listOf #[] 0) :: (kI, listOf #[] 0) :: (t, instObj 408 td) ::
      (td, dictOf [⟨PyData.keyHash P "kinds", .str "kinds" k0, .ref kI⟩, ⟨PyData.keyHash P "spaces", .str "spaces" k1, .ref spI⟩, ⟨PyData.keyHash P "names", .str "names" k2, .ref nI⟩, ⟨PyData.keyHash P "attrs", .str "attrs" k3, .ref aI⟩,
        ⟨PyData.keyHash P "texts", .str "texts" k4, .ref xI⟩, ⟨PyData.keyHash P "parents", .str "parents" k5, .ref pI⟩, ⟨PyData.keyHash P "children", .str "children" k6, .ref cI⟩, ⟨PyData.keyHash P "contents", .str "contents" k7, .ref coI⟩] 8) :: R))
    (lo : (coI == sysModules) = false) (co : oC.IsDictOf (intKind prog w) ([] : List (Int × Value)))
    (hR : ∀ p ∈ R, @LT.lt Nat _ p.1 td) (h1 : @LT.lt Nat _ td t) (h2 : @LT.lt Nat _ t kI) (h3 : @LT.lt Nat _ kI spI) (h4 : @LT.lt Nat _ spI nI) (h5 : @LT.lt Nat _ nI aI) (h6 : @LT.lt Nat _ aI xI) (h7 : @LT.lt Nat _ xI pI) (h8 : @LT.lt Nat _ pI cI) (h9 : @LT.lt Nat _ cI coI) :
    ∃ u : TRaw, News g L h (u.led P ⟨t, td, kI, spI, nI, aI, xI, pI, cI, coI⟩ ++ R) ∧ Sep (u.led P ⟨t, td, kI, spI, nI, aI, xI, pI, cI, coI⟩) R ∧ TAbs prog w ⟨t, td, kI, spI, nI, aI, xI, pI, cI, coI⟩ z u Tr.nil ∧ Small u 0 := by
  refine ⟨⟨fun i => [k0, k1, k2, k3, k4, k5, k6, k7].getD i 0, [], [], [], [], [], 0, 0, 0, 0, 0, 0, 0, oC, [], []⟩, News.sub N ?_, ?_, ⟨lo, ⟨[], co, .nil⟩, .nil, .nil, .nil, .nil, .nil, .nil, .nil⟩, ⟨by simp, by simp, by simp, by simp, by simp, by simp, by simp⟩⟩
  · refine sub_a (sub_c ?_ (sub_c ?_ (sub_c ?_ (sub_c ?_ (sub_c ?_ (sub_c ?_ (sub_c ?_ (sub_c ?_ (sub_c ?_ (sub_c ?_ sub_n)))))))))) (fun p hp => ?_)
    all_goals (repeat (first | exact .head _ | exact hp | refine .tail _ ?_))
  · exact asc_sep (.swap _ _ _) (pw_cons h1 (pw_cons h2 (pw_cons h3 (pw_cons h4 (pw_cons h5 (pw_cons h6 (pw_cons h7 (pw_cons h8 (pw_cons h9 pw_one))))))))) hR
theorem lt_mem {d X : Addr} {r : Led} (h : ∀ p ∈ r, @LT.lt Nat _ p.1 d) (hx : @LE.le Nat _ d X) : ∀ p ∈ r, @LT.lt Nat _ p.1 X := fun p hp => Nat.lt_of_lt_of_le (h p hp) hx
theorem lt_ne {d X : Addr} {r : Led} (h : ∀ p ∈ r, @LT.lt Nat _ p.1 d) (hx : @LE.le Nat _ d X) : ∀ p ∈ r, p.1 ≠ X := fun p hp => Nat.ne_of_lt (lt_mem h hx p hp)
theorem off_of {l : Led} {x d : Addr} {o1 o2 : Obj} (S : Sep l ((x, o1) :: (d, o2) :: r)) (h : ∀ p ∈ r, p.1 ≠ d) : ∀ p ∈ r ++ l, p.1 ≠ d := fun p hp => (List.mem_append.mp hp).elim (h p) fun hp => S.off p hp (d, o2) (.tail _ (.head _))
theorem builder_start {l₁ : Led} {ad : TAd} {b bdd st sd sI fm fd fI eI t a1 a2 a3 : Addr} {k0 k1 k2 k3 k4 k5 k6 k7 k8 k9 k10 k11 k12 k13 k14 k15 k16 k17 k18 k19 k20 k21 k22 k23 k24 k25 : Tok} {y0 y1 y2 y3 y4 y5 y6 y7 y8 y9 y10 y11 y12 y13 y14 : Value} {o1 o2 o3 o4 o5 : Obj} {mo : Str} {fo : Bool}
    (N : News g L h ((a1, o1) :: (eI, listOf #[] 0) :: (a2, o2) :: (a3, o3) :: (fI, listOf #[] 0) :: (fm, instObj 179 fd) :: (fd, dictOf [⟨PyData.keyHash P "tree", .str "tree" k23, .ref t⟩, ⟨PyData.keyHash P "items", .str "items" k24, .ref fI⟩] 2) ::
      (sI, listOf #[] 0) :: (st, instObj 291 sd) :: (sd, dictOf [⟨PyData.keyHash P "tree", .str "tree" k21, .ref t⟩, ⟨PyData.keyHash P "items", .str "items" k22, .ref sI⟩] 2) :: (b, instObj 486 bdd) ::
      (bdd, dictOf [⟨PyData.keyHash P "rules", .str "rules" k0, y0⟩, ⟨PyData.keyHash P "tree", .str "tree" k1, .ref t⟩, ⟨PyData.keyHash P "stack", .str "stack" k2, .ref st⟩, ⟨PyData.keyHash P "formatting", .str "formatting" k3, .ref fm⟩, ⟨PyData.keyHash P "mode", .str "mode" k4, .str mo k25⟩, ⟨PyData.keyHash P "original", .str "original" k5, y1⟩, ⟨PyData.keyHash P "modes", .str "modes" k6, y2⟩, ⟨PyData.keyHash P "head", .str "head" k7, y3⟩, ⟨PyData.keyHash P "form", .str "form" k8, y4⟩, ⟨PyData.keyHash P "owners", .str "owners" k9, y5⟩, ⟨PyData.keyHash P "is_frameset_ok", .str "is_frameset_ok" k10, y6⟩, ⟨PyData.keyHash P "is_scripting", .str "is_scripting" k11, y7⟩, ⟨PyData.keyHash P "is_foster", .str "is_foster" k12, .bool fo⟩, ⟨PyData.keyHash P "context", .str "context" k13, y8⟩, ⟨PyData.keyHash P "quirks", .str "quirks" k14, y9⟩, ⟨PyData.keyHash P "errors", .str "errors" k15, .ref eI⟩, ⟨PyData.keyHash P "pending", .str "pending" k16, y10⟩, ⟨PyData.keyHash P "wish", .str "wish" k17, y11⟩, ⟨PyData.keyHash P "is_skipping", .str "is_skipping" k18, y12⟩, ⟨PyData.keyHash P "is_acknowledged", .str "is_acknowledged" k19, y13⟩, ⟨PyData.keyHash P "is_done", .str "is_done" k20, y14⟩] 21) :: (r ++ l₁))) (ht : t = ad.t)
    (S : Sep l₁ ((b, o4) :: (bdd, o5) :: r)) (hr : ∀ p ∈ r, @LT.lt Nat _ p.1 bdd) (hl : ∀ p ∈ r ++ l₁, @LT.lt Nat _ p.1 sd)
    (h1 : @LT.lt Nat _ bdd b) (h2 : @LT.lt Nat _ b sd) (h3 : @LT.lt Nat _ sd st) (h4 : @LT.lt Nat _ st sI) (h5 : @LT.lt Nat _ sI fd) (h6 : @LT.lt Nat _ fd fm) (h7 : @LT.lt Nat _ fm fI) (h8 : @LT.lt Nat _ fI eI) :
    ∃ v : BRaw, News g L h (v.led P ad ⟨b, bdd, st, sd, sI, fm, fd, fI, eI⟩ ++ (l₁ ++ r)) ∧ Sep2 (v.led P ad ⟨b, bdd, st, sd, sI, fm, fd, fI, eI⟩) l₁ r ∧ BAbs v [] [] ∧ v.foster = fo ∧ v.mode = mo := by
  subst ht
  let v : BRaw := ⟨fun i => [k0, k1, k2, k3, k4, k5, k6, k7, k8, k9, k10, k11, k12, k13, k14, k15, k16, k17, k18, k19, k20, k21, k22, k23, k24].getD i 0, fun i => [y0, y1, y2, y3, y4, y5, y6, y7, y8, y9, y10, y11, y12, y13, y14].getD i .none, mo, k25, fo, [], [], 0, 0, 0⟩
  have hk : keys (v.led P ad ⟨b, bdd, st, sd, sI, fm, fd, fI, eI⟩) = [b, bdd, st, sd, sI, fm, fd, fI, eI] := rfl
  have P7 := pw_cons h3 (pw_cons h4 (pw_cons h5 (pw_cons h6 (pw_cons h7 (pw_cons h8 pw_one)))))
  have pm7 : List.Perm [st, sd, sI, fm, fd, fI, eI] [sd, st, sI, fd, fm, fI, eI] := .swap' _ _ (.cons _ (.swap _ _ _))
  have off : ∀ p ∈ v.led P ad ⟨b, bdd, st, sd, sI, fm, fd, fI, eI⟩, ∀ q ∈ l₁ ++ r, p.1 ≠ q.1 := by
    intro p hp q hq
    have hp' : p.1 ∈ [b, bdd, st, sd, sI, fm, fd, fI, eI] := hk ▸ List.mem_map.mpr ⟨p, hp, rfl⟩
    have hq' : @LT.lt Nat _ q.1 sd := hl q (List.mem_append.mpr (List.mem_append.mp hq).symm)
    have hb : b ≠ q.1 ∧ bdd ≠ q.1 := by
      rcases List.mem_append.mp hq with hq | hq
      · exact ⟨Ne.symm (S.off q hq _ (.head _)), Ne.symm (S.off q hq _ (.tail _ (.head _)))⟩
      · have := hr q hq
        exact ⟨neN (by omega), neN (by omega)⟩
    rcases List.mem_cons.mp hp' with e | hp'
    · exact e ▸ hb.1
    rcases List.mem_cons.mp hp' with e | hp'
    · exact e ▸ hb.2
    exact Nat.ne_of_gt (Nat.lt_of_lt_of_le hq' (asc_le P7 (pm7.mem_iff.mp hp')))
  refine ⟨v, News.sub N ?_, ⟨⟨?_, off⟩, ⟨S.nd, fun p hp q hq => ?_⟩⟩, ⟨.nil, .nil⟩, rfl, rfl⟩
  · refine sub_a (sub_c ?_ (sub_c ?_ (sub_c ?_ (sub_c ?_ (sub_c ?_ (sub_c ?_ (sub_c ?_ (sub_c ?_ (sub_c ?_ sub_n))))))))) (sub_a (fun p hp => ?_) (fun p hp => ?_))
    all_goals (repeat (first | exact .head _ | exact List.mem_append_right _ hp | exact List.mem_append_left _ hp | refine .tail _ ?_))
  · rw [hk]
    exact (List.Perm.swap' _ _ pm7).nodup_iff.mpr (asc_nd (pw_cons h1 (pw_cons h2 P7)))
  · rcases List.mem_append.mp hq with hq | hq
    · exact Ne.symm (off q hq p (List.mem_append_left _ hp))
    · exact S.off p hp q (.tail _ (.tail _ hq))

end
end
section
/-! the law's own three lists -/
structure LAd where
  oI : Addr
  lI : Addr
  rI : Addr
structure LRaw where
  oV : List Value
  lV : List Value
  rV : List Value
  oN : Nat
  lN : Nat
  rN : Nat
def LRaw.led (la : LAd) (x : LRaw) : Led := [(la.oI, lsOf x.oV x.oN), (la.lI, lsOf x.lV x.lN), (la.rI, lsOf x.rV x.rN)]
structure Sep3 (l₁ l₂ l₃ r : Led) : Prop where
  two : Sep2 l₁ l₂ (l₃ ++ r)
  three : Sep l₃ r
section
variable {l₁ l₂ l₃ l₁' l₂' l₃' r r' : Led}
theorem Sep.of_keysR {l : Led} (S : Sep l r) (h : keys r' = keys r) : Sep l r' := ⟨S.nd, fun p hp q hq e => by
  have : q.1 ∈ keys r' := List.mem_map.mpr ⟨q, hq, rfl⟩
  rw [h] at this
  obtain ⟨q', hq', e'⟩ := List.mem_map.mp this
  exact S.off p hp q' hq' (e.trans e'.symm)⟩
theorem Sep2.of_keysR (S : Sep2 l₁ l₂ r) (h : keys r' = keys r) : Sep2 l₁ l₂ r' :=
  ⟨S.one.of_keysR (by simp only [keys, List.map_append] at h ⊢; rw [h]), S.two.of_keysR (by simp only [keys, List.map_append] at h ⊢; rw [h])⟩
theorem Sep3.upd (S : Sep3 l₁ l₂ l₃ r) (h : keys l₃' = keys l₃) : Sep3 l₁ l₂ l₃' r :=
  ⟨S.two.of_keysR (by simp only [keys, List.map_append] at h ⊢; rw [h]), S.three.of_keys h⟩
theorem Sep3.of (S : Sep3 l₁ l₂ l₃ r) (T : Sep2 l₁' l₂' (l₃ ++ r)) : Sep3 l₁' l₂' l₃ r := ⟨T, S.three⟩
theorem Sep3.own (S : Sep3 l₁ l₂ l₃ r) : Sep l₃ (l₁ ++ (l₂ ++ r)) := ⟨S.three.nd, fun p hp q hq => by
  rcases List.mem_append.mp hq with hq | hq
  · exact fun e => S.two.one.off q hq p (List.mem_append_right _ (List.mem_append_left _ hp)) e.symm
  · rcases List.mem_append.mp hq with hq | hq
    · exact fun e => S.two.two.off q hq p (List.mem_append_right _ (List.mem_append_left _ hp)) e.symm
    · exact S.three.off p hp q hq⟩
theorem Sep3.fresh {a : Addr} {o : Obj} (S : Sep3 l₁ l₂ l₃ r) (ha : ∀ p ∈ l₁ ++ (l₂ ++ (l₃ ++ r)), p.1 < a) : Sep3 l₁ l₂ l₃ ((a, o) :: r) :=
  ⟨(S.two.fresh (o := o) ha).sub (fun q hq => by
    simp only [List.mem_append, List.mem_cons] at hq ⊢
    rcases hq with hq | hq | hq <;> simp [hq]), S.three.fresh fun p hp => ha p (by
    simp only [List.mem_append] at hp ⊢
    rcases hp with hp | hp <;> simp [hp])⟩
theorem Sep3.sub (S : Sep3 l₁ l₂ l₃ r) (h : ∀ q ∈ r', q ∈ r) : Sep3 l₁ l₂ l₃ r' :=
  ⟨S.two.sub fun q hq => (List.mem_append.mp hq).elim (fun z => List.mem_append_left _ z) fun z => List.mem_append_right _ (h q z), S.three.nd, fun p hp q hq => S.three.off p hp q (h q hq)⟩
theorem upd_a (S : Sep2 l₁ l₂ (l₃ ++ r)) (T : Sep l₃ r) (h : keys l₃' = keys l₃) : Sep2 l₁ l₂ (l₃' ++ r) := (Sep3.upd ⟨S, T⟩ h).two
theorem perm3 : ∀ q, q ∈ l₃ ++ (l₁ ++ (l₂ ++ r)) ↔ q ∈ l₁ ++ (l₂ ++ (l₃ ++ r)) := fun q => by
  simp only [List.mem_append]
  constructor <;> (intro h; rcases h with h | h | h | h <;> simp [h])
end
section
variable {prog : Program} {w : World} {A : Around} {E : Value → Shared → Prop} {s : Shared} {g : Heap} {L : Addr} {m : Str → Option Value} {r : Led} {ad : TAd} {bd : BAd} {la : LAd} {u : TRaw} {v : BRaw} {x : LRaw} {y : Value} {Q : Value → Shared → Prop} {l₁ l₂ : Led}
theorem app_oI (F : Fr g L s.heap m) (N : News g L s.heap (l₁ ++ (l₂ ++ (x.led la ++ r)))) (S : Sep2 l₁ l₂ (x.led la ++ r)) (T : Sep (x.led la) r) (hz : x.oV.length ≤ 1000)
    (h : ∀ h', Fr g L h' m → News g L h' (l₁ ++ (l₂ ++ (({ x with oV := x.oV ++ [y], oN := x.oN + 1 } : LRaw).led la ++ r))) → Sep2 l₁ l₂ (({ x with oV := x.oV ++ [y], oN := x.oN + 1 } : LRaw).led la ++ r) → Sep (({ x with oV := x.oV ++ [y], oN := x.oN + 1 } : LRaw).led la) r → Q .none { s with heap := h' }) :
    wpAny (model prog w) A (call (.builtin "list.append") [.ref la.oI, y]) Q E s :=
  led_append 0 F (News.sub N fun q hq => (perm3 q).mp hq) (Sep3.mk S T).own rfl rfl hz fun h' F' N' _ => h h' F' (News.sub N' fun q hq => (perm3 q).mpr hq) (upd_a S T rfl) (T.of_keys rfl)
theorem app_lI (F : Fr g L s.heap m) (N : News g L s.heap (l₁ ++ (l₂ ++ (x.led la ++ r)))) (S : Sep2 l₁ l₂ (x.led la ++ r)) (T : Sep (x.led la) r) (hz : x.lV.length ≤ 1000)
    (h : ∀ h', Fr g L h' m → News g L h' (l₁ ++ (l₂ ++ (({ x with lV := x.lV ++ [y], lN := x.lN + 1 } : LRaw).led la ++ r))) → Sep2 l₁ l₂ (({ x with lV := x.lV ++ [y], lN := x.lN + 1 } : LRaw).led la ++ r) → Sep (({ x with lV := x.lV ++ [y], lN := x.lN + 1 } : LRaw).led la) r → Q .none { s with heap := h' }) :
    wpAny (model prog w) A (call (.builtin "list.append") [.ref la.lI, y]) Q E s :=
  led_append 1 F (News.sub N fun q hq => (perm3 q).mp hq) (Sep3.mk S T).own rfl rfl hz fun h' F' N' _ => h h' F' (News.sub N' fun q hq => (perm3 q).mpr hq) (upd_a S T rfl) (T.of_keys rfl)
theorem app_rI (F : Fr g L s.heap m) (N : News g L s.heap (l₁ ++ (l₂ ++ (x.led la ++ r)))) (S : Sep2 l₁ l₂ (x.led la ++ r)) (T : Sep (x.led la) r) (hz : x.rV.length ≤ 1000)
    (h : ∀ h', Fr g L h' m → News g L h' (l₁ ++ (l₂ ++ (({ x with rV := x.rV ++ [y], rN := x.rN + 1 } : LRaw).led la ++ r))) → Sep2 l₁ l₂ (({ x with rV := x.rV ++ [y], rN := x.rN + 1 } : LRaw).led la ++ r) → Sep (({ x with rV := x.rV ++ [y], rN := x.rN + 1 } : LRaw).led la) r → Q .none { s with heap := h' }) :
    wpAny (model prog w) A (call (.builtin "list.append") [.ref la.rI, y]) Q E s :=
  led_append 2 F (News.sub N fun q hq => (perm3 q).mp hq) (Sep3.mk S T).own rfl rfl hz fun h' F' N' _ => h h' F' (News.sub N' fun q hq => (perm3 q).mpr hq) (upd_a S T rfl) (T.of_keys rfl)
theorem rem_oI {ns : List Int} {i : Int} {t : Tok} (hi : IntsAre x.oV ns) (hm : i ∈ ns) (F : Fr g L s.heap m) (N : News g L s.heap (l₁ ++ (l₂ ++ (x.led la ++ r)))) (S : Sep2 l₁ l₂ (x.led la ++ r)) (T : Sep (x.led la) r) (hz : x.oV.length ≤ 1000)
    (h : ∀ vs n' h', IntsAre vs (ns.erase i) → Fr g L h' m → News g L h' (l₁ ++ (l₂ ++ (({ x with oV := vs, oN := n' } : LRaw).led la ++ r))) → Sep2 l₁ l₂ (({ x with oV := vs, oN := n' } : LRaw).led la ++ r) → Sep (({ x with oV := vs, oN := n' } : LRaw).led la) r → Q .none { s with heap := h' }) :
    wpAny (model prog w) A (call (.builtin "list.remove") [.ref la.oI, .int i t]) Q E s :=
  led_remove 0 F (News.sub N fun q hq => (perm3 q).mp hq) (Sep3.mk S T).own rfl hi hm hz fun vs n' h' hv F' N' _ => h vs n' h' hv F' (News.sub N' fun q hq => (perm3 q).mpr hq) (upd_a S T rfl) (T.of_keys rfl)
theorem new_tuple3 {vs : List Value} (F : Fr g L s.heap m) (N : News g L s.heap (l₁ ++ (l₂ ++ (x.led la ++ r)))) (S : Sep2 l₁ l₂ (x.led la ++ r)) (T : Sep (x.led la) r) (hz : vs.length ≤ 1000)
    (h : ∀ D h', Fr g L h' m → News g L h' (l₁ ++ (l₂ ++ (x.led la ++ (D, tupOf vs 0) :: r))) → Sep2 l₁ l₂ (x.led la ++ (D, tupOf vs 0) :: r) → Sep (x.led la) ((D, tupOf vs 0) :: r) → (∀ q ∈ r, D ≠ q.1) → Q (.ref D) { s with heap := h' }) :
    wpAny (model prog w) A (newTuple vs) Q E s :=
  newTuple_N F N (fun h' F' N' => h _ h' F' (News.sub N' fun q hq => by
    simp only [List.mem_append, List.mem_cons] at hq ⊢
    rcases hq with hq | hq | hq | hq | hq <;> simp [hq]) ((Sep3.mk S T).fresh fun p hp => Heap.lt_size (N p hp).1).two ((Sep3.mk S T).fresh fun p hp => Heap.lt_size (N p hp).1).three fun q hq => Ne.symm (Nat.ne_of_lt (Heap.lt_size (N q (by simp [hq])).1))) (by rw [sizeLine_eq]; omega)
end
section
variable {prog : Program} {w : World} {A : Around} {E : Value → Shared → Prop} {s : Shared} {g : Heap} {L D : Addr} {l : Led}
theorem tup_strs {value slice : PySem.Expr} {vs : List Value} {ys : List Str} {n : Nat} {k : Int} {u : Tok} {Q : Value → Shared → Prop} (N : News g L s.heap l) (hm : (D, tupOf vs n) ∈ l) (hi : StrsAre vs ys) (h0 : 0 ≤ k) (hk : k < ys.length) (hz : ys.length ≤ 100) (h : ∀ nm t, nm = ys.getD k.toNat (Str.ofString "") → Q (.str nm t) s)
    (hs : subscripted slice false (.ref D) (.int k u) = operate [.ref D, .int k u] (getItem (.ref D) (.int k u)) := by with_unfolding_all rfl) :
    wpAny (model prog w) A (subscriptTail value slice (.ref D) (.int k u)) Q E s := by
  obtain ⟨t, ht⟩ := strs_at hi (k := k.toNat) (by omega)
  exact tup_at N hm h0 (by omega) ht (h _ t rfl) hs
theorem add_tup3 {m : Str → Option Value} {l₁ l₂ r : Led} {la : LAd} {x : LRaw} {a b : Addr} {vs ws : List Value} {na nb : Nat} {Q : Value → Shared → Prop} (F : Fr g L s.heap m) (N : News g L s.heap (l₁ ++ (l₂ ++ (x.led la ++ r)))) (S : Sep2 l₁ l₂ (x.led la ++ r)) (T : Sep (x.led la) r)
    (ha : (a, tupOf vs na) ∈ l₁ ++ (l₂ ++ (x.led la ++ r))) (hb : (b, tupOf ws nb) ∈ l₁ ++ (l₂ ++ (x.led la ++ r))) (hv : vs ≠ []) (hw : ws ≠ []) (hz : vs.length + ws.length ≤ 1000)
    (h : ∀ D h', Fr g L h' m → News g L h' (l₁ ++ (l₂ ++ (x.led la ++ (D, tupOf (vs ++ ws) 0) :: r))) → Sep2 l₁ l₂ (x.led la ++ (D, tupOf (vs ++ ws) 0) :: r) → Sep (x.led la) ((D, tupOf (vs ++ ws) 0) :: r) → Q (.ref D) { s with heap := h' }) :
    wpAny (model prog w) A (binaryOp .Add (.ref a) (.ref b)) Q E s :=
  add_tuples F N (N.isTup ha) (N.isTup hb) (fun e => absurd e hv) (fun _ e => absurd e hw) (fun _ _ h' F' N' => h _ h' F' (News.sub N' fun q hq => by
    simp only [List.mem_append, List.mem_cons] at hq ⊢
    rcases hq with hq | hq | hq | hq | hq <;> simp [hq]) ((Sep3.mk S T).fresh fun p hp => Heap.lt_size (N p hp).1).two ((Sep3.mk S T).fresh fun p hp => Heap.lt_size (N p hp).1).three) (by rw [sizeLine_eq]; omega)
theorem in_tup_ints {vs : List Value} {ns : List Int} {n : Nat} {x : Int} {u : Tok} {Q : Value → Shared → Prop} (N : News g L s.heap l) (hm : (D, tupOf vs n) ∈ l) (hi : IntsAre vs ns) (h : Q (.bool (decide (x ∈ ns))) s) :
    wpAny (model prog w) A (compareOp .In (.int x u) (.ref D)) Q E s :=
  SeqAt.in_tupleAt (isInt x) (N.isTup hm) (fun y hy => (eq_isInt x u hi y (by simpa using hy)).at _ _) (by
    rw [← Array.any_toList, show vs.toArray.toList = vs from rfl, any_isInt x hi, show ns.any (· == x) = decide (x ∈ ns) by rw [Bool.eq_iff_iff]; simp]
    exact h)
theorem tup_ref {value slice : PySem.Expr} {vs : List Value} {n : Nat} {k : Int} {u : Tok} {y : Value} {Q : Value → Shared → Prop} (N : News g L s.heap l) (hm : (D, tupOf vs n) ∈ l) (h0 : 0 ≤ k) (hk : k < 1000) (hx : vs[k.toNat]? = some y) (h : Q y s)
    (hs : subscripted slice false (.ref D) (.int k u) = operate [.ref D, .int k u] (getItem (.ref D) (.int k u)) := by with_unfolding_all rfl) :
    wpAny (model prog w) A (subscriptTail value slice (.ref D) (.int k u)) Q E s := tup_at N hm h0 hk hx h hs
end
abbrev Ent := Int × Str × List (Str × Str)
inductive RowAre (P : Params) (z : Led) : List Value → List Ent → Prop
  | nil : RowAre P z [] []
  | cons {a b : Addr} {i : Int} {t tn : Tok} {nm : Str} {n : Nat} {vs xs : List Value} {d : List (Str × Str)} {es : List Ent} : (a, tupOf [.int i t, .str nm tn, .ref b] n) ∈ z → TupIn P z b vs → PairsAre z vs d → RowAre P z xs es → RowAre P z (.ref a :: xs) ((i, nm, d) :: es)
theorem PairsAre.mono {z z' : Led} {vs : List Value} {d : List (Str × Str)} (h : PairsAre z vs d) (hs : ∀ q ∈ z, q ∈ z') : PairsAre z' vs d := by
  induction h with
  | nil => exact .nil
  | cons hm _ ih => exact .cons (hs _ hm) ih
theorem AttrsAre.mono {z z' l : Led} {ds : List (List (Str × Str))} (h : AttrsAre z l ds) (hs : ∀ q ∈ z, q ∈ z') : AttrsAre z' l ds := by
  induction h with
  | nil => exact .nil
  | cons hp _ ih => exact .cons (hp.mono hs) ih
theorem TAbs.mono {prog : Program} {w : World} {ad : TAd} {z z' : Led} {u : TRaw} {T : Tr} (R : TAbs prog w ad z u T) (hs : ∀ q ∈ z, q ∈ z') : TAbs prog w ad z' u T := ⟨R.lo, R.co, R.k, R.sp, R.n, R.a.mono hs, R.x, R.p, R.c⟩
theorem St.mono {prog : Program} {w : World} {ad : TAd} {bd : BAd} {z z' : Led} {u : TRaw} {v : BRaw} {T : Tr} {stack fmt : List Int} {n : Nat} (H : St prog w ad bd z u v T stack fmt n) (hs : ∀ q ∈ z, q ∈ z') : St prog w ad bd z' u v T stack fmt n := ⟨H.R.mono hs, H.B, H.W, H.K, H.hst, H.hl⟩
theorem RowAre.mono {P : Params} {z z' : Led} {xs : List Value} {es : List Ent} (h : RowAre P z xs es) (hs : ∀ q ∈ z, q ∈ z') : RowAre P z' xs es := by
  induction h with
  | nil => exact .nil
  | cons h1 h2 h3 _ ih => exact .cons (hs _ h1) (h2.mono hs) (h3.mono hs) ih
theorem RowAre.snoc {P : Params} {z : Led} {xs : List Value} {es : List Ent} {a b : Addr} {i : Int} {t tn : Tok} {nm : Str} {n : Nat} {vs : List Value} {d : List (Str × Str)} (h : RowAre P z xs es) (h1 : (a, tupOf [.int i t, .str nm tn, .ref b] n) ∈ z) (h2 : TupIn P z b vs) (h3 : PairsAre z vs d) :
    RowAre P z (xs ++ [.ref a]) (es ++ [(i, nm, d)]) := by
  induction h with
  | nil => exact .cons h1 h2 h3 .nil
  | cons a b c _ ih => exact .cons a b c ih
theorem RowAre.length {P : Params} {z : Led} {xs : List Value} {es : List Ent} (h : RowAre P z xs es) : xs.length = es.length := by
  induction h with
  | nil => rfl
  | cons _ _ _ _ ih => rw [List.length_cons, List.length_cons, ih]

/-! the scene between the steps -/
def txt (k : Nat) : Str := Str.ofString (toString (k : Int))
structure Sc (prog : Program) (w : World) (ad : TAd) (bd : BAd) (la : LAd) (z r : Led) (u : TRaw) (v : BRaw) (x : LRaw) (T : Tr) (stack fmt late : List Int) (row : List Ent) (n : Nat) : Prop where
  S2 : Sep2 (v.led w.params ad bd) (u.led w.params ad) (x.led la ++ r)
  S3 : Sep (x.led la) r
  H : St prog w ad bd z u v T stack fmt n
  o : IntsAre x.oV stack
  l : IntsAre x.lV late
  rw : RowAre w.params z x.rV row
  zr : ∀ q ∈ z, q ∈ r
  fo : v.foster = false
  mo : v.mode = Str.ofString "in body"
def EntOk (T : Tr) (n k : Nat) (e : Ent) : Prop := e.1 = -1 ∨ (4 ≤ e.1 ∧ e.1 < n ∧ T.names.getD e.1.toNat (Str.ofString "") = e.2.1 ∧ T.attrs.getD e.1.toNat [] = e.2.2 ∧ e.2.1 ≠ Str.ofString "template" ∧ isPart e.2.1 = false ∧ ∃ j d, j < k ∧ e.2.2 = (Str.ofString "n", txt j) :: d)
structure Inv (T : Tr) (n : Nat) (stack fmt late : List Int) (row : List Ent) (k : Nat) : Prop where
  fm : fmt = row.map (·.1)
  n4 : 4 ≤ n
  hn : n ≤ 4 + k
  one : (1 : Int) ∈ stack
  ln : late.Nodup
  lm : ∀ y ∈ late, y ∈ stack ∧ 4 ≤ y ∧ y < n
  co : T.contents = []
  at' : ∀ d ∈ T.attrs, d.length ≤ 2
  rl : row.length ≤ k
  ll : late.length ≤ k
  en : ∀ e ∈ row, EntOk T n k e
theorem txt_ne {j k : Nat} (hk : k < 7) (hj : j < k) : txt j ≠ txt k := by
  have h7 : ∀ a b : Fin 7, a.val < b.val → txt a.val ≠ txt b.val := by decide +kernel
  exact h7 ⟨j, by omega⟩ ⟨k, hk⟩ hj
structure Grow (T T' : Tr) (nm : Str) (d : List (Str × Str)) : Prop where
  nm : T'.names = T.names ++ [nm]
  at' : T'.attrs = T.attrs ++ [d]
  co : T'.contents = T.contents
theorem EntOk.grow {T T' : Tr} {n k : Nat} {nm : Str} {d : List (Str × Str)} {e : Ent} (h : EntOk T n k e) (G : Grow T T' nm d) (W : WF T n) : EntOk T' (n + 1) (k + 1) e := by
  rcases h with h | ⟨h1, h2, h3, h4, h5, h6, j, d', h7, h8⟩
  · exact .inl h
  · refine .inr ⟨h1, by omega, ?_, ?_, h5, h6, j, d', by omega, h8⟩
    · rw [G.nm, getD_snoc, if_pos (by have := W.nm; omega)]
      exact h3
    · rw [G.at', getD_snoc, if_pos (by have := W.a; omega)]
      exact h4
theorem Inv.grow {T T' : Tr} {n k : Nat} {stack stack' fmt late late' : List Int} {row : List Ent} {nm : Str} {d d' : List (Str × Str)} (I : Inv T n stack fmt late row k) (W : WF T n) (G : Grow T T' nm d) (hs : ∀ y ∈ stack, y ∈ stack')
    (hl : late' = late ∨ (late' = late ++ [(n : Int)] ∧ (n : Int) ∈ stack')) (hd2 : d.length ≤ 2) (hd : d = (Str.ofString "n", txt k) :: d') (h5 : nm ≠ Str.ofString "template") (h6 : isPart nm = false) :
    Inv T' (n + 1) stack' (fmt ++ [(n : Int)]) late' (row ++ [((n : Int), nm, d)]) (k + 1) := by
  have n4 := I.n4
  have hn := I.hn
  have rl := I.rl
  have ll := I.ll
  refine ⟨by rw [I.fm, List.map_append]; rfl, by omega, by omega, hs _ I.one, ?_, ?_, G.co.trans I.co, ?_, ?_, ?_, ?_⟩
  · rcases hl with rfl | ⟨rfl, _⟩
    · exact I.ln
    · refine List.nodup_append.mpr ⟨I.ln, by simp, fun a ha b hb e => ?_⟩
      have := (I.lm a ha).2.2
      rw [List.mem_singleton.mp hb] at e
      omega
  · intro y hy
    have old : ∀ y ∈ late, y ∈ stack' ∧ 4 ≤ y ∧ y < ((n + 1 : Nat) : Int) := fun y hy => by
      obtain ⟨a, b, c⟩ := I.lm y hy
      exact ⟨hs y a, b, by omega⟩
    rcases hl with rfl | ⟨rfl, hm⟩
    · exact old y hy
    · rcases List.mem_append.mp hy with hy | hy
      · exact old y hy
      · rw [List.mem_singleton.mp hy]
        exact ⟨hm, by omega, by omega⟩
  · intro e he
    rw [G.at'] at he
    rcases List.mem_append.mp he with he | he
    · exact I.at' e he
    · rw [List.mem_singleton.mp he]
      exact hd2
  · simp only [List.length_append, List.length_cons, List.length_nil]
    omega
  · rcases hl with rfl | ⟨rfl, _⟩
    · omega
    · simp only [List.length_append, List.length_cons, List.length_nil]
      omega
  · intro e he
    rcases List.mem_append.mp he with he | he
    · exact (I.en e he).grow G W
    · rw [List.mem_singleton.mp he]
      refine .inr ⟨by omega, by omega, ?_, ?_, h5, h6, k, d', by omega, hd⟩
      · show T'.names.getD (n : Int).toNat _ = nm
        rw [G.nm, getD_snoc, if_neg (by have := W.nm; omega), if_pos (by have := W.nm; omega)]
      · show T'.attrs.getD (n : Int).toNat _ = d
        rw [G.at', getD_snoc, if_neg (by have := W.a; omega), if_pos (by have := W.a; omega)]
theorem EntOk.up {T : Tr} {n k : Nat} {e : Ent} (h : EntOk T n k e) : EntOk T n (k + 1) e := h.imp id fun ⟨h1, h2, h3, h4, h5, h6, j, d, h7, h8⟩ => ⟨h1, h2, h3, h4, h5, h6, j, d, by omega, h8⟩
theorem Inv.mark {T : Tr} {n k : Nat} {stack fmt late : List Int} {row : List Ent} (I : Inv T n stack fmt late row k) : Inv T n stack (fmt ++ [-1]) late (row ++ [(-1, Str.ofString "", [])]) (k + 1) :=
  ⟨by rw [I.fm, List.map_append]; rfl, I.n4, by have := I.hn; omega, I.one, I.ln, I.lm, I.co, I.at', by have := I.rl; simp; omega, by have := I.ll; omega, fun e he => by
    rcases List.mem_append.mp he with he | he
    · exact (I.en e he).up
    · rw [List.mem_singleton.mp he]
      exact .inl rfl⟩
theorem Inv.block {T T' : Tr} {n k : Nat} {stack fmt late : List Int} {row : List Ent} {nm : Str} (I : Inv T n stack fmt late row k) (W : WF T n) (G : Grow T T' nm []) : Inv T' (n + 1) (stack ++ [(n : Int)]) fmt late row (k + 1) := by
  have n4 := I.n4
  have hn := I.hn
  have rl := I.rl
  have ll := I.ll
  refine ⟨I.fm, by omega, by omega, List.mem_append_left _ I.one, I.ln, fun y hy => ?_, G.co.trans I.co, fun e he => ?_, by omega, by omega, fun e he => (I.en e he).grow G W⟩
  · obtain ⟨a, b, c⟩ := I.lm y hy
    exact ⟨List.mem_append_left _ a, b, by omega⟩
  · rw [G.at'] at he
    rcases List.mem_append.mp he with he | he
    · exact I.at' e he
    · rw [List.mem_singleton.mp he]
      exact Nat.zero_le _
theorem Inv.apart {T : Tr} {n k : Nat} {stack fmt late : List Int} {row : List Ent} (I : Inv T n stack fmt late row k) (W : WF T n) {T' : Tr} {nm : Str} {d : List (Str × Str)} (G : Grow T T' nm d) (hk : k < 7) :
    ∀ y ∈ fmt, y = -1 ∨ (0 ≤ y ∧ y < ((n + 1 : Nat) : Int) ∧ ∃ y' d', T'.attrs.getD y.toNat [] = (Str.ofString "n", y') :: d' ∧ y' ≠ txt k) := by
  intro y hy
  rw [I.fm] at hy
  obtain ⟨e, he, rfl⟩ := List.mem_map.mp hy
  rcases (I.en e he).grow G W with h | ⟨h1, h2, h3, h4, _⟩
  · exact .inl h
  · rcases I.en e he with h | ⟨_, _, _, _, _, _, j, d', hj, h8⟩
    · exact .inl h
    · exact .inr ⟨by omega, h2, _, _, h4.trans h8, txt_ne hk hj⟩
end
section
section
variable {prog : Program} {w : World} {A : Around} {E : Value → Shared → Prop} {s : Shared} {env : Env} {h₀ : Heap} {x : Str} {target : PySem.Expr} {body : List Stmt} {Q : Flow → Shared → Prop}
theorem rng_to2 {r : Addr} {a₀ b₀ c : Int} {t₀ u₀ v₀ : Tok} {n : Nat} {m₀ : Str → Option Value} {news : List (Addr × Obj)} (P : Addr → Nat → (Str → Option Value) → List (Addr × Obj) → Prop)
    (hh : A.handled = none) (hr : IsRange s.heap r a₀ b₀ c t₀ u₀ v₀) (hsmall : Builtin.Range.small a₀ b₀ c = true) (hn : Builtin.Range.rangeSize a₀ b₀ c = (n : Int)) (F : Fr h₀ env.locals s.heap m₀) (N : News h₀ env.locals s.heap news)
    (h0 : ∀ I : Addr, (∀ p ∈ news, p.1 < I) → P I 0 m₀ news)
    (step : ∀ I i m l, i < n → P I i m l → ∀ t it h tk, it.cls = .type "range_iterator" → Fr h₀ env.locals h (fun y => if y = x then some (.int (a₀ + (i : Int) * c) t) else m y) → News h₀ env.locals h ((I, it) :: l) →
      wpAny (model prog w) A (execs body env) (UnrPost h₀ env.locals { s with heap := h, toks := tk } I it (P I (i + 1)) (fun f s' => match f with | .ret v => Q (.ret v) s' | _ => False)) E { s with heap := h, toks := tk })
    (done : ∀ I m l h tk, P I n m l → Fr h₀ env.locals h m → News h₀ env.locals h l → Q .next { s with heap := h, toks := tk }) :
    wpAny (model prog w) A (pyIter (.ref r)) (fun it s₂ => LoopAtV prog w A h₀ env x body Q E it s₂) E s := by
  refine krs_iter hh hr hsmall hn F N fun I hI => ?_
  have all : ∀ k i m l, i + k = n → P I i m l → KrsRest prog w A E h₀ env x body Q s I a₀ c n k i m l := by
    intro k
    induction k with
    | zero =>
      intro i m l e hP
      have e' : i = n := by omega
      subst e'
      exact KrsRest.zero fun h tk F N => done I m l h tk hP F N
    | succ k ih =>
      intro i m l e hP
      exact KrsRest.succ rfl fun t h tk F N => wpAny_mono (step I i m l (by omega) hP t _ h tk rfl F N) (fun f s₂ hu => by
        cases f with
        | next => exact UnrEnd.mono' hu fun m' l' hP' => ih (i + 1) m' l' (by omega) hP'
        | cont => exact UnrEnd.mono' hu fun m' l' hP' => ih (i + 1) m' l' (by omega) hP'
        | brk => exact hu.elim
        | ret v => exact hu) fun _ _ e => e
  exact all n 0 m₀ news (by omega) (h0 I hI)
theorem tup_cons {I : Addr} {keep : List (Addr × Obj)} {y : Value} {r : List Itm} {m : Str → Option Value} {l : List (Addr × Obj)}
    (h : ∀ it h tk, it.cls = .type "tuple_iterator" → Fr h₀ env.locals h m → News h₀ env.locals h ((I, it) :: l) →
      wpAny (model prog w) A (assign target env y) (fun _ s₂ => wpAny (model prog w) A (execs body env) (UnrPostW h₀ env.locals { s with heap := h, toks := tk } [(I, it)] (fun m' n' => SubL keep n' ∧ ItemsRest prog w A E h₀ env target body Q s [(I, "tuple_iterator")] keep r m' n') Q) E s₂) E { s with heap := h, toks := tk }) :
    ItemsRest prog w A E h₀ env target body Q s [(I, "tuple_iterator")] keep (.val y :: r) m l := by
  intro v h' tk e F it hc N
  have e' : v = y := e
  subst e'
  exact h it h' tk hc F N
theorem turnW_end {L I : Addr} {it : Obj} {P : (Str → Option Value) → List (Addr × Obj) → Prop} {s₁ : Shared} {h' : Heap} {tk : Nat} {m' : Str → Option Value} {all l : List (Addr × Obj)} (F : Fr h₀ L h' m') (N : News h₀ L h' all) (hI : (I, it) ∈ all) (sub : ∀ p ∈ l, p ∈ all) (off : ∀ p ∈ l, p.1 ≠ I) (hP : P m' l) :
    UnrEndW h₀ L s₁ [(I, it)] P { s₁ with heap := h', toks := tk } :=
  ⟨h', tk, m', l, rfl, F, fun p hp => by
    rcases List.mem_cons.mp hp with rfl | hp
    · exact N _ hI
    · exact N p (sub p hp), fun p hp q hq => by
    rw [List.mem_singleton.mp hq]
    exact off p hp, hP⟩
end
section
variable {l₁ l₂ l₃ r : Led} {I : Addr} {it : Obj}
theorem put_it (S : Sep2 l₁ l₂ (l₃ ++ r)) (T : Sep l₃ r) (off : ∀ p ∈ l₁ ++ (l₂ ++ (l₃ ++ r)), p.1 ≠ I) : Sep2 l₁ l₂ (l₃ ++ (I, it) :: r) ∧ Sep l₃ ((I, it) :: r) := by
  have o1 : ∀ p ∈ l₁, p.1 ≠ I := fun p hp => off p (by simp [hp])
  have o2 : ∀ p ∈ l₂, p.1 ≠ I := fun p hp => off p (by simp [hp])
  have o3 : ∀ p ∈ l₃, p.1 ≠ I := fun p hp => off p (by simp [hp])
  refine ⟨⟨⟨S.one.nd, fun p hp q hq => ?_⟩, ⟨S.two.nd, fun p hp q hq => ?_⟩⟩, ⟨T.nd, fun p hp q hq => ?_⟩⟩
  · simp only [List.mem_append, List.mem_cons] at hq
    rcases hq with hq | hq | rfl | hq
    · exact S.one.off p hp q (by simp [hq])
    · exact S.one.off p hp q (by simp [hq])
    · exact o1 p hp
    · exact S.one.off p hp q (by simp [hq])
  · simp only [List.mem_append, List.mem_cons] at hq
    rcases hq with hq | hq | rfl | hq
    · exact S.two.off p hp q (by simp [hq])
    · exact S.two.off p hp q (by simp [hq])
    · exact o2 p hp
    · exact S.two.off p hp q (by simp [hq])
  · rcases List.mem_cons.mp hq with rfl | hq
    · exact o3 p hp
    · exact T.off p hp q hq
theorem put_news {g h : Heap} {L : Addr} (N : News g L h ((I, it) :: (l₁ ++ (l₂ ++ (l₃ ++ r))))) : News g L h (l₁ ++ (l₂ ++ (l₃ ++ (I, it) :: r))) := News.sub N fun q hq => by
  simp only [List.mem_append, List.mem_cons] at hq ⊢
  rcases hq with hq | hq | hq | hq | hq <;> simp [hq]
theorem off_it (S : Sep2 l₁ l₂ (l₃ ++ (I, it) :: r)) (T : Sep l₃ ((I, it) :: r)) (hr : ∀ p ∈ r, p.1 ≠ I) : ∀ p ∈ l₁ ++ (l₂ ++ (l₃ ++ r)), p.1 ≠ I := fun p hp => by
  simp only [List.mem_append] at hp
  rcases hp with hp | hp | hp | hp
  · exact S.one.off p hp (I, it) (by simp)
  · exact S.two.off p hp (I, it) (by simp)
  · exact T.off p hp (I, it) (.head _)
  · exact hr p hp
theorem sub_it : ∀ q ∈ l₁ ++ (l₂ ++ (l₃ ++ r)), q ∈ l₁ ++ (l₂ ++ (l₃ ++ (I, it) :: r)) := fun q hq => by
  simp only [List.mem_append, List.mem_cons] at hq ⊢
  rcases hq with hq | hq | hq | hq <;> simp [hq]
theorem mem_it : (I, it) ∈ l₁ ++ (l₂ ++ (l₃ ++ (I, it) :: r)) := by simp
theorem cls_ne {g h : Heap} {L : Addr} {l : Led} {p : Addr × Obj} (N : News g L h l) (hp : p ∈ l) (hI : (I, it) ∈ l) (hc : p.2.cls ≠ it.cls) : p.1 ≠ I := fun e => by
  have h1 := (N p hp).1
  have h2 := (N _ hI).1
  rw [e] at h1
  exact hc (congrArg Obj.cls (Option.some.inj (h1.symm.trans h2)))
end
theorem sub_oIneg {prog : Program} {w : World} {A : Around} {E : Value → Shared → Prop} {s : Shared} {g : Heap} {L : Addr} {l : Led} {la : LAd} {x : LRaw} {value slice : PySem.Expr} {ns : List Int} {k y : Int} {u : Tok} {Q : Value → Shared → Prop} (N : News g L s.heap l) (hm : (la.oI, lsOf x.oV x.oN) ∈ l) (hi : IntsAre x.oV ns) (h0 : k < 0) (h1 : -(ns.length : Int) ≤ k) (hz : ns.length ≤ 1000)
    (hv : ns.getD (k + ns.length).toNat 0 = y) (h : ∀ t, Q (.int y t) s)
    (hs : subscripted slice false (.ref la.oI) (.int k u) = operate [.ref la.oI, .int k u] (getItem (.ref la.oI) (.int k u)) := by with_unfolding_all rfl) :
    wpAny (model prog w) A (subscriptTail value slice (.ref la.oI) (.int k u)) Q E s := by
  subst hv
  have hl := hi.length
  obtain ⟨t, ht⟩ := ints_at hi (k := (k + ns.length).toNat) (by omega)
  exact tail_any (N.isList hm).typeIs slot_list_getitem.lookup (wpAny_getItem_list_neg (N.isList hm) h0 (by rw [List.size_toArray]; omega) (by omega) (by rw [List.size_toArray, hl]; simpa using ht) (h t)) hs
end
section
/-! a ledger of new objects ahead of the old one -/
def Ap (nw l0 : Led) : Prop := ∀ p ∈ nw, ∀ q ∈ l0, p.1 ≠ q.1
theorem Ap.cons {D : Addr} {o : Obj} {nw l0 : Led} (h : Ap nw l0) (hd : ∀ q ∈ l0, D ≠ q.1) : Ap ((D, o) :: nw) l0 := fun p hp => by
  rcases List.mem_cons.mp hp with rfl | hp
  · exact hd
  · exact h p hp
theorem Ap.lt {D : Addr} {o : Obj} {nw l0 : Led} (h : Ap nw l0) (hd : ∀ p ∈ nw ++ l0, p.1 < D) : Ap ((D, o) :: nw) l0 := h.cons fun q hq => Ne.symm (Nat.ne_of_lt (hd q (List.mem_append_right _ hq)))
theorem off1_mem {D : Addr} : ∀ {l : Led}, LCg.Off1 D l → ∀ p ∈ l, p.1 ≠ D
  | [], _, _, h => nomatch h
  | _ :: _, x, p, h => by
    rcases List.mem_cons.mp h with rfl | h
    · exact x.1
    · exact off1_mem x.2 p h
theorem Ap.off {D : Addr} {o : Obj} {nw l0 : Led} (h : Ap nw l0) (hd : LCg.Off1 D (nw ++ l0)) : Ap ((D, o) :: nw) l0 := h.cons fun q hq => Ne.symm (off1_mem hd q (List.mem_append_right _ hq))
section
variable {prog : Program} {w : World} {A : Around} {E : Value → Shared → Prop} {s : Shared} {g : Heap} {L : Addr} {m : Str → Option Value} {nw l0 : Led} {Q : Value → Shared → Prop}
theorem ap_list {vs : List Value} (F : Fr g L s.heap m) (N : News g L s.heap (nw ++ l0)) (U : Ap nw l0) (hz : vs.length ≤ 1000)
    (h : ∀ D h', Fr g L h' m → News g L h' ((D, lsOf vs 0) :: nw ++ l0) → Ap ((D, lsOf vs 0) :: nw) l0 → Q (.ref D) { s with heap := h' }) : wpAny (model prog w) A (newList vs) Q E s :=
  newList_K F N (fun D h' F' N' l1 => h D h' F' N' (U.lt l1)) (by rw [sizeLine_eq]; omega)
theorem ap_tuple {vs : List Value} (F : Fr g L s.heap m) (N : News g L s.heap (nw ++ l0)) (U : Ap nw l0) (hz : vs.length ≤ 1000)
    (h : ∀ D h', Fr g L h' m → News g L h' ((D, tupOf vs 0) :: nw ++ l0) → Ap ((D, tupOf vs 0) :: nw) l0 → Q (.ref D) { s with heap := h' }) : wpAny (model prog w) A (newTuple vs) Q E s :=
  newTuple_N F N (fun h' F' N' => h _ h' F' N' (U.lt fun p hp => Heap.lt_size (N p hp).1)) (by rw [sizeLine_eq]; omega)
theorem ap_add {a b : Addr} {vs ws : List Value} {i j : Nat} (F : Fr g L s.heap m) (N : News g L s.heap (nw ++ l0)) (U : Ap nw l0) (ha : (a, lsOf vs i) ∈ nw ++ l0) (hb : (b, lsOf ws j) ∈ nw ++ l0) (hz : vs.length + ws.length ≤ 1000)
    (h : ∀ D h', Fr g L h' m → News g L h' ((D, lsOf (vs ++ ws) 0) :: nw ++ l0) → Ap ((D, lsOf (vs ++ ws) 0) :: nw) l0 → Q (.ref D) { s with heap := h' }) : wpAny (model prog w) A (binaryOp .Add (.ref a) (.ref b)) Q E s :=
  add_lists (hsz := by rw [sizeLine_eq]; omega) F N (N.isList ha) (N.isList hb) fun h' F' N' => h _ h' F' N' (U.lt fun p hp => Heap.lt_size (N p hp).1)
theorem foldl_rep {y : Value} : ∀ (k : Nat) (acc : Array Value), List.foldl (fun x1 x2 => x1 ++ x2) acc (List.replicate k #[y]) = acc ++ (List.replicate k y).toArray
  | 0, acc => by simp
  | k + 1, acc => by
    rw [List.replicate_succ, List.foldl_cons, foldl_rep k, List.replicate_succ]
    apply Array.toList_inj.mp
    simp
theorem ap_mul {a : Addr} {y : Value} {i k : Nat} {u : Tok} (F : Fr g L s.heap m) (N : News g L s.heap (nw ++ l0)) (U : Ap nw l0) (ha : (a, lsOf [y] i) ∈ nw ++ l0) (hz : k ≤ 1000)
    (h : ∀ D h', Fr g L h' m → News g L h' ((D, lsOf (List.replicate k y) 0) :: nw ++ l0) → Ap ((D, lsOf (List.replicate k y) 0) :: nw) l0 → Q (.ref D) { s with heap := h' }) : wpAny (model prog w) A (binaryOp .Mult (.ref a) (.int (k : Nat) u)) Q E s := by
  refine mul_list F N (N _ ha).1 (by omega) (by omega) (by simp; omega) fun h' F' N' => ?_
  have e : (List.foldl (fun x1 x2 => x1 ++ x2) #[] (List.replicate (if ([y].toArray).isEmpty = true then 0 else ((k : Nat) : Int).toNat) [y].toArray)) = (List.replicate k y).toArray := by
    rw [if_neg (by simp)]
    have := foldl_rep (y := y) k #[]
    simpa using this
  rw [e] at N'
  exact h _ h' F' N' (U.lt fun p hp => Heap.lt_size (N p hp).1)
theorem pick_from {vs : List Value} {k : Int} (h : 0 ≤ k) : slicePick vs.toArray (some k) none none = (vs.drop k.toNat).toArray := by
  rw [kms_pick_eq]
  unfold kms_pick
  have e1 : kms_lo (some k) vs.length = min k.toNat vs.length := if_neg (by omega)
  have e2 : kms_hi none vs.length = vs.length := rfl
  have e : (vs.toArray).toList = vs := rfl
  rw [e, e1, e2, kmk_drop_min, List.take_of_length_le (by rw [List.length_drop]; exact Nat.sub_le_sub_left (Nat.min_le_left _ _) _)]
theorem pick_upto {vs : List Value} {k : Int} (h : 0 ≤ k) : slicePick vs.toArray none (some k) none = (vs.take k.toNat).toArray := by
  rw [kms_pick_eq]
  unfold kms_pick
  have e1 : kms_hi (some k) vs.length = min k.toNat vs.length := if_neg (by omega)
  have e2 : kms_lo none vs.length = 0 := rfl
  have e : (vs.toArray).toList = vs := rfl
  rw [e, e1, e2, List.drop_zero, Nat.sub_zero, kmk_take_min]
theorem ap_from {value slice : PySem.Expr} {a : Addr} {vs : List Value} {i : Nat} {k : Int} {u : Tok} (F : Fr g L s.heap m) (N : News g L s.heap (nw ++ l0)) (U : Ap nw l0) (ha : (a, lsOf vs i) ∈ nw ++ l0) (hk : 0 ≤ k) (hz : vs.length ≤ 1000)
    (h : ∀ D h', Fr g L h' m → News g L h' ((D, lsOf (vs.drop k.toNat) 0) :: nw ++ l0) → Ap ((D, lsOf (vs.drop k.toNat) 0) :: nw) l0 → Q (.ref D) { s with heap := h' })
    (hs : subscripted slice false (.ref a) (.ref s.heap.objs.size) = operate [.ref s.heap.objs.size, .ref a] (getItem (.ref a) (.ref s.heap.objs.size))) (ht : ∀ r, letTemporaryGo value (.ref a) r = pure ()) :
    wpAny (model prog w) A (subscriptTail value slice (.ref a) (.ref s.heap.objs.size)) Q E { s with heap := s.heap.push { cls := .type "slice", data := .fields #[.int k u, .none, .none] } } :=
  kmk_slice F N (N.isList ha) (IsPart.int _ _) IsPart.none (fun D h' F' N' l1 => h D h' F' (by rw [pick_from hk] at N'; exact N') (U.lt l1)) hs ht (by rw [sizeLine_eq, List.size_toArray]; omega)
theorem ap_upto {value slice : PySem.Expr} {a : Addr} {vs : List Value} {i : Nat} {k : Int} {u : Tok} (F : Fr g L s.heap m) (N : News g L s.heap (nw ++ l0)) (U : Ap nw l0) (ha : (a, lsOf vs i) ∈ nw ++ l0) (hk : 0 ≤ k) (hz : vs.length ≤ 1000)
    (h : ∀ D h', Fr g L h' m → News g L h' ((D, lsOf (vs.take k.toNat) 0) :: nw ++ l0) → Ap ((D, lsOf (vs.take k.toNat) 0) :: nw) l0 → Q (.ref D) { s with heap := h' })
    (hs : subscripted slice false (.ref a) (.ref s.heap.objs.size) = operate [.ref s.heap.objs.size, .ref a] (getItem (.ref a) (.ref s.heap.objs.size))) (ht : ∀ r, letTemporaryGo value (.ref a) r = pure ()) :
    wpAny (model prog w) A (subscriptTail value slice (.ref a) (.ref s.heap.objs.size)) Q E { s with heap := s.heap.push { cls := .type "slice", data := .fields #[.none, .int k u, .none] } } :=
  kmk_slice F N (N.isList ha) IsPart.none (IsPart.int _ _) (fun D h' F' N' l1 => h D h' F' (by rw [pick_upto hk] at N'; exact N') (U.lt l1)) hs ht (by rw [sizeLine_eq, List.size_toArray]; omega)
theorem ap_max {a : Addr} {vs : List Value} {ns : List Int} {i : Nat} {M : Int} (F : Fr g L s.heap m) (N : News g L s.heap (nw ++ l0)) (ha : (a, lsOf vs i) ∈ nw ++ l0) (hi : IntsAre vs ns) (hM : M ∈ ns) (hle : ∀ y ∈ ns, y ≤ M) (hh : A.handled = none)
    (h : ∀ h' t tk, Fr g L h' m → News g L h' (nw ++ l0) → Q (.int M t) { s with heap := h', toks := tk }) : wpAny (model prog w) A (call (.builtin "max") [.ref a]) Q E s :=
  kso_max F N (N.isList ha) hi (List.length_pos_of_mem hM) hh fun h' M' t tk F' N' h1 h2 => by
    have e : M' = M := Int.le_antisymm (hle _ h1) (h2 _ hM)
    subst e
    exact h h' t tk F' N'
theorem ap_copy {a : Addr} {vs : List Value} {i : Nat} (F : Fr g L s.heap m) (N : News g L s.heap (nw ++ l0)) (U : Ap nw l0) (ha : (a, lsOf vs i) ∈ nw ++ l0) (hz : vs.length ≤ 1000)
    (h : ∀ D c h', Fr g L h' m → News g L h' ((D, lsOf vs c) :: nw ++ l0) → Ap ((D, lsOf vs c) :: nw) l0 → (∀ p ∈ nw ++ l0, p.1 < D) → Q (.ref D) { s with heap := h' }) : wpAny (model prog w) A (call (.type "list") [.ref a]) Q E s :=
  list_copyK F N (N.isList ha) (fun D c h' F' N' l1 => h D c h' F' N' (U.lt l1) l1) (by rw [sizeLine_eq, List.size_toArray]; omega)
theorem ap_copyT {a : Addr} {vs : List Value} (F : Fr g L s.heap m) (N : News g L s.heap (nw ++ l0)) (U : Ap nw l0) (X : (Mine.H.heap_1 w.params).In g) (ha : TupIn w.params (nw ++ l0) a vs) (hz : vs.length ≤ 1000)
    (h : ∀ D c h', Fr g L h' m → News g L h' ((D, lsOf vs c) :: nw ++ l0) → Ap ((D, lsOf vs c) :: nw) l0 → (∀ p ∈ nw ++ l0, p.1 < D) → Q (.ref D) { s with heap := h' }) : wpAny (model prog w) A (call (.type "list") [.ref a]) Q E s :=
  list_copyKT F N (ha.isTup N (X.keeps F.keep)) (fun D c h' F' N' l1 => h D c h' F' N' (U.lt l1) l1) (by rw [sizeLine_eq, List.size_toArray]; omega)
theorem ap_dict {a : Addr} {o : Obj} {cs : List (Int × Int)} (F : Fr g L s.heap m) (N : News g L s.heap (nw ++ l0)) (U : Ap nw l0) (hbig : sysModules < g.objs.size) (lo : (a == sysModules) = false) (hm : (a, o) ∈ nw ++ l0) (C : CoAre prog w o cs) (hz : cs.length ≤ 1000)
    (h : ∀ D o' h', Fr g L h' m → News g L h' ((D, o') :: nw ++ l0) → Ap ((D, o') :: nw) l0 → (D == sysModules) = false → CoAre prog w o' cs → Q (.ref D) { s with heap := h' }) : wpAny (model prog w) A (call (.type "dict") [.ref a]) Q E s :=
  kt_dict_of (knd := intKind prog w) (enc := PyData.int) F N hbig (co_tab (prog := prog) (ad := ⟨a, a, a, a, a, a, a, a, a, a⟩) (u := ⟨fun _ => 0, [], [], [], [], [], 0, 0, 0, 0, 0, 0, 0, o, [], []⟩) lo N hm C) (by rw [coD, List.length_map, sizeLine_eq]; omega) fun h' o' kvs F' N' lo' hd hf l1 =>
    h _ o' h' F' N' (U.cons fun q hq => Ne.symm (l1 q (List.mem_append_right _ hq))) lo' ⟨kvs, hd, hf⟩
end
theorem new_list2 {prog : Program} {w : World} {A : Around} {E : Value → Shared → Prop} {s : Shared} {g : Heap} {L : Addr} {m : Str → Option Value} {l₁ l₂ r : Led} {vs : List Value} {Q : Value → Shared → Prop} (F : Fr g L s.heap m) (N : News g L s.heap (l₁ ++ (l₂ ++ r))) (S : Sep2 l₁ l₂ r) (hz : vs.length ≤ 1000)
    (h : ∀ D h', Fr g L h' m → News g L h' (l₁ ++ (l₂ ++ (D, lsOf vs 0) :: r)) → Sep2 l₁ l₂ ((D, lsOf vs 0) :: r) → Q (.ref D) { s with heap := h' }) :
    wpAny (model prog w) A (newList vs) Q E s :=
  newList_K F N (fun D h' F' N' l1 => h D h' F' (News.sub N' fun q hq => by
    simp only [List.mem_append, List.mem_cons] at hq ⊢
    rcases hq with hq | hq | hq | hq <;> simp [hq]) (S.fresh l1)) (by rw [sizeLine_eq]; omega)
/-! comprehensions by an invariant -/
section
variable {prog : Program} {w : World} {A : Around} {s : Shared} {h₀ : Heap} {L : Addr} {m : Str → Option Value} {env : Env} {elt ct : PySem.Expr} {x : Str} {scope : Scope} {cl : List (Str × Addr)} {S : List (Addr × Obj) → Prop} {P : Nat → Value → Prop} {Fin : List Value → List (Addr × Obj) → Prop}
theorem comp_inv {n : Nat} {news : Led} (Inv : Nat → List Value → Led → Prop) (h0 : Inv 0 [] news)
    (turn : ∀ i ys nw v I oI C oC D m₂ h tk (E' : Value → Shared → Prop), i < n → P i v → Inv i ys nw → LCg.NsObj oC m₂ → m₂ x = some v → Fr h₀ L h m → News h₀ L h ((I, oI) :: (C, oC) :: (D, LCg.lst ys) :: nw) → LCg.Off3 I C D nw → ((@Ne Nat I C) ∧ (@Ne Nat I D) ∧ (@Ne Nat C D)) →
      wpAny (model prog w) A (eval elt (compEnvC scope cl C env)) (LCg.CompEnd h₀ L m { s with heap := h, toks := tk } I oI C oC D (LCg.lst ys) S (fun y nw' => Inv (i + 1) (ys ++ [y]) nw')) E' { s with heap := h, toks := tk })
    (fin : ∀ ys nw, Inv n ys nw → Fin ys nw) : LCg.CompRest prog w A h₀ L m env elt x scope cl s S P Fin n 0 [] news := by
  have all : ∀ k i ys nw, i + k = n → Inv i ys nw → LCg.CompRest prog w A h₀ L m env elt x scope cl s S P Fin k i ys nw := by
    intro k
    induction k with
    | zero =>
      intro i ys nw e hI
      have e' : i = n := by omega
      subst e'
      exact LCg.CompRest.zero (fin ys nw hI)
    | succ k ih =>
      intro i ys nw e hI
      refine LCg.CompRest.succ fun v I oI C oC D m₂ h tk E' hP hC hx F N off ne => ?_
      refine wpAny_mono (turn i ys nw v I oI C oC D m₂ h tk E' (by omega) hP hI hC hx F N off ne) (fun y s₂ hh => ?_) fun _ _ e => e
      obtain ⟨h', tk', nw', e1, F', N', off', hS, hI'⟩ := hh
      exact ⟨h', tk', nw', e1, F', N', off', hS, ih (i + 1) (ys ++ [y]) nw' (by omega) hI'⟩
  exact all n 0 [] news (by omega) h0
theorem comp_invT {n : Nat} {news : Led} (Inv : Nat → List Value → Led → Prop) (h0 : Inv 0 [] news)
    (turn : ∀ i ys nw v I oI C oC D m₂ h tk (E' : Value → Shared → Prop), i < n → P i v → Inv i ys nw → LCg.NsObj oC m₂ → m₂ x = some v → Fr h₀ L h m → News h₀ L h ((I, oI) :: (C, oC) :: (D, LCg.lst ys) :: nw) → LCg.Off3 I C D nw → ((@Ne Nat I C) ∧ (@Ne Nat I D) ∧ (@Ne Nat C D)) →
      wpAny (model prog w) A (isTrue ct (compEnvC scope cl C env) (eval ct (compEnvC scope cl C env))) (fun ok s' => if ok = true then
        wpAny (model prog w) A (eval elt (compEnvC scope cl C env)) (LCg.CompEnd h₀ L m { s with heap := h, toks := tk } I oI C oC D (LCg.lst ys) S (fun y nw' => Inv (i + 1) (ys ++ [y]) nw')) E' s'
        else LCg.CompEnd h₀ L m { s with heap := h, toks := tk } I oI C oC D (LCg.lst ys) S (fun _ nw' => Inv (i + 1) ys nw') Value.none s') E' { s with heap := h, toks := tk })
    (fin : ∀ ys nw, Inv n ys nw → Fin ys nw) : LCt.CompRestT prog w A h₀ L m env ct elt x scope cl s S P Fin n 0 [] news := by
  have all : ∀ k i ys nw, i + k = n → Inv i ys nw → LCt.CompRestT prog w A h₀ L m env ct elt x scope cl s S P Fin k i ys nw := by
    intro k
    induction k with
    | zero =>
      intro i ys nw e hI
      have e' : i = n := by omega
      subst e'
      exact LCt.CompRestT.zero (fin ys nw hI)
    | succ k ih =>
      intro i ys nw e hI
      refine LCt.CompRestT.succ fun v I oI C oC D m₂ h tk E' hP hC hx F N off ne => ?_
      refine wpAny_mono (turn i ys nw v I oI C oC D m₂ h tk E' (by omega) hP hI hC hx F N off ne) (fun ok s₂ hh => ?_) fun _ _ e => e
      cases ok with
      | true =>
        rw [if_pos rfl] at hh ⊢
        refine wpAny_mono hh (fun y s₃ hh => ?_) fun _ _ e => e
        obtain ⟨h', tk', nw', e1, F', N', off', hS, hI'⟩ := hh
        exact ⟨h', tk', nw', e1, F', N', off', hS, ih (i + 1) (ys ++ [y]) nw' (by omega) hI'⟩
      | false =>
        rw [if_neg Bool.false_ne_true] at hh ⊢
        obtain ⟨h', tk', nw', e1, F', N', off', hS, hI'⟩ := hh
        exact ⟨h', tk', nw', e1, F', N', off', hS, ih (i + 1) ys nw' (by omega) hI'⟩
  exact all n 0 [] news (by omega) h0
/-- a turn that makes nothing -/
theorem comp_same {h₀ : Heap} {L : Addr} {m : Str → Option Value} {s₁ : Shared} {I C D : Addr} {oI oC oD : Obj} {S : Led → Prop} {rest : Value → Led → Prop} {y : Value} {h' : Heap} {tk : Nat} {nw : Led}
    (F : Fr h₀ L h' m) (N : News h₀ L h' ((I, oI) :: (C, oC) :: (D, oD) :: nw)) (off : LCg.Off3 I C D nw) (hS : S nw) (hr : rest y nw) : LCg.CompEnd h₀ L m s₁ I oI C oC D oD S rest y { s₁ with heap := h', toks := tk } :=
  LCg.CompEnd.intro F N nw (fun _ hp => hp) off hS hr
/-- a turn that makes one object -/
theorem comp_one {h₀ : Heap} {L : Addr} {m : Str → Option Value} {s₁ : Shared} {I C D a : Addr} {oI oC oD o : Obj} {S : Led → Prop} {rest : Value → Led → Prop} {y : Value} {h' : Heap} {tk : Nat} {nw : Led}
    (F : Fr h₀ L h' m) (N : News h₀ L h' ((a, o) :: (I, oI) :: (C, oC) :: (D, oD) :: nw)) (l1 : ∀ p ∈ (I, oI) :: (C, oC) :: (D, oD) :: nw, p.1 < a) (off : LCg.Off3 I C D nw) (hS : S ((a, o) :: nw)) (hr : rest y ((a, o) :: nw)) : LCg.CompEnd h₀ L m s₁ I oI C oC D oD S rest y { s₁ with heap := h', toks := tk } :=
  LCg.CompEnd.intro F N ((a, o) :: nw) (fun p hp => by
    simp only [List.mem_cons] at hp ⊢
    rcases hp with hp | hp | hp | hp | hp <;> simp [hp]) ⟨⟨Ne.symm (Nat.ne_of_lt (l1 _ (.head _))), Ne.symm (Nat.ne_of_lt (l1 _ (.tail _ (.head _)))), Ne.symm (Nat.ne_of_lt (l1 _ (.tail _ (.tail _ (.head _)))))⟩, off⟩ hS hr
end
theorem row_at {P : Params} {z : Led} {xs : List Value} {es : List Ent} (h : RowAre P z xs es) {i : Nat} (hi : i < es.length) :
    ∃ a b t tn n vs, xs[i]? = some (.ref a) ∧ (a, tupOf [.int (es.getD i (0, Str.ofString "", [])).1 t, .str (es.getD i (0, Str.ofString "", [])).2.1 tn, .ref b] n) ∈ z ∧ TupIn P z b vs ∧ PairsAre z vs (es.getD i (0, Str.ofString "", [])).2.2 := by
  induction h generalizing i with
  | nil => exact absurd hi (Nat.not_lt_zero _)
  | cons h1 h2 h3 _ ih =>
    cases i with
    | zero => exact ⟨_, _, _, _, _, _, rfl, h1, h2, h3⟩
    | succ i => exact ih (Nat.lt_of_succ_lt_succ hi)
/-- the numbers behind the stops -/
structure Stops (ms : Nat) (i : Nat) (ys : List Value) (ns : List Int) : Prop where
  iv : IntsAre ys ns
  le : ∀ y ∈ ns, 0 ≤ y ∧ y ≤ ms
  at' : ms ≤ i → 0 < ms → (ms : Int) ∈ ns
  len : ys.length ≤ i
theorem Stops.yes {ms i : Nat} {ys : List Value} {ns : List Int} {t : Tok} (S : Stops ms i ys ns) (h : i < ms) : Stops ms (i + 1) (ys ++ [.int ((0 : Int) + (i : Int) + 1) t]) (ns ++ [(0 : Int) + (i : Int) + 1]) :=
  ⟨ints_snoc S.iv, fun y hy => by
    rcases List.mem_append.mp hy with hy | hy
    · exact S.le y hy
    · rw [List.mem_singleton.mp hy]
      omega, fun h1 h2 => List.mem_append_right _ (by
    have e : ((0 : Int) + (i : Int) + 1) = (ms : Int) := by omega
    rw [e]
    exact .head _), by have := S.len; simp; omega⟩
theorem Stops.no {ms i : Nat} {ys : List Value} {ns : List Int} (S : Stops ms i ys ns) (h : i + 1 ≠ ms) : Stops ms (i + 1) ys ns :=
  ⟨S.iv, S.le, fun h1 h2 => S.at' (by omega) h2, by have := S.len; omega⟩
theorem Stops.max {ms n : Nat} {ys : List Value} {ns : List Int} (S : Stops ms n ys ns) (h : ms ≤ n) : (ms : Int) ∈ (0 : Int) :: ns ∧ ∀ y ∈ (0 : Int) :: ns, y ≤ (ms : Int) := by
  refine ⟨?_, fun y hy => ?_⟩
  · by_cases h0 : 0 < ms
    · exact .tail _ (S.at' h h0)
    · have e : ms = 0 := by omega
      subst e
      exact .head _
  · rcases List.mem_cons.mp hy with rfl | hy
    · omega
    · exact (S.le y hy).2
theorem fin_e {g : Heap} {L : Addr} {m : Str → Option Value} {s : Shared} {Q : Value → Shared → Prop} {ys : List Value} {nw l0 : Led} (U : Ap nw l0)
    (h : ∀ D h tk, Fr g L h m → News g L h ((D, lsOf ys ys.length) :: nw ++ l0) → Ap ((D, lsOf ys ys.length) :: nw) l0 → Q (.ref D) { s with heap := h, toks := tk }) : LCg.FinE g L m s Q ys (nw ++ l0) :=
  fun D h' tk F N o => h D h' tk F N (U.off o)
theorem fin_a {g : Heap} {L : Addr} {m : Str → Option Value} {s : Shared} {y : Str} {Q : Flow → Shared → Prop} {ys : List Value} {nw l0 : Led} (U : Ap nw l0)
    (h : ∀ D h tk, Fr g L h (fun z => if z = y then some (.ref D) else m z) → News g L h ((D, lsOf ys ys.length) :: nw ++ l0) → Ap ((D, lsOf ys ys.length) :: nw) l0 → LCg.Off1 D (nw ++ l0) → Q .next { s with heap := h, toks := tk }) : LCg.FinA g L m s y Q ys (nw ++ l0) :=
  fun D h' tk F N o => h D h' tk F N (U.off o) o
def nums (n : Nat) : Nat → List Int
  | 0 => []
  | k + 1 => (n : Int) :: nums (n + 1) k
theorem nums_snoc : ∀ (n k : Nat), nums n (k + 1) = nums n k ++ [((n : Int) + (k : Int))]
  | n, 0 => by simp [nums]
  | n, k + 1 => by
    rw [nums, nums_snoc (n + 1) k, nums]
    simp
    omega
theorem nums_length : ∀ (n k : Nat), (nums n k).length = k
  | _, 0 => rfl
  | n, k + 1 => by rw [nums, List.length_cons, nums_length]
theorem RowAre.drop {P : Params} {z : Led} {xs : List Value} {es : List Ent} (h : RowAre P z xs es) (k : Nat) : RowAre P z (xs.drop k) (es.drop k) := by
  induction h generalizing k with
  | nil => simpa using RowAre.nil
  | cons h1 h2 h3 h4 ih =>
    cases k with
    | zero => exact .cons h1 h2 h3 h4
    | succ k => exact ih k
theorem RowAre.take {P : Params} {z : Led} {xs : List Value} {es : List Ent} (h : RowAre P z xs es) (k : Nat) : RowAre P z (xs.take k) (es.take k) := by
  induction h generalizing k with
  | nil => simpa using RowAre.nil
  | cons h1 h2 h3 h4 ih =>
    cases k with
    | zero => exact .nil
    | succ k => exact .cons h1 h2 h3 (ih k)
/-- a turn that makes one object, kept in the order of the turns -/
theorem comp_snoc {h₀ : Heap} {L : Addr} {m : Str → Option Value} {s₁ : Shared} {I C D a : Addr} {oI oC oD o : Obj} {S : Led → Prop} {rest : Value → Led → Prop} {y : Value} {h' : Heap} {tk : Nat} {cl nw : Led}
    (F : Fr h₀ L h' m) (N : News h₀ L h' ((a, o) :: (I, oI) :: (C, oC) :: (D, oD) :: (cl ++ nw))) (l1 : ∀ p ∈ (I, oI) :: (C, oC) :: (D, oD) :: (cl ++ nw), p.1 < a) (off : LCg.Off3 I C D (cl ++ nw)) (hS : S ((cl ++ [(a, o)]) ++ nw)) (hr : rest y ((cl ++ [(a, o)]) ++ nw)) : LCg.CompEnd h₀ L m s₁ I oI C oC D oD S rest y { s₁ with heap := h', toks := tk } :=
  LCg.CompEnd.intro F N ((cl ++ [(a, o)]) ++ nw) (fun p hp => by
    simp only [List.mem_cons, List.mem_append, List.not_mem_nil, or_false] at hp ⊢
    rcases hp with hp | hp | hp | (hp | hp) | hp <;> simp [hp]) (LCg.Off3.of fun p hp => by
    simp only [List.mem_append, List.mem_cons, List.not_mem_nil, or_false] at hp
    rcases hp with (hp | rfl) | hp
    · exact off.mem p (List.mem_append_left _ hp)
    · exact ⟨Ne.symm (Nat.ne_of_lt (l1 _ (.head _))), Ne.symm (Nat.ne_of_lt (l1 _ (.tail _ (.head _)))), Ne.symm (Nat.ne_of_lt (l1 _ (.tail _ (.tail _ (.head _)))))⟩
    · exact off.mem p (List.mem_append_right _ hp)) hS hr
theorem sep_snoc {cl nw : Led} {a : Addr} {o : Obj} (S : Sep cl nw) (l1 : ∀ p ∈ cl ++ nw, p.1 < a) : Sep (cl ++ [(a, o)]) nw :=
  ⟨by
    unfold keys
    rw [List.map_append]
    refine List.nodup_append.mpr ⟨S.nd, by simp, fun x hx y hy e => ?_⟩
    obtain ⟨q, hq, rfl⟩ := List.mem_map.mp hx
    rw [List.map_singleton, List.mem_singleton] at hy
    exact Nat.ne_of_lt (l1 q (List.mem_append_left _ hq)) (e.trans hy), fun q hq y hy => by
    rcases List.mem_append.mp hq with hq | hq
    · exact S.off q hq y hy
    · rw [List.mem_singleton.mp hq]
      exact Ne.symm (Nat.ne_of_lt (l1 y (List.mem_append_right _ hy)))⟩
theorem sep_nil {nw : Led} : Sep [] nw := ⟨List.nodup_nil, fun _ h => (nomatch h)⟩
theorem lt_tail3 {I C D a : Addr} {oI oC oD : Obj} {l : Led} (l1 : ∀ p ∈ (I, oI) :: (C, oC) :: (D, oD) :: l, p.1 < a) : ∀ p ∈ l, p.1 < a := fun p hp => l1 p (.tail _ (.tail _ (.tail _ hp)))
structure KidsNew (g : Heap) (L : Addr) (h : Heap) (cl nw l0 : Led) : Prop where
  N : News g L h (cl ++ (nw ++ l0))
  S : Sep cl (nw ++ l0)
  U : Ap nw l0
theorem kids_new {g h : Heap} {L D : Addr} {o : Obj} {cl nw l0 : Led} (N : News g L h ((D, o) :: (cl ++ (nw ++ l0)))) (o1 : LCg.Off1 D (cl ++ (nw ++ l0))) (S : Sep cl (nw ++ l0)) (U : Ap nw l0) : KidsNew g L h cl ((D, o) :: nw) l0 :=
  ⟨News.sub N fun p hp => by
    simp only [List.mem_append, List.mem_cons] at hp ⊢
    rcases hp with hp | (hp | hp) | hp <;> simp [hp], ⟨S.nd, fun p hp q hq => by
    rcases List.mem_cons.mp (show q ∈ (D, o) :: (nw ++ l0) from hq) with rfl | hq
    · exact off1_mem o1 p (List.mem_append_left _ hp)
    · exact S.off p hp q hq⟩, U.cons fun q hq => Ne.symm (off1_mem o1 q (List.mem_append_right _ (List.mem_append_right _ hq)))⟩
theorem KidsNew.ap {g h : Heap} {L : Addr} {cl nw l0 : Led} (K : KidsNew g L h cl nw l0) : News g L h ((cl ++ nw) ++ l0) ∧ Ap (cl ++ nw) l0 :=
  ⟨by rw [List.append_assoc]; exact K.N, fun p hp q hq => (List.mem_append.mp hp).elim (fun hp => K.S.off p hp q (List.mem_append_right _ hq)) fun hp => K.U p hp q hq⟩
theorem take_snoc {α : Type} {ds : List α} {i : Nat} (d : α) (h : i < ds.length) : ds.take (i + 1) = ds.take i ++ [ds.getD i d] := by
  rw [List.take_add_one, List.getElem?_eq_getElem h, List.getD_eq_getElem?_getD, List.getElem?_eq_getElem h]
  rfl
section
variable {prog : Program} {w : World} {A : Around} {s : Shared} {h₀ : Heap} {L : Addr} {m : Str → Option Value} {env : Env} {elt ct : PySem.Expr} {x : Str} {scope : Scope} {cl₀ : List (Str × Addr)} {S : List (Addr × Obj) → Prop} {P : Nat → Value → Prop} {Fin : List Value → List (Addr × Obj) → Prop}
def MadeEnd (cl nw : Led) (R : Led → Prop) (y : Value) (nw' : Led) : Prop := ∃ a o, y = .ref a ∧ nw' = (cl ++ [(a, o)]) ++ nw ∧ R (cl ++ [(a, o)]) ∧ Sep (cl ++ [(a, o)]) nw
theorem comp_made {n : Nat} {news : Led} (R : Nat → Led → Prop) (h0 : R 0 [])
    (turn : ∀ i cl v I oI C oC D m₂ h tk (E' : Value → Shared → Prop), i < n → P i v → R i cl → Sep cl news → LCg.NsObj oC m₂ → m₂ x = some v → Fr h₀ L h m → News h₀ L h ((I, oI) :: (C, oC) :: (D, LCg.lst (refs cl)) :: (cl ++ news)) → LCg.Off3 I C D (cl ++ news) →
      wpAny (model prog w) A (eval elt (compEnvC scope cl₀ C env)) (LCg.CompEnd h₀ L m { s with heap := h, toks := tk } I oI C oC D (LCg.lst (refs cl)) S (MadeEnd cl news (R (i + 1)))) E' { s with heap := h, toks := tk })
    (fin : ∀ cl, R n cl → Sep cl news → Fin (refs cl) (cl ++ news)) : LCg.CompRest prog w A h₀ L m env elt x scope cl₀ s S P Fin n 0 [] news := by
  refine comp_inv (fun i ys nw => ∃ cl, ys = refs cl ∧ nw = cl ++ news ∧ R i cl ∧ Sep cl news) ⟨[], rfl, rfl, h0, sep_nil⟩ ?_ ?_
  · rintro i ys nw v I oI C oC D m₂ h tk E' hi hP ⟨cl, rfl, rfl, hR, hS⟩ hC hx F N off _
    refine wpAny_mono (turn i cl v I oI C oC D m₂ h tk E' hi hP hR hS hC hx F N off) (fun y s₂ hh => ?_) fun _ _ e => e
    obtain ⟨h', tk', nw', e1, F', N', off', hS, a, o, rfl, rfl, hR', hS'⟩ := hh
    exact ⟨h', tk', _, e1, F', N', off', hS, cl ++ [(a, o)], (refs_snoc cl (a, o)).symm, rfl, hR', hS'⟩
  · rintro ys nw ⟨cl, rfl, rfl, hR, hS⟩
    exact fin cl hR hS
theorem made_end {I C D a : Addr} {oI oC oD o : Obj} {s₁ : Shared} {R : Led → Prop} {h' : Heap} {tk : Nat} {cl nw : Led}
    (F : Fr h₀ L h' m) (N : News h₀ L h' ((a, o) :: (I, oI) :: (C, oC) :: (D, oD) :: (cl ++ nw))) (l1 : ∀ p ∈ (I, oI) :: (C, oC) :: (D, oD) :: (cl ++ nw), p.1 < a) (off : LCg.Off3 I C D (cl ++ nw)) (hS : S ((cl ++ [(a, o)]) ++ nw)) (hs : Sep cl nw) (hr : R (cl ++ [(a, o)])) :
    LCg.CompEnd h₀ L m s₁ I oI C oC D oD S (MadeEnd cl nw R) (.ref a) { s₁ with heap := h', toks := tk } :=
  comp_snoc F N l1 off hS ⟨a, o, rfl, rfl, hr, sep_snoc hs (lt_tail3 l1)⟩
theorem getD_mem {α : Type} {ds : List α} {d : α} {i : Nat} (h : i < ds.length) : ds.getD i d ∈ ds := by
  rw [List.getD_eq_getElem?_getD, List.getElem?_eq_getElem h]
  exact List.getElem_mem _
end
theorem nums_zero {n k : Nat} (h : ¬ k = 0) : (nums n k).getD 0 0 = (n : Int) := by
  cases k with
  | zero => exact absurd rfl h
  | succ k => rfl
theorem kids_one {D : Addr} {k : Nat} {i : Int} {t : Tok} : KidsAre [(D, lsOf [.int i t] k)] [[i]] := .cons (.cons _ _ .nil) .nil
theorem refs_app (l l' : Led) : refs (l ++ l') = refs l ++ refs l' := by simp [refs]
theorem ap_sub {nw nw' l0 : Led} (U : Ap nw l0) (h : ∀ p ∈ nw', p ∈ nw) : Ap nw' l0 := fun p hp => U p (h p hp)
theorem item_eq {xs : List Value} {i : Nat} {y v : Value} (h : xs.toArray[i]? = some y) (h2 : xs[i]? = some v) : y = v := Option.some.inj ((show xs[i]? = some y by simpa using h).symm.trans h2)
theorem tup_at_r {prog : Program} {w : World} {A : Around} {E : Value → Shared → Prop} {s : Shared} {g : Heap} {L D : Addr} {l : Led} {value slice : PySem.Expr} {r : Led} {vs : List Value} {n : Nat} {k : Int} {u : Tok} {v : Value} {Q : Value → Shared → Prop} (_hr : (D, tupOf vs n) ∈ r) (N : News g L s.heap l) (hm : (D, tupOf vs n) ∈ l) (h0 : 0 ≤ k) (hk : k < 1000) (hx : vs[k.toNat]? = some v) (h : Q v s)
    (hs : subscripted slice false (.ref D) (.int k u) = operate [.ref D, .int k u] (getItem (.ref D) (.int k u)) := by with_unfolding_all rfl) :
    wpAny (model prog w) A (subscriptTail value slice (.ref D) (.int k u)) Q E s := tup_at N hm h0 hk hx h hs
theorem comp_src {prog : Program} {w : World} {A : Around} {h₀ : Heap} {L : Addr} {m : Str → Option Value} {env : Env} {elt : PySem.Expr} {x : Str} {scope : Scope} {cl : List (Str × Addr)} {Fin : Shared → List Value → List (Addr × Obj) → Prop} {ax : Addr} {k : Nat} {news : List (Addr × Obj)} {s₁ : Shared} (its : List Value)
    (hh : A.handled = none) (F : Fr h₀ L s₁.heap m) (N : News h₀ L s₁.heap news) (hm : (ax, lsOf its k) ∈ news) (hsz : its.length ≤ 1000)
    (h : ∀ g, LCg.CompRest prog w A h₀ L m env elt x scope cl { s₁ with heap := g } (LCg.SrcAt h₀ ax its.toArray) (fun i v => its.toArray[i]? = some v) (Fin { s₁ with heap := g }) its.toArray.size 0 [] news) :
    LCg.CompSrc prog w A h₀ L m env elt x scope cl Fin (.ref ax) s₁ := LCg.CompSrc.ledger hh F N hm (by rw [sizeLine_eq, List.size_toArray]; omega) h
theorem src_in {h₀ : Heap} {ax : Addr} {its : List Value} {k : Nat} {news : Led} (hm : (ax, lsOf its k) ∈ news) : LCg.SrcAt h₀ ax its.toArray news := Or.inr ⟨_, hm, rfl, _, rfl⟩
theorem row_c {P : Params} {z : Led} {xs : List Value} {es : List Ent} {i : Nat} {y : Value} {C : Prop} (h : RowAre P z xs es) (hi : i < es.length) (hP : xs.toArray[i]? = some y)
    (k : ∀ a b t tn n vs, y = .ref a → (a, tupOf [.int (es.getD i (0, Str.ofString "", [])).1 t, .str (es.getD i (0, Str.ofString "", [])).2.1 tn, .ref b] n) ∈ z → TupIn P z b vs → PairsAre z vs (es.getD i (0, Str.ofString "", [])).2.2 → C) : C := by
  obtain ⟨a, b, t, tn, n, vs, e1, e2, e3, e4⟩ := row_at h hi
  exact k a b t tn n vs (item_eq hP e1) e2 e3 e4
theorem attrs_c {z cl : Led} {ds : List (List (Str × Str))} {i : Nat} {y : Value} {C : Prop} (hA : AttrsAre z cl ds) (hi : i < ds.length) (hP : (refs cl).toArray[i]? = some y)
    (k : ∀ c vs n, y = .ref c → (c, lsOf vs n) ∈ cl → PairsAre z vs (ds.getD i []) → C) : C := by
  obtain ⟨c, vs, n, hc, hv⟩ := attrs_at hA hi
  exact k c vs n (item_eq hP (by rw [refs, List.getElem?_map, hc]; rfl)) (List.mem_of_getElem? hc) hv
theorem kids_c {cl : Led} {ds : List (List Int)} {i : Nat} {y : Value} {C : Prop} (hA : KidsAre cl ds) (hi : i < ds.length) (hP : (refs cl).toArray[i]? = some y)
    (k : ∀ c vs n, y = .ref c → (c, lsOf vs n) ∈ cl → IntsAre vs (ds.getD i []) → C) : C := by
  obtain ⟨c, vs, n, hc, hv⟩ := kids_at hA hi
  exact k c vs n (item_eq hP (by rw [refs, List.getElem?_map, hc]; rfl)) (List.mem_of_getElem? hc) hv
theorem ints_c {vs : List Value} {ns : List Int} {i : Nat} {y : Value} {C : Prop} (hA : IntsAre vs ns) (hi : i < ns.length) (hP : vs.toArray[i]? = some y) (k : ∀ t, y = .int (ns.getD i 0) t → C) : C := by
  obtain ⟨t, ht⟩ := ints_at hA hi
  exact k t (item_eq hP ht)
theorem made_c {g h : Heap} {L D : Addr} {o : Obj} {cl nw l0 : Led} {C : Prop} (N : News g L h ((D, o) :: (cl ++ (nw ++ l0)))) (o1 : LCg.Off1 D (cl ++ (nw ++ l0))) (S : Sep cl (nw ++ l0)) (U : Ap nw l0)
    (k : News g L h ((cl ++ (D, o) :: nw) ++ l0) → Ap (cl ++ (D, o) :: nw) l0 → C) : C :=
  k (kids_new N o1 S U).ap.1 (kids_new N o1 S U).ap.2
theorem row_cx {P : Params} {z : Led} {xs : List Value} {es : List Ent} {i : Nat} {C : Prop} (h : RowAre P z xs es) (hi : i < es.length)
    (k : ∀ a b t tn n vs, xs[i]? = some (.ref a) → (a, tupOf [.int (es.getD i (0, Str.ofString "", [])).1 t, .str (es.getD i (0, Str.ofString "", [])).2.1 tn, .ref b] n) ∈ z → TupIn P z b vs → PairsAre z vs (es.getD i (0, Str.ofString "", [])).2.2 → C) : C := by
  obtain ⟨a, b, t, tn, n, vs, e1, e2, e3, e4⟩ := row_at h hi
  exact k a b t tn n vs e1 e2 e3 e4
theorem dat_ints {news : Led} {vs : List Value} {ns : List Int} (h : IntsAre vs ns) : DatAll news vs (ns.map Dat.int) := by
  induction h with
  | nil => exact .nil
  | cons y t _ ih => exact .cons (.int y t) ih
theorem dat_strs {news : Led} {vs : List Value} {ys : List Str} (h : StrsAre vs ys) : DatAll news vs (ys.map Dat.str) := by
  induction h with
  | nil => exact .nil
  | cons y t _ ih => exact .cons (.str y t) ih
theorem dat_kids {news cl : Led} {ds : List (List Int)} (h : KidsAre cl ds) (hs : ∀ p ∈ cl, p ∈ news) : DatAll news (refs cl) (ds.map fun d => Dat.list (d.map Dat.int)) := by
  induction h with
  | nil => exact .nil
  | cons hv _ ih => exact .cons (.list (hs _ (.head _)) (dat_ints hv)) (ih fun p hp => hs p (.tail _ hp))
theorem dat_pairs {news z : Led} {vs : List Value} {d : List (Str × Str)} (h : PairsAre z vs d) (hz : ∀ p ∈ z, p ∈ news) : DatAll news vs (d.map fun p => Dat.tuple [.str p.1, .str p.2]) := by
  induction h with
  | nil => exact .nil
  | cons hm _ ih => exact .cons (.tuple (hz _ hm) (.cons (.str _ _) (.cons (.str _ _) .nil))) ih
theorem dat_attrs {news z cl : Led} {ds : List (List (Str × Str))} (h : AttrsAre z cl ds) (hs : ∀ p ∈ cl, p ∈ news) (hz : ∀ p ∈ z, p ∈ news) : DatAll news (refs cl) (ds.map fun d => Dat.list (d.map fun p => Dat.tuple [.str p.1, .str p.2])) := by
  induction h with
  | nil => exact .nil
  | cons hv _ ih => exact .cons (.list (hs _ (.head _)) (dat_pairs hv hz)) (ih fun p hp => hs p (.tail _ hp))
theorem strs_rep {y : Str} {t : Tok} {k k' : Nat} (h : k = k') : StrsAre (List.replicate k (.str y t)) (List.replicate k' y) := by
  subst h
  induction k with
  | zero => exact .nil
  | succ k ih => exact .cons _ _ ih
theorem strs_app {vs ws : List Value} {ys zs : List Str} (h : StrsAre vs ys) (k : StrsAre ws zs) : StrsAre (vs ++ ws) (ys ++ zs) := by
  induction h with
  | nil => exact k
  | cons y t _ ih => exact .cons _ _ ih
theorem dat10 {news : Led} {a1 a2 a3 a4 a5 a6 a7 a8 a9 a10 : Addr} {v1 v2 v3 v4 v5 v6 v7 v8 v9 v10 : List Value} {k1 k2 k3 k4 k5 k6 k7 k8 k9 k10 : Nat} {d1 d2 d3 d4 d5 d6 d7 d8 d9 d10 : List Dat}
    (m1 : (a1, lsOf v1 k1) ∈ news) (h1 : DatAll news v1 d1)
    (m2 : (a2, lsOf v2 k2) ∈ news) (h2 : DatAll news v2 d2)
    (m3 : (a3, lsOf v3 k3) ∈ news) (h3 : DatAll news v3 d3)
    (m4 : (a4, lsOf v4 k4) ∈ news) (h4 : DatAll news v4 d4)
    (m5 : (a5, lsOf v5 k5) ∈ news) (h5 : DatAll news v5 d5)
    (m6 : (a6, lsOf v6 k6) ∈ news) (h6 : DatAll news v6 d6)
    (m7 : (a7, lsOf v7 k7) ∈ news) (h7 : DatAll news v7 d7)
    (m8 : (a8, lsOf v8 k8) ∈ news) (h8 : DatAll news v8 d8)
    (m9 : (a9, lsOf v9 k9) ∈ news) (h9 : DatAll news v9 d9)
    (m10 : (a10, lsOf v10 k10) ∈ news) (h10 : DatAll news v10 d10)
    : DatAll news [.ref a1, .ref a2, .ref a3, .ref a4, .ref a5, .ref a6, .ref a7, .ref a8, .ref a9, .ref a10] [.list d1, .list d2, .list d3, .list d4, .list d5, .list d6, .list d7, .list d8, .list d9, .list d10] :=
  .cons (.list m1 h1) (.cons (.list m2 h2) (.cons (.list m3 h3) (.cons (.list m4 h4) (.cons (.list m5 h5) (.cons (.list m6 h6) (.cons (.list m7 h7) (.cons (.list m8 h8) (.cons (.list m9 h9) (.cons (.list m10 h10) (.nil))))))))))
end
section
section
variable {prog : Program} {w : World} {A : Around} {E : Value → Shared → Prop} {s : Shared} {g : Heap} {L : Addr} {m : Str → Option Value} {l₁ l₂ r : Led} {Q : Value → Shared → Prop}
theorem new_list3 {vs : List Value} (F : Fr g L s.heap m) (N : News g L s.heap (l₁ ++ (l₂ ++ r))) (S : Sep2 l₁ l₂ r) (hz : vs.length ≤ 1000)
    (h : ∀ D h', Fr g L h' m → News g L h' (l₁ ++ (l₂ ++ (D, lsOf vs 0) :: r)) → Sep2 l₁ l₂ ((D, lsOf vs 0) :: r) → (∀ q ∈ r, D ≠ q.1) → Q (.ref D) { s with heap := h' }) :
    wpAny (model prog w) A (newList vs) Q E s :=
  newList_K F N (fun D h' F' N' l1 => h D h' F' (News.sub N' fun q hq => by
    simp only [List.mem_append, List.mem_cons] at hq ⊢
    rcases hq with hq | hq | hq | hq <;> simp [hq]) (S.fresh l1) fun q hq => Ne.symm (Nat.ne_of_lt (l1 q (List.mem_append_right _ (List.mem_append_right _ hq))))) (by rw [sizeLine_eq]; omega)
theorem list_tup3 {a : Addr} {vs : List Value} {k : Nat} (F : Fr g L s.heap m) (N : News g L s.heap (l₁ ++ (l₂ ++ r))) (S : Sep2 l₁ l₂ r) (ha : (a, tupOf vs k) ∈ r) (hz : vs.length ≤ 1000)
    (h : ∀ D c h', Fr g L h' m → News g L h' (l₁ ++ (l₂ ++ (D, lsOf vs c) :: r)) → Sep2 l₁ l₂ ((D, lsOf vs c) :: r) → (∀ q ∈ r, D ≠ q.1) → Q (.ref D) { s with heap := h' }) :
    wpAny (model prog w) A (call (.type "list") [.ref a]) Q E s :=
  list_copyKT F N (N.isTup (List.mem_append_right _ (List.mem_append_right _ ha))) (fun D c h' F' N' l1 => h D c h' F' (News.sub N' fun q hq => by
    simp only [List.mem_append, List.mem_cons] at hq ⊢
    rcases hq with hq | hq | hq | hq <;> simp [hq]) (S.fresh l1) fun q hq => Ne.symm (Nat.ne_of_lt (l1 q (List.mem_append_right _ (List.mem_append_right _ hq))))) (by rw [sizeLine_eq, List.size_toArray]; omega)
theorem law_start {h : Heap} {oI lI rI : Addr} {t1 t2 : Tok} {c : Nat} (N : News g L h (l₁ ++ (l₂ ++ (rI, lsOf [] 0) :: (lI, lsOf [] 0) :: (oI, lsOf [.int 1 t1, .int 3 t2] c) :: r))) (S : Sep2 l₁ l₂ ((rI, lsOf [] 0) :: (lI, lsOf [] 0) :: (oI, lsOf [.int 1 t1, .int 3 t2] c) :: r))
    (h1 : ∀ q ∈ r, oI ≠ q.1) (h2 : ∀ q ∈ (oI, lsOf [.int 1 t1, .int 3 t2] c) :: r, lI ≠ q.1) (h3 : ∀ q ∈ (lI, lsOf [] 0) :: (oI, lsOf [.int 1 t1, .int 3 t2] c) :: r, rI ≠ q.1) :
    ∃ (R : Led) (x : LRaw), R = r ∧ News g L h (l₁ ++ (l₂ ++ (x.led ⟨oI, lI, rI⟩ ++ R))) ∧ Sep2 l₁ l₂ (x.led ⟨oI, lI, rI⟩ ++ R) ∧ Sep (x.led ⟨oI, lI, rI⟩) R ∧ IntsAre x.oV [1, 3] ∧ IntsAre x.lV [] ∧ x.rV = [] := by
  refine ⟨r, ⟨[.int 1 t1, .int 3 t2], [], [], c, 0, 0⟩, rfl, News.sub N fun p hp => ?_, S.sub fun p hp => ?_, ⟨?_, fun p hp q hq => ?_⟩, .cons _ _ (.cons _ _ .nil), .nil, rfl⟩
  · simp only [LRaw.led, List.mem_append, List.mem_cons, List.not_mem_nil, or_false] at hp ⊢
    rcases hp with hp | hp | (hp | hp | hp) | hp <;> simp [hp]
  · simp only [LRaw.led, List.mem_append, List.mem_cons, List.not_mem_nil, or_false] at hp ⊢
    rcases hp with (hp | hp | hp) | hp <;> simp [hp]
  · simp only [keys, LRaw.led, List.map_cons, List.map_nil, List.nodup_cons, List.mem_cons, List.not_mem_nil, or_false, not_or, not_false_eq_true, List.nodup_nil, and_true]
    exact ⟨⟨Ne.symm (h2 _ (.head _)), Ne.symm (h3 _ (.tail _ (.head _)))⟩, Ne.symm (h3 _ (.head _))⟩
  · simp only [LRaw.led, List.mem_cons, List.not_mem_nil, or_false] at hp
    rcases hp with rfl | rfl | rfl
    · exact h1 q hq
    · exact h2 q (.tail _ hq)
    · exact h3 q (.tail _ (.tail _ hq))
theorem ne_same {a b : Addr} {xs ys : List Value} {i j : Nat} {ns : List Int} {l : Led} (N : News g L s.heap l) (ha : (a, lsOf xs i) ∈ l) (hb : (b, lsOf ys j) ∈ l) (hi : IntsAre xs ns) (hj : IntsAre ys ns) (hu : A.units + 64 < cLine) (h : Q (.bool false) s) :
    wpAny (model prog w) A (compareOp .NotEq (.ref a) (.ref b)) Q E s :=
  ke_ne_ints (N.isList ha) (N.isList hb) hi hj hu (by rw [decide_eq_true rfl]; exact h)
end
/-! the late ones go -/
structure LateI (stack late : List Int) (i : Nat) (st : List Int) : Prop where
  one : (1 : Int) ∈ st
  sub : ∀ y ∈ st, y ∈ stack
  mem : ∀ y ∈ late.drop i, y ∈ st
  len : st.length ≤ stack.length
theorem LateI.step {stack late st : List Int} {i : Nat} {y : Int} (I : LateI stack late i st) (hn : late.Nodup) (h4 : ∀ y ∈ late, (4 : Int) ≤ y) (hy : late[i]? = some y) : y ∈ st ∧ LateI stack late (i + 1) (st.erase y) := by
  obtain ⟨hi, e⟩ := List.getElem?_eq_some_iff.mp hy
  have hd : late.drop i = y :: late.drop (i + 1) := by rw [← e]; exact List.drop_eq_getElem_cons hi
  have hm : y ∈ st := I.mem y (by rw [hd]; exact .head _)
  have hyl : y ∈ late := e ▸ List.getElem_mem hi
  have hnd : (y :: late.drop (i + 1)).Nodup := hd ▸ hn.sublist (List.drop_sublist _ _)
  have hny := (List.nodup_cons.mp hnd).1
  refine ⟨hm, (List.mem_erase_of_ne (fun e => by have := h4 y hyl; omega)).mpr I.one, fun z hz => I.sub z (List.mem_of_mem_erase hz), fun z hz => (List.mem_erase_of_ne fun ez : z = y => hny (by rw [← ez]; exact hz)).mpr (I.mem z (by rw [hd]; exact .tail _ hz)), Nat.le_trans (List.length_erase_le) I.len⟩
theorem Inv.late0 {T : Tr} {n k : Nat} {stack fmt late : List Int} {row : List Ent} (I : Inv T n stack fmt late row k) : LateI stack late 0 stack :=
  ⟨I.one, fun _ h => h, fun y hy => (I.lm y (by simpa using hy)).1, Nat.le_refl _⟩
theorem dig_end {h₀ : Heap} {L J : Addr} {jt : Obj} {q : Addr × Obj} {R : Led} {P : (Str → Option Value) → Led → Prop} {s₁ : Shared} {h' : Heap} {tk : Nat} {m' : Str → Option Value} (F : Fr h₀ L h' m') (N : News h₀ L h' ([q] ++ (J, jt) :: R)) (off : ∀ p ∈ q :: R, p.1 ≠ J) (hP : P m' ([q] ++ R)) :
    UnrEnd h₀ L s₁ J jt P { s₁ with heap := h', toks := tk } :=
  turn_end F N (.tail _ (.head _)) (fun p hp => by
    rcases List.mem_cons.mp (show p ∈ q :: R from hp) with rfl | hp
    · exact .head _
    · exact .tail _ (.tail _ hp)) (fun p hp => off p hp) hP
/-! the loop of the steps -/
def ScP (prog : Program) (w : World) (ad : TAd) (bd : BAd) (la : LAd) (R : Led) (j : Nat) (l : Led) : Prop :=
  ∃ z u v x T stack fmt late row n, l = BRaw.led w.params ad bd v ++ (TRaw.led w.params ad u ++ (LRaw.led la x ++ (z ++ R))) ∧ Sc prog w ad bd la z (z ++ R) u v x T stack fmt late row n ∧ Inv T n stack fmt late row j ∧ ∀ q ∈ z, q.2.cls = .type "tuple"
section
variable {prog : Program} {w : World} {ad : TAd} {bd : BAd} {la : LAd} {R : Led} {j : Nat} {l : Led} {g h : Heap} {L J : Addr} {jt : Obj}
theorem Sc.re {z r r' : Led} {u : TRaw} {v : BRaw} {x : LRaw} {T : Tr} {stack fmt late : List Int} {row : List Ent} {n : Nat} (C : Sc prog w ad bd la z r u v x T stack fmt late row n) (S2 : Sep2 (v.led w.params ad bd) (u.led w.params ad) (x.led la ++ r')) (S3 : Sep (x.led la) r') (hz : ∀ q ∈ r, q ∈ r') : Sc prog w ad bd la z r' u v x T stack fmt late row n :=
  ⟨S2, S3, C.H, C.o, C.l, C.rw, fun q hq => hz q (C.zr q hq), C.fo, C.mo⟩
theorem scp_in {C : Prop} (H : ScP prog w ad bd la R j l) (N : News g L h ((J, jt) :: l)) (hjt : jt.cls ≠ .type "tuple") (offR : ∀ p ∈ R, p.1 ≠ J) (offl : ∀ p ∈ l, p.1 ≠ J)
    (k : ∀ z u v x T stack fmt late row n, Sc prog w ad bd la z ((J, jt) :: (z ++ R)) u v x T stack fmt late row n → Inv T n stack fmt late row j → (∀ q ∈ z, q.2.cls = .type "tuple") → News g L h (BRaw.led w.params ad bd v ++ (TRaw.led w.params ad u ++ (LRaw.led la x ++ (J, jt) :: (z ++ R)))) → C) : C := by
  obtain ⟨z, u, v, x, T, stack, fmt, late, row, n, rfl, hC, hI, hz⟩ := H
  obtain ⟨a, b⟩ := put_it (it := jt) hC.S2 hC.S3 offl
  exact k z u v x T stack fmt late row n (hC.re a b fun q hq => .tail _ hq) hI hz (put_news N)
theorem scp_end {P : (Str → Option Value) → Led → Prop} {s₁ : Shared} {tk : Nat} {m' : Str → Option Value} {z z' : Led} {u : TRaw} {v : BRaw} {x : LRaw} {T : Tr} {stack fmt late : List Int} {row : List Ent} {n : Nat} {ln : Addr} {o9 : Obj}
    (F : Fr g L h m') (N : News g L h (BRaw.led w.params ad bd v ++ (TRaw.led w.params ad u ++ (LRaw.led la x ++ (z' ++ (ln, o9) :: (J, jt) :: (z ++ R)))))) (C : Sc prog w ad bd la (z' ++ z) (z' ++ (ln, o9) :: (J, jt) :: (z ++ R)) u v x T stack fmt late row n) (I : Inv T n stack fmt late row j)
    (hz' : ∀ q ∈ z', q.2.cls = .type "tuple") (hz : ∀ q ∈ z, q.2.cls = .type "tuple") (hjt : jt.cls = .type "range_iterator") (offR : ∀ p ∈ R, p.1 ≠ J) (hP : ∀ l, (∀ p ∈ l, p.1 ≠ J) → ScP prog w ad bd la R j l → P m' l) : UnrEnd g L s₁ J jt P { s₁ with heap := h, toks := tk } := by
  have mJ : (J, jt) ∈ z' ++ (ln, o9) :: (J, jt) :: (z ++ R) := by simp
  have mAll : ∀ q ∈ z' ++ (ln, o9) :: (J, jt) :: (z ++ R), q ∈ BRaw.led w.params ad bd v ++ (TRaw.led w.params ad u ++ (LRaw.led la x ++ (z' ++ (ln, o9) :: (J, jt) :: (z ++ R)))) := fun q hq => List.mem_append_right _ (List.mem_append_right _ (List.mem_append_right _ hq))
  have sub0 : ∀ q ∈ (z' ++ z) ++ R, q ∈ z' ++ (ln, o9) :: (J, jt) :: (z ++ R) := fun q hq => by
    simp only [List.mem_append, List.mem_cons] at hq ⊢
    rcases hq with (hq | hq) | hq <;> simp [hq]
  have sub : ∀ q ∈ BRaw.led w.params ad bd v ++ (TRaw.led w.params ad u ++ (LRaw.led la x ++ ((z' ++ z) ++ R))), q ∈ BRaw.led w.params ad bd v ++ (TRaw.led w.params ad u ++ (LRaw.led la x ++ (z' ++ (ln, o9) :: (J, jt) :: (z ++ R)))) := fun q hq => by
    rcases List.mem_append.mp hq with hq | hq
    · exact List.mem_append_left _ hq
    · rcases List.mem_append.mp hq with hq | hq
      · exact List.mem_append_right _ (List.mem_append_left _ hq)
      · rcases List.mem_append.mp hq with hq | hq
        · exact List.mem_append_right _ (List.mem_append_right _ (List.mem_append_left _ hq))
        · exact mAll q (sub0 q hq)
  have off : ∀ p ∈ BRaw.led w.params ad bd v ++ (TRaw.led w.params ad u ++ (LRaw.led la x ++ ((z' ++ z) ++ R))), p.1 ≠ J := fun p hp => by
    rcases List.mem_append.mp hp with hp | hp
    · exact C.S2.one.off p hp (J, jt) (List.mem_append_right _ (List.mem_append_right _ mJ))
    · rcases List.mem_append.mp hp with hp | hp
      · exact C.S2.two.off p hp (J, jt) (List.mem_append_right _ (List.mem_append_right _ mJ))
      · rcases List.mem_append.mp hp with hp | hp
        · exact C.S3.off p hp (J, jt) mJ
        · rcases List.mem_append.mp hp with hp | hp
          · refine cls_ne N (mAll p (sub0 p (List.mem_append_left _ hp))) (mAll _ mJ) ?_
            rw [hjt]
            rcases List.mem_append.mp hp with hp | hp
            · rw [hz' p hp]
              decide
            · rw [hz p hp]
              decide
          · exact offR p hp
  refine turn_end F N (mAll _ mJ) sub off (hP _ off ⟨z' ++ z, u, v, x, T, stack, fmt, late, row, n, rfl, ⟨?_, ?_, C.H, C.o, C.l, C.rw, fun q hq => List.mem_append_left _ hq, C.fo, C.mo⟩, I, fun q hq => (List.mem_append.mp hq).elim (hz' q) (hz q)⟩)
  · exact C.S2.sub fun q hq => (List.mem_append.mp hq).elim (fun h => List.mem_append_left _ h) fun h => List.mem_append_right _ (sub0 q h)
  · exact ⟨C.S3.nd, fun p hp q hq => C.S3.off p hp q (sub0 q hq)⟩
end
theorem sub_at_r {prog : Program} {w : World} {A : Around} {E : Value → Shared → Prop} {s : Shared} {g : Heap} {L D : Addr} {l : Led} {value slice : PySem.Expr} {r : Led} {vs : List Value} {n : Nat} {k : Int} {u : Tok} {v : Value} {Q : Value → Shared → Prop} (_hr : (D, lsOf vs n) ∈ r) (N : News g L s.heap l) (hm : (D, lsOf vs n) ∈ l) (h0 : 0 ≤ k) (hk : k < 1000) (hx : vs[k.toNat]? = some v) (h : Q v s)
    (hs : subscripted slice false (.ref D) (.int k u) = operate [.ref D, .int k u] (getItem (.ref D) (.int k u)) := by with_unfolding_all rfl) :
    wpAny (model prog w) A (subscriptTail value slice (.ref D) (.int k u)) Q E s := sub_at N hm h0 hk hx h hs
theorem take_it {l₁ l₂ l₃ r : Led} {J : Addr} {it : Obj} (S : Sep2 l₁ l₂ (l₃ ++ (J, it) :: r)) (T : Sep l₃ ((J, it) :: r)) : Sep2 l₁ l₂ (l₃ ++ r) ∧ Sep l₃ r :=
  ⟨S.sub fun q hq => (List.mem_append.mp hq).elim (fun h => List.mem_append_left _ h) fun h => List.mem_append_right _ (.tail _ h), T.tail⟩
/-! the loop of the late ones -/
theorem lst_to2 {prog : Program} {w : World} {A : Around} {E : Value → Shared → Prop} {s : Shared} {env : Env} {h₀ : Heap} {x : Str} {body : List Stmt} {Q : Flow → Shared → Prop} {ax : Addr} {lo : Obj} {vs : List Value} {n : Nat} {m₀ : Str → Option Value} {news : List (Addr × Obj)} (P : Addr → Nat → (Str → Option Value) → List (Addr × Obj) → Prop)
    (hh : A.handled = none) (F : Fr h₀ env.locals s.heap m₀) (N : News h₀ env.locals s.heap news) (hm : (ax, lo) ∈ news) (hc : lo.cls = .type "list") (hd : lo.data = .seq vs.toArray n)
    (h0 : ∀ I : Addr, (∀ p ∈ news, p.1 < I) → P I 0 m₀ news)
    (step : ∀ I i m l v, vs[i]? = some v → P I i m l → ∀ it h tk, it.cls = .type "list_iterator" → Fr h₀ env.locals h (fun y => if y = x then some v else m y) → News h₀ env.locals h ((I, it) :: l) →
      wpAny (model prog w) A (execs body env) (UnrPost h₀ env.locals { s with heap := h, toks := tk } I it (fun m' n' => (ax, lo) ∈ n' ∧ P I (i + 1) m' n') (fun f s' => match f with | .ret v => Q (.ret v) s' | _ => False)) E { s with heap := h, toks := tk })
    (done : ∀ I m l h tk, P I vs.length m l → Fr h₀ env.locals h m → News h₀ env.locals h l → Q .next { s with heap := h, toks := tk }) :
    wpAny (model prog w) A (pyIter (.ref ax)) (fun it s₂ => LoopAtV prog w A h₀ env x body Q E it s₂) E s := by
  refine iter_listUnr hh F N hm hc hd fun I hI => ?_
  have all : ∀ (vs' : List Value) i m l, vs.drop i = vs' → i ≤ vs.length → P I i m l → ListRest prog w A E h₀ env x body Q s I (ax, lo) vs' m l := by
    intro vs'
    induction vs' with
    | nil =>
      intro i m l e hi hP
      have e' : i = vs.length := by
        have := congrArg List.length e
        rw [List.length_drop, List.length_nil] at this
        omega
      subst e'
      exact ListRest.zero fun h tk F N => done I m l h tk hP F N
    | cons v vs' ih =>
      intro i m l e hi hP
      have hlt : i < vs.length := by
        have := congrArg List.length e
        rw [List.length_drop, List.length_cons] at this
        omega
      have hv : vs[i]? = some v := by
        have := congrArg (fun l => l[0]?) e
        simpa using this
      exact ListRest.succ fun it h tk hc F N => wpAny_mono (step I i m l v hv hP it h tk hc F N) (fun f s₂ hu => by
        have nx : ∀ m' l', ((ax, lo) ∈ l' ∧ P I (i + 1) m' l') → (ax, lo) ∈ l' ∧ ListRest prog w A E h₀ env x body Q s I (ax, lo) vs' m' l' := fun m' l' hP' => ⟨hP'.1, ih (i + 1) m' l' (by
          rw [← List.tail_drop, e]
          rfl) hlt hP'.2⟩
        cases f with
        | next => exact UnrEnd.mono' hu nx
        | cont => exact UnrEnd.mono' hu nx
        | brk => exact hu.elim
        | ret v => exact hu) fun _ _ e => e
  exact all vs 0 m₀ news rfl (Nat.zero_le _) (h0 I hI)
structure LaS (w : World) (ad : TAd) (bd : BAd) (la : LAd) (R : Led) (u : TRaw) (fmt late stack : List Int) (x0 : LRaw) (i : Nat) (v : BRaw) (x : LRaw) (st : List Int) : Prop where
  S2 : Sep2 (v.led w.params ad bd) (u.led w.params ad) (x.led la ++ R)
  S3 : Sep (x.led la) R
  B : BAbs v st fmt
  o : IntsAre x.oV st
  lV : x.lV = x0.lV
  lN : x.lN = x0.lN
  rV : x.rV = x0.rV
  I : LateI stack late i st
  fo : v.foster = false
  mo : v.mode = Str.ofString "in body"
def LaP (w : World) (ad : TAd) (bd : BAd) (la : LAd) (R : Led) (u : TRaw) (fmt late stack : List Int) (x0 : LRaw) (i : Nat) (l : Led) : Prop :=
  ∃ v x st, l = BRaw.led w.params ad bd v ++ (TRaw.led w.params ad u ++ (LRaw.led la x ++ R)) ∧ LaS w ad bd la R u fmt late stack x0 i v x st
section
variable {w : World} {ad : TAd} {bd : BAd} {la : LAd} {R l : Led} {u : TRaw} {fmt late stack : List Int} {x0 : LRaw} {i : Nat} {g h : Heap} {L J : Addr} {jt : Obj}
theorem lap_in {C : Prop} (H : LaP w ad bd la R u fmt late stack x0 i l) (N : News g L h ((J, jt) :: l)) (offl : ∀ p ∈ l, p.1 ≠ J)
    (k : ∀ v x st, LaS w ad bd la R u fmt late stack x0 i v x st → Sep2 (v.led w.params ad bd) (u.led w.params ad) (x.led la ++ (J, jt) :: R) → Sep (x.led la) ((J, jt) :: R) → News g L h (BRaw.led w.params ad bd v ++ (TRaw.led w.params ad u ++ (LRaw.led la x ++ (J, jt) :: R))) → C) : C := by
  obtain ⟨v, x, st, rfl, S⟩ := H
  obtain ⟨a, b⟩ := put_it (it := jt) S.S2 S.S3 offl
  exact k v x st S a b (put_news N)
theorem lap_end {P : (Str → Option Value) → Led → Prop} {s₁ : Shared} {tk : Nat} {m' : Str → Option Value} {v : BRaw} {x : LRaw} {st : List Int} (F : Fr g L h m') (N : News g L h (BRaw.led w.params ad bd v ++ (TRaw.led w.params ad u ++ (LRaw.led la x ++ (J, jt) :: R))))
    (S2 : Sep2 (v.led w.params ad bd) (u.led w.params ad) (x.led la ++ (J, jt) :: R)) (S3 : Sep (x.led la) ((J, jt) :: R)) (B : BAbs v st fmt) (o : IntsAre x.oV st) (lV : x.lV = x0.lV) (lN : x.lN = x0.lN) (rV : x.rV = x0.rV) (I : LateI stack late i st) (fo : v.foster = false) (mo : v.mode = Str.ofString "in body") (offR : ∀ p ∈ R, p.1 ≠ J)
    (hP : ∀ l, (∀ p ∈ l, p.1 ≠ J) → (la.lI, lsOf x0.lV x0.lN) ∈ l → LaP w ad bd la R u fmt late stack x0 i l → P m' l) : UnrEnd g L s₁ J jt P { s₁ with heap := h, toks := tk } := by
  have off := off_it S2 S3 offR
  obtain ⟨a, b⟩ := take_it S2 S3
  refine turn_end F N mem_it sub_it off (hP _ off ?_ ⟨v, x, st, rfl, a, b, B, o, lV, lN, rV, I, fo, mo⟩)
  rw [← lV, ← lN]
  exact List.mem_append_right _ (List.mem_append_right _ (List.mem_append_left _ (.tail _ (.head _))))
end
end
theorem fillK : PySem.Challenge.rw_nz0095_01 = PySem.Challenge.rw_nz0095_01 ∧ Mine.H.heap_1 = Mine.H.heap_1 := by
  w_top off
  k_fill
  exact ⟨rfl, rfl⟩
theorem rows40 : True := by
  k_with_none
  (k_with "nz:omega" => ((k_whole; first | with_reducible assumption | exact Nat.le_refl _ | exact Nat.zero_le _ | exact Nat.le_trans (by with_reducible assumption) (Nat.le_of_ble_eq_true rfl) | exact Nat.ne_of_lt (by with_reducible assumption) | exact Nat.ne_of_gt (by with_reducible assumption) | exact Nat.le_of_lt (by with_reducible assumption) | (with_reducible exact Nz.tnlt0 (by assumption) (by assumption)) | (with_reducible exact Nz.tnlt (by assumption) (by assumption) (by assumption)) | (with_reducible exact Nat.sub_one_lt_of_lt (by assumption)) | (with_reducible exact Nz.lec (by assumption) (by assumption) (Eq.refl true)) | (with_reducible exact Nz.up_le (by assumption) (Eq.refl true)) | (with_reducible exact Nz.n_up) | (with_reducible exact Nz.lt_up (by assumption)) | (with_reducible exact Nz.pa1 (by assumption)) | (with_reducible exact Nz.pa2 (by assumption)) | (with_reducible exact Nz.pa3 (by assumption)) | (with_reducible exact Nz.pa4 (by assumption)) | (with_reducible exact Nat.pred_lt (by assumption)) | (with_reducible exact Nz.kltc (by assumption) (by assumption) (by decide)) | (with_reducible exact Nz.tnm1) | (with_reducible exact Nz.tnx (by assumption)) | (with_reducible exact Nz.tn1 (by assumption)) | (with_reducible exact Nz.tn2 (by assumption)) | (with_reducible exact Nz.tn2m (by assumption)) | (with_reducible exact Nz.tn3m (by assumption)) | (with_reducible exact Nz.m1lt (by assumption)) | lia)))
  (k_with "nz:k_mem" => (((show (_ : Addr × Obj) ∈ (_ : List (Addr × Obj))); (with_reducible show _ ∈ _ ++ _); first | (with_reducible exact List.mem_append_right _ (List.Mem.head _)) | (refine' List.mem_append_left _ ?_; k_mem) | (refine' List.mem_append_right _ ?_; k_mem))))
  (k_with "nz:k_mem" => (((show (_ : Addr × Obj) ∈ (_ : List (Addr × Obj))); (with_reducible show _ ∈ TRaw.led _ _ _); first | exact KidAt.mem (by with_reducible assumption) | exact AttrAt.mem (by with_reducible assumption))))
  (k_with "nz:size_fits" => (((try simp only [List.length_append, List.length_cons, List.length_nil, refs_length]); first | omega | (rw [sizeLine_eq]; omega))))
  (k_with "nz:call builtin:list.append" => ((k_here; (with_reducible show wpAny _ _ (call (Value.builtin _) [Value.ref _, _]) _ _ _); k_dflt (first | (refine' app_kI ?zqk1 ?zqk2 ?zqk3 ?zqk4 ?_; (case zqk1 => k_asm); (case zqk2 => k_asm); (case zqk3 => k_asm); (case zqk4 => size_fits); k_whole) | (refine' app_spI ?zqk1 ?zqk2 ?zqk3 ?zqk4 ?_; (case zqk1 => k_asm); (case zqk2 => k_asm); (case zqk3 => k_asm); (case zqk4 => size_fits); k_whole) | (refine' app_nI ?zqk1 ?zqk2 ?zqk3 ?zqk4 ?_; (case zqk1 => k_asm); (case zqk2 => k_asm); (case zqk3 => k_asm); (case zqk4 => size_fits); k_whole) | (refine' app_aI ?zqk1 ?zqk2 ?zqk3 ?zqk5 ?zqk4 ?_; (case zqk1 => k_asm); (case zqk2 => k_asm); (case zqk3 => k_asm); (case zqk4 => size_fits); (case zqk5 => k_asm); k_whole) | (refine' app_xI ?zqk1 ?zqk2 ?zqk3 ?zqk4 ?_; (case zqk1 => k_asm); (case zqk2 => k_asm); (case zqk3 => k_asm); (case zqk4 => size_fits); k_whole) | (refine' app_pI ?zqk1 ?zqk2 ?zqk3 ?zqk4 ?_; (case zqk1 => k_asm); (case zqk2 => k_asm); (case zqk3 => k_asm); (case zqk4 => size_fits); k_whole) | (refine' app_cI ?zqk1 ?zqk2 ?zqk3 ?zqk5 ?zqk4 ?_; (case zqk1 => k_asm); (case zqk2 => k_asm); (case zqk3 => k_asm); (case zqk4 => size_fits); (case zqk5 => k_asm); k_whole)); intro _ _ _ _; k_sweep)))
  (k_with "nz:call builtin:list.append" => ((k_here; (with_reducible show wpAny _ _ (call (Value.builtin _) [Value.ref _, _]) _ _ _); k_dflt (refine' priv_append ?zqk1 ?zqk2 ?zqk3 ?zqk4 ?zqk5 ?_; (case zqk1 => k_asm); (case zqk2 => with_reducible assumption); (case zqk3 => with_reducible assumption); (case zqk4 => with_reducible assumption); (case zqk5 => size_fits); k_whole); intro _ _ _ _; k_sweep)))
  (k_with "nz:call type:list" => ((k_here; k_dflt (refine' list_of_tup ?zqk1 ?zqk2 ?zqk3 ?zqk4 ?zqk5 ?zqk6 ?_; (case zqk1 => k_asm); (case zqk2 => k_asm); (case zqk3 => k_asm); (case zqk4 => k_asm); (case zqk5 => exact TupIn.mono (by k_asm) (fun _ hq => List.mem_append_right _ hq)); (case zqk6 => size_fits); k_whole); intro _ _ _ _ _ _ _; k_sweep)))
  (k_with "nz:newList" => ((k_here; k_dflt (refine' new_list ?zqk1 ?zqk2 ?zqk3 ?zqk6 ?_; (case zqk1 => k_asm); (case zqk2 => k_asm); (case zqk3 => k_asm); (case zqk6 => first | exact Nat.le_of_ble_eq_true rfl | size_fits); k_whole); intro _ _ _ _ _ _; k_sweep)))
  (k_with "nz:call builtin:len" => ((k_here; (with_reducible show wpAny _ _ (call (Value.builtin _) [Value.ref _]) _ _ _); k_dflt (refine' len_led ?zqk1 ?zqk2 ?zqk3 ?_; (case zqk1 => k_asm); (case zqk2 => k_mem); (case zqk3 => size_fits); k_whole); intro _ _)))
  (k_with "nz:nz en1" => ((refine' enter_ (by k_asm) (by first | exact rfl | assumption) (by first | exact rfl | assumption) (by k_asm) (by k_asm) (by k_asm) (by k_asm) (by k_asm) (by k_asm) (Nat.le_of_ble_eq_true rfl) (Nat.le_of_ble_eq_true rfl) (by k_is) (by k_is) ?_ ?_ ?_ ?_ ?_ ?_ ?_; rotate_left)))
  (k_with "nz:nz en2" => ((exact locs rfl; exact rfl; exact rfl; exact rfl; decide; k_whole; intro _ _ _ _ _ _ _ _ _ _ _ _; (try dsimp only); (with_reducible show wpAny _ _ _ _ _ _))))
  (k_with "nz:nz room" => (first | exact Room.mono (by assumption) (Nat.le_of_ble_eq_true rfl) (Nat.le_of_ble_eq_true rfl) | exact ⟨rfl, by ktr_room, by ktr_units⟩))
  (k_with "nz:RetK" => (((refine retK_ (by k_asm) (by k_asm) ?_); intro zzkF zzkN; ground_anew zzkF; (have zzkX := kFor zzkF (by k_asm)); (try dsimp only))))
  (k_with "nz:nz e1" => ((walk_at "nz en1"; exact BindsTo.of_eq (binds := [(_, _)]) rfl; walk_at "nz en2")))
  (k_with "nz:nz d1" => ((walk_at "nz en1"; exact binds_K (binds := [(_, _)]) (by k_in) rfl (by k_is) rfl rfl rfl; walk_at "nz en2")))
  (k_with "nz:nz e2" => ((walk_at "nz en1"; exact BindsTo.of_eq (binds := [(_, _), (_, _)]) rfl; walk_at "nz en2")))
  (k_with "nz:nz d2" => ((walk_at "nz en1"; exact binds_K (binds := [(_, _), (_, _)]) (by k_in) rfl (by k_is) rfl rfl rfl; walk_at "nz en2")))
  (k_with "nz:nz e3" => ((walk_at "nz en1"; exact BindsTo.of_eq (binds := [(_, _), (_, _), (_, _)]) rfl; walk_at "nz en2")))
  (k_with "nz:nz d3" => ((walk_at "nz en1"; exact binds_K (binds := [(_, _), (_, _), (_, _)]) (by k_in) rfl (by k_is) rfl rfl rfl; walk_at "nz en2")))
  (k_with "nz:nz e4" => ((walk_at "nz en1"; exact BindsTo.of_eq (binds := [(_, _), (_, _), (_, _), (_, _)]) rfl; walk_at "nz en2")))
  (k_with "nz:nz d4" => ((walk_at "nz en1"; exact binds_K (binds := [(_, _), (_, _), (_, _), (_, _)]) (by k_in) rfl (by k_is) rfl rfl rfl; walk_at "nz en2")))
  (k_with "nz:nz e5" => ((walk_at "nz en1"; exact BindsTo.of_eq (binds := [(_, _), (_, _), (_, _), (_, _), (_, _)]) rfl; walk_at "nz en2")))
  (k_with "nz:nz d5" => ((walk_at "nz en1"; exact binds_K (binds := [(_, _), (_, _), (_, _), (_, _), (_, _)]) (by k_in) rfl (by k_is) rfl rfl rfl; walk_at "nz en2")))
  (k_with "nz:nz e6" => ((walk_at "nz en1"; exact BindsTo.of_eq (binds := [(_, _), (_, _), (_, _), (_, _), (_, _), (_, _)]) rfl; walk_at "nz en2")))
  (k_with "nz:nz d6" => ((walk_at "nz en1"; exact binds_K (binds := [(_, _), (_, _), (_, _), (_, _), (_, _), (_, _)]) (by k_in) rfl (by k_is) rfl rfl rfl; walk_at "nz en2")))
  (k_with "nz:call ref" => ((k_here; (with_reducible show wpAny _ _ (call (Value.ref _) _) _ _ _); k_dflt (first | walk_at "nz e2" | walk_at "nz e1" | walk_at "nz e3" | walk_at "nz d4" | walk_at "nz d2" | walk_at "nz d3"))))
  (k_with "nz:eval Name" => ((k_here; k_dflt (refine' ld ?zqk1 ?zqk2 ?_; (case zqk1 => k_asm); (case zqk2 => walk_at "nz look"); k_whole))))
  (k_with "nz:callWith" => (((with_reducible show wpAny _ _ (callWith _ (Value.builtin _) [Value.ref _] _ []) _ _ _); k_dflt (refine callWith_method1 ?_))))
  (k_with "nz:callWith" => (((with_reducible show wpAny _ _ (callWith _ (Value.builtin _) [] _ []) _ _ _); k_dflt (refine callWith_builtin1 ?_))))
  (k_with "nz:callWith ref" => ((k_here; k_dflt (first | (refine' callWith_K ?zqk1 ?zqk2 ?_; (case zqk1 => k_asm); (case zqk2 => k_is); k_whole) | (refine' callWith_K0 ?zqk1 ?zqk2 ?_; (case zqk1 => k_in); (case zqk2 => k_is); k_whole; (try dsimp only [List.append_nil]))))))
  (k_with "nz:getAttr ref" => ((k_here; k_dflt (refine' get_own ?zqk1 ?zqk2 ?zqk3 ?zqk4 ?zqk5 ?zqk6 ?zqk7 ?zqk8 ?zqk9 ?_; (case zqk1 => k_asm); (case zqk2 => k_asm); (case zqk3 => k_inst); (case zqk4 => k_is); (case zqk5 => k_is); (case zqk6 => k_is); (case zqk7 => k_is); (case zqk8 => k_get); (case zqk9 => k_handed); k_whole))))
  (k_with "nz:getMethod ref" => ((k_here; k_dflt (refine' method_inst ?zqk1 ?zqk2 ?zqk3 ?zqk4 ?zqk5 ?zqk6 ?zqk7 ?_; (case zqk1 => k_asm); (case zqk2 => k_asm); (case zqk3 => k_inst); (case zqk4 => k_is); (case zqk5 => k_is); (case zqk6 => k_is); (case zqk7 => k_get); k_whole))))
  (k_with "nz:getMethod ref" => (((with_reducible show wpAny _ _ (getMethod (Value.ref _) (PySem.Str.ofString "pop") _) _ _ _); k_dflt (refine' kl_method ?zqk1 ?zqk2 PySem.F.slot_list_pop PySem.F.type_list_pop ?_; (case zqk1 => k_asm); (case zqk2 => k_mem); k_whole))))
  (k_with "nz:getMethod ref" => (((with_reducible show wpAny _ _ (getMethod (Value.ref _) (PySem.Str.ofString "index") _) _ _ _); k_dflt (refine' kl_method ?zqk1 ?zqk2 PySem.F.slot_list_index PySem.F.type_list_index ?_; (case zqk1 => k_asm); (case zqk2 => k_mem); k_whole))))
  (k_with "nz:getMethod ref" => (((with_reducible show wpAny _ _ (getMethod (Value.ref _) (PySem.Str.ofString "remove") _) _ _ _); k_dflt (refine' kl_method ?zqk1 ?zqk2 PySem.F.slot_list_remove PySem.F.type_list_remove ?_; (case zqk1 => k_asm); (case zqk2 => k_mem); k_whole))))
  (k_with "nz:getMethod ref" => (((with_reducible show wpAny _ _ (getMethod (Value.ref _) (PySem.Str.ofString "insert") _) _ _ _); k_dflt (refine' kl_method ?zqk1 ?zqk2 PySem.F.slot_list_insert PySem.F.type_list_insert ?_; (case zqk1 => k_asm); (case zqk2 => k_mem); k_whole))))
  (k_with "nz:getMethod ref" => (((with_reducible show wpAny _ _ (getMethod (Value.ref _) (PySem.Str.ofString "append") _) _ _ _); k_dflt (refine' kl_method ?zqk1 ?zqk2 PySem.F.slot_list_append PySem.F.type_list_append ?_; (case zqk1 => k_asm); (case zqk2 => k_mem); k_whole))))
  (k_with "nz:subscriptTail Attribute" => ((k_here; (with_reducible show wpAny _ _ (subscriptTail _ _ (Value.ref (TAd.pI _)) (Value.int _ _)) _ _ _); k_dflt (refine' sub_pI ?zqk1 ?zqk2 ?zqk3 ?zqk4 ?zqk5 ?zqk6 ?_ ?zqk7; (case zqk1 => with_reducible assumption); (case zqk2 => k_asm); (case zqk3 => k_mem); (case zqk4 => omega); (case zqk5 => omega); (case zqk6 => omega); (case zqk7 => with_unfolding_all rfl); k_whole; intro _))))
  (k_with "nz:subscriptTail Attribute" => ((k_here; (with_reducible show wpAny _ _ (subscriptTail _ _ (Value.ref (TAd.spI _)) (Value.int _ _)) _ _ _); k_dflt (refine' sub_spI ?zqk1 ?zqk2 ?zqk3 ?zqk4 ?zqk5 ?zqk6 ?_ ?zqk7; (case zqk1 => with_reducible assumption); (case zqk2 => k_asm); (case zqk3 => k_mem); (case zqk4 => omega); (case zqk5 => omega); (case zqk6 => omega); (case zqk7 => with_unfolding_all rfl); k_whole; intro _))))
  (k_with "nz:subscriptTail Attribute" => ((k_here; (with_reducible show wpAny _ _ (subscriptTail _ _ (Value.ref (TAd.nI _)) (Value.int _ _)) _ _ _); k_dflt (refine' sub_nI ?zqk1 ?zqk2 ?zqk3 ?zqk4 ?zqk5 ?zqk6 ?_ ?zqk7; (case zqk1 => with_reducible assumption); (case zqk2 => k_asm); (case zqk3 => k_mem); (case zqk4 => omega); (case zqk5 => omega); (case zqk6 => omega); (case zqk7 => with_unfolding_all rfl); k_whole; intro _))))
  (k_with "nz:subscriptTail Attribute" => ((k_here; (with_reducible show wpAny _ _ (subscriptTail _ _ (Value.ref (TAd.cI _)) (Value.int _ _)) _ _ _); k_dflt (refine' sub_cI ?zqk1 ?zqk2 ?zqk3 ?zqk4 ?zqk5 ?zqk6 ?zqk8 ?_ ?zqk7; (case zqk1 => with_reducible assumption); (case zqk2 => k_asm); (case zqk3 => k_mem); (case zqk4 => omega); (case zqk5 => omega); (case zqk6 => omega); (case zqk8 => with_reducible assumption); (case zqk7 => with_unfolding_all rfl); k_whole; intro _ _ _ _ _ _))))
  (k_with "nz:subscriptTail Attribute" => ((k_here; (with_reducible show wpAny _ _ (subscriptTail _ _ (Value.ref (TAd.aI _)) (Value.int _ _)) _ _ _); k_dflt (refine' sub_aI ?zqk1 ?zqk2 ?zqk3 ?zqk4 ?zqk5 ?zqk6 ?zqk8 ?_ ?zqk7; (case zqk1 => with_reducible assumption); (case zqk2 => k_asm); (case zqk3 => k_mem); (case zqk4 => omega); (case zqk5 => omega); (case zqk6 => omega); (case zqk8 => with_reducible assumption); (case zqk7 => with_unfolding_all rfl); k_whole; intro _ _ _ _ _ _))))
  (k_with "nz:nz look" => (first | exact rfl | with_reducible assumption | (refine' Eq.trans (if_neg ?zqnl) ?zqnk; (case zqnl => decide); (case zqnk => walk_at "nz look"))))
  (k_with "nz:exec While" => (refine Hold.mk' ?_))
  (k_with "nz:WEnd" => (dsimp only [WEnd]))
  (k_with "nz:forall" => ((first | (with_reducible show (_ = true) → _) | (with_reducible show (_ = false) → _)); intro zzhb; (try simp only [bne_iff_ne, ne_eq, beq_iff_eq, beq_eq_false_iff_ne, bne_eq_false_iff_eq, Bool.not_eq_true', Bool.not_eq_false', Bool.and_eq_true, Bool.or_eq_true, Bool.and_eq_false_iff, Bool.or_eq_false_iff, decide_eq_true_eq, decide_eq_false_iff_not, Decidable.not_not] at zzhb); (first | (exfalso; omega) | contradiction | exact Bool.noConfusion (zzhb.symm.trans (by with_reducible assumption : _ = false)) | exact Bool.noConfusion (zzhb.symm.trans (by with_reducible assumption : _ = true)) | skip)))
  (k_with "nz:ite" => ((k_here; first
  | (k_closed; k_dflt (first | refine ite_pos (by decide) ?_ | refine ite_neg (by decide) ?_))
  | with_reducible refine ite_tt ?_
  | with_reducible refine ite_ff ?_
  | (refine split_bool (fun zzhb => ?_) (fun zzhb => ?_); (all_goals (try simp only [bne_iff_ne, ne_eq, beq_iff_eq, beq_eq_false_iff_ne, bne_eq_false_iff_eq, Bool.not_eq_true', Bool.not_eq_false', Bool.and_eq_true, Bool.or_eq_true, Bool.and_eq_false_iff, Bool.or_eq_false_iff, decide_eq_true_eq, decide_eq_false_iff_not, Decidable.not_not] at zzhb)); (all_goals (first | (exfalso; omega) | contradiction | exact Bool.noConfusion (zzhb.symm.trans (by with_reducible assumption : _ = false)) | exact Bool.noConfusion (zzhb.symm.trans (by with_reducible assumption : _ = true)) | skip))))))
  (k_with "nz:call ref" => (((with_reducible show wpAny _ _ (call (Value.ref 318) _) _ _ _); refine Hold.mk' ?_)))
  (k_with "nz:call ref" => (((with_reducible show wpAny _ _ (call (Value.ref 327) _) _ _ _); refine Hold.mk' ?_)))
  (k_with "nz:call ref" => (((with_reducible show wpAny _ _ (call (Value.ref 356) _) _ _ _); refine Hold.mk' ?_)))
  (k_with "nz:call ref" => (((with_reducible show wpAny _ _ (call (Value.ref 363) _) _ _ _); refine Hold.mk' ?_)))
  (k_with "nz:call ref" => (((with_reducible show wpAny _ _ (call (Value.ref 370) _) _ _ _); refine Hold.mk' ?_)))
  (k_with "nz:call ref" => (((with_reducible show wpAny _ _ (call (Value.ref 398) _) _ _ _); refine Hold.mk' ?_)))
  (k_with "nz:call ref" => (((with_reducible show wpAny _ _ (call (Value.ref 405) _) _ _ _); refine Hold.mk' ?_)))
  (k_with "nz:call ref" => (((with_reducible show wpAny _ _ (call (Value.ref 419) _) _ _ _); refine Hold.mk' ?_)))
  (k_with "nz:call ref" => (((with_reducible show wpAny _ _ (call (Value.ref 190) _) _ _ _); refine Hold.mk' ?_)))
  (k_with "nz:call ref" => (((with_reducible show wpAny _ _ (call (Value.ref 35) _) _ _ _); refine Hold.mk' ?_)))
  (k_with "nz:call ref" => (((with_reducible show wpAny _ _ (call (Value.ref 43) _) _ _ _); refine Hold.mk' ?_)))
  (k_with "nz:call ref" => (((with_reducible show wpAny _ _ (call (Value.ref 60) _) _ _ _); refine Hold.mk' ?_)))
  (k_with "nz:call ref" => (((with_reducible show wpAny _ _ (call (Value.ref 67) _) _ _ _); refine Hold.mk' ?_)))
  (k_with "nz:call ref" => (((with_reducible show wpAny _ _ (call (Value.ref 498) _) _ _ _); refine Hold.mk' ?_)))
  (k_with "nz:call ref" => (((with_reducible show wpAny _ _ (call (Value.ref 505) _) _ _ _); refine Hold.mk' ?_)))
  (k_with "nz:call ref" => (((with_reducible show wpAny _ _ (call (Value.ref 512) _) _ _ _); refine Hold.mk' ?_)))
  (k_with "nz:call ref" => (((with_reducible show wpAny _ _ (call (Value.ref 519) _) _ _ _); refine Hold.mk' ?_)))
  (k_with "nz:call ref" => (((with_reducible show wpAny _ _ (call (Value.ref 526) _) _ _ _); refine Hold.mk' ?_)))
  (k_with "nz:call ref" => (((with_reducible show wpAny _ _ (call (Value.ref 531) _) _ _ _); refine Hold.mk' ?_)))
  (k_with "nz:call ref" => (((with_reducible show wpAny _ _ (call (Value.ref 120) _) _ _ _); refine Hold.mk' ?_)))
  (k_with "nz:nz ints" => (first | with_reducible assumption | exact KidAt.iv (by with_reducible assumption) | exact TAbs.p (by with_reducible assumption)))
  (k_with "nz:compareOp In int ref" => ((k_here; k_dflt (refine' in_ints ?zqk1 ?zqk2 ?zqk3 ?_; (case zqk1 => k_asm); (case zqk2 => k_mem); (case zqk3 => walk_at "nz ints"); k_whole))))
  (k_with "nz:compareOp NotIn int ref" => ((k_here; k_dflt (refine' notin_ints ?zqk1 ?zqk2 ?zqk3 ?_; (case zqk1 => k_asm); (case zqk2 => k_mem); (case zqk3 => walk_at "nz ints"); k_whole))))
  (k_with "nz:call builtin:list.index" => ((k_here; k_dflt (refine' index_ints ?zqk1 ?zqk2 ?zqk3 ?zqk4 ?zqk5 ?_; (case zqk1 => k_asm); (case zqk2 => k_mem); (case zqk3 => walk_at "nz ints"); (case zqk4 => k_asm); (case zqk5 => omega); k_whole); intro _)))
  (k_with "nz:call builtin:list.insert" => ((k_here; k_dflt (refine' ins_kid ?zqk1 ?zqk2 ?zqk3 ?zqk4 ?zqk5 ?zqk6 ?zqk7 ?_; (case zqk1 => with_reducible assumption); (case zqk2 => k_asm); (case zqk3 => with_reducible assumption); (case zqk4 => with_reducible assumption); (case zqk5 => omega); (case zqk6 => omega); (case zqk7 => omega); k_whole); intro _ _ _ _ _; k_sweep)))
  (k_with "nz:setItem ref int" => ((k_here; (with_reducible show wpAny _ _ (setItem (Value.ref (TAd.pI _)) _ _) _ _ _); k_dflt (refine' set_pI ?zqk2 ?zqk3 ?zqk4 ?zqk5 ?zqk6 ?zqk7 ?_; (case zqk2 => k_asm); (case zqk3 => with_reducible assumption); (case zqk4 => with_reducible assumption); (case zqk5 => omega); (case zqk6 => (try dsimp only); omega); (case zqk7 => (try dsimp only); omega); k_whole); intro _ _ _ _ _; k_sweep)))
  (k_with "nz:setItem ref int" => ((k_here; (with_reducible show wpAny _ _ (setItem (Value.ref (TAd.coI _)) _ _) _ _ _); k_dflt (refine' co_set ?zqk2 ?zqk3 ?zqk4 ?zqk5 ?zqk6 ?zqk7 ?_; (case zqk2 => k_asm); (case zqk3 => with_reducible assumption); (case zqk4 => with_reducible assumption); (case zqk5 => exact TAbs.co (by with_reducible assumption)); (case zqk6 => assumption); (case zqk7 => (try dsimp only [Tr.add]); omega); k_whole); intro _ _ _ _ _ _; k_sweep)))
  (k_with "nz:nz forV" => ((k_here; (rename Fr _ _ _ _ => zzlF'); (with_unfolding_all refine' For_invVF zzlF' ?zqk1 ?zqk2 ?_; (case zqk1 => exact rfl); (case zqk2 => exact rfl); k_whole))))
  (k_with "nz:exec For Name Name cons nil" => (walk_at "nz forV"))
  (k_with "nz:exec For Name Call cons nil" => (walk_at "nz forV"))
  (k_with "nz:exec For Name Subscript cons nil" => (walk_at "nz forV"))
  (k_with "nz:exec For Name Attribute cons nil" => (walk_at "nz forV"))
  (k_with "nz:pyIter ref" => (refine Hold.mk' ?_))
  (k_with "nz:eval ListComp" => (refine Hold.mk' ?_))
  (k_with "nz:exec Assign cons ListComp" => (refine Hold.mk' ?_))
  (k_with "nz:subscriptTail Name Constant" => ((k_here; (with_reducible show wpAny _ _ (subscriptTail _ _ (Value.ref _) (Value.int _ _)) _ _ _); k_dflt (refine' tup_at ?zqk1 ?zqk2 ?zqk3 ?zqk4 ?zqk5 ?_ ?zqk7; (case zqk1 => k_asm); (case zqk2 => k_mem); (case zqk3 => decide); (case zqk4 => decide); (case zqk5 => rfl); (case zqk7 => with_unfolding_all rfl); k_whole))))
  (k_with "nz:subscriptTail Name" => ((k_here; (with_reducible show wpAny _ _ (subscriptTail _ _ (Value.ref _) (Value.int _ _)) _ _ _); k_dflt (refine' tup_at ?zqk1 ?zqk2 ?zqk3 ?zqk4 ?zqk5 ?_ ?zqk7; (case zqk1 => k_asm); (case zqk2 => k_mem); (case zqk3 => decide); (case zqk4 => decide); (case zqk5 => rfl); (case zqk7 => with_unfolding_all rfl); k_whole))))
  (k_with "nz:subscriptTail Attribute" => ((k_here; (with_reducible show wpAny _ _ (subscriptTail _ _ (Value.ref (BAd.sI _)) (Value.int _ _)) _ _ _); k_dflt (refine' sub_sI ?zqk1 ?zqk2 ?zqk3 ?zqk4 ?zqk5 ?zqk6 ?_ ?zqk7; (case zqk1 => with_reducible assumption); (case zqk2 => k_asm); (case zqk3 => k_mem); (case zqk4 => omega); (case zqk5 => omega); (case zqk6 => omega); (case zqk7 => with_unfolding_all rfl); k_whole; intro _))))
  (k_with "nz:subscriptTail Name" => ((k_here; (with_reducible show wpAny _ _ (subscriptTail _ _ (Value.ref (BAd.sI _)) (Value.int _ _)) _ _ _); k_dflt (refine' sub_sI ?zqk1 ?zqk2 ?zqk3 ?zqk4 ?zqk5 ?zqk6 ?_ ?zqk7; (case zqk1 => with_reducible assumption); (case zqk2 => k_asm); (case zqk3 => k_mem); (case zqk4 => omega); (case zqk5 => omega); (case zqk6 => omega); (case zqk7 => with_unfolding_all rfl); k_whole; intro _))))
  (k_with "nz:subscriptTail Attribute" => ((k_here; (with_reducible show wpAny _ _ (subscriptTail _ _ (Value.ref (BAd.fI _)) (Value.int _ _)) _ _ _); k_dflt (refine' sub_fI ?zqk1 ?zqk2 ?zqk3 ?zqk4 ?zqk5 ?zqk6 ?_ ?zqk7; (case zqk1 => with_reducible assumption); (case zqk2 => k_asm); (case zqk3 => k_mem); (case zqk4 => omega); (case zqk5 => omega); (case zqk6 => omega); (case zqk7 => with_unfolding_all rfl); k_whole; intro _))))
  (k_with "nz:subscriptTail Name" => ((k_here; (with_reducible show wpAny _ _ (subscriptTail _ _ (Value.ref (BAd.fI _)) (Value.int _ _)) _ _ _); k_dflt (refine' sub_fI ?zqk1 ?zqk2 ?zqk3 ?zqk4 ?zqk5 ?zqk6 ?_ ?zqk7; (case zqk1 => with_reducible assumption); (case zqk2 => k_asm); (case zqk3 => k_mem); (case zqk4 => omega); (case zqk5 => omega); (case zqk6 => omega); (case zqk7 => with_unfolding_all rfl); k_whole; intro _))))
  (k_with "nz:call builtin:list.append" => ((k_here; (with_reducible show wpAny _ _ (call (Value.builtin _) [Value.ref (BAd.sI _), _]) _ _ _); k_dflt (refine' app_sI ?zqk1 ?zqk2 ?zqk3 ?zqk4 ?_; (case zqk1 => k_asm); (case zqk2 => with_reducible assumption); (case zqk3 => with_reducible assumption); (case zqk4 => size_fits); k_whole); intro _ _ _ _; k_sweep)))
  (k_with "nz:call builtin:list.append" => ((k_here; (with_reducible show wpAny _ _ (call (Value.builtin _) [Value.ref (BAd.fI _), _]) _ _ _); k_dflt (refine' app_fI ?zqk1 ?zqk2 ?zqk3 ?zqk4 ?_; (case zqk1 => k_asm); (case zqk2 => with_reducible assumption); (case zqk3 => with_reducible assumption); (case zqk4 => size_fits); k_whole); intro _ _ _ _; k_sweep)))
  (k_with "nz:newTuple" => ((k_here; k_dflt (refine' new_tuple2 ?zqk1 ?zqk2 ?zqk3 ?zqk4 ?_; (case zqk1 => k_asm); (case zqk2 => with_reducible assumption); (case zqk3 => with_reducible assumption); (case zqk4 => exact Nat.le_of_ble_eq_true rfl); k_whole); intro _ _ _ _ _ _; k_sweep)))
  (k_with "nz:subscriptTail Attribute" => ((k_here; (with_reducible show wpAny _ _ (subscriptTail _ _ (Value.ref (BAd.sI _)) (Value.int (Nat.cast _) _)) _ _ _); k_dflt (refine' sub_sIn ?zqk1 ?zqk2 ?zqk3 ?zqk5 ?zqk6 ?_ ?zqk7; (case zqk1 => with_reducible assumption); (case zqk2 => k_asm); (case zqk3 => k_mem); (case zqk5 => omega); (case zqk6 => omega); (case zqk7 => with_unfolding_all rfl); k_whole; intro _))))
  (k_with "nz:subscriptTail Name" => ((k_here; (with_reducible show wpAny _ _ (subscriptTail _ _ (Value.ref (BAd.sI _)) (Value.int (Nat.cast _) _)) _ _ _); k_dflt (refine' sub_sIn ?zqk1 ?zqk2 ?zqk3 ?zqk5 ?zqk6 ?_ ?zqk7; (case zqk1 => with_reducible assumption); (case zqk2 => k_asm); (case zqk3 => k_mem); (case zqk5 => omega); (case zqk6 => omega); (case zqk7 => with_unfolding_all rfl); k_whole; intro _))))
  (k_with "nz:subscriptTail Attribute" => ((k_here; (with_reducible show wpAny _ _ (subscriptTail _ _ (Value.ref (BAd.fI _)) (Value.int (Nat.cast _) _)) _ _ _); k_dflt (refine' sub_fIn ?zqk1 ?zqk2 ?zqk3 ?zqk5 ?zqk6 ?_ ?zqk7; (case zqk1 => with_reducible assumption); (case zqk2 => k_asm); (case zqk3 => k_mem); (case zqk5 => omega); (case zqk6 => omega); (case zqk7 => with_unfolding_all rfl); k_whole; intro _))))
  (k_with "nz:subscriptTail Name" => ((k_here; (with_reducible show wpAny _ _ (subscriptTail _ _ (Value.ref (BAd.fI _)) (Value.int (Nat.cast _) _)) _ _ _); k_dflt (refine' sub_fIn ?zqk1 ?zqk2 ?zqk3 ?zqk5 ?zqk6 ?_ ?zqk7; (case zqk1 => with_reducible assumption); (case zqk2 => k_asm); (case zqk3 => k_mem); (case zqk5 => omega); (case zqk6 => omega); (case zqk7 => with_unfolding_all rfl); k_whole; intro _))))
  (k_with "nz:loadName" => ((k_here; k_dflt (refine' ldn ?zqk1 ?zqk2 ?_; (case zqk1 => k_asm); (case zqk2 => walk_at "nz look"); k_whole))))
  (k_with "nz:k_room" => (ktr_room))
  (k_with "nz:compareOp In int ref" => ((k_here; (with_reducible show wpAny _ _ (compareOp _ _ (Value.ref (TAd.coI _))) _ _ _); k_dflt (first
  | (refine' in_co_no ?zqk1 ?zqk2 ?zqk3 ?zqk4 ?_; (case zqk1 => with_reducible assumption); (case zqk2 => k_asm); (case zqk3 => k_mem); (case zqk4 => with_reducible assumption); k_whole)
  | (refine' in_co_yes ?zqk1 ?zqk2 ?zqk3 ?zqk4 ?_; (case zqk1 => with_reducible assumption); (case zqk2 => k_asm); (case zqk3 => k_mem); (case zqk4 => with_reducible assumption); k_whole)))))
  (k_with "nz:subscriptTail Attribute" => ((k_here; (with_reducible show wpAny _ _ (subscriptTail _ _ (Value.ref (TAd.coI _)) (Value.int _ _)) _ _ _); k_dflt (refine' item_co ?zqk1 ?zqk2 ?zqk3 ?zqk4 ?_ ?zqk7; (case zqk1 => with_reducible assumption); (case zqk2 => k_asm); (case zqk3 => k_mem); (case zqk4 => with_reducible assumption); (case zqk7 => with_unfolding_all rfl); k_whole; intro _))))
  (k_with "nz:call ref" => (((with_reducible show wpAny _ _ (call (Value.ref 225) _) _ _ _); refine Hold.mk' ?_)))
  (k_with "nz:k_mem" => (((show (_ : Addr × Obj) ∈ (_ : List (Addr × Obj))); (with_reducible show (TAd.coI _, _) ∈ TRaw.led _ _ _); exact List.mem_of_getElem? (i := 9) rfl)))
  (k_with "nz:call ref" => (((with_reducible show wpAny _ _ (call (Value.ref 28) _) _ _ _); refine Hold.mk' ?_)))
  (k_with "nz:call type:tuple" => ((k_here; k_dflt (refine' tuple_of_list ?zqk1 ?zqk2 ?zqk3 ?zqk4 ?zqk5 ?_; (case zqk1 => k_asm); (case zqk2 => k_asm); (case zqk3 => with_reducible assumption); (case zqk4 => k_mem); (case zqk5 => omega); k_whole); intro _ _ _ _ _ _; k_sweep)))
  (k_with "nz:call ref" => (((with_reducible show wpAny _ _ (call (Value.ref 239) _) _ _ _); refine Hold.mk' ?_)))
  (k_with "nz:setItem ref int" => ((k_here; (with_reducible show wpAny _ _ (setItem (Value.ref (BAd.fI _)) _ _) _ _ _); k_dflt (refine' set_fI ?zqk2 ?zqk3 ?zqk4 ?zqk5 ?zqk6 ?zqk7 ?_; (case zqk2 => k_asm); (case zqk3 => with_reducible assumption); (case zqk4 => with_reducible assumption); (case zqk5 => omega); (case zqk6 => (try dsimp only); omega); (case zqk7 => (try dsimp only); omega); k_whole); intro _ _ _ _ _; k_sweep)))
  (k_with "nz:k_all" => (first | with_reducible assumption | exact lt_ne (by assumption) (by omega) | exact allLt_ne (by assumption) (by omega)))
  (k_with "nz:ktr_units" => ((have _ := cLine_is; (try simp only [units_under_make, units_in1, units_deeper, Around.mark_units, units_caller] at *); (try dsimp only [ktrTop] at *); omega)))
  (k_with "nz:k_upd" => (exact upd_led (Sep2.one (by with_reducible assumption)) 1 rfl))
  trivial

section
variable {prog : Program} {w : World} {p : Program} {loose : List Str} {mean : ExcName → Option Value} {mg mb : Str → Option Value} {ad : TAd} {u : TRaw} {z r : Led} {TT : Tr}

/-- what add gives back -/
def AddPost (prog : Program) (w : World) (ad : TAd) (z r : Led) (u : TRaw) (T T' : Tr) (n : Nat) (v : Value) (l' : Led) : Prop :=
  ∃ u' tk, v = .int T.kinds.length tk ∧ l' = TRaw.led w.params ad u' ++ r ∧ Sep (u'.led w.params ad) r ∧ TAbs prog w ad z u' T' ∧ Small u' (n + 1) ∧ u'.coO = u.coO

theorem add4 {n : Nat} {kind space name : Str} {t1 t2 t3 : Tok} {at' : Addr} {vs : List Value} {d : List (Str × Str)} (S : Sep (u.led w.params ad) r) (R : TAbs prog w ad z u TT) (hs : Small u n) (hn : n ≤ 500) (hvs : vs.length ≤ 500)
    (hat : TupIn w.params r at' vs) (hd : PairsAre z vs d) :
    Tells prog w p loose mean mg mb 5 20 318 [.ref ad.t, .str kind t1, .str space t2, .str name t3, .ref at'] (u.led w.params ad ++ r) (AddPost prog w ad z r u TT (TT.add kind space name d) n) := by
  unfold Tells
  intro A env outer A₀ base h₀ L m s Q E hA0 hf0 hk B F X N T hR hret
  obtain ⟨s1, s2, s3, s4, s5, s6, s7⟩ := id hs
  walk_at "nz d6"
  k_steps
  refine' hret _ _ _ _ ?post ?F ?N
  case F => k_asm
  case N => k_asm
  case post =>
    have e : ((u.kV ++ [Value.str kind t1]).length : Int) - 1 = TT.kinds.length := by
      have := R.k.length
      rw [List.length_append, List.length_cons, List.length_nil]
      omega
    exact ⟨TRaw.added u _ _ _ _ _ _ _, _, congrArg (fun i => Value.int i _) e, rfl, by assumption, R.added hd, hs.added, rfl⟩
theorem add1 {n : Nat} {kind : Str} {t1 : Tok} (S : Sep (u.led w.params ad) r) (R : TAbs prog w ad z u TT) (hs : Small u n) (hn : n ≤ 500) :
    Tells prog w p loose mean mg mb 5 20 318 [.ref ad.t, .str kind t1] (u.led w.params ad ++ r) (AddPost prog w ad z r u TT (TT.add kind (Str.ofString "") (Str.ofString "") []) n) := by
  unfold Tells
  intro A env outer A₀ base h₀ L m s Q E hA0 hf0 hk B F X N T hR hret
  obtain ⟨s1, s2, s3, s4, s5, s6, s7⟩ := id hs
  have hat : TupIn w.params r 310 [] := .inr ⟨_, _, by k_is, rfl, rfl⟩
  walk_at "nz d6"
  k_steps
  refine' hret _ _ _ _ ?post ?F ?N
  case F => k_asm
  case N => k_asm
  case post =>
    have e : ((u.kV ++ [Value.str kind t1]).length : Int) - 1 = TT.kinds.length := by
      have := R.k.length
      rw [List.length_append, List.length_cons, List.length_nil]
      omega
    exact ⟨TRaw.added u _ _ _ _ _ _ _, _, congrArg (fun i => Value.int i _) e, rfl, by assumption, R.added .nil, hs.added, rfl⟩
end
section
variable {prog : Program} {w : World} {p : Program} {loose : List Str} {mean : ExcName → Option Value} {mg mb : Str → Option Value} {ad : TAd} {u : TRaw} {z r : Led} {TT : Tr}
theorem isHtml {n : Nat} {i : Int} {ti tn : Tok} {nm : Str} (R : TAbs prog w ad z u TT) (W : WF TT n) (hn : n ≤ 500) (h0 : 0 ≤ i) (hi : i < n) :
    Tells prog w p loose mean mg mb 5 20 405 [.ref ad.t, .int i ti, .str nm tn] (u.led w.params ad ++ r)
      (fun v l' => v = .bool (TT.spaces.getD i.toNat (Str.ofString "") == Str.ofString "html" && TT.names.getD i.toNat (Str.ofString "") == nm) ∧ l' = u.led w.params ad ++ r) := by
  unfold Tells
  intro A env outer A₀ base h₀ L m s Q E hA0 hf0 hk B F X N T hR hret
  obtain ⟨s1, s2, s3, s4, s5, s6, s7, s8⟩ := id W
  walk_at "nz e3"
  k_steps
  all_goals refine hret _ _ _ _ ?_ (by k_asm) (by k_asm)
  all_goals (refine ⟨?_, rfl⟩; simp_all)
inductive AboveI (P : Params) (g : Heap) (L D : Addr) (ad : TAd) (u : TRaw) (r : Led) (i : Int) (s : Shared) : Nat → Shared → Prop
  | mk {upv : Int} {t : Tok} {vs : List Value} {nn : Nat} {ns : List Int} {m : Str → Option Value} {h : Heap} {tk : Nat} (h1 : -1 ≤ upv) (h2 : upv < i) (h3 : IntsAre vs ns) (h4 : ∀ x ∈ ns, x < i) (h5 : vs.length + (upv + 1).toNat ≤ i)
      (F : Fr g L h m) (N : News g L h (u.led P ad ++ (D, lsOf vs nn) :: r)) (S : Sep (u.led P ad) ((D, lsOf vs nn) :: r)) (m1 : m (Str.ofString "tree") = some (.ref ad.t)) (m2 : m (Str.ofString "out") = some (.ref D)) (m3 : m (Str.ofString "up") = some (.int upv t)) :
      AboveI P g L D ad u r i s (upv + 1).toNat { s with heap := h, toks := tk }
theorem above_ {n : Nat} {i : Int} {ti : Tok} (S : Sep (u.led w.params ad) r) (R : TAbs prog w ad z u TT) (W : WF TT n) (hn : n ≤ 500) (h0 : 0 ≤ i) (hi : i < n) :
    Tells prog w p loose mean mg mb 5 20 419 [.ref ad.t, .int i ti] (u.led w.params ad ++ r)
      (fun v l' => ∃ D vs k ns, v = .ref D ∧ l' = u.led w.params ad ++ (D, lsOf vs k) :: r ∧ IntsAre vs ns ∧ ∀ x ∈ ns, x < i) := by
  unfold Tells
  intro A env outer A₀ base h₀ L m s Q E hA0 hf0 hk B F X N T hR hret
  obtain ⟨s1, s2, s3, s4, s5, s6, s7, s8⟩ := id W
  have w0 := s8 i.toNat (by omega)
  walk_at "nz e2"
  k_steps
  refine Hold.out ?_
  refine' whl_inv (AboveI w.params _ _ _ ad u r i s) ?hE _ ?h0 ?step
  case hE => first | passes_own | with_unfolding_all passes_own
  case h0 =>
    refine' AboveI.mk ?h1 ?h2 .nil (fun _ h => nomatch h) ?h5 ?F ?N ?S ?m1 ?m2 ?m3
    case F => k_asm
    case N => k_asm
    case S => k_asm
    case m1 => rfl
    case m2 => rfl
    case m3 => rfl
    case h1 => omega
    case h2 => omega
    case h5 =>
      simp only [List.length_nil]
      omega
  case step =>
    rintro k s' @⟨upv, t, vs, nn, ns, mm, hh, tkk, h1, h2, h3, h4, h5, F1, N1, S1, m1, m2, m3⟩
    k_steps
    · have w1 := s8 upv.toNat (by omega)
      have e1 : (upv.toNat : Int) = upv := by omega
      refine ⟨(TT.parents.getD upv.toNat 0 + 1).toNat, by omega, ?_⟩
      refine' AboveI.mk ?h1 ?h2 (ints_snoc h3) ?h4 ?h5 ?F ?N ?S ?m1 ?m2 ?m3
      case F => k_asm
      case N => k_asm
      case S => k_asm
      case m1 => exact (if_neg (by decide)).trans m1
      case m2 => exact (if_neg (by decide)).trans m2
      case m3 => exact if_pos rfl
      case h1 => omega
      case h2 => omega
      case h4 =>
        intro x hx
        rcases List.mem_append.mp hx with hx | hx
        · exact h4 x hx
        · rw [List.mem_singleton.mp hx]
          exact h2
      case h5 =>
        simp only [List.length_append, List.length_cons, List.length_nil]
        omega
    · exact hret _ _ _ _ ⟨_, _, _, _, rfl, rfl, h3, h4⟩ (by k_asm) (by k_asm)
end
section
variable {prog : Program} {w : World} {p : Program} {loose : List Str} {mean : ExcName → Option Value} {mg mb : Str → Option Value} {ad : TAd} {u : TRaw} {z r : Led} {TT : Tr}
theorem remove_ {n : Nat} {i : Int} {ti : Tok} (R : TAbs prog w ad z u TT) (W : WF TT n) (hn : n ≤ 500) (h0 : 0 ≤ i) (hi : i < n) (hp : TT.parents.getD i.toNat 0 = -1) :
    Tells prog w p loose mean mg mb 5 20 370 [.ref ad.t, .int i ti] (u.led w.params ad ++ r) (fun v l' => v = .none ∧ l' = u.led w.params ad ++ r) := by
  unfold Tells
  intro A env outer A₀ base h₀ L m s Q E hA0 hf0 hk B F X N T hR hret
  obtain ⟨s1, s2, s3, s4, s5, s6, s7, s8⟩ := id W
  walk_at "nz e2"
  k_steps
  all_goals exact hret _ _ _ _ ⟨rfl, rfl⟩ (by k_asm) (by k_asm)
theorem insertE {n : Nat} {i q : Int} {ti tq tb : Tok} (S : Sep (u.led w.params ad) r) (R : TAbs prog w ad z u TT) (W : WF TT n) (hn : n ≤ 500) (h0 : 0 ≤ q) (hq : q < i) (hi : i < n) (hp : TT.parents.getD i.toNat 0 = -1) (hz : ∀ c ∈ TT.children, c.length < n) :
    Tells prog w p loose mean mg mb 15 60 356 [.ref ad.t, .int q tq, .int i ti, .int (-1) tb] (u.led w.params ad ++ r)
      (fun v l' => v = .none ∧ ∃ u', l' = TRaw.led w.params ad u' ++ r ∧ Sep (TRaw.led w.params ad u') r ∧ TAbs prog w ad z u' (TT.ins q i (-1))) := by
  unfold Tells
  intro A env outer A₀ base h₀ L m s Q E hA0 hf0 hk B F X N T hR hret
  obtain ⟨s1, s2, s3, s4, s5, s6, s7, s8⟩ := id W
  have pl := R.p.length
  have hz' : ∀ c ∈ TT.children, c.length ≤ 600 := fun c hc => by have := hz c hc; omega
  walk_at "nz d4"
  k_steps
  refine Hold.out (Tells.use (above_ S R W hn (by omega) (by omega)) (by first | k_asm | exact rfl) (by first | exact rfl | assumption) (by first | exact rfl | assumption) (by k_asm) (by k_asm) (by k_asm) (by k_asm) (by k_asm) (by walk_at "nz room") ?_)
  (refine' retA4 ?_; intro D vs k ns hp99 h' tk' F1 N1; have hp98 := hp99; have hv := hp98.1; have hlt := hp98.2; clear hp98; clear hp99)
  have hno : i ∉ ns := fun h => by have := hlt _ h; omega
  k_steps
  refine Hold.out (Tells.use (remove_ R W hn (by omega) (by omega) hp) (by first | k_asm | exact rfl) (by first | exact rfl | assumption) (by first | exact rfl | assumption) (by k_asm) (by k_asm) (by k_asm) (by k_asm) (by k_asm) (by walk_at "nz room") ?_)
  (refine' ret0 ?_; intro h' tk' F2 N2)
  replace N2 := News.sub (l' := u.led w.params ad ++ r) N2 (sub_a (fun _ k => List.mem_append_left _ k) fun _ k => List.mem_append_right _ (.tail _ k))
  k_steps
  refine hret _ _ _ _ ⟨rfl, _, rfl, by k_asm, R.ins (by with_reducible assumption) ?_⟩ (by k_asm) (by k_asm)
  rw [if_pos rfl]
  omega
theorem insertE3 {n : Nat} {i q : Int} {ti tq : Tok} (S : Sep (u.led w.params ad) r) (R : TAbs prog w ad z u TT) (W : WF TT n) (hn : n ≤ 500) (h0 : 0 ≤ q) (hq : q < i) (hi : i < n) (hp : TT.parents.getD i.toNat 0 = -1) (hz : ∀ c ∈ TT.children, c.length < n) :
    Tells prog w p loose mean mg mb 15 60 356 [.ref ad.t, .int q tq, .int i ti] (u.led w.params ad ++ r)
      (fun v l' => v = .none ∧ ∃ u', l' = TRaw.led w.params ad u' ++ r ∧ Sep (TRaw.led w.params ad u') r ∧ TAbs prog w ad z u' (TT.ins q i (-1))) := by
  unfold Tells
  intro A env outer A₀ base h₀ L m s Q E hA0 hf0 hk B F X N T hR hret
  obtain ⟨s1, s2, s3, s4, s5, s6, s7, s8⟩ := id W
  have pl := R.p.length
  have hz' : ∀ c ∈ TT.children, c.length ≤ 600 := fun c hc => by have := hz c hc; omega
  walk_at "nz d4"
  k_steps
  refine Hold.out (Tells.use (above_ S R W hn (by omega) (by omega)) (by first | k_asm | exact rfl) (by first | exact rfl | assumption) (by first | exact rfl | assumption) (by k_asm) (by k_asm) (by k_asm) (by k_asm) (by k_asm) (by walk_at "nz room") ?_)
  (refine' retA4 ?_; intro D vs k ns hp99 h' tk' F1 N1; have hp98 := hp99; have hv := hp98.1; have hlt := hp98.2; clear hp98; clear hp99)
  have hno : i ∉ ns := fun h => by have := hlt _ h; omega
  k_steps
  refine Hold.out (Tells.use (remove_ R W hn (by omega) (by omega) hp) (by first | k_asm | exact rfl) (by first | exact rfl | assumption) (by first | exact rfl | assumption) (by k_asm) (by k_asm) (by k_asm) (by k_asm) (by k_asm) (by walk_at "nz room") ?_)
  (refine' ret0 ?_; intro h' tk' F2 N2)
  replace N2 := News.sub (l' := u.led w.params ad ++ r) N2 (sub_a (fun _ k => List.mem_append_left _ k) fun _ k => List.mem_append_right _ (.tail _ k))
  k_steps
  refine hret _ _ _ _ ⟨rfl, _, rfl, by k_asm, R.ins (by with_reducible assumption) ?_⟩ (by k_asm) (by k_asm)
  rw [if_pos rfl]
  omega
theorem insertB {n : Nat} {i q b : Int} {ti tq tb : Tok} (S : Sep (u.led w.params ad) r) (R : TAbs prog w ad z u TT) (W : WF TT n) (hn : n ≤ 500) (h0 : 0 ≤ q) (hq : q < i) (hi : i < n) (hp : TT.parents.getD i.toNat 0 = -1) (hz : ∀ c ∈ TT.children, c.length < n) (hb : b ∈ TT.children.getD q.toNat []) (hb1 : b ≠ -1) (hb2 : b ≠ i) :
    Tells prog w p loose mean mg mb 15 60 356 [.ref ad.t, .int q tq, .int i ti, .int b tb] (u.led w.params ad ++ r)
      (fun v l' => v = .none ∧ ∃ u', l' = TRaw.led w.params ad u' ++ r ∧ Sep (TRaw.led w.params ad u') r ∧ TAbs prog w ad z u' (TT.ins q i b)) := by
  unfold Tells
  intro A env outer A₀ base h₀ L m s Q E hA0 hf0 hk B F X N T hR hret
  obtain ⟨s1, s2, s3, s4, s5, s6, s7, s8⟩ := id W
  have pl := R.p.length
  have hz' : ∀ c ∈ TT.children, c.length ≤ 600 := fun c hc => by have := hz c hc; omega
  have hix := List.idxOf_lt_length_iff.mpr hb
  walk_at "nz d4"
  k_steps
  refine Hold.out (Tells.use (above_ S R W hn (by omega) (by omega)) (by first | k_asm | exact rfl) (by first | exact rfl | assumption) (by first | exact rfl | assumption) (by k_asm) (by k_asm) (by k_asm) (by k_asm) (by k_asm) (by walk_at "nz room") ?_)
  (refine' retA4 ?_; intro D vs k ns hp99 h' tk' F1 N1; have hp98 := hp99; have hv := hp98.1; have hlt := hp98.2; clear hp98; clear hp99)
  have hno : i ∉ ns := fun h => by have := hlt _ h; omega
  k_steps
  refine Hold.out (Tells.use (remove_ R W hn (by omega) (by omega) hp) (by first | k_asm | exact rfl) (by first | exact rfl | assumption) (by first | exact rfl | assumption) (by k_asm) (by k_asm) (by k_asm) (by k_asm) (by k_asm) (by walk_at "nz room") ?_)
  (refine' ret0 ?_; intro h' tk' F2 N2)
  replace N2 := News.sub (l' := u.led w.params ad ++ r) N2 (sub_a (fun _ k => List.mem_append_left _ k) fun _ k => List.mem_append_right _ (.tail _ k))
  k_steps
  refine hret _ _ _ _ ⟨rfl, _, rfl, by k_asm, R.ins (by with_reducible assumption) ?_⟩ (by k_asm) (by k_asm)
  rw [if_neg hb1]
  omega
end
section
variable {prog : Program} {w : World} {p : Program} {loose : List Str} {mean : ExcName → Option Value} {mg mb : Str → Option Value} {ad : TAd} {u : TRaw} {z r : Led} {TT : Tr}
theorem elemP {n : Nat} {nm : Str} {t1 t2 : Tok} {at' : Addr} {vs : List Value} {d : List (Str × Str)} (S : Sep (u.led w.params ad) r) (R : TAbs prog w ad z u TT) (hs : Small u n) (hn : n ≤ 500) (hvs : vs.length ≤ 500)
    (hat : TupIn w.params r at' vs) (hd : PairsAre z vs d) (hne : nm ≠ Str.ofString "template") :
    Tells prog w p loose mean mg mb 15 60 327 [.ref ad.t, .str nm t1, .str (Str.ofString "html") t2, .ref at'] (u.led w.params ad ++ r) (AddPost prog w ad z r u TT (TT.add (Str.ofString "element") (Str.ofString "html") nm d) n) := by
  unfold Tells
  intro A env outer A₀ base h₀ L m s Q E hA0 hf0 hk B F X N T hR hret
  walk_at "nz d4"
  k_steps
  refine Hold.out (Tells.use (add4 S R hs hn hvs hat hd) (by first | k_asm | exact rfl) (by first | exact rfl | assumption) (by first | exact rfl | assumption) (by k_asm) (by k_asm) (by k_asm) (by k_asm) (by k_asm) (by walk_at "nz room") ?_)
  (refine' retA2 ?_; intro u' tk hp99 h' tk' F1 N1; refine' and4 hp99 ?_; intro S' R' hs' hco; clear hp99)
  k_steps
  exact hret _ _ _ _ ⟨_, _, rfl, rfl, S', R', hs', hco⟩ (by k_asm) (by k_asm)
theorem elemT {n : Nat} {t1 t2 : Tok} {at' : Addr} {vs : List Value} {d : List (Str × Str)} (S : Sep (u.led w.params ad) r) (R : TAbs prog w ad z u TT) (hs : Small u n) (hn : n ≤ 400) (hvs : vs.length ≤ 500)
    (hat : TupIn w.params r at' vs) (hd : PairsAre z vs d) (hco : ∀ c ∈ TT.contents, c.1 ≠ (TT.kinds.length : Int)) (hcl : TT.contents.length ≤ 500) :
    Tells prog w p loose mean mg mb 15 60 327 [.ref ad.t, .str (Str.ofString "template") t1, .str (Str.ofString "html") t2, .ref at'] (u.led w.params ad ++ r)
      (fun v l' => ∃ u' tk, v = .int TT.kinds.length tk ∧ l' = TRaw.led w.params ad u' ++ r ∧ Sep (u'.led w.params ad) r ∧ TAbs prog w ad z u' (TT.elT d) ∧ Small u' (n + 2)) := by
  unfold Tells
  intro A env outer A₀ base h₀ L m s Q E hA0 hf0 hk B F X N T hR hret
  walk_at "nz d4"
  k_steps
  refine Hold.out (Tells.use (add4 S R hs (by omega) hvs hat hd) (by first | k_asm | exact rfl) (by first | exact rfl | assumption) (by first | exact rfl | assumption) (by k_asm) (by k_asm) (by k_asm) (by k_asm) (by k_asm) (by walk_at "nz room") ?_)
  (refine' retA2 ?_; intro u' tk hp99 h' tk' F1 N1; refine' and4 hp99 ?_; intro S' R' hs' hco'; clear hp99)
  k_steps
  refine Hold.out (Tells.use (add1 S' R' hs' (by omega)) (by first | k_asm | exact rfl) (by first | exact rfl | assumption) (by first | exact rfl | assumption) (by k_asm) (by k_asm) (by k_asm) (by k_asm) (by k_asm) (by walk_at "nz room") ?_)
  (refine' retA2 ?_; intro u2 tk hp99 h' tk' F2 N2; refine' and4 hp99 ?_; intro S2 R2 hs2 hco2; clear hp99)
  k_steps
  refine' hret _ _ _ _ ?post ?F ?N
  case F => k_asm
  case N => k_asm
  case post =>
    refine ⟨_, _, rfl, rfl, by k_asm, ⟨R2.lo, ?_, R2.k, R2.sp, R2.n, R2.a, R2.x, R2.p, R2.c⟩, ⟨hs2.k, hs2.sp, hs2.nm, hs2.a, hs2.x, hs2.p, hs2.c⟩⟩
    have e : ((TT.add (Str.ofString "element") (Str.ofString "html") (Str.ofString "template") d).kinds.length : Int) = (TT.kinds.length : Int) + 1 := by
      simp [Tr.add]
    show CoAre prog w _ (TT.contents ++ [((TT.kinds.length : Int), (TT.kinds.length : Int) + 1)])
    rw [← e]
    assumption
end
section
variable {prog : Program} {w : World} {p : Program} {loose : List Str} {mean : ExcName → Option Value} {mg mb : Str → Option Value} {ad : TAd} {u : TRaw} {z r : Led} {TT : Tr}
theorem value_ {n : Nat} {i : Int} {ti tn : Tok} {nm y : Str} {d : List (Str × Str)} (R : TAbs prog w ad z u TT) (W : WF TT n) (hn : n ≤ 500) (h0 : 0 ≤ i) (hi : i < n) (hz : ∀ q ∈ z, q ∈ r) (hza : ∀ d ∈ TT.attrs, d.length ≤ 600) (hd : TT.attrs.getD i.toNat [] = (nm, y) :: d) :
    Tells prog w p loose mean mg mb 5 20 398 [.ref ad.t, .int i ti, .str nm tn] (u.led w.params ad ++ r) (fun v l' => ∃ tk, v = .str y tk ∧ l' = u.led w.params ad ++ r) := by
  unfold Tells
  intro A env outer A₀ base h₀ L m s Q E hA0 hf0 hk B F X N T hR hret
  obtain ⟨s1, s2, s3, s4, s5, s6, s7, s8⟩ := id W
  walk_at "nz e3"
  k_steps
  refine Hold.out ?_
  rename_i hatt _ _
  have hp := hatt.pairs
  rw [hd] at hp
  obtain _ | ⟨hm, hp⟩ := hp
  have hm' := hz _ hm
  refine' iter_listUnr ?hh ?F ?N ?hm ?hc ?hd ?_
  case hh => first | exact rfl | exact Room.han (by assumption)
  case F => k_asm
  case N => k_asm
  case hm => exact List.mem_append_left _ hatt.mem
  case hc => exact rfl
  case hd => exact rfl
  intro I hI
  refine ListRest.succ fun it h tk hit F1 N1 => ?_
  k_steps
  exact hret _ _ _ _ ⟨_, rfl, rfl⟩ (by k_asm) (News.sub (by k_asm) (fun q hq => List.mem_cons_of_mem _ hq))
theorem alike_ {n : Nat} {i j : Int} {ti tj : Tok} {nm y y' : Str} {d d' : List (Str × Str)} (R : TAbs prog w ad z u TT) (W : WF TT n) (hn : n ≤ 500) (h0 : 0 ≤ i) (hi : i < n) (h0' : 0 ≤ j) (hj : j < n) (hz : ∀ q ∈ z, q ∈ r) (hza : ∀ d ∈ TT.attrs, d.length ≤ 600)
    (hd : TT.attrs.getD i.toNat [] = (nm, y) :: d) (hd' : TT.attrs.getD j.toNat [] = (nm, y') :: d') (hy : y ≠ y') :
    Tells prog w p loose mean mg mb 15 60 190 [.ref ad.t, .int i ti, .int j tj] (u.led w.params ad ++ r) (fun v l' => v = .bool false ∧ l' = u.led w.params ad ++ r) := by
  unfold Tells
  intro A env outer A₀ base h₀ L m s Q E hA0 hf0 hk B F X N T hR hret
  obtain ⟨s1, s2, s3, s4, s5, s6, s7, s8⟩ := id W
  walk_at "nz e3"
  k_steps
  all_goals try (exact hret _ _ _ _ ⟨rfl, rfl⟩ (by k_asm) (by k_asm))
  refine Hold.out ?_
  rename_i hatt _ _
  have hp := hatt.pairs
  rw [hd] at hp
  obtain _ | ⟨hm, hp⟩ := hp
  have hm' := hz _ hm
  refine' iter_listUnr ?hh ?F ?N ?hm ?hc ?hd ?_
  case hh => first | exact rfl | exact Room.han (by assumption)
  case F => k_asm
  case N => k_asm
  case hm => exact List.mem_append_left _ hatt.mem
  case hc => exact rfl
  case hd => exact rfl
  intro I hI
  refine ListRest.succ fun it h tk hit F1 N1 => ?_
  replace N1 := News.sub (l' := u.led w.params ad ++ r) N1 (fun q hq => List.mem_cons_of_mem _ hq)
  k_steps
  refine Hold.out (Tells.use (value_ R W hn h0' hj hz hza hd') (by first | k_asm | exact rfl) (by first | exact rfl | assumption) (by first | exact rfl | assumption) (by k_asm) (by k_asm) (by k_asm) (by k_asm) (by k_asm) (by walk_at "nz room") ?_)
  (refine' retC1 ?_; intro tk h' tk' F2 N2)
  have hy2 : y' ≠ y := Ne.symm hy
  k_steps
  all_goals exact hret _ _ _ _ ⟨rfl, rfl⟩ (by k_asm) (by k_asm)
end
section
variable {prog : Program} {w : World} {p : Program} {loose : List Str} {mean : ExcName → Option Value} {mg mb : Str → Option Value} {ad : TAd} {bd : BAd} {u : TRaw} {v : BRaw} {z r : Led} {TT : Tr} {stack fmt : List Int}
theorem part_ {l : Led} {nm : Str} {tn : Tok} : Tells prog w p loose mean mg mb 5 20 28 [.str nm tn] l (fun v l' => v = .bool (isPart nm) ∧ l' = l) := by
  unfold Tells
  intro A env outer A₀ base h₀ L m s Q E hA0 hf0 hk B F X N T hR hret
  walk_at "nz e1"
  k_steps
  exact hret _ _ _ _ ⟨rfl, rfl⟩ (by k_asm) (News.sub (by k_asm) (fun q hq => List.mem_cons_of_mem _ hq))
theorem part_b {l : Led} {nm : Str} {tn : Tok} {b : Bool} (hb : isPart nm = b) : Tells prog w p loose mean mg mb 5 20 28 [.str nm tn] l (fun v l' => v = .bool b ∧ l' = l) := by
  subst hb
  exact part_
theorem isHtml2 {n : Nat} {i : Int} {ti tn : Tok} {nm : Str} {b : Bool} {l₁ : Led} (R : TAbs prog w ad z u TT) (W : WF TT n) (hn : n ≤ 500) (h0 : 0 ≤ i) (hi : i < n) (hb : TT.isH i nm = b) :
    Tells prog w p loose mean mg mb 5 20 405 [.ref ad.t, .int i ti, .str nm tn] (l₁ ++ (u.led w.params ad ++ r)) (fun x l' => x = .bool b ∧ l' = l₁ ++ (u.led w.params ad ++ r)) := by
  subst hb
  exact (isHtml R W hn h0 hi).ro swap_iff
inductive FosI (P : Params) (g : Heap) (L : Addr) (ad : TAd) (bd : BAd) (u : TRaw) (v : BRaw) (r : Led) (k len : Nat) (s : Shared) : Nat → Shared → Prop
  | mk {a : Nat} {t : Tok} {m : Str → Option Value} {h : Heap} {tk : Nat} (h2 : k + a < len)
      (F : Fr g L h m) (N : News g L h (v.led P ad bd ++ (u.led P ad ++ r))) (m1 : m (Str.ofString "tree") = some (.ref ad.t)) (m2 : m (Str.ofString "items") = some (.ref bd.sI)) (m3 : m (Str.ofString "at") = some (.int ((k + a : Nat) : Int) t)) :
      FosI P g L ad bd u v r k len s a { s with heap := h, toks := tk }
theorem foster_ {n k : Nat} (S : Sep2 (v.led w.params ad bd) (u.led w.params ad) r) (R : TAbs prog w ad z u TT) (Rb : BAbs v stack fmt) (W : WF TT n) (hn : n ≤ 500) (hst : ∀ x ∈ stack, 0 ≤ x ∧ x < n) (hk1 : 1 ≤ k) (hk : k < stack.length) (hl : stack.length ≤ 500)
    (hT : TT.isH (stack.getD k 0) (Str.ofString "table") = true) (hN : ∀ j, k < j → j < stack.length → TT.isH (stack.getD j 0) (Str.ofString "table") = false ∧ TT.isH (stack.getD j 0) (Str.ofString "template") = false)
    (hp : TT.parents.getD (stack.getD k 0).toNat 0 ≠ -1) :
    Tells prog w p loose mean mg mb 15 60 35 [.ref bd.b] (v.led w.params ad bd ++ (u.led w.params ad ++ r))
      (fun x l' => ∃ D t1 t2, x = .ref D ∧ l' = v.led w.params ad bd ++ (u.led w.params ad ++ (D, tupOf [.int (TT.parents.getD (stack.getD k 0).toNat 0) t1, .int (stack.getD k 0) t2] 0) :: r) ∧
        Sep2 (v.led w.params ad bd) (u.led w.params ad) ((D, tupOf [.int (TT.parents.getD (stack.getD k 0).toNat 0) t1, .int (stack.getD k 0) t2] 0) :: r)) := by
  unfold Tells
  intro A env outer A₀ base h₀ L m s Q E hA0 hf0 hk' B F X N T hR hret
  obtain ⟨s1, s2, s3, s4, s5, s6, s7, s8⟩ := id W
  have sl := Rb.s.length
  walk_at "nz e1"
  k_steps
  refine Hold.out ?_
  refine' whl_inv (FosI w.params _ _ ad bd u v r k stack.length s) ?hE _ ?h0 ?step
  case hE => first | passes_own | with_unfolding_all passes_own
  case h0 =>
    have e : ((v.sV.length : Int) - 1) = ((k + (stack.length - 1 - k) : Nat) : Int) := by omega
    refine' FosI.mk (a := stack.length - 1 - k) ?h2 ?F ?N ?m1 ?m2 ?m3
    case F => k_asm
    case N => k_asm
    case m1 => rfl
    case m2 => rfl
    case m3 => exact congrArg (fun i => some (Value.int i _)) e
    case h2 => omega
  case step =>
    rintro a1 s' @⟨t1, mm, hh, tkk, h2, F1, N1, m1, m2, m3⟩
    have hx := hst _ (mem_getD h2)
    by_cases ha : a1 = 0
    · subst ha
      rw [Nat.add_zero] at m3 hx
      k_steps
      refine Hold.out (Tells.use (isHtml2 (b := true) R W hn hx.1 hx.2 hT) (by first | k_asm | exact rfl) (by first | exact rfl | assumption) (by first | exact rfl | assumption) (by k_asm) (by k_asm) (by k_asm) (by k_asm) (by k_asm) (by walk_at "nz room") ?_)
      (refine' ret0 ?_; intro h' tk' F2 N2)
      k_steps
      refine Hold.out (Tells.use (isHtml2 (b := true) R W hn hx.1 hx.2 hT) (by first | k_asm | exact rfl) (by first | exact rfl | assumption) (by first | exact rfl | assumption) (by k_asm) (by k_asm) (by k_asm) (by k_asm) (by k_asm) (by walk_at "nz room") ?_)
      (refine' ret0 ?_; intro h' tk' F3 N3)
      k_steps
      exact hret _ _ _ _ ⟨_, _, _, rfl, rfl, by k_asm⟩ (by k_asm) (by k_asm)
    · have hy := hN (k + a1) (by omega) h2
      k_steps
      refine Hold.out (Tells.use (isHtml2 (b := false) R W hn hx.1 hx.2 hy.1) (by first | k_asm | exact rfl) (by first | exact rfl | assumption) (by first | exact rfl | assumption) (by k_asm) (by k_asm) (by k_asm) (by k_asm) (by k_asm) (by walk_at "nz room") ?_)
      (refine' ret0 ?_; intro h' tk' F2 N2)
      k_steps
      refine Hold.out (Tells.use (isHtml2 (b := false) R W hn hx.1 hx.2 hy.2) (by first | k_asm | exact rfl) (by first | exact rfl | assumption) (by first | exact rfl | assumption) (by k_asm) (by k_asm) (by k_asm) (by k_asm) (by k_asm) (by walk_at "nz room") ?_)
      (refine' ret0 ?_; intro h' tk' F3 N3)
      k_steps
      refine ⟨a1 - 1, by omega, ?_⟩
      refine' FosI.mk (a := a1 - 1) ?h2 ?F ?N ?m1 ?m2 ?m3
      case F => k_asm
      case N => k_asm
      case m1 => exact (if_neg (by decide)).trans m1
      case m2 => exact (if_neg (by decide)).trans m2
      case m3 =>
        have e : ((k + a1 : Nat) : Int) - 1 = ((k + (a1 - 1) : Nat) : Int) := by omega
        exact (if_pos rfl).trans (congrArg (fun i => some (Value.int i _)) e)
      case h2 => omega
end
section
variable {prog : Program} {w : World} {p : Program} {loose : List Str} {mean : ExcName → Option Value} {mg mb : Str → Option Value} {ad : TAd} {bd : BAd} {u : TRaw} {v : BRaw} {z r : Led} {TT : Tr} {stack fmt : List Int}
def PlacePost (P : Params) (ad : TAd) (bd : BAd) (u : TRaw) (v : BRaw) (r : Led) (q b : Int) (x : Value) (l' : Led) : Prop :=
  ∃ D t1 t2, x = .ref D ∧ l' = v.led P ad bd ++ (u.led P ad ++ (D, tupOf [.int q t1, .int b t2] 0) :: r) ∧ Sep2 (v.led P ad bd) (u.led P ad) ((D, tupOf [.int q t1, .int b t2] 0) :: r)
theorem PlacePost.mk' {P : Params} {q b : Int} {D : Addr} {t1 t2 : Tok} (S : Sep2 (v.led P ad bd) (u.led P ad) ((D, tupOf [.int q t1, .int b t2] 0) :: r)) :
    PlacePost P ad bd u v r q b (.ref D) (v.led P ad bd ++ (u.led P ad ++ (D, tupOf [.int q t1, .int b t2] 0) :: r)) := ⟨D, t1, t2, rfl, rfl, S⟩
theorem current_ {last : Int} {l₁ : Led} (Rb : BAbs v stack fmt) (hne : 0 < stack.length) (hl : stack.length ≤ 500) (hla : stack.getD (stack.length - 1) 0 = last) :
    Tells prog w p loose mean mg mb 5 20 225 [.ref bd.st] (v.led w.params ad bd ++ l₁) (fun x l' => ∃ tk, x = .int last tk ∧ l' = v.led w.params ad bd ++ l₁) := by
  unfold Tells
  intro A env outer A₀ base h₀ L m s Q E hA0 hf0 hk' B F X N T hR hret
  have sl := Rb.s.length
  walk_at "nz e1"
  k_steps
  have e : ((v.sV.length : Int) - 1).toNat = stack.length - 1 := by omega
  exact hret _ _ _ _ ⟨_, congrArg (fun i => Value.int i _) (by rw [e]; exact hla), rfl⟩ (by k_asm) (by k_asm)
theorem placeA {n : Nat} {last : Int} (S : Sep2 (v.led w.params ad bd) (u.led w.params ad) r) (R : TAbs prog w ad z u TT) (Rb : BAbs v stack fmt) (W : WF TT n) (hn : n ≤ 500) (hst : ∀ x ∈ stack, 0 ≤ x ∧ x < n) (hne : 0 < stack.length) (hl : stack.length ≤ 500)
    (hla : stack.getD (stack.length - 1) 0 = last)
    (hf : v.foster = false ∨ isPart (TT.names.getD last.toNat (Str.ofString "")) = false) (hco : ∀ c ∈ TT.contents, c.1 ≠ last) :
    Tells prog w p loose mean mg mb 25 100 43 [.ref bd.b] (v.led w.params ad bd ++ (u.led w.params ad ++ r)) (PlacePost w.params ad bd u v r last (-1)) := by
  unfold Tells
  intro A env outer A₀ base h₀ L m s Q E hA0 hf0 hk' B F X N T hR hret
  obtain ⟨s1, s2, s3, s4, s5, s6, s7, s8⟩ := id W
  have sl := Rb.s.length
  have hx := hst _ (mem_getD (j := stack.length - 1) (by omega))
  rw [hla] at hx
  rcases hf with hf | hf
  · walk_at "nz d2"
    k_steps
    refine Hold.out (Tells.use (current_ Rb hne hl hla) (by first | k_asm | exact rfl) (by first | exact rfl | assumption) (by first | exact rfl | assumption) (by k_asm) (by k_asm) (by k_asm) (by k_asm) (by k_asm) (by walk_at "nz room") ?_)
    (refine' retC1 ?_; intro tk h' tk' F2 N2)
    k_steps
    exact hret _ _ _ _ (PlacePost.mk' (by k_asm)) (by k_asm) (by k_asm)
  · walk_at "nz d2"
    k_steps
    refine Hold.out (Tells.use (current_ Rb hne hl hla) (by first | k_asm | exact rfl) (by first | exact rfl | assumption) (by first | exact rfl | assumption) (by k_asm) (by k_asm) (by k_asm) (by k_asm) (by k_asm) (by walk_at "nz room") ?_)
    (refine' retC1 ?_; intro tk h' tk' F2 N2)
    k_steps
    · refine Hold.out (Tells.use (part_b (b := false) hf) (by first | k_asm | exact rfl) (by first | exact rfl | assumption) (by first | exact rfl | assumption) (by k_asm) (by k_asm) (by k_asm) (by k_asm) (by k_asm) (by walk_at "nz room") ?_)
      (refine' ret0 ?_; intro h' tk' F3 N3)
      k_steps
      exact hret _ _ _ _ (PlacePost.mk' (by k_asm)) (by k_asm) (by k_asm)
    all_goals exact hret _ _ _ _ (PlacePost.mk' (by k_asm)) (by k_asm) (by k_asm)
theorem placeC {n : Nat} {last c : Int} (S : Sep2 (v.led w.params ad bd) (u.led w.params ad) r) (R : TAbs prog w ad z u TT) (Rb : BAbs v stack fmt) (W : WF TT n) (hn : n ≤ 500) (hst : ∀ x ∈ stack, 0 ≤ x ∧ x < n) (hne : 0 < stack.length) (hl : stack.length ≤ 500)
    (hla : stack.getD (stack.length - 1) 0 = last) (hf : v.foster = false) (hco : PySem.Spec.lookup (.int last) (coD TT.contents) = some (.int c)) :
    Tells prog w p loose mean mg mb 25 100 43 [.ref bd.b] (v.led w.params ad bd ++ (u.led w.params ad ++ r)) (PlacePost w.params ad bd u v r c (-1)) := by
  unfold Tells
  intro A env outer A₀ base h₀ L m s Q E hA0 hf0 hk' B F X N T hR hret
  obtain ⟨s1, s2, s3, s4, s5, s6, s7, s8⟩ := id W
  have sl := Rb.s.length
  have hx := hst _ (mem_getD (j := stack.length - 1) (by omega))
  rw [hla] at hx
  walk_at "nz d2"
  k_steps
  refine Hold.out (Tells.use (current_ Rb hne hl hla) (by first | k_asm | exact rfl) (by first | exact rfl | assumption) (by first | exact rfl | assumption) (by k_asm) (by k_asm) (by k_asm) (by k_asm) (by k_asm) (by walk_at "nz room") ?_)
  (refine' retC1 ?_; intro tk h' tk' F2 N2)
  k_steps
  exact hret _ _ _ _ (PlacePost.mk' (by k_asm)) (by k_asm) (by k_asm)
theorem placeB {n k : Nat} {last tb q : Int} (S : Sep2 (v.led w.params ad bd) (u.led w.params ad) r) (R : TAbs prog w ad z u TT) (Rb : BAbs v stack fmt) (W : WF TT n) (hn : n ≤ 500) (hst : ∀ x ∈ stack, 0 ≤ x ∧ x < n) (hk1 : 1 ≤ k) (hk : k < stack.length) (hl : stack.length ≤ 500)
    (hla : stack.getD (stack.length - 1) 0 = last) (hf : v.foster = true) (hsp : TT.spaces.getD last.toNat (Str.ofString "") = Str.ofString "html") (hpt : isPart (TT.names.getD last.toNat (Str.ofString "")) = true)
    (htb : stack.getD k 0 = tb) (hT : TT.isH tb (Str.ofString "table") = true) (hN : ∀ j, k < j → j < stack.length → TT.isH (stack.getD j 0) (Str.ofString "table") = false ∧ TT.isH (stack.getD j 0) (Str.ofString "template") = false)
    (hq : TT.parents.getD tb.toNat 0 = q) (hq1 : q ≠ -1) (hco : ∀ c ∈ TT.contents, c.1 ≠ q) :
    Tells prog w p loose mean mg mb 25 100 43 [.ref bd.b] (v.led w.params ad bd ++ (u.led w.params ad ++ r)) (PlacePost w.params ad bd u v r q tb) := by
  unfold Tells
  intro A env outer A₀ base h₀ L m s Q E hA0 hf0 hk' B F X N T hR hret
  obtain ⟨s1, s2, s3, s4, s5, s6, s7, s8⟩ := id W
  have sl := Rb.s.length
  have hx := hst _ (mem_getD (j := stack.length - 1) (by omega))
  rw [hla] at hx
  subst htb
  subst hq
  have hfo := foster_ (prog := prog) (p := p) (loose := loose) (mean := mean) (mg := mg) (mb := mb) S R Rb W hn hst hk1 hk hl hT hN hq1
  walk_at "nz d2"
  k_steps
  refine Hold.out (Tells.use (current_ Rb (by omega) hl hla) (by first | k_asm | exact rfl) (by first | exact rfl | assumption) (by first | exact rfl | assumption) (by k_asm) (by k_asm) (by k_asm) (by k_asm) (by k_asm) (by walk_at "nz room") ?_)
  (refine' retC1 ?_; intro tk h' tk' F2 N2)
  k_steps
  refine Hold.out (Tells.use (part_b (b := true) hpt) (by first | k_asm | exact rfl) (by first | exact rfl | assumption) (by first | exact rfl | assumption) (by k_asm) (by k_asm) (by k_asm) (by k_asm) (by k_asm) (by walk_at "nz room") ?_)
  (refine' ret0 ?_; intro h' tk' F3 N3)
  k_steps
  refine Hold.out (Tells.use (hfo) (by first | k_asm | exact rfl) (by first | exact rfl | assumption) (by first | exact rfl | assumption) (by k_asm) (by k_asm) (by k_asm) (by k_asm) (by k_asm) (by walk_at "nz room") ?_)
  (refine' retA3 ?_; intro D t1 t2 S4 h' tk' F4 N4)
  k_steps
  rename_i N5 S5 hr5 Tc5
  exact hret _ _ _ _ (PlacePost.mk' (Sep2.sub S5 (fun y hy => (List.mem_cons.mp hy).elim (fun e => e ▸ .head _) fun e => .tail _ (.tail _ e)))) (by k_asm)
    (News.sub zzkN (sub_ab (sub_c (.head _) fun _ k => .tail _ (.tail _ k))))
end
section
variable {prog : Program} {w : World} {p : Program} {loose : List Str} {mean : ExcName → Option Value} {mg mb : Str → Option Value} {ad : TAd} {bd : BAd} {u : TRaw} {v : BRaw} {z r : Led} {TT : Tr} {stack fmt : List Int}
theorem elemP2 {n : Nat} {nm : Str} {t1 t2 : Tok} {at' : Addr} {vs : List Value} {d : List (Str × Str)} (S : Sep2 (v.led w.params ad bd) (u.led w.params ad) r) (H : St prog w ad bd z u v TT stack fmt n) (hn : n ≤ 400) (hvs : vs.length ≤ 500)
    (hat : TupIn w.params r at' vs) (hd : PairsAre z vs d) (hne : nm ≠ Str.ofString "template") :
    Tells prog w p loose mean mg mb 15 60 327 [.ref ad.t, .str nm t1, .str (Str.ofString "html") t2, .ref at'] (v.led w.params ad bd ++ (u.led w.params ad ++ r))
      (fun x l' => ∃ u' tk, x = .int (n : Nat) tk ∧ l' = v.led w.params ad bd ++ (TRaw.led w.params ad u' ++ r) ∧ Sep2 (v.led w.params ad bd) (TRaw.led w.params ad u') r ∧ TAbs prog w ad z u' (TT.add (Str.ofString "element") (Str.ofString "html") nm d)) :=
  (elemP (r := v.led w.params ad bd ++ r) S.two H.R (small_of H.R H.W) (by omega) hvs (hat.mono fun q hq => List.mem_append_right _ hq) hd hne).conv (fun q hq => (swap_iff q).mp hq)
    fun x l' ⟨u', tk, e1, e2, S', R', _, _⟩ => ⟨_, ⟨u', tk, by rw [e1, H.W.k], rfl, S.of_two S', R'⟩, fun q hq => e2 ▸ (swap_iff q).mp hq⟩
theorem insE2 {n : Nat} {q i : Int} {ti tq tb : Tok} (S : Sep2 (v.led w.params ad bd) (u.led w.params ad) r) (R : TAbs prog w ad z u TT) (W : WF TT n) (hn : n ≤ 500) (h0 : 0 ≤ q) (hq : q < i) (hi : i < n) (hp : TT.parents.getD i.toNat 0 = -1) (hz : ∀ c ∈ TT.children, c.length < n) :
    Tells prog w p loose mean mg mb 15 60 356 [.ref ad.t, .int q tq, .int i ti, .int (-1) tb] (v.led w.params ad bd ++ (u.led w.params ad ++ r))
      (fun x l' => x = .none ∧ ∃ u', l' = v.led w.params ad bd ++ (TRaw.led w.params ad u' ++ r) ∧ Sep2 (v.led w.params ad bd) (TRaw.led w.params ad u') r ∧ TAbs prog w ad z u' (TT.ins q i (-1))) :=
  (insertE (r := v.led w.params ad bd ++ r) S.two R W hn h0 hq hi hp hz).conv (fun q hq => (swap_iff q).mp hq)
    fun x l' ⟨e1, u', e2, S', R'⟩ => ⟨_, ⟨e1, u', rfl, S.of_two S', R'⟩, fun q hq => e2 ▸ (swap_iff q).mp hq⟩
theorem insB2 {n : Nat} {q i b : Int} {ti tq tb : Tok} (S : Sep2 (v.led w.params ad bd) (u.led w.params ad) r) (R : TAbs prog w ad z u TT) (W : WF TT n) (hn : n ≤ 500) (h0 : 0 ≤ q) (hq : q < i) (hi : i < n) (hp : TT.parents.getD i.toNat 0 = -1) (hz : ∀ c ∈ TT.children, c.length < n)
    (hb : b = -1 ∨ (b ∈ TT.children.getD q.toNat [] ∧ b ≠ -1 ∧ b ≠ i)) :
    Tells prog w p loose mean mg mb 15 60 356 [.ref ad.t, .int q tq, .int i ti, .int b tb] (v.led w.params ad bd ++ (u.led w.params ad ++ r))
      (fun x l' => x = .none ∧ ∃ u', l' = v.led w.params ad bd ++ (TRaw.led w.params ad u' ++ r) ∧ Sep2 (v.led w.params ad bd) (TRaw.led w.params ad u') r ∧ TAbs prog w ad z u' (TT.ins q i b)) := by
  rcases hb with rfl | ⟨h1, h2, h3⟩
  · exact insE2 S R W hn h0 hq hi hp hz
  · exact (insertB (r := v.led w.params ad bd ++ r) S.two R W hn h0 hq hi hp hz h1 h2 h3).conv (fun q hq => (swap_iff q).mp hq)
      fun x l' ⟨e1, u', e2, S', R'⟩ => ⟨_, ⟨e1, u', rfl, S.of_two S', R'⟩, fun q hq => e2 ▸ (swap_iff q).mp hq⟩
theorem elemT2 {n : Nat} {t1 t2 : Tok} {at' : Addr} {vs : List Value} {d : List (Str × Str)} (S : Sep2 (v.led w.params ad bd) (u.led w.params ad) r) (H : St prog w ad bd z u v TT stack fmt n) (hn : n ≤ 400) (hvs : vs.length ≤ 500)
    (hat : TupIn w.params r at' vs) (hd : PairsAre z vs d) (hce : TT.contents = []) :
    Tells prog w p loose mean mg mb 15 60 327 [.ref ad.t, .str (Str.ofString "template") t1, .str (Str.ofString "html") t2, .ref at'] (v.led w.params ad bd ++ (u.led w.params ad ++ r))
      (fun x l' => ∃ u' tk, x = .int (n : Nat) tk ∧ l' = v.led w.params ad bd ++ (TRaw.led w.params ad u' ++ r) ∧ Sep2 (v.led w.params ad bd) (TRaw.led w.params ad u') r ∧ TAbs prog w ad z u' (TT.elT d)) :=
  (elemT (r := v.led w.params ad bd ++ r) S.two H.R (small_of H.R H.W) (by omega) hvs (hat.mono fun q hq => List.mem_append_right _ hq) hd (by rw [hce]; exact fun _ h => nomatch h) (by rw [hce]; exact Nat.zero_le _)).conv (fun q hq => (swap_iff q).mp hq)
    fun x l' ⟨u', tk, e1, e2, S', R', _⟩ => ⟨_, ⟨u', tk, by rw [e1, H.W.k], rfl, S.of_two S', R'⟩, fun q hq => e2 ▸ (swap_iff q).mp hq⟩
def InsPost (prog : Program) (w : World) (ad : TAd) (bd : BAd) (z r : Led) (v : BRaw) (T' : Tr) (stack fmt : List Int) (n n' : Nat) (x : Value) (l' : Led) : Prop :=
  ∃ u' v' tk, x = .int (n : Nat) tk ∧ l' = BRaw.led w.params ad bd v' ++ (TRaw.led w.params ad u' ++ r) ∧ Sep2 (BRaw.led w.params ad bd v') (TRaw.led w.params ad u') r ∧ St prog w ad bd z u' v' T' stack fmt n' ∧ v'.foster = v.foster ∧ v'.mode = v.mode
theorem InsPost.mk' {T' : Tr} {n n' : Nat} {u' : TRaw} {v' : BRaw} {tk : Tok} (S : Sep2 (BRaw.led w.params ad bd v') (TRaw.led w.params ad u') r) (H : St prog w ad bd z u' v' T' stack fmt n') (f : v'.foster = v.foster) (m : v'.mode = v.mode) :
    InsPost prog w ad bd z r v T' stack fmt n n' (.int (n : Nat) tk) (BRaw.led w.params ad bd v' ++ (TRaw.led w.params ad u' ++ r)) := ⟨u', v', tk, rfl, rfl, S, H, f, m⟩
theorem insEl {n : Nat} {nm : Str} {t1 : Tok} {at' : Addr} {vs : List Value} {d : List (Str × Str)} {q b : Int} (S : Sep2 (v.led w.params ad bd) (u.led w.params ad) r) (H : St prog w ad bd z u v TT stack fmt n) (hn : n ≤ 300) (hvs : vs.length ≤ 500)
    (hat : TupIn w.params r at' vs) (hd : PairsAre z vs d) (hne : nm ≠ Str.ofString "template")
    (C : Tells prog w p loose mean mg mb 25 100 43 [.ref bd.b] (v.led w.params ad bd ++ (u.led w.params ad ++ r)) (PlacePost w.params ad bd u v r q b)) (h0 : 0 ≤ q) (hq : q < n) (hb : b = -1 ∨ (b ∈ TT.children.getD q.toNat [] ∧ b ≠ -1 ∧ b ≠ (n : Int))) :
    Tells prog w p loose mean mg mb 35 140 60 [.ref bd.b, .str nm t1, .ref at'] (v.led w.params ad bd ++ (u.led w.params ad ++ r))
      (InsPost prog w ad bd z r v ((TT.add (Str.ofString "element") (Str.ofString "html") nm d).ins q n b) (stack ++ [(n : Int)]) fmt n (n + 1)) := by
  unfold Tells
  intro A env outer A₀ base h₀ L m s Q E hA0 hf0 hk' B F X N T hR hret
  have sl := H.B.s.length
  have hl := H.hl
  walk_at "nz d4"
  k_steps
  refine Hold.out (Tells.use (C) (by first | k_asm | exact rfl) (by first | exact rfl | assumption) (by first | exact rfl | assumption) (by k_asm) (by k_asm) (by k_asm) (by k_asm) (by k_asm) (by walk_at "nz room") ?_)
  (refine' retA3 ?_; intro D t2 t3 S1 h' tk' F1 N1)
  k_steps
  refine Hold.out (Tells.use (elemP2 S1 H (by omega) hvs (hat.mono fun _ hq => .tail _ hq) hd hne) (by first | k_asm | exact rfl) (by first | exact rfl | assumption) (by first | exact rfl | assumption) (by k_asm) (by k_asm) (by k_asm) (by k_asm) (by k_asm) (by walk_at "nz room") ?_)
  (refine' retA2 ?_; intro u2 tk hp99 h' tk' F2 N2; have hp98 := hp99; have S2 := hp98.1; have R2 := hp98.2; clear hp98; clear hp99)
  k_steps
  refine Hold.out (Tells.use (insB2 S2 R2 (H.W.add _ _ _ _) (by omega) h0 hq (by omega) (add_par H.W _ _ _ _) (fun c hc => Nat.lt_succ_of_le (kids_add H.K _ _ _ _ c hc)) (by rw [add_kid H.W _ _ _ _ h0 hq]; exact hb)) (by first | k_asm | exact rfl) (by first | exact rfl | assumption) (by first | exact rfl | assumption) (by k_asm) (by k_asm) (by k_asm) (by k_asm) (by k_asm) (by walk_at "nz room") ?_)
  (refine' retB1 ?_; intro u3 hp99 h' tk' F3 N3; have hp98 := hp99; have S3 := hp98.1; have R3 := hp98.2; clear hp98; clear hp99)
  k_steps
  exact hret _ _ _ _ (InsPost.mk' (u' := u3) (Sep2.sub (by k_asm) (fun y hy => .tail _ hy)) (H.ins h0 hq R3) rfl rfl) (by k_asm) (News.sub (by k_asm) (sub_ab fun _ k => .tail _ k))
theorem insEl2 {n : Nat} {nm : Str} {t1 : Tok} {q b : Int} (S : Sep2 (v.led w.params ad bd) (u.led w.params ad) r) (H : St prog w ad bd z u v TT stack fmt n) (hn : n ≤ 300) (hne : nm ≠ Str.ofString "template")
    (C : Tells prog w p loose mean mg mb 25 100 43 [.ref bd.b] (v.led w.params ad bd ++ (u.led w.params ad ++ r)) (PlacePost w.params ad bd u v r q b)) (h0 : 0 ≤ q) (hq : q < n) (hb : b = -1 ∨ (b ∈ TT.children.getD q.toNat [] ∧ b ≠ -1 ∧ b ≠ (n : Int))) :
    Tells prog w p loose mean mg mb 35 140 60 [.ref bd.b, .str nm t1] (v.led w.params ad bd ++ (u.led w.params ad ++ r))
      (InsPost prog w ad bd z r v ((TT.add (Str.ofString "element") (Str.ofString "html") nm []).ins q n b) (stack ++ [(n : Int)]) fmt n (n + 1)) := by
  unfold Tells
  intro A env outer A₀ base h₀ L m s Q E hA0 hf0 hk' B F X N T hR hret
  have sl := H.B.s.length
  have hl := H.hl
  have hat : TupIn w.params r 52 [] := .inr ⟨_, _, by k_is, rfl, rfl⟩
  walk_at "nz d4"
  k_steps
  refine Hold.out (Tells.use (C) (by first | k_asm | exact rfl) (by first | exact rfl | assumption) (by first | exact rfl | assumption) (by k_asm) (by k_asm) (by k_asm) (by k_asm) (by k_asm) (by walk_at "nz room") ?_)
  (refine' retA3 ?_; intro D t2 t3 S1 h' tk' F1 N1)
  k_steps
  refine Hold.out (Tells.use (elemP2 S1 H (by omega) (by decide) (hat.mono fun _ hq => .tail _ hq) .nil hne) (by first | k_asm | exact rfl) (by first | exact rfl | assumption) (by first | exact rfl | assumption) (by k_asm) (by k_asm) (by k_asm) (by k_asm) (by k_asm) (by walk_at "nz room") ?_)
  (refine' retA2 ?_; intro u2 tk hp99 h' tk' F2 N2; have hp98 := hp99; have S2 := hp98.1; have R2 := hp98.2; clear hp98; clear hp99)
  k_steps
  refine Hold.out (Tells.use (insB2 S2 R2 (H.W.add _ _ _ _) (by omega) h0 hq (by omega) (add_par H.W _ _ _ _) (fun c hc => Nat.lt_succ_of_le (kids_add H.K _ _ _ _ c hc)) (by rw [add_kid H.W _ _ _ _ h0 hq]; exact hb)) (by first | k_asm | exact rfl) (by first | exact rfl | assumption) (by first | exact rfl | assumption) (by k_asm) (by k_asm) (by k_asm) (by k_asm) (by k_asm) (by walk_at "nz room") ?_)
  (refine' retB1 ?_; intro u3 hp99 h' tk' F3 N3; have hp98 := hp99; have S3 := hp98.1; have R3 := hp98.2; clear hp98; clear hp99)
  k_steps
  exact hret _ _ _ _ (InsPost.mk' (u' := u3) (Sep2.sub (by k_asm) (fun y hy => .tail _ hy)) (H.ins h0 hq R3) rfl rfl) (by k_asm) (News.sub (by k_asm) (sub_ab fun _ k => .tail _ k))
theorem insElT {n : Nat} {t1 : Tok} {q b : Int} (S : Sep2 (v.led w.params ad bd) (u.led w.params ad) r) (H : St prog w ad bd z u v TT stack fmt n) (hn : n ≤ 300) (hce : TT.contents = [])
    (C : Tells prog w p loose mean mg mb 25 100 43 [.ref bd.b] (v.led w.params ad bd ++ (u.led w.params ad ++ r)) (PlacePost w.params ad bd u v r q b)) (h0 : 0 ≤ q) (hq : q < n) (hb : b = -1 ∨ (b ∈ TT.children.getD q.toNat [] ∧ b ≠ -1 ∧ b ≠ (n : Int))) :
    Tells prog w p loose mean mg mb 35 140 60 [.ref bd.b, .str (Str.ofString "template") t1] (v.led w.params ad bd ++ (u.led w.params ad ++ r))
      (InsPost prog w ad bd z r v ((TT.elT []).ins q n b) (stack ++ [(n : Int)]) fmt n (n + 2)) := by
  unfold Tells
  intro A env outer A₀ base h₀ L m s Q E hA0 hf0 hk' B F X N T hR hret
  have sl := H.B.s.length
  have hl := H.hl
  have hat : TupIn w.params r 52 [] := .inr ⟨_, _, by k_is, rfl, rfl⟩
  walk_at "nz d4"
  k_steps
  refine Hold.out (Tells.use (C) (by first | k_asm | exact rfl) (by first | exact rfl | assumption) (by first | exact rfl | assumption) (by k_asm) (by k_asm) (by k_asm) (by k_asm) (by k_asm) (by walk_at "nz room") ?_)
  (refine' retA3 ?_; intro D t2 t3 S1 h' tk' F1 N1)
  k_steps
  refine Hold.out (Tells.use (elemT2 S1 H (by omega) (by decide) (hat.mono fun _ hq => .tail _ hq) .nil hce) (by first | k_asm | exact rfl) (by first | exact rfl | assumption) (by first | exact rfl | assumption) (by k_asm) (by k_asm) (by k_asm) (by k_asm) (by k_asm) (by walk_at "nz room") ?_)
  (refine' retA2 ?_; intro u2 tk hp99 h' tk' F2 N2; have hp98 := hp99; have S2 := hp98.1; have R2 := hp98.2; clear hp98; clear hp99)
  k_steps
  refine Hold.out (Tells.use (insB2 S2 R2 (H.W.elT _) (by omega) h0 hq (by omega) (elT_par H.W _) (fun c hc => by have := kids_elT H.K _ c hc; omega) (by rw [elT_kid H.W _ h0 hq]; exact hb)) (by first | k_asm | exact rfl) (by first | exact rfl | assumption) (by first | exact rfl | assumption) (by k_asm) (by k_asm) (by k_asm) (by k_asm) (by k_asm) (by walk_at "nz room") ?_)
  (refine' retB1 ?_; intro u3 hp99 h' tk' F3 N3; have hp98 := hp99; have S3 := hp98.1; have R3 := hp98.2; clear hp98; clear hp99)
  k_steps
  exact hret _ _ _ _ (InsPost.mk' (u' := u3) (Sep2.sub (by k_asm) (fun y hy => .tail _ hy)) (H.insT h0 hq R3) rfl rfl) (by k_asm) (News.sub (by k_asm) (sub_ab fun _ k => .tail _ k))
end
section
variable {prog : Program} {w : World} {p : Program} {loose : List Str} {mean : ExcName → Option Value} {mg mb : Str → Option Value} {ad : TAd} {bd : BAd} {u : TRaw} {v : BRaw} {z r : Led} {TT : Tr} {stack fmt : List Int}
theorem has_ {x : Int} {t : Tok} {b : Bool} {l₁ : Led} (Rb : BAbs v stack fmt) (hb : decide (x ∈ stack) = b) :
    Tells prog w p loose mean mg mb 5 20 239 [.ref bd.st, .int x t] (v.led w.params ad bd ++ l₁) (fun x l' => x = .bool b ∧ l' = v.led w.params ad bd ++ l₁) := by
  subst hb
  unfold Tells
  intro A env outer A₀ base h₀ L m s Q E hA0 hf0 hk' B F X N T hR hret
  have hi := Rb.s
  walk_at "nz e2"
  k_steps
  exact hret _ _ _ _ ⟨rfl, rfl⟩ (by k_asm) (by k_asm)
def recT : Tr → Nat → Int → Int → List Int → Tr
  | T, _, _, _, [] => T
  | T, n, q, b, x :: xs => recT ((T.add (Str.ofString "element") (Str.ofString "html") (T.names.getD x.toNat (Str.ofString "")) (T.attrs.getD x.toNat [])).ins q n b) (n + 1) n (-1) xs
inductive RecA (P : Params) (g : Heap) (L : Addr) (ad : TAd) (bd : BAd) (u : TRaw) (v : BRaw) (r : Led) (pl len : Nat) (s : Shared) : Nat → Shared → Prop
  | mk {a : Nat} {t : Tok} {m : Str → Option Value} {h : Heap} {tk : Nat} (h2 : pl + a ≤ len)
      (F : Fr g L h m) (N : News g L h (v.led P ad bd ++ (u.led P ad ++ r))) (m1 : m (Str.ofString "tree") = some (.ref ad.t)) (m2 : m (Str.ofString "formatting") = some (.ref bd.fm)) (m4 : m (Str.ofString "builder") = some (.ref bd.b)) (m3 : m (Str.ofString "at") = some (.int ((pl + a : Nat) : Int) t)) :
      RecA P g L ad bd u v r pl len s a { s with heap := h, toks := tk }
def RecPost (prog : Program) (w : World) (ad : TAd) (bd : BAd) (z r : Led) (fo : Bool) (mo : Str) (TF : Tr) (SF FF : List Int) (nF : Nat) (x : Value) (l' : Led) : Prop :=
  x = .none ∧ ∃ u' v', l' = BRaw.led w.params ad bd v' ++ (TRaw.led w.params ad u' ++ r) ∧ Sep2 (BRaw.led w.params ad bd v') (TRaw.led w.params ad u') r ∧ St prog w ad bd z u' v' TF SF FF nF ∧ v'.foster = fo ∧ v'.mode = mo
/-- the state at the second loop's head -/
structure RecS (prog : Program) (w : World) (p : Program) (loose : List Str) (mean : ExcName → Option Value) (mg mb : Str → Option Value) (ad : TAd) (bd : BAd) (z r : Led) (fo : Bool) (mo : Str) (TF : Tr) (SF FF : List Int) (nF : Nat)
    (u : TRaw) (v : BRaw) (T : Tr) (n : Nat) (q b : Int) (stack pre rem : List Int) : Prop where
  S : Sep2 (v.led w.params ad bd) (u.led w.params ad) r
  H : St prog w ad bd z u v T stack (pre ++ rem) n
  hn : n + rem.length ≤ 250
  hl : (pre ++ rem).length ≤ 100
  C : rem ≠ [] → ∀ u v r fmt, Sep2 (BRaw.led w.params ad bd v) (TRaw.led w.params ad u) r → St prog w ad bd z u v T stack fmt n → v.foster = fo →
    Tells prog w p loose mean mg mb 25 100 43 [.ref bd.b] (v.led w.params ad bd ++ (u.led w.params ad ++ r)) (PlacePost w.params ad bd u v r q b)
  q0 : rem ≠ [] → 0 ≤ q
  qn : rem ≠ [] → q < n
  hb : rem ≠ [] → b = -1 ∨ (b ∈ T.children.getD q.toNat [] ∧ b ≠ -1 ∧ b ≠ (n : Int))
  good : ∀ x ∈ rem, 0 ≤ x ∧ x < n ∧ T.names.getD x.toNat (Str.ofString "") ≠ Str.ofString "template" ∧ isPart (T.names.getD x.toNat (Str.ofString "")) = false
  co : ∀ c ∈ T.contents, c.1 < n
  at' : ∀ d ∈ T.attrs, d.length ≤ 500
  eT : recT T n q b rem = TF
  eS : stack ++ nums n rem.length = SF
  eF : pre ++ nums n rem.length = FF
  en : n + rem.length = nF
  fo : v.foster = fo
  mo : v.mode = mo
theorem RecS.next {fo : Bool} {mo : Str} {TF : Tr} {SF FF f9 : List Int} {nF n nn : Nat} {q b x : Int} {pre rem : List Int} {u' : TRaw} {v' : BRaw} {tk : Tok}
    (I : RecS prog w p loose mean mg mb ad bd z r fo mo TF SF FF nF u v TT n q b stack pre (x :: rem))
    (H : St prog w ad bd z u' v' ((TT.add (Str.ofString "element") (Str.ofString "html") (TT.names.getD x.toNat (Str.ofString "")) (TT.attrs.getD x.toNat [])).ins q n b) (stack ++ [(n : Int)]) f9 (n + 1)) (hf : f9 = pre ++ x :: rem) (e1 : v'.foster = v.foster) (e2 : v'.mode = v.mode)
    (S : Sep2 (BRaw.led w.params ad bd { v' with fV := v'.fV.set pre.length (.int (n : Nat) tk), fN := nn }) (TRaw.led w.params ad u') r) :
    RecS prog w p loose mean mg mb ad bd z r fo mo TF SF FF nF u' { v' with fV := v'.fV.set pre.length (.int (n : Nat) tk), fN := nn } ((TT.add (Str.ofString "element") (Str.ofString "html") (TT.names.getD x.toNat (Str.ofString "")) (TT.attrs.getD x.toNat [])).ins q n b) (n + 1) n (-1) (stack ++ [(n : Int)]) (pre ++ [(n : Int)]) rem := by
  subst hf
  have sn := I.H.W.nm
  obtain ⟨x0, xn, xt, xp⟩ := I.good x (.head _)
  have nms : ∀ y : Int, 0 ≤ y → y < n → (TT.names ++ [TT.names.getD x.toNat (Str.ofString "")]).getD y.toNat (Str.ofString "") = TT.names.getD y.toNat (Str.ofString "") := fun y h0 h1 => by
    rw [getD_snoc, if_pos (by omega)]
  have nmn : (TT.names ++ [TT.names.getD x.toNat (Str.ofString "")]).getD ((n : Nat) : Int).toNat (Str.ofString "") = TT.names.getD x.toNat (Str.ofString "") := by
    rw [getD_snoc, if_neg (by omega), if_pos (by omega)]
  have hn := I.hn
  have hl := I.hl
  simp only [List.length_cons, List.length_append] at hn hl
  refine ⟨S, ⟨H.R, ⟨H.B.s, ?_⟩, H.W, H.K, H.hst, H.hl⟩, by omega, by simp; omega, ?_, fun _ => by omega, fun _ => by omega, fun _ => .inl rfl, ?_, ?_, ?_, I.eT, ?_, ?_, ?_, e1.trans I.fo, e2.trans I.mo⟩
  · have z := ints_set' (x := (n : Int)) (u := tk) H.B.f pre.length
    have e : (pre ++ x :: rem).set pre.length (n : Int) = (pre ++ [(n : Int)]) ++ rem := by simp
    rw [e] at z
    exact z
  · intro _ u2 v2 r2 fmt2 S2 H2 f2
    have hl2 := H2.hl
    have hl' := H.hl
    exact placeA S2 H2.R H2.B H2.W (by omega) H2.hst (by simp) (by omega) (by
      rw [getD_snoc, if_neg (by simp), if_pos (by simp)]) (.inr (by
      show isPart ((TT.names ++ [TT.names.getD x.toNat (Str.ofString "")]).getD _ _) = false
      rw [nmn]
      exact xp)) fun c hc e => by
        have := I.co c hc
        omega
  · intro y hy
    obtain ⟨y0, yn, yt, yp⟩ := I.good y (.tail _ hy)
    refine ⟨y0, by omega, ?_, ?_⟩
    · show (TT.names ++ [TT.names.getD x.toNat (Str.ofString "")]).getD _ _ ≠ _
      rw [nms y y0 yn]
      exact yt
    · show isPart ((TT.names ++ [TT.names.getD x.toNat (Str.ofString "")]).getD _ _) = false
      rw [nms y y0 yn]
      exact yp
  · intro c hc
    have := I.co c hc
    omega
  · intro d hd
    rcases List.mem_append.mp (show d ∈ TT.attrs ++ [TT.attrs.getD x.toNat []] from hd) with hd | hd
    · exact I.at' d hd
    · rw [List.mem_singleton.mp hd, List.getD_eq_getElem?_getD, List.getElem?_eq_getElem (by have := I.H.W.a; omega)]
      exact I.at' _ (List.getElem_mem _)
  · rw [← I.eS]
    simp [nums]
  · rw [← I.eF]
    simp [nums]
  · rw [← I.en]
    simp
    omega
inductive RecB (prog : Program) (w : World) (p : Program) (loose : List Str) (mean : ExcName → Option Value) (mg mb : Str → Option Value) (ad : TAd) (bd : BAd) (z r : Led) (fo : Bool) (mo : Str) (TF : Tr) (SF FF : List Int) (nF : Nat) (g : Heap) (L : Addr) (s : Shared) : Nat → Shared → Prop
  | mk {k : Nat} {u : TRaw} {v : BRaw} {T : Tr} {n : Nat} {q b : Int} {stack pre rem : List Int} {t : Tok} {m : Str → Option Value} {h : Heap} {tk : Nat} (I : RecS prog w p loose mean mg mb ad bd z r fo mo TF SF FF nF u v T n q b stack pre rem) (hk : k = rem.length)
      (F : Fr g L h m) (N : News g L h (v.led w.params ad bd ++ (u.led w.params ad ++ r))) (m1 : m (Str.ofString "tree") = some (.ref ad.t)) (m2 : m (Str.ofString "formatting") = some (.ref bd.fm)) (m4 : m (Str.ofString "builder") = some (.ref bd.b)) (m3 : m (Str.ofString "at") = some (.int ((pre.length : Nat) : Int) t)) :
      RecB prog w p loose mean mg mb ad bd z r fo mo TF SF FF nF g L s k { s with heap := h, toks := tk }
theorem reconstruct_ {n nF : Nat} {q b : Int} {fo : Bool} {mo : Str} {TF : Tr} {SF FF pre fresh : List Int} (I : RecS prog w p loose mean mg mb ad bd z r fo mo TF SF FF nF u v TT n q b stack pre fresh)
    (hpre : pre = [] ∨ pre.getD (pre.length - 1) 0 = -1 ∨ pre.getD (pre.length - 1) 0 ∈ stack) (hfr : ∀ x ∈ fresh, x ≠ -1 ∧ x ∉ stack) :
    Tells prog w p loose mean mg mb 45 180 67 [.ref bd.b] (v.led w.params ad bd ++ (u.led w.params ad ++ r)) (RecPost prog w ad bd z r fo mo TF SF FF nF) := by
  unfold Tells
  intro A env outer A₀ base h₀ L m s Q E hA0 hf0 hk' B F X N T hR hret
  have S := I.S
  have H := I.H
  have sl := H.B.s.length
  have fl := H.B.f.length
  have hl := H.hl
  have hfl := I.hl
  have hB := H.B
  have pf : (pre ++ fresh).length = pre.length + fresh.length := List.length_append
  walk_at "nz e1"
  k_steps
  refine Hold.out ?_
  refine' whl_to0 (RecA w.params _ _ ad bd u v r pre.length (pre ++ fresh).length s) ?hE _ ?h0 ?step ?after
  case hE => first | passes_own | with_unfolding_all passes_own
  case h0 =>
    refine' RecA.mk (a := fresh.length) ?h2 ?F ?N ?m1 ?m2 ?m4 ?m3
    case F => k_asm
    case N => k_asm
    case m1 => rfl
    case m2 => rfl
    case m4 => rfl
    case m3 => exact congrArg (fun i => some (Value.int i _)) (by omega)
    case h2 => omega
  case step =>
    rintro a1 s' @⟨t1, mm, hh, tkk, h2, F1, N1, m1, m2, m4, m3⟩
    by_cases ha : a1 = 0
    · subst ha
      have ix : pre ≠ [] → (pre ++ fresh).getD (((pre.length + 0 : Nat) : Int) - 1).toNat 0 = pre.getD (pre.length - 1) 0 := fun hne => by
        have := List.length_pos_iff.mpr hne
        rw [show (((pre.length + 0 : Nat) : Int) - 1).toNat = pre.length - 1 by omega, List.getD_eq_getElem?_getD, List.getD_eq_getElem?_getD, List.getElem?_append_left (by omega)]
      rcases hpre with rfl | hm | hm
      · k_steps
        exact RecA.mk h2 (by k_asm) (by k_asm) m1 m2 m4 m3
      · by_cases hne : pre = []
        · subst hne
          exact absurd hm (by decide)
        · have hpl := List.length_pos_iff.mpr hne
          have e := ix hne
          rw [hm] at e
          k_steps
          exact RecA.mk h2 (by k_asm) (by k_asm) m1 m2 m4 m3
      · by_cases hne : pre = []
        · subst hne
          k_steps
          exact RecA.mk h2 (by k_asm) (by k_asm) m1 m2 m4 m3
        · have hpl := List.length_pos_iff.mpr hne
          have e := ix hne
          have hs := H.hst _ hm
          rw [← e] at hm hs
          k_steps
          refine Hold.out (Tells.use (has_ (b := true) hB (decide_eq_true hm)) (by first | k_asm | exact rfl) (by first | exact rfl | assumption) (by first | exact rfl | assumption) (by k_asm) (by k_asm) (by k_asm) (by k_asm) (by k_asm) (by walk_at "nz room") ?_)
          (refine' ret0 ?_; intro h' tk' F2 N2)
          k_steps
          exact RecA.mk h2 (by k_asm) (by k_asm) m1 m2 m4 m3
    · have ix : (pre ++ fresh).getD (((pre.length + a1 : Nat) : Int) - 1).toNat 0 ∈ fresh := by
        rw [show (((pre.length + a1 : Nat) : Int) - 1).toNat = pre.length + (a1 - 1) by omega, List.getD_eq_getElem?_getD, List.getElem?_append_right (by omega), Nat.add_sub_cancel_left, List.getElem?_eq_getElem (by omega)]
        exact List.getElem_mem _
      obtain ⟨x1, x2⟩ := hfr _ ix
      k_steps
      refine Hold.out (Tells.use (has_ (b := false) hB (decide_eq_false x2)) (by first | k_asm | exact rfl) (by first | exact rfl | assumption) (by first | exact rfl | assumption) (by k_asm) (by k_asm) (by k_asm) (by k_asm) (by k_asm) (by walk_at "nz room") ?_)
      (refine' ret0 ?_; intro h' tk' F2 N2)
      k_steps
      refine ⟨a1 - 1, by omega, ?_⟩
      refine' RecA.mk (a := a1 - 1) ?h2 ?F ?N ?m1 ?m2 ?m4 ?m3
      case F => k_asm
      case N => k_asm
      case m1 => exact (if_neg (by decide)).trans m1
      case m2 => exact (if_neg (by decide)).trans m2
      case m4 => exact (if_neg (by decide)).trans m4
      case m3 =>
        have e : ((pre.length + a1 : Nat) : Int) - 1 = ((pre.length + (a1 - 1) : Nat) : Int) := by omega
        exact (if_pos rfl).trans (congrArg (fun i => some (Value.int i _)) e)
      case h2 => omega
  case after =>
    rintro s' @⟨t1, mm, hh, tkk, h2, F1, N1, m1, m2, m4, m3⟩
    rw [Nat.add_zero] at m3
    clear hl hfl pf sl fl hpre hfr hB h2
    k_steps
    refine Hold.out ?_
    refine' whl_inv (RecB prog w p loose mean mg mb ad bd z r fo mo TF SF FF nF _ _ s) ?hE _ ?h0 ?step
    case hE => first | passes_own | with_unfolding_all passes_own
    case h0 =>
      refine' RecB.mk I rfl ?F ?N ?m1 ?m2 ?m4 ?m3
      case F => k_asm
      case N => k_asm
      case m1 => exact m1
      case m2 => exact m2
      case m4 => exact m4
      case m3 => exact m3
    case step =>
      rintro a1 s' @⟨u, v, T', n, q, b, stack, pre, rem, t, mm, hh, tkk, I, hk, F1, N1, m1, m2, m4, m3⟩
      have S := I.S
      have H := I.H
      obtain ⟨s1, s2, s3, s4, s5, s6, s7, s8⟩ := id H.W
      have fl := H.B.f.length
      have hB := H.B
      have hR := H.R
      have hn := I.hn
      have hfl := I.hl
      have ha : ∀ d ∈ T'.attrs, d.length ≤ 600 := fun d hd => Nat.le_trans (I.at' d hd) (by decide)
      cases rem with
      | nil =>
        have fl' : v.fV.length = pre.length := by
          rw [fl]
          simp
        have fl2 : pre.length ≤ 100 := by
          simp only [List.append_nil] at hfl
          exact hfl
        clear fl hn hfl
        k_steps
        refine' hret _ _ _ _ ?post ?F ?N
        case F => k_asm
        case N => k_asm
        case post =>
          have e1 := I.eT
          have e2 := I.eS
          have e3 := I.eF
          have e4 := I.en
          simp only [recT, nums, List.length_nil, List.append_nil, Nat.add_zero] at e1 e2 e3 e4
          subst e1
          subst e2
          subst e3
          subst e4
          rw [List.append_nil] at H
          exact ⟨rfl, u, v, rfl, S, H, I.fo, I.mo⟩
      | cons x rem =>
        (refine' and4 (I.good x (.head _)) ?_; intro x0 xn xt xp)
        obtain ⟨f9, hf9⟩ : ∃ f9, f9 = pre ++ x :: rem := ⟨_, rfl⟩
        have len9 : f9.length = pre.length + rem.length + 1 := by
          rw [hf9]
          simp
          omega
        have ix : f9.getD pre.length 0 = x := by
          rw [hf9, List.getD_eq_getElem?_getD, List.getElem?_append_right (Nat.le_refl _), Nat.sub_self]
          rfl
        rw [← hf9] at fl hB hfl H
        have hn1 : n ≤ 249 := by
          simp only [List.length_cons] at hn
          omega
        clear hn
        subst ix
        k_steps
        rename_i c' v' nv hatt hle hsz Da ha' Fa Na Sa hra
        have H0 := H
        rw [hf9] at H0
        have hvs : v'.length ≤ 500 := by
          rw [hle, List.getD_eq_getElem?_getD, List.getElem?_eq_getElem (by omega)]
          exact I.at' _ (List.getElem_mem _)
        refine Hold.out (Tells.use (insEl Sa H (by omega) hvs (.inl ⟨0, .head _⟩) hatt.pairs xt (I.C (List.cons_ne_nil _ _) _ _ _ _ Sa H I.fo) (I.q0 (List.cons_ne_nil _ _)) (I.qn (List.cons_ne_nil _ _)) (I.hb (List.cons_ne_nil _ _))) (by first | k_asm | exact rfl) (by first | exact rfl | assumption) (by first | exact rfl | assumption) (by k_asm) (by k_asm) (by k_asm) (by k_asm) (by k_asm) (by walk_at "nz room") ?_)
        (refine' retA3 ?_; intro u2 v2 tk2 hp99 h' tk' F2 N2; refine' and4 hp99 ?_; intro S2 H2 f2 m2'; clear hp99)
        have fl2 := H2.B.f.length
        k_steps
        refine ⟨rem.length, by simp only [hk, List.length_cons]; omega, ?_⟩
        refine' RecB.mk (I.next (tk := tk2) H2 hf9 f2 m2' ?S) rfl ?F ?N ?m1 ?m2 ?m4 ?m3
        case S => exact Sep2.sub (by k_asm) (fun y hy => .tail _ hy)
        case F => k_asm
        case N => exact News.sub (by k_asm) (sub_ab fun _ k => .tail _ k)
        case m1 => exact (if_neg (by decide)).trans ((if_neg (by decide)).trans m1)
        case m2 => exact (if_neg (by decide)).trans ((if_neg (by decide)).trans m2)
        case m4 => exact (if_neg (by decide)).trans ((if_neg (by decide)).trans m4)
        case m3 =>
          have e : ((pre.length : Nat) : Int) + 1 = (((pre ++ [(n : Int)]).length : Nat) : Int) := by simp
          exact (if_pos rfl).trans (congrArg (fun i => some (Value.int i _)) e)
end
section
variable {prog : Program} {w : World} {p : Program} {loose : List Str} {mean : ExcName → Option Value} {mg mb : Str → Option Value} {ad : TAd} {bd : BAd} {u : TRaw} {v : BRaw} {z r : Led} {TT : Tr} {stack fmt : List Int}
theorem alike2 {n : Nat} {i j : Int} {ti tj : Tok} {nm y y' : Str} {d d' : List (Str × Str)} {l₁ : Led} (R : TAbs prog w ad z u TT) (W : WF TT n) (hn : n ≤ 500) (h0 : 0 ≤ i) (hi : i < n) (h0' : 0 ≤ j) (hj : j < n) (hz : ∀ q ∈ z, q ∈ r) (hza : ∀ d ∈ TT.attrs, d.length ≤ 600)
    (hd : TT.attrs.getD i.toNat [] = (nm, y) :: d) (hd' : TT.attrs.getD j.toNat [] = (nm, y') :: d') (hy : y ≠ y') :
    Tells prog w p loose mean mg mb 15 60 190 [.ref ad.t, .int i ti, .int j tj] (l₁ ++ (u.led w.params ad ++ r)) (fun v l' => v = .bool false ∧ l' = l₁ ++ (u.led w.params ad ++ r)) :=
  (alike_ (r := l₁ ++ r) R W hn h0 hi h0' hj (fun q hq => List.mem_append_right _ (hz q hq)) hza hd hd' hy).ro swap_iff
structure PshI (l₀ : Led) (bd : BAd) (ix : Int) (I : Addr) (m : Str → Option Value) (l : Led) : Prop where
  el : l = l₀
  off : ∀ p ∈ l₀, p.1 ≠ I
  m1 : m (Str.ofString "self") = some (.ref bd.fm)
  m2 : ∃ t, m (Str.ofString "node") = some (.int ix t)
  m3 : ∃ t, m (Str.ofString "count") = some (.int 0 t)
  m4 : ∃ y, m (Str.ofString "earliest") = some y
inductive PshJ (g : Heap) (L : Addr) (l₀ : Led) (bd : BAd) (ix : Int) (s : Shared) : Shared → Prop
  | mk {I : Addr} {m : Str → Option Value} {h : Heap} {tk : Nat} (P : PshI l₀ bd ix I m l₀) (F : Fr g L h m) (N : News g L h l₀) : PshJ g L l₀ bd ix s { s with heap := h, toks := tk }
theorem push_ {n : Nat} {i : Int} {ti : Tok} {nm y : Str} {d : List (Str × Str)} (S : Sep2 (v.led w.params ad bd) (u.led w.params ad) r) (H : St prog w ad bd z u v TT stack fmt n) (hn : n ≤ 500) (h0 : 0 ≤ i) (hi : i < n) (hz : ∀ q ∈ z, q ∈ r) (hza : ∀ d ∈ TT.attrs, d.length ≤ 600) (hfl : fmt.length ≤ 100)
    (hd : TT.attrs.getD i.toNat [] = (nm, y) :: d) (hA : ∀ x ∈ fmt, x = -1 ∨ (0 ≤ x ∧ x < n ∧ ∃ y' d', TT.attrs.getD x.toNat [] = (nm, y') :: d' ∧ y' ≠ y)) :
    Tells prog w p loose mean mg mb 25 100 120 [.ref bd.fm, .int i ti] (v.led w.params ad bd ++ (u.led w.params ad ++ r))
      (fun x l' => x = .none ∧ ∃ v', l' = BRaw.led w.params ad bd v' ++ (u.led w.params ad ++ r) ∧ Sep2 (BRaw.led w.params ad bd v') (u.led w.params ad) r ∧ St prog w ad bd z u v' TT stack (fmt ++ [i]) n ∧ v'.foster = v.foster ∧ v'.mode = v.mode) := by
  unfold Tells
  intro A env outer A₀ base h₀ L m s Q E hA0 hf0 hk' B F X N T hR hret
  have fl := H.B.f.length
  have hB := H.B
  walk_at "nz e2"
  k_steps
  refine Hold.out ?_
  refine' rng_to (n := fmt.length) (fun I _ m l => PshI (v.led w.params ad bd ++ (u.led w.params ad ++ r)) bd i I m l) (PshJ _ _ (v.led w.params ad bd ++ (u.led w.params ad ++ r)) bd i _) ?hh ?hr ?hs ?hn ?F ?N ?h0 ?step ?done ?after
  case hh => first | exact rfl | exact Room.han (by assumption)
  case hr => assumption
  case hs => exact small_down (by omega) (by omega) (by decide) (by decide)
  case hn =>
    rw [rangeSize_downNat]
    omega
  case F => assumption
  case N => assumption
  case h0 => exact fun I hI => ⟨rfl, fun p hp => Nat.ne_of_lt (hI p hp), by exact rfl, ⟨_, by exact rfl⟩, ⟨_, by exact rfl⟩, ⟨_, by exact rfl⟩⟩
  case done =>
    rintro I m' l h tk ⟨rfl, a1, a2, a3, a4, a5⟩ F N
    exact PshJ.mk (I := I) ⟨rfl, a1, a2, a3, a4, a5⟩ F N
  case step =>
    rintro I j m' l hj ⟨rfl, off, m1, ⟨t2, m2⟩, ⟨t3, m3⟩, ⟨y4, m4⟩⟩ t it h tk F1 N1
    have hx := hA _ (mem_getD (xs := fmt) (j := ((↑v.fV.length - 1 : Int) + (j : Int) * -1).toNat) (by omega))
    rcases hx with hx | ⟨x0, xn, y', d', hx, hy⟩
    · k_steps
      refine' PshJ.mk (I := I) ?P ?F ?N
      case F => k_asm
      case N => exact News.sub (by k_asm) (fun q hq => List.mem_cons_of_mem _ hq)
      case P => exact ⟨rfl, off, (if_neg (by decide)).trans m1, ⟨_, (if_neg (by decide)).trans m2⟩, ⟨_, (if_neg (by decide)).trans m3⟩, ⟨_, (if_neg (by decide)).trans m4⟩⟩
    · replace N1 := News.sub (l' := v.led w.params ad bd ++ (u.led w.params ad ++ (I, it) :: r)) N1 (fun q hq => by
        simp only [List.mem_append, List.mem_cons] at hq ⊢
        rcases hq with hq | hq | hq | hq <;> simp [hq])
      k_steps
      refine Hold.out (Tells.use (alike2 H.R H.W hn x0 xn h0 hi (fun q hq => List.mem_cons_of_mem _ (hz q hq)) hza hx hd hy) (by first | k_asm | exact rfl) (by first | exact rfl | assumption) (by first | exact rfl | assumption) (by k_asm) (by k_asm) (by k_asm) (by k_asm) (by k_asm) (by walk_at "nz room") ?_)
      (refine' ret0 ?_; intro h' tk' F2 N2)
      k_steps
      refine' turn_end ?F ?N ?hI ?sub off ?P
      case F => k_asm
      case N => k_asm
      case hI => exact List.mem_append_right _ (List.mem_append_right _ (.head _))
      case sub =>
        intro q hq
        simp only [List.mem_append, List.mem_cons] at hq ⊢
        rcases hq with hq | hq | hq <;> simp [hq]
      case P => exact ⟨rfl, off, (if_neg (by decide)).trans m1, ⟨_, (if_neg (by decide)).trans m2⟩, ⟨_, (if_neg (by decide)).trans m3⟩, ⟨_, (if_neg (by decide)).trans m4⟩⟩
  case after =>
    rintro s' @⟨I, m', h, tk, ⟨_, off, m1, ⟨t2, m2⟩, ⟨t3, m3⟩, _⟩, F1, N1⟩
    k_steps
    refine' hret _ _ _ _ ?post ?F ?N
    case F => k_asm
    case N => k_asm
    case post => exact ⟨rfl, _, rfl, by k_asm, ⟨H.R, ⟨hB.s, ints_snoc hB.f⟩, H.W, H.K, H.hst, H.hl⟩, rfl, rfl⟩
end
section
variable {prog : Program} {w : World} {p : Program} {loose : List Str} {mean : ExcName → Option Value} {mg mb : Str → Option Value} {ad : TAd} {bd : BAd} {u : TRaw} {v : BRaw} {z r : Led} {TT : Tr} {stack fmt : List Int}
def T0 : Tr := Tr.nil.add (Str.ofString "document") (Str.ofString "") (Str.ofString "") []
theorem T0_wf : WF T0 1 := WF.add (n := 0) ⟨rfl, rfl, rfl, rfl, rfl, rfl, rfl, fun _ h => absurd h (Nat.not_lt_zero _)⟩ _ _ _ _
theorem builder_ {D : Addr} (z : Led) :
    Tells prog w p loose mean mg mb 45 200 486 [.ref D] r
      (fun x l' => ∃ ad bd u v, x = .ref (BAd.b bd) ∧ l' = BRaw.led w.params ad bd v ++ (TRaw.led w.params ad u ++ r) ∧ Sep2 (BRaw.led w.params ad bd v) (TRaw.led w.params ad u) r ∧ St prog w ad bd z u v T0 [] [] 1 ∧ v.foster = false ∧ v.mode = Str.ofString "initial") := by
  unfold Tells
  intro A env outer A₀ base h₀ L m s Q E hA0 hf0 hk' B F X N T hR hret
  obtain ⟨_, hdp, hun⟩ := hR
  obtain ⟨dp, fr, gd, un⟩ := A
  replace hdp : dp + 45 < recursionLimit := hdp
  replace hun : un + 200 < cLine := hun
  obtain rfl : fr = env :: outer := Option.some.inj hA0
  unfold Ar
  (k_dflt (refine' call_cls ?k1 ?k2 ?k3 ?k4 ?k5 ?k6 ?_; (case k1 => k_asm); (case k2 => k_asm); (case k3 => k_asm); (case k4 => k_is); (case k5 => k_is); (case k6 => k_is); k_whole; intro x' d' h' F' N' l1 l2; (try k_lt l1); (try k_lt2 l2); (try k_sweep); refine' code_def ?k1 ?k2 ?k3 ?k4 ?k5 ?kA ?kF ?kK ?k6 ?k7 ?k8 ?k9 ?kB ?_ ?c2 ?c3 ?c4 ?c5; (case kA => exact rfl); (case kF => first | exact rfl | assumption); (case kK => first | assumption | exact rfl); (case k1 => k_asm); (case k2 => k_asm); (case k3 => k_asm); (case k4 => k_asm); (case k5 => k_asm); (case k6 => k_is); (case k7 => k_is); (case k8 => ktr_room); (case k9 => exact binds_K (binds := [(_, _), (_, _), (_, _)]) (by k_in) rfl (by k_is) rfl rfl rfl); (case c5 => decide); (case kB => exact locs rfl); (case c2 => exact rfl); (case c3 => exact rfl); (case c4 => exact rfl); k_whole; intro g' L' h' FG' F' N' B' X' T'; (try dsimp only); (try k_fold)))
  k_steps
  rename News _ _ _ _ => N9
  rename (∀ p ∈ r, @LT.lt Nat _ p.1 _) => lr9
  have hp7 := tree_start (prog := prog) (w := w) (z := z) N9 (by assumption) (by assumption) (List.forall_mem_cons.mpr ⟨by omega, List.forall_mem_cons.mpr ⟨by omega, lt_mem lr9 (by omega)⟩⟩) (by omega) (by omega) (by omega) (by omega) (by omega) (by omega) (by omega) (by omega) (by omega)
  (refine' ex1 hp7 ?_; intro u0 hp8)
  (refine' and4 hp8 ?_; intro N0 S0 R0 s0)
  clear hp7 hp8
  clear N9
  refine Hold.out (Tells.use (add1 S0 R0 s0 (by decide)) (by first | k_asm | exact rfl) (by first | exact rfl | assumption) (by first | exact rfl | assumption) (by k_asm) (by k_asm) (by k_asm) (by k_asm) (by k_asm) (by walk_at "nz room") ?_)
  (refine' retA2 ?_; intro u1 tk1 hp99 h' tk' F1 N1; refine' and4 hp99 ?_; intro S1 R1 s1 _; clear hp99)
  have N2 := News.sub N1 (fun p hp => List.mem_append.mpr (List.mem_append.mp hp).symm)
  simp only [List.cons_append] at N2
  have hoff := off_of S1 (lt_ne lr9 (Nat.le_refl _))
  clear N1
  k_steps
  rename News _ _ _ _ => N9
  rename (_ ∧ _ ∧ AllLt _ (r ++ _)) => hl9
  obtain ⟨v1, hp8⟩ := builder_start (ad := ⟨_, _, _, _, _, _, _, _, _, _⟩) N9 rfl S1 lr9 (allLt_mem hl9.2.2) (by omega) (by omega) (by omega) (by omega) (by omega) (by omega) (by omega) (by omega)
  (refine' and5 hp8 ?_; intro N3 S3 B3 f3 m3)
  clear hp8
  refine hret _ _ _ _ ⟨_, _, u1, v1, rfl, rfl, S3, ⟨R1, B3, T0_wf, kids_add (by intro c hc; exact nomatch hc) _ _ _ _, fun _ h => (nomatch h), Nat.zero_le _⟩, f3, m3⟩ (by k_asm) N3
end
section
variable {prog : Program} {w : World} {p : Program} {loose : List Str} {mean : ExcName → Option Value} {mg mb : Str → Option Value} {ad : TAd} {bd : BAd} {u : TRaw} {v : BRaw} {z r : Led} {TT : Tr} {stack fmt : List Int}
theorem ints_last {vs : List Value} {ns : List Int} {x : Int} (h : IntsAre vs (ns ++ [x])) : ∃ vs' t, vs = vs' ++ [.int x t] ∧ IntsAre vs' ns := by
  induction ns generalizing vs with
  | nil =>
    cases h with
    | cons y t h2 =>
      cases h2
      exact ⟨[], t, rfl, .nil⟩
  | cons n ns ih =>
    cases h with
    | cons y t h2 =>
      obtain ⟨vs', t', e, h3⟩ := ih h2
      exact ⟨_ :: vs', t', by rw [e]; rfl, .cons _ _ h3⟩
theorem pop_sI2 {A : Around} {s : Shared} {g : Heap} {L : Addr} {m : Str → Option Value} {Q : Value → Shared → Prop} {E : Value → Shared → Prop} {x : Int} (B : IntsAre v.sV (stack ++ [x])) (F : Fr g L s.heap m) (N : News g L s.heap (v.led w.params ad bd ++ (u.led w.params ad ++ r))) (S : Sep2 (v.led w.params ad bd) (u.led w.params ad) r) (hz : stack.length ≤ 1000)
    (h : ∀ vs t n' h', IntsAre vs stack → Fr g L h' m → News g L h' (({ v with sV := vs, sN := n' } : BRaw).led w.params ad bd ++ (u.led w.params ad ++ r)) → Sep2 (({ v with sV := vs, sN := n' } : BRaw).led w.params ad bd) (u.led w.params ad) r → Q (.int x t) { s with heap := h' }) :
    wpAny (model prog w) A (call (.builtin "list.pop") [.ref bd.sI]) Q E s := by
  obtain ⟨vs, t, e, i⟩ := ints_last B
  exact pop_sI e F N S (by rw [i.length]; exact hz) fun n' h' F' N' S' => h vs t n' h' i F' N' S'
section
variable {A : Around} {s : Shared} {g : Heap} {L : Addr} {m : Str → Option Value} {Q : Unit → Shared → Prop} {E : Value → Shared → Prop}
theorem set_head {x : Value} (F : Fr g L s.heap m) (X : (Mine.H.heap_1 w.params).In g) (N : News g L s.heap (v.led w.params ad bd ++ (u.led w.params ad ++ r))) (S : Sep2 (v.led w.params ad bd) (u.led w.params ad) r)
    (h : ∀ h' tk', Fr g L h' m → News g L h' (({ v with vv := fun i => if i = 3 then x else v.vv i } : BRaw).led w.params ad bd ++ (u.led w.params ad ++ r)) → Sep2 (({ v with vv := fun i => if i = 3 then x else v.vv i } : BRaw).led w.params ad bd) (u.led w.params ad) r → Q () { s with heap := h', toks := tk' }) :
    wpAny (model prog w) A (setAttr (.ref bd.b) (Str.ofString "head") x) Q E s := by
  walk_at "setAttr ref"
  rename Fr _ _ _ _ => F9
  rename News _ _ _ _ => N9
  exact h _ _ F9 N9 (S.of_one (S.one.of_keys rfl))
theorem set_mode {x : Str} {t : Tok} (F : Fr g L s.heap m) (X : (Mine.H.heap_1 w.params).In g) (N : News g L s.heap (v.led w.params ad bd ++ (u.led w.params ad ++ r))) (S : Sep2 (v.led w.params ad bd) (u.led w.params ad) r)
    (h : ∀ h' tk', Fr g L h' m → News g L h' (({ v with mode := x, mtk := t } : BRaw).led w.params ad bd ++ (u.led w.params ad ++ r)) → Sep2 (({ v with mode := x, mtk := t } : BRaw).led w.params ad bd) (u.led w.params ad) r → Q () { s with heap := h', toks := tk' }) :
    wpAny (model prog w) A (setAttr (.ref bd.b) (Str.ofString "mode") (.str x t)) Q E s := by
  walk_at "setAttr ref"
  rename Fr _ _ _ _ => F9
  rename News _ _ _ _ => N9
  exact h _ _ F9 N9 (S.of_one (S.one.of_keys rfl))
theorem set_foster {x : Bool} (F : Fr g L s.heap m) (X : (Mine.H.heap_1 w.params).In g) (N : News g L s.heap (v.led w.params ad bd ++ (u.led w.params ad ++ r))) (S : Sep2 (v.led w.params ad bd) (u.led w.params ad) r)
    (h : ∀ h' tk', Fr g L h' m → News g L h' (({ v with foster := x } : BRaw).led w.params ad bd ++ (u.led w.params ad ++ r)) → Sep2 (({ v with foster := x } : BRaw).led w.params ad bd) (u.led w.params ad) r → Q () { s with heap := h', toks := tk' }) :
    wpAny (model prog w) A (setAttr (.ref bd.b) (Str.ofString "is_foster") (.bool x)) Q E s := by
  walk_at "setAttr ref"
  rename Fr _ _ _ _ => F9
  rename News _ _ _ _ => N9
  exact h _ _ F9 N9 (S.of_one (S.one.of_keys rfl))
end
end
theorem rows57 : True := by
  (k_with "nz:setAttr ref" => (((with_reducible show wpAny _ _ (setAttr (Value.ref (BAd.b _)) (Str.ofString "head") _) _ _ _); k_dflt (refine' set_head ?zqk1 ?zqk2 ?zqk3 ?zqk4 ?_; (case zqk1 => k_asm); (case zqk2 => k_asm); (case zqk3 => k_asm); (case zqk4 => with_reducible assumption); k_whole); intro _ _ _ _ _; k_sweep)))
  (k_with "nz:setAttr ref" => (((with_reducible show wpAny _ _ (setAttr (Value.ref (BAd.b _)) (Str.ofString "mode") _) _ _ _); k_dflt (refine' set_mode ?zqk1 ?zqk2 ?zqk3 ?zqk4 ?_; (case zqk1 => k_asm); (case zqk2 => k_asm); (case zqk3 => k_asm); (case zqk4 => with_reducible assumption); k_whole); intro _ _ _ _ _; k_sweep)))
  (k_with "nz:setAttr ref" => (((with_reducible show wpAny _ _ (setAttr (Value.ref (BAd.b _)) (Str.ofString "is_foster") _) _ _ _); k_dflt (refine' set_foster ?zqk1 ?zqk2 ?zqk3 ?zqk4 ?_; (case zqk1 => k_asm); (case zqk2 => k_asm); (case zqk3 => k_asm); (case zqk4 => with_reducible assumption); k_whole); intro _ _ _ _ _; k_sweep)))
  (k_with "nz:call" => (((show wpAny _ _ (call (Value.builtin "list.pop") [Value.ref (BAd.sI _)]) _ _ _); k_dflt (refine' pop_sI2 ?zqk1 ?zqk2 ?zqk3 ?zqk4 ?zqk5 ?_; (case zqk2 => k_asm); (case zqk3 => k_asm); (case zqk4 => with_reducible assumption); (case zqk1 => (try dsimp only); assumption); (case zqk5 => first | exact Nat.le_of_ble_eq_true rfl | omega); k_whole); intro _ _ _ _ _ _ _ _; k_sweep)))
  trivial
section
variable {prog : Program} {w : World} {p : Program} {loose : List Str} {mean : ExcName → Option Value} {mg mb : Str → Option Value} {ad : TAd} {bd : BAd} {u : TRaw} {v : BRaw} {z r : Led} {TT : Tr} {stack fmt : List Int}
def Tr.el (T : Tr) (nm : Str) (d : List (Str × Str)) (q n b : Int) : Tr := (T.add (Str.ofString "element") (Str.ofString "html") nm d).ins q n b
def T3 : Tr := ((T0.el (Str.ofString "html") [] 0 1 (-1)).el (Str.ofString "head") [] 1 2 (-1)).el (Str.ofString "body") [] 1 3 (-1)
theorem St.re {T : Tr} {n : Nat} {v' : BRaw} {stack' fmt' : List Int} (H : St prog w ad bd z u v T stack fmt n) (B : BAbs v' stack' fmt') (h : ∀ x ∈ stack', 0 ≤ x ∧ x < n) (l : stack'.length ≤ n) : St prog w ad bd z u v' T stack' fmt' n := ⟨H.R, B, H.W, H.K, h, l⟩
theorem append2 {n : Nat} {q i : Int} {ti tq : Tok} (S : Sep2 (v.led w.params ad bd) (u.led w.params ad) r) (R : TAbs prog w ad z u TT) (W : WF TT n) (hn : n ≤ 500) (h0 : 0 ≤ q) (hq : q < i) (hi : i < n) (hp : TT.parents.getD i.toNat 0 = -1) (hz : ∀ c ∈ TT.children, c.length < n) :
    Tells prog w p loose mean mg mb 20 80 363 [.ref ad.t, .int q tq, .int i ti] (v.led w.params ad bd ++ (u.led w.params ad ++ r))
      (fun x l' => x = .none ∧ ∃ u', l' = v.led w.params ad bd ++ (TRaw.led w.params ad u' ++ r) ∧ Sep2 (v.led w.params ad bd) (TRaw.led w.params ad u') r ∧ TAbs prog w ad z u' (TT.ins q i (-1))) := by
  unfold Tells
  intro A env outer A₀ base h₀ L m s Q E hA0 hf0 hk' B F X N T hR hret
  walk_at "nz e3"
  k_steps
  refine Hold.out (Tells.use ((insertE3 (r := v.led w.params ad bd ++ r) S.two R W hn h0 hq hi hp hz).conv (fun q hq => (swap_iff q).mp hq)
    (Post₁ := fun x l' => x = .none ∧ ∃ u', l' = v.led w.params ad bd ++ (TRaw.led w.params ad u' ++ r) ∧ Sep2 (v.led w.params ad bd) (TRaw.led w.params ad u') r ∧ TAbs prog w ad z u' (TT.ins q i (-1))) (fun x l' ⟨e1, u', e2, S', R'⟩ => ⟨_, ⟨e1, u', rfl, S.of_two S', R'⟩, fun q hq => e2 ▸ (swap_iff q).mp hq⟩)) (by first | k_asm | exact rfl) (by first | exact rfl | assumption) (by first | exact rfl | assumption) (by k_asm) (by k_asm) (by k_asm) (by k_asm) (by k_asm) (by walk_at "nz room") ?_)
  (refine' retB1 ?_; intro u' hp99 h' tk' F2 N2; have hp98 := hp99; have S' := hp98.1; have R' := hp98.2; clear hp98; clear hp99)
  k_steps
  exact hret _ _ _ _ ⟨rfl, u', rfl, S', R'⟩ (by k_asm) (by k_asm)
theorem ready_ (S : Sep2 (v.led w.params ad bd) (u.led w.params ad) r) (H : St prog w ad bd z u v T0 [] [] 1) (hf : v.foster = false) :
    Tells prog w p loose mean mg mb 50 200 498 [.ref bd.b] (v.led w.params ad bd ++ (u.led w.params ad ++ r))
      (fun x l' => ∃ D t1 t2 u' v', x = .ref D ∧ l' = BRaw.led w.params ad bd v' ++ (TRaw.led w.params ad u' ++ (D, tupOf [.int 1 t1, .int 3 t2] 0) :: r) ∧ Sep2 (BRaw.led w.params ad bd v') (TRaw.led w.params ad u') ((D, tupOf [.int 1 t1, .int 3 t2] 0) :: r) ∧
        St prog w ad bd z u' v' T3 [1, 3] [] 4 ∧ v'.foster = false ∧ v'.mode = Str.ofString "in body") := by
  unfold Tells
  intro A env outer A₀ base h₀ L m s Q E hA0 hf0 hk' B F X N T hR hret
  walk_at "nz d2"
  k_steps
  refine Hold.out (Tells.use (elemP2 (by k_asm) H (by decide) (by decide) (.inl ⟨0, .head _⟩) .nil (by decide)) (by first | k_asm | exact rfl) (by first | exact rfl | assumption) (by first | exact rfl | assumption) (by k_asm) (by k_asm) (by k_asm) (by k_asm) (by k_asm) (by walk_at "nz room") ?_)
  (refine' retA2 ?_; intro u2 tk2 hp99 h' tk' F2 N2; have hp98 := hp99; have S2 := hp98.1; have R2 := hp98.2; clear hp98; clear hp99)
  k_steps
  refine Hold.out (Tells.use (append2 (n := 2) (q := 0) (i := ((1 : Nat) : Int)) S2 R2 (T0_wf.add _ _ _ _) (by decide) (by decide) (by decide) (by decide) (add_par T0_wf _ _ _ _) (by decide)) (by first | k_asm | exact rfl) (by first | exact rfl | assumption) (by first | exact rfl | assumption) (by k_asm) (by k_asm) (by k_asm) (by k_asm) (by k_asm) (by walk_at "nz room") ?_)
  (refine' retB1 ?_; intro u3 hp99 h' tk' F3 N3; have hp98 := hp99; have S3 := hp98.1; have R3 := hp98.2; clear hp98; clear hp99)
  have sl := H.B.s.length
  k_steps
  rename Sep2 _ _ _ => S4
  have H4 : St prog w ad bd z u3 _ (T0.el (Str.ofString "html") [] 0 1 (-1)) [1] [] 2 := H.ins (sN := v.sN + 1) (tk := tk2) (nm := Str.ofString "html") (d := []) (q := 0) (b := -1) (by decide) (by decide) R3
  refine Hold.out (Tells.use (insEl2 (q := 1) S4 H4 (by decide) (by decide) (placeA S4 H4.R H4.B H4.W (by decide) H4.hst (by decide) (by decide) rfl (.inl hf) (fun c hc => nomatch hc)) (by decide) (by decide) (.inl rfl)) (by first | k_asm | exact rfl) (by first | exact rfl | assumption) (by first | exact rfl | assumption) (by k_asm) (by k_asm) (by k_asm) (by k_asm) (by k_asm) (by walk_at "nz room") ?_)
  (refine' retA3 ?_; intro u5 v5 tk5 hp99 h' tk' F5 N5; refine' and4 hp99 ?_; intro S5 H5 f5 m5; clear hp99)
  have hB5 : IntsAre v5.sV ([1] ++ [2]) := H5.B.s
  have sl5 : v5.sV.length = 2 := H5.B.s.length
  k_steps
  rename IntsAre _ [1] => iv6
  rename Sep2 _ _ _ => S6
  refine Hold.out (Tells.use (insEl2 (z := z) (TT := (T0.el (Str.ofString "html") [] 0 1 (-1)).el (Str.ofString "head") [] 1 2 (-1)) (stack := [1]) (fmt := []) (q := 1) (n := 3) S6 ?H (by decide) (by decide) ?C (by decide) (by decide) (.inl rfl)) (by first | k_asm | exact rfl) (by first | exact rfl | assumption) (by first | exact rfl | assumption) (by k_asm) (by k_asm) (by k_asm) (by k_asm) (by k_asm) (by walk_at "nz room") ?_)
  case H => exact H5.re ⟨iv6, H5.B.f⟩ (by decide) (by decide)
  case C => exact placeA S6 H5.R ⟨iv6, H5.B.f⟩ H5.W (by decide) (by decide) (by decide) (by decide) rfl (.inl (f5.trans hf)) (fun c hc => nomatch hc)
  (refine' retA3 ?_; intro u7 v7 tk7 hp99 h' tk' F7 N7; refine' and4 hp99 ?_; intro S7 H7 f7 m7; clear hp99)
  k_steps
  rename Sep2 _ _ _ => S8
  rename News _ _ _ _ => N8
  have S9 := Sep2.sub (r' := (_, tupOf [.int 1 tk2, .int 3 tk7] 0) :: r) S8 (fun y hy => (List.mem_cons.mp hy).elim (fun e => e ▸ .head _) fun e => .tail _ (.tail _ e))
  exact hret _ _ _ _ ⟨_, _, _, u7, _, rfl, rfl, S9, H7.re ⟨H7.B.s, H7.B.f⟩ (by decide) (by decide), f7.trans (f5.trans hf), rfl⟩ (by k_asm) (News.sub N8 (sub_ab (sub_c (.head _) fun _ k => .tail _ (.tail _ k))))
end
theorem rows60 : True := by
  (k_with "nz:k_mem" => (((show (_ : Addr × Obj) ∈ (_ : List (Addr × Obj))); (with_reducible show _ ∈ LRaw.led _ _); first | exact List.mem_of_getElem? (i := 0) rfl | exact List.mem_of_getElem? (i := 1) rfl | exact List.mem_of_getElem? (i := 2) rfl)))
  (k_with "nz:call builtin:list.append" => ((k_here; (with_reducible show wpAny _ _ (call (Value.builtin _) [Value.ref (LAd.oI _), _]) _ _ _); k_dflt (refine' app_oI ?zqk1 ?zqk2 ?zqk3 ?zqk5 ?zqk4 ?_; (case zqk1 => k_asm); (case zqk2 => with_reducible assumption); (case zqk3 => with_reducible assumption); (case zqk5 => with_reducible assumption); (case zqk4 => size_fits); k_whole); intro _ _ _ _ _; k_sweep)))
  (k_with "nz:call builtin:list.append" => ((k_here; (with_reducible show wpAny _ _ (call (Value.builtin _) [Value.ref (LAd.lI _), _]) _ _ _); k_dflt (refine' app_lI ?zqk1 ?zqk2 ?zqk3 ?zqk5 ?zqk4 ?_; (case zqk1 => k_asm); (case zqk2 => with_reducible assumption); (case zqk3 => with_reducible assumption); (case zqk5 => with_reducible assumption); (case zqk4 => size_fits); k_whole); intro _ _ _ _ _; k_sweep)))
  (k_with "nz:call builtin:list.append" => ((k_here; (with_reducible show wpAny _ _ (call (Value.builtin _) [Value.ref (LAd.rI _), _]) _ _ _); k_dflt (refine' app_rI ?zqk1 ?zqk2 ?zqk3 ?zqk5 ?zqk4 ?_; (case zqk1 => k_asm); (case zqk2 => with_reducible assumption); (case zqk3 => with_reducible assumption); (case zqk5 => with_reducible assumption); (case zqk4 => size_fits); k_whole); intro _ _ _ _ _; k_sweep)))
  (k_with "nz:newTuple" => ((k_here; k_dflt (refine' new_tuple3 ?zqk1 ?zqk2 ?zqk3 ?zqk5 ?zqk4 ?_; (case zqk1 => k_asm); (case zqk2 => with_reducible assumption); (case zqk3 => with_reducible assumption); (case zqk5 => with_reducible assumption); (case zqk4 => exact Nat.le_of_ble_eq_true rfl); k_whole); intro _ _ _ _ _ _ _; k_sweep)))
  (k_with "nz:nz strs" => (first | exact StrsAre.nil | (refine' StrsAre.cons _ _ ?zqnh; (case zqnh => walk_at "nz strs"))))
  (k_with "nz:subscriptTail" => (((with_reducible show wpAny _ _ (subscriptTail _ _ (Value.ref _) (Value.int (Int.fmod _ _) _)) _ _ _); k_dflt (refine' tup_strs ?zqk1 ?zqk2 ?zqk3 ?zqk4 ?zqk5 ?zqk6 ?_ ?zqk7; (case zqk1 => k_asm); (case zqk2 => k_mem); (case zqk3 => walk_at "nz strs"); (case zqk4 => exact Int.fmod_nonneg_of_pos _ (by decide)); (case zqk5 => exact Int.fmod_lt_of_pos _ (by decide)); (case zqk6 => exact Nat.le_of_ble_eq_true rfl); (case zqk7 => with_unfolding_all rfl); k_whole); intro _ _ _)))
  (k_with "nz:exec If" => (((with_reducible show wpAny _ _ (exec (Stmt.If (PySem.Expr.Compare (PySem.Expr.BinOp (PySem.Expr.BinOp _ Operator.FloorDiv _ _) Operator.Mod _ _) _ _ _) _ _ _) _) _ _ _); refine Hold.mk' ?_)))
  (k_with "nz:binaryOp Add ref ref" => ((k_here; k_dflt (refine' add_tup3 ?zqk1 ?zqk2 ?zqk3 ?zqk4 ?zqk5 ?zqk6 ?zqk7 ?zqk8 ?zqk9 ?_; (case zqk1 => k_asm); (case zqk2 => with_reducible assumption); (case zqk3 => with_reducible assumption); (case zqk4 => with_reducible assumption); (case zqk5 => k_mem); (case zqk6 => k_mem); (case zqk7 => exact List.cons_ne_nil _ _); (case zqk8 => exact List.cons_ne_nil _ _); (case zqk9 => exact Nat.le_of_ble_eq_true rfl); k_whole); intro _ _ _ _ _ _; k_sweep)))
  (k_with "nz:nz intsL" => (first | exact IntsAre.nil | (refine' IntsAre.cons _ _ ?zqnh; (case zqnh => walk_at "nz intsL"))))
  (k_with "nz:compareOp In int ref" => ((k_here; k_dflt (refine' in_tup_ints ?zqk1 ?zqk2 ?zqk3 ?_; (case zqk1 => k_asm); (case zqk2 => k_mem); (case zqk3 => walk_at "nz intsL"); k_whole))))
  trivial
section
variable {prog : Program} {w : World} {p : Program} {loose : List Str} {mean : ExcName → Option Value} {mg mb : Str → Option Value} {ad : TAd} {bd : BAd} {la : LAd} {u : TRaw} {v : BRaw} {x : LRaw} {z r : Led} {TT : Tr} {stack fmt late : List Int} {row : List Ent}
def StepPost (prog : Program) (w : World) (ad : TAd) (bd : BAd) (la : LAd) (z r : Led) (k : Nat) (y : Value) (l' : Led) : Prop :=
  y = .none ∧ ∃ u' v' x' z' T' stack' fmt' late' row' n', l' = BRaw.led w.params ad bd v' ++ (TRaw.led w.params ad u' ++ (LRaw.led la x' ++ (z' ++ r))) ∧ Sc prog w ad bd la (z' ++ z) (z' ++ r) u' v' x' T' stack' fmt' late' row' n' ∧ Inv T' n' stack' fmt' late' row' k ∧ ∀ q ∈ z', q.2.cls = .type "tuple"
theorem StepPost.mk' {k : Nat} {u' : TRaw} {v' : BRaw} {x' : LRaw} {z' : Led} {T' : Tr} {stack' fmt' late' : List Int} {row' : List Ent} {n' : Nat} (C : Sc prog w ad bd la (z' ++ z) (z' ++ r) u' v' x' T' stack' fmt' late' row' n') (I : Inv T' n' stack' fmt' late' row' k) (hz : ∀ q ∈ z', q.2.cls = .type "tuple") :
    StepPost prog w ad bd la z r k .none (BRaw.led w.params ad bd v' ++ (TRaw.led w.params ad u' ++ (LRaw.led la x' ++ (z' ++ r)))) := ⟨rfl, u', v', x', z', T', stack', fmt', late', row', n', rfl, C, I, hz⟩
theorem fcons {α : Type} {P : α → Prop} {a : α} {l : List α} (h : P a) (h2 : ∀ x ∈ l, P x) : ∀ x ∈ a :: l, P x := List.forall_mem_cons.mpr ⟨h, h2⟩
theorem sub_app {z r z' : Led} (h : ∀ q ∈ z, q ∈ r) : ∀ q ∈ z' ++ z, q ∈ z' ++ r := fun q hq => (List.mem_append.mp hq).elim (fun h => List.mem_append_left _ h) fun hq => List.mem_append_right _ (h q hq)
theorem step8 {n k : Nat} {d : Int} {td tk : Tok} {ln : Addr} {nl : Nat} (C : Sc prog w ad bd la z r u v x TT stack fmt late row n) (I : Inv TT n stack fmt late row k) (hk : k < 7) (hln : (ln, tupOf [.ref la.oI, .ref la.lI, .ref la.rI] nl) ∈ r) (hd : d.fmod 9 = 8) :
    Tells prog w p loose mean mg mb 60 250 512 [.ref bd.b, .int d td, .int (k : Nat) tk, .ref ln] (v.led w.params ad bd ++ (u.led w.params ad ++ (x.led la ++ r))) (StepPost prog w ad bd la z r (k + 1)) := by
  unfold Tells
  intro A env outer A₀ base h₀ L m s Q E hA0 hf0 hk' B F X N T hR hret
  have S2 := C.S2
  have S3 := C.S3
  have fl : v.fV.length ≤ 100 := by
    have := C.H.B.f.length
    rw [this, I.fm, List.length_map]
    have := I.rl
    omega
  have rl : x.rV.length ≤ 100 := by
    have := C.rw.length
    have := I.rl
    omega
  walk_at "nz e4"
  k_steps
  rename Sep2 _ _ _ => S4
  rename Sep _ _ => S5
  refine' hret _ _ _ _ ?post ?F ?N
  case F => k_asm
  case N => k_asm
  case post =>
    refine (StepPost.mk' (u' := u) (z' := [_, _]) (T' := TT) (stack' := stack) (late' := late) (n' := n) (⟨S4, S5, (C.H.mono (fun q hq => List.mem_append_right _ hq)).re ⟨C.H.B.s, ints_snoc C.H.B.f⟩ C.H.hst C.H.hl, C.o, C.l, RowAre.snoc (C.rw.mono fun q hq => List.mem_append_right _ hq) (.head _) (.inl ⟨0, .tail _ (.head _)⟩) .nil, sub_app C.zr, C.fo, C.mo⟩) (I.mark) (List.forall_mem_cons.mpr ⟨rfl, List.forall_mem_cons.mpr ⟨rfl, List.forall_mem_nil _⟩⟩))
theorem Sc.ne {n : Nat} {k : Nat} (I : Inv TT n stack fmt late row k) : 0 < stack.length := List.length_pos_of_mem I.one
theorem step7 {n k : Nat} {d : Int} {td tk : Tok} {ln : Addr} {nl : Nat} (C : Sc prog w ad bd la z r u v x TT stack fmt late row n) (I : Inv TT n stack fmt late row k) (hk : k < 7) (hln : (ln, tupOf [.ref la.oI, .ref la.lI, .ref la.rI] nl) ∈ r) (hd : d.fmod 9 = 7) :
    Tells prog w p loose mean mg mb 60 250 512 [.ref bd.b, .int d td, .int (k : Nat) tk, .ref ln] (v.led w.params ad bd ++ (u.led w.params ad ++ (x.led la ++ r))) (StepPost prog w ad bd la z r (k + 1)) := by
  unfold Tells
  intro A env outer A₀ base h₀ L m s Q E hA0 hf0 hk' B F X N T hR hret
  have S2 := C.S2
  have S3 := C.S3
  have hn := I.hn
  have ol : x.oV.length ≤ 100 := by
    have := C.o.length
    have := C.H.hl
    omega
  have ne := Sc.ne I
  have hl := C.H.hl
  have hla := C.H.hst _ (mem_getD (xs := stack) (j := stack.length - 1) (by omega))
  walk_at "nz e4"
  k_steps
  rename Sep2 _ _ _ => S4
  rename Sep _ _ => S5
  rename _ = List.getD _ _ _ => hnm
  have hne : ∀ j, [Str.ofString "div", Str.ofString "p", Str.ofString "span"].getD j (Str.ofString "") ≠ Str.ofString "template" := fun j => by
    match j with
    | 0 => decide
    | 1 => decide
    | 2 => decide
    | j + 3 => exact (by decide : Str.ofString "" ≠ Str.ofString "template")
  refine Hold.out (Tells.use (insEl2 S4 C.H (by omega) (by rw [hnm]; exact hne _) (placeA S4 C.H.R C.H.B C.H.W (by omega) C.H.hst ne (by omega) rfl (.inl C.fo) (by rw [I.co]; exact fun c hc => nomatch hc)) hla.1 hla.2 (.inl rfl)) (by first | k_asm | exact rfl) (by first | exact rfl | assumption) (by first | exact rfl | assumption) (by k_asm) (by k_asm) (by k_asm) (by k_asm) (by k_asm) (by walk_at "nz room") ?_)
  (refine' retA3 ?_; intro u2 v2 tk2 hp99 h' tk' F6 N6; refine' and4 hp99 ?_; intro S6 H6 f6 m6; clear hp99)
  k_steps
  rename Sep2 _ _ _ => S7
  rename Sep _ _ => S8
  refine' hret _ _ _ _ ?post ?F ?N
  case F => k_asm
  case N => k_asm
  case post =>
    refine (StepPost.mk' (u' := u2) (v' := v2) (z' := [_]) (fmt' := fmt) (late' := late) (row' := row) (n' := n + 1) (⟨S7, S8, H6.mono (fun q hq => List.mem_append_right _ hq), ints_snoc C.o, C.l, C.rw.mono fun q hq => List.mem_append_right _ hq, sub_app C.zr, f6.trans C.fo, m6.trans C.mo⟩) (I.block C.H.W ⟨rfl, rfl, rfl⟩) (List.forall_mem_cons.mpr ⟨rfl, List.forall_mem_nil _⟩))
inductive IfJ (g : Heap) (L : Addr) (l₁ l₂ l₃ r : Led) (k : Nat) (m₀ : Str → Option Value) (s : Shared) : Shared → Prop
  | mk {D : Addr} {vs : List Value} {d d' : List (Str × Str)} {z' : Led} {m : Str → Option Value} {h : Heap} {tk : Nat} (F : Fr g L h m) (N : News g L h (l₁ ++ (l₂ ++ (l₃ ++ (z' ++ r))))) (S : Sep2 l₁ l₂ (l₃ ++ (z' ++ r))) (T : Sep l₃ (z' ++ r))
      (hm : (D, tupOf vs 0) ∈ z') (hp : PairsAre z' vs d) (hd : d = (Str.ofString "n", txt k) :: d') (h2 : d.length ≤ 2) (ma : m (Str.ofString "attrs") = some (.ref D)) (mo : ∀ y, y ≠ Str.ofString "attrs" → m y = m₀ y) (hcl : ∀ q ∈ z', q.2.cls = .type "tuple") :
      IfJ g L l₁ l₂ l₃ r k m₀ s { s with heap := h, toks := tk }
theorem Grow.el (T : Tr) (nm : Str) (d : List (Str × Str)) (q n b : Int) : Grow T ((T.add (Str.ofString "element") (Str.ofString "html") nm d).ins q n b) nm d := ⟨rfl, rfl, rfl⟩
theorem Grow.attr {T T' : Tr} {nm : Str} {d : List (Str × Str)} {n : Nat} (G : Grow T T' nm d) (W : WF T n) : T'.attrs.getD ((n : Nat) : Int).toNat [] = d := by
  rw [G.at', getD_snoc, if_neg (by have := W.a; omega), if_pos (by have := W.a; omega)]
theorem Grow.len {T T' : Tr} {nm : Str} {d : List (Str × Str)} (G : Grow T T' nm d) (h : ∀ d ∈ T.attrs, d.length ≤ 2) (h2 : d.length ≤ 2) : ∀ d ∈ T'.attrs, d.length ≤ 600 := fun e he => by
  rw [G.at'] at he
  rcases List.mem_append.mp he with he | he
  · exact Nat.le_trans (h e he) (by decide)
  · rw [List.mem_singleton.mp he]
    exact Nat.le_trans h2 (by decide)
theorem if_to {A : Around} {E : Value → Shared → Prop} {s : Shared} {g : Heap} {L : Addr} {m : Str → Option Value} {t : Sem Flow} {Q : Flow → Shared → Prop} (F : Fr g L s.heap m) (l₁ l₂ l₃ r : Led) (k : Nat) (h : wpAny (model prog w) A t (WOut (IfJ g L l₁ l₂ l₃ r k m s)) E s) (after : ∀ s', IfJ g L l₁ l₂ l₃ r k m s s' → Q .next s') : wpAny (model prog w) A t Q E s := mono_to _ h after
theorem stepE {n k : Nat} {d : Int} {td tk : Tok} {ln : Addr} {nl : Nat} (C : Sc prog w ad bd la z r u v x TT stack fmt late row n) (I : Inv TT n stack fmt late row k) (hk : k < 7) (hln : (ln, tupOf [.ref la.oI, .ref la.lI, .ref la.rI] nl) ∈ r) (hd : d.fmod 9 ≤ 6) (hd0 : 0 ≤ d.fmod 9) :
    Tells prog w p loose mean mg mb 60 250 512 [.ref bd.b, .int d td, .int (k : Nat) tk, .ref ln] (v.led w.params ad bd ++ (u.led w.params ad ++ (x.led la ++ r))) (StepPost prog w ad bd la z r (k + 1)) := by
  unfold Tells
  intro A env outer A₀ base h₀ L m s Q E hA0 hf0 hk' B F X N T hR hret
  have S2 := C.S2
  have S3 := C.S3
  have hn := I.hn
  have ol : x.oV.length ≤ 100 := by
    have := C.o.length
    have := C.H.hl
    omega
  have ll : x.lV.length ≤ 100 := by
    have := C.l.length
    have := I.ll
    omega
  have rl : x.rV.length ≤ 100 := by
    have := C.rw.length
    have := I.rl
    omega
  have fl : fmt.length ≤ 100 := by
    rw [I.fm, List.length_map]
    have := I.rl
    omega
  have ne := Sc.ne I
  have hl := C.H.hl
  have hla := C.H.hst _ (mem_getD (xs := stack) (j := stack.length - 1) (by omega))
  walk_at "nz e4"
  k_steps
  rename _ = List.getD _ _ _ => hnm
  rename Str => nm9
  have hne : ∀ j, [Str.ofString "b", Str.ofString "i", Str.ofString "a", Str.ofString "u"].getD j (Str.ofString "") ≠ Str.ofString "template" ∧ isPart ([Str.ofString "b", Str.ofString "i", Str.ofString "a", Str.ofString "u"].getD j (Str.ofString "")) = false := fun j => by
    match j with
    | 0 => decide +kernel
    | 1 => decide +kernel
    | 2 => decide +kernel
    | 3 => decide +kernel
    | j + 4 => exact (by decide +kernel : Str.ofString "" ≠ Str.ofString "template" ∧ isPart (Str.ofString "") = false)
  have hnn := hne ((d.fdiv 9).fmod 4).toNat
  rw [← hnm] at hnn
  clear hne hnm
  refine Hold.out ?_
  rename Fr _ _ _ _ => F9
  refine' if_to F9 (v.led w.params ad bd) (u.led w.params ad) (x.led la) r k ?h ?after
  case h =>
    refine wpAny_If ?_
    k_steps
    · rename Fr _ _ _ _ => F4
      rename News _ _ _ _ => N4
      rename Sep2 _ _ _ => S4
      rename Sep _ _ => S5
      exact IfJ.mk (z' := [_, _, _, _, _, _]) F4 N4 S4 S5 (.head _) (.cons (.tail _ (.tail _ (.tail _ (.tail _ (.head _))))) (.cons (.tail _ (.tail _ (.head _))) .nil)) rfl (Nat.le_refl _) (if_pos rfl) (fun y hy => if_neg hy) (fcons rfl (fcons rfl (fcons rfl (fcons rfl (fcons rfl (fcons rfl (List.forall_mem_nil _)))))))
    · rename Fr _ _ _ _ => F4
      rename News _ _ _ _ => N4
      rename Sep2 _ _ _ => S4
      rename Sep _ _ => S5
      exact IfJ.mk (z' := [_, _, _]) F4 N4 S4 S5 (.head _) (.cons (.tail _ (.head _)) .nil) rfl (Nat.le_succ _) (by exact rfl) (fun y hy => rfl) (fcons rfl (fcons rfl (fcons rfl (List.forall_mem_nil _))))
  case after =>
    rintro s' @⟨D, vs, dd, d', z', m1, h1, tk1, F1, N1, S1, T1, hm, hp, hd', h2, ma, mo, hcl⟩
    have mw : m1 (Str.ofString "what") = some _ := (mo (Str.ofString "what") (by decide)).trans rfl
    have mb' : m1 (Str.ofString "builder") = some _ := (mo (Str.ofString "builder") (by decide)).trans rfl
    have mn : m1 (Str.ofString "name") = some _ := (mo (Str.ofString "name") (by decide)).trans rfl
    have mr : m1 (Str.ofString "row") = some _ := (mo (Str.ofString "row") (by decide)).trans rfl
    have ml : m1 (Str.ofString "late") = some _ := (mo (Str.ofString "late") (by decide)).trans rfl
    have mop : m1 (Str.ofString "opened") = some _ := (mo (Str.ofString "opened") (by decide)).trans rfl
    clear mo
    have H0 := C.H.mono (z' := z' ++ z) (fun q hq => List.mem_append_right _ hq)
    have hp1 := hp.mono (z' := z' ++ z) (fun q hq => List.mem_append_left _ hq)
    have hvs : vs.length ≤ 500 := by
      rw [pairs_length hp]
      omega
    k_steps
    · have hno : d.fmod 9 ∉ [2, 3] := by
        rename d.fmod 9 = 6 => e9
        rw [e9]
        decide
      refine Hold.out (Tells.use (elemP2 S1 H0 (by omega) hvs (.inl ⟨0, List.mem_append_right _ (List.mem_append_left _ hm)⟩) hp1 hnn.1) (by first | k_asm | exact rfl) (by first | exact rfl | assumption) (by first | exact rfl | assumption) (by k_asm) (by k_asm) (by k_asm) (by k_asm) (by k_asm) (by walk_at "nz room") ?_)
      (refine' retA2 ?_; intro u2 tk2 hp99 h' tk' F6 N6; have hp98 := hp99; have S6 := hp98.1; have R6 := hp98.2; clear hp98; clear hp99)
      have H6 : St prog w ad bd (z' ++ z) u2 v (TT.add (Str.ofString "element") (Str.ofString "html") nm9 dd) stack fmt (n + 1) := ⟨R6, H0.B, H0.W.add _ _ _ _, fun c hc => Nat.le_succ_of_le (kids_add H0.K _ _ _ _ c hc), fun y hy => by
        have := H0.hst y hy
        omega, by omega⟩
      have G : Grow TT (TT.add (Str.ofString "element") (Str.ofString "html") nm9 dd) nm9 dd := ⟨rfl, rfl, rfl⟩
      have A9 := (G.attr C.H.W).trans hd'
      k_steps
      refine Hold.out (Tells.use (push_ S6 H6 (by omega) (by omega) (by omega) (fun q hq => List.mem_append_right _ (sub_app C.zr q hq)) (G.len I.at' h2) fl A9 (I.apart C.H.W G hk)) (by first | k_asm | exact rfl) (by first | exact rfl | assumption) (by first | exact rfl | assumption) (by k_asm) (by k_asm) (by k_asm) (by k_asm) (by k_asm) (by walk_at "nz room") ?_)
      (refine' retB1 ?_; intro v3 hp99 h' tk' F7 N7; refine' and4 hp99 ?_; intro S7 H7 f7 m7; clear hp99)
      have hA := I.grow (stack' := stack) (late' := late) C.H.W G (fun y hy => hy) (.inl rfl) h2 hd' hnn.1 hnn.2
      k_steps
      rename Sep2 _ _ _ => S9
      rename Sep _ _ => T9
      refine' hret _ _ _ _ ?post ?F ?N
      case F => k_asm
      case N => k_asm
      case post => exact (StepPost.mk' (u' := u2) (z' := _ :: _ :: z') (stack' := stack) (late' := late) (n' := n + 1) (⟨S9, T9, H7.mono (fun q hq => .tail _ (.tail _ hq)), C.o, C.l, RowAre.snoc (C.rw.mono fun q hq => List.mem_append_right _ hq) (.tail _ (.head _)) (.inl ⟨0, .tail _ (.tail _ (List.mem_append_left _ hm))⟩) (hp.mono fun q hq => .tail _ (.tail _ (List.mem_append_left _ hq))), sub_app C.zr, f7.trans C.fo, m7.trans C.mo⟩) (hA) (List.forall_mem_cons.mpr ⟨rfl, List.forall_mem_cons.mpr ⟨rfl, hcl⟩⟩))
    · skip
      refine Hold.out (Tells.use (insEl S1 H0 (by omega) hvs (.inl ⟨0, List.mem_append_right _ (List.mem_append_left _ hm)⟩) hp1 hnn.1 (placeA S1 H0.R H0.B H0.W (by omega) H0.hst ne (by omega) rfl (.inl C.fo) (by rw [I.co]; exact fun c hc => nomatch hc)) hla.1 hla.2 (.inl rfl)) (by first | k_asm | exact rfl) (by first | exact rfl | assumption) (by first | exact rfl | assumption) (by k_asm) (by k_asm) (by k_asm) (by k_asm) (by k_asm) (by walk_at "nz room") ?_)
      (refine' retA3 ?_; intro u2 v2 tk2 hp99 h' tk' F6 N6; refine' and4 hp99 ?_; intro S6 H6 f6 m6; clear hp99)
      have G := Grow.el TT nm9 dd (stack.getD (stack.length - 1) 0) (n : Int) (-1)
      have A9 := (G.attr C.H.W).trans hd'
      k_steps
      refine Hold.out (Tells.use (push_ S6 H6 (by omega) (by omega) (by omega) (fun q hq => List.mem_append_right _ (sub_app C.zr q hq)) (G.len I.at' h2) fl A9 (I.apart C.H.W G hk)) (by first | k_asm | exact rfl) (by first | exact rfl | assumption) (by first | exact rfl | assumption) (by k_asm) (by k_asm) (by k_asm) (by k_asm) (by k_asm) (by walk_at "nz room") ?_)
      (refine' retB1 ?_; intro v3 hp99 h' tk' F7 N7; refine' and4 hp99 ?_; intro S7 H7 f7 m7; clear hp99)
      have ol7 := H7.B.s
      have sl7 : v3.sV.length = stack.length + 1 := by
        have := H7.B.s.length
        simpa using this
      have hA := I.grow (stack' := stack) (late' := late) C.H.W G (fun y hy => hy) (.inl rfl) h2 hd' hnn.1 hnn.2
      have hB := I.grow (stack' := stack ++ [(n : Int)]) (late' := late ++ [(n : Int)]) C.H.W G (fun y hy => List.mem_append_left _ hy) (.inr ⟨rfl, List.mem_append_right _ (.head _)⟩) h2 hd' hnn.1 hnn.2
      have hC := I.grow (stack' := stack ++ [(n : Int)]) (late' := late) C.H.W G (fun y hy => List.mem_append_left _ hy) (.inl rfl) h2 hd' hnn.1 hnn.2
      k_steps
      · rename IntsAre _ stack => iv9
        rename Sep2 _ _ _ => S9
        rename Sep _ _ => T9
        refine' hret _ _ _ _ ?post ?F ?N
        case F => k_asm
        case N => k_asm
        case post => exact (StepPost.mk' (u' := u2) (z' := _ :: _ :: z') (stack' := stack) (late' := late) (n' := n + 1) (⟨S9, T9, (H7.mono (fun q hq => .tail _ (.tail _ hq))).re ⟨iv9, H7.B.f⟩ (fun y hy => H7.hst y (List.mem_append_left _ hy)) (by omega), C.o, C.l, RowAre.snoc (C.rw.mono fun q hq => List.mem_append_right _ hq) (.tail _ (.head _)) (.inl ⟨0, .tail _ (.tail _ (List.mem_append_left _ hm))⟩) (hp.mono fun q hq => .tail _ (.tail _ (List.mem_append_left _ hq))), sub_app C.zr, f7.trans (f6.trans C.fo), m7.trans (m6.trans C.mo)⟩) (hA) (List.forall_mem_cons.mpr ⟨rfl, List.forall_mem_cons.mpr ⟨rfl, hcl⟩⟩))
      · skip
        rename Sep2 _ _ _ => S9
        rename Sep _ _ => T9
        refine' hret _ _ _ _ ?post ?F ?N
        case F => k_asm
        case N => k_asm
        case post => exact (StepPost.mk' (u' := u2) (z' := _ :: _ :: z') (stack' := stack ++ [(n : Int)]) (late' := late ++ [(n : Int)]) (n' := n + 1) (⟨S9, T9, H7.mono (fun q hq => .tail _ (.tail _ hq)), ints_snoc C.o, ints_snoc C.l, RowAre.snoc (C.rw.mono fun q hq => List.mem_append_right _ hq) (.tail _ (.head _)) (.inl ⟨0, .tail _ (.tail _ (List.mem_append_left _ hm))⟩) (hp.mono fun q hq => .tail _ (.tail _ (List.mem_append_left _ hq))), sub_app C.zr, f7.trans (f6.trans C.fo), m7.trans (m6.trans C.mo)⟩) (hB) (List.forall_mem_cons.mpr ⟨rfl, List.forall_mem_cons.mpr ⟨rfl, hcl⟩⟩))
      · skip
        rename Sep2 _ _ _ => S9
        rename Sep _ _ => T9
        refine' hret _ _ _ _ ?post ?F ?N
        case F => k_asm
        case N => k_asm
        case post => exact (StepPost.mk' (u' := u2) (z' := _ :: _ :: z') (stack' := stack ++ [(n : Int)]) (late' := late) (n' := n + 1) (⟨S9, T9, H7.mono (fun q hq => .tail _ (.tail _ hq)), ints_snoc C.o, C.l, RowAre.snoc (C.rw.mono fun q hq => List.mem_append_right _ hq) (.tail _ (.head _)) (.inl ⟨0, .tail _ (.tail _ (List.mem_append_left _ hm))⟩) (hp.mono fun q hq => .tail _ (.tail _ (List.mem_append_left _ hq))), sub_app C.zr, f7.trans (f6.trans C.fo), m7.trans (m6.trans C.mo)⟩) (hC) (List.forall_mem_cons.mpr ⟨rfl, List.forall_mem_cons.mpr ⟨rfl, hcl⟩⟩))
theorem step_ {n k : Nat} {d : Int} {td tk : Tok} {ln : Addr} {nl : Nat} (C : Sc prog w ad bd la z r u v x TT stack fmt late row n) (I : Inv TT n stack fmt late row k) (hk : k < 7) (hln : (ln, tupOf [.ref la.oI, .ref la.lI, .ref la.rI] nl) ∈ r) :
    Tells prog w p loose mean mg mb 60 250 512 [.ref bd.b, .int d td, .int (k : Nat) tk, .ref ln] (v.led w.params ad bd ++ (u.led w.params ad ++ (x.led la ++ r))) (StepPost prog w ad bd la z r (k + 1)) := by
  have h0 : 0 ≤ d.fmod 9 := Int.fmod_nonneg_of_pos _ (by decide)
  have h9 : d.fmod 9 < 9 := Int.fmod_lt_of_pos _ (by decide)
  by_cases h : d.fmod 9 ≤ 6
  · exact stepE C I hk hln h h0
  · by_cases h7 : d.fmod 9 = 7
    · exact step7 C I hk hln h7
    · exact step8 C I hk hln (by omega)
end
theorem rows61 : True := by
  (k_with "nz:exec For Name Subscript cons nil" => (refine Hold.mk' ?_))
  (k_with "nz:UnrEndW" => (refine Hold.mk' ?_))
  (k_with "nz:UnrEnd" => (refine Hold.mk' ?_))
  (k_with "nz:nz tup" => ((k_dflt (refine' tup_ref ?zqk1 ?zqk2 ?zqk3 ?zqk4 ?zqk5 ?_ ?zqk7; (case zqk1 => k_asm); (case zqk2 => k_mem); (case zqk3 => decide); (case zqk4 => decide); (case zqk5 => exact rfl); (case zqk7 => with_unfolding_all rfl); k_whole))))
  (k_with "nz:subscriptTail" => (((with_reducible show wpAny _ _ (subscriptTail _ _ (Value.ref _) (Value.int (OfNat.ofNat _) _)) _ _ _); walk_at "nz tup")))
  (k_with "nz:subscriptTail Name" => (((with_reducible show wpAny _ _ (subscriptTail _ _ (Value.ref (LAd.oI _)) (Value.int _ _)) _ _ _); k_dflt (refine' sub_oIneg ?zqk1 ?zqk2 ?zqk3 ?zqk4 ?zqk5 ?zqk6 ?zqk8 ?_ ?zqk7; (case zqk1 => k_asm); (case zqk2 => k_mem); (case zqk3 => (try dsimp only); assumption); (case zqk4 => decide); (case zqk5 => omega); (case zqk6 => omega); (case zqk8 => assumption); (case zqk7 => with_unfolding_all rfl); k_whole; intro _))))
  trivial
section
variable {prog : Program} {w : World} {p : Program} {loose : List Str} {mean : ExcName → Option Value} {mg mb : Str → Option Value} {ad : TAd} {bd : BAd} {la : LAd} {u : TRaw} {v : BRaw} {x : LRaw} {z r : Led} {TT : Tr} {stack fmt late : List Int} {row : List Ent}
structure Pre (T : Tr) (n : Nat) (stack fmt : List Int) (row : List Ent) : Prop where
  fm : fmt = row.map (·.1)
  n4 : 4 ≤ n
  hn : n ≤ 11
  one : (1 : Int) ∈ stack
  co : T.contents = []
  at' : ∀ d ∈ T.attrs, d.length ≤ 2
  rl : row.length ≤ 7
  en : ∀ e ∈ row, EntOk T n 7 e
structure Fin (prog : Program) (w : World) (p : Program) (loose : List Str) (mean : ExcName → Option Value) (mg mb : Str → Option Value) (ad : TAd) (bd : BAd) (T : Tr) (n : Nat) (stack fmt : List Int) (row : List Ent) (q b : Int) (fo : Bool) : Prop where
  C : ∀ z u v r fmt, Sep2 (BRaw.led w.params ad bd v) (TRaw.led w.params ad u) r → St prog w ad bd z u v T stack fmt n → v.foster = fo →
    Tells prog w p loose mean mg mb 25 100 43 [.ref bd.b] (v.led w.params ad bd ++ (u.led w.params ad ++ r)) (PlacePost w.params ad bd u v r q b)
  q0 : 0 ≤ q
  qn : q < n
  hb : b = -1 ∨ (b ∈ T.children.getD q.toNat [] ∧ b ≠ -1 ∧ b < n)
  fm : fmt = row.map (·.1)
  hn : n ≤ 13
  ne : 0 < stack.length
  co : ∀ c ∈ T.contents, c.1 < n
  at' : ∀ d ∈ T.attrs, d.length ≤ 2
  rl : row.length ≤ 7
  en : ∀ e ∈ row, EntOk T n 7 e
  c1 : T.contents.length ≤ 1
def EndPost (prog : Program) (w : World) (p : Program) (loose : List Str) (mean : ExcName → Option Value) (mg mb : Str → Option Value) (ad : TAd) (bd : BAd) (la : LAd) (z r : Led) (v : BRaw) (x : LRaw) (fmt : List Int) (row : List Ent) (y : Value) (l' : Led) : Prop :=
  ∃ D t1 t2 q b u' v' x' z' T' n' stack', y = .ref D ∧ l' = BRaw.led w.params ad bd v' ++ (TRaw.led w.params ad u' ++ (LRaw.led la x' ++ (z' ++ r))) ∧ (D, tupOf [.int q t1, .int b t2] 0) ∈ z' ∧
    Sep2 (BRaw.led w.params ad bd v') (TRaw.led w.params ad u') (LRaw.led la x' ++ (z' ++ r)) ∧ Sep (LRaw.led la x') (z' ++ r) ∧ St prog w ad bd z u' v' T' stack' fmt n' ∧ IntsAre x'.oV stack' ∧ x'.rV = x.rV ∧ v'.mode = v.mode ∧
    Fin prog w p loose mean mg mb ad bd T' n' stack' fmt row q b v'.foster
theorem EndPost.mk' {row : List Ent} {D : Addr} {t1 t2 : Tok} {q b : Int} {u' : TRaw} {v' : BRaw} {x x' : LRaw} {z' : Led} {T' : Tr} {n' : Nat} {stack' : List Int} (hm : (D, tupOf [.int q t1, .int b t2] 0) ∈ z') (S : Sep2 (BRaw.led w.params ad bd v') (TRaw.led w.params ad u') (LRaw.led la x' ++ (z' ++ r))) (T3 : Sep (LRaw.led la x') (z' ++ r)) (H : St prog w ad bd z u' v' T' stack' fmt n') (o : IntsAre x'.oV stack') (e : x'.rV = x.rV) (m : v'.mode = v.mode)
    (F : Fin prog w p loose mean mg mb ad bd T' n' stack' fmt row q b v'.foster) : EndPost prog w p loose mean mg mb ad bd la z r v x fmt row (.ref D) (BRaw.led w.params ad bd v' ++ (TRaw.led w.params ad u' ++ (LRaw.led la x' ++ (z' ++ r)))) :=
  ⟨D, t1, t2, q, b, u', v', x', z', T', n', stack', rfl, rfl, hm, S, T3, H, o, e, m, F⟩
theorem Pre.ne {n : Nat} (I : Pre TT n stack fmt row) : 0 < stack.length := List.length_pos_of_mem I.one
theorem Pre.st {n : Nat} (I : Pre TT n stack fmt row) (H : St prog w ad bd z u v TT stack fmt n) : stack.length ≤ 11 ∧ 0 < stack.length ∧ 0 ≤ stack.getD (stack.length - 1) 0 ∧ stack.getD (stack.length - 1) 0 < (n : Int) := by
  have ne := I.ne
  have hl := H.hl
  have hn := I.hn
  have hla := H.hst _ (mem_getD (xs := stack) (j := stack.length - 1) (by omega))
  exact ⟨by omega, ne, hla.1, hla.2⟩
theorem EntOk.more {T T' : Tr} {n n' k : Nat} {e : Ent} (h : EntOk T n k e) (W : WF T n) (hn : ∃ l, T'.names = T.names ++ l) (ha : ∃ l, T'.attrs = T.attrs ++ l) (hle : n ≤ n') : EntOk T' n' k e := by
  rcases h with h | ⟨h1, h2, h3, h4, h5, h6, h7⟩
  · exact .inl h
  · obtain ⟨l, hn⟩ := hn
    obtain ⟨l', ha⟩ := ha
    have a := W.nm
    have b := W.a
    refine .inr ⟨h1, by omega, ?_, ?_, h5, h6, h7⟩
    · rw [hn, List.getD_eq_getElem?_getD, List.getElem?_append_left (by omega), ← List.getD_eq_getElem?_getD]
      exact h3
    · rw [ha, List.getD_eq_getElem?_getD, List.getElem?_append_left (by omega), ← List.getD_eq_getElem?_getD]
      exact h4
theorem fin0 {n : Nat} {fo : Bool} (hfo : fo = false) (I : Pre TT n stack fmt row) (H : St prog w ad bd z u v TT stack fmt n) : Fin prog w p loose mean mg mb ad bd TT n stack fmt row (stack.getD (stack.length - 1) 0) (-1) fo := by
  subst hfo
  obtain ⟨hl, ne, l0, l1⟩ := I.st H
  have hn := I.hn
  exact ⟨fun z u v r fmt S H hf => placeA S H.R H.B H.W (by omega) H.hst ne (by omega) rfl (.inl hf) (by rw [I.co]; exact fun c hc => nomatch hc), l0, l1, .inl rfl, I.fm, by omega, ne, by (rw [I.co]; exact fun c hc => (nomatch hc)), I.at', I.rl, I.en, by rw [I.co]; exact Nat.zero_le _⟩
section el
variable {n : Nat} {q : Int} {nm : Str} {d : List (Str × Str)} {b : Int}
theorem el_name (W : WF TT n) : (TT.el nm d q n b).names.getD ((n : Nat) : Int).toNat (Str.ofString "") = nm := by
  show (TT.names ++ [nm]).getD n _ = nm
  rw [getD_snoc, if_neg (by rw [W.nm]; omega), if_pos W.nm.symm]
theorem el_space (W : WF TT n) : (TT.el nm d q n b).spaces.getD ((n : Nat) : Int).toNat (Str.ofString "") = Str.ofString "html" := by
  show (TT.spaces ++ [Str.ofString "html"]).getD n _ = _
  rw [getD_snoc, if_neg (by rw [W.sp]; omega), if_pos W.sp.symm]
theorem el_par (W : WF TT n) : (TT.el nm d q n b).parents.getD ((n : Nat) : Int).toNat 0 = q := by
  show ((TT.parents ++ [-1]).set n q).getD n 0 = q
  rw [getD_set (by simp [W.p]), if_pos rfl]
theorem el_name_old (W : WF TT n) {i : Int} (h0 : 0 ≤ i) (h : i < n) : (TT.el nm d q n b).names.getD i.toNat (Str.ofString "") = TT.names.getD i.toNat (Str.ofString "") := by
  show (TT.names ++ [nm]).getD _ _ = _
  rw [getD_snoc, if_pos (by have := W.nm; omega)]
theorem el_space_old (W : WF TT n) {i : Int} (h0 : 0 ≤ i) (h : i < n) : (TT.el nm d q n b).spaces.getD i.toNat (Str.ofString "") = TT.spaces.getD i.toNat (Str.ofString "") := by
  show (TT.spaces ++ [Str.ofString "html"]).getD _ _ = _
  rw [getD_snoc, if_pos (by have := W.sp; omega)]
theorem el_par_old (W : WF TT n) {i : Int} (h0 : 0 ≤ i) (h : i < n) : (TT.el nm d q n b).parents.getD i.toNat 0 = TT.parents.getD i.toNat 0 := by
  show ((TT.parents ++ [-1]).set n q).getD i.toNat 0 = _
  have e : (n : Int).toNat = n := by omega
  have w := W.p
  rw [getD_set (by simp [w]), if_neg (by omega), getD_snoc, if_pos (by omega)]
theorem mem_take_drop {xs : List Int} {i : Int} {k : Nat} : i ∈ xs.take k ++ i :: xs.drop k := by simp
theorem el_kid (W : WF TT n) (h0 : 0 ≤ q) (h : q < n) : (n : Int) ∈ (TT.el nm d q n b).children.getD q.toNat [] := by
  have w := W.c
  show (n : Int) ∈ ((TT.children ++ [[]]).modify q.toNat _).getD q.toNat []
  rw [List.getD_eq_getElem?_getD, List.getElem?_modify, List.getElem?_eq_getElem (by simp; omega)]
  simp only [Option.map_eq_map, Option.map_some, if_true, Option.getD_some]
  exact mem_take_drop
theorem el_kid_old (W : WF TT n) {i : Int} (h0 : 0 ≤ q) (hi0 : 0 ≤ i) (hne : i ≠ q) (hi : i < n) : (TT.el nm d q n b).children.getD i.toNat [] = TT.children.getD i.toNat [] := by
  have w := W.c
  show ((TT.children ++ [[]]).modify q.toNat _).getD i.toNat [] = _
  have e : ¬ q.toNat = i.toNat := by omega
  rw [List.getD_eq_getElem?_getD, List.getElem?_modify]
  simp only [e, if_false, Option.map_eq_map, Option.map_id']
  rw [← List.getD_eq_getElem?_getD, getD_snoc, if_pos (by omega)]
end el
theorem last_snoc {xs : List Int} {x : Int} : (xs ++ [x]).getD ((xs ++ [x]).length - 1) 0 = x := by
  rw [getD_snoc, if_neg (by simp), if_pos (by simp)]
theorem at_snoc {xs : List Int} {x : Int} : (xs ++ [x]).getD xs.length 0 = x := by
  rw [getD_snoc, if_neg (by omega), if_pos rfl]
theorem at_snoc2 {xs : List Int} {x y : Int} : (xs ++ [x] ++ [y]).getD xs.length 0 = x := by
  rw [getD_snoc, if_pos (by simp), at_snoc]
theorem len1 {T : Tr} {nm : Str} {q n b : Int} (h : ∀ d ∈ T.attrs, d.length ≤ 2) : ∀ d ∈ (T.el nm [] q n b).attrs, d.length ≤ 2 := fun d hd => by
  rcases List.mem_append.mp (show d ∈ T.attrs ++ [[]] from hd) with hd | hd
  · exact h d hd
  · rw [List.mem_singleton.mp hd]
    decide
section fins
variable {n : Nat} {fo : Bool}
theorem fin2 (hfo : fo = false) (I : Pre TT n stack fmt row) (H : St prog w ad bd z u v TT stack fmt n) :
    Fin prog w p loose mean mg mb ad bd (TT.el (Str.ofString "table") [] (stack.getD (stack.length - 1) 0) n (-1)) (n + 1) (stack ++ [(n : Int)]) fmt row n (-1) fo := by
  subst hfo
  obtain ⟨hl, ne, l0, l1⟩ := I.st H
  have hn := I.hn
  have hco : ∀ c ∈ (TT.el (Str.ofString "table") [] (stack.getD (stack.length - 1) 0) n (-1)).contents, False := by
    show ∀ c ∈ TT.contents, False
    rw [I.co]
    exact fun c hc => nomatch hc
  exact ⟨fun z u v r fmt S H hf => placeA S H.R H.B H.W (by omega) H.hst (by simp) (by simp; omega) last_snoc (.inl hf) (fun c hc => (hco c hc).elim), by omega, by omega, .inl rfl, I.fm, by omega, by simp, fun c hc => (hco c hc).elim, len1 I.at', I.rl, fun e he => (I.en e he).more H.W ⟨_, rfl⟩ ⟨_, rfl⟩ (by omega), by show TT.contents.length ≤ 1; rw [I.co]; exact Nat.zero_le _⟩
theorem fin1 (hfo : fo = true) (I : Pre TT n stack fmt row) (H : St prog w ad bd z u v TT stack fmt n) :
    Fin prog w p loose mean mg mb ad bd (TT.el (Str.ofString "table") [] (stack.getD (stack.length - 1) 0) n (-1)) (n + 1) (stack ++ [(n : Int)]) fmt row (stack.getD (stack.length - 1) 0) n fo := by
  subst hfo
  obtain ⟨hl, ne, l0, l1⟩ := I.st H
  have hn := I.hn
  have hco : ∀ c ∈ (TT.el (Str.ofString "table") [] (stack.getD (stack.length - 1) 0) n (-1)).contents, False := by
    show ∀ c ∈ TT.contents, False
    rw [I.co]
    exact fun c hc => nomatch hc
  have W := H.W
  refine ⟨fun z u v r fmt S H hf => placeB (k := stack.length) S H.R H.B H.W (by omega) H.hst ne (by simp) (by simp; omega) last_snoc hf (el_space W) (by rw [el_name W]; decide +kernel) at_snoc ?_ (fun j h1 h2 => ?_) (el_par W) (by omega) (fun c hc => (hco c hc).elim), l0, by omega, .inr ⟨el_kid W l0 l1, by omega, by omega⟩, I.fm, by omega, by simp, fun c hc => (hco c hc).elim, len1 I.at', I.rl, fun e he => (I.en e he).more W ⟨_, rfl⟩ ⟨_, rfl⟩ (by omega), by show TT.contents.length ≤ 1; rw [I.co]; exact Nat.zero_le _⟩
  · unfold Tr.isH
    rw [el_space W, el_name W]
    decide +kernel
  · simp at h2
    omega
theorem fin5 (hfo : fo = true) (I : Pre TT n stack fmt row) (H : St prog w ad bd z u v TT stack fmt n) :
    Fin prog w p loose mean mg mb ad bd ((TT.el (Str.ofString "table") [] (stack.getD (stack.length - 1) 0) n (-1)).el (Str.ofString "td") [] n ((n + 1 : Nat) : Int) (-1)) (n + 2) (stack ++ [(n : Int)] ++ [((n + 1 : Nat) : Int)]) fmt row ((n + 1 : Nat) : Int) (-1) fo := by
  subst hfo
  obtain ⟨hl, ne, l0, l1⟩ := I.st H
  have hn := I.hn
  have W := H.W
  have W1 : WF (TT.el (Str.ofString "table") [] (stack.getD (stack.length - 1) 0) n (-1)) (n + 1) := (W.add _ _ _ _).ins l0 (by omega) (by omega)
  have hco : ∀ c ∈ ((TT.el (Str.ofString "table") [] (stack.getD (stack.length - 1) 0) n (-1)).el (Str.ofString "td") [] n ((n + 1 : Nat) : Int) (-1)).contents, False := by
    show ∀ c ∈ TT.contents, False
    rw [I.co]
    exact fun c hc => nomatch hc
  exact ⟨fun z u v r fmt S H hf => placeA S H.R H.B H.W (by omega) H.hst (by simp) (by simp; omega) last_snoc (.inr (by rw [el_name W1]; decide +kernel)) (fun c hc => (hco c hc).elim), by omega, by omega, .inl rfl, I.fm, by omega, by simp, fun c hc => (hco c hc).elim, len1 (len1 I.at'), I.rl, fun e he => (I.en e he).more W ⟨[_, _], List.append_assoc _ _ _⟩ ⟨[_, _], List.append_assoc _ _ _⟩ (by omega), by show TT.contents.length ≤ 1; rw [I.co]; exact Nat.zero_le _⟩
theorem fin4 (hfo : fo = true) (I : Pre TT n stack fmt row) (H : St prog w ad bd z u v TT stack fmt n) :
    Fin prog w p loose mean mg mb ad bd ((TT.el (Str.ofString "table") [] (stack.getD (stack.length - 1) 0) n (-1)).el (Str.ofString "tbody") [] n ((n + 1 : Nat) : Int) (-1)) (n + 2) (stack ++ [(n : Int)] ++ [((n + 1 : Nat) : Int)]) fmt row (stack.getD (stack.length - 1) 0) n fo := by
  subst hfo
  obtain ⟨hl, ne, l0, l1⟩ := I.st H
  have hn := I.hn
  have W := H.W
  have W1 : WF (TT.el (Str.ofString "table") [] (stack.getD (stack.length - 1) 0) n (-1)) (n + 1) := (W.add _ _ _ _).ins l0 (by omega) (by omega)
  have hco : ∀ c ∈ ((TT.el (Str.ofString "table") [] (stack.getD (stack.length - 1) 0) n (-1)).el (Str.ofString "tbody") [] n ((n + 1 : Nat) : Int) (-1)).contents, False := by
    show ∀ c ∈ TT.contents, False
    rw [I.co]
    exact fun c hc => nomatch hc
  refine ⟨fun z u v r fmt S H hf => placeB (k := stack.length) S H.R H.B H.W (by omega) H.hst ne (by simp) (by simp; omega) last_snoc hf (el_space W1) (by rw [el_name W1]; decide +kernel) at_snoc2 ?_ (fun j h1 h2 => ?_) ?_ (by omega) (fun c hc => (hco c hc).elim), l0, by omega, .inr ⟨?_, by omega, by omega⟩, I.fm, by omega, by simp, fun c hc => (hco c hc).elim, len1 (len1 I.at'), I.rl, fun e he => (I.en e he).more W ⟨[_, _], List.append_assoc _ _ _⟩ ⟨[_, _], List.append_assoc _ _ _⟩ (by omega), by show TT.contents.length ≤ 1; rw [I.co]; exact Nat.zero_le _⟩
  · unfold Tr.isH
    rw [el_space_old W1 (by omega) (by omega), el_name_old W1 (by omega) (by omega), el_space W, el_name W]
    decide +kernel
  · simp at h2
    have e : j = (stack ++ [(n : Int)]).length := by simp; omega
    subst e
    rw [at_snoc]
    unfold Tr.isH
    rw [el_space W1, el_name W1]
    decide +kernel
  · rw [el_par_old W1 (by omega) (by omega), el_par W]
  · rw [el_kid_old W1 (by omega) l0 (by omega) (by omega)]
    exact el_kid W l0 l1
theorem fin3 (hfo : fo = false) (I : Pre TT n stack fmt row) (H : St prog w ad bd z u v TT stack fmt n) :
    Fin prog w p loose mean mg mb ad bd ((TT.elT []).ins (stack.getD (stack.length - 1) 0) n (-1)) (n + 2) (stack ++ [(n : Int)]) fmt row ((n : Int) + 1) (-1) fo := by
  subst hfo
  obtain ⟨hl, ne, l0, l1⟩ := I.st H
  have hn := I.hn
  have W := H.W
  have hc : ((TT.elT []).ins (stack.getD (stack.length - 1) 0) n (-1)).contents = [((n : Int), (n : Int) + 1)] := by
    show TT.contents ++ [((TT.kinds.length : Int), (TT.kinds.length : Int) + 1)] = _
    rw [I.co, W.k]
    rfl
  refine ⟨fun z u v r fmt S H hf => placeC S H.R H.B H.W (by omega) H.hst (by simp) (by simp; omega) last_snoc hf ?_, by omega, by omega, .inl rfl, I.fm, by omega, by simp, ?_, ?_, I.rl, fun e he => (I.en e he).more W ⟨[_, _], List.append_assoc _ _ _⟩ ⟨[_, _], List.append_assoc _ _ _⟩ (by omega), by rw [hc]; exact Nat.le_refl _⟩
  · rw [hc]
    show (if PySem.Spec.same (.int (n : Int)) (.int (n : Int)) = true then some (PyData.int ((n : Int) + 1)) else _) = _
    rw [if_pos (by rw [PyProof.V.same_int]; simp)]
  · rw [hc]
    intro c hc
    rw [List.mem_singleton.mp hc]
    show (n : Int) < ((n + 2 : Nat) : Int)
    omega
  · intro d hd
    rcases List.mem_append.mp (show d ∈ (TT.attrs ++ [[]]) ++ [[]] from hd) with hd | hd
    · rcases List.mem_append.mp hd with hd | hd
      · exact I.at' d hd
      · rw [List.mem_singleton.mp hd]
        decide
    · rw [List.mem_singleton.mp hd]
      decide
end fins
end
section
variable {prog : Program} {w : World} {p : Program} {loose : List Str} {mean : ExcName → Option Value} {mg mb : Str → Option Value} {ad : TAd} {bd : BAd} {la : LAd} {u : TRaw} {v : BRaw} {x : LRaw} {z r : Led} {TT : Tr} {stack fmt late : List Int} {row : List Ent}
theorem end0 {n : Nat} {e : Int} {te : Tok} (I : Pre TT n stack fmt row) (S : Sep2 (v.led w.params ad bd) (u.led w.params ad) (x.led la ++ r)) (T3 : Sep (x.led la) r) (H : St prog w ad bd z u v TT stack fmt n) (o : IntsAre x.oV stack) (hf : v.foster = false) (he : e = 0) :
    Tells prog w p loose mean mg mb 60 250 519 [.ref bd.b, .int e te, .ref la.oI] (v.led w.params ad bd ++ (u.led w.params ad ++ (x.led la ++ r))) (EndPost prog w p loose mean mg mb ad bd la z r v x fmt row) := by
  subst he
  unfold Tells
  intro A env outer A₀ base h₀ L m s Q E hA0 hf0 hk' B F X N T hR hret
  (refine' and4 (I.st H) ?_; intro hl ne l0 l1)
  have hn := I.hn
  have W := H.W
  have ol := o.length
  have hco : ∀ c ∈ TT.contents, c.1 ≠ stack.getD (stack.length - 1) 0 := by rw [I.co]; exact fun c hc => nomatch hc
  have hv1 : stack.getD (-1 + (stack.length : Int)).toNat 0 = stack.getD (stack.length - 1) 0 := by
    congr 1
    omega
  walk_at "nz e3"
  k_steps
  refine Hold.out ?_
  rename Fr _ _ _ _ => F9
  with_reducible refine' For_turns (m := ?m) ?F ?_ ?hs ?hE
  case F => exact F9
  case hE => first | passes_own | with_unfolding_all passes_own
  case hs => intro _; rfl
  k_whole
  k_steps
  refine Hold.out ?_
  refine' iter_tupTurns (by with_unfolding_all rfl) (by k_asm) (by k_asm) (by k_mem) rfl rfl ?_
  intro J hJ
  refine ItemsRest.zero ?_
  intro h9 tk9 F9 N9
  (try dsimp only)
  k_steps
  rename Sep2 _ _ _ => S9
  rename Sep _ _ => T9
  refine' hret _ _ _ _ ?post ?F ?N
  case F => k_asm
  case N => k_asm
  case post => exact EndPost.mk' (u' := u) (z' := [_, _, _, _, _, _, _, _, _]) (T' := TT) (n' := n) (stack' := stack) (.head _) S9 T9 (H.re ⟨H.B.s, H.B.f⟩ H.hst H.hl) o rfl rfl (fin0 (by dsimp only; decide) I H)
theorem end2 {n : Nat} {e : Int} {te : Tok} (I : Pre TT n stack fmt row) (S : Sep2 (v.led w.params ad bd) (u.led w.params ad) (x.led la ++ r)) (T3 : Sep (x.led la) r) (H : St prog w ad bd z u v TT stack fmt n) (o : IntsAre x.oV stack) (hf : v.foster = false) (he : e = 2) :
    Tells prog w p loose mean mg mb 60 250 519 [.ref bd.b, .int e te, .ref la.oI] (v.led w.params ad bd ++ (u.led w.params ad ++ (x.led la ++ r))) (EndPost prog w p loose mean mg mb ad bd la z r v x fmt row) := by
  subst he
  unfold Tells
  intro A env outer A₀ base h₀ L m s Q E hA0 hf0 hk' B F X N T hR hret
  (refine' and4 (I.st H) ?_; intro hl ne l0 l1)
  have hn := I.hn
  have W := H.W
  have ol := o.length
  have hco : ∀ c ∈ TT.contents, c.1 ≠ stack.getD (stack.length - 1) 0 := by rw [I.co]; exact fun c hc => nomatch hc
  have hv1 : stack.getD (-1 + (stack.length : Int)).toNat 0 = stack.getD (stack.length - 1) 0 := by
    congr 1
    omega
  walk_at "nz e3"
  k_steps
  refine Hold.out ?_
  rename Fr _ _ _ _ => F9
  with_reducible refine' For_turns (m := ?m) ?F ?_ ?hs ?hE
  case F => exact F9
  case hE => first | passes_own | with_unfolding_all passes_own
  case hs => intro _; rfl
  k_whole
  k_steps
  refine Hold.out ?_
  refine' iter_tupTurns (by with_unfolding_all rfl) (by k_asm) (by k_asm) (by k_mem) rfl rfl ?_
  intro J hJ
  refine tup_cons ?_
  intro it1 h1 tk1 hit1 F1 N1
  rename Sep2 _ _ _ => S1
  rename Sep _ _ => T1
  (have hp98 := (put_it (it := it1) S1 T1 (fun p hp => Nat.ne_of_lt (hJ p hp))); have Sa1 := hp98.1; have Ta1 := hp98.2; clear hp98)
  have Na1 := put_news N1
  clear N1
  k_steps
  refine Hold.out (Tells.use (insEl2 Sa1 H (by omega) (by decide +kernel) (placeA Sa1 H.R H.B H.W (by omega) H.hst ne (by omega) rfl (.inl hf) hco) l0 l1 (.inl rfl)) (by first | k_asm | exact rfl) (by first | exact rfl | assumption) (by first | exact rfl | assumption) (by k_asm) (by k_asm) (by k_asm) (by k_asm) (by k_asm) (by walk_at "nz room") ?_)
  (refine' retA3 ?_; intro u1 v1 tkb1 hp99 h' tk' Fb1 Nb1; refine' and4 hp99 ?_; intro Sb1 H1 f1 m1; clear hp99)
  have ol1 := H1.hl
  k_steps
  refine Hold.out ?_
  rename Fr _ _ _ _ => Fc1
  rename News _ _ _ _ => Nc1
  rename Sep2 _ _ _ => Sc1
  rename Sep _ _ => Tc1
  have Dd1 := off_it Sc1 Tc1 fun p hp => Nat.ne_of_lt (hJ p (List.mem_append_right _ (List.mem_append_right _ (List.mem_append_right _ hp))))
  refine turnW_end Fc1 Nc1 mem_it sub_it Dd1 ⟨⟨by k_mem, trivial⟩, ?_⟩
  (have hp98 := (take_it Sc1 Tc1); have Sd1 := hp98.1; have Td1 := hp98.2; clear hp98)
  (try clear Sa1)
  (try clear Ta1)
  (try clear Na1)
  (try clear Sb1)
  (try clear Nb1)
  (try clear Nc1)
  (try clear Sc1)
  (try clear Tc1)
  have sl1 : (stack ++ [(n : Int)]).length = stack.length + 1 := by simp
  have hv1' : (stack ++ [(n : Int)]).getD (-1 + ((stack ++ [(n : Int)]).length : Int)).toNat 0 = (n : Int) := by
    rw [show (-1 + ((stack ++ [(n : Int)]).length : Int)).toNat = stack.length by omega]
    exact at_snoc
  have hv2' : (stack ++ [(n : Int)]).getD (-2 + ((stack ++ [(n : Int)]).length : Int)).toNat 0 = stack.getD (stack.length - 1) 0 := by
    rw [show (-2 + ((stack ++ [(n : Int)]).length : Int)).toNat = stack.length - 1 by omega, getD_snoc, if_pos (by omega)]
  have iv1 := ints_snoc (t := tkb1) (y := (n : Int)) o
  refine ItemsRest.zero ?_
  intro h9 tk9 F9 N9
  (try dsimp only)
  k_steps
  rename Sep2 _ _ _ => S9
  rename Sep _ _ => T9
  refine' hret _ _ _ _ ?post ?F ?N
  case F => k_asm
  case N => k_asm
  case post => exact EndPost.mk' (u' := u1) (z' := [_, _, _, _, _, _, _, _, _])  (.head _) S9 T9 (H1.re ⟨H1.B.s, H1.B.f⟩ H1.hst H1.hl) iv1 rfl m1 (fin2 (by dsimp only; decide) I H)
theorem end1 {n : Nat} {e : Int} {te : Tok} (I : Pre TT n stack fmt row) (S : Sep2 (v.led w.params ad bd) (u.led w.params ad) (x.led la ++ r)) (T3 : Sep (x.led la) r) (H : St prog w ad bd z u v TT stack fmt n) (o : IntsAre x.oV stack) (hf : v.foster = false) (he : e = 1) :
    Tells prog w p loose mean mg mb 60 250 519 [.ref bd.b, .int e te, .ref la.oI] (v.led w.params ad bd ++ (u.led w.params ad ++ (x.led la ++ r))) (EndPost prog w p loose mean mg mb ad bd la z r v x fmt row) := by
  subst he
  unfold Tells
  intro A env outer A₀ base h₀ L m s Q E hA0 hf0 hk' B F X N T hR hret
  (refine' and4 (I.st H) ?_; intro hl ne l0 l1)
  have hn := I.hn
  have W := H.W
  have ol := o.length
  have hco : ∀ c ∈ TT.contents, c.1 ≠ stack.getD (stack.length - 1) 0 := by rw [I.co]; exact fun c hc => nomatch hc
  have hv1 : stack.getD (-1 + (stack.length : Int)).toNat 0 = stack.getD (stack.length - 1) 0 := by
    congr 1
    omega
  walk_at "nz e3"
  k_steps
  refine Hold.out ?_
  rename Fr _ _ _ _ => F9
  with_reducible refine' For_turns (m := ?m) ?F ?_ ?hs ?hE
  case F => exact F9
  case hE => first | passes_own | with_unfolding_all passes_own
  case hs => intro _; rfl
  k_whole
  k_steps
  refine Hold.out ?_
  refine' iter_tupTurns (by with_unfolding_all rfl) (by k_asm) (by k_asm) (by k_mem) rfl rfl ?_
  intro J hJ
  refine tup_cons ?_
  intro it1 h1 tk1 hit1 F1 N1
  rename Sep2 _ _ _ => S1
  rename Sep _ _ => T1
  (have hp98 := (put_it (it := it1) S1 T1 (fun p hp => Nat.ne_of_lt (hJ p hp))); have Sa1 := hp98.1; have Ta1 := hp98.2; clear hp98)
  have Na1 := put_news N1
  clear N1
  k_steps
  refine Hold.out (Tells.use (insEl2 Sa1 H (by omega) (by decide +kernel) (placeA Sa1 H.R H.B H.W (by omega) H.hst ne (by omega) rfl (.inl hf) hco) l0 l1 (.inl rfl)) (by first | k_asm | exact rfl) (by first | exact rfl | assumption) (by first | exact rfl | assumption) (by k_asm) (by k_asm) (by k_asm) (by k_asm) (by k_asm) (by walk_at "nz room") ?_)
  (refine' retA3 ?_; intro u1 v1 tkb1 hp99 h' tk' Fb1 Nb1; refine' and4 hp99 ?_; intro Sb1 H1 f1 m1; clear hp99)
  have ol1 := H1.hl
  k_steps
  refine Hold.out ?_
  rename Fr _ _ _ _ => Fc1
  rename News _ _ _ _ => Nc1
  rename Sep2 _ _ _ => Sc1
  rename Sep _ _ => Tc1
  have Dd1 := off_it Sc1 Tc1 fun p hp => Nat.ne_of_lt (hJ p (List.mem_append_right _ (List.mem_append_right _ (List.mem_append_right _ hp))))
  refine turnW_end Fc1 Nc1 mem_it sub_it Dd1 ⟨⟨by k_mem, trivial⟩, ?_⟩
  (have hp98 := (take_it Sc1 Tc1); have Sd1 := hp98.1; have Td1 := hp98.2; clear hp98)
  (try clear Sa1)
  (try clear Ta1)
  (try clear Na1)
  (try clear Sb1)
  (try clear Nb1)
  (try clear Nc1)
  (try clear Sc1)
  (try clear Tc1)
  have sl1 : (stack ++ [(n : Int)]).length = stack.length + 1 := by simp
  have hv1' : (stack ++ [(n : Int)]).getD (-1 + ((stack ++ [(n : Int)]).length : Int)).toNat 0 = (n : Int) := by
    rw [show (-1 + ((stack ++ [(n : Int)]).length : Int)).toNat = stack.length by omega]
    exact at_snoc
  have hv2' : (stack ++ [(n : Int)]).getD (-2 + ((stack ++ [(n : Int)]).length : Int)).toNat 0 = stack.getD (stack.length - 1) 0 := by
    rw [show (-2 + ((stack ++ [(n : Int)]).length : Int)).toNat = stack.length - 1 by omega, getD_snoc, if_pos (by omega)]
  have iv1 := ints_snoc (t := tkb1) (y := (n : Int)) o
  refine ItemsRest.zero ?_
  intro h9 tk9 F9 N9
  (try dsimp only)
  k_steps
  rename Sep2 _ _ _ => S9
  rename Sep _ _ => T9
  refine' hret _ _ _ _ ?post ?F ?N
  case F => k_asm
  case N => k_asm
  case post => exact EndPost.mk' (u' := u1) (z' := [_, _, _, _, _, _, _, _, _])  (.head _) S9 T9 (H1.re ⟨H1.B.s, H1.B.f⟩ H1.hst H1.hl) iv1 rfl m1 (fin1 (by dsimp only; decide) I H)
theorem end3 {n : Nat} {e : Int} {te : Tok} (I : Pre TT n stack fmt row) (S : Sep2 (v.led w.params ad bd) (u.led w.params ad) (x.led la ++ r)) (T3 : Sep (x.led la) r) (H : St prog w ad bd z u v TT stack fmt n) (o : IntsAre x.oV stack) (hf : v.foster = false) (he : e = 3) :
    Tells prog w p loose mean mg mb 60 250 519 [.ref bd.b, .int e te, .ref la.oI] (v.led w.params ad bd ++ (u.led w.params ad ++ (x.led la ++ r))) (EndPost prog w p loose mean mg mb ad bd la z r v x fmt row) := by
  subst he
  unfold Tells
  intro A env outer A₀ base h₀ L m s Q E hA0 hf0 hk' B F X N T hR hret
  (refine' and4 (I.st H) ?_; intro hl ne l0 l1)
  have hn := I.hn
  have W := H.W
  have ol := o.length
  have hco : ∀ c ∈ TT.contents, c.1 ≠ stack.getD (stack.length - 1) 0 := by rw [I.co]; exact fun c hc => nomatch hc
  have hv1 : stack.getD (-1 + (stack.length : Int)).toNat 0 = stack.getD (stack.length - 1) 0 := by
    congr 1
    omega
  walk_at "nz e3"
  k_steps
  refine Hold.out ?_
  rename Fr _ _ _ _ => F9
  with_reducible refine' For_turns (m := ?m) ?F ?_ ?hs ?hE
  case F => exact F9
  case hE => first | passes_own | with_unfolding_all passes_own
  case hs => intro _; rfl
  k_whole
  k_steps
  refine Hold.out ?_
  refine' iter_tupTurns (by with_unfolding_all rfl) (by k_asm) (by k_asm) (by k_mem) rfl rfl ?_
  intro J hJ
  refine tup_cons ?_
  intro it1 h1 tk1 hit1 F1 N1
  rename Sep2 _ _ _ => S1
  rename Sep _ _ => T1
  (have hp98 := (put_it (it := it1) S1 T1 (fun p hp => Nat.ne_of_lt (hJ p hp))); have Sa1 := hp98.1; have Ta1 := hp98.2; clear hp98)
  have Na1 := put_news N1
  clear N1
  k_steps
  refine Hold.out (Tells.use (insElT Sa1 H (by omega) I.co (placeA Sa1 H.R H.B H.W (by omega) H.hst ne (by omega) rfl (.inl hf) hco) l0 l1 (.inl rfl)) (by first | k_asm | exact rfl) (by first | exact rfl | assumption) (by first | exact rfl | assumption) (by k_asm) (by k_asm) (by k_asm) (by k_asm) (by k_asm) (by walk_at "nz room") ?_)
  (refine' retA3 ?_; intro u1 v1 tkb1 hp99 h' tk' Fb1 Nb1; refine' and4 hp99 ?_; intro Sb1 H1 f1 m1; clear hp99)
  have ol1 := H1.hl
  k_steps
  refine Hold.out ?_
  rename Fr _ _ _ _ => Fc1
  rename News _ _ _ _ => Nc1
  rename Sep2 _ _ _ => Sc1
  rename Sep _ _ => Tc1
  have Dd1 := off_it Sc1 Tc1 fun p hp => Nat.ne_of_lt (hJ p (List.mem_append_right _ (List.mem_append_right _ (List.mem_append_right _ hp))))
  refine turnW_end Fc1 Nc1 mem_it sub_it Dd1 ⟨⟨by k_mem, trivial⟩, ?_⟩
  (have hp98 := (take_it Sc1 Tc1); have Sd1 := hp98.1; have Td1 := hp98.2; clear hp98)
  (try clear Sa1)
  (try clear Ta1)
  (try clear Na1)
  (try clear Sb1)
  (try clear Nb1)
  (try clear Nc1)
  (try clear Sc1)
  (try clear Tc1)
  have sl1 : (stack ++ [(n : Int)]).length = stack.length + 1 := by simp
  have hv1' : (stack ++ [(n : Int)]).getD (-1 + ((stack ++ [(n : Int)]).length : Int)).toNat 0 = (n : Int) := by
    rw [show (-1 + ((stack ++ [(n : Int)]).length : Int)).toNat = stack.length by omega]
    exact at_snoc
  have hv2' : (stack ++ [(n : Int)]).getD (-2 + ((stack ++ [(n : Int)]).length : Int)).toNat 0 = stack.getD (stack.length - 1) 0 := by
    rw [show (-2 + ((stack ++ [(n : Int)]).length : Int)).toNat = stack.length - 1 by omega, getD_snoc, if_pos (by omega)]
  have iv1 := ints_snoc (t := tkb1) (y := (n : Int)) o
  have hlk : PySem.Spec.lookup (.int (n : Int)) (coD ((TT.elT []).ins (stack.getD (stack.length - 1) 0) n (-1)).contents) = some (.int ((n : Int) + 1)) := by
    show PySem.Spec.lookup (.int (n : Int)) (coD (TT.contents ++ [((TT.kinds.length : Int), (TT.kinds.length : Int) + 1)])) = _
    rw [I.co, W.k]
    show (if PySem.Spec.same (.int (n : Int)) (.int (n : Int)) = true then some (PyData.int ((n : Int) + 1)) else _) = _
    rw [if_pos (by rw [PyProof.V.same_int]; simp)]
  have hR1 := H1.R
  refine ItemsRest.zero ?_
  intro h9 tk9 F9 N9
  (try dsimp only)
  k_steps
  rename Sep2 _ _ _ => S9
  rename Sep _ _ => T9
  refine' hret _ _ _ _ ?post ?F ?N
  case F => k_asm
  case N => k_asm
  case post => exact EndPost.mk' (u' := u1) (z' := [_, _, _, _, _, _, _, _, _])  (.head _) S9 T9 (H1.re ⟨H1.B.s, H1.B.f⟩ H1.hst H1.hl) iv1 rfl m1 (fin3 (by dsimp only; decide) I H)
theorem end4 {n : Nat} {e : Int} {te : Tok} (I : Pre TT n stack fmt row) (S : Sep2 (v.led w.params ad bd) (u.led w.params ad) (x.led la ++ r)) (T3 : Sep (x.led la) r) (H : St prog w ad bd z u v TT stack fmt n) (o : IntsAre x.oV stack) (hf : v.foster = false) (he : e = 4) :
    Tells prog w p loose mean mg mb 60 250 519 [.ref bd.b, .int e te, .ref la.oI] (v.led w.params ad bd ++ (u.led w.params ad ++ (x.led la ++ r))) (EndPost prog w p loose mean mg mb ad bd la z r v x fmt row) := by
  subst he
  unfold Tells
  intro A env outer A₀ base h₀ L m s Q E hA0 hf0 hk' B F X N T hR hret
  (refine' and4 (I.st H) ?_; intro hl ne l0 l1)
  have hn := I.hn
  have W := H.W
  have ol := o.length
  have hco : ∀ c ∈ TT.contents, c.1 ≠ stack.getD (stack.length - 1) 0 := by rw [I.co]; exact fun c hc => nomatch hc
  have hv1 : stack.getD (-1 + (stack.length : Int)).toNat 0 = stack.getD (stack.length - 1) 0 := by
    congr 1
    omega
  walk_at "nz e3"
  k_steps
  refine Hold.out ?_
  rename Fr _ _ _ _ => F9
  with_reducible refine' For_turns (m := ?m) ?F ?_ ?hs ?hE
  case F => exact F9
  case hE => first | passes_own | with_unfolding_all passes_own
  case hs => intro _; rfl
  k_whole
  k_steps
  refine Hold.out ?_
  refine' iter_tupTurns (by with_unfolding_all rfl) (by k_asm) (by k_asm) (by k_mem) rfl rfl ?_
  intro J hJ
  refine tup_cons ?_
  intro it1 h1 tk1 hit1 F1 N1
  rename Sep2 _ _ _ => S1
  rename Sep _ _ => T1
  (have hp98 := (put_it (it := it1) S1 T1 (fun p hp => Nat.ne_of_lt (hJ p hp))); have Sa1 := hp98.1; have Ta1 := hp98.2; clear hp98)
  have Na1 := put_news N1
  clear N1
  k_steps
  refine Hold.out (Tells.use (insEl2 Sa1 H (by omega) (by decide +kernel) (placeA Sa1 H.R H.B H.W (by omega) H.hst ne (by omega) rfl (.inl hf) hco) l0 l1 (.inl rfl)) (by first | k_asm | exact rfl) (by first | exact rfl | assumption) (by first | exact rfl | assumption) (by k_asm) (by k_asm) (by k_asm) (by k_asm) (by k_asm) (by walk_at "nz room") ?_)
  (refine' retA3 ?_; intro u1 v1 tkb1 hp99 h' tk' Fb1 Nb1; refine' and4 hp99 ?_; intro Sb1 H1 f1 m1; clear hp99)
  have ol1 := H1.hl
  k_steps
  refine Hold.out ?_
  rename Fr _ _ _ _ => Fc1
  rename News _ _ _ _ => Nc1
  rename Sep2 _ _ _ => Sc1
  rename Sep _ _ => Tc1
  have Dd1 := off_it Sc1 Tc1 fun p hp => Nat.ne_of_lt (hJ p (List.mem_append_right _ (List.mem_append_right _ (List.mem_append_right _ hp))))
  refine turnW_end Fc1 Nc1 mem_it sub_it Dd1 ⟨⟨by k_mem, trivial⟩, ?_⟩
  (have hp98 := (take_it Sc1 Tc1); have Sd1 := hp98.1; have Td1 := hp98.2; clear hp98)
  (try clear Sa1)
  (try clear Ta1)
  (try clear Na1)
  (try clear Sb1)
  (try clear Nb1)
  (try clear Nc1)
  (try clear Sc1)
  (try clear Tc1)
  have sl1 : (stack ++ [(n : Int)]).length = stack.length + 1 := by simp
  have iv1 := ints_snoc (t := tkb1) (y := (n : Int)) o
  refine tup_cons ?_
  intro it2 h2 tk2 hit2 F2 N2
  rename Sep2 _ _ _ => S2
  rename Sep _ _ => T2
  (have hp98 := (put_it (it := it2) S2 T2 Dd1); have Sa2 := hp98.1; have Ta2 := hp98.2; clear hp98)
  have Na2 := put_news N2
  clear N2
  k_steps
  refine Hold.out (Tells.use (insEl2 Sa2 H1 (by omega) (by decide +kernel) (placeA Sa2 H1.R H1.B H1.W (by omega) H1.hst (by simp) (by omega) last_snoc (.inl (f1.trans hf)) (show ∀ c ∈ TT.contents, c.1 ≠ (n : Int) from by rw [I.co]; exact fun c hc => nomatch hc)) (by omega) (by omega) (.inl rfl)) (by first | k_asm | exact rfl) (by first | exact rfl | assumption) (by first | exact rfl | assumption) (by k_asm) (by k_asm) (by k_asm) (by k_asm) (by k_asm) (by walk_at "nz room") ?_)
  (refine' retA3 ?_; intro u2 v2 tkb2 hp99 h' tk' Fb2 Nb2; refine' and4 hp99 ?_; intro Sb2 H2 f2 m2; clear hp99)
  have ol2 := H2.hl
  k_steps
  refine Hold.out ?_
  rename Fr _ _ _ _ => Fc2
  rename News _ _ _ _ => Nc2
  rename Sep2 _ _ _ => Sc2
  rename Sep _ _ => Tc2
  have Dd2 := off_it Sc2 Tc2 fun p hp => Nat.ne_of_lt (hJ p (List.mem_append_right _ (List.mem_append_right _ (List.mem_append_right _ hp))))
  refine turnW_end Fc2 Nc2 mem_it sub_it Dd2 ⟨⟨by k_mem, trivial⟩, ?_⟩
  (have hp98 := (take_it Sc2 Tc2); have Sd2 := hp98.1; have Td2 := hp98.2; clear hp98)
  (try clear Sa2)
  (try clear Ta2)
  (try clear Na2)
  (try clear Sb2)
  (try clear Nb2)
  (try clear Nc2)
  (try clear Sc2)
  (try clear Tc2)
  have sl2 : (stack ++ [(n : Int)] ++ [((n + 1 : Nat) : Int)]).length = stack.length + 2 := by simp
  have hv1' : (stack ++ [(n : Int)] ++ [((n + 1 : Nat) : Int)]).getD (-1 + ((stack ++ [(n : Int)] ++ [((n + 1 : Nat) : Int)]).length : Int)).toNat 0 = ((n + 1 : Nat) : Int) := by
    rw [show (-1 + ((stack ++ [(n : Int)] ++ [((n + 1 : Nat) : Int)]).length : Int)).toNat = (stack ++ [(n : Int)]).length by omega]
    exact at_snoc
  have hv2' : (stack ++ [(n : Int)] ++ [((n + 1 : Nat) : Int)]).getD (-2 + ((stack ++ [(n : Int)] ++ [((n + 1 : Nat) : Int)]).length : Int)).toNat 0 = (n : Int) := by
    rw [show (-2 + ((stack ++ [(n : Int)] ++ [((n + 1 : Nat) : Int)]).length : Int)).toNat = stack.length by omega]
    exact at_snoc2
  have hv3' : (stack ++ [(n : Int)] ++ [((n + 1 : Nat) : Int)]).getD (-3 + ((stack ++ [(n : Int)] ++ [((n + 1 : Nat) : Int)]).length : Int)).toNat 0 = stack.getD (stack.length - 1) 0 := by
    rw [show (-3 + ((stack ++ [(n : Int)] ++ [((n + 1 : Nat) : Int)]).length : Int)).toNat = stack.length - 1 by omega, getD_snoc, if_pos (by omega), getD_snoc, if_pos (by omega)]
  have iv2 := ints_snoc (t := tkb2) (y := ((n + 1 : Nat) : Int)) iv1
  refine ItemsRest.zero ?_
  intro h9 tk9 F9 N9
  (try dsimp only)
  k_steps
  rename Sep2 _ _ _ => S9
  rename Sep _ _ => T9
  refine' hret _ _ _ _ ?post ?F ?N
  case F => k_asm
  case N => k_asm
  case post => exact EndPost.mk' (u' := u2) (z' := [_, _, _, _, _, _, _, _, _])  (.head _) S9 T9 (H2.re ⟨H2.B.s, H2.B.f⟩ H2.hst H2.hl) iv2 rfl (m2.trans m1) (fin4 (by dsimp only; decide) I H)
theorem end5 {n : Nat} {e : Int} {te : Tok} (I : Pre TT n stack fmt row) (S : Sep2 (v.led w.params ad bd) (u.led w.params ad) (x.led la ++ r)) (T3 : Sep (x.led la) r) (H : St prog w ad bd z u v TT stack fmt n) (o : IntsAre x.oV stack) (hf : v.foster = false) (he : e = 5) :
    Tells prog w p loose mean mg mb 60 250 519 [.ref bd.b, .int e te, .ref la.oI] (v.led w.params ad bd ++ (u.led w.params ad ++ (x.led la ++ r))) (EndPost prog w p loose mean mg mb ad bd la z r v x fmt row) := by
  subst he
  unfold Tells
  intro A env outer A₀ base h₀ L m s Q E hA0 hf0 hk' B F X N T hR hret
  (refine' and4 (I.st H) ?_; intro hl ne l0 l1)
  have hn := I.hn
  have W := H.W
  have ol := o.length
  have hco : ∀ c ∈ TT.contents, c.1 ≠ stack.getD (stack.length - 1) 0 := by rw [I.co]; exact fun c hc => nomatch hc
  have hv1 : stack.getD (-1 + (stack.length : Int)).toNat 0 = stack.getD (stack.length - 1) 0 := by
    congr 1
    omega
  walk_at "nz e3"
  k_steps
  refine Hold.out ?_
  rename Fr _ _ _ _ => F9
  with_reducible refine' For_turns (m := ?m) ?F ?_ ?hs ?hE
  case F => exact F9
  case hE => first | passes_own | with_unfolding_all passes_own
  case hs => intro _; rfl
  k_whole
  k_steps
  refine Hold.out ?_
  refine' iter_tupTurns (by with_unfolding_all rfl) (by k_asm) (by k_asm) (by k_mem) rfl rfl ?_
  intro J hJ
  refine tup_cons ?_
  intro it1 h1 tk1 hit1 F1 N1
  rename Sep2 _ _ _ => S1
  rename Sep _ _ => T1
  (have hp98 := (put_it (it := it1) S1 T1 (fun p hp => Nat.ne_of_lt (hJ p hp))); have Sa1 := hp98.1; have Ta1 := hp98.2; clear hp98)
  have Na1 := put_news N1
  clear N1
  k_steps
  refine Hold.out (Tells.use (insEl2 Sa1 H (by omega) (by decide +kernel) (placeA Sa1 H.R H.B H.W (by omega) H.hst ne (by omega) rfl (.inl hf) hco) l0 l1 (.inl rfl)) (by first | k_asm | exact rfl) (by first | exact rfl | assumption) (by first | exact rfl | assumption) (by k_asm) (by k_asm) (by k_asm) (by k_asm) (by k_asm) (by walk_at "nz room") ?_)
  (refine' retA3 ?_; intro u1 v1 tkb1 hp99 h' tk' Fb1 Nb1; refine' and4 hp99 ?_; intro Sb1 H1 f1 m1; clear hp99)
  have ol1 := H1.hl
  k_steps
  refine Hold.out ?_
  rename Fr _ _ _ _ => Fc1
  rename News _ _ _ _ => Nc1
  rename Sep2 _ _ _ => Sc1
  rename Sep _ _ => Tc1
  have Dd1 := off_it Sc1 Tc1 fun p hp => Nat.ne_of_lt (hJ p (List.mem_append_right _ (List.mem_append_right _ (List.mem_append_right _ hp))))
  refine turnW_end Fc1 Nc1 mem_it sub_it Dd1 ⟨⟨by k_mem, trivial⟩, ?_⟩
  (have hp98 := (take_it Sc1 Tc1); have Sd1 := hp98.1; have Td1 := hp98.2; clear hp98)
  (try clear Sa1)
  (try clear Ta1)
  (try clear Na1)
  (try clear Sb1)
  (try clear Nb1)
  (try clear Nc1)
  (try clear Sc1)
  (try clear Tc1)
  have sl1 : (stack ++ [(n : Int)]).length = stack.length + 1 := by simp
  have iv1 := ints_snoc (t := tkb1) (y := (n : Int)) o
  refine tup_cons ?_
  intro it2 h2 tk2 hit2 F2 N2
  rename Sep2 _ _ _ => S2
  rename Sep _ _ => T2
  (have hp98 := (put_it (it := it2) S2 T2 Dd1); have Sa2 := hp98.1; have Ta2 := hp98.2; clear hp98)
  have Na2 := put_news N2
  clear N2
  k_steps
  refine Hold.out (Tells.use (insEl2 Sa2 H1 (by omega) (by decide +kernel) (placeA Sa2 H1.R H1.B H1.W (by omega) H1.hst (by simp) (by omega) last_snoc (.inl (f1.trans hf)) (show ∀ c ∈ TT.contents, c.1 ≠ (n : Int) from by rw [I.co]; exact fun c hc => nomatch hc)) (by omega) (by omega) (.inl rfl)) (by first | k_asm | exact rfl) (by first | exact rfl | assumption) (by first | exact rfl | assumption) (by k_asm) (by k_asm) (by k_asm) (by k_asm) (by k_asm) (by walk_at "nz room") ?_)
  (refine' retA3 ?_; intro u2 v2 tkb2 hp99 h' tk' Fb2 Nb2; refine' and4 hp99 ?_; intro Sb2 H2 f2 m2; clear hp99)
  have ol2 := H2.hl
  k_steps
  refine Hold.out ?_
  rename Fr _ _ _ _ => Fc2
  rename News _ _ _ _ => Nc2
  rename Sep2 _ _ _ => Sc2
  rename Sep _ _ => Tc2
  have Dd2 := off_it Sc2 Tc2 fun p hp => Nat.ne_of_lt (hJ p (List.mem_append_right _ (List.mem_append_right _ (List.mem_append_right _ hp))))
  refine turnW_end Fc2 Nc2 mem_it sub_it Dd2 ⟨⟨by k_mem, trivial⟩, ?_⟩
  (have hp98 := (take_it Sc2 Tc2); have Sd2 := hp98.1; have Td2 := hp98.2; clear hp98)
  (try clear Sa2)
  (try clear Ta2)
  (try clear Na2)
  (try clear Sb2)
  (try clear Nb2)
  (try clear Nc2)
  (try clear Sc2)
  (try clear Tc2)
  have sl2 : (stack ++ [(n : Int)] ++ [((n + 1 : Nat) : Int)]).length = stack.length + 2 := by simp
  have hv1' : (stack ++ [(n : Int)] ++ [((n + 1 : Nat) : Int)]).getD (-1 + ((stack ++ [(n : Int)] ++ [((n + 1 : Nat) : Int)]).length : Int)).toNat 0 = ((n + 1 : Nat) : Int) := by
    rw [show (-1 + ((stack ++ [(n : Int)] ++ [((n + 1 : Nat) : Int)]).length : Int)).toNat = (stack ++ [(n : Int)]).length by omega]
    exact at_snoc
  have hv2' : (stack ++ [(n : Int)] ++ [((n + 1 : Nat) : Int)]).getD (-2 + ((stack ++ [(n : Int)] ++ [((n + 1 : Nat) : Int)]).length : Int)).toNat 0 = (n : Int) := by
    rw [show (-2 + ((stack ++ [(n : Int)] ++ [((n + 1 : Nat) : Int)]).length : Int)).toNat = stack.length by omega]
    exact at_snoc2
  have hv3' : (stack ++ [(n : Int)] ++ [((n + 1 : Nat) : Int)]).getD (-3 + ((stack ++ [(n : Int)] ++ [((n + 1 : Nat) : Int)]).length : Int)).toNat 0 = stack.getD (stack.length - 1) 0 := by
    rw [show (-3 + ((stack ++ [(n : Int)] ++ [((n + 1 : Nat) : Int)]).length : Int)).toNat = stack.length - 1 by omega, getD_snoc, if_pos (by omega), getD_snoc, if_pos (by omega)]
  have iv2 := ints_snoc (t := tkb2) (y := ((n + 1 : Nat) : Int)) iv1
  refine ItemsRest.zero ?_
  intro h9 tk9 F9 N9
  (try dsimp only)
  k_steps
  rename Sep2 _ _ _ => S9
  rename Sep _ _ => T9
  refine' hret _ _ _ _ ?post ?F ?N
  case F => k_asm
  case N => k_asm
  case post => exact EndPost.mk' (u' := u2) (z' := [_, _, _, _, _, _, _, _, _])  (.head _) S9 T9 (H2.re ⟨H2.B.s, H2.B.f⟩ H2.hst H2.hl) iv2 rfl (m2.trans m1) (fin5 (by dsimp only; decide) I H)
theorem end_ {n : Nat} {e : Int} {te : Tok} (I : Pre TT n stack fmt row) (S : Sep2 (v.led w.params ad bd) (u.led w.params ad) (x.led la ++ r)) (T3 : Sep (x.led la) r) (H : St prog w ad bd z u v TT stack fmt n) (o : IntsAre x.oV stack) (hf : v.foster = false) (h0 : 0 ≤ e) (h6 : e < 6) :
    Tells prog w p loose mean mg mb 60 250 519 [.ref bd.b, .int e te, .ref la.oI] (v.led w.params ad bd ++ (u.led w.params ad ++ (x.led la ++ r))) (EndPost prog w p loose mean mg mb ad bd la z r v x fmt row) := by
  have h : e = 0 ∨ e = 1 ∨ e = 2 ∨ e = 3 ∨ e = 4 ∨ e = 5 := by omega
  rcases h with h | h | h | h | h | h
  · exact end0 I S T3 H o hf h
  · exact end1 I S T3 H o hf h
  · exact end2 I S T3 H o hf h
  · exact end3 I S T3 H o hf h
  · exact end4 I S T3 H o hf h
  · exact end5 I S T3 H o hf h
end
theorem rows63 : True := by
  (k_with "nz:newList" => ((k_here; k_dflt (refine' new_list2 ?zqk1 ?zqk2 ?zqk3 ?zqk6 ?_; (case zqk1 => k_asm); (case zqk2 => k_asm); (case zqk3 => with_reducible assumption); (case zqk6 => exact Nat.le_of_ble_eq_true rfl); k_whole); intro _ _ _ _ _; k_sweep)))
  trivial
section
variable {prog : Program} {w : World} {p : Program} {loose : List Str} {mean : ExcName → Option Value} {mg mb : Str → Option Value} {ad : TAd} {bd : BAd} {u : TRaw} {v : BRaw} {r : Led}
def allRefs (ad : TAd) (bd : BAd) : List Value := [.ref bd.sI, .ref bd.fI, .ref bd.eI, .ref ad.kI, .ref ad.spI, .ref ad.nI, .ref ad.aI, .ref ad.xI, .ref ad.pI, .ref ad.cI, .ref ad.coI]
theorem all_ (S : Sep2 (v.led w.params ad bd) (u.led w.params ad) r) :
    Tells prog w p loose mean mg mb 5 30 526 [.ref bd.b] (v.led w.params ad bd ++ (u.led w.params ad ++ r))
      (fun x l' => ∃ D, x = .ref D ∧ l' = v.led w.params ad bd ++ (u.led w.params ad ++ (D, lsOf (allRefs ad bd) 0) :: r) ∧ Sep2 (v.led w.params ad bd) (u.led w.params ad) ((D, lsOf (allRefs ad bd) 0) :: r)) := by
  unfold Tells
  intro A env outer A₀ base h₀ L m s Q E hA0 hf0 hk' B F X N T hR hret
  walk_at "nz e1"
  k_steps
  exact hret _ _ _ _ ⟨_, rfl, rfl, by k_asm⟩ (by k_asm) (by k_asm)
end
theorem rows64 : True := by
  k_with_none
  (k_with "nz:omega" => ((k_whole; first | with_reducible assumption | exact Nat.le_refl _ | exact Nat.zero_le _ | exact Nat.le_trans (by with_reducible assumption) (Nat.le_of_ble_eq_true rfl) | exact Nat.ne_of_lt (by with_reducible assumption) | exact Nat.ne_of_gt (by with_reducible assumption) | exact Nat.le_of_lt (by with_reducible assumption) | (with_reducible exact Nz.tnlt0 (by assumption) (by assumption)) | (with_reducible exact Nz.tnlt (by assumption) (by assumption) (by assumption)) | (with_reducible exact Nat.sub_one_lt_of_lt (by assumption)) | (with_reducible exact Nz.lec (by assumption) (by assumption) (Eq.refl true)) | (with_reducible exact Nz.up_le (by assumption) (Eq.refl true)) | (with_reducible exact Nz.n_up) | (with_reducible exact Nz.lt_up (by assumption)) | (with_reducible exact Nz.pa1 (by assumption)) | (with_reducible exact Nz.pa2 (by assumption)) | (with_reducible exact Nz.pa3 (by assumption)) | (with_reducible exact Nz.pa4 (by assumption)) | (with_reducible exact Nat.pred_lt (by assumption)) | (with_reducible exact Nz.kltc (by assumption) (by assumption) (by decide)) | (with_reducible exact Nz.tnm1) | (with_reducible exact Nz.tnx (by assumption)) | (with_reducible exact Nz.tn1 (by assumption)) | (with_reducible exact Nz.tn2 (by assumption)) | (with_reducible exact Nz.tn2m (by assumption)) | (with_reducible exact Nz.tn3m (by assumption)) | (with_reducible exact Nz.m1lt (by assumption)) | lia)))
  (k_with "nz:k_mem" => (((show (_ : Addr × Obj) ∈ (_ : List (Addr × Obj))); (with_reducible show _ ∈ _ ++ _); first | (with_reducible exact List.mem_append_right _ (List.Mem.head _)) | (refine' List.mem_append_left _ ?_; k_mem) | (refine' List.mem_append_right _ ?_; k_mem))))
  (k_with "nz:k_mem" => (((show (_ : Addr × Obj) ∈ (_ : List (Addr × Obj))); (with_reducible show _ ∈ TRaw.led _ _ _); first | exact KidAt.mem (by with_reducible assumption) | exact AttrAt.mem (by with_reducible assumption))))
  (k_with "nz:size_fits" => (((try simp only [List.length_append, List.length_cons, List.length_nil, refs_length]); first | omega | (rw [sizeLine_eq]; omega))))
  (k_with "nz:call builtin:list.append" => ((k_here; (with_reducible show wpAny _ _ (call (Value.builtin _) [Value.ref _, _]) _ _ _); k_dflt (first | (refine' app_kI ?zqk1 ?zqk2 ?zqk3 ?zqk4 ?_; (case zqk1 => k_asm); (case zqk2 => k_asm); (case zqk3 => k_asm); (case zqk4 => size_fits); k_whole) | (refine' app_spI ?zqk1 ?zqk2 ?zqk3 ?zqk4 ?_; (case zqk1 => k_asm); (case zqk2 => k_asm); (case zqk3 => k_asm); (case zqk4 => size_fits); k_whole) | (refine' app_nI ?zqk1 ?zqk2 ?zqk3 ?zqk4 ?_; (case zqk1 => k_asm); (case zqk2 => k_asm); (case zqk3 => k_asm); (case zqk4 => size_fits); k_whole) | (refine' app_aI ?zqk1 ?zqk2 ?zqk3 ?zqk5 ?zqk4 ?_; (case zqk1 => k_asm); (case zqk2 => k_asm); (case zqk3 => k_asm); (case zqk4 => size_fits); (case zqk5 => k_asm); k_whole) | (refine' app_xI ?zqk1 ?zqk2 ?zqk3 ?zqk4 ?_; (case zqk1 => k_asm); (case zqk2 => k_asm); (case zqk3 => k_asm); (case zqk4 => size_fits); k_whole) | (refine' app_pI ?zqk1 ?zqk2 ?zqk3 ?zqk4 ?_; (case zqk1 => k_asm); (case zqk2 => k_asm); (case zqk3 => k_asm); (case zqk4 => size_fits); k_whole) | (refine' app_cI ?zqk1 ?zqk2 ?zqk3 ?zqk5 ?zqk4 ?_; (case zqk1 => k_asm); (case zqk2 => k_asm); (case zqk3 => k_asm); (case zqk4 => size_fits); (case zqk5 => k_asm); k_whole)); intro _ _ _ _; k_sweep)))
  (k_with "nz:call builtin:list.append" => ((k_here; (with_reducible show wpAny _ _ (call (Value.builtin _) [Value.ref _, _]) _ _ _); k_dflt (refine' priv_append ?zqk1 ?zqk2 ?zqk3 ?zqk4 ?zqk5 ?_; (case zqk1 => k_asm); (case zqk2 => with_reducible assumption); (case zqk3 => with_reducible assumption); (case zqk4 => with_reducible assumption); (case zqk5 => size_fits); k_whole); intro _ _ _ _; k_sweep)))
  (k_with "nz:call type:list" => ((k_here; k_dflt (refine' list_of_tup ?zqk1 ?zqk2 ?zqk3 ?zqk4 ?zqk5 ?zqk6 ?_; (case zqk1 => k_asm); (case zqk2 => k_asm); (case zqk3 => k_asm); (case zqk4 => k_asm); (case zqk5 => exact TupIn.mono (by k_asm) (fun _ hq => List.mem_append_right _ hq)); (case zqk6 => size_fits); k_whole); intro _ _ _ _ _ _ _; k_sweep)))
  (k_with "nz:newList" => ((k_here; k_dflt (refine' new_list ?zqk1 ?zqk2 ?zqk3 ?zqk6 ?_; (case zqk1 => k_asm); (case zqk2 => k_asm); (case zqk3 => k_asm); (case zqk6 => first | exact Nat.le_of_ble_eq_true rfl | size_fits); k_whole); intro _ _ _ _ _ _; k_sweep)))
  (k_with "nz:call builtin:len" => ((k_here; (with_reducible show wpAny _ _ (call (Value.builtin _) [Value.ref _]) _ _ _); k_dflt (refine' len_led ?zqk1 ?zqk2 ?zqk3 ?_; (case zqk1 => k_asm); (case zqk2 => k_mem); (case zqk3 => size_fits); k_whole); intro _ _)))
  (k_with "nz:nz en1" => ((refine' enter_ (by k_asm) (by first | exact rfl | assumption) (by first | exact rfl | assumption) (by k_asm) (by k_asm) (by k_asm) (by k_asm) (by k_asm) (by k_asm) (Nat.le_of_ble_eq_true rfl) (Nat.le_of_ble_eq_true rfl) (by k_is) (by k_is) ?_ ?_ ?_ ?_ ?_ ?_ ?_; rotate_left)))
  (k_with "nz:nz en2" => ((exact locs rfl; exact rfl; exact rfl; exact rfl; decide; k_whole; intro _ _ _ _ _ _ _ _ _ _ _ _; (try dsimp only); (with_reducible show wpAny _ _ _ _ _ _))))
  (k_with "nz:nz room" => (first | exact Room.mono (by assumption) (Nat.le_of_ble_eq_true rfl) (Nat.le_of_ble_eq_true rfl) | exact ⟨rfl, by ktr_room, by ktr_units⟩))
  (k_with "nz:RetK" => (((refine retK_ (by k_asm) (by k_asm) ?_); intro zzkF zzkN; ground_anew zzkF; (have zzkX := kFor zzkF (by k_asm)); (try dsimp only))))
  (k_with "nz:nz e1" => ((walk_at "nz en1"; exact BindsTo.of_eq (binds := [(_, _)]) rfl; walk_at "nz en2")))
  (k_with "nz:nz d1" => ((walk_at "nz en1"; exact binds_K (binds := [(_, _)]) (by k_in) rfl (by k_is) rfl rfl rfl; walk_at "nz en2")))
  (k_with "nz:nz e2" => ((walk_at "nz en1"; exact BindsTo.of_eq (binds := [(_, _), (_, _)]) rfl; walk_at "nz en2")))
  (k_with "nz:nz d2" => ((walk_at "nz en1"; exact binds_K (binds := [(_, _), (_, _)]) (by k_in) rfl (by k_is) rfl rfl rfl; walk_at "nz en2")))
  (k_with "nz:nz e3" => ((walk_at "nz en1"; exact BindsTo.of_eq (binds := [(_, _), (_, _), (_, _)]) rfl; walk_at "nz en2")))
  (k_with "nz:nz d3" => ((walk_at "nz en1"; exact binds_K (binds := [(_, _), (_, _), (_, _)]) (by k_in) rfl (by k_is) rfl rfl rfl; walk_at "nz en2")))
  (k_with "nz:nz e4" => ((walk_at "nz en1"; exact BindsTo.of_eq (binds := [(_, _), (_, _), (_, _), (_, _)]) rfl; walk_at "nz en2")))
  (k_with "nz:nz d4" => ((walk_at "nz en1"; exact binds_K (binds := [(_, _), (_, _), (_, _), (_, _)]) (by k_in) rfl (by k_is) rfl rfl rfl; walk_at "nz en2")))
  (k_with "nz:nz e5" => ((walk_at "nz en1"; exact BindsTo.of_eq (binds := [(_, _), (_, _), (_, _), (_, _), (_, _)]) rfl; walk_at "nz en2")))
  (k_with "nz:nz d5" => ((walk_at "nz en1"; exact binds_K (binds := [(_, _), (_, _), (_, _), (_, _), (_, _)]) (by k_in) rfl (by k_is) rfl rfl rfl; walk_at "nz en2")))
  (k_with "nz:nz e6" => ((walk_at "nz en1"; exact BindsTo.of_eq (binds := [(_, _), (_, _), (_, _), (_, _), (_, _), (_, _)]) rfl; walk_at "nz en2")))
  (k_with "nz:nz d6" => ((walk_at "nz en1"; exact binds_K (binds := [(_, _), (_, _), (_, _), (_, _), (_, _), (_, _)]) (by k_in) rfl (by k_is) rfl rfl rfl; walk_at "nz en2")))
  (k_with "nz:call ref" => ((k_here; (with_reducible show wpAny _ _ (call (Value.ref _) _) _ _ _); k_dflt (first | walk_at "nz e2" | walk_at "nz e1" | walk_at "nz e3" | walk_at "nz d4" | walk_at "nz d2" | walk_at "nz d3"))))
  (k_with "nz:eval Name" => ((k_here; k_dflt (refine' ld ?zqk1 ?zqk2 ?_; (case zqk1 => k_asm); (case zqk2 => walk_at "nz look"); k_whole))))
  (k_with "nz:callWith" => (((with_reducible show wpAny _ _ (callWith _ (Value.builtin _) [Value.ref _] _ []) _ _ _); k_dflt (refine callWith_method1 ?_))))
  (k_with "nz:callWith" => (((with_reducible show wpAny _ _ (callWith _ (Value.builtin _) [] _ []) _ _ _); k_dflt (refine callWith_builtin1 ?_))))
  (k_with "nz:callWith ref" => ((k_here; k_dflt (first | (refine' callWith_K ?zqk1 ?zqk2 ?_; (case zqk1 => k_asm); (case zqk2 => k_is); k_whole) | (refine' callWith_K0 ?zqk1 ?zqk2 ?_; (case zqk1 => k_in); (case zqk2 => k_is); k_whole; (try dsimp only [List.append_nil]))))))
  (k_with "nz:getAttr ref" => ((k_here; k_dflt (refine' get_own ?zqk1 ?zqk2 ?zqk3 ?zqk4 ?zqk5 ?zqk6 ?zqk7 ?zqk8 ?zqk9 ?_; (case zqk1 => k_asm); (case zqk2 => k_asm); (case zqk3 => k_inst); (case zqk4 => k_is); (case zqk5 => k_is); (case zqk6 => k_is); (case zqk7 => k_is); (case zqk8 => k_get); (case zqk9 => k_handed); k_whole))))
  (k_with "nz:getMethod ref" => ((k_here; k_dflt (refine' method_inst ?zqk1 ?zqk2 ?zqk3 ?zqk4 ?zqk5 ?zqk6 ?zqk7 ?_; (case zqk1 => k_asm); (case zqk2 => k_asm); (case zqk3 => k_inst); (case zqk4 => k_is); (case zqk5 => k_is); (case zqk6 => k_is); (case zqk7 => k_get); k_whole))))
  (k_with "nz:getMethod ref" => (((with_reducible show wpAny _ _ (getMethod (Value.ref _) (PySem.Str.ofString "pop") _) _ _ _); k_dflt (refine' kl_method ?zqk1 ?zqk2 PySem.F.slot_list_pop PySem.F.type_list_pop ?_; (case zqk1 => k_asm); (case zqk2 => k_mem); k_whole))))
  (k_with "nz:getMethod ref" => (((with_reducible show wpAny _ _ (getMethod (Value.ref _) (PySem.Str.ofString "index") _) _ _ _); k_dflt (refine' kl_method ?zqk1 ?zqk2 PySem.F.slot_list_index PySem.F.type_list_index ?_; (case zqk1 => k_asm); (case zqk2 => k_mem); k_whole))))
  (k_with "nz:getMethod ref" => (((with_reducible show wpAny _ _ (getMethod (Value.ref _) (PySem.Str.ofString "remove") _) _ _ _); k_dflt (refine' kl_method ?zqk1 ?zqk2 PySem.F.slot_list_remove PySem.F.type_list_remove ?_; (case zqk1 => k_asm); (case zqk2 => k_mem); k_whole))))
  (k_with "nz:getMethod ref" => (((with_reducible show wpAny _ _ (getMethod (Value.ref _) (PySem.Str.ofString "insert") _) _ _ _); k_dflt (refine' kl_method ?zqk1 ?zqk2 PySem.F.slot_list_insert PySem.F.type_list_insert ?_; (case zqk1 => k_asm); (case zqk2 => k_mem); k_whole))))
  (k_with "nz:getMethod ref" => (((with_reducible show wpAny _ _ (getMethod (Value.ref _) (PySem.Str.ofString "append") _) _ _ _); k_dflt (refine' kl_method ?zqk1 ?zqk2 PySem.F.slot_list_append PySem.F.type_list_append ?_; (case zqk1 => k_asm); (case zqk2 => k_mem); k_whole))))
  (k_with "nz:subscriptTail Attribute" => ((k_here; (with_reducible show wpAny _ _ (subscriptTail _ _ (Value.ref (TAd.pI _)) (Value.int _ _)) _ _ _); k_dflt (refine' sub_pI ?zqk1 ?zqk2 ?zqk3 ?zqk4 ?zqk5 ?zqk6 ?_ ?zqk7; (case zqk1 => with_reducible assumption); (case zqk2 => k_asm); (case zqk3 => k_mem); (case zqk4 => omega); (case zqk5 => omega); (case zqk6 => omega); (case zqk7 => with_unfolding_all rfl); k_whole; intro _))))
  (k_with "nz:subscriptTail Attribute" => ((k_here; (with_reducible show wpAny _ _ (subscriptTail _ _ (Value.ref (TAd.spI _)) (Value.int _ _)) _ _ _); k_dflt (refine' sub_spI ?zqk1 ?zqk2 ?zqk3 ?zqk4 ?zqk5 ?zqk6 ?_ ?zqk7; (case zqk1 => with_reducible assumption); (case zqk2 => k_asm); (case zqk3 => k_mem); (case zqk4 => omega); (case zqk5 => omega); (case zqk6 => omega); (case zqk7 => with_unfolding_all rfl); k_whole; intro _))))
  (k_with "nz:subscriptTail Attribute" => ((k_here; (with_reducible show wpAny _ _ (subscriptTail _ _ (Value.ref (TAd.nI _)) (Value.int _ _)) _ _ _); k_dflt (refine' sub_nI ?zqk1 ?zqk2 ?zqk3 ?zqk4 ?zqk5 ?zqk6 ?_ ?zqk7; (case zqk1 => with_reducible assumption); (case zqk2 => k_asm); (case zqk3 => k_mem); (case zqk4 => omega); (case zqk5 => omega); (case zqk6 => omega); (case zqk7 => with_unfolding_all rfl); k_whole; intro _))))
  (k_with "nz:subscriptTail Attribute" => ((k_here; (with_reducible show wpAny _ _ (subscriptTail _ _ (Value.ref (TAd.cI _)) (Value.int _ _)) _ _ _); k_dflt (refine' sub_cI ?zqk1 ?zqk2 ?zqk3 ?zqk4 ?zqk5 ?zqk6 ?zqk8 ?_ ?zqk7; (case zqk1 => with_reducible assumption); (case zqk2 => k_asm); (case zqk3 => k_mem); (case zqk4 => omega); (case zqk5 => omega); (case zqk6 => omega); (case zqk8 => with_reducible assumption); (case zqk7 => with_unfolding_all rfl); k_whole; intro _ _ _ _ _ _))))
  (k_with "nz:subscriptTail Attribute" => ((k_here; (with_reducible show wpAny _ _ (subscriptTail _ _ (Value.ref (TAd.aI _)) (Value.int _ _)) _ _ _); k_dflt (refine' sub_aI ?zqk1 ?zqk2 ?zqk3 ?zqk4 ?zqk5 ?zqk6 ?zqk8 ?_ ?zqk7; (case zqk1 => with_reducible assumption); (case zqk2 => k_asm); (case zqk3 => k_mem); (case zqk4 => omega); (case zqk5 => omega); (case zqk6 => omega); (case zqk8 => with_reducible assumption); (case zqk7 => with_unfolding_all rfl); k_whole; intro _ _ _ _ _ _))))
  (k_with "nz:nz look" => (first | exact rfl | with_reducible assumption | (refine' Eq.trans (if_neg ?zqnl) ?zqnk; (case zqnl => decide); (case zqnk => walk_at "nz look"))))
  (k_with "nz:exec While" => (refine Hold.mk' ?_))
  (k_with "nz:WEnd" => (dsimp only [WEnd]))
  (k_with "nz:forall" => ((first | (with_reducible show (_ = true) → _) | (with_reducible show (_ = false) → _)); intro zzhb; (try simp only [bne_iff_ne, ne_eq, beq_iff_eq, beq_eq_false_iff_ne, bne_eq_false_iff_eq, Bool.not_eq_true', Bool.not_eq_false', Bool.and_eq_true, Bool.or_eq_true, Bool.and_eq_false_iff, Bool.or_eq_false_iff, decide_eq_true_eq, decide_eq_false_iff_not, Decidable.not_not] at zzhb); (first | (exfalso; omega) | contradiction | exact Bool.noConfusion (zzhb.symm.trans (by with_reducible assumption : _ = false)) | exact Bool.noConfusion (zzhb.symm.trans (by with_reducible assumption : _ = true)) | skip)))
  (k_with "nz:ite" => ((k_here; first
  | (k_closed; k_dflt (first | refine ite_pos (by decide) ?_ | refine ite_neg (by decide) ?_))
  | with_reducible refine ite_tt ?_
  | with_reducible refine ite_ff ?_
  | (refine split_bool (fun zzhb => ?_) (fun zzhb => ?_); (all_goals (try simp only [bne_iff_ne, ne_eq, beq_iff_eq, beq_eq_false_iff_ne, bne_eq_false_iff_eq, Bool.not_eq_true', Bool.not_eq_false', Bool.and_eq_true, Bool.or_eq_true, Bool.and_eq_false_iff, Bool.or_eq_false_iff, decide_eq_true_eq, decide_eq_false_iff_not, Decidable.not_not] at zzhb)); (all_goals (first | (exfalso; omega) | contradiction | exact Bool.noConfusion (zzhb.symm.trans (by with_reducible assumption : _ = false)) | exact Bool.noConfusion (zzhb.symm.trans (by with_reducible assumption : _ = true)) | skip))))))
  (k_with "nz:call ref" => (((with_reducible show wpAny _ _ (call (Value.ref 318) _) _ _ _); refine Hold.mk' ?_)))
  (k_with "nz:call ref" => (((with_reducible show wpAny _ _ (call (Value.ref 327) _) _ _ _); refine Hold.mk' ?_)))
  (k_with "nz:call ref" => (((with_reducible show wpAny _ _ (call (Value.ref 356) _) _ _ _); refine Hold.mk' ?_)))
  (k_with "nz:call ref" => (((with_reducible show wpAny _ _ (call (Value.ref 363) _) _ _ _); refine Hold.mk' ?_)))
  (k_with "nz:call ref" => (((with_reducible show wpAny _ _ (call (Value.ref 370) _) _ _ _); refine Hold.mk' ?_)))
  (k_with "nz:call ref" => (((with_reducible show wpAny _ _ (call (Value.ref 398) _) _ _ _); refine Hold.mk' ?_)))
  (k_with "nz:call ref" => (((with_reducible show wpAny _ _ (call (Value.ref 405) _) _ _ _); refine Hold.mk' ?_)))
  (k_with "nz:call ref" => (((with_reducible show wpAny _ _ (call (Value.ref 419) _) _ _ _); refine Hold.mk' ?_)))
  (k_with "nz:call ref" => (((with_reducible show wpAny _ _ (call (Value.ref 190) _) _ _ _); refine Hold.mk' ?_)))
  (k_with "nz:call ref" => (((with_reducible show wpAny _ _ (call (Value.ref 35) _) _ _ _); refine Hold.mk' ?_)))
  (k_with "nz:call ref" => (((with_reducible show wpAny _ _ (call (Value.ref 43) _) _ _ _); refine Hold.mk' ?_)))
  (k_with "nz:call ref" => (((with_reducible show wpAny _ _ (call (Value.ref 60) _) _ _ _); refine Hold.mk' ?_)))
  (k_with "nz:call ref" => (((with_reducible show wpAny _ _ (call (Value.ref 67) _) _ _ _); refine Hold.mk' ?_)))
  (k_with "nz:call ref" => (((with_reducible show wpAny _ _ (call (Value.ref 498) _) _ _ _); refine Hold.mk' ?_)))
  (k_with "nz:call ref" => (((with_reducible show wpAny _ _ (call (Value.ref 505) _) _ _ _); refine Hold.mk' ?_)))
  (k_with "nz:call ref" => (((with_reducible show wpAny _ _ (call (Value.ref 512) _) _ _ _); refine Hold.mk' ?_)))
  (k_with "nz:call ref" => (((with_reducible show wpAny _ _ (call (Value.ref 519) _) _ _ _); refine Hold.mk' ?_)))
  (k_with "nz:call ref" => (((with_reducible show wpAny _ _ (call (Value.ref 526) _) _ _ _); refine Hold.mk' ?_)))
  (k_with "nz:call ref" => (((with_reducible show wpAny _ _ (call (Value.ref 531) _) _ _ _); refine Hold.mk' ?_)))
  (k_with "nz:call ref" => (((with_reducible show wpAny _ _ (call (Value.ref 120) _) _ _ _); refine Hold.mk' ?_)))
  (k_with "nz:nz ints" => (first | with_reducible assumption | exact KidAt.iv (by with_reducible assumption) | exact TAbs.p (by with_reducible assumption)))
  (k_with "nz:compareOp In int ref" => ((k_here; k_dflt (refine' in_ints ?zqk1 ?zqk2 ?zqk3 ?_; (case zqk1 => k_asm); (case zqk2 => k_mem); (case zqk3 => walk_at "nz ints"); k_whole))))
  (k_with "nz:compareOp NotIn int ref" => ((k_here; k_dflt (refine' notin_ints ?zqk1 ?zqk2 ?zqk3 ?_; (case zqk1 => k_asm); (case zqk2 => k_mem); (case zqk3 => walk_at "nz ints"); k_whole))))
  (k_with "nz:call builtin:list.index" => ((k_here; k_dflt (refine' index_ints ?zqk1 ?zqk2 ?zqk3 ?zqk4 ?zqk5 ?_; (case zqk1 => k_asm); (case zqk2 => k_mem); (case zqk3 => walk_at "nz ints"); (case zqk4 => k_asm); (case zqk5 => omega); k_whole); intro _)))
  (k_with "nz:call builtin:list.insert" => ((k_here; k_dflt (refine' ins_kid ?zqk1 ?zqk2 ?zqk3 ?zqk4 ?zqk5 ?zqk6 ?zqk7 ?_; (case zqk1 => with_reducible assumption); (case zqk2 => k_asm); (case zqk3 => with_reducible assumption); (case zqk4 => with_reducible assumption); (case zqk5 => omega); (case zqk6 => omega); (case zqk7 => omega); k_whole); intro _ _ _ _ _; k_sweep)))
  (k_with "nz:setItem ref int" => ((k_here; (with_reducible show wpAny _ _ (setItem (Value.ref (TAd.pI _)) _ _) _ _ _); k_dflt (refine' set_pI ?zqk2 ?zqk3 ?zqk4 ?zqk5 ?zqk6 ?zqk7 ?_; (case zqk2 => k_asm); (case zqk3 => with_reducible assumption); (case zqk4 => with_reducible assumption); (case zqk5 => omega); (case zqk6 => (try dsimp only); omega); (case zqk7 => (try dsimp only); omega); k_whole); intro _ _ _ _ _; k_sweep)))
  (k_with "nz:setItem ref int" => ((k_here; (with_reducible show wpAny _ _ (setItem (Value.ref (TAd.coI _)) _ _) _ _ _); k_dflt (refine' co_set ?zqk2 ?zqk3 ?zqk4 ?zqk5 ?zqk6 ?zqk7 ?_; (case zqk2 => k_asm); (case zqk3 => with_reducible assumption); (case zqk4 => with_reducible assumption); (case zqk5 => exact TAbs.co (by with_reducible assumption)); (case zqk6 => assumption); (case zqk7 => (try dsimp only [Tr.add]); omega); k_whole); intro _ _ _ _ _ _; k_sweep)))
  (k_with "nz:nz forV" => ((k_here; (rename Fr _ _ _ _ => zzlF'); (with_unfolding_all refine' For_invVF zzlF' ?zqk1 ?zqk2 ?_; (case zqk1 => exact rfl); (case zqk2 => exact rfl); k_whole))))
  (k_with "nz:exec For Name Name cons nil" => (walk_at "nz forV"))
  (k_with "nz:exec For Name Call cons nil" => (walk_at "nz forV"))
  (k_with "nz:exec For Name Subscript cons nil" => (walk_at "nz forV"))
  (k_with "nz:exec For Name Attribute cons nil" => (walk_at "nz forV"))
  (k_with "nz:pyIter ref" => (refine Hold.mk' ?_))
  (k_with "nz:eval ListComp" => (refine Hold.mk' ?_))
  (k_with "nz:exec Assign cons ListComp" => (refine Hold.mk' ?_))
  (k_with "nz:subscriptTail Name Constant" => ((k_here; (with_reducible show wpAny _ _ (subscriptTail _ _ (Value.ref _) (Value.int _ _)) _ _ _); k_dflt (refine' tup_at ?zqk1 ?zqk2 ?zqk3 ?zqk4 ?zqk5 ?_ ?zqk7; (case zqk1 => k_asm); (case zqk2 => k_mem); (case zqk3 => decide); (case zqk4 => decide); (case zqk5 => rfl); (case zqk7 => with_unfolding_all rfl); k_whole))))
  (k_with "nz:subscriptTail Name" => ((k_here; (with_reducible show wpAny _ _ (subscriptTail _ _ (Value.ref _) (Value.int _ _)) _ _ _); k_dflt (refine' tup_at ?zqk1 ?zqk2 ?zqk3 ?zqk4 ?zqk5 ?_ ?zqk7; (case zqk1 => k_asm); (case zqk2 => k_mem); (case zqk3 => decide); (case zqk4 => decide); (case zqk5 => rfl); (case zqk7 => with_unfolding_all rfl); k_whole))))
  (k_with "nz:subscriptTail Attribute" => ((k_here; (with_reducible show wpAny _ _ (subscriptTail _ _ (Value.ref (BAd.sI _)) (Value.int _ _)) _ _ _); k_dflt (refine' sub_sI ?zqk1 ?zqk2 ?zqk3 ?zqk4 ?zqk5 ?zqk6 ?_ ?zqk7; (case zqk1 => with_reducible assumption); (case zqk2 => k_asm); (case zqk3 => k_mem); (case zqk4 => omega); (case zqk5 => omega); (case zqk6 => omega); (case zqk7 => with_unfolding_all rfl); k_whole; intro _))))
  (k_with "nz:subscriptTail Name" => ((k_here; (with_reducible show wpAny _ _ (subscriptTail _ _ (Value.ref (BAd.sI _)) (Value.int _ _)) _ _ _); k_dflt (refine' sub_sI ?zqk1 ?zqk2 ?zqk3 ?zqk4 ?zqk5 ?zqk6 ?_ ?zqk7; (case zqk1 => with_reducible assumption); (case zqk2 => k_asm); (case zqk3 => k_mem); (case zqk4 => omega); (case zqk5 => omega); (case zqk6 => omega); (case zqk7 => with_unfolding_all rfl); k_whole; intro _))))
  (k_with "nz:subscriptTail Attribute" => ((k_here; (with_reducible show wpAny _ _ (subscriptTail _ _ (Value.ref (BAd.fI _)) (Value.int _ _)) _ _ _); k_dflt (refine' sub_fI ?zqk1 ?zqk2 ?zqk3 ?zqk4 ?zqk5 ?zqk6 ?_ ?zqk7; (case zqk1 => with_reducible assumption); (case zqk2 => k_asm); (case zqk3 => k_mem); (case zqk4 => omega); (case zqk5 => omega); (case zqk6 => omega); (case zqk7 => with_unfolding_all rfl); k_whole; intro _))))
  (k_with "nz:subscriptTail Name" => ((k_here; (with_reducible show wpAny _ _ (subscriptTail _ _ (Value.ref (BAd.fI _)) (Value.int _ _)) _ _ _); k_dflt (refine' sub_fI ?zqk1 ?zqk2 ?zqk3 ?zqk4 ?zqk5 ?zqk6 ?_ ?zqk7; (case zqk1 => with_reducible assumption); (case zqk2 => k_asm); (case zqk3 => k_mem); (case zqk4 => omega); (case zqk5 => omega); (case zqk6 => omega); (case zqk7 => with_unfolding_all rfl); k_whole; intro _))))
  (k_with "nz:call builtin:list.append" => ((k_here; (with_reducible show wpAny _ _ (call (Value.builtin _) [Value.ref (BAd.sI _), _]) _ _ _); k_dflt (refine' app_sI ?zqk1 ?zqk2 ?zqk3 ?zqk4 ?_; (case zqk1 => k_asm); (case zqk2 => with_reducible assumption); (case zqk3 => with_reducible assumption); (case zqk4 => size_fits); k_whole); intro _ _ _ _; k_sweep)))
  (k_with "nz:call builtin:list.append" => ((k_here; (with_reducible show wpAny _ _ (call (Value.builtin _) [Value.ref (BAd.fI _), _]) _ _ _); k_dflt (refine' app_fI ?zqk1 ?zqk2 ?zqk3 ?zqk4 ?_; (case zqk1 => k_asm); (case zqk2 => with_reducible assumption); (case zqk3 => with_reducible assumption); (case zqk4 => size_fits); k_whole); intro _ _ _ _; k_sweep)))
  (k_with "nz:newTuple" => ((k_here; k_dflt (refine' new_tuple2 ?zqk1 ?zqk2 ?zqk3 ?zqk4 ?_; (case zqk1 => k_asm); (case zqk2 => with_reducible assumption); (case zqk3 => with_reducible assumption); (case zqk4 => exact Nat.le_of_ble_eq_true rfl); k_whole); intro _ _ _ _ _ _; k_sweep)))
  (k_with "nz:subscriptTail Attribute" => ((k_here; (with_reducible show wpAny _ _ (subscriptTail _ _ (Value.ref (BAd.sI _)) (Value.int (Nat.cast _) _)) _ _ _); k_dflt (refine' sub_sIn ?zqk1 ?zqk2 ?zqk3 ?zqk5 ?zqk6 ?_ ?zqk7; (case zqk1 => with_reducible assumption); (case zqk2 => k_asm); (case zqk3 => k_mem); (case zqk5 => omega); (case zqk6 => omega); (case zqk7 => with_unfolding_all rfl); k_whole; intro _))))
  (k_with "nz:subscriptTail Name" => ((k_here; (with_reducible show wpAny _ _ (subscriptTail _ _ (Value.ref (BAd.sI _)) (Value.int (Nat.cast _) _)) _ _ _); k_dflt (refine' sub_sIn ?zqk1 ?zqk2 ?zqk3 ?zqk5 ?zqk6 ?_ ?zqk7; (case zqk1 => with_reducible assumption); (case zqk2 => k_asm); (case zqk3 => k_mem); (case zqk5 => omega); (case zqk6 => omega); (case zqk7 => with_unfolding_all rfl); k_whole; intro _))))
  (k_with "nz:subscriptTail Attribute" => ((k_here; (with_reducible show wpAny _ _ (subscriptTail _ _ (Value.ref (BAd.fI _)) (Value.int (Nat.cast _) _)) _ _ _); k_dflt (refine' sub_fIn ?zqk1 ?zqk2 ?zqk3 ?zqk5 ?zqk6 ?_ ?zqk7; (case zqk1 => with_reducible assumption); (case zqk2 => k_asm); (case zqk3 => k_mem); (case zqk5 => omega); (case zqk6 => omega); (case zqk7 => with_unfolding_all rfl); k_whole; intro _))))
  (k_with "nz:subscriptTail Name" => ((k_here; (with_reducible show wpAny _ _ (subscriptTail _ _ (Value.ref (BAd.fI _)) (Value.int (Nat.cast _) _)) _ _ _); k_dflt (refine' sub_fIn ?zqk1 ?zqk2 ?zqk3 ?zqk5 ?zqk6 ?_ ?zqk7; (case zqk1 => with_reducible assumption); (case zqk2 => k_asm); (case zqk3 => k_mem); (case zqk5 => omega); (case zqk6 => omega); (case zqk7 => with_unfolding_all rfl); k_whole; intro _))))
  (k_with "nz:loadName" => ((k_here; k_dflt (refine' ldn ?zqk1 ?zqk2 ?_; (case zqk1 => k_asm); (case zqk2 => walk_at "nz look"); k_whole))))
  (k_with "nz:k_room" => (ktr_room))
  (k_with "nz:compareOp In int ref" => ((k_here; (with_reducible show wpAny _ _ (compareOp _ _ (Value.ref (TAd.coI _))) _ _ _); k_dflt (first
  | (refine' in_co_no ?zqk1 ?zqk2 ?zqk3 ?zqk4 ?_; (case zqk1 => with_reducible assumption); (case zqk2 => k_asm); (case zqk3 => k_mem); (case zqk4 => with_reducible assumption); k_whole)
  | (refine' in_co_yes ?zqk1 ?zqk2 ?zqk3 ?zqk4 ?_; (case zqk1 => with_reducible assumption); (case zqk2 => k_asm); (case zqk3 => k_mem); (case zqk4 => with_reducible assumption); k_whole)))))
  (k_with "nz:subscriptTail Attribute" => ((k_here; (with_reducible show wpAny _ _ (subscriptTail _ _ (Value.ref (TAd.coI _)) (Value.int _ _)) _ _ _); k_dflt (refine' item_co ?zqk1 ?zqk2 ?zqk3 ?zqk4 ?_ ?zqk7; (case zqk1 => with_reducible assumption); (case zqk2 => k_asm); (case zqk3 => k_mem); (case zqk4 => with_reducible assumption); (case zqk7 => with_unfolding_all rfl); k_whole; intro _))))
  (k_with "nz:call ref" => (((with_reducible show wpAny _ _ (call (Value.ref 225) _) _ _ _); refine Hold.mk' ?_)))
  (k_with "nz:k_mem" => (((show (_ : Addr × Obj) ∈ (_ : List (Addr × Obj))); (with_reducible show (TAd.coI _, _) ∈ TRaw.led _ _ _); exact List.mem_of_getElem? (i := 9) rfl)))
  (k_with "nz:call ref" => (((with_reducible show wpAny _ _ (call (Value.ref 28) _) _ _ _); refine Hold.mk' ?_)))
  (k_with "nz:call type:tuple" => ((k_here; k_dflt (refine' tuple_of_list ?zqk1 ?zqk2 ?zqk3 ?zqk4 ?zqk5 ?_; (case zqk1 => k_asm); (case zqk2 => k_asm); (case zqk3 => with_reducible assumption); (case zqk4 => k_mem); (case zqk5 => omega); k_whole); intro _ _ _ _ _ _; k_sweep)))
  (k_with "nz:call ref" => (((with_reducible show wpAny _ _ (call (Value.ref 239) _) _ _ _); refine Hold.mk' ?_)))
  (k_with "nz:setItem ref int" => ((k_here; (with_reducible show wpAny _ _ (setItem (Value.ref (BAd.fI _)) _ _) _ _ _); k_dflt (refine' set_fI ?zqk2 ?zqk3 ?zqk4 ?zqk5 ?zqk6 ?zqk7 ?_; (case zqk2 => k_asm); (case zqk3 => with_reducible assumption); (case zqk4 => with_reducible assumption); (case zqk5 => omega); (case zqk6 => (try dsimp only); omega); (case zqk7 => (try dsimp only); omega); k_whole); intro _ _ _ _ _; k_sweep)))
  (k_with "nz:k_all" => (first | with_reducible assumption | exact lt_ne (by assumption) (by omega) | exact allLt_ne (by assumption) (by omega)))
  (k_with "nz:ktr_units" => ((have _ := cLine_is; (try simp only [units_under_make, units_in1, units_deeper, Around.mark_units, units_caller] at *); (try dsimp only [ktrTop] at *); omega)))
  (k_with "nz:k_upd" => (exact upd_led (Sep2.one (by with_reducible assumption)) 1 rfl))
  (k_with "nz:setAttr ref" => (((with_reducible show wpAny _ _ (setAttr (Value.ref (BAd.b _)) (Str.ofString "head") _) _ _ _); k_dflt (refine' set_head ?zqk1 ?zqk2 ?zqk3 ?zqk4 ?_; (case zqk1 => k_asm); (case zqk2 => k_asm); (case zqk3 => k_asm); (case zqk4 => with_reducible assumption); k_whole); intro _ _ _ _ _; k_sweep)))
  (k_with "nz:setAttr ref" => (((with_reducible show wpAny _ _ (setAttr (Value.ref (BAd.b _)) (Str.ofString "mode") _) _ _ _); k_dflt (refine' set_mode ?zqk1 ?zqk2 ?zqk3 ?zqk4 ?_; (case zqk1 => k_asm); (case zqk2 => k_asm); (case zqk3 => k_asm); (case zqk4 => with_reducible assumption); k_whole); intro _ _ _ _ _; k_sweep)))
  (k_with "nz:setAttr ref" => (((with_reducible show wpAny _ _ (setAttr (Value.ref (BAd.b _)) (Str.ofString "is_foster") _) _ _ _); k_dflt (refine' set_foster ?zqk1 ?zqk2 ?zqk3 ?zqk4 ?_; (case zqk1 => k_asm); (case zqk2 => k_asm); (case zqk3 => k_asm); (case zqk4 => with_reducible assumption); k_whole); intro _ _ _ _ _; k_sweep)))
  (k_with "nz:call" => (((show wpAny _ _ (call (Value.builtin "list.pop") [Value.ref (BAd.sI _)]) _ _ _); k_dflt (refine' pop_sI2 ?zqk1 ?zqk2 ?zqk3 ?zqk4 ?zqk5 ?_; (case zqk2 => k_asm); (case zqk3 => k_asm); (case zqk4 => with_reducible assumption); (case zqk1 => (try dsimp only); assumption); (case zqk5 => first | exact Nat.le_of_ble_eq_true rfl | omega); k_whole); intro _ _ _ _ _ _ _ _; k_sweep)))
  (k_with "nz:k_mem" => (((show (_ : Addr × Obj) ∈ (_ : List (Addr × Obj))); (with_reducible show _ ∈ LRaw.led _ _); first | exact List.mem_of_getElem? (i := 0) rfl | exact List.mem_of_getElem? (i := 1) rfl | exact List.mem_of_getElem? (i := 2) rfl)))
  (k_with "nz:call builtin:list.append" => ((k_here; (with_reducible show wpAny _ _ (call (Value.builtin _) [Value.ref (LAd.oI _), _]) _ _ _); k_dflt (refine' app_oI ?zqk1 ?zqk2 ?zqk3 ?zqk5 ?zqk4 ?_; (case zqk1 => k_asm); (case zqk2 => with_reducible assumption); (case zqk3 => with_reducible assumption); (case zqk5 => with_reducible assumption); (case zqk4 => size_fits); k_whole); intro _ _ _ _ _; k_sweep)))
  (k_with "nz:call builtin:list.append" => ((k_here; (with_reducible show wpAny _ _ (call (Value.builtin _) [Value.ref (LAd.lI _), _]) _ _ _); k_dflt (refine' app_lI ?zqk1 ?zqk2 ?zqk3 ?zqk5 ?zqk4 ?_; (case zqk1 => k_asm); (case zqk2 => with_reducible assumption); (case zqk3 => with_reducible assumption); (case zqk5 => with_reducible assumption); (case zqk4 => size_fits); k_whole); intro _ _ _ _ _; k_sweep)))
  (k_with "nz:call builtin:list.append" => ((k_here; (with_reducible show wpAny _ _ (call (Value.builtin _) [Value.ref (LAd.rI _), _]) _ _ _); k_dflt (refine' app_rI ?zqk1 ?zqk2 ?zqk3 ?zqk5 ?zqk4 ?_; (case zqk1 => k_asm); (case zqk2 => with_reducible assumption); (case zqk3 => with_reducible assumption); (case zqk5 => with_reducible assumption); (case zqk4 => size_fits); k_whole); intro _ _ _ _ _; k_sweep)))
  (k_with "nz:newTuple" => ((k_here; k_dflt (refine' new_tuple3 ?zqk1 ?zqk2 ?zqk3 ?zqk5 ?zqk4 ?_; (case zqk1 => k_asm); (case zqk2 => with_reducible assumption); (case zqk3 => with_reducible assumption); (case zqk5 => with_reducible assumption); (case zqk4 => exact Nat.le_of_ble_eq_true rfl); k_whole); intro _ _ _ _ _ _ _; k_sweep)))
  (k_with "nz:nz strs" => (first | exact StrsAre.nil | (refine' StrsAre.cons _ _ ?zqnh; (case zqnh => walk_at "nz strs"))))
  (k_with "nz:subscriptTail" => (((with_reducible show wpAny _ _ (subscriptTail _ _ (Value.ref _) (Value.int (Int.fmod _ _) _)) _ _ _); k_dflt (refine' tup_strs ?zqk1 ?zqk2 ?zqk3 ?zqk4 ?zqk5 ?zqk6 ?_ ?zqk7; (case zqk1 => k_asm); (case zqk2 => k_mem); (case zqk3 => walk_at "nz strs"); (case zqk4 => exact Int.fmod_nonneg_of_pos _ (by decide)); (case zqk5 => exact Int.fmod_lt_of_pos _ (by decide)); (case zqk6 => exact Nat.le_of_ble_eq_true rfl); (case zqk7 => with_unfolding_all rfl); k_whole); intro _ _ _)))
  (k_with "nz:exec If" => (((with_reducible show wpAny _ _ (exec (Stmt.If (PySem.Expr.Compare (PySem.Expr.BinOp (PySem.Expr.BinOp _ Operator.FloorDiv _ _) Operator.Mod _ _) _ _ _) _ _ _) _) _ _ _); refine Hold.mk' ?_)))
  (k_with "nz:binaryOp Add ref ref" => ((k_here; k_dflt (refine' add_tup3 ?zqk1 ?zqk2 ?zqk3 ?zqk4 ?zqk5 ?zqk6 ?zqk7 ?zqk8 ?zqk9 ?_; (case zqk1 => k_asm); (case zqk2 => with_reducible assumption); (case zqk3 => with_reducible assumption); (case zqk4 => with_reducible assumption); (case zqk5 => k_mem); (case zqk6 => k_mem); (case zqk7 => exact List.cons_ne_nil _ _); (case zqk8 => exact List.cons_ne_nil _ _); (case zqk9 => exact Nat.le_of_ble_eq_true rfl); k_whole); intro _ _ _ _ _ _; k_sweep)))
  (k_with "nz:nz intsL" => (first | exact IntsAre.nil | (refine' IntsAre.cons _ _ ?zqnh; (case zqnh => walk_at "nz intsL"))))
  (k_with "nz:compareOp In int ref" => ((k_here; k_dflt (refine' in_tup_ints ?zqk1 ?zqk2 ?zqk3 ?_; (case zqk1 => k_asm); (case zqk2 => k_mem); (case zqk3 => walk_at "nz intsL"); k_whole))))
  (k_with "nz:exec For Name Subscript cons nil" => (refine Hold.mk' ?_))
  (k_with "nz:UnrEndW" => (refine Hold.mk' ?_))
  (k_with "nz:UnrEnd" => (refine Hold.mk' ?_))
  (k_with "nz:nz tup" => ((k_dflt (refine' tup_ref ?zqk1 ?zqk2 ?zqk3 ?zqk4 ?zqk5 ?_ ?zqk7; (case zqk1 => k_asm); (case zqk2 => k_mem); (case zqk3 => decide); (case zqk4 => decide); (case zqk5 => exact rfl); (case zqk7 => with_unfolding_all rfl); k_whole))))
  (k_with "nz:subscriptTail" => (((with_reducible show wpAny _ _ (subscriptTail _ _ (Value.ref _) (Value.int (OfNat.ofNat _) _)) _ _ _); walk_at "nz tup")))
  (k_with "nz:subscriptTail Name" => (((with_reducible show wpAny _ _ (subscriptTail _ _ (Value.ref (LAd.oI _)) (Value.int _ _)) _ _ _); k_dflt (refine' sub_oIneg ?zqk1 ?zqk2 ?zqk3 ?zqk4 ?zqk5 ?zqk6 ?zqk8 ?_ ?zqk7; (case zqk1 => k_asm); (case zqk2 => k_mem); (case zqk3 => (try dsimp only); assumption); (case zqk4 => decide); (case zqk5 => omega); (case zqk6 => omega); (case zqk8 => assumption); (case zqk7 => with_unfolding_all rfl); k_whole; intro _))))
  (k_with "nz:nz mem" => (((show (_ : Addr × Obj) ∈ (_ : List (Addr × Obj))); first
  | with_reducible assumption
  | (with_reducible exact List.mem_cons_self)
  | ((with_reducible refine' List.mem_cons_of_mem _ ?_); walk_at "nz mem")
  | ((with_reducible refine' List.mem_append_left _ ?_); walk_at "nz mem")
  | ((with_reducible refine' List.mem_append_right _ ?_); walk_at "nz mem")
  | ((with_reducible show _ ∈ TRaw.led _ _ _); k_mem)
  | ((with_reducible show _ ∈ LRaw.led _ _); k_mem)
  | ((with_reducible show _ ∈ BRaw.led _ _ _ _); k_mem))))
  (k_with "nz:k_mem" => (((show (_ : Addr × Obj) ∈ (_ : List (Addr × Obj))); with_reducible assumption)))
  (k_with "nz:eval IfExp" => (((fail_if_success (with_reducible show wpAny _ _ _ (JoinN _ _) _ _)); refine Hold.mk' ?_)))
  (k_with "nz:newList" => (refine Hold.mk' ?_))
  (k_with "nz:newList" => ((k_here; k_dflt (refine' ap_list ?zqk1 ?zqk2 ?zqk3 ?zqk4 ?_; (case zqk1 => k_asm); (case zqk2 => k_asm); (case zqk3 => with_reducible assumption); (case zqk4 => exact Nat.le_of_ble_eq_true rfl); k_whole); intro _ _ _ _ _; k_sweep)))
  (k_with "nz:call builtin:list.insert" => (refine Hold.mk' ?_))
  (k_with "nz:exec If" => (((with_reducible show wpAny _ _ (exec (Stmt.If (PySem.Expr.Compare (PySem.Expr.Name (Str.ofString "many") _) _ _ _) _ _ _) _) _ _ _); refine Hold.mk' ?_)))
  (k_with "nz:binaryOp Add ref ref" => ((k_here; k_dflt (refine' ap_add ?zqk1 ?zqk2 ?zqk3 ?zqk4 ?zqk5 ?zqk6 ?_; (case zqk1 => k_asm); (case zqk2 => k_asm); (case zqk3 => with_reducible assumption); (case zqk4 => walk_at "nz mem"); (case zqk5 => walk_at "nz mem"); (case zqk6 => size_fits); k_whole); intro _ _ _ _ _; k_sweep)))
  (k_with "nz:binaryOp Mult ref int" => ((k_here; k_dflt (refine' ap_mul ?zqk1 ?zqk2 ?zqk3 ?zqk4 ?zqk5 ?_; (case zqk1 => k_asm); (case zqk2 => k_asm); (case zqk3 => with_reducible assumption); (case zqk4 => walk_at "nz mem"); (case zqk5 => size_fits); k_whole); intro _ _ _ _ _; k_sweep)))
  (k_with "nz:call builtin:max" => ((k_here; k_dflt (refine' ap_max ?zqk1 ?zqk2 ?zqk3 ?zqk4 ?zqk5 ?zqk6 ?zqk7 ?_; (case zqk1 => k_asm); (case zqk2 => k_asm); (case zqk3 => walk_at "nz mem"); (case zqk4 => exact (by with_reducible assumption : ∀ t, IntsAre ([Value.int 0 t] ++ _) _) _); (case zqk5 => with_reducible assumption); (case zqk6 => with_reducible assumption); (case zqk7 => first | exact Room.han (by assumption) | with_unfolding_all rfl); k_whole); intro _ _ _ _ _; k_sweep)))
  (k_with "nz:subscriptTail Name Slice ref ref" => ((k_here; k_dflt (first
  | (refine' ap_from ?zqk1 ?zqk2 ?zqk3 ?zqk4 ?zqk5 ?zqk6 ?_ ?zqk7 ?zqk8; (case zqk1 => k_asm); (case zqk2 => k_asm); (case zqk3 => with_reducible assumption); (case zqk4 => walk_at "nz mem"); (case zqk5 => omega); (case zqk6 => size_fits); (case zqk7 => with_unfolding_all rfl); (case zqk8 => kmk_pure); k_whole)
  | (refine' ap_upto ?zqk1 ?zqk2 ?zqk3 ?zqk4 ?zqk5 ?zqk6 ?_ ?zqk7 ?zqk8; (case zqk1 => k_asm); (case zqk2 => k_asm); (case zqk3 => with_reducible assumption); (case zqk4 => walk_at "nz mem"); (case zqk5 => omega); (case zqk6 => size_fits); (case zqk7 => with_unfolding_all rfl); (case zqk8 => kmk_pure); k_whole)); intro _ _ _ _ _; k_sweep)))
  (k_with "nz:subscriptTail BinOp Slice ref ref" => ((k_here; k_dflt (first
  | (refine' ap_from ?zqk1 ?zqk2 ?zqk3 ?zqk4 ?zqk5 ?zqk6 ?_ ?zqk7 ?zqk8; (case zqk1 => k_asm); (case zqk2 => k_asm); (case zqk3 => with_reducible assumption); (case zqk4 => walk_at "nz mem"); (case zqk5 => omega); (case zqk6 => size_fits); (case zqk7 => with_unfolding_all rfl); (case zqk8 => kmk_pure); k_whole)
  | (refine' ap_upto ?zqk1 ?zqk2 ?zqk3 ?zqk4 ?zqk5 ?zqk6 ?_ ?zqk7 ?zqk8; (case zqk1 => k_asm); (case zqk2 => k_asm); (case zqk3 => with_reducible assumption); (case zqk4 => walk_at "nz mem"); (case zqk5 => omega); (case zqk6 => size_fits); (case zqk7 => with_unfolding_all rfl); (case zqk8 => kmk_pure); k_whole)); intro _ _ _ _ _; k_sweep)))
  (k_with "nz:call type:list" => (refine Hold.mk' ?_))
  (k_with "nz:call type:dict" => (refine Hold.mk' ?_))
  (k_with "nz:CompSrcT" => (refine Hold.mk' ?_))
  (k_with "nz:CompSrc" => (refine Hold.mk' ?_))
  (k_with "nz:CompEnd" => (refine Hold.mk' ?_))
  (k_with "nz:FinE" => (refine Hold.mk' ?_))
  (k_with "nz:FinA" => (refine Hold.mk' ?_))
  (k_with "nz:eval Name" => ((k_here; (with_reducible show wpAny _ _ (eval (Expr.Name _ _) (envOfC _ _ _ _ _)) _ _ _); k_dflt (first
  | (refine' nameX_L ?zqF ?zqv ?_ ?zqa ?zqb; (case zqb => rfl); (case zqa => rfl); (case zqF => k_asm); (case zqv => walk_at "nz look"); k_whole)
  | (refine' nameX_C ?zqN ?zqc ?zqm ?zqd ?_ ?zqa ?zqb; (case zqb => rfl); (case zqa => rfl); (case zqN => k_asm); (case zqc => rfl); (case zqm => walk_at "nz mem"); (case zqd => k_asm); k_whole)
  | (refine' nameX_K ?zqF ?zqX ?zqT ?zqe ?_ ?zqa ?zqb; (case zqb => rfl); (case zqF => k_asm); (case zqX => k_asm); (case zqT => k_asm); (case zqa => rfl); (case zqe => k_is); k_whole)
  | (refine' nameX_B ?zqF ?zqX ?zqT ?zqe ?zqv ?zqn ?_ ?zqa ?zqb; (case zqb => rfl); (case zqF => k_asm); (case zqX => k_asm); (case zqT => k_asm); (case zqa => rfl); (case zqe => k_is); (case zqv => boot_fast); (case zqn => decide); k_whole)))))
  (k_with "nz:eval Name" => ((k_here; (with_reducible show wpAny _ _ (eval (Expr.Name _ _) (compEnvC _ _ _ _)) _ _ _); k_dflt (first
  | (refine' lcf_cell ?zqN ?zqc ?zqm ?zqd ?_ ?zqa ?zqb; (case zqb => rfl); (case zqa => rfl); (case zqN => k_asm); (case zqc => rfl); (case zqm => walk_at "nz mem"); (case zqd => k_asm); k_whole)
  | refine LCgL.ld_own (by k_asm) (by k_mem) (by with_reducible assumption) (by with_reducible assumption) ?_
  | refine LCgL.ld_global (by k_asm) (by k_asm) (by k_asm) (by k_is) ?_
  | refine LCgL.ld_built (by k_asm) (by k_asm) (by k_asm) (by k_is) (by boot_by_name) (by decide) ?_))))
  (k_with "nz:subscriptTail Subscript" => (((with_reducible show wpAny _ _ (subscriptTail _ _ (Value.ref _) (Value.int (OfNat.ofNat _) _)) _ _ _); walk_at "nz tup")))
  (k_with "nz:subscriptTail Name" => (((with_reducible show wpAny _ _ (subscriptTail _ _ (Value.ref _) (Value.int _ _)) _ _ _); k_dflt (refine' sub_at ?zqk1 ?zqk2 ?zqk3 ?zqk4 ?zqk5 ?_ ?zqk7; (case zqk1 => k_asm); (case zqk2 => walk_at "nz mem"); (case zqk3 => omega); (case zqk4 => omega); (case zqk5 => with_reducible assumption); (case zqk7 => with_unfolding_all rfl); k_whole))))
  (k_with "nz:subscriptTail Name Constant" => (((with_reducible show wpAny _ _ (subscriptTail _ _ (Value.ref _) (Value.int _ _)) _ _ _); k_dflt (refine' sub_at ?zqk1 ?zqk2 ?zqk3 ?zqk4 ?zqk5 ?_ ?zqk7; (case zqk1 => k_asm); (case zqk2 => walk_at "nz mem"); (case zqk3 => omega); (case zqk4 => omega); (case zqk5 => with_reducible assumption); (case zqk7 => with_unfolding_all rfl); k_whole))))
  (k_with "nz:subscriptTail Name Constant" => (((with_reducible show wpAny _ _ (subscriptTail _ _ (Value.ref _) (Value.int _ _)) _ _ _); k_dflt (refine' tup_at_r ?zqk0 ?zqk1 ?zqk2 ?zqk3 ?zqk4 ?zqk5 ?_ ?zqk7; (case zqk0 => with_reducible assumption); (case zqk1 => k_asm); (case zqk2 => walk_at "nz mem"); (case zqk3 => decide); (case zqk4 => decide); (case zqk5 => rfl); (case zqk7 => with_unfolding_all rfl); k_whole))))
  trivial
section
variable {prog : Program} {w : World} {p : Program} {loose : List Str} {mean : ExcName → Option Value} {mg mb : Str → Option Value} {ad : TAd} {bd : BAd} {la : LAd} {u : TRaw} {v : BRaw} {x : LRaw} {z r : Led} {TT : Tr} {stack fmt late : List Int}
structure DueIn (prog : Program) (w : World) (ad : TAd) (bd : BAd) (la : LAd) (z r : Led) (u : TRaw) (v : BRaw) (x : LRaw) (TT : Tr) (stack fmt : List Int) (n : Nat) (sp : Addr) (q b : Int) (t1 t2 : Tok) (pre fresh : List Ent) : Prop where
  H : St prog w ad bd z u v TT stack fmt n
  o : IntsAre x.oV stack
  rw' : RowAre w.params z x.rV (pre ++ fresh)
  zr : ∀ y ∈ z, y ∈ r
  hsp : (sp, tupOf [.int q t1, .int b t2] 0) ∈ r
  hn : n ≤ 30
  hrl : (pre ++ fresh).length ≤ 20
  hpre : pre = [] ∨ (pre.getD (pre.length - 1) (0, Str.ofString "", [])).1 = -1 ∨ (pre.getD (pre.length - 1) (0, Str.ofString "", [])).1 ∈ stack
  hfr : ∀ e ∈ fresh, e.1 ≠ -1 ∧ e.1 ∉ stack
  q0 : 0 ≤ q
  qn : q < n
  hb : b = -1 ∨ (b ∈ TT.children.getD q.toNat [] ∧ b ≠ -1)
  hat : ∀ d ∈ TT.attrs, d.length ≤ 600
  hae : ∀ e ∈ fresh, e.2.2.length ≤ 600
  hco : TT.contents.length ≤ 1000
section
variable {n i : Nat} {q b : Int} {t1 t2 : Tok} {sp : Addr} {pre fresh : List Ent}
theorem DueIn.lt (J : DueIn prog w ad bd la z r u v x TT stack fmt n sp q b t1 t2 pre fresh) {e : Ent} (he : e = (pre ++ fresh).getD i (0, Str.ofString "", [])) (hi : i < (pre ++ fresh).length) (h : e.1 = -1 ∨ e.1 ∈ stack) : i < pre.length := by
  by_cases hlt : i < pre.length
  · exact hlt
  · rw [List.length_append] at hi
    rw [List.getD_eq_getElem?_getD, List.getElem?_append_right (by omega), List.getElem?_eq_getElem (by omega)] at he
    have hm : e ∈ fresh := he ▸ List.getElem_mem _
    exact absurd h (not_or.mpr (J.hfr e hm))
theorem DueIn.ne (J : DueIn prog w ad bd la z r u v x TT stack fmt n sp q b t1 t2 pre fresh) {e : Ent} (he : e = (pre ++ fresh).getD i (0, Str.ofString "", [])) (h1 : ¬ e.1 = -1) (h2 : ¬ e.1 ∈ stack) : i + 1 ≠ pre.length := by
  intro hlt
  rw [List.getD_eq_getElem?_getD, List.getElem?_append_left (by omega), ← List.getD_eq_getElem?_getD, show i = pre.length - 1 by omega] at he
  rcases J.hpre with h | h | h
  · subst h
    simp at hlt
  · exact h1 (he ▸ h)
  · exact h2 (he ▸ h)
end
def dueKids (T : Tr) (n : Nat) (q b : Int) (k : Nat) : List (List Int) :=
  if k = 0 then T.children else T.children.modify q.toNat (fun c => c.take (if b = -1 then c.length else c.idxOf b) ++ (n : Int) :: c.drop (if b = -1 then c.length else c.idxOf b)) ++ ((nums n k).drop 1).map (fun i => [i]) ++ [[]]
def attrD (d : List (Str × Str)) : Dat := .list (d.map fun p => .tuple [.str p.1, .str p.2])
def kidD (d : List Int) : Dat := .list (d.map .int)
def dueD (T : Tr) (stack : List Int) (pre fresh : List Ent) (n : Nat) (q b : Int) : List Dat :=
  [.list ((stack ++ nums n fresh.length).map .int), .list ((pre.map (·.1) ++ nums n fresh.length).map .int), .list [], .list ((T.kinds ++ List.replicate fresh.length (Str.ofString "element")).map .str), .list ((T.spaces ++ List.replicate fresh.length (Str.ofString "html")).map .str),
    .list ((T.names ++ fresh.map (·.2.1)).map .str), .list ((T.attrs ++ fresh.map (·.2.2)).map attrD), .list ((T.texts ++ List.replicate fresh.length (Str.ofString "")).map .str), .list ((T.parents ++ (q :: nums n fresh.length).take fresh.length).map .int), .list ((dueKids T n q b fresh.length).map kidD)]
def DuePost (prog : Program) (w : World) (r l0 : Led) (T : Tr) (stack : List Int) (pre fresh : List Ent) (n : Nat) (q b : Int) (y : Value) (l' : Led) : Prop :=
  ∃ D nw vs co oC, y = .ref D ∧ l' = nw ++ l0 ∧ Ap nw l0 ∧ (D, lsOf (vs ++ [.ref co]) 0) ∈ nw ∧ DatAll (nw ++ r) vs (dueD T stack pre fresh n q b) ∧ (co, oC) ∈ nw ∧ (co == sysModules) = false ∧ CoAre prog w oC T.contents
inductive KidJ (g : Heap) (L : Addr) (nw0 l0 : Led) (m0 : Str → Option Value) (ds : List (List Int)) (s : Shared) : Shared → Prop
  | mk {C : Addr} {cl nw : Led} {k : Nat} {m : Str → Option Value} {h : Heap} {tk : Nat} (F : Fr g L h m) (N : News g L h (nw ++ l0)) (U : Ap nw l0) (sub : ∀ p ∈ nw0, p ∈ nw) (hC : (C, lsOf (refs cl) k) ∈ nw) (hk : KidsAre cl ds) (hs : ∀ p ∈ cl, p ∈ nw)
      (mc : m (Str.ofString "children") = some (.ref C)) (mo : ∀ y, y ≠ Str.ofString "children" → y ≠ Str.ofString "at" → m y = m0 y) : KidJ g L nw0 l0 m0 ds s { s with heap := h, toks := tk }
theorem kidJ_to {A : Around} {E : Value → Shared → Prop} {s : Shared} {g : Heap} {L : Addr} {m : Str → Option Value} {h : Heap} {t : Sem Flow} {Q : Flow → Shared → Prop} {cl nw0 l0 : Led} {D : Addr} {o : Obj} (_F : Fr g L h (fun z => if z = Str.ofString "children" then some (.ref D) else m z)) (_K : Sep cl ((D, o) :: nw0 ++ l0)) (ds : List (List Int)) (hh : wpAny (model prog w) A t (WOut (KidJ g L nw0 l0 m ds s)) E s) (after : ∀ s', KidJ g L nw0 l0 m ds s s' → Q .next s') : wpAny (model prog w) A t Q E s := mono_to _ hh after
def JoinN (j : Nat) (s : Shared) (y : Value) (s' : Shared) : Prop := ∃ tk tk', y = Value.int (j : Int) tk ∧ s' = { s with toks := tk' }
theorem join_nat {A : Around} {E : Value → Shared → Prop} {s : Shared} {t : Sem Value} {Q : Value → Shared → Prop} (j : Nat)
    (h1 : wpAny (model prog w) A t (JoinN j s) E s) (h2 : ∀ tk tk', Q (.int (j : Int) tk) { s with toks := tk' }) : wpAny (model prog w) A t Q E s :=
  wpAny_mono h1 (fun y s' h => by obtain ⟨tk, tk', rfl, rfl⟩ := h; exact h2 tk tk') fun _ _ e => e
theorem due_ {n : Nat} {q b : Int} {t1 t2 : Tok} {sp : Addr} {pre fresh : List Ent} (J : DueIn prog w ad bd la z r u v x TT stack fmt n sp q b t1 t2 pre fresh) :
    Tells prog w p loose mean mg mb 40 200 531 [.ref ad.t, .ref la.oI, .ref la.rI, .ref sp] (v.led w.params ad bd ++ (u.led w.params ad ++ (x.led la ++ r)))
      (DuePost prog w r (v.led w.params ad bd ++ (u.led w.params ad ++ (x.led la ++ r))) TT stack pre fresh n q b) := by
  unfold Tells
  intro A env outer A₀ base h₀ L m s Q E hA0 hf0 hk' B F X N T hR hret
  have ro := J.o
  have ol := J.o.length
  have rl := J.rw'.length
  have hsl := J.H.hl
  have hn := J.hn
  have hrl := J.hrl
  have hsp := J.hsp
  refine' enterC_ (by k_asm) (by first | exact rfl | assumption) (by first | exact rfl | assumption) (by k_asm) (by k_asm) (by k_asm) (by k_asm) (by k_asm) (by k_asm) (Nat.le_of_ble_eq_true rfl) (Nat.le_of_ble_eq_true rfl) (by k_is) (by k_is) ?_ ?_ ?_ ?_ ?_ ?_ ?_
  rotate_left
  exact BindsTo.of_eq (binds := [(_, _), (_, _), (_, _), (_, _)]) rfl
  exact rfl
  decide +kernel
  exact rfl
  exact rfl
  exact rfl
  k_whole
  intro A1 g1 L1 h1 tk1 cells1 hA1 hR1 FG1 F1 N1 Y1 B1 X1 T1 l1
  k_cells Y1
  (try dsimp only)
  (with_reducible show wpAny _ _ _ _ _ _)
  rename News _ _ _ _ => N1
  rename_i o1 o2 o3 d1 d2 d3
  replace d1 : o1.data = .cell (some (.ref la.rI)) := d1
  replace d2 : o2.data = .cell (some (.ref la.oI)) := d2
  replace d3 : o3.data = .cell (some (.ref ad.t)) := d3
  have U1 : Ap [(L1 + 1 + 1 + 1, o1), (L1 + 1 + 1, o2), (L1 + 1, o3)] (v.led w.params ad bd ++ (u.led w.params ad ++ (x.led la ++ r))) := fun p hp q hq => by
    have hq' := ltN (l1 q hq)
    simp only [List.mem_cons, List.not_mem_nil, or_false] at hp
    rcases hp with rfl | rfl | rfl <;> (refine neN ?_; dsimp only; omega)
  clear l1
  replace F1 : Fr g1 L1 h1 (fun y => if y = Str.ofString "spot" then some (.ref sp) else none) := F1
  k_steps
  refine Hold.out ?_
  k_dflt (refine LCt.ListComp_T (F₀ := by k_asm) (by with_unfolding_all rfl) (by decide) (by rfl) (by decide) (by rfl) ?_)
  k_steps
  refine Hold.out ?_
  rename IsRange _ _ _ _ _ _ _ _ => hr2
  rename Fr _ _ _ _ => F2
  rename News _ _ _ _ => N2
  rename Ap _ _ => U2
  refine LCt.CompSrcT.range (n := x.rV.length) (Room.han (by assumption)) F2 N2 hr2 (small_one (by omega) (by omega) (by omega) (by omega)) (by rw [rangeSize_nat]; omega) (by rw [sizeLine_eq]; omega) fun gg => ?_
  clear hr2
  refine comp_invT (fun i ys nw => nw = _ ∧ ∃ ns, Stops pre.length i ys ns) ⟨rfl, [], .nil, fun _ h => (nomatch h), fun h1 h2 => by omega, Nat.le_refl _⟩ ?_ ?_
  · rintro i ys nw y I oI C oC D m₂ h tk E' hi ⟨t, rfl⟩ ⟨rfl, ns, hS⟩ hC hx F3 N3 off ne
    refine row_cx J.rw' (i := i) (by omega) fun ra rb ta tb na vs e1 e2 _ _ => ?_
    obtain ⟨ent, hent⟩ : ∃ e, e = (pre ++ fresh).getD i (0, Str.ofString "", []) := ⟨_, rfl⟩
    rw [← hent] at e2
    replace e1 : x.rV[((0 : Int) + (i : Int)).toNat]? = some (.ref ra) := by
      rw [show ((0 : Int) + (i : Int)).toNat = i by omega]
      exact e1
    replace e2 := J.zr _ e2
    ((try clear N2); (try clear F2))
    k_steps
    all_goals (refine Hold.out ?_)
    · exact comp_same (by k_asm) (by k_asm) off trivial ⟨rfl, _, hS.yes (J.lt hent (by omega) (.inl zzhb))⟩
    · exact comp_same (by k_asm) (by k_asm) off trivial ⟨rfl, _, hS.yes (J.lt hent (by omega) (.inr zzhb))⟩
    · exact comp_same (by k_asm) (by k_asm) off trivial ⟨rfl, _, hS.no (J.ne hent (by assumption) zzhb)⟩
  · rintro ys nw ⟨rfl, ns, hS⟩
    refine fin_e U2 fun D4 h4 tk4 F4 N4 U4 => ?_
    ((try clear F2); (try clear N2); (try clear U2))
    have hpl : pre.length + fresh.length ≤ 20 := by
      have := J.hrl
      rw [List.length_append] at this
      exact this
    have yl := hS.len
    have M9 := hS.max (by rw [rl, List.length_append]; omega)
    (have hp98 := M9; have M1 := hp98.1; have M2 := hp98.2; clear hp98)
    clear M9
    have iS : ∀ t, IntsAre ([Value.int 0 t] ++ ys) ((0 : Int) :: ns) := fun t => .cons _ _ hS.iv
    clear hS
    k_steps
    refine Hold.out ?_
    rename Fr _ _ _ _ => F4
    rename News _ _ _ _ => N4
    rename Ap _ _ => U4
    obtain ⟨xs, hxs⟩ : ∃ xs, xs = x.rV.drop ((pre.length : Int)).toNat := ⟨_, rfl⟩
    rw [← hxs] at N4 U4
    simp only [← hxs] at F4
    have hrow : RowAre w.params z xs fresh := by
      have := J.rw'.drop pre.length
      rw [List.drop_left] at this
      rw [hxs, Int.toNat_natCast]
      exact this
    have hml := hrow.length
    have kl : u.kV.length = n := (len_strs J.H.R.k).trans J.H.W.k
    k_dflt (refine LCg.Assign_ListComp_U (F₀ := F4) (by rfl) (by with_unfolding_all rfl) (by with_unfolding_all rfl) (by decide) (by rfl) (by decide) (by rfl) (by rfl) (by rfl) ?_)
    k_steps
    refine Hold.out ?_
    rename IsRange _ _ _ _ _ _ _ _ => hr5
    rename Fr _ _ _ _ => F5
    rename News _ _ _ _ => N5
    refine LCg.CompSrc.range (n := xs.length) (Room.han (by assumption)) F5 N5 hr5 (small_one (by omega) (by omega) (by omega) (by omega)) (by rw [rangeSize_nat]; omega) (by rw [sizeLine_eq]; omega) fun gg => ?_
    clear hr5
    refine comp_inv (fun i ys nw => nw = _ ∧ IntsAre ys (nums n i)) ⟨rfl, .nil⟩ ?_ ?_
    · rintro i ys nw y I oI C oC D m₂ h tk E' hi ⟨t, rfl⟩ ⟨rfl, hS⟩ hC hx F3 N3 off ne
      ((try clear N5); (try clear F5); (try clear N4); (try clear F4))
      k_steps
      refine Hold.out ?_
      refine comp_same (by k_asm) (by k_asm) off trivial ⟨rfl, ?_⟩
      rw [nums_snoc, show ((u.kV.length : Nat) : Int) + (0 + (i : Int)) = (n : Int) + (i : Int) by omega]
      exact ints_snoc hS
    · rintro nv nw ⟨rfl, hN⟩
      refine fin_a U4 fun D6 h6 tk6 F6 N6 U6 _ => ?_
      have nvl := hN.length
      rw [nums_length] at nvl
      ((try clear F5); (try clear N5); (try clear U4); (try clear N4); (try clear F4))
      have Tcl := (len_kids J.H.R.c).trans J.H.W.c
      have Tc := J.H.W.c
      have Tcz : ∀ c ∈ TT.children, c.length ≤ 30 := fun c hc => Nat.le_trans (J.H.K c hc) hn
      k_steps
      refine Hold.out ?_
      rename Fr _ _ _ _ => F7
      k_dflt (refine LCg.Assign_ListComp_U (F₀ := F7) (by rfl) (by with_unfolding_all rfl) (by with_unfolding_all rfl) (by decide) (by rfl) (by decide) (by rfl) (by rfl) (by rfl) ?_)
      k_steps
      refine Hold.out ?_
      rename Fr _ _ _ _ => F7
      rename News _ _ _ _ => N7
      refine comp_src (refs u.cL) (Room.han (by assumption)) F7 N7 (by walk_at "nz mem") (by rw [refs_length]; omega) fun gg => ?_
      refine comp_made (fun i cl => KidsAre cl (TT.children.take i)) .nil ?_ ?_
      · intro i cl y I oI C oC D m₂ h tk E' hi hP hK hS hC hx F3 N3 off
        rw [List.size_toArray, refs_length] at hi
        refine kids_c J.H.R.c (i := i) (by omega) hP fun c vs k e1 hc hv => ?_
        replace hx := hx.trans (congrArg some e1)
        have hm : (c, lsOf vs k) ∈ u.led w.params ad := mem_cL hc
        have vl := hv.length
        have vz := Tcz _ (getD_mem (i := i) (d := []) (by omega))
        ((try clear N6); (try clear N7); (try clear F6); (try clear F7))
        k_steps
        refine Hold.out ?_
        refine list_copyK (by k_asm) (by k_asm) (News.isList (by k_asm) (by walk_at "nz mem")) (fun D2 c2 h2 F2 N2 l2 => ?_) (by rw [sizeLine_eq, List.size_toArray]; omega)
        k_steps
        refine Hold.out ?_
        refine made_end F2 N2 l2 off (src_in (by walk_at "nz mem")) hS ?_
        rw [take_snoc [] (by omega)]
        exact hK.append (.cons hv .nil)
      · intro cl hK hS
        rw [List.size_toArray, refs_length, Tcl, ← Tc, List.take_length] at hK
        intro D8 h8 tk8 F8 N8 o8
        have K0 := kids_new (o := lsOf (refs cl) (refs cl).length) N8 o8 hS U6
        have K1 := K0.1
        have K2 := K0.2
        have K3 := K0.3
        have K4 := K0.ap
        clear K0
        ((try clear N6); (try clear N7); (try clear F6); (try clear F7); (try clear N8); (try clear U6))
        k_steps
        refine Hold.out ?_
        rename Fr _ _ _ _ => F8
        refine' kidJ_to F8 K2 (dueKids TT n q b xs.length) ?h ?after
        case h =>
          refine wpAny_If ?_
          by_cases hz : xs.length = 0
          · k_steps
            refine KidJ.mk F8 K4.1 K4.2 (fun p hp => List.mem_append_right _ (.tail _ hp)) (List.mem_append_right _ (.head _)) ?_ (fun p hp => List.mem_append_left _ hp) (if_pos rfl) (fun y hy _ => if_neg hy)
            rw [dueKids, if_pos hz]
            exact hK
          · have q0 := J.q0
            have qn := J.qn
            have hp7 := kids_at hK (k := q.toNat) (by omega)
            (refine' ex3 hp7 ?_; intro c vs kc hp8)
            (have hp98 := hp8; have hc := hp98.1; have hv := hp98.2; clear hp98)
            clear hp7 hp8
            have hx1 : (refs cl)[q.toNat]? = some (.ref c) := by
              rw [refs, List.getElem?_map, hc]
              rfl
            have hmc : (c, lsOf vs kc) ∈ cl := List.mem_of_getElem? hc
            have vl := hv.length
            have vz := Tcz _ (getD_mem (i := q.toNat) (d := []) (by omega))
            obtain ⟨tn, hx2⟩ := ints_at hN (k := 0) (by rw [nums_length]; omega)
            rw [nums_zero hz] at hx2
            replace hx2 : nv[(0 : Int).toNat]? = some (.int (n : Int) tn) := hx2
            have K5 := K4.1
            obtain ⟨j, hj⟩ : ∃ j, j = (if b = -1 then (TT.children.getD q.toNat []).length else (TT.children.getD q.toNat []).idxOf b) := ⟨_, rfl⟩
            have hjl : j ≤ vs.length := by
              rw [hj, vl]
              split
              · exact Nat.le_refl _
              · exact List.idxOf_le_length
            k_steps
            refine Hold.out ?_
            refine join_nat j ?hl ?hr
            case hl =>
              rcases J.hb with hb | ⟨hb1, hb2⟩
              · rw [if_pos hb, ← vl] at hj
                k_steps
                exact ⟨_, _, congrArg (fun k : Nat => Value.int (k : Int) _) hj.symm, rfl⟩
              · rw [if_neg hb2] at hj
                have hil := List.idxOf_lt_length_iff.mpr hb1
                k_steps
                exact ⟨_, _, congrArg (fun k : Nat => Value.int (k : Int) _) hj.symm, rfl⟩
            intro t9 tk9
            dsimp only
            k_steps
            refine Hold.out ?_
            rename Fr _ _ _ _ => F9
            rename News _ _ _ _ => N9
            rw [List.append_assoc] at N9
            refine led_insert q.toNat F9 N9 K2 hc (by omega) (by omega) (by omega) fun n9 h9 F9 N9 S9 => ?_
            obtain ⟨vs9, hvs9⟩ : ∃ y, y = vs.take ((j : Int)).toNat ++ Value.int (n : Int) tn :: vs.drop ((j : Int)).toNat := ⟨_, rfl⟩
            rw [← hvs9] at N9 S9
            have hK9 : KidsAre (cl.set q.toNat (c, lsOf vs9 n9)) (TT.children.modify q.toNat (fun c => c.take (if b = -1 then c.length else c.idxOf b) ++ (n : Int) :: c.drop (if b = -1 then c.length else c.idxOf b))) := by
              refine kids_set hK hc ?_
              rw [← hj, hvs9, Int.toNat_natCast]
              exact (hv.take _).append (.cons _ _ (hv.drop _))
            have hr9 : refs (cl.set q.toNat (c, lsOf vs9 n9)) = refs cl := refs_set hc
            have K9 := KidsNew.ap ⟨N9, S9, K3⟩
            obtain ⟨cl9, hcl9⟩ : ∃ y, y = cl.set q.toNat (c, lsOf vs9 n9) := ⟨_, rfl⟩
            rw [← hcl9] at K9 hK9 hr9
            (have hp98 := K9; have N10 := hp98.1; have U10 := hp98.2; clear hp98)
            clear K9
            have cll : cl.length = n := (len_kids hK).trans Tc
            ((try clear N9); (try clear S9); (try clear K1); (try clear K2); (try clear K3); (try clear K4))
            k_steps
            refine Hold.out ?_
            rename Fr _ _ _ _ => F10
            k_dflt (refine LCg.ListComp_U (F₀ := F10) (by rfl) (by decide) (by rfl) (by decide) (by rfl) ?_)
            k_steps
            refine Hold.out ?_
            rename Fr _ _ _ _ => F11
            rename News _ _ _ _ => N11
            rename Ap _ _ => U11
            refine comp_src (nv.drop (1 : Int).toNat) (Room.han (by assumption)) F11 N11 (by walk_at "nz mem") (by rw [List.length_drop]; omega) fun gg => ?_
            refine comp_made (fun i cl => KidsAre cl ((((nums n xs.length).drop 1).take i).map fun i => [i])) .nil ?_ ?_
            · intro i cl2 y I oI C oC D m₂ h tk E' hi hP hK hS hC hx F3 N3 off
              rw [List.size_toArray, List.length_drop] at hi
              replace hi : i < nv.length - 1 := hi
              have dl : ((nums n xs.length).drop 1).length = xs.length - 1 := by rw [List.length_drop, nums_length]
              refine ints_c (hN.drop 1) (i := i) (by omega) hP fun ty e1 => ?_
              replace hx := hx.trans (congrArg some e1)
              ((try clear N10); (try clear N11); (try clear F10); (try clear F11); (try clear U10))
              k_steps
              refine Hold.out ?_
              refine newList_K (by k_asm) (by k_asm) (fun D2 h2 F2 N2 l2 => ?_) (Nat.le_of_ble_eq_true rfl)
              k_steps
              refine Hold.out ?_
              refine made_end F2 N2 l2 off (src_in (by walk_at "nz mem")) hS ?_
              rw [take_snoc 0 (by omega), List.map_append]
              exact hK.append kids_one
            · intro cl2 hK2 hS2
              have il : (nv.drop (1 : Int).toNat).toArray.size = ((nums n xs.length).drop 1).length := by
                rw [List.size_toArray, List.length_drop, List.length_drop, nums_length, nvl]
                rfl
              rw [il, List.take_length] at hK2
              have cl2l : cl2.length = xs.length - 1 := by
                rw [len_kids hK2, List.length_map, List.length_drop, nums_length]
              intro D12 h12 tk12 F12 N12 o12
              refine made_c (o := lsOf (refs cl2) (refs cl2).length) N12 o12 hS2 U11 fun N13 U13 => ?_
              ((try clear N10); (try clear N11); (try clear N12); (try clear F10); (try clear F11); (try clear U10); (try clear U11); (try clear K1); (try clear K2); (try clear K3))
              k_steps
              rename Fr _ _ _ _ => F14
              rename News _ _ _ _ => N14
              rename Ap _ _ => U14
              refine' KidJ.mk (cl := cl9 ++ cl2 ++ [(?e1, lsOf [] 0)]) (k := 0) F14 N14 U14 ?sub1 ?hC1 ?hk1 ?hs1 (if_pos rfl) ?mo1
              case hC1 =>
                rw [refs_app, refs_app, hr9]
                exact .head _
              case hk1 =>
                rw [dueKids, if_neg hz]
                exact (hK9.append hK2).append (.cons .nil .nil)
              case sub1 =>
                intro p hp
                exact .tail _ (.tail _ (.tail _ (.tail _ (List.mem_append_right _ (.tail _ (.tail _ (List.mem_append_right _ (.tail _ hp))))))))
              case hs1 =>
                refine sub_a (sub_a ?_ ?_) (sub_c ?_ sub_n)
                · intro p hp
                  walk_at "nz mem"
                · intro p hp
                  walk_at "nz mem"
                · walk_at "nz mem"
              case mo1 => exact fun y h1 h2 => (if_neg h1).trans ((if_neg h2).trans (if_neg h1))
        case after =>
          rintro s' @⟨C, clC, nw, kC, m1, h16, tk16, F16, N16, U16, sub, hC, hk, hs, mc, mo⟩
          have a1 := sub _ (.head _)
          have a2 := sub _ (.tail _ (.head _))
          have a3 := sub _ (.tail _ (.tail _ (.head _)))
          have a6 := sub _ (.tail _ (.tail _ (.tail _ (.tail _ (.tail _ (.head _))))))
          have a7 := sub _ (.tail _ (.tail _ (.tail _ (.tail _ (.tail _ (.tail _ (.head _)))))))
          have a8 := sub _ (.tail _ (.tail _ (.tail _ (.tail _ (.tail _ (.tail _ (.tail _ (.head _))))))))
          have mm : m1 (Str.ofString "many") = some _ := (mo _ (by decide) (by decide)).trans rfl
          have mn : m1 (Str.ofString "numbers") = some _ := (mo _ (by decide) (by decide)).trans rfl
          have ms : m1 (Str.ofString "stops") = some _ := (mo _ (by decide) (by decide)).trans rfl
          have mf : m1 (Str.ofString "fresh") = some _ := (mo _ (by decide) (by decide)).trans rfl
          have mh : m1 (Str.ofString "here") = some _ := (mo _ (by decide) (by decide)).trans rfl
          ((try clear mo); (try clear sub); (try clear U6); (try clear K1); (try clear K2); (try clear K3); (try clear K4); (try clear o8); (try clear F8); (try clear hK); (try clear hS); (try clear Tcl); (try clear Tcz); (try clear Tc); (try clear hP); (try clear yl))
          k_steps
          refine Hold.out ?_
          rename Fr _ _ _ _ => Fa
          k_dflt (refine LCg.ListComp_U (F₀ := Fa) (by rfl) (by decide) (by rfl) (by decide) (by rfl) ?_)
          k_steps
          refine Hold.out ?_
          rename Fr _ _ _ _ => Fb
          rename News _ _ _ _ => Nb
          rename Ap _ _ => Ub
          have hrowT : RowAre w.params z (x.rV.take ((pre.length : Int)).toNat) pre := by
            have := J.rw'.take pre.length
            rw [List.take_left] at this
            rw [Int.toNat_natCast]
            exact this
          have tl := hrowT.length
          refine comp_src (x.rV.take ((pre.length : Int)).toNat) (by rfl) Fb Nb (by walk_at "nz mem") (by omega) fun gg => ?_
          refine comp_inv (fun i ys nw => nw = _ ∧ IntsAre ys ((pre.take i).map (·.1))) ⟨rfl, .nil⟩ ?_ ?_
          · rintro i ys nw9 y I oI C9 oC D m₂ h tk E' hi hP ⟨rfl, hS⟩ hC' hx F3 N3 off ne
            rw [List.size_toArray] at hi
            refine row_c hrowT (Nat.lt_of_lt_of_eq hi tl) hP fun ra rb ta tb na vs e1 e2 _ _ => ?_
            replace hx := hx.trans (congrArg some e1)
            replace e2 := J.zr _ e2
            ((try clear Nb); (try clear N16); (try clear Fb); (try clear Fa); (try clear F16))
            k_steps
            refine Hold.out ?_
            refine comp_same (by k_asm) (by k_asm) off (src_in (by walk_at "nz mem")) ⟨rfl, ?_⟩
            rw [take_snoc (0, Str.ofString "", []) (Nat.lt_of_lt_of_eq hi tl), List.map_append]
            exact ints_snoc hS
          · rintro cv nw9 ⟨rfl, hP1⟩
            rw [List.size_toArray, tl, List.take_length] at hP1
            have cvl := hP1.length
            rw [List.length_map] at cvl
            refine fin_e Ub fun Dc hc tkc Fc Nc Uc => ?_
            ((try clear Fa); (try clear Fb); (try clear Nb))
            have sN := small_of J.H.R J.H.W
            have nxl := sN.x
            have nkl := sN.k
            have nsl := sN.sp
            have nnl := sN.nm
            have npl := sN.p
            k_steps
            refine Hold.out ?_
            rename Fr _ _ _ _ => Fa
            k_dflt (refine LCg.ListComp_U (F₀ := Fa) (by rfl) (by decide) (by rfl) (by decide) (by rfl) ?_)
            k_steps
            refine Hold.out ?_
            rename Fr _ _ _ _ => Fb
            rename News _ _ _ _ => Nb
            rename Ap _ _ => Ub
            refine comp_src xs (by rfl) Fb Nb (by walk_at "nz mem") (by omega) fun gg => ?_
            refine comp_inv (fun i ys nw => nw = _ ∧ StrsAre ys ((fresh.take i).map (·.2.1))) ⟨rfl, .nil⟩ ?_ ?_
            · rintro i ys nw9 y I oI C9 oC D m₂ h tk E' hi hP ⟨rfl, hS⟩ hC' hx F3 N3 off ne
              rw [List.size_toArray] at hi
              refine row_c hrow (Nat.lt_of_lt_of_eq hi hml) hP fun ra rb ta tb na vs e1 e2 _ _ => ?_
              replace hx := hx.trans (congrArg some e1)
              replace e2 := J.zr _ e2
              ((try clear Nb); (try clear N16); (try clear Fb); (try clear Fa); (try clear F16))
              k_steps
              refine Hold.out ?_
              refine comp_same (by k_asm) (by k_asm) off (src_in (by walk_at "nz mem")) ⟨rfl, ?_⟩
              rw [take_snoc (0, Str.ofString "", []) (Nat.lt_of_lt_of_eq hi hml), List.map_append]
              exact strs_snoc hS
            · rintro ev nw9 ⟨rfl, hP2⟩
              rw [List.size_toArray, hml, List.take_length] at hP2
              have evl := len_strs hP2
              rw [List.length_map] at evl
              refine fin_e Ub fun Dd hd tkd Fd Nd Ud => ?_
              ((try clear Fa); (try clear Fb); (try clear Nb))
              k_steps
              refine Hold.out ?_
              rename Fr _ _ _ _ => Fa
              k_dflt (refine LCg.ListComp_U (F₀ := Fa) (by rfl) (by decide) (by rfl) (by decide) (by rfl) ?_)
              k_steps
              refine Hold.out ?_
              rename Fr _ _ _ _ => Fb
              rename News _ _ _ _ => Nb
              rename Ap _ _ => Ub
              have anl := sN.a
              refine comp_src (refs u.aL) (by rfl) Fb Nb (by walk_at "nz mem") (by rw [refs_length]; omega) fun gg => ?_
              refine comp_made (fun i cl => AttrsAre z cl (TT.attrs.take i)) .nil ?_ ?_
              · intro i cl3 y I oI C9 oC D m₂ h tk E' hi hP hK3 hS3 hC' hx F3 N3 off
                rw [List.size_toArray, refs_length] at hi
                have hi9 : i < TT.attrs.length := Nat.lt_of_lt_of_eq hi (len_attrs J.H.R.a)
                refine attrs_c J.H.R.a hi9 hP fun c vs k e1 hc hv => ?_
                replace hx := hx.trans (congrArg some e1)
                have hm : (c, lsOf vs k) ∈ u.led w.params ad := mem_aL hc
                have vl := pairs_length hv
                have vz := J.hat _ (getD_mem (i := i) (d := []) hi9)
                ((try clear Nb); (try clear N16); (try clear Fb); (try clear Fa); (try clear F16))
                k_steps
                refine Hold.out ?_
                refine list_copyK (by k_asm) (by k_asm) (News.isList (by k_asm) (by walk_at "nz mem")) (fun D2 c2 h2 F2 N2 l2 => ?_) (by rw [sizeLine_eq, List.size_toArray, vl]; exact Nat.le_trans vz (by decide))
                k_steps
                refine Hold.out ?_
                refine made_end F2 N2 l2 off (src_in (by walk_at "nz mem")) hS3 ?_
                rw [take_snoc [] hi9]
                exact hK3.append (.cons hv .nil)
              · intro cl3 hK3 hS3
                rw [List.size_toArray, refs_length, len_attrs J.H.R.a, List.take_length] at hK3
                have cl3l : cl3.length = n := (len_attrs hK3).trans J.H.W.a
                intro De he tke Fe Ne oe
                refine made_c (o := lsOf (refs cl3) (refs cl3).length) Ne oe hS3 Ub fun Nf Uf => ?_
                ((try clear Ne); (try clear oe); (try clear Fa); (try clear Fb); (try clear Nb); (try clear K1); (try clear K2); (try clear K3); (try clear Ub))
                k_steps
                refine Hold.out ?_
                rename Fr _ _ _ _ => Fa
                k_dflt (refine LCg.ListComp_U (F₀ := Fa) (by rfl) (by decide) (by rfl) (by decide) (by rfl) ?_)
                k_steps
                refine Hold.out ?_
                rename Fr _ _ _ _ => Fb
                rename News _ _ _ _ => Nb
                rename Ap _ _ => Ub
                refine comp_src xs (by rfl) Fb Nb (by walk_at "nz mem") (by omega) fun gg => ?_
                refine comp_made (fun i cl => AttrsAre z cl ((fresh.take i).map (·.2.2))) .nil ?_ ?_
                · intro i cl4 y I oI C9 oC D m₂ h tk E' hi hP hK4 hS4 hC' hx F3 N3 off
                  rw [List.size_toArray] at hi
                  refine row_c hrow (Nat.lt_of_lt_of_eq hi hml) hP fun ra rb ta tb na vs e1 e2 e3 e4 => ?_
                  replace hx := hx.trans (congrArg some e1)
                  replace e2 := J.zr _ e2
                  have vl := pairs_length e4
                  have vz := J.hae _ (getD_mem (ds := fresh) (d := (0, Str.ofString "", [])) (i := i) (Nat.lt_of_lt_of_eq hi hml))
                  ((try clear Nb); (try clear N16); (try clear Fb); (try clear Fa); (try clear F16); (try clear Nf))
                  k_steps
                  refine Hold.out ?_
                  rename News _ _ _ _ => N20
                  rename Fr _ _ _ _ => F20
                  refine list_copyKT F20 N20 (TupIn.isTup (e3.mono fun y hy => ?zz) N20 (X1.keeps F20.keep)) (fun D2 c2 h2 F2 N2 l2 => ?_) (by rw [sizeLine_eq, List.size_toArray, vl]; exact Nat.le_trans vz (by decide))
                  case zz =>
                    have := J.zr _ hy
                    walk_at "nz mem"
                  ((try clear F20); (try clear N20))
                  k_steps
                  refine Hold.out ?_
                  refine made_end F2 N2 l2 off (src_in (by walk_at "nz mem")) hS4 ?_
                  rw [take_snoc (0, Str.ofString "", []) (Nat.lt_of_lt_of_eq hi hml), List.map_append]
                  exact hK4.append (.cons e4 .nil)
                · intro cl4 hK4 hS4
                  rw [List.size_toArray, hml, List.take_length] at hK4
                  have cl4l := len_attrs hK4
                  rw [List.length_map] at cl4l
                  intro Dg hg tkg Fg Ng og
                  refine made_c (o := lsOf (refs cl4) (refs cl4).length) Ng og hS4 Ub fun Nh Uh => ?_
                  ((try clear Ng); (try clear og); (try clear Fa); (try clear Fb); (try clear Nb); (try clear K1); (try clear K2); (try clear K3); (try clear Ub); (try clear Uf))
                  have q0 := J.q0
                  have tk9 : (List.take ((xs.length : Int)).toNat ([Value.int q t1] ++ nv)).length ≤ 40 := Nat.le_trans (List.length_take_le ..) (by rw [Int.toNat_natCast, hml]; exact Nat.le_trans (Nat.le_trans (Nat.le_add_left _ _) hpl) (by decide))
                  k_steps
                  refine Hold.out ?_
                  rename Fr _ _ _ _ => Fi
                  rename News _ _ _ _ => Ni
                  rename Ap _ _ => Ui
                  refine ap_dict Fi Ni Ui (modules_low (Top.nolimit T1)) J.H.R.lo (by walk_at "nz mem") J.H.R.co J.hco fun Dj oj hj Fj Nj Uj loj Cj => ?_
                  ((try clear Ni); (try clear Fi); (try clear Ui); (try clear Nh); (try clear Uh))
                  k_steps
                  rename News _ _ _ _ => Nk
                  rename Ap _ _ => Uk
                  rename Fr _ _ _ _ => Fk
                  rw [hml] at hN hk
                  have hTk : IntsAre (List.take ((xs.length : Int)).toNat ([Value.int q t1] ++ nv)) ((q :: nums n fresh.length).take fresh.length) := by
                    have e : ((xs.length : Int)).toNat = fresh.length := by rw [Int.toNat_natCast, hml]
                    have := (IntsAre.cons q t1 hN).take ((xs.length : Int)).toNat
                    rw [e] at this ⊢
                    exact this
                  have zr := J.zr
                  refine hret _ _ _ _ ⟨_, _, [_, _, _, _, _, _, _, _, _, _], _, _, rfl, rfl, Uk, .head _, dat10
                    (by walk_at "nz mem") (dat_ints (ro.append hN)) (by walk_at "nz mem") (dat_ints (hP1.append hN)) (by walk_at "nz mem") .nil (by walk_at "nz mem") (dat_strs (strs_app J.H.R.k (strs_rep hml))) (by walk_at "nz mem") (dat_strs (strs_app J.H.R.sp (strs_rep hml)))
                    (by walk_at "nz mem") (dat_strs (strs_app J.H.R.n hP2)) (by walk_at "nz mem") ?att (by walk_at "nz mem") (dat_strs (strs_app J.H.R.x (strs_rep hml))) (by walk_at "nz mem") (dat_ints (J.H.R.p.append hTk)) (by walk_at "nz mem") (dat_kids hk ?kid), .tail _ (.head _), loj, Cj⟩ Fk Nk
                  case att =>
                    rw [← refs_app]
                    refine dat_attrs (hK3.append hK4) (fun p hp => ?s1) (fun p hp => ?s2)
                    case s1 =>
                      rcases List.mem_append.mp hp with hp | hp
                      · walk_at "nz mem"
                      · walk_at "nz mem"
                    case s2 =>
                      have := zr p hp
                      walk_at "nz mem"
                  case kid =>
                    intro p hp
                    have := hs p hp
                    walk_at "nz mem"
end
theorem rows65 : True := by
  k_with_none
  (k_with "nz:omega" => ((k_whole; first | with_reducible assumption | exact Nat.le_refl _ | exact Nat.zero_le _ | exact Nat.le_trans (by with_reducible assumption) (Nat.le_of_ble_eq_true rfl) | exact Nat.ne_of_lt (by with_reducible assumption) | exact Nat.ne_of_gt (by with_reducible assumption) | exact Nat.le_of_lt (by with_reducible assumption) | (with_reducible exact Nz.tnlt0 (by assumption) (by assumption)) | (with_reducible exact Nz.tnlt (by assumption) (by assumption) (by assumption)) | (with_reducible exact Nat.sub_one_lt_of_lt (by assumption)) | (with_reducible exact Nz.lec (by assumption) (by assumption) (Eq.refl true)) | (with_reducible exact Nz.up_le (by assumption) (Eq.refl true)) | (with_reducible exact Nz.n_up) | (with_reducible exact Nz.lt_up (by assumption)) | (with_reducible exact Nz.pa1 (by assumption)) | (with_reducible exact Nz.pa2 (by assumption)) | (with_reducible exact Nz.pa3 (by assumption)) | (with_reducible exact Nz.pa4 (by assumption)) | (with_reducible exact Nat.pred_lt (by assumption)) | (with_reducible exact Nz.kltc (by assumption) (by assumption) (by decide)) | (with_reducible exact Nz.tnm1) | (with_reducible exact Nz.tnx (by assumption)) | (with_reducible exact Nz.tn1 (by assumption)) | (with_reducible exact Nz.tn2 (by assumption)) | (with_reducible exact Nz.tn2m (by assumption)) | (with_reducible exact Nz.tn3m (by assumption)) | (with_reducible exact Nz.m1lt (by assumption)) | lia)))
  (k_with "nz:k_mem" => (((show (_ : Addr × Obj) ∈ (_ : List (Addr × Obj))); (with_reducible show _ ∈ _ ++ _); first | (with_reducible exact List.mem_append_right _ (List.Mem.head _)) | (refine' List.mem_append_left _ ?_; k_mem) | (refine' List.mem_append_right _ ?_; k_mem))))
  (k_with "nz:k_mem" => (((show (_ : Addr × Obj) ∈ (_ : List (Addr × Obj))); (with_reducible show _ ∈ TRaw.led _ _ _); first | exact KidAt.mem (by with_reducible assumption) | exact AttrAt.mem (by with_reducible assumption))))
  (k_with "nz:size_fits" => (((try simp only [List.length_append, List.length_cons, List.length_nil, refs_length]); first | omega | (rw [sizeLine_eq]; omega))))
  (k_with "nz:call builtin:list.append" => ((k_here; (with_reducible show wpAny _ _ (call (Value.builtin _) [Value.ref _, _]) _ _ _); k_dflt (first | (refine' app_kI ?zqk1 ?zqk2 ?zqk3 ?zqk4 ?_; (case zqk1 => k_asm); (case zqk2 => k_asm); (case zqk3 => k_asm); (case zqk4 => size_fits); k_whole) | (refine' app_spI ?zqk1 ?zqk2 ?zqk3 ?zqk4 ?_; (case zqk1 => k_asm); (case zqk2 => k_asm); (case zqk3 => k_asm); (case zqk4 => size_fits); k_whole) | (refine' app_nI ?zqk1 ?zqk2 ?zqk3 ?zqk4 ?_; (case zqk1 => k_asm); (case zqk2 => k_asm); (case zqk3 => k_asm); (case zqk4 => size_fits); k_whole) | (refine' app_aI ?zqk1 ?zqk2 ?zqk3 ?zqk5 ?zqk4 ?_; (case zqk1 => k_asm); (case zqk2 => k_asm); (case zqk3 => k_asm); (case zqk4 => size_fits); (case zqk5 => k_asm); k_whole) | (refine' app_xI ?zqk1 ?zqk2 ?zqk3 ?zqk4 ?_; (case zqk1 => k_asm); (case zqk2 => k_asm); (case zqk3 => k_asm); (case zqk4 => size_fits); k_whole) | (refine' app_pI ?zqk1 ?zqk2 ?zqk3 ?zqk4 ?_; (case zqk1 => k_asm); (case zqk2 => k_asm); (case zqk3 => k_asm); (case zqk4 => size_fits); k_whole) | (refine' app_cI ?zqk1 ?zqk2 ?zqk3 ?zqk5 ?zqk4 ?_; (case zqk1 => k_asm); (case zqk2 => k_asm); (case zqk3 => k_asm); (case zqk4 => size_fits); (case zqk5 => k_asm); k_whole)); intro _ _ _ _; k_sweep)))
  (k_with "nz:call builtin:list.append" => ((k_here; (with_reducible show wpAny _ _ (call (Value.builtin _) [Value.ref _, _]) _ _ _); k_dflt (refine' priv_append ?zqk1 ?zqk2 ?zqk3 ?zqk4 ?zqk5 ?_; (case zqk1 => k_asm); (case zqk2 => with_reducible assumption); (case zqk3 => with_reducible assumption); (case zqk4 => with_reducible assumption); (case zqk5 => size_fits); k_whole); intro _ _ _ _; k_sweep)))
  (k_with "nz:call type:list" => ((k_here; k_dflt (refine' list_of_tup ?zqk1 ?zqk2 ?zqk3 ?zqk4 ?zqk5 ?zqk6 ?_; (case zqk1 => k_asm); (case zqk2 => k_asm); (case zqk3 => k_asm); (case zqk4 => k_asm); (case zqk5 => exact TupIn.mono (by k_asm) (fun _ hq => List.mem_append_right _ hq)); (case zqk6 => size_fits); k_whole); intro _ _ _ _ _ _ _; k_sweep)))
  (k_with "nz:newList" => ((k_here; k_dflt (refine' new_list ?zqk1 ?zqk2 ?zqk3 ?zqk6 ?_; (case zqk1 => k_asm); (case zqk2 => k_asm); (case zqk3 => k_asm); (case zqk6 => first | exact Nat.le_of_ble_eq_true rfl | size_fits); k_whole); intro _ _ _ _ _ _; k_sweep)))
  (k_with "nz:call builtin:len" => ((k_here; (with_reducible show wpAny _ _ (call (Value.builtin _) [Value.ref _]) _ _ _); k_dflt (refine' len_led ?zqk1 ?zqk2 ?zqk3 ?_; (case zqk1 => k_asm); (case zqk2 => k_mem); (case zqk3 => size_fits); k_whole); intro _ _)))
  (k_with "nz:nz en1" => ((refine' enter_ (by k_asm) (by first | exact rfl | assumption) (by first | exact rfl | assumption) (by k_asm) (by k_asm) (by k_asm) (by k_asm) (by k_asm) (by k_asm) (Nat.le_of_ble_eq_true rfl) (Nat.le_of_ble_eq_true rfl) (by k_is) (by k_is) ?_ ?_ ?_ ?_ ?_ ?_ ?_; rotate_left)))
  (k_with "nz:nz en2" => ((exact locs rfl; exact rfl; exact rfl; exact rfl; decide; k_whole; intro _ _ _ _ _ _ _ _ _ _ _ _; (try dsimp only); (with_reducible show wpAny _ _ _ _ _ _))))
  (k_with "nz:nz room" => (first | exact Room.mono (by assumption) (Nat.le_of_ble_eq_true rfl) (Nat.le_of_ble_eq_true rfl) | exact ⟨rfl, by ktr_room, by ktr_units⟩))
  (k_with "nz:RetK" => (((refine retK_ (by k_asm) (by k_asm) ?_); intro zzkF zzkN; ground_anew zzkF; (have zzkX := kFor zzkF (by k_asm)); (try dsimp only))))
  (k_with "nz:nz e1" => ((walk_at "nz en1"; exact BindsTo.of_eq (binds := [(_, _)]) rfl; walk_at "nz en2")))
  (k_with "nz:nz d1" => ((walk_at "nz en1"; exact binds_K (binds := [(_, _)]) (by k_in) rfl (by k_is) rfl rfl rfl; walk_at "nz en2")))
  (k_with "nz:nz e2" => ((walk_at "nz en1"; exact BindsTo.of_eq (binds := [(_, _), (_, _)]) rfl; walk_at "nz en2")))
  (k_with "nz:nz d2" => ((walk_at "nz en1"; exact binds_K (binds := [(_, _), (_, _)]) (by k_in) rfl (by k_is) rfl rfl rfl; walk_at "nz en2")))
  (k_with "nz:nz e3" => ((walk_at "nz en1"; exact BindsTo.of_eq (binds := [(_, _), (_, _), (_, _)]) rfl; walk_at "nz en2")))
  (k_with "nz:nz d3" => ((walk_at "nz en1"; exact binds_K (binds := [(_, _), (_, _), (_, _)]) (by k_in) rfl (by k_is) rfl rfl rfl; walk_at "nz en2")))
  (k_with "nz:nz e4" => ((walk_at "nz en1"; exact BindsTo.of_eq (binds := [(_, _), (_, _), (_, _), (_, _)]) rfl; walk_at "nz en2")))
  (k_with "nz:nz d4" => ((walk_at "nz en1"; exact binds_K (binds := [(_, _), (_, _), (_, _), (_, _)]) (by k_in) rfl (by k_is) rfl rfl rfl; walk_at "nz en2")))
  (k_with "nz:nz e5" => ((walk_at "nz en1"; exact BindsTo.of_eq (binds := [(_, _), (_, _), (_, _), (_, _), (_, _)]) rfl; walk_at "nz en2")))
  (k_with "nz:nz d5" => ((walk_at "nz en1"; exact binds_K (binds := [(_, _), (_, _), (_, _), (_, _), (_, _)]) (by k_in) rfl (by k_is) rfl rfl rfl; walk_at "nz en2")))
  (k_with "nz:nz e6" => ((walk_at "nz en1"; exact BindsTo.of_eq (binds := [(_, _), (_, _), (_, _), (_, _), (_, _), (_, _)]) rfl; walk_at "nz en2")))
  (k_with "nz:nz d6" => ((walk_at "nz en1"; exact binds_K (binds := [(_, _), (_, _), (_, _), (_, _), (_, _), (_, _)]) (by k_in) rfl (by k_is) rfl rfl rfl; walk_at "nz en2")))
  (k_with "nz:call ref" => ((k_here; (with_reducible show wpAny _ _ (call (Value.ref _) _) _ _ _); k_dflt (first | walk_at "nz e2" | walk_at "nz e1" | walk_at "nz e3" | walk_at "nz d4" | walk_at "nz d2" | walk_at "nz d3"))))
  (k_with "nz:eval Name" => ((k_here; k_dflt (refine' ld ?zqk1 ?zqk2 ?_; (case zqk1 => k_asm); (case zqk2 => walk_at "nz look"); k_whole))))
  (k_with "nz:callWith" => (((with_reducible show wpAny _ _ (callWith _ (Value.builtin _) [Value.ref _] _ []) _ _ _); k_dflt (refine callWith_method1 ?_))))
  (k_with "nz:callWith" => (((with_reducible show wpAny _ _ (callWith _ (Value.builtin _) [] _ []) _ _ _); k_dflt (refine callWith_builtin1 ?_))))
  (k_with "nz:callWith ref" => ((k_here; k_dflt (first | (refine' callWith_K ?zqk1 ?zqk2 ?_; (case zqk1 => k_asm); (case zqk2 => k_is); k_whole) | (refine' callWith_K0 ?zqk1 ?zqk2 ?_; (case zqk1 => k_in); (case zqk2 => k_is); k_whole; (try dsimp only [List.append_nil]))))))
  (k_with "nz:getAttr ref" => ((k_here; k_dflt (refine' get_own ?zqk1 ?zqk2 ?zqk3 ?zqk4 ?zqk5 ?zqk6 ?zqk7 ?zqk8 ?zqk9 ?_; (case zqk1 => k_asm); (case zqk2 => k_asm); (case zqk3 => k_inst); (case zqk4 => k_is); (case zqk5 => k_is); (case zqk6 => k_is); (case zqk7 => k_is); (case zqk8 => k_get); (case zqk9 => k_handed); k_whole))))
  (k_with "nz:getMethod ref" => ((k_here; k_dflt (refine' method_inst ?zqk1 ?zqk2 ?zqk3 ?zqk4 ?zqk5 ?zqk6 ?zqk7 ?_; (case zqk1 => k_asm); (case zqk2 => k_asm); (case zqk3 => k_inst); (case zqk4 => k_is); (case zqk5 => k_is); (case zqk6 => k_is); (case zqk7 => k_get); k_whole))))
  (k_with "nz:getMethod ref" => (((with_reducible show wpAny _ _ (getMethod (Value.ref _) (PySem.Str.ofString "pop") _) _ _ _); k_dflt (refine' kl_method ?zqk1 ?zqk2 PySem.F.slot_list_pop PySem.F.type_list_pop ?_; (case zqk1 => k_asm); (case zqk2 => k_mem); k_whole))))
  (k_with "nz:getMethod ref" => (((with_reducible show wpAny _ _ (getMethod (Value.ref _) (PySem.Str.ofString "index") _) _ _ _); k_dflt (refine' kl_method ?zqk1 ?zqk2 PySem.F.slot_list_index PySem.F.type_list_index ?_; (case zqk1 => k_asm); (case zqk2 => k_mem); k_whole))))
  (k_with "nz:getMethod ref" => (((with_reducible show wpAny _ _ (getMethod (Value.ref _) (PySem.Str.ofString "remove") _) _ _ _); k_dflt (refine' kl_method ?zqk1 ?zqk2 PySem.F.slot_list_remove PySem.F.type_list_remove ?_; (case zqk1 => k_asm); (case zqk2 => k_mem); k_whole))))
  (k_with "nz:getMethod ref" => (((with_reducible show wpAny _ _ (getMethod (Value.ref _) (PySem.Str.ofString "insert") _) _ _ _); k_dflt (refine' kl_method ?zqk1 ?zqk2 PySem.F.slot_list_insert PySem.F.type_list_insert ?_; (case zqk1 => k_asm); (case zqk2 => k_mem); k_whole))))
  (k_with "nz:getMethod ref" => (((with_reducible show wpAny _ _ (getMethod (Value.ref _) (PySem.Str.ofString "append") _) _ _ _); k_dflt (refine' kl_method ?zqk1 ?zqk2 PySem.F.slot_list_append PySem.F.type_list_append ?_; (case zqk1 => k_asm); (case zqk2 => k_mem); k_whole))))
  (k_with "nz:subscriptTail Attribute" => ((k_here; (with_reducible show wpAny _ _ (subscriptTail _ _ (Value.ref (TAd.pI _)) (Value.int _ _)) _ _ _); k_dflt (refine' sub_pI ?zqk1 ?zqk2 ?zqk3 ?zqk4 ?zqk5 ?zqk6 ?_ ?zqk7; (case zqk1 => with_reducible assumption); (case zqk2 => k_asm); (case zqk3 => k_mem); (case zqk4 => omega); (case zqk5 => omega); (case zqk6 => omega); (case zqk7 => with_unfolding_all rfl); k_whole; intro _))))
  (k_with "nz:subscriptTail Attribute" => ((k_here; (with_reducible show wpAny _ _ (subscriptTail _ _ (Value.ref (TAd.spI _)) (Value.int _ _)) _ _ _); k_dflt (refine' sub_spI ?zqk1 ?zqk2 ?zqk3 ?zqk4 ?zqk5 ?zqk6 ?_ ?zqk7; (case zqk1 => with_reducible assumption); (case zqk2 => k_asm); (case zqk3 => k_mem); (case zqk4 => omega); (case zqk5 => omega); (case zqk6 => omega); (case zqk7 => with_unfolding_all rfl); k_whole; intro _))))
  (k_with "nz:subscriptTail Attribute" => ((k_here; (with_reducible show wpAny _ _ (subscriptTail _ _ (Value.ref (TAd.nI _)) (Value.int _ _)) _ _ _); k_dflt (refine' sub_nI ?zqk1 ?zqk2 ?zqk3 ?zqk4 ?zqk5 ?zqk6 ?_ ?zqk7; (case zqk1 => with_reducible assumption); (case zqk2 => k_asm); (case zqk3 => k_mem); (case zqk4 => omega); (case zqk5 => omega); (case zqk6 => omega); (case zqk7 => with_unfolding_all rfl); k_whole; intro _))))
  (k_with "nz:subscriptTail Attribute" => ((k_here; (with_reducible show wpAny _ _ (subscriptTail _ _ (Value.ref (TAd.cI _)) (Value.int _ _)) _ _ _); k_dflt (refine' sub_cI ?zqk1 ?zqk2 ?zqk3 ?zqk4 ?zqk5 ?zqk6 ?zqk8 ?_ ?zqk7; (case zqk1 => with_reducible assumption); (case zqk2 => k_asm); (case zqk3 => k_mem); (case zqk4 => omega); (case zqk5 => omega); (case zqk6 => omega); (case zqk8 => with_reducible assumption); (case zqk7 => with_unfolding_all rfl); k_whole; intro _ _ _ _ _ _))))
  (k_with "nz:subscriptTail Attribute" => ((k_here; (with_reducible show wpAny _ _ (subscriptTail _ _ (Value.ref (TAd.aI _)) (Value.int _ _)) _ _ _); k_dflt (refine' sub_aI ?zqk1 ?zqk2 ?zqk3 ?zqk4 ?zqk5 ?zqk6 ?zqk8 ?_ ?zqk7; (case zqk1 => with_reducible assumption); (case zqk2 => k_asm); (case zqk3 => k_mem); (case zqk4 => omega); (case zqk5 => omega); (case zqk6 => omega); (case zqk8 => with_reducible assumption); (case zqk7 => with_unfolding_all rfl); k_whole; intro _ _ _ _ _ _))))
  (k_with "nz:nz look" => (first | exact rfl | with_reducible assumption | (refine' Eq.trans (if_neg ?zqnl) ?zqnk; (case zqnl => decide); (case zqnk => walk_at "nz look"))))
  (k_with "nz:exec While" => (refine Hold.mk' ?_))
  (k_with "nz:WEnd" => (dsimp only [WEnd]))
  (k_with "nz:forall" => ((first | (with_reducible show (_ = true) → _) | (with_reducible show (_ = false) → _)); intro zzhb; (try simp only [bne_iff_ne, ne_eq, beq_iff_eq, beq_eq_false_iff_ne, bne_eq_false_iff_eq, Bool.not_eq_true', Bool.not_eq_false', Bool.and_eq_true, Bool.or_eq_true, Bool.and_eq_false_iff, Bool.or_eq_false_iff, decide_eq_true_eq, decide_eq_false_iff_not, Decidable.not_not] at zzhb); (first | (exfalso; omega) | contradiction | exact Bool.noConfusion (zzhb.symm.trans (by with_reducible assumption : _ = false)) | exact Bool.noConfusion (zzhb.symm.trans (by with_reducible assumption : _ = true)) | skip)))
  (k_with "nz:ite" => ((k_here; first
  | (k_closed; k_dflt (first | refine ite_pos (by decide) ?_ | refine ite_neg (by decide) ?_))
  | with_reducible refine ite_tt ?_
  | with_reducible refine ite_ff ?_
  | (refine split_bool (fun zzhb => ?_) (fun zzhb => ?_); (all_goals (try simp only [bne_iff_ne, ne_eq, beq_iff_eq, beq_eq_false_iff_ne, bne_eq_false_iff_eq, Bool.not_eq_true', Bool.not_eq_false', Bool.and_eq_true, Bool.or_eq_true, Bool.and_eq_false_iff, Bool.or_eq_false_iff, decide_eq_true_eq, decide_eq_false_iff_not, Decidable.not_not] at zzhb)); (all_goals (first | (exfalso; omega) | contradiction | exact Bool.noConfusion (zzhb.symm.trans (by with_reducible assumption : _ = false)) | exact Bool.noConfusion (zzhb.symm.trans (by with_reducible assumption : _ = true)) | skip))))))
  (k_with "nz:call ref" => (((with_reducible show wpAny _ _ (call (Value.ref 318) _) _ _ _); refine Hold.mk' ?_)))
  (k_with "nz:call ref" => (((with_reducible show wpAny _ _ (call (Value.ref 327) _) _ _ _); refine Hold.mk' ?_)))
  (k_with "nz:call ref" => (((with_reducible show wpAny _ _ (call (Value.ref 356) _) _ _ _); refine Hold.mk' ?_)))
  (k_with "nz:call ref" => (((with_reducible show wpAny _ _ (call (Value.ref 363) _) _ _ _); refine Hold.mk' ?_)))
  (k_with "nz:call ref" => (((with_reducible show wpAny _ _ (call (Value.ref 370) _) _ _ _); refine Hold.mk' ?_)))
  (k_with "nz:call ref" => (((with_reducible show wpAny _ _ (call (Value.ref 398) _) _ _ _); refine Hold.mk' ?_)))
  (k_with "nz:call ref" => (((with_reducible show wpAny _ _ (call (Value.ref 405) _) _ _ _); refine Hold.mk' ?_)))
  (k_with "nz:call ref" => (((with_reducible show wpAny _ _ (call (Value.ref 419) _) _ _ _); refine Hold.mk' ?_)))
  (k_with "nz:call ref" => (((with_reducible show wpAny _ _ (call (Value.ref 190) _) _ _ _); refine Hold.mk' ?_)))
  (k_with "nz:call ref" => (((with_reducible show wpAny _ _ (call (Value.ref 35) _) _ _ _); refine Hold.mk' ?_)))
  (k_with "nz:call ref" => (((with_reducible show wpAny _ _ (call (Value.ref 43) _) _ _ _); refine Hold.mk' ?_)))
  (k_with "nz:call ref" => (((with_reducible show wpAny _ _ (call (Value.ref 60) _) _ _ _); refine Hold.mk' ?_)))
  (k_with "nz:call ref" => (((with_reducible show wpAny _ _ (call (Value.ref 67) _) _ _ _); refine Hold.mk' ?_)))
  (k_with "nz:call ref" => (((with_reducible show wpAny _ _ (call (Value.ref 498) _) _ _ _); refine Hold.mk' ?_)))
  (k_with "nz:call ref" => (((with_reducible show wpAny _ _ (call (Value.ref 505) _) _ _ _); refine Hold.mk' ?_)))
  (k_with "nz:call ref" => (((with_reducible show wpAny _ _ (call (Value.ref 512) _) _ _ _); refine Hold.mk' ?_)))
  (k_with "nz:call ref" => (((with_reducible show wpAny _ _ (call (Value.ref 519) _) _ _ _); refine Hold.mk' ?_)))
  (k_with "nz:call ref" => (((with_reducible show wpAny _ _ (call (Value.ref 526) _) _ _ _); refine Hold.mk' ?_)))
  (k_with "nz:call ref" => (((with_reducible show wpAny _ _ (call (Value.ref 531) _) _ _ _); refine Hold.mk' ?_)))
  (k_with "nz:call ref" => (((with_reducible show wpAny _ _ (call (Value.ref 120) _) _ _ _); refine Hold.mk' ?_)))
  (k_with "nz:nz ints" => (first | with_reducible assumption | exact KidAt.iv (by with_reducible assumption) | exact TAbs.p (by with_reducible assumption)))
  (k_with "nz:compareOp In int ref" => ((k_here; k_dflt (refine' in_ints ?zqk1 ?zqk2 ?zqk3 ?_; (case zqk1 => k_asm); (case zqk2 => k_mem); (case zqk3 => walk_at "nz ints"); k_whole))))
  (k_with "nz:compareOp NotIn int ref" => ((k_here; k_dflt (refine' notin_ints ?zqk1 ?zqk2 ?zqk3 ?_; (case zqk1 => k_asm); (case zqk2 => k_mem); (case zqk3 => walk_at "nz ints"); k_whole))))
  (k_with "nz:call builtin:list.index" => ((k_here; k_dflt (refine' index_ints ?zqk1 ?zqk2 ?zqk3 ?zqk4 ?zqk5 ?_; (case zqk1 => k_asm); (case zqk2 => k_mem); (case zqk3 => walk_at "nz ints"); (case zqk4 => k_asm); (case zqk5 => omega); k_whole); intro _)))
  (k_with "nz:call builtin:list.insert" => ((k_here; k_dflt (refine' ins_kid ?zqk1 ?zqk2 ?zqk3 ?zqk4 ?zqk5 ?zqk6 ?zqk7 ?_; (case zqk1 => with_reducible assumption); (case zqk2 => k_asm); (case zqk3 => with_reducible assumption); (case zqk4 => with_reducible assumption); (case zqk5 => omega); (case zqk6 => omega); (case zqk7 => omega); k_whole); intro _ _ _ _ _; k_sweep)))
  (k_with "nz:setItem ref int" => ((k_here; (with_reducible show wpAny _ _ (setItem (Value.ref (TAd.pI _)) _ _) _ _ _); k_dflt (refine' set_pI ?zqk2 ?zqk3 ?zqk4 ?zqk5 ?zqk6 ?zqk7 ?_; (case zqk2 => k_asm); (case zqk3 => with_reducible assumption); (case zqk4 => with_reducible assumption); (case zqk5 => omega); (case zqk6 => (try dsimp only); omega); (case zqk7 => (try dsimp only); omega); k_whole); intro _ _ _ _ _; k_sweep)))
  (k_with "nz:setItem ref int" => ((k_here; (with_reducible show wpAny _ _ (setItem (Value.ref (TAd.coI _)) _ _) _ _ _); k_dflt (refine' co_set ?zqk2 ?zqk3 ?zqk4 ?zqk5 ?zqk6 ?zqk7 ?_; (case zqk2 => k_asm); (case zqk3 => with_reducible assumption); (case zqk4 => with_reducible assumption); (case zqk5 => exact TAbs.co (by with_reducible assumption)); (case zqk6 => assumption); (case zqk7 => (try dsimp only [Tr.add]); omega); k_whole); intro _ _ _ _ _ _; k_sweep)))
  (k_with "nz:nz forV" => ((k_here; (rename Fr _ _ _ _ => zzlF'); (with_unfolding_all refine' For_invVF zzlF' ?zqk1 ?zqk2 ?_; (case zqk1 => exact rfl); (case zqk2 => exact rfl); k_whole))))
  (k_with "nz:exec For Name Name cons nil" => (walk_at "nz forV"))
  (k_with "nz:exec For Name Call cons nil" => (walk_at "nz forV"))
  (k_with "nz:exec For Name Subscript cons nil" => (walk_at "nz forV"))
  (k_with "nz:exec For Name Attribute cons nil" => (walk_at "nz forV"))
  (k_with "nz:pyIter ref" => (refine Hold.mk' ?_))
  (k_with "nz:eval ListComp" => (refine Hold.mk' ?_))
  (k_with "nz:exec Assign cons ListComp" => (refine Hold.mk' ?_))
  (k_with "nz:subscriptTail Name Constant" => ((k_here; (with_reducible show wpAny _ _ (subscriptTail _ _ (Value.ref _) (Value.int _ _)) _ _ _); k_dflt (refine' tup_at ?zqk1 ?zqk2 ?zqk3 ?zqk4 ?zqk5 ?_ ?zqk7; (case zqk1 => k_asm); (case zqk2 => k_mem); (case zqk3 => decide); (case zqk4 => decide); (case zqk5 => rfl); (case zqk7 => with_unfolding_all rfl); k_whole))))
  (k_with "nz:subscriptTail Name" => ((k_here; (with_reducible show wpAny _ _ (subscriptTail _ _ (Value.ref _) (Value.int _ _)) _ _ _); k_dflt (refine' tup_at ?zqk1 ?zqk2 ?zqk3 ?zqk4 ?zqk5 ?_ ?zqk7; (case zqk1 => k_asm); (case zqk2 => k_mem); (case zqk3 => decide); (case zqk4 => decide); (case zqk5 => rfl); (case zqk7 => with_unfolding_all rfl); k_whole))))
  (k_with "nz:subscriptTail Attribute" => ((k_here; (with_reducible show wpAny _ _ (subscriptTail _ _ (Value.ref (BAd.sI _)) (Value.int _ _)) _ _ _); k_dflt (refine' sub_sI ?zqk1 ?zqk2 ?zqk3 ?zqk4 ?zqk5 ?zqk6 ?_ ?zqk7; (case zqk1 => with_reducible assumption); (case zqk2 => k_asm); (case zqk3 => k_mem); (case zqk4 => omega); (case zqk5 => omega); (case zqk6 => omega); (case zqk7 => with_unfolding_all rfl); k_whole; intro _))))
  (k_with "nz:subscriptTail Name" => ((k_here; (with_reducible show wpAny _ _ (subscriptTail _ _ (Value.ref (BAd.sI _)) (Value.int _ _)) _ _ _); k_dflt (refine' sub_sI ?zqk1 ?zqk2 ?zqk3 ?zqk4 ?zqk5 ?zqk6 ?_ ?zqk7; (case zqk1 => with_reducible assumption); (case zqk2 => k_asm); (case zqk3 => k_mem); (case zqk4 => omega); (case zqk5 => omega); (case zqk6 => omega); (case zqk7 => with_unfolding_all rfl); k_whole; intro _))))
  (k_with "nz:subscriptTail Attribute" => ((k_here; (with_reducible show wpAny _ _ (subscriptTail _ _ (Value.ref (BAd.fI _)) (Value.int _ _)) _ _ _); k_dflt (refine' sub_fI ?zqk1 ?zqk2 ?zqk3 ?zqk4 ?zqk5 ?zqk6 ?_ ?zqk7; (case zqk1 => with_reducible assumption); (case zqk2 => k_asm); (case zqk3 => k_mem); (case zqk4 => omega); (case zqk5 => omega); (case zqk6 => omega); (case zqk7 => with_unfolding_all rfl); k_whole; intro _))))
  (k_with "nz:subscriptTail Name" => ((k_here; (with_reducible show wpAny _ _ (subscriptTail _ _ (Value.ref (BAd.fI _)) (Value.int _ _)) _ _ _); k_dflt (refine' sub_fI ?zqk1 ?zqk2 ?zqk3 ?zqk4 ?zqk5 ?zqk6 ?_ ?zqk7; (case zqk1 => with_reducible assumption); (case zqk2 => k_asm); (case zqk3 => k_mem); (case zqk4 => omega); (case zqk5 => omega); (case zqk6 => omega); (case zqk7 => with_unfolding_all rfl); k_whole; intro _))))
  (k_with "nz:call builtin:list.append" => ((k_here; (with_reducible show wpAny _ _ (call (Value.builtin _) [Value.ref (BAd.sI _), _]) _ _ _); k_dflt (refine' app_sI ?zqk1 ?zqk2 ?zqk3 ?zqk4 ?_; (case zqk1 => k_asm); (case zqk2 => with_reducible assumption); (case zqk3 => with_reducible assumption); (case zqk4 => size_fits); k_whole); intro _ _ _ _; k_sweep)))
  (k_with "nz:call builtin:list.append" => ((k_here; (with_reducible show wpAny _ _ (call (Value.builtin _) [Value.ref (BAd.fI _), _]) _ _ _); k_dflt (refine' app_fI ?zqk1 ?zqk2 ?zqk3 ?zqk4 ?_; (case zqk1 => k_asm); (case zqk2 => with_reducible assumption); (case zqk3 => with_reducible assumption); (case zqk4 => size_fits); k_whole); intro _ _ _ _; k_sweep)))
  (k_with "nz:newTuple" => ((k_here; k_dflt (refine' new_tuple2 ?zqk1 ?zqk2 ?zqk3 ?zqk4 ?_; (case zqk1 => k_asm); (case zqk2 => with_reducible assumption); (case zqk3 => with_reducible assumption); (case zqk4 => exact Nat.le_of_ble_eq_true rfl); k_whole); intro _ _ _ _ _ _; k_sweep)))
  (k_with "nz:subscriptTail Attribute" => ((k_here; (with_reducible show wpAny _ _ (subscriptTail _ _ (Value.ref (BAd.sI _)) (Value.int (Nat.cast _) _)) _ _ _); k_dflt (refine' sub_sIn ?zqk1 ?zqk2 ?zqk3 ?zqk5 ?zqk6 ?_ ?zqk7; (case zqk1 => with_reducible assumption); (case zqk2 => k_asm); (case zqk3 => k_mem); (case zqk5 => omega); (case zqk6 => omega); (case zqk7 => with_unfolding_all rfl); k_whole; intro _))))
  (k_with "nz:subscriptTail Name" => ((k_here; (with_reducible show wpAny _ _ (subscriptTail _ _ (Value.ref (BAd.sI _)) (Value.int (Nat.cast _) _)) _ _ _); k_dflt (refine' sub_sIn ?zqk1 ?zqk2 ?zqk3 ?zqk5 ?zqk6 ?_ ?zqk7; (case zqk1 => with_reducible assumption); (case zqk2 => k_asm); (case zqk3 => k_mem); (case zqk5 => omega); (case zqk6 => omega); (case zqk7 => with_unfolding_all rfl); k_whole; intro _))))
  (k_with "nz:subscriptTail Attribute" => ((k_here; (with_reducible show wpAny _ _ (subscriptTail _ _ (Value.ref (BAd.fI _)) (Value.int (Nat.cast _) _)) _ _ _); k_dflt (refine' sub_fIn ?zqk1 ?zqk2 ?zqk3 ?zqk5 ?zqk6 ?_ ?zqk7; (case zqk1 => with_reducible assumption); (case zqk2 => k_asm); (case zqk3 => k_mem); (case zqk5 => omega); (case zqk6 => omega); (case zqk7 => with_unfolding_all rfl); k_whole; intro _))))
  (k_with "nz:subscriptTail Name" => ((k_here; (with_reducible show wpAny _ _ (subscriptTail _ _ (Value.ref (BAd.fI _)) (Value.int (Nat.cast _) _)) _ _ _); k_dflt (refine' sub_fIn ?zqk1 ?zqk2 ?zqk3 ?zqk5 ?zqk6 ?_ ?zqk7; (case zqk1 => with_reducible assumption); (case zqk2 => k_asm); (case zqk3 => k_mem); (case zqk5 => omega); (case zqk6 => omega); (case zqk7 => with_unfolding_all rfl); k_whole; intro _))))
  (k_with "nz:loadName" => ((k_here; k_dflt (refine' ldn ?zqk1 ?zqk2 ?_; (case zqk1 => k_asm); (case zqk2 => walk_at "nz look"); k_whole))))
  (k_with "nz:k_room" => (ktr_room))
  (k_with "nz:compareOp In int ref" => ((k_here; (with_reducible show wpAny _ _ (compareOp _ _ (Value.ref (TAd.coI _))) _ _ _); k_dflt (first
  | (refine' in_co_no ?zqk1 ?zqk2 ?zqk3 ?zqk4 ?_; (case zqk1 => with_reducible assumption); (case zqk2 => k_asm); (case zqk3 => k_mem); (case zqk4 => with_reducible assumption); k_whole)
  | (refine' in_co_yes ?zqk1 ?zqk2 ?zqk3 ?zqk4 ?_; (case zqk1 => with_reducible assumption); (case zqk2 => k_asm); (case zqk3 => k_mem); (case zqk4 => with_reducible assumption); k_whole)))))
  (k_with "nz:subscriptTail Attribute" => ((k_here; (with_reducible show wpAny _ _ (subscriptTail _ _ (Value.ref (TAd.coI _)) (Value.int _ _)) _ _ _); k_dflt (refine' item_co ?zqk1 ?zqk2 ?zqk3 ?zqk4 ?_ ?zqk7; (case zqk1 => with_reducible assumption); (case zqk2 => k_asm); (case zqk3 => k_mem); (case zqk4 => with_reducible assumption); (case zqk7 => with_unfolding_all rfl); k_whole; intro _))))
  (k_with "nz:call ref" => (((with_reducible show wpAny _ _ (call (Value.ref 225) _) _ _ _); refine Hold.mk' ?_)))
  (k_with "nz:k_mem" => (((show (_ : Addr × Obj) ∈ (_ : List (Addr × Obj))); (with_reducible show (TAd.coI _, _) ∈ TRaw.led _ _ _); exact List.mem_of_getElem? (i := 9) rfl)))
  (k_with "nz:call ref" => (((with_reducible show wpAny _ _ (call (Value.ref 28) _) _ _ _); refine Hold.mk' ?_)))
  (k_with "nz:call type:tuple" => ((k_here; k_dflt (refine' tuple_of_list ?zqk1 ?zqk2 ?zqk3 ?zqk4 ?zqk5 ?_; (case zqk1 => k_asm); (case zqk2 => k_asm); (case zqk3 => with_reducible assumption); (case zqk4 => k_mem); (case zqk5 => omega); k_whole); intro _ _ _ _ _ _; k_sweep)))
  (k_with "nz:call ref" => (((with_reducible show wpAny _ _ (call (Value.ref 239) _) _ _ _); refine Hold.mk' ?_)))
  (k_with "nz:setItem ref int" => ((k_here; (with_reducible show wpAny _ _ (setItem (Value.ref (BAd.fI _)) _ _) _ _ _); k_dflt (refine' set_fI ?zqk2 ?zqk3 ?zqk4 ?zqk5 ?zqk6 ?zqk7 ?_; (case zqk2 => k_asm); (case zqk3 => with_reducible assumption); (case zqk4 => with_reducible assumption); (case zqk5 => omega); (case zqk6 => (try dsimp only); omega); (case zqk7 => (try dsimp only); omega); k_whole); intro _ _ _ _ _; k_sweep)))
  (k_with "nz:k_all" => (first | with_reducible assumption | exact lt_ne (by assumption) (by omega) | exact allLt_ne (by assumption) (by omega)))
  (k_with "nz:ktr_units" => ((have _ := cLine_is; (try simp only [units_under_make, units_in1, units_deeper, Around.mark_units, units_caller] at *); (try dsimp only [ktrTop] at *); omega)))
  (k_with "nz:k_upd" => (exact upd_led (Sep2.one (by with_reducible assumption)) 1 rfl))
  (k_with "nz:setAttr ref" => (((with_reducible show wpAny _ _ (setAttr (Value.ref (BAd.b _)) (Str.ofString "head") _) _ _ _); k_dflt (refine' set_head ?zqk1 ?zqk2 ?zqk3 ?zqk4 ?_; (case zqk1 => k_asm); (case zqk2 => k_asm); (case zqk3 => k_asm); (case zqk4 => with_reducible assumption); k_whole); intro _ _ _ _ _; k_sweep)))
  (k_with "nz:setAttr ref" => (((with_reducible show wpAny _ _ (setAttr (Value.ref (BAd.b _)) (Str.ofString "mode") _) _ _ _); k_dflt (refine' set_mode ?zqk1 ?zqk2 ?zqk3 ?zqk4 ?_; (case zqk1 => k_asm); (case zqk2 => k_asm); (case zqk3 => k_asm); (case zqk4 => with_reducible assumption); k_whole); intro _ _ _ _ _; k_sweep)))
  (k_with "nz:setAttr ref" => (((with_reducible show wpAny _ _ (setAttr (Value.ref (BAd.b _)) (Str.ofString "is_foster") _) _ _ _); k_dflt (refine' set_foster ?zqk1 ?zqk2 ?zqk3 ?zqk4 ?_; (case zqk1 => k_asm); (case zqk2 => k_asm); (case zqk3 => k_asm); (case zqk4 => with_reducible assumption); k_whole); intro _ _ _ _ _; k_sweep)))
  (k_with "nz:call" => (((show wpAny _ _ (call (Value.builtin "list.pop") [Value.ref (BAd.sI _)]) _ _ _); k_dflt (refine' pop_sI2 ?zqk1 ?zqk2 ?zqk3 ?zqk4 ?zqk5 ?_; (case zqk2 => k_asm); (case zqk3 => k_asm); (case zqk4 => with_reducible assumption); (case zqk1 => (try dsimp only); assumption); (case zqk5 => first | exact Nat.le_of_ble_eq_true rfl | omega); k_whole); intro _ _ _ _ _ _ _ _; k_sweep)))
  (k_with "nz:k_mem" => (((show (_ : Addr × Obj) ∈ (_ : List (Addr × Obj))); (with_reducible show _ ∈ LRaw.led _ _); first | exact List.mem_of_getElem? (i := 0) rfl | exact List.mem_of_getElem? (i := 1) rfl | exact List.mem_of_getElem? (i := 2) rfl)))
  (k_with "nz:call builtin:list.append" => ((k_here; (with_reducible show wpAny _ _ (call (Value.builtin _) [Value.ref (LAd.oI _), _]) _ _ _); k_dflt (refine' app_oI ?zqk1 ?zqk2 ?zqk3 ?zqk5 ?zqk4 ?_; (case zqk1 => k_asm); (case zqk2 => with_reducible assumption); (case zqk3 => with_reducible assumption); (case zqk5 => with_reducible assumption); (case zqk4 => size_fits); k_whole); intro _ _ _ _ _; k_sweep)))
  (k_with "nz:call builtin:list.append" => ((k_here; (with_reducible show wpAny _ _ (call (Value.builtin _) [Value.ref (LAd.lI _), _]) _ _ _); k_dflt (refine' app_lI ?zqk1 ?zqk2 ?zqk3 ?zqk5 ?zqk4 ?_; (case zqk1 => k_asm); (case zqk2 => with_reducible assumption); (case zqk3 => with_reducible assumption); (case zqk5 => with_reducible assumption); (case zqk4 => size_fits); k_whole); intro _ _ _ _ _; k_sweep)))
  (k_with "nz:call builtin:list.append" => ((k_here; (with_reducible show wpAny _ _ (call (Value.builtin _) [Value.ref (LAd.rI _), _]) _ _ _); k_dflt (refine' app_rI ?zqk1 ?zqk2 ?zqk3 ?zqk5 ?zqk4 ?_; (case zqk1 => k_asm); (case zqk2 => with_reducible assumption); (case zqk3 => with_reducible assumption); (case zqk5 => with_reducible assumption); (case zqk4 => size_fits); k_whole); intro _ _ _ _ _; k_sweep)))
  (k_with "nz:newTuple" => ((k_here; k_dflt (refine' new_tuple3 ?zqk1 ?zqk2 ?zqk3 ?zqk5 ?zqk4 ?_; (case zqk1 => k_asm); (case zqk2 => with_reducible assumption); (case zqk3 => with_reducible assumption); (case zqk5 => with_reducible assumption); (case zqk4 => exact Nat.le_of_ble_eq_true rfl); k_whole); intro _ _ _ _ _ _ _; k_sweep)))
  (k_with "nz:nz strs" => (first | exact StrsAre.nil | (refine' StrsAre.cons _ _ ?zqnh; (case zqnh => walk_at "nz strs"))))
  (k_with "nz:subscriptTail" => (((with_reducible show wpAny _ _ (subscriptTail _ _ (Value.ref _) (Value.int (Int.fmod _ _) _)) _ _ _); k_dflt (refine' tup_strs ?zqk1 ?zqk2 ?zqk3 ?zqk4 ?zqk5 ?zqk6 ?_ ?zqk7; (case zqk1 => k_asm); (case zqk2 => k_mem); (case zqk3 => walk_at "nz strs"); (case zqk4 => exact Int.fmod_nonneg_of_pos _ (by decide)); (case zqk5 => exact Int.fmod_lt_of_pos _ (by decide)); (case zqk6 => exact Nat.le_of_ble_eq_true rfl); (case zqk7 => with_unfolding_all rfl); k_whole); intro _ _ _)))
  (k_with "nz:exec If" => (((with_reducible show wpAny _ _ (exec (Stmt.If (PySem.Expr.Compare (PySem.Expr.BinOp (PySem.Expr.BinOp _ Operator.FloorDiv _ _) Operator.Mod _ _) _ _ _) _ _ _) _) _ _ _); refine Hold.mk' ?_)))
  (k_with "nz:binaryOp Add ref ref" => ((k_here; k_dflt (refine' add_tup3 ?zqk1 ?zqk2 ?zqk3 ?zqk4 ?zqk5 ?zqk6 ?zqk7 ?zqk8 ?zqk9 ?_; (case zqk1 => k_asm); (case zqk2 => with_reducible assumption); (case zqk3 => with_reducible assumption); (case zqk4 => with_reducible assumption); (case zqk5 => k_mem); (case zqk6 => k_mem); (case zqk7 => exact List.cons_ne_nil _ _); (case zqk8 => exact List.cons_ne_nil _ _); (case zqk9 => exact Nat.le_of_ble_eq_true rfl); k_whole); intro _ _ _ _ _ _; k_sweep)))
  (k_with "nz:nz intsL" => (first | exact IntsAre.nil | (refine' IntsAre.cons _ _ ?zqnh; (case zqnh => walk_at "nz intsL"))))
  (k_with "nz:compareOp In int ref" => ((k_here; k_dflt (refine' in_tup_ints ?zqk1 ?zqk2 ?zqk3 ?_; (case zqk1 => k_asm); (case zqk2 => k_mem); (case zqk3 => walk_at "nz intsL"); k_whole))))
  (k_with "nz:exec For Name Subscript cons nil" => (refine Hold.mk' ?_))
  (k_with "nz:UnrEndW" => (refine Hold.mk' ?_))
  (k_with "nz:UnrEnd" => (refine Hold.mk' ?_))
  (k_with "nz:nz tup" => ((k_dflt (refine' tup_ref ?zqk1 ?zqk2 ?zqk3 ?zqk4 ?zqk5 ?_ ?zqk7; (case zqk1 => k_asm); (case zqk2 => k_mem); (case zqk3 => decide); (case zqk4 => decide); (case zqk5 => exact rfl); (case zqk7 => with_unfolding_all rfl); k_whole))))
  (k_with "nz:subscriptTail" => (((with_reducible show wpAny _ _ (subscriptTail _ _ (Value.ref _) (Value.int (OfNat.ofNat _) _)) _ _ _); walk_at "nz tup")))
  (k_with "nz:subscriptTail Name" => (((with_reducible show wpAny _ _ (subscriptTail _ _ (Value.ref (LAd.oI _)) (Value.int _ _)) _ _ _); k_dflt (refine' sub_oIneg ?zqk1 ?zqk2 ?zqk3 ?zqk4 ?zqk5 ?zqk6 ?zqk8 ?_ ?zqk7; (case zqk1 => k_asm); (case zqk2 => k_mem); (case zqk3 => (try dsimp only); assumption); (case zqk4 => decide); (case zqk5 => omega); (case zqk6 => omega); (case zqk8 => assumption); (case zqk7 => with_unfolding_all rfl); k_whole; intro _))))
  (k_with "nz:call builtin:list.remove" => ((k_here; k_dflt (refine' rem_sI ?zqk1 ?zqk2 ?zqk3 ?zqk4 ?zqk5 ?zqk6 ?_; (case zqk1 => with_reducible assumption); (case zqk2 => with_reducible assumption); (case zqk3 => k_asm); (case zqk4 => k_asm); (case zqk5 => with_reducible assumption); (case zqk6 => omega); k_whole); intro _ _ _ _ _ _ _; k_sweep)))
  trivial
section
variable {prog : Program} {w : World} {p : Program} {loose : List Str} {mean : ExcName → Option Value} {mg mb : Str → Option Value} {ad : TAd} {bd : BAd} {u : TRaw} {v : BRaw} {z r : Led} {stack fmt : List Int}
theorem srem_ {i : Int} {t : Tok} (S : Sep2 (v.led w.params ad bd) (u.led w.params ad) r) (B : BAbs v stack fmt) (hi : i ∈ stack) (hl : stack.length ≤ 500) :
    Tells prog w p loose mean mg mb 10 40 246 [.ref bd.st, .int i t] (v.led w.params ad bd ++ (u.led w.params ad ++ r))
      (fun y l' => y = .none ∧ ∃ v', l' = BRaw.led w.params ad bd v' ++ (u.led w.params ad ++ r) ∧ Sep2 (BRaw.led w.params ad bd v') (u.led w.params ad) r ∧ BAbs v' (stack.erase i) fmt ∧ v'.foster = v.foster ∧ v'.mode = v.mode) := by
  unfold Tells
  intro A env outer A₀ base h₀ L m s Q E hA0 hf0 hk' B0 F X N T hR hret
  have sl := B.s.length
  have hB := B.s
  have hd : decide (i ∈ stack) = true := decide_eq_true hi
  walk_at "nz e2"
  k_steps
  rename IntsAre _ (stack.erase i) => iv
  rename Sep2 _ _ _ => S9
  exact hret _ _ _ _ ⟨rfl, _, rfl, S9, ⟨iv, B.f⟩, rfl, rfl⟩ (by k_asm) (by k_asm)
end
theorem rows66 : True := by
  k_with_none
  (k_with "nz:omega" => ((k_whole; first | with_reducible assumption | exact Nat.le_refl _ | exact Nat.zero_le _ | exact Nat.le_trans (by with_reducible assumption) (Nat.le_of_ble_eq_true rfl) | exact Nat.ne_of_lt (by with_reducible assumption) | exact Nat.ne_of_gt (by with_reducible assumption) | exact Nat.le_of_lt (by with_reducible assumption) | (with_reducible exact Nz.tnlt0 (by assumption) (by assumption)) | (with_reducible exact Nz.tnlt (by assumption) (by assumption) (by assumption)) | (with_reducible exact Nat.sub_one_lt_of_lt (by assumption)) | (with_reducible exact Nz.lec (by assumption) (by assumption) (Eq.refl true)) | (with_reducible exact Nz.up_le (by assumption) (Eq.refl true)) | (with_reducible exact Nz.n_up) | (with_reducible exact Nz.lt_up (by assumption)) | (with_reducible exact Nz.pa1 (by assumption)) | (with_reducible exact Nz.pa2 (by assumption)) | (with_reducible exact Nz.pa3 (by assumption)) | (with_reducible exact Nz.pa4 (by assumption)) | (with_reducible exact Nat.pred_lt (by assumption)) | (with_reducible exact Nz.kltc (by assumption) (by assumption) (by decide)) | (with_reducible exact Nz.tnm1) | (with_reducible exact Nz.tnx (by assumption)) | (with_reducible exact Nz.tn1 (by assumption)) | (with_reducible exact Nz.tn2 (by assumption)) | (with_reducible exact Nz.tn2m (by assumption)) | (with_reducible exact Nz.tn3m (by assumption)) | (with_reducible exact Nz.m1lt (by assumption)) | lia)))
  (k_with "nz:k_mem" => (((show (_ : Addr × Obj) ∈ (_ : List (Addr × Obj))); (with_reducible show _ ∈ _ ++ _); first | (with_reducible exact List.mem_append_right _ (List.Mem.head _)) | (refine' List.mem_append_left _ ?_; k_mem) | (refine' List.mem_append_right _ ?_; k_mem))))
  (k_with "nz:k_mem" => (((show (_ : Addr × Obj) ∈ (_ : List (Addr × Obj))); (with_reducible show _ ∈ TRaw.led _ _ _); first | exact KidAt.mem (by with_reducible assumption) | exact AttrAt.mem (by with_reducible assumption))))
  (k_with "nz:size_fits" => (((try simp only [List.length_append, List.length_cons, List.length_nil, refs_length]); first | omega | (rw [sizeLine_eq]; omega))))
  (k_with "nz:call builtin:list.append" => ((k_here; (with_reducible show wpAny _ _ (call (Value.builtin _) [Value.ref _, _]) _ _ _); k_dflt (first | (refine' app_kI ?zqk1 ?zqk2 ?zqk3 ?zqk4 ?_; (case zqk1 => k_asm); (case zqk2 => k_asm); (case zqk3 => k_asm); (case zqk4 => size_fits); k_whole) | (refine' app_spI ?zqk1 ?zqk2 ?zqk3 ?zqk4 ?_; (case zqk1 => k_asm); (case zqk2 => k_asm); (case zqk3 => k_asm); (case zqk4 => size_fits); k_whole) | (refine' app_nI ?zqk1 ?zqk2 ?zqk3 ?zqk4 ?_; (case zqk1 => k_asm); (case zqk2 => k_asm); (case zqk3 => k_asm); (case zqk4 => size_fits); k_whole) | (refine' app_aI ?zqk1 ?zqk2 ?zqk3 ?zqk5 ?zqk4 ?_; (case zqk1 => k_asm); (case zqk2 => k_asm); (case zqk3 => k_asm); (case zqk4 => size_fits); (case zqk5 => k_asm); k_whole) | (refine' app_xI ?zqk1 ?zqk2 ?zqk3 ?zqk4 ?_; (case zqk1 => k_asm); (case zqk2 => k_asm); (case zqk3 => k_asm); (case zqk4 => size_fits); k_whole) | (refine' app_pI ?zqk1 ?zqk2 ?zqk3 ?zqk4 ?_; (case zqk1 => k_asm); (case zqk2 => k_asm); (case zqk3 => k_asm); (case zqk4 => size_fits); k_whole) | (refine' app_cI ?zqk1 ?zqk2 ?zqk3 ?zqk5 ?zqk4 ?_; (case zqk1 => k_asm); (case zqk2 => k_asm); (case zqk3 => k_asm); (case zqk4 => size_fits); (case zqk5 => k_asm); k_whole)); intro _ _ _ _; k_sweep)))
  (k_with "nz:call builtin:list.append" => ((k_here; (with_reducible show wpAny _ _ (call (Value.builtin _) [Value.ref _, _]) _ _ _); k_dflt (refine' priv_append ?zqk1 ?zqk2 ?zqk3 ?zqk4 ?zqk5 ?_; (case zqk1 => k_asm); (case zqk2 => with_reducible assumption); (case zqk3 => with_reducible assumption); (case zqk4 => with_reducible assumption); (case zqk5 => size_fits); k_whole); intro _ _ _ _; k_sweep)))
  (k_with "nz:call type:list" => ((k_here; k_dflt (refine' list_of_tup ?zqk1 ?zqk2 ?zqk3 ?zqk4 ?zqk5 ?zqk6 ?_; (case zqk1 => k_asm); (case zqk2 => k_asm); (case zqk3 => k_asm); (case zqk4 => k_asm); (case zqk5 => exact TupIn.mono (by k_asm) (fun _ hq => List.mem_append_right _ hq)); (case zqk6 => size_fits); k_whole); intro _ _ _ _ _ _ _; k_sweep)))
  (k_with "nz:newList" => ((k_here; k_dflt (refine' new_list ?zqk1 ?zqk2 ?zqk3 ?zqk6 ?_; (case zqk1 => k_asm); (case zqk2 => k_asm); (case zqk3 => k_asm); (case zqk6 => first | exact Nat.le_of_ble_eq_true rfl | size_fits); k_whole); intro _ _ _ _ _ _; k_sweep)))
  (k_with "nz:call builtin:len" => ((k_here; (with_reducible show wpAny _ _ (call (Value.builtin _) [Value.ref _]) _ _ _); k_dflt (refine' len_led ?zqk1 ?zqk2 ?zqk3 ?_; (case zqk1 => k_asm); (case zqk2 => k_mem); (case zqk3 => size_fits); k_whole); intro _ _)))
  (k_with "nz:nz en1" => ((refine' enter_ (by k_asm) (by first | exact rfl | assumption) (by first | exact rfl | assumption) (by k_asm) (by k_asm) (by k_asm) (by k_asm) (by k_asm) (by k_asm) (Nat.le_of_ble_eq_true rfl) (Nat.le_of_ble_eq_true rfl) (by k_is) (by k_is) ?_ ?_ ?_ ?_ ?_ ?_ ?_; rotate_left)))
  (k_with "nz:nz en2" => ((exact locs rfl; exact rfl; exact rfl; exact rfl; decide; k_whole; intro _ _ _ _ _ _ _ _ _ _ _ _; (try dsimp only); (with_reducible show wpAny _ _ _ _ _ _))))
  (k_with "nz:nz room" => (first | exact Room.mono (by assumption) (Nat.le_of_ble_eq_true rfl) (Nat.le_of_ble_eq_true rfl) | exact ⟨rfl, by ktr_room, by ktr_units⟩))
  (k_with "nz:RetK" => (((refine retK_ (by k_asm) (by k_asm) ?_); intro zzkF zzkN; ground_anew zzkF; (have zzkX := kFor zzkF (by k_asm)); (try dsimp only))))
  (k_with "nz:nz e1" => ((walk_at "nz en1"; exact BindsTo.of_eq (binds := [(_, _)]) rfl; walk_at "nz en2")))
  (k_with "nz:nz d1" => ((walk_at "nz en1"; exact binds_K (binds := [(_, _)]) (by k_in) rfl (by k_is) rfl rfl rfl; walk_at "nz en2")))
  (k_with "nz:nz e2" => ((walk_at "nz en1"; exact BindsTo.of_eq (binds := [(_, _), (_, _)]) rfl; walk_at "nz en2")))
  (k_with "nz:nz d2" => ((walk_at "nz en1"; exact binds_K (binds := [(_, _), (_, _)]) (by k_in) rfl (by k_is) rfl rfl rfl; walk_at "nz en2")))
  (k_with "nz:nz e3" => ((walk_at "nz en1"; exact BindsTo.of_eq (binds := [(_, _), (_, _), (_, _)]) rfl; walk_at "nz en2")))
  (k_with "nz:nz d3" => ((walk_at "nz en1"; exact binds_K (binds := [(_, _), (_, _), (_, _)]) (by k_in) rfl (by k_is) rfl rfl rfl; walk_at "nz en2")))
  (k_with "nz:nz e4" => ((walk_at "nz en1"; exact BindsTo.of_eq (binds := [(_, _), (_, _), (_, _), (_, _)]) rfl; walk_at "nz en2")))
  (k_with "nz:nz d4" => ((walk_at "nz en1"; exact binds_K (binds := [(_, _), (_, _), (_, _), (_, _)]) (by k_in) rfl (by k_is) rfl rfl rfl; walk_at "nz en2")))
  (k_with "nz:nz e5" => ((walk_at "nz en1"; exact BindsTo.of_eq (binds := [(_, _), (_, _), (_, _), (_, _), (_, _)]) rfl; walk_at "nz en2")))
  (k_with "nz:nz d5" => ((walk_at "nz en1"; exact binds_K (binds := [(_, _), (_, _), (_, _), (_, _), (_, _)]) (by k_in) rfl (by k_is) rfl rfl rfl; walk_at "nz en2")))
  (k_with "nz:nz e6" => ((walk_at "nz en1"; exact BindsTo.of_eq (binds := [(_, _), (_, _), (_, _), (_, _), (_, _), (_, _)]) rfl; walk_at "nz en2")))
  (k_with "nz:nz d6" => ((walk_at "nz en1"; exact binds_K (binds := [(_, _), (_, _), (_, _), (_, _), (_, _), (_, _)]) (by k_in) rfl (by k_is) rfl rfl rfl; walk_at "nz en2")))
  (k_with "nz:call ref" => ((k_here; (with_reducible show wpAny _ _ (call (Value.ref _) _) _ _ _); k_dflt (first | walk_at "nz e2" | walk_at "nz e1" | walk_at "nz e3" | walk_at "nz d4" | walk_at "nz d2" | walk_at "nz d3"))))
  (k_with "nz:eval Name" => ((k_here; k_dflt (refine' ld ?zqk1 ?zqk2 ?_; (case zqk1 => k_asm); (case zqk2 => walk_at "nz look"); k_whole))))
  (k_with "nz:callWith" => (((with_reducible show wpAny _ _ (callWith _ (Value.builtin _) [Value.ref _] _ []) _ _ _); k_dflt (refine callWith_method1 ?_))))
  (k_with "nz:callWith" => (((with_reducible show wpAny _ _ (callWith _ (Value.builtin _) [] _ []) _ _ _); k_dflt (refine callWith_builtin1 ?_))))
  (k_with "nz:callWith ref" => ((k_here; k_dflt (first | (refine' callWith_K ?zqk1 ?zqk2 ?_; (case zqk1 => k_asm); (case zqk2 => k_is); k_whole) | (refine' callWith_K0 ?zqk1 ?zqk2 ?_; (case zqk1 => k_in); (case zqk2 => k_is); k_whole; (try dsimp only [List.append_nil]))))))
  (k_with "nz:getAttr ref" => ((k_here; k_dflt (refine' get_own ?zqk1 ?zqk2 ?zqk3 ?zqk4 ?zqk5 ?zqk6 ?zqk7 ?zqk8 ?zqk9 ?_; (case zqk1 => k_asm); (case zqk2 => k_asm); (case zqk3 => k_inst); (case zqk4 => k_is); (case zqk5 => k_is); (case zqk6 => k_is); (case zqk7 => k_is); (case zqk8 => k_get); (case zqk9 => k_handed); k_whole))))
  (k_with "nz:getMethod ref" => ((k_here; k_dflt (refine' method_inst ?zqk1 ?zqk2 ?zqk3 ?zqk4 ?zqk5 ?zqk6 ?zqk7 ?_; (case zqk1 => k_asm); (case zqk2 => k_asm); (case zqk3 => k_inst); (case zqk4 => k_is); (case zqk5 => k_is); (case zqk6 => k_is); (case zqk7 => k_get); k_whole))))
  (k_with "nz:getMethod ref" => (((with_reducible show wpAny _ _ (getMethod (Value.ref _) (PySem.Str.ofString "pop") _) _ _ _); k_dflt (refine' kl_method ?zqk1 ?zqk2 PySem.F.slot_list_pop PySem.F.type_list_pop ?_; (case zqk1 => k_asm); (case zqk2 => k_mem); k_whole))))
  (k_with "nz:getMethod ref" => (((with_reducible show wpAny _ _ (getMethod (Value.ref _) (PySem.Str.ofString "index") _) _ _ _); k_dflt (refine' kl_method ?zqk1 ?zqk2 PySem.F.slot_list_index PySem.F.type_list_index ?_; (case zqk1 => k_asm); (case zqk2 => k_mem); k_whole))))
  (k_with "nz:getMethod ref" => (((with_reducible show wpAny _ _ (getMethod (Value.ref _) (PySem.Str.ofString "remove") _) _ _ _); k_dflt (refine' kl_method ?zqk1 ?zqk2 PySem.F.slot_list_remove PySem.F.type_list_remove ?_; (case zqk1 => k_asm); (case zqk2 => k_mem); k_whole))))
  (k_with "nz:getMethod ref" => (((with_reducible show wpAny _ _ (getMethod (Value.ref _) (PySem.Str.ofString "insert") _) _ _ _); k_dflt (refine' kl_method ?zqk1 ?zqk2 PySem.F.slot_list_insert PySem.F.type_list_insert ?_; (case zqk1 => k_asm); (case zqk2 => k_mem); k_whole))))
  (k_with "nz:getMethod ref" => (((with_reducible show wpAny _ _ (getMethod (Value.ref _) (PySem.Str.ofString "append") _) _ _ _); k_dflt (refine' kl_method ?zqk1 ?zqk2 PySem.F.slot_list_append PySem.F.type_list_append ?_; (case zqk1 => k_asm); (case zqk2 => k_mem); k_whole))))
  (k_with "nz:subscriptTail Attribute" => ((k_here; (with_reducible show wpAny _ _ (subscriptTail _ _ (Value.ref (TAd.pI _)) (Value.int _ _)) _ _ _); k_dflt (refine' sub_pI ?zqk1 ?zqk2 ?zqk3 ?zqk4 ?zqk5 ?zqk6 ?_ ?zqk7; (case zqk1 => with_reducible assumption); (case zqk2 => k_asm); (case zqk3 => k_mem); (case zqk4 => omega); (case zqk5 => omega); (case zqk6 => omega); (case zqk7 => with_unfolding_all rfl); k_whole; intro _))))
  (k_with "nz:subscriptTail Attribute" => ((k_here; (with_reducible show wpAny _ _ (subscriptTail _ _ (Value.ref (TAd.spI _)) (Value.int _ _)) _ _ _); k_dflt (refine' sub_spI ?zqk1 ?zqk2 ?zqk3 ?zqk4 ?zqk5 ?zqk6 ?_ ?zqk7; (case zqk1 => with_reducible assumption); (case zqk2 => k_asm); (case zqk3 => k_mem); (case zqk4 => omega); (case zqk5 => omega); (case zqk6 => omega); (case zqk7 => with_unfolding_all rfl); k_whole; intro _))))
  (k_with "nz:subscriptTail Attribute" => ((k_here; (with_reducible show wpAny _ _ (subscriptTail _ _ (Value.ref (TAd.nI _)) (Value.int _ _)) _ _ _); k_dflt (refine' sub_nI ?zqk1 ?zqk2 ?zqk3 ?zqk4 ?zqk5 ?zqk6 ?_ ?zqk7; (case zqk1 => with_reducible assumption); (case zqk2 => k_asm); (case zqk3 => k_mem); (case zqk4 => omega); (case zqk5 => omega); (case zqk6 => omega); (case zqk7 => with_unfolding_all rfl); k_whole; intro _))))
  (k_with "nz:subscriptTail Attribute" => ((k_here; (with_reducible show wpAny _ _ (subscriptTail _ _ (Value.ref (TAd.cI _)) (Value.int _ _)) _ _ _); k_dflt (refine' sub_cI ?zqk1 ?zqk2 ?zqk3 ?zqk4 ?zqk5 ?zqk6 ?zqk8 ?_ ?zqk7; (case zqk1 => with_reducible assumption); (case zqk2 => k_asm); (case zqk3 => k_mem); (case zqk4 => omega); (case zqk5 => omega); (case zqk6 => omega); (case zqk8 => with_reducible assumption); (case zqk7 => with_unfolding_all rfl); k_whole; intro _ _ _ _ _ _))))
  (k_with "nz:subscriptTail Attribute" => ((k_here; (with_reducible show wpAny _ _ (subscriptTail _ _ (Value.ref (TAd.aI _)) (Value.int _ _)) _ _ _); k_dflt (refine' sub_aI ?zqk1 ?zqk2 ?zqk3 ?zqk4 ?zqk5 ?zqk6 ?zqk8 ?_ ?zqk7; (case zqk1 => with_reducible assumption); (case zqk2 => k_asm); (case zqk3 => k_mem); (case zqk4 => omega); (case zqk5 => omega); (case zqk6 => omega); (case zqk8 => with_reducible assumption); (case zqk7 => with_unfolding_all rfl); k_whole; intro _ _ _ _ _ _))))
  (k_with "nz:nz look" => (first | exact rfl | with_reducible assumption | (refine' Eq.trans (if_neg ?zqnl) ?zqnk; (case zqnl => decide); (case zqnk => walk_at "nz look"))))
  (k_with "nz:exec While" => (refine Hold.mk' ?_))
  (k_with "nz:WEnd" => (dsimp only [WEnd]))
  (k_with "nz:forall" => ((first | (with_reducible show (_ = true) → _) | (with_reducible show (_ = false) → _)); intro zzhb; (try simp only [bne_iff_ne, ne_eq, beq_iff_eq, beq_eq_false_iff_ne, bne_eq_false_iff_eq, Bool.not_eq_true', Bool.not_eq_false', Bool.and_eq_true, Bool.or_eq_true, Bool.and_eq_false_iff, Bool.or_eq_false_iff, decide_eq_true_eq, decide_eq_false_iff_not, Decidable.not_not] at zzhb); (first | (exfalso; omega) | contradiction | exact Bool.noConfusion (zzhb.symm.trans (by with_reducible assumption : _ = false)) | exact Bool.noConfusion (zzhb.symm.trans (by with_reducible assumption : _ = true)) | skip)))
  (k_with "nz:ite" => ((k_here; first
  | (k_closed; k_dflt (first | refine ite_pos (by decide) ?_ | refine ite_neg (by decide) ?_))
  | with_reducible refine ite_tt ?_
  | with_reducible refine ite_ff ?_
  | (refine split_bool (fun zzhb => ?_) (fun zzhb => ?_); (all_goals (try simp only [bne_iff_ne, ne_eq, beq_iff_eq, beq_eq_false_iff_ne, bne_eq_false_iff_eq, Bool.not_eq_true', Bool.not_eq_false', Bool.and_eq_true, Bool.or_eq_true, Bool.and_eq_false_iff, Bool.or_eq_false_iff, decide_eq_true_eq, decide_eq_false_iff_not, Decidable.not_not] at zzhb)); (all_goals (first | (exfalso; omega) | contradiction | exact Bool.noConfusion (zzhb.symm.trans (by with_reducible assumption : _ = false)) | exact Bool.noConfusion (zzhb.symm.trans (by with_reducible assumption : _ = true)) | skip))))))
  (k_with "nz:call ref" => (((with_reducible show wpAny _ _ (call (Value.ref 318) _) _ _ _); refine Hold.mk' ?_)))
  (k_with "nz:call ref" => (((with_reducible show wpAny _ _ (call (Value.ref 327) _) _ _ _); refine Hold.mk' ?_)))
  (k_with "nz:call ref" => (((with_reducible show wpAny _ _ (call (Value.ref 356) _) _ _ _); refine Hold.mk' ?_)))
  (k_with "nz:call ref" => (((with_reducible show wpAny _ _ (call (Value.ref 363) _) _ _ _); refine Hold.mk' ?_)))
  (k_with "nz:call ref" => (((with_reducible show wpAny _ _ (call (Value.ref 370) _) _ _ _); refine Hold.mk' ?_)))
  (k_with "nz:call ref" => (((with_reducible show wpAny _ _ (call (Value.ref 398) _) _ _ _); refine Hold.mk' ?_)))
  (k_with "nz:call ref" => (((with_reducible show wpAny _ _ (call (Value.ref 405) _) _ _ _); refine Hold.mk' ?_)))
  (k_with "nz:call ref" => (((with_reducible show wpAny _ _ (call (Value.ref 419) _) _ _ _); refine Hold.mk' ?_)))
  (k_with "nz:call ref" => (((with_reducible show wpAny _ _ (call (Value.ref 190) _) _ _ _); refine Hold.mk' ?_)))
  (k_with "nz:call ref" => (((with_reducible show wpAny _ _ (call (Value.ref 35) _) _ _ _); refine Hold.mk' ?_)))
  (k_with "nz:call ref" => (((with_reducible show wpAny _ _ (call (Value.ref 43) _) _ _ _); refine Hold.mk' ?_)))
  (k_with "nz:call ref" => (((with_reducible show wpAny _ _ (call (Value.ref 60) _) _ _ _); refine Hold.mk' ?_)))
  (k_with "nz:call ref" => (((with_reducible show wpAny _ _ (call (Value.ref 67) _) _ _ _); refine Hold.mk' ?_)))
  (k_with "nz:call ref" => (((with_reducible show wpAny _ _ (call (Value.ref 498) _) _ _ _); refine Hold.mk' ?_)))
  (k_with "nz:call ref" => (((with_reducible show wpAny _ _ (call (Value.ref 505) _) _ _ _); refine Hold.mk' ?_)))
  (k_with "nz:call ref" => (((with_reducible show wpAny _ _ (call (Value.ref 512) _) _ _ _); refine Hold.mk' ?_)))
  (k_with "nz:call ref" => (((with_reducible show wpAny _ _ (call (Value.ref 519) _) _ _ _); refine Hold.mk' ?_)))
  (k_with "nz:call ref" => (((with_reducible show wpAny _ _ (call (Value.ref 526) _) _ _ _); refine Hold.mk' ?_)))
  (k_with "nz:call ref" => (((with_reducible show wpAny _ _ (call (Value.ref 531) _) _ _ _); refine Hold.mk' ?_)))
  (k_with "nz:call ref" => (((with_reducible show wpAny _ _ (call (Value.ref 120) _) _ _ _); refine Hold.mk' ?_)))
  (k_with "nz:nz ints" => (first | with_reducible assumption | exact KidAt.iv (by with_reducible assumption) | exact TAbs.p (by with_reducible assumption)))
  (k_with "nz:compareOp In int ref" => ((k_here; k_dflt (refine' in_ints ?zqk1 ?zqk2 ?zqk3 ?_; (case zqk1 => k_asm); (case zqk2 => k_mem); (case zqk3 => walk_at "nz ints"); k_whole))))
  (k_with "nz:compareOp NotIn int ref" => ((k_here; k_dflt (refine' notin_ints ?zqk1 ?zqk2 ?zqk3 ?_; (case zqk1 => k_asm); (case zqk2 => k_mem); (case zqk3 => walk_at "nz ints"); k_whole))))
  (k_with "nz:call builtin:list.index" => ((k_here; k_dflt (refine' index_ints ?zqk1 ?zqk2 ?zqk3 ?zqk4 ?zqk5 ?_; (case zqk1 => k_asm); (case zqk2 => k_mem); (case zqk3 => walk_at "nz ints"); (case zqk4 => k_asm); (case zqk5 => omega); k_whole); intro _)))
  (k_with "nz:call builtin:list.insert" => ((k_here; k_dflt (refine' ins_kid ?zqk1 ?zqk2 ?zqk3 ?zqk4 ?zqk5 ?zqk6 ?zqk7 ?_; (case zqk1 => with_reducible assumption); (case zqk2 => k_asm); (case zqk3 => with_reducible assumption); (case zqk4 => with_reducible assumption); (case zqk5 => omega); (case zqk6 => omega); (case zqk7 => omega); k_whole); intro _ _ _ _ _; k_sweep)))
  (k_with "nz:setItem ref int" => ((k_here; (with_reducible show wpAny _ _ (setItem (Value.ref (TAd.pI _)) _ _) _ _ _); k_dflt (refine' set_pI ?zqk2 ?zqk3 ?zqk4 ?zqk5 ?zqk6 ?zqk7 ?_; (case zqk2 => k_asm); (case zqk3 => with_reducible assumption); (case zqk4 => with_reducible assumption); (case zqk5 => omega); (case zqk6 => (try dsimp only); omega); (case zqk7 => (try dsimp only); omega); k_whole); intro _ _ _ _ _; k_sweep)))
  (k_with "nz:setItem ref int" => ((k_here; (with_reducible show wpAny _ _ (setItem (Value.ref (TAd.coI _)) _ _) _ _ _); k_dflt (refine' co_set ?zqk2 ?zqk3 ?zqk4 ?zqk5 ?zqk6 ?zqk7 ?_; (case zqk2 => k_asm); (case zqk3 => with_reducible assumption); (case zqk4 => with_reducible assumption); (case zqk5 => exact TAbs.co (by with_reducible assumption)); (case zqk6 => assumption); (case zqk7 => (try dsimp only [Tr.add]); omega); k_whole); intro _ _ _ _ _ _; k_sweep)))
  (k_with "nz:nz forV" => ((k_here; (rename Fr _ _ _ _ => zzlF'); (with_unfolding_all refine' For_invVF zzlF' ?zqk1 ?zqk2 ?_; (case zqk1 => exact rfl); (case zqk2 => exact rfl); k_whole))))
  (k_with "nz:exec For Name Name cons nil" => (walk_at "nz forV"))
  (k_with "nz:exec For Name Call cons nil" => (walk_at "nz forV"))
  (k_with "nz:exec For Name Subscript cons nil" => (walk_at "nz forV"))
  (k_with "nz:exec For Name Attribute cons nil" => (walk_at "nz forV"))
  (k_with "nz:pyIter ref" => (refine Hold.mk' ?_))
  (k_with "nz:eval ListComp" => (refine Hold.mk' ?_))
  (k_with "nz:exec Assign cons ListComp" => (refine Hold.mk' ?_))
  (k_with "nz:subscriptTail Name Constant" => ((k_here; (with_reducible show wpAny _ _ (subscriptTail _ _ (Value.ref _) (Value.int _ _)) _ _ _); k_dflt (refine' tup_at ?zqk1 ?zqk2 ?zqk3 ?zqk4 ?zqk5 ?_ ?zqk7; (case zqk1 => k_asm); (case zqk2 => k_mem); (case zqk3 => decide); (case zqk4 => decide); (case zqk5 => rfl); (case zqk7 => with_unfolding_all rfl); k_whole))))
  (k_with "nz:subscriptTail Name" => ((k_here; (with_reducible show wpAny _ _ (subscriptTail _ _ (Value.ref _) (Value.int _ _)) _ _ _); k_dflt (refine' tup_at ?zqk1 ?zqk2 ?zqk3 ?zqk4 ?zqk5 ?_ ?zqk7; (case zqk1 => k_asm); (case zqk2 => k_mem); (case zqk3 => decide); (case zqk4 => decide); (case zqk5 => rfl); (case zqk7 => with_unfolding_all rfl); k_whole))))
  (k_with "nz:subscriptTail Attribute" => ((k_here; (with_reducible show wpAny _ _ (subscriptTail _ _ (Value.ref (BAd.sI _)) (Value.int _ _)) _ _ _); k_dflt (refine' sub_sI ?zqk1 ?zqk2 ?zqk3 ?zqk4 ?zqk5 ?zqk6 ?_ ?zqk7; (case zqk1 => with_reducible assumption); (case zqk2 => k_asm); (case zqk3 => k_mem); (case zqk4 => omega); (case zqk5 => omega); (case zqk6 => omega); (case zqk7 => with_unfolding_all rfl); k_whole; intro _))))
  (k_with "nz:subscriptTail Name" => ((k_here; (with_reducible show wpAny _ _ (subscriptTail _ _ (Value.ref (BAd.sI _)) (Value.int _ _)) _ _ _); k_dflt (refine' sub_sI ?zqk1 ?zqk2 ?zqk3 ?zqk4 ?zqk5 ?zqk6 ?_ ?zqk7; (case zqk1 => with_reducible assumption); (case zqk2 => k_asm); (case zqk3 => k_mem); (case zqk4 => omega); (case zqk5 => omega); (case zqk6 => omega); (case zqk7 => with_unfolding_all rfl); k_whole; intro _))))
  (k_with "nz:subscriptTail Attribute" => ((k_here; (with_reducible show wpAny _ _ (subscriptTail _ _ (Value.ref (BAd.fI _)) (Value.int _ _)) _ _ _); k_dflt (refine' sub_fI ?zqk1 ?zqk2 ?zqk3 ?zqk4 ?zqk5 ?zqk6 ?_ ?zqk7; (case zqk1 => with_reducible assumption); (case zqk2 => k_asm); (case zqk3 => k_mem); (case zqk4 => omega); (case zqk5 => omega); (case zqk6 => omega); (case zqk7 => with_unfolding_all rfl); k_whole; intro _))))
  (k_with "nz:subscriptTail Name" => ((k_here; (with_reducible show wpAny _ _ (subscriptTail _ _ (Value.ref (BAd.fI _)) (Value.int _ _)) _ _ _); k_dflt (refine' sub_fI ?zqk1 ?zqk2 ?zqk3 ?zqk4 ?zqk5 ?zqk6 ?_ ?zqk7; (case zqk1 => with_reducible assumption); (case zqk2 => k_asm); (case zqk3 => k_mem); (case zqk4 => omega); (case zqk5 => omega); (case zqk6 => omega); (case zqk7 => with_unfolding_all rfl); k_whole; intro _))))
  (k_with "nz:call builtin:list.append" => ((k_here; (with_reducible show wpAny _ _ (call (Value.builtin _) [Value.ref (BAd.sI _), _]) _ _ _); k_dflt (refine' app_sI ?zqk1 ?zqk2 ?zqk3 ?zqk4 ?_; (case zqk1 => k_asm); (case zqk2 => with_reducible assumption); (case zqk3 => with_reducible assumption); (case zqk4 => size_fits); k_whole); intro _ _ _ _; k_sweep)))
  (k_with "nz:call builtin:list.append" => ((k_here; (with_reducible show wpAny _ _ (call (Value.builtin _) [Value.ref (BAd.fI _), _]) _ _ _); k_dflt (refine' app_fI ?zqk1 ?zqk2 ?zqk3 ?zqk4 ?_; (case zqk1 => k_asm); (case zqk2 => with_reducible assumption); (case zqk3 => with_reducible assumption); (case zqk4 => size_fits); k_whole); intro _ _ _ _; k_sweep)))
  (k_with "nz:newTuple" => ((k_here; k_dflt (refine' new_tuple2 ?zqk1 ?zqk2 ?zqk3 ?zqk4 ?_; (case zqk1 => k_asm); (case zqk2 => with_reducible assumption); (case zqk3 => with_reducible assumption); (case zqk4 => exact Nat.le_of_ble_eq_true rfl); k_whole); intro _ _ _ _ _ _; k_sweep)))
  (k_with "nz:subscriptTail Attribute" => ((k_here; (with_reducible show wpAny _ _ (subscriptTail _ _ (Value.ref (BAd.sI _)) (Value.int (Nat.cast _) _)) _ _ _); k_dflt (refine' sub_sIn ?zqk1 ?zqk2 ?zqk3 ?zqk5 ?zqk6 ?_ ?zqk7; (case zqk1 => with_reducible assumption); (case zqk2 => k_asm); (case zqk3 => k_mem); (case zqk5 => omega); (case zqk6 => omega); (case zqk7 => with_unfolding_all rfl); k_whole; intro _))))
  (k_with "nz:subscriptTail Name" => ((k_here; (with_reducible show wpAny _ _ (subscriptTail _ _ (Value.ref (BAd.sI _)) (Value.int (Nat.cast _) _)) _ _ _); k_dflt (refine' sub_sIn ?zqk1 ?zqk2 ?zqk3 ?zqk5 ?zqk6 ?_ ?zqk7; (case zqk1 => with_reducible assumption); (case zqk2 => k_asm); (case zqk3 => k_mem); (case zqk5 => omega); (case zqk6 => omega); (case zqk7 => with_unfolding_all rfl); k_whole; intro _))))
  (k_with "nz:subscriptTail Attribute" => ((k_here; (with_reducible show wpAny _ _ (subscriptTail _ _ (Value.ref (BAd.fI _)) (Value.int (Nat.cast _) _)) _ _ _); k_dflt (refine' sub_fIn ?zqk1 ?zqk2 ?zqk3 ?zqk5 ?zqk6 ?_ ?zqk7; (case zqk1 => with_reducible assumption); (case zqk2 => k_asm); (case zqk3 => k_mem); (case zqk5 => omega); (case zqk6 => omega); (case zqk7 => with_unfolding_all rfl); k_whole; intro _))))
  (k_with "nz:subscriptTail Name" => ((k_here; (with_reducible show wpAny _ _ (subscriptTail _ _ (Value.ref (BAd.fI _)) (Value.int (Nat.cast _) _)) _ _ _); k_dflt (refine' sub_fIn ?zqk1 ?zqk2 ?zqk3 ?zqk5 ?zqk6 ?_ ?zqk7; (case zqk1 => with_reducible assumption); (case zqk2 => k_asm); (case zqk3 => k_mem); (case zqk5 => omega); (case zqk6 => omega); (case zqk7 => with_unfolding_all rfl); k_whole; intro _))))
  (k_with "nz:loadName" => ((k_here; k_dflt (refine' ldn ?zqk1 ?zqk2 ?_; (case zqk1 => k_asm); (case zqk2 => walk_at "nz look"); k_whole))))
  (k_with "nz:k_room" => (ktr_room))
  (k_with "nz:compareOp In int ref" => ((k_here; (with_reducible show wpAny _ _ (compareOp _ _ (Value.ref (TAd.coI _))) _ _ _); k_dflt (first
  | (refine' in_co_no ?zqk1 ?zqk2 ?zqk3 ?zqk4 ?_; (case zqk1 => with_reducible assumption); (case zqk2 => k_asm); (case zqk3 => k_mem); (case zqk4 => with_reducible assumption); k_whole)
  | (refine' in_co_yes ?zqk1 ?zqk2 ?zqk3 ?zqk4 ?_; (case zqk1 => with_reducible assumption); (case zqk2 => k_asm); (case zqk3 => k_mem); (case zqk4 => with_reducible assumption); k_whole)))))
  (k_with "nz:subscriptTail Attribute" => ((k_here; (with_reducible show wpAny _ _ (subscriptTail _ _ (Value.ref (TAd.coI _)) (Value.int _ _)) _ _ _); k_dflt (refine' item_co ?zqk1 ?zqk2 ?zqk3 ?zqk4 ?_ ?zqk7; (case zqk1 => with_reducible assumption); (case zqk2 => k_asm); (case zqk3 => k_mem); (case zqk4 => with_reducible assumption); (case zqk7 => with_unfolding_all rfl); k_whole; intro _))))
  (k_with "nz:call ref" => (((with_reducible show wpAny _ _ (call (Value.ref 225) _) _ _ _); refine Hold.mk' ?_)))
  (k_with "nz:k_mem" => (((show (_ : Addr × Obj) ∈ (_ : List (Addr × Obj))); (with_reducible show (TAd.coI _, _) ∈ TRaw.led _ _ _); exact List.mem_of_getElem? (i := 9) rfl)))
  (k_with "nz:call ref" => (((with_reducible show wpAny _ _ (call (Value.ref 28) _) _ _ _); refine Hold.mk' ?_)))
  (k_with "nz:call type:tuple" => ((k_here; k_dflt (refine' tuple_of_list ?zqk1 ?zqk2 ?zqk3 ?zqk4 ?zqk5 ?_; (case zqk1 => k_asm); (case zqk2 => k_asm); (case zqk3 => with_reducible assumption); (case zqk4 => k_mem); (case zqk5 => omega); k_whole); intro _ _ _ _ _ _; k_sweep)))
  (k_with "nz:call ref" => (((with_reducible show wpAny _ _ (call (Value.ref 239) _) _ _ _); refine Hold.mk' ?_)))
  (k_with "nz:setItem ref int" => ((k_here; (with_reducible show wpAny _ _ (setItem (Value.ref (BAd.fI _)) _ _) _ _ _); k_dflt (refine' set_fI ?zqk2 ?zqk3 ?zqk4 ?zqk5 ?zqk6 ?zqk7 ?_; (case zqk2 => k_asm); (case zqk3 => with_reducible assumption); (case zqk4 => with_reducible assumption); (case zqk5 => omega); (case zqk6 => (try dsimp only); omega); (case zqk7 => (try dsimp only); omega); k_whole); intro _ _ _ _ _; k_sweep)))
  (k_with "nz:k_all" => (first | with_reducible assumption | exact lt_ne (by assumption) (by omega) | exact allLt_ne (by assumption) (by omega)))
  (k_with "nz:ktr_units" => ((have _ := cLine_is; (try simp only [units_under_make, units_in1, units_deeper, Around.mark_units, units_caller] at *); (try dsimp only [ktrTop] at *); omega)))
  (k_with "nz:k_upd" => (exact upd_led (Sep2.one (by with_reducible assumption)) 1 rfl))
  (k_with "nz:setAttr ref" => (((with_reducible show wpAny _ _ (setAttr (Value.ref (BAd.b _)) (Str.ofString "head") _) _ _ _); k_dflt (refine' set_head ?zqk1 ?zqk2 ?zqk3 ?zqk4 ?_; (case zqk1 => k_asm); (case zqk2 => k_asm); (case zqk3 => k_asm); (case zqk4 => with_reducible assumption); k_whole); intro _ _ _ _ _; k_sweep)))
  (k_with "nz:setAttr ref" => (((with_reducible show wpAny _ _ (setAttr (Value.ref (BAd.b _)) (Str.ofString "mode") _) _ _ _); k_dflt (refine' set_mode ?zqk1 ?zqk2 ?zqk3 ?zqk4 ?_; (case zqk1 => k_asm); (case zqk2 => k_asm); (case zqk3 => k_asm); (case zqk4 => with_reducible assumption); k_whole); intro _ _ _ _ _; k_sweep)))
  (k_with "nz:setAttr ref" => (((with_reducible show wpAny _ _ (setAttr (Value.ref (BAd.b _)) (Str.ofString "is_foster") _) _ _ _); k_dflt (refine' set_foster ?zqk1 ?zqk2 ?zqk3 ?zqk4 ?_; (case zqk1 => k_asm); (case zqk2 => k_asm); (case zqk3 => k_asm); (case zqk4 => with_reducible assumption); k_whole); intro _ _ _ _ _; k_sweep)))
  (k_with "nz:call" => (((show wpAny _ _ (call (Value.builtin "list.pop") [Value.ref (BAd.sI _)]) _ _ _); k_dflt (refine' pop_sI2 ?zqk1 ?zqk2 ?zqk3 ?zqk4 ?zqk5 ?_; (case zqk2 => k_asm); (case zqk3 => k_asm); (case zqk4 => with_reducible assumption); (case zqk1 => (try dsimp only); assumption); (case zqk5 => first | exact Nat.le_of_ble_eq_true rfl | omega); k_whole); intro _ _ _ _ _ _ _ _; k_sweep)))
  (k_with "nz:k_mem" => (((show (_ : Addr × Obj) ∈ (_ : List (Addr × Obj))); (with_reducible show _ ∈ LRaw.led _ _); first | exact List.mem_of_getElem? (i := 0) rfl | exact List.mem_of_getElem? (i := 1) rfl | exact List.mem_of_getElem? (i := 2) rfl)))
  (k_with "nz:call builtin:list.append" => ((k_here; (with_reducible show wpAny _ _ (call (Value.builtin _) [Value.ref (LAd.oI _), _]) _ _ _); k_dflt (refine' app_oI ?zqk1 ?zqk2 ?zqk3 ?zqk5 ?zqk4 ?_; (case zqk1 => k_asm); (case zqk2 => with_reducible assumption); (case zqk3 => with_reducible assumption); (case zqk5 => with_reducible assumption); (case zqk4 => size_fits); k_whole); intro _ _ _ _ _; k_sweep)))
  (k_with "nz:call builtin:list.append" => ((k_here; (with_reducible show wpAny _ _ (call (Value.builtin _) [Value.ref (LAd.lI _), _]) _ _ _); k_dflt (refine' app_lI ?zqk1 ?zqk2 ?zqk3 ?zqk5 ?zqk4 ?_; (case zqk1 => k_asm); (case zqk2 => with_reducible assumption); (case zqk3 => with_reducible assumption); (case zqk5 => with_reducible assumption); (case zqk4 => size_fits); k_whole); intro _ _ _ _ _; k_sweep)))
  (k_with "nz:call builtin:list.append" => ((k_here; (with_reducible show wpAny _ _ (call (Value.builtin _) [Value.ref (LAd.rI _), _]) _ _ _); k_dflt (refine' app_rI ?zqk1 ?zqk2 ?zqk3 ?zqk5 ?zqk4 ?_; (case zqk1 => k_asm); (case zqk2 => with_reducible assumption); (case zqk3 => with_reducible assumption); (case zqk5 => with_reducible assumption); (case zqk4 => size_fits); k_whole); intro _ _ _ _ _; k_sweep)))
  (k_with "nz:newTuple" => ((k_here; k_dflt (refine' new_tuple3 ?zqk1 ?zqk2 ?zqk3 ?zqk5 ?zqk4 ?_; (case zqk1 => k_asm); (case zqk2 => with_reducible assumption); (case zqk3 => with_reducible assumption); (case zqk5 => with_reducible assumption); (case zqk4 => exact Nat.le_of_ble_eq_true rfl); k_whole); intro _ _ _ _ _ _ _; k_sweep)))
  (k_with "nz:nz strs" => (first | exact StrsAre.nil | (refine' StrsAre.cons _ _ ?zqnh; (case zqnh => walk_at "nz strs"))))
  (k_with "nz:subscriptTail" => (((with_reducible show wpAny _ _ (subscriptTail _ _ (Value.ref _) (Value.int (Int.fmod _ _) _)) _ _ _); k_dflt (refine' tup_strs ?zqk1 ?zqk2 ?zqk3 ?zqk4 ?zqk5 ?zqk6 ?_ ?zqk7; (case zqk1 => k_asm); (case zqk2 => k_mem); (case zqk3 => walk_at "nz strs"); (case zqk4 => exact Int.fmod_nonneg_of_pos _ (by decide)); (case zqk5 => exact Int.fmod_lt_of_pos _ (by decide)); (case zqk6 => exact Nat.le_of_ble_eq_true rfl); (case zqk7 => with_unfolding_all rfl); k_whole); intro _ _ _)))
  (k_with "nz:exec If" => (((with_reducible show wpAny _ _ (exec (Stmt.If (PySem.Expr.Compare (PySem.Expr.BinOp (PySem.Expr.BinOp _ Operator.FloorDiv _ _) Operator.Mod _ _) _ _ _) _ _ _) _) _ _ _); refine Hold.mk' ?_)))
  (k_with "nz:binaryOp Add ref ref" => ((k_here; k_dflt (refine' add_tup3 ?zqk1 ?zqk2 ?zqk3 ?zqk4 ?zqk5 ?zqk6 ?zqk7 ?zqk8 ?zqk9 ?_; (case zqk1 => k_asm); (case zqk2 => with_reducible assumption); (case zqk3 => with_reducible assumption); (case zqk4 => with_reducible assumption); (case zqk5 => k_mem); (case zqk6 => k_mem); (case zqk7 => exact List.cons_ne_nil _ _); (case zqk8 => exact List.cons_ne_nil _ _); (case zqk9 => exact Nat.le_of_ble_eq_true rfl); k_whole); intro _ _ _ _ _ _; k_sweep)))
  (k_with "nz:nz intsL" => (first | exact IntsAre.nil | (refine' IntsAre.cons _ _ ?zqnh; (case zqnh => walk_at "nz intsL"))))
  (k_with "nz:compareOp In int ref" => ((k_here; k_dflt (refine' in_tup_ints ?zqk1 ?zqk2 ?zqk3 ?_; (case zqk1 => k_asm); (case zqk2 => k_mem); (case zqk3 => walk_at "nz intsL"); k_whole))))
  (k_with "nz:exec For Name Subscript cons nil" => (refine Hold.mk' ?_))
  (k_with "nz:UnrEndW" => (refine Hold.mk' ?_))
  (k_with "nz:UnrEnd" => (refine Hold.mk' ?_))
  (k_with "nz:nz tup" => ((k_dflt (refine' tup_ref ?zqk1 ?zqk2 ?zqk3 ?zqk4 ?zqk5 ?_ ?zqk7; (case zqk1 => k_asm); (case zqk2 => k_mem); (case zqk3 => decide); (case zqk4 => decide); (case zqk5 => exact rfl); (case zqk7 => with_unfolding_all rfl); k_whole))))
  (k_with "nz:subscriptTail" => (((with_reducible show wpAny _ _ (subscriptTail _ _ (Value.ref _) (Value.int (OfNat.ofNat _) _)) _ _ _); walk_at "nz tup")))
  (k_with "nz:subscriptTail Name" => (((with_reducible show wpAny _ _ (subscriptTail _ _ (Value.ref (LAd.oI _)) (Value.int _ _)) _ _ _); k_dflt (refine' sub_oIneg ?zqk1 ?zqk2 ?zqk3 ?zqk4 ?zqk5 ?zqk6 ?zqk8 ?_ ?zqk7; (case zqk1 => k_asm); (case zqk2 => k_mem); (case zqk3 => (try dsimp only); assumption); (case zqk4 => decide); (case zqk5 => omega); (case zqk6 => omega); (case zqk8 => assumption); (case zqk7 => with_unfolding_all rfl); k_whole; intro _))))
  (k_with "nz:newTuple" => ((k_here; k_dflt (refine' ap_tuple ?zqk1 ?zqk2 ?zqk3 ?zqk4 ?_; (case zqk1 => k_asm); (case zqk2 => k_asm); (case zqk3 => with_reducible assumption); (case zqk4 => exact Nat.le_of_ble_eq_true rfl); k_whole); intro _ _ _ _ _; k_sweep)))
  (k_with "nz:nz e0" => ((walk_at "nz en1"; exact BindsTo.of_eq (binds := []) rfl; walk_at "nz en2")))
  trivial
section
variable {prog : Program} {w : World} {p : Program} {loose : List Str} {mean : ExcName → Option Value} {mg mb : Str → Option Value} {r : Led}
def BasesAt (nw : Led) (B : Addr) : Prop := ∃ bs, (B, tupOf bs 0) ∈ nw ∧ ∀ i : Nat, i < 4 → ∃ a vs ns, bs[i]? = some (.ref a) ∧ (a, tupOf vs 0) ∈ nw ∧ IntsAre vs ns ∧ ns.length = 8
theorem bases_ : Tells prog w p loose mean mg mb 10 40 505 [] r (fun y l' => ∃ B nw, y = .ref B ∧ l' = nw ++ r ∧ Ap nw r ∧ BasesAt nw B) := by
  unfold Tells
  intro A env outer A₀ base h₀ L m s Q E hA0 hf0 hk' B0 F X N T hR hret
  replace N : News h₀ L s.heap ([] ++ r) := N
  have U : Ap [] r := fun _ h => nomatch h
  walk_at "nz e0"
  k_steps
  rename Ap _ _ => U9
  refine hret _ _ _ _ ⟨_, _, rfl, rfl, U9, _, .head _, fun i hi => ?_⟩ (by k_asm) (by k_asm)
  have h : i = 0 ∨ i = 1 ∨ i = 2 ∨ i = 3 := by omega
  rcases h with rfl | rfl | rfl | rfl
  · exact ⟨_, _, _, rfl, .tail _ (.tail _ (.tail _ (.tail _ (.head _)))), .cons _ _ (.cons _ _ (.cons _ _ (.cons _ _ (.cons _ _ (.cons _ _ (.cons _ _ (.cons _ _ .nil))))))), rfl⟩
  · exact ⟨_, _, _, rfl, .tail _ (.tail _ (.tail _ (.head _))), .cons _ _ (.cons _ _ (.cons _ _ (.cons _ _ (.cons _ _ (.cons _ _ (.cons _ _ (.cons _ _ .nil))))))), rfl⟩
  · exact ⟨_, _, _, rfl, .tail _ (.tail _ (.head _)), .cons _ _ (.cons _ _ (.cons _ _ (.cons _ _ (.cons _ _ (.cons _ _ (.cons _ _ (.cons _ _ .nil))))))), rfl⟩
  · exact ⟨_, _, _, rfl, .tail _ (.head _), .cons _ _ (.cons _ _ (.cons _ _ (.cons _ _ (.cons _ _ (.cons _ _ (.cons _ _ (.cons _ _ .nil))))))), rfl⟩
end
theorem rows70 : True := by
  k_with_none
  (k_with "nz:omega" => ((k_whole; first | with_reducible assumption | exact Nat.le_refl _ | exact Nat.zero_le _ | exact Nat.le_trans (by with_reducible assumption) (Nat.le_of_ble_eq_true rfl) | exact Nat.ne_of_lt (by with_reducible assumption) | exact Nat.ne_of_gt (by with_reducible assumption) | exact Nat.le_of_lt (by with_reducible assumption) | (with_reducible exact Nz.tnlt0 (by assumption) (by assumption)) | (with_reducible exact Nz.tnlt (by assumption) (by assumption) (by assumption)) | (with_reducible exact Nat.sub_one_lt_of_lt (by assumption)) | (with_reducible exact Nz.lec (by assumption) (by assumption) (Eq.refl true)) | (with_reducible exact Nz.up_le (by assumption) (Eq.refl true)) | (with_reducible exact Nz.n_up) | (with_reducible exact Nz.lt_up (by assumption)) | (with_reducible exact Nz.pa1 (by assumption)) | (with_reducible exact Nz.pa2 (by assumption)) | (with_reducible exact Nz.pa3 (by assumption)) | (with_reducible exact Nz.pa4 (by assumption)) | (with_reducible exact Nat.pred_lt (by assumption)) | (with_reducible exact Nz.kltc (by assumption) (by assumption) (by decide)) | (with_reducible exact Nz.tnm1) | (with_reducible exact Nz.tnx (by assumption)) | (with_reducible exact Nz.tn1 (by assumption)) | (with_reducible exact Nz.tn2 (by assumption)) | (with_reducible exact Nz.tn2m (by assumption)) | (with_reducible exact Nz.tn3m (by assumption)) | (with_reducible exact Nz.m1lt (by assumption)) | lia)))
  (k_with "nz:k_mem" => (((show (_ : Addr × Obj) ∈ (_ : List (Addr × Obj))); (with_reducible show _ ∈ _ ++ _); first | (with_reducible exact List.mem_append_right _ (List.Mem.head _)) | (refine' List.mem_append_left _ ?_; k_mem) | (refine' List.mem_append_right _ ?_; k_mem))))
  (k_with "nz:k_mem" => (((show (_ : Addr × Obj) ∈ (_ : List (Addr × Obj))); (with_reducible show _ ∈ TRaw.led _ _ _); first | exact KidAt.mem (by with_reducible assumption) | exact AttrAt.mem (by with_reducible assumption))))
  (k_with "nz:size_fits" => (((try simp only [List.length_append, List.length_cons, List.length_nil, refs_length]); first | omega | (rw [sizeLine_eq]; omega))))
  (k_with "nz:call builtin:list.append" => ((k_here; (with_reducible show wpAny _ _ (call (Value.builtin _) [Value.ref _, _]) _ _ _); k_dflt (first | (refine' app_kI ?zqk1 ?zqk2 ?zqk3 ?zqk4 ?_; (case zqk1 => k_asm); (case zqk2 => k_asm); (case zqk3 => k_asm); (case zqk4 => size_fits); k_whole) | (refine' app_spI ?zqk1 ?zqk2 ?zqk3 ?zqk4 ?_; (case zqk1 => k_asm); (case zqk2 => k_asm); (case zqk3 => k_asm); (case zqk4 => size_fits); k_whole) | (refine' app_nI ?zqk1 ?zqk2 ?zqk3 ?zqk4 ?_; (case zqk1 => k_asm); (case zqk2 => k_asm); (case zqk3 => k_asm); (case zqk4 => size_fits); k_whole) | (refine' app_aI ?zqk1 ?zqk2 ?zqk3 ?zqk5 ?zqk4 ?_; (case zqk1 => k_asm); (case zqk2 => k_asm); (case zqk3 => k_asm); (case zqk4 => size_fits); (case zqk5 => k_asm); k_whole) | (refine' app_xI ?zqk1 ?zqk2 ?zqk3 ?zqk4 ?_; (case zqk1 => k_asm); (case zqk2 => k_asm); (case zqk3 => k_asm); (case zqk4 => size_fits); k_whole) | (refine' app_pI ?zqk1 ?zqk2 ?zqk3 ?zqk4 ?_; (case zqk1 => k_asm); (case zqk2 => k_asm); (case zqk3 => k_asm); (case zqk4 => size_fits); k_whole) | (refine' app_cI ?zqk1 ?zqk2 ?zqk3 ?zqk5 ?zqk4 ?_; (case zqk1 => k_asm); (case zqk2 => k_asm); (case zqk3 => k_asm); (case zqk4 => size_fits); (case zqk5 => k_asm); k_whole)); intro _ _ _ _; k_sweep)))
  (k_with "nz:call builtin:list.append" => ((k_here; (with_reducible show wpAny _ _ (call (Value.builtin _) [Value.ref _, _]) _ _ _); k_dflt (refine' priv_append ?zqk1 ?zqk2 ?zqk3 ?zqk4 ?zqk5 ?_; (case zqk1 => k_asm); (case zqk2 => with_reducible assumption); (case zqk3 => with_reducible assumption); (case zqk4 => with_reducible assumption); (case zqk5 => size_fits); k_whole); intro _ _ _ _; k_sweep)))
  (k_with "nz:call type:list" => ((k_here; k_dflt (refine' list_of_tup ?zqk1 ?zqk2 ?zqk3 ?zqk4 ?zqk5 ?zqk6 ?_; (case zqk1 => k_asm); (case zqk2 => k_asm); (case zqk3 => k_asm); (case zqk4 => k_asm); (case zqk5 => exact TupIn.mono (by k_asm) (fun _ hq => List.mem_append_right _ hq)); (case zqk6 => size_fits); k_whole); intro _ _ _ _ _ _ _; k_sweep)))
  (k_with "nz:newList" => ((k_here; k_dflt (refine' new_list ?zqk1 ?zqk2 ?zqk3 ?zqk6 ?_; (case zqk1 => k_asm); (case zqk2 => k_asm); (case zqk3 => k_asm); (case zqk6 => first | exact Nat.le_of_ble_eq_true rfl | size_fits); k_whole); intro _ _ _ _ _ _; k_sweep)))
  (k_with "nz:call builtin:len" => ((k_here; (with_reducible show wpAny _ _ (call (Value.builtin _) [Value.ref _]) _ _ _); k_dflt (refine' len_led ?zqk1 ?zqk2 ?zqk3 ?_; (case zqk1 => k_asm); (case zqk2 => k_mem); (case zqk3 => size_fits); k_whole); intro _ _)))
  (k_with "nz:nz en1" => ((refine' enter_ (by k_asm) (by first | exact rfl | assumption) (by first | exact rfl | assumption) (by k_asm) (by k_asm) (by k_asm) (by k_asm) (by k_asm) (by k_asm) (Nat.le_of_ble_eq_true rfl) (Nat.le_of_ble_eq_true rfl) (by k_is) (by k_is) ?_ ?_ ?_ ?_ ?_ ?_ ?_; rotate_left)))
  (k_with "nz:nz en2" => ((exact locs rfl; exact rfl; exact rfl; exact rfl; decide; k_whole; intro _ _ _ _ _ _ _ _ _ _ _ _; (try dsimp only); (with_reducible show wpAny _ _ _ _ _ _))))
  (k_with "nz:nz room" => (first | exact Room.mono (by assumption) (Nat.le_of_ble_eq_true rfl) (Nat.le_of_ble_eq_true rfl) | exact ⟨rfl, by ktr_room, by ktr_units⟩))
  (k_with "nz:RetK" => (((refine retK_ (by k_asm) (by k_asm) ?_); intro zzkF zzkN; ground_anew zzkF; (have zzkX := kFor zzkF (by k_asm)); (try dsimp only))))
  (k_with "nz:nz e1" => ((walk_at "nz en1"; exact BindsTo.of_eq (binds := [(_, _)]) rfl; walk_at "nz en2")))
  (k_with "nz:nz d1" => ((walk_at "nz en1"; exact binds_K (binds := [(_, _)]) (by k_in) rfl (by k_is) rfl rfl rfl; walk_at "nz en2")))
  (k_with "nz:nz e2" => ((walk_at "nz en1"; exact BindsTo.of_eq (binds := [(_, _), (_, _)]) rfl; walk_at "nz en2")))
  (k_with "nz:nz d2" => ((walk_at "nz en1"; exact binds_K (binds := [(_, _), (_, _)]) (by k_in) rfl (by k_is) rfl rfl rfl; walk_at "nz en2")))
  (k_with "nz:nz e3" => ((walk_at "nz en1"; exact BindsTo.of_eq (binds := [(_, _), (_, _), (_, _)]) rfl; walk_at "nz en2")))
  (k_with "nz:nz d3" => ((walk_at "nz en1"; exact binds_K (binds := [(_, _), (_, _), (_, _)]) (by k_in) rfl (by k_is) rfl rfl rfl; walk_at "nz en2")))
  (k_with "nz:nz e4" => ((walk_at "nz en1"; exact BindsTo.of_eq (binds := [(_, _), (_, _), (_, _), (_, _)]) rfl; walk_at "nz en2")))
  (k_with "nz:nz d4" => ((walk_at "nz en1"; exact binds_K (binds := [(_, _), (_, _), (_, _), (_, _)]) (by k_in) rfl (by k_is) rfl rfl rfl; walk_at "nz en2")))
  (k_with "nz:nz e5" => ((walk_at "nz en1"; exact BindsTo.of_eq (binds := [(_, _), (_, _), (_, _), (_, _), (_, _)]) rfl; walk_at "nz en2")))
  (k_with "nz:nz d5" => ((walk_at "nz en1"; exact binds_K (binds := [(_, _), (_, _), (_, _), (_, _), (_, _)]) (by k_in) rfl (by k_is) rfl rfl rfl; walk_at "nz en2")))
  (k_with "nz:nz e6" => ((walk_at "nz en1"; exact BindsTo.of_eq (binds := [(_, _), (_, _), (_, _), (_, _), (_, _), (_, _)]) rfl; walk_at "nz en2")))
  (k_with "nz:nz d6" => ((walk_at "nz en1"; exact binds_K (binds := [(_, _), (_, _), (_, _), (_, _), (_, _), (_, _)]) (by k_in) rfl (by k_is) rfl rfl rfl; walk_at "nz en2")))
  (k_with "nz:call ref" => ((k_here; (with_reducible show wpAny _ _ (call (Value.ref _) _) _ _ _); k_dflt (first | walk_at "nz e2" | walk_at "nz e1" | walk_at "nz e3" | walk_at "nz d4" | walk_at "nz d2" | walk_at "nz d3"))))
  (k_with "nz:eval Name" => ((k_here; k_dflt (refine' ld ?zqk1 ?zqk2 ?_; (case zqk1 => k_asm); (case zqk2 => walk_at "nz look"); k_whole))))
  (k_with "nz:callWith" => (((with_reducible show wpAny _ _ (callWith _ (Value.builtin _) [Value.ref _] _ []) _ _ _); k_dflt (refine callWith_method1 ?_))))
  (k_with "nz:callWith" => (((with_reducible show wpAny _ _ (callWith _ (Value.builtin _) [] _ []) _ _ _); k_dflt (refine callWith_builtin1 ?_))))
  (k_with "nz:callWith ref" => ((k_here; k_dflt (first | (refine' callWith_K ?zqk1 ?zqk2 ?_; (case zqk1 => k_asm); (case zqk2 => k_is); k_whole) | (refine' callWith_K0 ?zqk1 ?zqk2 ?_; (case zqk1 => k_in); (case zqk2 => k_is); k_whole; (try dsimp only [List.append_nil]))))))
  (k_with "nz:getAttr ref" => ((k_here; k_dflt (refine' get_own ?zqk1 ?zqk2 ?zqk3 ?zqk4 ?zqk5 ?zqk6 ?zqk7 ?zqk8 ?zqk9 ?_; (case zqk1 => k_asm); (case zqk2 => k_asm); (case zqk3 => k_inst); (case zqk4 => k_is); (case zqk5 => k_is); (case zqk6 => k_is); (case zqk7 => k_is); (case zqk8 => k_get); (case zqk9 => k_handed); k_whole))))
  (k_with "nz:getMethod ref" => ((k_here; k_dflt (refine' method_inst ?zqk1 ?zqk2 ?zqk3 ?zqk4 ?zqk5 ?zqk6 ?zqk7 ?_; (case zqk1 => k_asm); (case zqk2 => k_asm); (case zqk3 => k_inst); (case zqk4 => k_is); (case zqk5 => k_is); (case zqk6 => k_is); (case zqk7 => k_get); k_whole))))
  (k_with "nz:getMethod ref" => (((with_reducible show wpAny _ _ (getMethod (Value.ref _) (PySem.Str.ofString "pop") _) _ _ _); k_dflt (refine' kl_method ?zqk1 ?zqk2 PySem.F.slot_list_pop PySem.F.type_list_pop ?_; (case zqk1 => k_asm); (case zqk2 => k_mem); k_whole))))
  (k_with "nz:getMethod ref" => (((with_reducible show wpAny _ _ (getMethod (Value.ref _) (PySem.Str.ofString "index") _) _ _ _); k_dflt (refine' kl_method ?zqk1 ?zqk2 PySem.F.slot_list_index PySem.F.type_list_index ?_; (case zqk1 => k_asm); (case zqk2 => k_mem); k_whole))))
  (k_with "nz:getMethod ref" => (((with_reducible show wpAny _ _ (getMethod (Value.ref _) (PySem.Str.ofString "remove") _) _ _ _); k_dflt (refine' kl_method ?zqk1 ?zqk2 PySem.F.slot_list_remove PySem.F.type_list_remove ?_; (case zqk1 => k_asm); (case zqk2 => k_mem); k_whole))))
  (k_with "nz:getMethod ref" => (((with_reducible show wpAny _ _ (getMethod (Value.ref _) (PySem.Str.ofString "insert") _) _ _ _); k_dflt (refine' kl_method ?zqk1 ?zqk2 PySem.F.slot_list_insert PySem.F.type_list_insert ?_; (case zqk1 => k_asm); (case zqk2 => k_mem); k_whole))))
  (k_with "nz:getMethod ref" => (((with_reducible show wpAny _ _ (getMethod (Value.ref _) (PySem.Str.ofString "append") _) _ _ _); k_dflt (refine' kl_method ?zqk1 ?zqk2 PySem.F.slot_list_append PySem.F.type_list_append ?_; (case zqk1 => k_asm); (case zqk2 => k_mem); k_whole))))
  (k_with "nz:subscriptTail Attribute" => ((k_here; (with_reducible show wpAny _ _ (subscriptTail _ _ (Value.ref (TAd.pI _)) (Value.int _ _)) _ _ _); k_dflt (refine' sub_pI ?zqk1 ?zqk2 ?zqk3 ?zqk4 ?zqk5 ?zqk6 ?_ ?zqk7; (case zqk1 => with_reducible assumption); (case zqk2 => k_asm); (case zqk3 => k_mem); (case zqk4 => omega); (case zqk5 => omega); (case zqk6 => omega); (case zqk7 => with_unfolding_all rfl); k_whole; intro _))))
  (k_with "nz:subscriptTail Attribute" => ((k_here; (with_reducible show wpAny _ _ (subscriptTail _ _ (Value.ref (TAd.spI _)) (Value.int _ _)) _ _ _); k_dflt (refine' sub_spI ?zqk1 ?zqk2 ?zqk3 ?zqk4 ?zqk5 ?zqk6 ?_ ?zqk7; (case zqk1 => with_reducible assumption); (case zqk2 => k_asm); (case zqk3 => k_mem); (case zqk4 => omega); (case zqk5 => omega); (case zqk6 => omega); (case zqk7 => with_unfolding_all rfl); k_whole; intro _))))
  (k_with "nz:subscriptTail Attribute" => ((k_here; (with_reducible show wpAny _ _ (subscriptTail _ _ (Value.ref (TAd.nI _)) (Value.int _ _)) _ _ _); k_dflt (refine' sub_nI ?zqk1 ?zqk2 ?zqk3 ?zqk4 ?zqk5 ?zqk6 ?_ ?zqk7; (case zqk1 => with_reducible assumption); (case zqk2 => k_asm); (case zqk3 => k_mem); (case zqk4 => omega); (case zqk5 => omega); (case zqk6 => omega); (case zqk7 => with_unfolding_all rfl); k_whole; intro _))))
  (k_with "nz:subscriptTail Attribute" => ((k_here; (with_reducible show wpAny _ _ (subscriptTail _ _ (Value.ref (TAd.cI _)) (Value.int _ _)) _ _ _); k_dflt (refine' sub_cI ?zqk1 ?zqk2 ?zqk3 ?zqk4 ?zqk5 ?zqk6 ?zqk8 ?_ ?zqk7; (case zqk1 => with_reducible assumption); (case zqk2 => k_asm); (case zqk3 => k_mem); (case zqk4 => omega); (case zqk5 => omega); (case zqk6 => omega); (case zqk8 => with_reducible assumption); (case zqk7 => with_unfolding_all rfl); k_whole; intro _ _ _ _ _ _))))
  (k_with "nz:subscriptTail Attribute" => ((k_here; (with_reducible show wpAny _ _ (subscriptTail _ _ (Value.ref (TAd.aI _)) (Value.int _ _)) _ _ _); k_dflt (refine' sub_aI ?zqk1 ?zqk2 ?zqk3 ?zqk4 ?zqk5 ?zqk6 ?zqk8 ?_ ?zqk7; (case zqk1 => with_reducible assumption); (case zqk2 => k_asm); (case zqk3 => k_mem); (case zqk4 => omega); (case zqk5 => omega); (case zqk6 => omega); (case zqk8 => with_reducible assumption); (case zqk7 => with_unfolding_all rfl); k_whole; intro _ _ _ _ _ _))))
  (k_with "nz:nz look" => (first | exact rfl | with_reducible assumption | (refine' Eq.trans (if_neg ?zqnl) ?zqnk; (case zqnl => decide); (case zqnk => walk_at "nz look"))))
  (k_with "nz:exec While" => (refine Hold.mk' ?_))
  (k_with "nz:WEnd" => (dsimp only [WEnd]))
  (k_with "nz:forall" => ((first | (with_reducible show (_ = true) → _) | (with_reducible show (_ = false) → _)); intro zzhb; (try simp only [bne_iff_ne, ne_eq, beq_iff_eq, beq_eq_false_iff_ne, bne_eq_false_iff_eq, Bool.not_eq_true', Bool.not_eq_false', Bool.and_eq_true, Bool.or_eq_true, Bool.and_eq_false_iff, Bool.or_eq_false_iff, decide_eq_true_eq, decide_eq_false_iff_not, Decidable.not_not] at zzhb); (first | (exfalso; omega) | contradiction | exact Bool.noConfusion (zzhb.symm.trans (by with_reducible assumption : _ = false)) | exact Bool.noConfusion (zzhb.symm.trans (by with_reducible assumption : _ = true)) | skip)))
  (k_with "nz:ite" => ((k_here; first
  | (k_closed; k_dflt (first | refine ite_pos (by decide) ?_ | refine ite_neg (by decide) ?_))
  | with_reducible refine ite_tt ?_
  | with_reducible refine ite_ff ?_
  | (refine split_bool (fun zzhb => ?_) (fun zzhb => ?_); (all_goals (try simp only [bne_iff_ne, ne_eq, beq_iff_eq, beq_eq_false_iff_ne, bne_eq_false_iff_eq, Bool.not_eq_true', Bool.not_eq_false', Bool.and_eq_true, Bool.or_eq_true, Bool.and_eq_false_iff, Bool.or_eq_false_iff, decide_eq_true_eq, decide_eq_false_iff_not, Decidable.not_not] at zzhb)); (all_goals (first | (exfalso; omega) | contradiction | exact Bool.noConfusion (zzhb.symm.trans (by with_reducible assumption : _ = false)) | exact Bool.noConfusion (zzhb.symm.trans (by with_reducible assumption : _ = true)) | skip))))))
  (k_with "nz:call ref" => (((with_reducible show wpAny _ _ (call (Value.ref 318) _) _ _ _); refine Hold.mk' ?_)))
  (k_with "nz:call ref" => (((with_reducible show wpAny _ _ (call (Value.ref 327) _) _ _ _); refine Hold.mk' ?_)))
  (k_with "nz:call ref" => (((with_reducible show wpAny _ _ (call (Value.ref 356) _) _ _ _); refine Hold.mk' ?_)))
  (k_with "nz:call ref" => (((with_reducible show wpAny _ _ (call (Value.ref 363) _) _ _ _); refine Hold.mk' ?_)))
  (k_with "nz:call ref" => (((with_reducible show wpAny _ _ (call (Value.ref 370) _) _ _ _); refine Hold.mk' ?_)))
  (k_with "nz:call ref" => (((with_reducible show wpAny _ _ (call (Value.ref 398) _) _ _ _); refine Hold.mk' ?_)))
  (k_with "nz:call ref" => (((with_reducible show wpAny _ _ (call (Value.ref 405) _) _ _ _); refine Hold.mk' ?_)))
  (k_with "nz:call ref" => (((with_reducible show wpAny _ _ (call (Value.ref 419) _) _ _ _); refine Hold.mk' ?_)))
  (k_with "nz:call ref" => (((with_reducible show wpAny _ _ (call (Value.ref 190) _) _ _ _); refine Hold.mk' ?_)))
  (k_with "nz:call ref" => (((with_reducible show wpAny _ _ (call (Value.ref 35) _) _ _ _); refine Hold.mk' ?_)))
  (k_with "nz:call ref" => (((with_reducible show wpAny _ _ (call (Value.ref 43) _) _ _ _); refine Hold.mk' ?_)))
  (k_with "nz:call ref" => (((with_reducible show wpAny _ _ (call (Value.ref 60) _) _ _ _); refine Hold.mk' ?_)))
  (k_with "nz:call ref" => (((with_reducible show wpAny _ _ (call (Value.ref 67) _) _ _ _); refine Hold.mk' ?_)))
  (k_with "nz:call ref" => (((with_reducible show wpAny _ _ (call (Value.ref 498) _) _ _ _); refine Hold.mk' ?_)))
  (k_with "nz:call ref" => (((with_reducible show wpAny _ _ (call (Value.ref 505) _) _ _ _); refine Hold.mk' ?_)))
  (k_with "nz:call ref" => (((with_reducible show wpAny _ _ (call (Value.ref 512) _) _ _ _); refine Hold.mk' ?_)))
  (k_with "nz:call ref" => (((with_reducible show wpAny _ _ (call (Value.ref 519) _) _ _ _); refine Hold.mk' ?_)))
  (k_with "nz:call ref" => (((with_reducible show wpAny _ _ (call (Value.ref 526) _) _ _ _); refine Hold.mk' ?_)))
  (k_with "nz:call ref" => (((with_reducible show wpAny _ _ (call (Value.ref 531) _) _ _ _); refine Hold.mk' ?_)))
  (k_with "nz:call ref" => (((with_reducible show wpAny _ _ (call (Value.ref 120) _) _ _ _); refine Hold.mk' ?_)))
  (k_with "nz:nz ints" => (first | with_reducible assumption | exact KidAt.iv (by with_reducible assumption) | exact TAbs.p (by with_reducible assumption)))
  (k_with "nz:compareOp In int ref" => ((k_here; k_dflt (refine' in_ints ?zqk1 ?zqk2 ?zqk3 ?_; (case zqk1 => k_asm); (case zqk2 => k_mem); (case zqk3 => walk_at "nz ints"); k_whole))))
  (k_with "nz:compareOp NotIn int ref" => ((k_here; k_dflt (refine' notin_ints ?zqk1 ?zqk2 ?zqk3 ?_; (case zqk1 => k_asm); (case zqk2 => k_mem); (case zqk3 => walk_at "nz ints"); k_whole))))
  (k_with "nz:call builtin:list.index" => ((k_here; k_dflt (refine' index_ints ?zqk1 ?zqk2 ?zqk3 ?zqk4 ?zqk5 ?_; (case zqk1 => k_asm); (case zqk2 => k_mem); (case zqk3 => walk_at "nz ints"); (case zqk4 => k_asm); (case zqk5 => omega); k_whole); intro _)))
  (k_with "nz:call builtin:list.insert" => ((k_here; k_dflt (refine' ins_kid ?zqk1 ?zqk2 ?zqk3 ?zqk4 ?zqk5 ?zqk6 ?zqk7 ?_; (case zqk1 => with_reducible assumption); (case zqk2 => k_asm); (case zqk3 => with_reducible assumption); (case zqk4 => with_reducible assumption); (case zqk5 => omega); (case zqk6 => omega); (case zqk7 => omega); k_whole); intro _ _ _ _ _; k_sweep)))
  (k_with "nz:setItem ref int" => ((k_here; (with_reducible show wpAny _ _ (setItem (Value.ref (TAd.pI _)) _ _) _ _ _); k_dflt (refine' set_pI ?zqk2 ?zqk3 ?zqk4 ?zqk5 ?zqk6 ?zqk7 ?_; (case zqk2 => k_asm); (case zqk3 => with_reducible assumption); (case zqk4 => with_reducible assumption); (case zqk5 => omega); (case zqk6 => (try dsimp only); omega); (case zqk7 => (try dsimp only); omega); k_whole); intro _ _ _ _ _; k_sweep)))
  (k_with "nz:setItem ref int" => ((k_here; (with_reducible show wpAny _ _ (setItem (Value.ref (TAd.coI _)) _ _) _ _ _); k_dflt (refine' co_set ?zqk2 ?zqk3 ?zqk4 ?zqk5 ?zqk6 ?zqk7 ?_; (case zqk2 => k_asm); (case zqk3 => with_reducible assumption); (case zqk4 => with_reducible assumption); (case zqk5 => exact TAbs.co (by with_reducible assumption)); (case zqk6 => assumption); (case zqk7 => (try dsimp only [Tr.add]); omega); k_whole); intro _ _ _ _ _ _; k_sweep)))
  (k_with "nz:nz forV" => ((k_here; (rename Fr _ _ _ _ => zzlF'); (with_unfolding_all refine' For_invVF zzlF' ?zqk1 ?zqk2 ?_; (case zqk1 => exact rfl); (case zqk2 => exact rfl); k_whole))))
  (k_with "nz:exec For Name Name cons nil" => (walk_at "nz forV"))
  (k_with "nz:exec For Name Call cons nil" => (walk_at "nz forV"))
  (k_with "nz:exec For Name Subscript cons nil" => (walk_at "nz forV"))
  (k_with "nz:exec For Name Attribute cons nil" => (walk_at "nz forV"))
  (k_with "nz:pyIter ref" => (refine Hold.mk' ?_))
  (k_with "nz:eval ListComp" => (refine Hold.mk' ?_))
  (k_with "nz:exec Assign cons ListComp" => (refine Hold.mk' ?_))
  (k_with "nz:subscriptTail Name Constant" => ((k_here; (with_reducible show wpAny _ _ (subscriptTail _ _ (Value.ref _) (Value.int _ _)) _ _ _); k_dflt (refine' tup_at ?zqk1 ?zqk2 ?zqk3 ?zqk4 ?zqk5 ?_ ?zqk7; (case zqk1 => k_asm); (case zqk2 => k_mem); (case zqk3 => decide); (case zqk4 => decide); (case zqk5 => rfl); (case zqk7 => with_unfolding_all rfl); k_whole))))
  (k_with "nz:subscriptTail Name" => ((k_here; (with_reducible show wpAny _ _ (subscriptTail _ _ (Value.ref _) (Value.int _ _)) _ _ _); k_dflt (refine' tup_at ?zqk1 ?zqk2 ?zqk3 ?zqk4 ?zqk5 ?_ ?zqk7; (case zqk1 => k_asm); (case zqk2 => k_mem); (case zqk3 => decide); (case zqk4 => decide); (case zqk5 => rfl); (case zqk7 => with_unfolding_all rfl); k_whole))))
  (k_with "nz:subscriptTail Attribute" => ((k_here; (with_reducible show wpAny _ _ (subscriptTail _ _ (Value.ref (BAd.sI _)) (Value.int _ _)) _ _ _); k_dflt (refine' sub_sI ?zqk1 ?zqk2 ?zqk3 ?zqk4 ?zqk5 ?zqk6 ?_ ?zqk7; (case zqk1 => with_reducible assumption); (case zqk2 => k_asm); (case zqk3 => k_mem); (case zqk4 => omega); (case zqk5 => omega); (case zqk6 => omega); (case zqk7 => with_unfolding_all rfl); k_whole; intro _))))
  (k_with "nz:subscriptTail Name" => ((k_here; (with_reducible show wpAny _ _ (subscriptTail _ _ (Value.ref (BAd.sI _)) (Value.int _ _)) _ _ _); k_dflt (refine' sub_sI ?zqk1 ?zqk2 ?zqk3 ?zqk4 ?zqk5 ?zqk6 ?_ ?zqk7; (case zqk1 => with_reducible assumption); (case zqk2 => k_asm); (case zqk3 => k_mem); (case zqk4 => omega); (case zqk5 => omega); (case zqk6 => omega); (case zqk7 => with_unfolding_all rfl); k_whole; intro _))))
  (k_with "nz:subscriptTail Attribute" => ((k_here; (with_reducible show wpAny _ _ (subscriptTail _ _ (Value.ref (BAd.fI _)) (Value.int _ _)) _ _ _); k_dflt (refine' sub_fI ?zqk1 ?zqk2 ?zqk3 ?zqk4 ?zqk5 ?zqk6 ?_ ?zqk7; (case zqk1 => with_reducible assumption); (case zqk2 => k_asm); (case zqk3 => k_mem); (case zqk4 => omega); (case zqk5 => omega); (case zqk6 => omega); (case zqk7 => with_unfolding_all rfl); k_whole; intro _))))
  (k_with "nz:subscriptTail Name" => ((k_here; (with_reducible show wpAny _ _ (subscriptTail _ _ (Value.ref (BAd.fI _)) (Value.int _ _)) _ _ _); k_dflt (refine' sub_fI ?zqk1 ?zqk2 ?zqk3 ?zqk4 ?zqk5 ?zqk6 ?_ ?zqk7; (case zqk1 => with_reducible assumption); (case zqk2 => k_asm); (case zqk3 => k_mem); (case zqk4 => omega); (case zqk5 => omega); (case zqk6 => omega); (case zqk7 => with_unfolding_all rfl); k_whole; intro _))))
  (k_with "nz:call builtin:list.append" => ((k_here; (with_reducible show wpAny _ _ (call (Value.builtin _) [Value.ref (BAd.sI _), _]) _ _ _); k_dflt (refine' app_sI ?zqk1 ?zqk2 ?zqk3 ?zqk4 ?_; (case zqk1 => k_asm); (case zqk2 => with_reducible assumption); (case zqk3 => with_reducible assumption); (case zqk4 => size_fits); k_whole); intro _ _ _ _; k_sweep)))
  (k_with "nz:call builtin:list.append" => ((k_here; (with_reducible show wpAny _ _ (call (Value.builtin _) [Value.ref (BAd.fI _), _]) _ _ _); k_dflt (refine' app_fI ?zqk1 ?zqk2 ?zqk3 ?zqk4 ?_; (case zqk1 => k_asm); (case zqk2 => with_reducible assumption); (case zqk3 => with_reducible assumption); (case zqk4 => size_fits); k_whole); intro _ _ _ _; k_sweep)))
  (k_with "nz:newTuple" => ((k_here; k_dflt (refine' new_tuple2 ?zqk1 ?zqk2 ?zqk3 ?zqk4 ?_; (case zqk1 => k_asm); (case zqk2 => with_reducible assumption); (case zqk3 => with_reducible assumption); (case zqk4 => exact Nat.le_of_ble_eq_true rfl); k_whole); intro _ _ _ _ _ _; k_sweep)))
  (k_with "nz:subscriptTail Attribute" => ((k_here; (with_reducible show wpAny _ _ (subscriptTail _ _ (Value.ref (BAd.sI _)) (Value.int (Nat.cast _) _)) _ _ _); k_dflt (refine' sub_sIn ?zqk1 ?zqk2 ?zqk3 ?zqk5 ?zqk6 ?_ ?zqk7; (case zqk1 => with_reducible assumption); (case zqk2 => k_asm); (case zqk3 => k_mem); (case zqk5 => omega); (case zqk6 => omega); (case zqk7 => with_unfolding_all rfl); k_whole; intro _))))
  (k_with "nz:subscriptTail Name" => ((k_here; (with_reducible show wpAny _ _ (subscriptTail _ _ (Value.ref (BAd.sI _)) (Value.int (Nat.cast _) _)) _ _ _); k_dflt (refine' sub_sIn ?zqk1 ?zqk2 ?zqk3 ?zqk5 ?zqk6 ?_ ?zqk7; (case zqk1 => with_reducible assumption); (case zqk2 => k_asm); (case zqk3 => k_mem); (case zqk5 => omega); (case zqk6 => omega); (case zqk7 => with_unfolding_all rfl); k_whole; intro _))))
  (k_with "nz:subscriptTail Attribute" => ((k_here; (with_reducible show wpAny _ _ (subscriptTail _ _ (Value.ref (BAd.fI _)) (Value.int (Nat.cast _) _)) _ _ _); k_dflt (refine' sub_fIn ?zqk1 ?zqk2 ?zqk3 ?zqk5 ?zqk6 ?_ ?zqk7; (case zqk1 => with_reducible assumption); (case zqk2 => k_asm); (case zqk3 => k_mem); (case zqk5 => omega); (case zqk6 => omega); (case zqk7 => with_unfolding_all rfl); k_whole; intro _))))
  (k_with "nz:subscriptTail Name" => ((k_here; (with_reducible show wpAny _ _ (subscriptTail _ _ (Value.ref (BAd.fI _)) (Value.int (Nat.cast _) _)) _ _ _); k_dflt (refine' sub_fIn ?zqk1 ?zqk2 ?zqk3 ?zqk5 ?zqk6 ?_ ?zqk7; (case zqk1 => with_reducible assumption); (case zqk2 => k_asm); (case zqk3 => k_mem); (case zqk5 => omega); (case zqk6 => omega); (case zqk7 => with_unfolding_all rfl); k_whole; intro _))))
  (k_with "nz:loadName" => ((k_here; k_dflt (refine' ldn ?zqk1 ?zqk2 ?_; (case zqk1 => k_asm); (case zqk2 => walk_at "nz look"); k_whole))))
  (k_with "nz:k_room" => (ktr_room))
  (k_with "nz:compareOp In int ref" => ((k_here; (with_reducible show wpAny _ _ (compareOp _ _ (Value.ref (TAd.coI _))) _ _ _); k_dflt (first
  | (refine' in_co_no ?zqk1 ?zqk2 ?zqk3 ?zqk4 ?_; (case zqk1 => with_reducible assumption); (case zqk2 => k_asm); (case zqk3 => k_mem); (case zqk4 => with_reducible assumption); k_whole)
  | (refine' in_co_yes ?zqk1 ?zqk2 ?zqk3 ?zqk4 ?_; (case zqk1 => with_reducible assumption); (case zqk2 => k_asm); (case zqk3 => k_mem); (case zqk4 => with_reducible assumption); k_whole)))))
  (k_with "nz:subscriptTail Attribute" => ((k_here; (with_reducible show wpAny _ _ (subscriptTail _ _ (Value.ref (TAd.coI _)) (Value.int _ _)) _ _ _); k_dflt (refine' item_co ?zqk1 ?zqk2 ?zqk3 ?zqk4 ?_ ?zqk7; (case zqk1 => with_reducible assumption); (case zqk2 => k_asm); (case zqk3 => k_mem); (case zqk4 => with_reducible assumption); (case zqk7 => with_unfolding_all rfl); k_whole; intro _))))
  (k_with "nz:call ref" => (((with_reducible show wpAny _ _ (call (Value.ref 225) _) _ _ _); refine Hold.mk' ?_)))
  (k_with "nz:k_mem" => (((show (_ : Addr × Obj) ∈ (_ : List (Addr × Obj))); (with_reducible show (TAd.coI _, _) ∈ TRaw.led _ _ _); exact List.mem_of_getElem? (i := 9) rfl)))
  (k_with "nz:call ref" => (((with_reducible show wpAny _ _ (call (Value.ref 28) _) _ _ _); refine Hold.mk' ?_)))
  (k_with "nz:call type:tuple" => ((k_here; k_dflt (refine' tuple_of_list ?zqk1 ?zqk2 ?zqk3 ?zqk4 ?zqk5 ?_; (case zqk1 => k_asm); (case zqk2 => k_asm); (case zqk3 => with_reducible assumption); (case zqk4 => k_mem); (case zqk5 => omega); k_whole); intro _ _ _ _ _ _; k_sweep)))
  (k_with "nz:call ref" => (((with_reducible show wpAny _ _ (call (Value.ref 239) _) _ _ _); refine Hold.mk' ?_)))
  (k_with "nz:setItem ref int" => ((k_here; (with_reducible show wpAny _ _ (setItem (Value.ref (BAd.fI _)) _ _) _ _ _); k_dflt (refine' set_fI ?zqk2 ?zqk3 ?zqk4 ?zqk5 ?zqk6 ?zqk7 ?_; (case zqk2 => k_asm); (case zqk3 => with_reducible assumption); (case zqk4 => with_reducible assumption); (case zqk5 => omega); (case zqk6 => (try dsimp only); omega); (case zqk7 => (try dsimp only); omega); k_whole); intro _ _ _ _ _; k_sweep)))
  (k_with "nz:k_all" => (first | with_reducible assumption | exact lt_ne (by assumption) (by omega) | exact allLt_ne (by assumption) (by omega)))
  (k_with "nz:ktr_units" => ((have _ := cLine_is; (try simp only [units_under_make, units_in1, units_deeper, Around.mark_units, units_caller] at *); (try dsimp only [ktrTop] at *); omega)))
  (k_with "nz:k_upd" => (exact upd_led (Sep2.one (by with_reducible assumption)) 1 rfl))
  (k_with "nz:setAttr ref" => (((with_reducible show wpAny _ _ (setAttr (Value.ref (BAd.b _)) (Str.ofString "head") _) _ _ _); k_dflt (refine' set_head ?zqk1 ?zqk2 ?zqk3 ?zqk4 ?_; (case zqk1 => k_asm); (case zqk2 => k_asm); (case zqk3 => k_asm); (case zqk4 => with_reducible assumption); k_whole); intro _ _ _ _ _; k_sweep)))
  (k_with "nz:setAttr ref" => (((with_reducible show wpAny _ _ (setAttr (Value.ref (BAd.b _)) (Str.ofString "mode") _) _ _ _); k_dflt (refine' set_mode ?zqk1 ?zqk2 ?zqk3 ?zqk4 ?_; (case zqk1 => k_asm); (case zqk2 => k_asm); (case zqk3 => k_asm); (case zqk4 => with_reducible assumption); k_whole); intro _ _ _ _ _; k_sweep)))
  (k_with "nz:setAttr ref" => (((with_reducible show wpAny _ _ (setAttr (Value.ref (BAd.b _)) (Str.ofString "is_foster") _) _ _ _); k_dflt (refine' set_foster ?zqk1 ?zqk2 ?zqk3 ?zqk4 ?_; (case zqk1 => k_asm); (case zqk2 => k_asm); (case zqk3 => k_asm); (case zqk4 => with_reducible assumption); k_whole); intro _ _ _ _ _; k_sweep)))
  (k_with "nz:call" => (((show wpAny _ _ (call (Value.builtin "list.pop") [Value.ref (BAd.sI _)]) _ _ _); k_dflt (refine' pop_sI2 ?zqk1 ?zqk2 ?zqk3 ?zqk4 ?zqk5 ?_; (case zqk2 => k_asm); (case zqk3 => k_asm); (case zqk4 => with_reducible assumption); (case zqk1 => (try dsimp only); assumption); (case zqk5 => first | exact Nat.le_of_ble_eq_true rfl | omega); k_whole); intro _ _ _ _ _ _ _ _; k_sweep)))
  (k_with "nz:k_mem" => (((show (_ : Addr × Obj) ∈ (_ : List (Addr × Obj))); (with_reducible show _ ∈ LRaw.led _ _); first | exact List.mem_of_getElem? (i := 0) rfl | exact List.mem_of_getElem? (i := 1) rfl | exact List.mem_of_getElem? (i := 2) rfl)))
  (k_with "nz:call builtin:list.append" => ((k_here; (with_reducible show wpAny _ _ (call (Value.builtin _) [Value.ref (LAd.oI _), _]) _ _ _); k_dflt (refine' app_oI ?zqk1 ?zqk2 ?zqk3 ?zqk5 ?zqk4 ?_; (case zqk1 => k_asm); (case zqk2 => with_reducible assumption); (case zqk3 => with_reducible assumption); (case zqk5 => with_reducible assumption); (case zqk4 => size_fits); k_whole); intro _ _ _ _ _; k_sweep)))
  (k_with "nz:call builtin:list.append" => ((k_here; (with_reducible show wpAny _ _ (call (Value.builtin _) [Value.ref (LAd.lI _), _]) _ _ _); k_dflt (refine' app_lI ?zqk1 ?zqk2 ?zqk3 ?zqk5 ?zqk4 ?_; (case zqk1 => k_asm); (case zqk2 => with_reducible assumption); (case zqk3 => with_reducible assumption); (case zqk5 => with_reducible assumption); (case zqk4 => size_fits); k_whole); intro _ _ _ _ _; k_sweep)))
  (k_with "nz:call builtin:list.append" => ((k_here; (with_reducible show wpAny _ _ (call (Value.builtin _) [Value.ref (LAd.rI _), _]) _ _ _); k_dflt (refine' app_rI ?zqk1 ?zqk2 ?zqk3 ?zqk5 ?zqk4 ?_; (case zqk1 => k_asm); (case zqk2 => with_reducible assumption); (case zqk3 => with_reducible assumption); (case zqk5 => with_reducible assumption); (case zqk4 => size_fits); k_whole); intro _ _ _ _ _; k_sweep)))
  (k_with "nz:newTuple" => ((k_here; k_dflt (refine' new_tuple3 ?zqk1 ?zqk2 ?zqk3 ?zqk5 ?zqk4 ?_; (case zqk1 => k_asm); (case zqk2 => with_reducible assumption); (case zqk3 => with_reducible assumption); (case zqk5 => with_reducible assumption); (case zqk4 => exact Nat.le_of_ble_eq_true rfl); k_whole); intro _ _ _ _ _ _ _; k_sweep)))
  (k_with "nz:nz strs" => (first | exact StrsAre.nil | (refine' StrsAre.cons _ _ ?zqnh; (case zqnh => walk_at "nz strs"))))
  (k_with "nz:subscriptTail" => (((with_reducible show wpAny _ _ (subscriptTail _ _ (Value.ref _) (Value.int (Int.fmod _ _) _)) _ _ _); k_dflt (refine' tup_strs ?zqk1 ?zqk2 ?zqk3 ?zqk4 ?zqk5 ?zqk6 ?_ ?zqk7; (case zqk1 => k_asm); (case zqk2 => k_mem); (case zqk3 => walk_at "nz strs"); (case zqk4 => exact Int.fmod_nonneg_of_pos _ (by decide)); (case zqk5 => exact Int.fmod_lt_of_pos _ (by decide)); (case zqk6 => exact Nat.le_of_ble_eq_true rfl); (case zqk7 => with_unfolding_all rfl); k_whole); intro _ _ _)))
  (k_with "nz:exec If" => (((with_reducible show wpAny _ _ (exec (Stmt.If (PySem.Expr.Compare (PySem.Expr.BinOp (PySem.Expr.BinOp _ Operator.FloorDiv _ _) Operator.Mod _ _) _ _ _) _ _ _) _) _ _ _); refine Hold.mk' ?_)))
  (k_with "nz:binaryOp Add ref ref" => ((k_here; k_dflt (refine' add_tup3 ?zqk1 ?zqk2 ?zqk3 ?zqk4 ?zqk5 ?zqk6 ?zqk7 ?zqk8 ?zqk9 ?_; (case zqk1 => k_asm); (case zqk2 => with_reducible assumption); (case zqk3 => with_reducible assumption); (case zqk4 => with_reducible assumption); (case zqk5 => k_mem); (case zqk6 => k_mem); (case zqk7 => exact List.cons_ne_nil _ _); (case zqk8 => exact List.cons_ne_nil _ _); (case zqk9 => exact Nat.le_of_ble_eq_true rfl); k_whole); intro _ _ _ _ _ _; k_sweep)))
  (k_with "nz:nz intsL" => (first | exact IntsAre.nil | (refine' IntsAre.cons _ _ ?zqnh; (case zqnh => walk_at "nz intsL"))))
  (k_with "nz:compareOp In int ref" => ((k_here; k_dflt (refine' in_tup_ints ?zqk1 ?zqk2 ?zqk3 ?_; (case zqk1 => k_asm); (case zqk2 => k_mem); (case zqk3 => walk_at "nz intsL"); k_whole))))
  (k_with "nz:exec For Name Subscript cons nil" => (refine Hold.mk' ?_))
  (k_with "nz:UnrEndW" => (refine Hold.mk' ?_))
  (k_with "nz:UnrEnd" => (refine Hold.mk' ?_))
  (k_with "nz:nz tup" => ((k_dflt (refine' tup_ref ?zqk1 ?zqk2 ?zqk3 ?zqk4 ?zqk5 ?_ ?zqk7; (case zqk1 => k_asm); (case zqk2 => k_mem); (case zqk3 => decide); (case zqk4 => decide); (case zqk5 => exact rfl); (case zqk7 => with_unfolding_all rfl); k_whole))))
  (k_with "nz:subscriptTail" => (((with_reducible show wpAny _ _ (subscriptTail _ _ (Value.ref _) (Value.int (OfNat.ofNat _) _)) _ _ _); walk_at "nz tup")))
  (k_with "nz:subscriptTail Name" => (((with_reducible show wpAny _ _ (subscriptTail _ _ (Value.ref (LAd.oI _)) (Value.int _ _)) _ _ _); k_dflt (refine' sub_oIneg ?zqk1 ?zqk2 ?zqk3 ?zqk4 ?zqk5 ?zqk6 ?zqk8 ?_ ?zqk7; (case zqk1 => k_asm); (case zqk2 => k_mem); (case zqk3 => (try dsimp only); assumption); (case zqk4 => decide); (case zqk5 => omega); (case zqk6 => omega); (case zqk8 => assumption); (case zqk7 => with_unfolding_all rfl); k_whole; intro _))))
  trivial
section
/-! the tree behind a reconstruct is the one that is due -/
variable {T : Tr} {n : Nat} {q b : Int}
def allD (T : Tr) (stack fmt : List Int) : List Dat :=
  [.list (stack.map .int), .list (fmt.map .int), .list [], .list (T.kinds.map .str), .list (T.spaces.map .str), .list (T.names.map .str), .list (T.attrs.map attrD), .list (T.texts.map .str), .list (T.parents.map .int), .list (T.children.map kidD)]
abbrev stepT (T : Tr) (n : Nat) (q b x : Int) : Tr := (T.add (Str.ofString "element") (Str.ofString "html") (T.names.getD x.toNat (Str.ofString "")) (T.attrs.getD x.toNat [])).ins q n b
theorem recT_cons {x : Int} {xs : List Int} : recT T n q b (x :: xs) = recT (stepT T n q b x) (n + 1) n (-1) xs := rfl
theorem rec_contents : ∀ (xs : List Int) (T : Tr) (n : Nat) (q b : Int), (recT T n q b xs).contents = T.contents
  | [], _, _, _, _ => rfl
  | x :: xs, T, n, q, b => by rw [recT_cons, rec_contents xs]; rfl
theorem snoc_rep {α : Type} (l : List α) (y : α) (k : Nat) : (l ++ [y]) ++ List.replicate k y = l ++ List.replicate (k + 1) y := by simp [List.replicate_succ]
theorem rec_kinds : ∀ (xs : List Int) (T : Tr) (n : Nat) (q b : Int), (recT T n q b xs).kinds = T.kinds ++ List.replicate xs.length (Str.ofString "element")
  | [], T, _, _, _ => (List.append_nil _).symm
  | x :: xs, T, n, q, b => by
    rw [recT_cons, rec_kinds xs]
    exact snoc_rep _ _ _
theorem rec_spaces : ∀ (xs : List Int) (T : Tr) (n : Nat) (q b : Int), (recT T n q b xs).spaces = T.spaces ++ List.replicate xs.length (Str.ofString "html")
  | [], T, _, _, _ => (List.append_nil _).symm
  | x :: xs, T, n, q, b => by
    rw [recT_cons, rec_spaces xs]
    exact snoc_rep _ _ _
theorem rec_texts : ∀ (xs : List Int) (T : Tr) (n : Nat) (q b : Int), (recT T n q b xs).texts = T.texts ++ List.replicate xs.length (Str.ofString "")
  | [], T, _, _, _ => (List.append_nil _).symm
  | x :: xs, T, n, q, b => by
    rw [recT_cons, rec_texts xs]
    exact snoc_rep _ _ _
def Fits (T : Tr) (n : Nat) (es : List Ent) : Prop := ∀ e ∈ es, 0 ≤ e.1 ∧ e.1 < n ∧ T.names.getD e.1.toNat (Str.ofString "") = e.2.1 ∧ T.attrs.getD e.1.toNat [] = e.2.2
theorem step_wf (W : WF T n) (h0 : 0 ≤ q) (hq : q < n) (x : Int) : WF (stepT T n q b x) (n + 1) := (W.add _ _ _ _).ins h0 (by omega) (by omega)
theorem Fits.step {e : Ent} {es : List Ent} (W : WF T n) (F : Fits T n (e :: es)) : Fits (stepT T n q b e.1) (n + 1) es := fun y hy => by
  obtain ⟨h1, h2, h3, h4⟩ := F y (.tail _ hy)
  have a := W.nm
  have c := W.a
  refine ⟨h1, by omega, ?_, ?_⟩
  · show (T.names ++ [_]).getD _ _ = _
    rw [getD_snoc, if_pos (by omega)]
    exact h3
  · show (T.attrs ++ [_]).getD _ _ = _
    rw [getD_snoc, if_pos (by omega)]
    exact h4
theorem rec_names : ∀ (es : List Ent) (T : Tr) (n : Nat) (q b : Int), WF T n → 0 ≤ q → q < n → Fits T n es → (recT T n q b (es.map (·.1))).names = T.names ++ es.map (·.2.1)
  | [], T, _, _, _, _, _, _, _ => (List.append_nil _).symm
  | e :: es, T, n, q, b, W, h0, hq, F => by
    rw [List.map_cons, recT_cons, rec_names es _ _ _ _ (step_wf W h0 hq _) (by omega) (by omega) (F.step W)]
    show (T.names ++ [T.names.getD e.1.toNat (Str.ofString "")]) ++ _ = _
    rw [(F e (.head _)).2.2.1]
    simp
theorem rec_attrs : ∀ (es : List Ent) (T : Tr) (n : Nat) (q b : Int), WF T n → 0 ≤ q → q < n → Fits T n es → (recT T n q b (es.map (·.1))).attrs = T.attrs ++ es.map (·.2.2)
  | [], T, _, _, _, _, _, _, _ => (List.append_nil _).symm
  | e :: es, T, n, q, b, W, h0, hq, F => by
    rw [List.map_cons, recT_cons, rec_attrs es _ _ _ _ (step_wf W h0 hq _) (by omega) (by omega) (F.step W)]
    show (T.attrs ++ [T.attrs.getD e.1.toNat []]) ++ _ = _
    rw [(F e (.head _)).2.2.2]
    simp
theorem set_snoc {xs : List Int} {y z : Int} : (xs ++ [y]).set xs.length z = xs ++ [z] := by simp
theorem rec_parents : ∀ (xs : List Int) (T : Tr) (n : Nat) (q b : Int), WF T n → 0 ≤ q → q < n → (recT T n q b xs).parents = T.parents ++ (q :: nums n xs.length).take xs.length
  | [], T, _, _, _, _, _, _ => (List.append_nil _).symm
  | x :: xs, T, n, q, b, W, h0, hq => by
    rw [recT_cons, rec_parents xs _ _ _ _ (step_wf W h0 hq _) (by omega) (by omega)]
    have e : (stepT T n q b x).parents = T.parents ++ [q] := by
      show (T.parents ++ [-1]).set (n : Int).toNat q = _
      rw [Int.toNat_natCast, ← W.p, set_snoc]
    rw [e]
    simp [nums]
theorem modify_app {α : Type} {xs ys : List α} {i : Nat} {f : α → α} (h : i < xs.length) : (xs ++ ys).modify i f = xs.modify i f ++ ys := by
  apply List.ext_getElem?
  intro j
  rw [List.getElem?_modify]
  by_cases hj : j < xs.length
  · rw [List.getElem?_append_left hj, List.getElem?_append_left (by rw [List.length_modify]; exact hj), List.getElem?_modify]
  · rw [List.getElem?_append_right (by omega), List.getElem?_append_right (by rw [List.length_modify]; omega), List.length_modify]
    have e : ¬ i = j := by omega
    simp only [e, if_false, Option.map_eq_map, Option.map_id']
theorem modify_last {α : Type} {xs : List α} {y : α} {f : α → α} : (xs ++ [y]).modify xs.length f = xs ++ [f y] := by
  apply List.ext_getElem?
  intro j
  rw [List.getElem?_modify]
  by_cases hj : j < xs.length
  · rw [List.getElem?_append_left hj, List.getElem?_append_left hj]
    have e : ¬ xs.length = j := by omega
    simp only [e, if_false, Option.map_eq_map, Option.map_id']
  · rw [List.getElem?_append_right (by omega), List.getElem?_append_right (by omega)]
    by_cases e : xs.length = j
    · subst e
      simp
    · have : j - xs.length ≠ 0 := by omega
      obtain ⟨k, hk⟩ : ∃ k, j - xs.length = k + 1 := ⟨j - xs.length - 1, by omega⟩
      rw [hk]
      simp
theorem rec_children : ∀ (xs : List Int) (T : Tr) (n : Nat) (q b : Int), WF T n → 0 ≤ q → q < n → (recT T n q b xs).children = dueKids T n q b xs.length
  | [], T, _, _, _, _, _, _ => by rw [dueKids]; exact (if_pos rfl).symm
  | x :: xs, T, n, q, b, W, h0, hq => by
    have wc := W.c
    have e : (stepT T n q b x).children = T.children.modify q.toNat (fun c => c.take (if b = -1 then c.length else c.idxOf b) ++ (n : Int) :: c.drop (if b = -1 then c.length else c.idxOf b)) ++ [[]] := by
      show (T.children ++ [[]]).modify q.toNat _ = _
      rw [modify_app (by omega)]
    rw [recT_cons, rec_children xs _ _ _ _ (step_wf W h0 hq _) (by omega) (by omega)]
    rw [dueKids, dueKids, if_neg (by simp : ¬ (x :: xs).length = 0), e]
    cases xs with
    | nil => simp [nums]
    | cons y ys =>
      rw [if_neg (by simp : ¬ (y :: ys).length = 0), Int.toNat_natCast]
      have el : n = (T.children.modify q.toNat (fun c => c.take (if b = -1 then c.length else c.idxOf b) ++ (n : Int) :: c.drop (if b = -1 then c.length else c.idxOf b))).length := by rw [List.length_modify, wc]
      conv => lhs; arg 1; arg 1; arg 2; rw [el]
      rw [modify_last]
      simp [nums]
theorem rec_due {stack : List Int} {pre fresh : List Ent} (W : WF T n) (h0 : 0 ≤ q) (hq : q < n) (F : Fits T n fresh) :
    allD (recT T n q b (fresh.map (·.1))) (stack ++ nums n fresh.length) (pre.map (·.1) ++ nums n fresh.length) = dueD T stack pre fresh n q b := by
  unfold allD dueD
  rw [rec_kinds, rec_spaces, rec_texts, rec_names _ _ _ _ _ W h0 hq F, rec_attrs _ _ _ _ _ W h0 hq F, rec_parents _ _ _ _ _ W h0 hq, rec_children _ _ _ _ _ W h0 hq, List.length_map]
/-- where the fresh entries begin -/
theorem cut_row (stack : List Int) : ∀ l : List Ent, ∃ pre fresh, l.reverse = pre ++ fresh ∧ (pre = [] ∨ (pre.getD (pre.length - 1) (0, Str.ofString "", [])).1 = -1 ∨ (pre.getD (pre.length - 1) (0, Str.ofString "", [])).1 ∈ stack) ∧ ∀ e ∈ fresh, e.1 ≠ -1 ∧ e.1 ∉ stack
  | [] => ⟨[], [], rfl, .inl rfl, fun _ h => nomatch h⟩
  | e :: l => by
    by_cases h : e.1 = -1 ∨ e.1 ∈ stack
    · refine ⟨l.reverse ++ [e], [], by simp, .inr ?_, fun _ h => nomatch h⟩
      have : (l.reverse ++ [e]).getD ((l.reverse ++ [e]).length - 1) (0, Str.ofString "", []) = e := by
        rw [getD_snoc, if_neg (by simp), if_pos (by simp)]
      rw [this]
      exact h
    · obtain ⟨pre, fresh, h1, h2, h3⟩ := cut_row stack l
      refine ⟨pre, fresh ++ [e], by rw [List.reverse_cons, h1, List.append_assoc], h2, fun y hy => ?_⟩
      rcases List.mem_append.mp hy with hy | hy
      · exact h3 y hy
      · rw [List.mem_singleton.mp hy]
        exact not_or.mp h
theorem cut (stack : List Int) (row : List Ent) : ∃ pre fresh, row = pre ++ fresh ∧ (pre = [] ∨ (pre.getD (pre.length - 1) (0, Str.ofString "", [])).1 = -1 ∨ (pre.getD (pre.length - 1) (0, Str.ofString "", [])).1 ∈ stack) ∧ ∀ e ∈ fresh, e.1 ≠ -1 ∧ e.1 ∉ stack := by
  have := cut_row stack row.reverse
  rwa [List.reverse_reverse] at this
end
section
/-! two data that read alike compare as equal -/
open PySem.SeqAt in
section
def dOk : Nat → Dat → Bool
  | _, .none => true
  | _, .bool _ => true
  | _, .int _ => true
  | _, .str _ => true
  | n + 1, .tuple ds => ds.all (dOk n)
  | n + 1, .list ds => ds.all (dOk n)
  | _, _ => false
theorem all_true (n : Nat) : ((List.range n).all fun _ => true) = true := by simp
theorem dat_get {news : Led} {vs : List Value} {ds : List Dat} (h : DatAll news vs ds) {j : Nat} (hj : j < vs.length) : ∃ (hd : j < ds.length), DatIn news vs[j] ds[j] := by
  have hl := h.length
  obtain ⟨v, hv, hd⟩ := h.get (k := j) (by omega)
  rw [List.getElem?_eq_getElem hj] at hv
  exact ⟨by omega, Option.some.inj hv ▸ hd⟩
theorem dat_eq {s : Shared} {g : Heap} {L : Addr} {news : Led} (N : News g L s.heap news) : ∀ (n : Nat) (d : Dat) (v v' : Value) (A : Around), dOk n d = true → DatIn news v d → DatIn news v' d → A.units + n < cLine → EqAt A s v v' true := by
  intro n
  induction n with
  | zero =>
    intro d v v' A hk h h' hu
    cases h with
    | none => cases h'; exact EqAt.same _
    | bool b => cases h'; exact EqAt.same _
    | int i t =>
      cases h' with
      | int _ t' => have := EqAt.int_int (A := A) (s := s) i t i t'; rwa [beq_self_eq_true] at this
    | str x t =>
      cases h' with
      | str _ t' => have := EqAt.str_str (A := A) (s := s) x t x t'; rwa [beq_self_eq_true] at this
    | bytes b t => simp [dOk] at hk
    | tuple hm r => simp [dOk] at hk
    | list hm r => simp [dOk] at hk
  | succ n ih =>
    intro d v v' A hk h h' hu
    cases h with
    | none => cases h'; exact EqAt.same _
    | bool b => cases h'; exact EqAt.same _
    | int i t =>
      cases h' with
      | int _ t' => have := EqAt.int_int (A := A) (s := s) i t i t'; rwa [beq_self_eq_true] at this
    | str x t =>
      cases h' with
      | str _ t' => have := EqAt.str_str (A := A) (s := s) x t x t'; rwa [beq_self_eq_true] at this
    | bytes b t => simp [dOk] at hk
    | @tuple a vs k ds hm r =>
      cases h' with
      | @tuple a' vs' k' _ hm' r' =>
        by_cases e : a = a'
        · subst e
          exact EqAt.same _
        · refine EqAt.of_refs e ?_
          have hl := r.length
          have hl' := r'.length
          have := RcAt.tuples (A := A) (s := s) (e := fun _ => true) (show s.heap.IsTuple a vs.toArray from ⟨_, (N _ hm).1, rfl, _, rfl⟩) (show s.heap.IsTuple a' vs'.toArray from ⟨_, (N _ hm').1, rfl, _, rfl⟩) (by omega) (fun j j1 j2 => by
            rw [List.size_toArray] at j1 j2
            obtain ⟨q1, q2⟩ := dat_get r j1
            obtain ⟨q3, q4⟩ := dat_get r' j2
            refine ih ds[j] _ _ A.in1 ?_ (by simpa using q2) (by simpa using q4) (by show A.units + 1 + n < cLine; omega)
            have hk' : ds.all (dOk n) = true := hk
            exact List.all_eq_true.mp hk' _ (List.getElem_mem _))
          rw [all_true, List.size_toArray, List.size_toArray, hl, hl', beq_self_eq_true] at this
          exact this
    | @list a vs k ds hm r =>
      cases h' with
      | @list a' vs' k' _ hm' r' =>
        by_cases e : a = a'
        · subst e
          exact EqAt.same _
        · refine EqAt.of_refs e ?_
          have hl := r.length
          have hl' := r'.length
          have := RcAt.lists (A := A) (s := s) (e := fun _ => true) (show s.heap.IsList a vs.toArray from ⟨_, (N _ hm).1, rfl, _, rfl⟩) (show s.heap.IsList a' vs'.toArray from ⟨_, (N _ hm').1, rfl, _, rfl⟩) (by rw [List.size_toArray, List.size_toArray]; omega) (by omega) (fun j j1 j2 => by
            rw [List.size_toArray] at j1 j2
            obtain ⟨q1, q2⟩ := dat_get r j1
            obtain ⟨q3, q4⟩ := dat_get r' j2
            refine ih ds[j] _ _ A.in1 ?_ (by simpa using q2) (by simpa using q4) (by show A.units + 1 + n < cLine; omega)
            have hk' : ds.all (dOk n) = true := hk
            exact List.all_eq_true.mp hk' _ (List.getElem_mem _))
          rw [all_true] at this
          exact this
theorem co_any {prog prog' : Program} {w w' : World} {o : Obj} {cs : List (Int × Int)} (h : CoAre prog w o cs) : CoAre prog' w' o cs := by
  obtain ⟨kvs, ⟨es, ep, he, hd, hk, hp, hn⟩, hf⟩ := h
  refine ⟨kvs, ⟨es, ep, he, hd, fun e he => hk e he, ?_, hn⟩, hf⟩
  clear hf hn hk hd he
  generalize es.toList = l at hp
  induction hp with
  | nil => exact .nil
  | cons h1 h2 _ ih => exact .cons h1 h2 ih
theorem eqv_int (i : Int) : PyData.eqv (.int i) (.int i) = true := by simp [PyData.eqv]
theorem co_rows {cs : List (Int × Int)} (h : cs.length ≤ 1) : KeqRows (coD cs) (coD cs) true := by
  match cs, h with
  | [], _ => exact .nil
  | [(k, x)], _ =>
    have e : PySem.Spec.lookup (.int k) (coD [(k, x)]) = some (.int x) := by
      show (if PySem.Spec.same (.int k) (.int k) = true then some (PyData.int x) else _) = _
      rw [if_pos (by rw [PyProof.V.same_int]; simp)]
    have := KeqRows.hit (v := .int x) e .nil
    rwa [eqv_int] at this
  | _ :: _ :: _, h => exact absurd h (by simp)
theorem eq_dicts {prog : Program} {w : World} {A : Around} {s : Shared} {g : Heap} {L a b : Addr} {news : Led} {oa ob : Obj} {cs : List (Int × Int)} (N : News g L s.heap news) (ha : (a, oa) ∈ news) (hb : (b, ob) ∈ news) (la : (a == sysModules) = false) (lb : (b == sysModules) = false)
    (Ca : CoAre prog w oa cs) (Cb : CoAre prog w ob cs) (h1 : cs.length ≤ 1) (hu : A.units < cLine) : EqAt A s (.ref a) (.ref b) true := by
  by_cases e : a = b
  · subst e
    exact EqAt.same _
  · refine EqAt.of_refs e fun prog' w' E Q hq => ?_
    have Ta : TabAt (intKind prog' w') PyData.int s.heap a (coD cs) := co_tab (prog := prog') (w := w') (ad := ⟨a, a, a, a, a, a, a, a, a, a⟩) (u := ⟨fun _ => 0, [], [], [], [], [], 0, 0, 0, 0, 0, 0, 0, oa, [], []⟩) la N ha (co_any Ca)
    have Tb : TabAt (intKind prog' w') PyData.int s.heap b (coD cs) := co_tab (prog := prog') (w := w') (ad := ⟨b, b, b, b, b, b, b, b, b, b⟩) (u := ⟨fun _ => 0, [], [], [], [], [], 0, 0, 0, 0, 0, 0, 0, ob, [], []⟩) lb N hb (co_any Cb)
    exact keq_tabs (prog := prog') (w := w') PyProof.V.same_int Ta Tb rfl hu (co_rows h1) hq
theorem ne_all {prog : Program} {w : World} {A : Around} {E : Value → Shared → Prop} {s : Shared} {Q : Value → Shared → Prop} {g : Heap} {L D D' co co' : Addr} {news : Led} {vs vs' : List Value} {k k' : Nat} {ds : List Dat} {o o' : Obj} {cs : List (Int × Int)}
    (N : News g L s.heap news) (hD : (D, lsOf (vs ++ [.ref co]) k) ∈ news) (hD' : (D', lsOf (vs' ++ [.ref co']) k') ∈ news) (h : DatAll news vs ds) (h' : DatAll news vs' ds) (hc : (co, o) ∈ news) (hc' : (co', o') ∈ news)
    (lo : (co == sysModules) = false) (lo' : (co' == sysModules) = false) (C : CoAre prog w o cs) (C' : CoAre prog w o' cs) (h1 : cs.length ≤ 1) (hk : ∀ d ∈ ds, dOk 5 d = true) (hu : A.units + 64 < cLine) (hq : Q (.bool false) s) :
    wpAny (model prog w) A (compareOp .NotEq (.ref D) (.ref D')) Q E s := by
  have hl := h.length
  have hl' := h'.length
  have := RcNeAt.lists (A := A) (s := s) (e := fun _ => true) (N.isList hD) (N.isList hD') (by rw [List.size_toArray, List.size_toArray, List.length_append, List.length_append, hl, hl']; rfl) (by omega) (fun j j1 j2 => by
    rw [List.size_toArray, List.length_append, List.length_singleton] at j1 j2
    by_cases hj : j < vs.length
    · obtain ⟨q1, q2⟩ := dat_get h hj
      obtain ⟨q3, q4⟩ := dat_get h' (j := j) (by omega)
      have e1 : (vs ++ [Value.ref co]).toArray[j] = vs[j] := by simp [hj]
      have e2 : (vs' ++ [Value.ref co']).toArray[j] = vs'[j]'(by omega) := by simp [show j < vs'.length by omega]
      rw [e1, e2]
      exact dat_eq N 5 ds[j] _ _ A.in1 (hk _ (List.getElem_mem _)) q2 q4 (by show A.units + 1 + 5 < cLine; omega)
    · have ej : j = vs.length := by omega
      subst ej
      have e1 : (vs ++ [Value.ref co]).toArray[vs.length] = .ref co := by simp
      have e2 : (vs' ++ [Value.ref co']).toArray[vs.length] = .ref co' := by simp [hl, hl']
      rw [e1, e2]
      exact eq_dicts N hc hc' lo lo' C C' h1 (by show A.units + 1 < cLine; omega))
  rw [all_true] at this
  exact this prog w E Q hq
theorem dOk_ints {n : Nat} (ns : List Int) : dOk (n + 1) (.list (ns.map .int)) = true := by
  show (ns.map Dat.int).all (dOk n) = true
  rw [List.all_map, List.all_eq_true]
  intro i _
  cases n <;> rfl
theorem dOk_strs {n : Nat} (ys : List Str) : dOk (n + 1) (.list (ys.map .str)) = true := by
  show (ys.map Dat.str).all (dOk n) = true
  rw [List.all_map, List.all_eq_true]
  intro i _
  cases n <;> rfl
theorem dOk_kids {n : Nat} (ds : List (List Int)) : dOk (n + 2) (.list (ds.map kidD)) = true := by
  show (ds.map kidD).all (dOk (n + 1)) = true
  rw [List.all_map, List.all_eq_true]
  exact fun d _ => dOk_ints d
theorem dOk_attrs {n : Nat} (ds : List (List (Str × Str))) : dOk (n + 4) (.list (ds.map attrD)) = true := by
  show (ds.map attrD).all (dOk (n + 3)) = true
  rw [List.all_map, List.all_eq_true]
  intro d _
  show (d.map fun p => Dat.tuple [.str p.1, .str p.2]).all (dOk (n + 2)) = true
  rw [List.all_map, List.all_eq_true]
  intro p _
  rfl
theorem allD_ok (T : Tr) (stack fmt : List Int) : ∀ d ∈ allD T stack fmt, dOk 5 d = true := by
  intro d hd
  simp only [allD, List.mem_cons, List.not_mem_nil, or_false] at hd
  rcases hd with rfl | rfl | rfl | rfl | rfl | rfl | rfl | rfl | rfl | rfl
  · exact dOk_ints _
  · exact dOk_ints _
  · rfl
  · exact dOk_strs _
  · exact dOk_strs _
  · exact dOk_strs _
  · exact dOk_attrs _
  · exact dOk_strs _
  · exact dOk_ints _
  · exact dOk_kids _
end
end
section
/-! what the law still needs, in plain data -/
section
variable {prog : Program} {w : World} {p : Program} {loose : List Str} {mean : ExcName → Option Value} {mg mb : Str → Option Value} {ad : TAd} {bd : BAd} {la : LAd} {u : TRaw} {v : BRaw} {x : LRaw} {z r : Led} {T : Tr} {stack fmt : List Int} {row pre fresh : List Ent} {n : Nat} {q b : Int} {fo : Bool}
def tenRefs (ad : TAd) (bd : BAd) : List Value := [.ref bd.sI, .ref bd.fI, .ref bd.eI, .ref ad.kI, .ref ad.spI, .ref ad.nI, .ref ad.aI, .ref ad.xI, .ref ad.pI, .ref ad.cI]
theorem all_dat (H : St prog w ad bd z u v T stack fmt n) {news : Led} (hv : ∀ p ∈ v.led w.params ad bd, p ∈ news) (hu : ∀ p ∈ u.led w.params ad, p ∈ news) (hz : ∀ p ∈ z, p ∈ news) :
    DatAll news (tenRefs ad bd) (allD T stack fmt) := by
  have ha : ∀ p ∈ u.aL, p ∈ news := fun p hp => hu p (by simp [TRaw.led, hp])
  have hc : ∀ p ∈ u.cL, p ∈ news := fun p hp => hu p (by simp [TRaw.led, hp])
  exact .cons (.list (hv _ (List.mem_of_getElem? (i := 4) rfl)) (dat_ints H.B.s)) <|
    .cons (.list (hv _ (List.mem_of_getElem? (i := 7) rfl)) (dat_ints H.B.f)) <|
    .cons (.list (hv _ (List.mem_of_getElem? (i := 8) rfl)) .nil) <|
    .cons (.list (hu _ (List.mem_of_getElem? (i := 2) rfl)) (dat_strs H.R.k)) <|
    .cons (.list (hu _ (List.mem_of_getElem? (i := 3) rfl)) (dat_strs H.R.sp)) <|
    .cons (.list (hu _ (List.mem_of_getElem? (i := 4) rfl)) (dat_strs H.R.n)) <|
    .cons (.list (hu _ (List.mem_of_getElem? (i := 5) rfl)) (dat_attrs H.R.a ha hz)) <|
    .cons (.list (hu _ (List.mem_of_getElem? (i := 6) rfl)) (dat_strs H.R.x)) <|
    .cons (.list (hu _ (List.mem_of_getElem? (i := 7) rfl)) (dat_ints H.R.p)) <|
    .cons (.list (hu _ (List.mem_of_getElem? (i := 8) rfl)) (dat_kids H.R.c hc)) .nil
theorem getD_le {ds : List (List (Str × Str))} {k i : Nat} (h : ∀ d ∈ ds, d.length ≤ k) : (ds.getD i []).length ≤ k := by
  by_cases hi : i < ds.length
  · rw [List.getD_eq_getElem?_getD, List.getElem?_eq_getElem hi]
    exact h _ (List.getElem_mem _)
  · rw [List.getD_eq_getElem?_getD, List.getElem?_eq_none (by omega)]
    exact Nat.zero_le _
theorem fresh_ok (F : Fin prog w p loose mean mg mb ad bd T n stack fmt row q b fo) (e : row = pre ++ fresh) (hfr : ∀ e ∈ fresh, e.1 ≠ -1 ∧ e.1 ∉ stack) :
    ∀ e ∈ fresh, 4 ≤ e.1 ∧ e.1 < n ∧ T.names.getD e.1.toNat (Str.ofString "") = e.2.1 ∧ T.attrs.getD e.1.toNat [] = e.2.2 ∧ e.2.1 ≠ Str.ofString "template" ∧ isPart e.2.1 = false := fun y hy => by
  rcases F.en y (by rw [e]; exact List.mem_append_right _ hy) with h | ⟨h1, h2, h3, h4, h5, h6, _⟩
  · exact absurd h (hfr y hy).1
  · exact ⟨h1, h2, h3, h4, h5, h6⟩
theorem fits_of (F : Fin prog w p loose mean mg mb ad bd T n stack fmt row q b fo) (e : row = pre ++ fresh) (hfr : ∀ e ∈ fresh, e.1 ≠ -1 ∧ e.1 ∉ stack) : Fits T n fresh := fun y hy => by
  obtain ⟨h1, h2, h3, h4, _⟩ := fresh_ok F e hfr y hy
  exact ⟨by omega, h2, h3, h4⟩
theorem due_in {sp : Addr} {t1 t2 : Tok} (F : Fin prog w p loose mean mg mb ad bd T n stack fmt row q b fo) (H : St prog w ad bd z u v T stack fmt n) (o : IntsAre x.oV stack) (hrw : RowAre w.params z x.rV row) (zr : ∀ y ∈ z, y ∈ r) (hsp : (sp, tupOf [.int q t1, .int b t2] 0) ∈ r)
    (e : row = pre ++ fresh) (hpre : pre = [] ∨ (pre.getD (pre.length - 1) (0, Str.ofString "", [])).1 = -1 ∨ (pre.getD (pre.length - 1) (0, Str.ofString "", [])).1 ∈ stack) (hfr : ∀ e ∈ fresh, e.1 ≠ -1 ∧ e.1 ∉ stack) :
    DueIn prog w ad bd la z r u v x T stack fmt n sp q b t1 t2 pre fresh := by
  have hn := F.hn
  have hr := F.rl
  have hc := F.c1
  refine ⟨H, o, e ▸ hrw, zr, hsp, by omega, by rw [← e]; omega, hpre, hfr, F.q0, F.qn, F.hb.imp id fun h => ⟨h.1, h.2.1⟩, fun d hd => Nat.le_trans (F.at' d hd) (by omega), fun y hy => ?_, by omega⟩
  obtain ⟨_, _, _, h4, _⟩ := fresh_ok F e hfr y hy
  have := getD_le (i := y.1.toNat) F.at'
  rw [← h4]
  omega
theorem rec_in (F : Fin prog w p loose mean mg mb ad bd T n stack fmt row q b v.foster) (S : Sep2 (v.led w.params ad bd) (u.led w.params ad) r) (H : St prog w ad bd z u v T stack fmt n) (e : row = pre ++ fresh) (hfr : ∀ e ∈ fresh, e.1 ≠ -1 ∧ e.1 ∉ stack) (mo : v.mode = Str.ofString "in body") :
    RecS prog w p loose mean mg mb ad bd z r v.foster (Str.ofString "in body") (recT T n q b (fresh.map (·.1))) (stack ++ nums n fresh.length) (pre.map (·.1) ++ nums n fresh.length) (n + fresh.length) u v T n q b stack (pre.map (·.1)) (fresh.map (·.1)) := by
  have hn := F.hn
  have hr := F.rl
  have hm : pre.map (·.1) ++ fresh.map (·.1) = fmt := by rw [F.fm, e, List.map_append]
  have hl : row.length = pre.length + fresh.length := by rw [e, List.length_append]
  refine ⟨S, by rw [hm]; exact H, by rw [List.length_map]; omega, by rw [List.length_append, List.length_map, List.length_map]; omega, fun _ u v r fmt => F.C z u v r fmt, fun _ => F.q0, fun _ => F.qn, fun _ => F.hb.imp id fun h => ⟨h.1, h.2.1, by omega⟩, fun y hy => ?_, F.co, fun d hd => Nat.le_trans (F.at' d hd) (by omega), rfl, by rw [List.length_map], by rw [List.length_map], by rw [List.length_map], rfl, mo⟩
  obtain ⟨y0, hy0, rfl⟩ := List.mem_map.mp hy
  obtain ⟨h1, h2, h3, h4, h5, h6⟩ := fresh_ok F e hfr y0 hy0
  exact ⟨by omega, h2, h3 ▸ h5, h3 ▸ h6⟩
theorem rec2_in {u' : TRaw} {v' : BRaw} {r' : Led} {mo : Str} (F : Fin prog w p loose mean mg mb ad bd T n stack fmt row q b fo) (W : WF T n) (e : row = pre ++ fresh) (hfr : ∀ e ∈ fresh, e.1 ≠ -1 ∧ e.1 ∉ stack) (S : Sep2 (BRaw.led w.params ad bd v') (TRaw.led w.params ad u') r')
    (H : St prog w ad bd z u' v' (recT T n q b (fresh.map (·.1))) (stack ++ nums n fresh.length) (pre.map (·.1) ++ nums n fresh.length) (n + fresh.length)) (hfo : v'.foster = fo) (hmo : v'.mode = mo) :
    RecS prog w p loose mean mg mb ad bd z r' fo mo (recT T n q b (fresh.map (·.1))) (stack ++ nums n fresh.length) (pre.map (·.1) ++ nums n fresh.length) (n + fresh.length) u' v' (recT T n q b (fresh.map (·.1))) (n + fresh.length) q b (stack ++ nums n fresh.length) (pre.map (·.1) ++ nums n fresh.length) [] := by
  have hn := F.hn
  have hr := F.rl
  have hl : row.length = pre.length + fresh.length := by rw [e, List.length_append]
  refine ⟨S, by rw [List.append_nil]; exact H, by rw [List.length_nil]; omega, by rw [List.length_append, List.length_append, List.length_map, nums_length, List.length_nil]; omega, fun h => absurd rfl h, fun h => absurd rfl h, fun h => absurd rfl h, fun h => absurd rfl h, (nomatch ·, ·), fun c hc => ?_, fun d hd => ?_, rfl, List.append_nil _, List.append_nil _, rfl, hfo, hmo⟩
  · rw [rec_contents] at hc
    have := F.co c hc
    omega
  · rw [rec_attrs _ _ _ _ _ W F.q0 F.qn (fits_of F e hfr)] at hd
    rcases List.mem_append.mp hd with hd | hd
    · exact Nat.le_trans (F.at' d hd) (by omega)
    · obtain ⟨y, hy, rfl⟩ := List.mem_map.mp hd
      obtain ⟨_, _, _, h4, _⟩ := fresh_ok F e hfr y hy
      have := getD_le (i := y.1.toNat) F.at'
      rw [← h4]
      omega
theorem map_last (h : pre = [] ∨ (pre.getD (pre.length - 1) (0, Str.ofString "", [])).1 = -1 ∨ (pre.getD (pre.length - 1) (0, Str.ofString "", [])).1 ∈ stack) :
    pre.map (·.1) = [] ∨ (pre.map (·.1)).getD ((pre.map (·.1)).length - 1) 0 = -1 ∨ (pre.map (·.1)).getD ((pre.map (·.1)).length - 1) 0 ∈ stack := by
  have e : (pre.map (·.1)).getD ((pre.map (·.1)).length - 1) 0 = (pre.getD (pre.length - 1) (0, Str.ofString "", [])).1 := by
    rw [List.length_map, List.getD_eq_getElem?_getD, List.getD_eq_getElem?_getD, List.getElem?_map]
    cases pre[pre.length - 1]? <;> rfl
  rw [e]
  exact h.imp (fun h => by rw [h]; rfl) id
theorem all_last {xs : List Int} (h : xs = [] ∨ xs.getD (xs.length - 1) 0 = -1 ∨ xs.getD (xs.length - 1) 0 ∈ stack) (k : Nat) :
    xs ++ nums n k = [] ∨ (xs ++ nums n k).getD ((xs ++ nums n k).length - 1) 0 = -1 ∨ (xs ++ nums n k).getD ((xs ++ nums n k).length - 1) 0 ∈ stack ++ nums n k := by
  cases k with
  | zero =>
    show xs ++ [] = [] ∨ (xs ++ []).getD ((xs ++ []).length - 1) 0 = -1 ∨ (xs ++ []).getD ((xs ++ []).length - 1) 0 ∈ stack ++ []
    rw [List.append_nil, List.append_nil]
    exact h
  | succ k =>
    refine .inr (.inr (List.mem_append_right _ ?_))
    rw [nums_snoc, ← List.append_assoc, List.length_append, List.length_singleton, getD_snoc, if_neg (by omega), if_pos (by omega)]
    exact List.mem_append_right _ (.head _)
theorem due_sep {l₁ l₂ l₃ r nw : Led} (S : Sep2 l₁ l₂ (l₃ ++ r)) (U : Ap nw (l₁ ++ (l₂ ++ (l₃ ++ r)))) : Sep2 l₁ l₂ (nw ++ (l₃ ++ r)) :=
  ⟨⟨S.one.nd, fun p hp q hq => by
    rcases List.mem_append.mp hq with hq | hq
    · exact S.one.off p hp q (List.mem_append_left _ hq)
    · rcases List.mem_append.mp hq with hq | hq
      · exact Ne.symm (U q hq p (List.mem_append_left _ hp))
      · exact S.one.off p hp q (List.mem_append_right _ hq)⟩, ⟨S.two.nd, fun p hp q hq => by
    rcases List.mem_append.mp hq with hq | hq
    · exact S.two.off p hp q (List.mem_append_left _ hq)
    · rcases List.mem_append.mp hq with hq | hq
      · exact Ne.symm (U q hq p (List.mem_append_right _ (List.mem_append_left _ hp)))
      · exact S.two.off p hp q (List.mem_append_right _ hq)⟩⟩
theorem due_news {g h : Heap} {L : Addr} {l₁ l₂ l₃ nw : Led} (N : News g L h (nw ++ (l₁ ++ (l₂ ++ l₃)))) : News g L h (l₁ ++ (l₂ ++ (nw ++ l₃))) := News.sub N (sub_a (fun _ k => List.mem_append_right _ (List.mem_append_left _ k)) (sub_a (fun _ k => List.mem_append_right _ (List.mem_append_right _ (List.mem_append_left _ k))) (sub_a (fun _ k => List.mem_append_left _ k) fun _ k => List.mem_append_right _ (List.mem_append_right _ (List.mem_append_right _ k)))))
theorem ne_due {A : Around} {E : Value → Shared → Prop} {s : Shared} {Q : Value → Shared → Prop} {g : Heap} {L D D9 co : Addr} {oC : Obj} {vs : List Value} {u' : TRaw} {v' : BRaw} {r' nw l3 : Led} (N : News g L s.heap (BRaw.led w.params ad bd v' ++ (TRaw.led w.params ad u' ++ (D, lsOf (allRefs ad bd) 0) :: r'))) (hr : ∀ p ∈ nw ++ (l3 ++ r), p ∈ r') (zr : ∀ y ∈ z, y ∈ r)
    (H : St prog w ad bd z u' v' (recT T n q b (fresh.map (·.1))) (stack ++ nums n fresh.length) (pre.map (·.1) ++ nums n fresh.length) (n + fresh.length)) (F : Fin prog w p loose mean mg mb ad bd T n stack fmt row q b fo) (W : WF T n) (e : row = pre ++ fresh) (hfr : ∀ e ∈ fresh, e.1 ≠ -1 ∧ e.1 ∉ stack)
    (mD : (D9, lsOf (vs ++ [.ref co]) 0) ∈ nw) (dd : DatAll (nw ++ r) vs (dueD T stack pre fresh n q b)) (mc : (co, oC) ∈ nw) (lo : (co == sysModules) = false) (C : CoAre prog w oC T.contents) (hu : A.units + 64 < cLine) (hq : Q (.bool false) s) :
    wpAny (model prog w) A (compareOp .NotEq (.ref D) (.ref D9)) Q E s := by
  have in1 : ∀ p ∈ BRaw.led w.params ad bd v', p ∈ BRaw.led w.params ad bd v' ++ (TRaw.led w.params ad u' ++ (D, lsOf (allRefs ad bd) 0) :: r') := fun p hp => List.mem_append_left _ hp
  have in2 : ∀ p ∈ TRaw.led w.params ad u', p ∈ BRaw.led w.params ad bd v' ++ (TRaw.led w.params ad u' ++ (D, lsOf (allRefs ad bd) 0) :: r') := fun p hp => List.mem_append_right _ (List.mem_append_left _ hp)
  have in3 : ∀ p ∈ r', p ∈ BRaw.led w.params ad bd v' ++ (TRaw.led w.params ad u' ++ (D, lsOf (allRefs ad bd) 0) :: r') := fun p hp => List.mem_append_right _ (List.mem_append_right _ (.tail _ hp))
  have in4 : ∀ p ∈ nw, p ∈ BRaw.led w.params ad bd v' ++ (TRaw.led w.params ad u' ++ (D, lsOf (allRefs ad bd) 0) :: r') := fun p hp => in3 p (hr p (List.mem_append_left _ hp))
  have in5 : ∀ p ∈ r, p ∈ BRaw.led w.params ad bd v' ++ (TRaw.led w.params ad u' ++ (D, lsOf (allRefs ad bd) 0) :: r') := fun p hp => in3 p (hr p (List.mem_append_right _ (List.mem_append_right _ hp)))
  have hd := rec_due (stack := stack) (pre := pre) (b := b) W F.q0 F.qn (fits_of F e hfr)
  rw [← hd] at dd
  have hc := H.R.co
  rw [rec_contents] at hc
  exact ne_all (vs := tenRefs ad bd) (co := ad.coI) N (List.mem_append_right _ (List.mem_append_right _ (.head _))) (in4 _ mD) (all_dat H in1 in2 fun y hy => in5 y (zr y hy)) (dd.mono fun y hy => (List.mem_append.mp hy).elim (in4 y) (in5 y)) (in2 _ (List.mem_of_getElem? (i := 9) rfl)) (in4 _ mc) H.R.lo lo hc C F.c1 (allD_ok _ _ _) hu hq
theorem fr_map (h : ∀ e ∈ fresh, e.1 ≠ -1 ∧ e.1 ∉ stack) : ∀ x ∈ fresh.map (·.1), x ≠ -1 ∧ x ∉ stack := fun x hx => by
  obtain ⟨y, hy, e⟩ := List.mem_map.mp hx
  exact e ▸ h y hy
end
end
theorem rows98 : True := by
  (k_with "nz:call builtin:list.append" => (refine Hold.mk' ?_))
  (k_with "nz:call builtin:list.remove" => (refine Hold.mk' ?_))
  (k_with "nz:compareOp NotEq ref ref" => (refine Hold.mk' ?_))
  (k_with "nz:CompSrc" => (refine Hold.mk' ?_))
  (k_with "nz:CompEnd" => (refine Hold.mk' ?_))
  (k_with "nz:call type:list" => (refine Hold.mk' ?_))
  (k_with "nz:newList" => (refine Hold.mk' ?_))
  (k_with "nz:call ref" => (((with_reducible show wpAny _ _ (call (Value.ref 246) _) _ _ _); refine Hold.mk' ?_)))
  (k_with "nz:call ref" => (((with_reducible show wpAny _ _ (call (Value.ref 486) _) _ _ _); refine Hold.mk' ?_)))
  (k_with "nz:nz mem" => (((show (_ : Addr × Obj) ∈ (_ : List (Addr × Obj))); first
  | with_reducible assumption
  | (with_reducible exact List.mem_cons_self)
  | ((with_reducible refine' List.mem_cons_of_mem _ ?_); walk_at "nz mem")
  | ((with_reducible refine' List.mem_append_left _ ?_); walk_at "nz mem")
  | ((with_reducible refine' List.mem_append_right _ ?_); walk_at "nz mem")
  | ((with_reducible show _ ∈ TRaw.led _ _ _); k_mem)
  | ((with_reducible show _ ∈ LRaw.led _ _); k_mem)
  | ((with_reducible show _ ∈ BRaw.led _ _ _ _); k_mem))))
  (k_with "nz:subscriptTail Name Constant" => (((with_reducible show wpAny _ _ (subscriptTail _ _ (Value.ref _) (Value.int _ _)) _ _ _); k_dflt (refine' sub_at_r ?zqk0 ?zqk1 ?zqk2 ?zqk3 ?zqk4 ?zqk5 ?_ ?zqk7; (case zqk0 => with_reducible assumption); (case zqk1 => k_asm); (case zqk2 => k_mem); (case zqk3 => omega); (case zqk4 => omega); (case zqk5 => with_reducible assumption); (case zqk7 => with_unfolding_all rfl); k_whole))))
  (k_with "nz:subscriptTail Name" => (((with_reducible show wpAny _ _ (subscriptTail _ _ (Value.ref _) (Value.int _ _)) _ _ _); k_dflt (refine' sub_at_r ?zqk0 ?zqk1 ?zqk2 ?zqk3 ?zqk4 ?zqk5 ?_ ?zqk7; (case zqk0 => with_reducible assumption); (case zqk1 => k_asm); (case zqk2 => k_mem); (case zqk3 => omega); (case zqk4 => omega); (case zqk5 => with_reducible assumption); (case zqk7 => with_unfolding_all rfl); k_whole))))
  (k_with "nz:subscriptTail Name" => (((with_reducible show wpAny _ _ (subscriptTail _ _ (Value.ref _) (Value.int _ _)) _ _ _); k_dflt (refine' tup_at_r ?zqk0 ?zqk1 ?zqk2 ?zqk3 ?zqk4 ?zqk5 ?_ ?zqk7; (case zqk0 => with_reducible assumption); (case zqk1 => k_asm); (case zqk2 => k_mem); (case zqk3 => omega); (case zqk4 => omega); (case zqk5 => with_reducible assumption); (case zqk7 => with_unfolding_all rfl); k_whole))))
  (k_with "nz:subscriptTail Name Constant" => (((with_reducible show wpAny _ _ (subscriptTail _ _ (Value.ref _) (Value.int _ _)) _ _ _); k_dflt (refine' tup_at_r ?zqk0 ?zqk1 ?zqk2 ?zqk3 ?zqk4 ?zqk5 ?_ ?zqk7; (case zqk0 => with_reducible assumption); (case zqk1 => k_asm); (case zqk2 => walk_at "nz mem"); (case zqk3 => decide); (case zqk4 => decide); (case zqk5 => rfl); (case zqk7 => with_unfolding_all rfl); k_whole))))
  (k_with "nz:k_mem" => (((show (_ : Addr × Obj) ∈ (_ : List (Addr × Obj))); with_reducible assumption)))
  trivial
section
theorem _root_.Mine.hd.tw6818987989461384207 : True := trivial
theorem _root_.Mine.hd.tw6924109203229866365 : True := trivial
theorem _root_.Mine.hd.tw8587404781116728655 : True := trivial
theorem _root_.Mine.hd.tw7519716089354478335 : True := trivial
theorem _root_.Mine.hd.tw11034497122203965937 : True := trivial
theorem _root_.Mine.hd.tw4065347644161347641 : True := trivial
theorem _root_.Mine.hd.tw6293948785866598258 : True := trivial
theorem _root_.Mine.hd.tw5961118342813265553 : True := trivial
theorem _root_.Mine.hd.tw9641152695372364146 : True := trivial
theorem _root_.Mine.hd.tw17379287091283010612 : True := trivial
theorem _root_.Mine.hd.tw12591134339009171964 : True := trivial
theorem _root_.Mine.hd.tw4138081844389336918 : True := trivial
theorem _root_.Mine.hd.tw11624460397694020560 : True := trivial
theorem _root_.Mine.hd.tw4377701919642642989 : True := trivial
theorem _root_.Mine.hd.tw8068729725432388964 : True := trivial
theorem _root_.Mine.hd.tw13599475250904924777 : True := trivial
theorem _root_.Mine.hd.tw9577689765879766989 : True := trivial
theorem _root_.Mine.hd.tw5148922909946612681 : True := trivial
theorem _root_.Mine.hd.tw12414669353804360901 : True := trivial
theorem _root_.Mine.hd.tw5732804406350252772 : True := trivial
theorem _root_.Mine.hd.tw16302227732802510677 : True := trivial
theorem _root_.Mine.hd.tw12631932088317031055 : True := trivial
theorem _root_.Mine.hd.tw14176624398918483544 : True := trivial
theorem _root_.Mine.hd.tw15043168886218598503 : True := trivial
theorem _root_.Mine.hd.tw2448417245163862455 : True := trivial
theorem _root_.Mine.hd.tw6990203504111849199 : True := trivial
theorem _root_.Mine.hd.tw10752148897807903841 : True := trivial
theorem _root_.Mine.hd.tw2867327485932766208 : True := trivial
theorem _root_.Mine.hd.tw16649331688326792143 : True := trivial
theorem _root_.Mine.hd.tw15103106377680225435 : True := trivial
theorem _root_.Mine.hd.tw11652457597714270106 : True := trivial
theorem _root_.Mine.hd.tw6780663918824090400 : True := trivial
theorem _root_.Mine.hd.tw3259873300814134281 : True := trivial
theorem _root_.Mine.hd.tw7793673504863384051 : True := trivial
theorem _root_.Mine.hd.tw697623264460660564 : True := trivial
theorem _root_.Mine.hd.tw13372043803930879067 : True := trivial
theorem _root_.Mine.hd.tw4856431653887292112 : True := trivial
theorem _root_.Mine.hd.tw307737655149646647 : True := trivial
theorem _root_.Mine.hd.tw3953601041324332601 : True := trivial
theorem _root_.Mine.hd.tw11117797201346649052 : True := trivial
theorem _root_.Mine.hd.tw2216850387143573719 : True := trivial
theorem _root_.Mine.hd.tw8684328023851190084 : True := trivial
theorem _root_.Mine.hd.tw10543509907540572799 : True := trivial
theorem _root_.Mine.hd.tw15427206886491885616 : True := trivial
theorem _root_.Mine.hd.tw10507497572311344420 : True := trivial
theorem _root_.Mine.hd.tw18322514126500204803 : True := trivial
theorem _root_.Mine.hd.tw6838551448383532254 : True := trivial
theorem _root_.Mine.hd.tw461538923250603899 : True := trivial
theorem _root_.Mine.hd.tw18241275227582772068 : True := trivial
theorem _root_.Mine.hd.tw1847840615245081061 : True := trivial
theorem _root_.Mine.hd.tw8047900516022102942 : True := trivial
theorem _root_.Mine.hd.tw14896477498954680388 : True := trivial
theorem _root_.Mine.hd.tw14727110085682223627 : True := trivial
theorem _root_.Mine.hd.tw8343274005884668182 : True := trivial
theorem _root_.Mine.hd.tw8801323125487838256 : True := trivial
theorem _root_.Mine.hd.tw16772102934027710169 : True := trivial
theorem _root_.Mine.hd.tw12936449754285732098 : True := trivial
theorem _root_.Mine.hd.tw16332348944364537037 : True := trivial
theorem _root_.Mine.hd.tw13330244855972007585 : True := trivial
theorem _root_.Mine.hd.tw17599816209265215132 : True := trivial
theorem _root_.Mine.hd.tw2114630138375439770 : True := trivial
theorem _root_.Mine.hd.tw10012880186880212623 : True := trivial
theorem _root_.Mine.hd.tw7752767780024739350 : True := trivial
theorem _root_.Mine.hd.tw17650839729002327288 : True := trivial
theorem _root_.Mine.hd.tw7540741092611519060 : True := trivial
theorem _root_.Mine.hd.tw12092154237167983948 : True := trivial
theorem _root_.Mine.hd.tw732345407407602841 : True := trivial
theorem _root_.Mine.hd.tw14598272352848978880 : True := trivial
theorem _root_.Mine.hd.tw16357263729072622229 : True := trivial
theorem _root_.Mine.hd.tw17447410573909459338 : True := trivial
theorem _root_.Mine.hd.tw8770205317985620760 : True := trivial
theorem _root_.Mine.hd.tw7540655947842036084 : True := trivial
theorem _root_.Mine.hd.tw7854228177987924090 : True := trivial
theorem _root_.Mine.hd.tw4014540891139286612 : True := trivial
theorem _root_.Mine.hd.tw4990156530697904881 : True := trivial
theorem _root_.Mine.hd.tw5567388512258382067 : True := trivial
theorem _root_.Mine.hd.tw8015326511298524721 : True := trivial
theorem _root_.Mine.hd.tw7746578258024575070 : True := trivial
theorem _root_.Mine.hd.tw12588582704262371052 : True := trivial
theorem _root_.Mine.hd.tw11893437276241958245 : True := trivial
theorem _root_.Mine.hd.tw11953376511379268794 : True := trivial
theorem _root_.Mine.hd.tw1382963296337349011 : True := trivial
theorem _root_.Mine.hd.tw3182187488490625086 : True := trivial
theorem _root_.Mine.hd.tw18300207936620678264 : True := trivial
theorem _root_.Mine.hd.tw11249132867342737325 : True := trivial
theorem _root_.Mine.hd.tw3886742357958683815 : True := trivial
theorem _root_.Mine.hd.tw4570117599140701695 : True := trivial
theorem _root_.Mine.hd.tw5363564295841288755 : True := trivial
theorem _root_.Mine.hd.tw5562173858411828344 : True := trivial
theorem _root_.Mine.hd.tw13919464512627920130 : True := trivial
theorem _root_.Mine.hd.tw7891253978561527248 : True := trivial
theorem _root_.Mine.hd.tw2167537188350426706 : True := trivial
theorem _root_.Mine.hd.tw5278057926702712004 : True := trivial
theorem _root_.Mine.hd.tw13903934854276604550 : True := trivial
theorem _root_.Mine.hd.tw6423634429210846174 : True := trivial
theorem _root_.Mine.hd.tw12131494931117144662 : True := trivial
theorem _root_.Mine.hd.tw3915529967508079626 : True := trivial
theorem _root_.Mine.hd.tw6545403380812914513 : True := trivial
theorem _root_.Mine.hd.tw7698358502638924378 : True := trivial
theorem _root_.Mine.hd.tw6482722132109649516 : True := trivial
theorem _root_.Mine.hd.tw2295375209455683584 : True := trivial
theorem _root_.Mine.hd.tw3480954088277226078 : True := trivial
theorem _root_.Mine.hd.tw16502264421070913907 : True := trivial
theorem _root_.Mine.hd.tw11912922877643110818 : True := trivial
theorem _root_.Mine.hd.tw9271970288684553227 : True := trivial
theorem _root_.Mine.hd.tw13609717118414637909 : True := trivial
theorem _root_.Mine.hd.tw7082855905992002993 : True := trivial
theorem _root_.Mine.hd.tw11631869004601391166 : True := trivial
theorem _root_.Mine.hd.tw14400467628812073631 : True := trivial
theorem _root_.Mine.hd.tw4478964076566166474 : True := trivial
theorem _root_.Mine.hd.tw4115565904173853331 : True := trivial
theorem _root_.Mine.hd.tw13566260322249332789 : True := trivial
theorem _root_.Mine.hd.tw6982297934935202809 : True := trivial
theorem _root_.Mine.hd.tw17454471701868102899 : True := trivial
theorem _root_.Mine.hd.tw16456969618363192440 : True := trivial
theorem _root_.Mine.hd.tw7721951785955056133 : True := trivial
theorem _root_.Mine.hd.tw14294001040229213422 : True := trivial
theorem _root_.Mine.hd.tw10525666975642140466 : True := trivial
theorem _root_.Mine.hd.tw7510230149288206974 : True := trivial
theorem _root_.Mine.hd.tw8493152586797012548 : True := trivial
theorem _root_.Mine.hd.tw2502866573005156581 : True := trivial
theorem _root_.Mine.hd.tw12901994302517312135 : True := trivial
theorem _root_.Mine.hd.tw404451572033071931 : True := trivial
theorem _root_.Mine.hd.tw6819123309680001836 : True := trivial
theorem _root_.Mine.hd.tw302100336521851816 : True := trivial
theorem _root_.Mine.hd.tw1299046323782801668 : True := trivial
theorem _root_.Mine.hd.tw5987830557187376847 : True := trivial
theorem _root_.Mine.hd.tw17901334829092211166 : True := trivial
theorem _root_.Mine.hd.tw2195365466389143174 : True := trivial
theorem _root_.Mine.hd.tw15453881632637574043 : True := trivial
theorem _root_.Mine.hd.tw13225837485096350037 : True := trivial
theorem _root_.Mine.hd.tw7628703163842673926 : True := trivial
theorem _root_.Mine.hd.tw3759623122121258479 : True := trivial
theorem _root_.Mine.hd.tw1865391376527767206 : True := trivial
theorem _root_.Mine.hd.tw16155205043701107222 : True := trivial
theorem _root_.Mine.hd.tw8117029840178788049 : True := trivial
theorem _root_.Mine.hd.tw8545014587354053640 : True := trivial
theorem _root_.Mine.hd.tw9421340871869096474 : True := trivial
theorem _root_.Mine.hd.tw7610815399733428385 : True := trivial
theorem _root_.Mine.hd.tw11467801299996457980 : True := trivial
theorem _root_.Mine.hd.tw7292484366425897655 : True := trivial
theorem _root_.Mine.hd.tw4136554803537287180 : True := trivial
theorem _root_.Mine.hd.tw7914949630228597729 : True := trivial
theorem _root_.Mine.hd.tw12050417470231563642 : True := trivial
theorem _root_.Mine.hd.tw10844753989422098599 : True := trivial
theorem _root_.Mine.hd.tw190519026028168232 : True := trivial
theorem _root_.Mine.hd.tw920214292312260371 : True := trivial
theorem _root_.Mine.hd.tw9277588360372424766 : True := trivial
theorem _root_.Mine.hd.tw17047115858639842297 : True := trivial
theorem _root_.Mine.hd.tw17420951861521290806 : True := trivial
theorem _root_.Mine.hd.tw6060742912462422084 : True := trivial
theorem _root_.Mine.hd.tw2457190517430149469 : True := trivial
theorem _root_.Mine.hd.tw1118553966540926140 : True := trivial
theorem _root_.Mine.hd.tw9783614193127449063 : True := trivial
theorem _root_.Mine.hd.tw8965841893048198262 : True := trivial
theorem _root_.Mine.hd.tw5635641802508607975 : True := trivial
theorem _root_.Mine.hd.tw8977307856219701671 : True := trivial
theorem _root_.Mine.hd.tw4706079058837389440 : True := trivial
theorem _root_.Mine.hd.tw14060154772996877548 : True := trivial
theorem _root_.Mine.hd.tw8727321023445011275 : True := trivial
theorem _root_.Mine.hd.tw13064592750173068379 : True := trivial
theorem _root_.Mine.hd.tw7654286748164834634 : True := trivial
theorem _root_.Mine.hd.tw9244321171653502345 : True := trivial
theorem _root_.Mine.hd.tw2274498078352570744 : True := trivial
theorem _root_.Mine.hd.tw8538877666451538035 : True := trivial
theorem _root_.Mine.hd.tw4993660671451451078 : True := trivial
theorem _root_.Mine.hd.tw3673089383077640791 : True := trivial
theorem _root_.Mine.hd.tw2134215046882385847 : True := trivial
theorem _root_.Mine.hd.tw5318216170032084099 : True := trivial
theorem _root_.Mine.hd.tw5716766192118558609 : True := trivial
theorem _root_.Mine.hd.tw7085514621470718492 : True := trivial
theorem _root_.Mine.hd.tw16006246977917349235 : True := trivial
theorem _root_.Mine.hd.tw6830512106363814048 : True := trivial
theorem _root_.Mine.hd.tw5245234834050458271 : True := trivial
theorem _root_.Mine.hd.tw10258999931320997221 : True := trivial
theorem _root_.Mine.hd.tw10170382586518783626 : True := trivial
theorem _root_.Mine.hd.tw15166520500009309586 : True := trivial
theorem _root_.Mine.hd.tw8351282476255451920 : True := trivial
theorem _root_.Mine.hd.tw17574625026820762457 : True := trivial
theorem _root_.Mine.hd.tw16412773359747925120 : True := trivial
theorem _root_.Mine.hd.tw16794629799341752650 : True := trivial
theorem _root_.Mine.hd.tw11011131195910976488 : True := trivial
theorem _root_.Mine.hd.tw17673860158736603733 : True := trivial
theorem _root_.Mine.hd.tw3434918251397683217 : True := trivial
theorem _root_.Mine.hd.tw10403243965636340961 : True := trivial
theorem _root_.Mine.hd.tw4225703048834024713 : True := trivial
theorem _root_.Mine.hd.tw9557236495431379559 : True := trivial
theorem _root_.Mine.hd.tw4172343393113369950 : True := trivial
theorem _root_.Mine.hd.tw7366208706002141716 : True := trivial
theorem _root_.Mine.hd.tw4015398097383911347 : True := trivial
theorem _root_.Mine.hd.tw16945582573551092051 : True := trivial
theorem _root_.Mine.hd.tw1425423193147277237 : True := trivial
theorem _root_.Mine.hd.tw2497886572913372520 : True := trivial
theorem _root_.Mine.hd.tw3828038474966422129 : True := trivial
theorem _root_.Mine.hd.tw9430268157657104642 : True := trivial
theorem _root_.Mine.hd.tw361575752280415930 : True := trivial
theorem _root_.Mine.hd.tw15987713032478767096 : True := trivial
theorem _root_.Mine.hd.tw8004679753235328684 : True := trivial
theorem _root_.Mine.hd.tw881544763273948857 : True := trivial
theorem _root_.Mine.hd.tw12058812876911547015 : True := trivial
theorem _root_.Mine.hd.tw17130151131035750659 : True := trivial
theorem _root_.Mine.hd.tw16853341256802265648 : True := trivial
theorem _root_.Mine.hd.tw9386895884608548742 : True := trivial
theorem _root_.Mine.hd.tw11213053971927718326 : True := trivial
theorem _root_.Mine.hd.tw1588505670450824345 : True := trivial
theorem _root_.Mine.hd.tw15527848837575444561 : True := trivial
theorem _root_.Mine.hd.tw4523669819894539328 : True := trivial
theorem _root_.Mine.hd.tw13638418597567726942 : True := trivial
theorem _root_.Mine.hd.tw14772383043592177042 : True := trivial
theorem _root_.Mine.hd.tw9983995961361265002 : True := trivial
theorem _root_.Mine.hd.tw13828106393651249627 : True := trivial
theorem _root_.Mine.hd.tw6580291421010603419 : True := trivial
theorem _root_.Mine.hd.tw17588044629489971554 : True := trivial
theorem _root_.Mine.hd.tw6906073325868019850 : True := trivial
theorem _root_.Mine.hd.tw2000490053193787569 : True := trivial
theorem _root_.Mine.hd.tw4851647983119433812 : True := trivial
theorem _root_.Mine.hd.tw16473244170626142550 : True := trivial
theorem _root_.Mine.hd.tw226724450230711188 : True := trivial
theorem _root_.Mine.hd.tw11038495425325230296 : True := trivial
theorem _root_.Mine.hd.tw6186238094035137676 : True := trivial
theorem _root_.Mine.hd.tw14960593345356199642 : True := trivial
theorem _root_.Mine.hd.tw4182648748547736412 : True := trivial
theorem _root_.Mine.hd.tw10743916045514856203 : True := trivial
theorem _root_.Mine.hd.tw10784824025267889561 : True := trivial
theorem _root_.Mine.hd.tw14705683404202351889 : True := trivial
theorem _root_.Mine.hd.tw15508949281206285077 : True := trivial
theorem _root_.Mine.hd.tw3404104791013757517 : True := trivial
theorem _root_.Mine.hd.tw2304311442786299043 : True := trivial
theorem _root_.Mine.hd.tw4272726840584523970 : True := trivial
theorem _root_.Mine.hd.tw12487502673411948298 : True := trivial
theorem _root_.Mine.hd.tw3109861748172591687 : True := trivial
theorem _root_.Mine.hd.tw16257038226119295666 : True := trivial
theorem _root_.Mine.hd.tw8652628183442184457 : True := trivial
theorem _root_.Mine.hd.tw16828841361933241965 : True := trivial
theorem _root_.Mine.hd.tw15595854959937240912 : True := trivial
theorem _root_.Mine.hd.tw15083628210047938546 : True := trivial
theorem _root_.Mine.hd.tw6196171512934965099 : True := trivial
theorem _root_.Mine.hd.tw17950676927832955104 : True := trivial
theorem _root_.Mine.hd.tw13642289790063256904 : True := trivial
theorem _root_.Mine.hd.tw10458740792067480800 : True := trivial
theorem _root_.Mine.hd.tw128412058910260475 : True := trivial
theorem _root_.Mine.hd.tw1506431575118746342 : True := trivial
theorem _root_.Mine.hd.tw17183224562656869120 : True := trivial
theorem _root_.Mine.hd.tw13866372431405929976 : True := trivial
theorem _root_.Mine.hd.tw4449123307109862055 : True := trivial
theorem _root_.Mine.hd.tw15833661619300960221 : True := trivial
theorem _root_.Mine.hd.tw12112201142124510154 : True := trivial
theorem _root_.Mine.hd.tw11375277706881905925 : True := trivial
theorem _root_.Mine.hd.tw12394076208661396346 : True := trivial
theorem _root_.Mine.hd.tw13038990169509382042 : True := trivial
theorem _root_.Mine.hd.tw17213754286329925777 : True := trivial
theorem _root_.Mine.hd.tw16091413853298234908 : True := trivial
theorem _root_.Mine.hd.tw5238241317806426387 : True := trivial
theorem _root_.Mine.hd.tw13931416462566266981 : True := trivial
theorem _root_.Mine.hd.tw3530705653197291679 : True := trivial
theorem _root_.Mine.hd.tw16904818350239718627 : True := trivial
theorem _root_.Mine.hd.tw4282304852377368616 : True := trivial
theorem _root_.Mine.hd.tw9013056391748086436 : True := trivial
theorem _root_.Mine.hd.tw13322179722446271537 : True := trivial
theorem _root_.Mine.hd.tw11573735771062695058 : True := trivial
theorem _root_.Mine.hd.tw6820862383352777685 : True := trivial
theorem _root_.Mine.hd.tw402640490398009360 : True := trivial
theorem _root_.Mine.hd.tw2951005344575393816 : True := trivial
theorem _root_.Mine.hd.tw15837987909243819085 : True := trivial
theorem _root_.Mine.hd.tw8960069828448710407 : True := trivial
theorem _root_.Mine.hd.tw7120233287515763914 : True := trivial
theorem _root_.Mine.hd.tw7763873220885509757 : True := trivial
theorem _root_.Mine.hd.tw6882427118574961969 : True := trivial
theorem _root_.Mine.hd.tw15642763164714097627 : True := trivial
theorem _root_.Mine.hd.tw2845679848157327705 : True := trivial
theorem _root_.Mine.hd.tw6276725880618359904 : True := trivial
theorem _root_.Mine.hd.tw991583007596301734 : True := trivial
theorem _root_.Mine.hd.tw15279998641719260112 : True := trivial
theorem _root_.Mine.hd.tw5505005885091257285 : True := trivial
theorem _root_.Mine.hd.tw3789350110615891812 : True := trivial
theorem _root_.Mine.hd.tw18293851220164018083 : True := trivial
theorem _root_.Mine.hd.tw5688689073270430877 : True := trivial
theorem _root_.Mine.hd.tw13466754112058979494 : True := trivial
theorem _root_.Mine.hd.tw15048261121198461528 : True := trivial
theorem _root_.Mine.hd.tw15643275761693703936 : True := trivial
theorem _root_.Mine.hd.tw10781468475247234061 : True := trivial
theorem _root_.Mine.hd.tw5174551420813472067 : True := trivial
theorem _root_.Mine.hd.tw15675198926951892251 : True := trivial
theorem _root_.Mine.hd.tw1610171440888473627 : True := trivial
theorem _root_.Mine.hd.tw9170477692918782315 : True := trivial
theorem _root_.Mine.hd.tw4478177076189095293 : True := trivial
theorem _root_.Mine.hd.tw6136932545381038964 : True := trivial
theorem _root_.Mine.hd.tw15967140613478806237 : True := trivial
theorem _root_.Mine.hd.tw16194383521188589630 : True := trivial
theorem _root_.Mine.hd.tw1699103778626983548 : True := trivial
theorem _root_.Mine.hd.tw17387473266821786944 : True := trivial
theorem _root_.Mine.hd.tw7068711184596962023 : True := trivial
theorem _root_.Mine.hd.tw4367231431732253908 : True := trivial
theorem _root_.Mine.hd.tw13285133528070534704 : True := trivial
theorem _root_.Mine.hd.tw1413172679324656950 : True := trivial
theorem _root_.Mine.hd.tw663384727985864361 : True := trivial
theorem _root_.Mine.hd.tw9719896912496429819 : True := trivial
theorem _root_.Mine.hd.tw3039998526598829958 : True := trivial
theorem _root_.Mine.hd.tw5902613922787404954 : True := trivial
theorem _root_.Mine.hd.tw9908193460736022307 : True := trivial
theorem _root_.Mine.hd.tw442638132926106271 : True := trivial
theorem _root_.Mine.hd.tw11713075325732132258 : True := trivial
theorem _root_.Mine.hd.tw8428860471423672150 : True := trivial
theorem _root_.Mine.hd.tw9731375825926819010 : True := trivial
theorem _root_.Mine.hd.tw1580110805410547442 : True := trivial
theorem _root_.Mine.hd.tw10583446816852156582 : True := trivial
theorem _root_.Mine.hd.tw2295870552580634182 : True := trivial
theorem _root_.Mine.hd.tw12949589719889679912 : True := trivial
theorem _root_.Mine.hd.tw8879563391730754479 : True := trivial
theorem _root_.Mine.hd.tw8268277133935991078 : True := trivial
theorem _root_.Mine.hd.tw250903467453971090 : True := trivial
theorem _root_.Mine.hd.tw1033889070964956483 : True := trivial
theorem _root_.Mine.hd.tw10024716035694756283 : True := trivial
theorem _root_.Mine.hd.tw10404513684093684653 : True := trivial
theorem _root_.Mine.hd.tw10246146449241189800 : True := trivial
theorem _root_.Mine.hd.tw5130813555471234732 : True := trivial
theorem _root_.Mine.hd.tw5505332120971382143 : True := trivial
theorem _root_.Mine.hd.tw7512474625130614241 : True := trivial
theorem _root_.Mine.hd.tw16259696140248634718 : True := trivial
theorem _root_.Mine.hd.tw11917015161858427179 : True := trivial
theorem _root_.Mine.hd.tw7382370116671421104 : True := trivial
theorem _root_.Mine.hd.tw9748044761591592747 : True := trivial
theorem _root_.Mine.hd.tw10292235466723388172 : True := trivial
theorem _root_.Mine.hd.tw18166333605607142505 : True := trivial
theorem _root_.Mine.hd.tw17895171251205151618 : True := trivial
theorem _root_.Mine.hd.tw212345690472687942 : True := trivial
theorem _root_.Mine.hd.tw11513968764499736323 : True := trivial
theorem _root_.Mine.hd.tw16299908979028503884 : True := trivial
theorem _root_.Mine.hd.tw1359830224848277088 : True := trivial
theorem _root_.Mine.hd.tw876696051765687494 : True := trivial
theorem _root_.Mine.hd.tw11079593142295127227 : True := trivial
theorem _root_.Mine.hd.tw11631947586910100387 : True := trivial
theorem _root_.Mine.hd.tw2327210489368252092 : True := trivial
theorem _root_.Mine.hd.tw14560493823538711346 : True := trivial
theorem _root_.Mine.hd.tw2386827423013361158 : True := trivial
theorem _root_.Mine.hd.tw100483095206116625 : True := trivial
theorem _root_.Mine.hd.tw5480042469492414594 : True := trivial
theorem _root_.Mine.hd.tw6627881031435992008 : True := trivial
theorem _root_.Mine.hd.tw9398405308114057262 : True := trivial
theorem _root_.Mine.hd.tw7379015992945566340 : True := trivial
theorem _root_.Mine.hd.tw5388632664720090651 : True := trivial
theorem _root_.Mine.hd.tw5629675986466331604 : True := trivial
theorem _root_.Mine.hd.tw13790719812936386609 : True := trivial
theorem _root_.Mine.hd.tw6164396464334811476 : True := trivial
theorem _root_.Mine.hd.tw10919297434634762262 : True := trivial
theorem _root_.Mine.hd.tw17919194246423945575 : True := trivial
theorem _root_.Mine.hd.tw2315301623876862497 : True := trivial
theorem _root_.Mine.hd.tw2101469004524951375 : True := trivial
theorem _root_.Mine.hd.tw10847404155465417027 : True := trivial
theorem _root_.Mine.hd.tw9702936160620672325 : True := trivial
theorem _root_.Mine.hd.tw15615537253650120727 : True := trivial
theorem _root_.Mine.hd.tw7598622570094877466 : True := trivial
theorem _root_.Mine.hd.tw15207398651663016943 : True := trivial
theorem _root_.Mine.hd.tw8934143017859847078 : True := trivial
theorem _root_.Mine.hd.tw8025032847418708242 : True := trivial
theorem _root_.Mine.hd.tw12575139184659369484 : True := trivial
theorem _root_.Mine.hd.tw6184208073178115725 : True := trivial
theorem _root_.Mine.hd.tw15422856539912107476 : True := trivial
theorem _root_.Mine.hd.tw1836080755315867724 : True := trivial
theorem _root_.Mine.hd.tw1013155817946168525 : True := trivial
theorem _root_.Mine.hd.tw17330945745186091897 : True := trivial
theorem _root_.Mine.hd.tw1409312971732116557 : True := trivial
theorem _root_.Mine.hd.tw4870687313549177768 : True := trivial
theorem _root_.Mine.hd.tw1666387254794493845 : True := trivial
theorem _root_.Mine.hd.tw12350410155528471161 : True := trivial
theorem _root_.Mine.hd.tw13855881374063213867 : True := trivial
theorem _root_.Mine.hd.tw1011335219593555734 : True := trivial
theorem _root_.Mine.hd.tw5292301768408028288 : True := trivial
theorem _root_.Mine.hd.tw6683769817339685419 : True := trivial
theorem _root_.Mine.hd.tw162610821266807592 : True := trivial
theorem _root_.Mine.hd.tw6965799899956892507 : True := trivial
theorem _root_.Mine.hd.tw18093812233618175256 : True := trivial
theorem _root_.Mine.hd.tw12399718760709695909 : True := trivial
theorem _root_.Mine.hd.tw1222794163293265305 : True := trivial
theorem _root_.Mine.hd.tw5054737718236178183 : True := trivial
theorem _root_.Mine.hd.tw9763420282994701918 : True := trivial
theorem _root_.Mine.hd.tw17672654358674132775 : True := trivial
theorem _root_.Mine.hd.tw8735263284916673568 : True := trivial
theorem _root_.Mine.hd.tw17893044597097874663 : True := trivial
theorem _root_.Mine.hd.tw13267510147771200024 : True := trivial
theorem _root_.Mine.hd.tw14906377314874228009 : True := trivial
theorem _root_.Mine.hd.tw15042006015671813226 : True := trivial
theorem _root_.Mine.hd.tw6931407450589930559 : True := trivial
theorem _root_.Mine.hd.tw14471328449074432660 : True := trivial
theorem _root_.Mine.hd.tw8112040973832200146 : True := trivial
theorem _root_.Mine.hd.tw15910714762333108613 : True := trivial
theorem _root_.Mine.hd.tw257007361410690125 : True := trivial
theorem _root_.Mine.hd.tw16640546478005224243 : True := trivial
theorem _root_.Mine.hd.tw17491317419825422843 : True := trivial
theorem _root_.Mine.hd.tw18343703819029505601 : True := trivial
theorem _root_.Mine.hd.tw16694946328126371552 : True := trivial
theorem _root_.Mine.hd.tw17681399029576232318 : True := trivial
theorem _root_.Mine.hd.tw8959176491354863721 : True := trivial
theorem _root_.Mine.hd.tw9132557439983319658 : True := trivial
theorem _root_.Mine.hd.tw2930668341846507884 : True := trivial
theorem _root_.Mine.hd.tw13783031573616600631 : True := trivial
theorem _root_.Mine.hd.tw15220180469806662145 : True := trivial
theorem _root_.Mine.hd.tw280609765759037681 : True := trivial
theorem _root_.Mine.hd.tw7023726343779634624 : True := trivial
theorem _root_.Mine.hd.tw1331086792558400476 : True := trivial
theorem _root_.Mine.hd.tw16178712458983371728 : True := trivial
theorem _root_.Mine.hd.tw13315533130655954831 : True := trivial
theorem _root_.Mine.hd.tw7880807054014371918 : True := trivial
theorem _root_.Mine.hd.tw7270182246851987180 : True := trivial
theorem _root_.Mine.hd.tw3309697970292668127 : True := trivial
theorem _root_.Mine.hd.tw12614811148066621264 : True := trivial
theorem _root_.Mine.hd.tw13289513938125300765 : True := trivial
theorem _root_.Mine.hd.tw12127338746724423809 : True := trivial
theorem _root_.Mine.hd.tw6140570298594658328 : True := trivial
theorem _root_.Mine.hd.tw9741134391959003819 : True := trivial
theorem _root_.Mine.hd.tw9496365245306024149 : True := trivial
theorem _root_.Mine.hd.tw14553816603554493358 : True := trivial
theorem _root_.Mine.hd.tw15992342658441690333 : True := trivial
theorem _root_.Mine.hd.tw4383666589626881386 : True := trivial
theorem _root_.Mine.hd.tw17234923516513369237 : True := trivial
theorem _root_.Mine.hd.tw10949625832625181284 : True := trivial
theorem _root_.Mine.hd.tw17696971302532935780 : True := trivial
theorem _root_.Mine.hd.tw11709330566771433103 : True := trivial
theorem _root_.Mine.hd.tw15813434630575017362 : True := trivial
theorem _root_.Mine.hd.tw5976792059365374437 : True := trivial
theorem _root_.Mine.hd.tw16722109127936396110 : True := trivial
theorem _root_.Mine.hd.tw12070654863422294720 : True := trivial
theorem _root_.Mine.hd.tw5657824000916062451 : True := trivial
theorem _root_.Mine.hd.tw9406673726873002282 : True := trivial
theorem _root_.Mine.hd.tw11402939732021071671 : True := trivial
theorem _root_.Mine.hd.tw5608270528595127837 : True := trivial
theorem _root_.Mine.hd.tw16713699803418581334 : True := trivial
theorem _root_.Mine.hd.tw6555240042291301478 : True := trivial
theorem _root_.Mine.hd.tw6411954120941647267 : True := trivial
theorem _root_.Mine.hd.tw8516288146210602744 : True := trivial
theorem _root_.Mine.hd.tw922143313871775805 : True := trivial
theorem _root_.Mine.hd.tw9131607905817354932 : True := trivial
theorem _root_.Mine.hd.tw14168552714766633299 : True := trivial
theorem _root_.Mine.hd.tw10792051664901133789 : True := trivial
theorem _root_.Mine.hd.tw2391449824757734642 : True := trivial
theorem _root_.Mine.hd.tw17258206423299326598 : True := trivial
theorem _root_.Mine.hd.tw15416985209724490359 : True := trivial
theorem _root_.Mine.hd.tw7927469264209771579 : True := trivial
theorem _root_.Mine.hd.tw3442329435671937591 : True := trivial
theorem _root_.Mine.hd.tw16085158723969306702 : True := trivial
theorem _root_.Mine.hd.tw10117440562283002822 : True := trivial
theorem _root_.Mine.hd.tw9298403506768410418 : True := trivial
theorem _root_.Mine.hd.tw12070051907170230399 : True := trivial
theorem _root_.Mine.hd.tw11256106856564762260 : True := trivial
theorem _root_.Mine.hd.tw9499510787657705874 : True := trivial
theorem _root_.Mine.hd.tw11232374478483605306 : True := trivial
theorem _root_.Mine.hd.tw10860895700388868024 : True := trivial
theorem _root_.Mine.hd.tw7317836474542784337 : True := trivial
theorem _root_.Mine.hd.tw9345676750909349944 : True := trivial
theorem _root_.Mine.hd.tw11587034568685482758 : True := trivial
theorem _root_.Mine.hd.tw16211521421427940678 : True := trivial
theorem _root_.Mine.hd.tw2442259710966052079 : True := trivial
theorem _root_.Mine.hd.tw2603259988358896889 : True := trivial
theorem _root_.Mine.hd.tw2999033326186475339 : True := trivial
theorem _root_.Mine.hd.tw8664936974563722654 : True := trivial
theorem _root_.Mine.hd.tw7369741819223213686 : True := trivial
theorem _root_.Mine.hd.tw17843490464661113860 : True := trivial
theorem _root_.Mine.hd.tw17714235663813219645 : True := trivial
theorem _root_.Mine.hd.tw5366084841770067474 : True := trivial
theorem _root_.Mine.hd.tw8789358453043137523 : True := trivial
theorem _root_.Mine.hd.tw14745743045033390146 : True := trivial
theorem _root_.Mine.hd.tw4315991029959535628 : True := trivial
theorem _root_.Mine.hd.tw10614716105012338702 : True := trivial
theorem _root_.Mine.hd.tw6019021122589006684 : True := trivial
theorem _root_.Mine.hd.tw17262451260170068863 : True := trivial
theorem _root_.Mine.hd.tw4021928978595405253 : True := trivial
theorem _root_.Mine.hd.tw1800889605409440832 : True := trivial
theorem _root_.Mine.hd.tw9960721518486171458 : True := trivial
theorem _root_.Mine.hd.tw7153062008950511462 : True := trivial
theorem _root_.Mine.hd.tw5036846961687405229 : True := trivial
theorem _root_.Mine.hd.tw845060206244984605 : True := trivial
theorem _root_.Mine.hd.tw2855845756224970109 : True := trivial
theorem _root_.Mine.hd.tw17903497710992402801 : True := trivial
theorem _root_.Mine.hd.tw13929354066492186541 : True := trivial
theorem _root_.Mine.hd.tw3919010098100093602 : True := trivial
theorem _root_.Mine.hd.tw17948085552500728524 : True := trivial
theorem _root_.Mine.hd.tw5416991563250132298 : True := trivial
theorem _root_.Mine.hd.tw11389486352061984695 : True := trivial
theorem _root_.Mine.hd.tw1760603350576429475 : True := trivial
theorem _root_.Mine.hd.tw16920754564084929960 : True := trivial
theorem _root_.Mine.hd.tw519851828213033955 : True := trivial
theorem _root_.Mine.hd.tw9617658007855726926 : True := trivial
theorem _root_.Mine.hd.tw10491609206876299696 : True := trivial
theorem _root_.Mine.hd.tw17975533764899295144 : True := trivial
theorem _root_.Mine.hd.tw6804821044290156842 : True := trivial
theorem _root_.Mine.hd.tw16868993833207775613 : True := trivial
theorem _root_.Mine.hd.tw13321331477185743149 : True := trivial
theorem _root_.Mine.hd.tw13893168526513508166 : True := trivial
theorem _root_.Mine.hd.tw9184186324627900627 : True := trivial
theorem _root_.Mine.hd.tw13363553139645760527 : True := trivial
theorem _root_.Mine.hd.tw17336936450418997793 : True := trivial
theorem _root_.Mine.hd.tw1848646778235469078 : True := trivial
theorem _root_.Mine.hd.tw6759412095888398321 : True := trivial
theorem _root_.Mine.hd.tw4402725079659364252 : True := trivial
theorem _root_.Mine.hd.tw1600037746751723098 : True := trivial
theorem _root_.Mine.hd.tw8458067239894703972 : True := trivial
theorem _root_.Mine.hd.tw8226494294326810461 : True := trivial
theorem _root_.Mine.hd.tw11251137523995926341 : True := trivial
theorem _root_.Mine.hd.tw16858285156579221889 : True := trivial
theorem _root_.Mine.hd.tw13770079208771991547 : True := trivial
theorem _root_.Mine.hd.tw17739348878880393726 : True := trivial
theorem _root_.Mine.hd.tw15790720579355451973 : True := trivial
theorem _root_.Mine.hd.tw3452082135128663414 : True := trivial
theorem _root_.Mine.hd.tw12611767792052310623 : True := trivial
theorem _root_.Mine.hd.tw17606422857730326317 : True := trivial
theorem _root_.Mine.hd.tw9555612238305686254 : True := trivial
theorem _root_.Mine.hd.tw2051048951616859547 : True := trivial
theorem _root_.Mine.hd.tw11465210709893060100 : True := trivial
theorem _root_.Mine.hd.tw16029623286316568529 : True := trivial
theorem _root_.Mine.hd.tw3451239065008710300 : True := trivial
theorem _root_.Mine.hd.tw15344866539931968096 : True := trivial
theorem _root_.Mine.hd.tw18291419657060728153 : True := trivial
theorem _root_.Mine.hd.tw11319097763535126812 : True := trivial
theorem _root_.Mine.hd.tw10738003575532504788 : True := trivial
theorem _root_.Mine.hd.tw6407587892757256292 : True := trivial
theorem _root_.Mine.hd.tw12239354291974867115 : True := trivial
theorem _root_.Mine.hd.tw395138700845864316 : True := trivial
theorem _root_.Mine.hd.tw17429513623812275283 : True := trivial
theorem _root_.Mine.hd.tw7494724483528729301 : True := trivial
theorem _root_.Mine.hd.tw13132618709999183898 : True := trivial
theorem _root_.Mine.hd.tw9228397985900620932 : True := trivial
theorem _root_.Mine.hd.tw4159134105002834734 : True := trivial
theorem _root_.Mine.hd.tw9673543361469618366 : True := trivial
theorem _root_.Mine.hd.tw8457440626546761165 : True := trivial
theorem _root_.Mine.hd.tw6082411064634330575 : True := trivial
theorem _root_.Mine.hd.tw2799067240506288376 : True := trivial
theorem _root_.Mine.hd.tw15529170255622000948 : True := trivial
theorem _root_.Mine.hd.tw4642405928176397000 : True := trivial
theorem _root_.Mine.hd.tw15946388913382835224 : True := trivial
theorem _root_.Mine.hd.tw16345102440705955213 : True := trivial
theorem _root_.Mine.hd.tw12647368939536790636 : True := trivial
theorem _root_.Mine.hd.tw7754304195085646258 : True := trivial
theorem _root_.Mine.hd.tw1197925565968671727 : True := trivial
theorem _root_.Mine.hd.tw11968265576560266318 : True := trivial
theorem _root_.Mine.hd.tw17925215291927510665 : True := trivial
theorem _root_.Mine.hd.tw11754176132448286083 : True := trivial
theorem _root_.Mine.hd.tw8273930003744585626 : True := trivial
theorem _root_.Mine.hd.tw3493717111155160527 : True := trivial
theorem _root_.Mine.hd.tw18103420901670897651 : True := trivial
theorem _root_.Mine.hd.tw12994019391074448376 : True := trivial
theorem _root_.Mine.hd.tw2783992281797965187 : True := trivial
theorem _root_.Mine.hd.tw7854111351294004744 : True := trivial
theorem _root_.Mine.hd.tw22551697357593593 : True := trivial
theorem _root_.Mine.hd.tw15578025631644234493 : True := trivial
theorem _root_.Mine.hd.tw3795277891434052102 : True := trivial
theorem _root_.Mine.hd.tw6291416237084387574 : True := trivial
theorem _root_.Mine.hd.tw18268791191939849864 : True := trivial
theorem _root_.Mine.hd.tw11801993109049149486 : True := trivial
theorem _root_.Mine.hd.tw7534799579077118603 : True := trivial
theorem _root_.Mine.hd.tw6547078798241139092 : True := trivial
theorem _root_.Mine.hd.tw9533747618267967006 : True := trivial
theorem _root_.Mine.hd.tw3814350955762905654 : True := trivial
theorem _root_.Mine.hd.tw7355570028127101125 : True := trivial
theorem _root_.Mine.hd.tw3694398316872202419 : True := trivial
theorem _root_.Mine.hd.tw6767318904944593275 : True := trivial
theorem _root_.Mine.hd.tw10601615944963115059 : True := trivial
theorem _root_.Mine.hd.tw7296583596125217682 : True := trivial
theorem _root_.Mine.hd.tw10678649693572172417 : True := trivial
theorem _root_.Mine.hd.tw12268275109542032366 : True := trivial
theorem _root_.Mine.hd.tw11778180911958503814 : True := trivial
theorem _root_.Mine.hd.tw14478148883734587675 : True := trivial
theorem _root_.Mine.hd.tw12271959270614036898 : True := trivial
theorem _root_.Mine.hd.tw2608437505485318709 : True := trivial
theorem _root_.Mine.hd.tw541196102884509978 : True := trivial
theorem _root_.Mine.hd.tw8381844023166312768 : True := trivial
theorem _root_.Mine.hd.tw15852365999677673905 : True := trivial
theorem _root_.Mine.hd.tw3646829019195819677 : True := trivial
theorem _root_.Mine.hd.tw18264374347568628810 : True := trivial
theorem _root_.Mine.hd.tw4971549296188076032 : True := trivial
theorem _root_.Mine.hd.tw17177331786930743035 : True := trivial
theorem _root_.Mine.hd.tw758273949599710562 : True := trivial
theorem _root_.Mine.hd.tw7289634563603522867 : True := trivial
theorem _root_.Mine.hd.tw17542962492245011380 : True := trivial
theorem _root_.Mine.hd.tw17252143746492648416 : True := trivial
theorem _root_.Mine.hd.tw12459740579856956213 : True := trivial
theorem _root_.Mine.hd.tw6184460063843016694 : True := trivial
theorem _root_.Mine.hd.tw14457593812595234344 : True := trivial
theorem _root_.Mine.hd.tw5343241284826551009 : True := trivial
theorem _root_.Mine.hd.tw15610959940260225430 : True := trivial
theorem _root_.Mine.hd.tw2323474266016966308 : True := trivial
theorem _root_.Mine.hd.tw11162318198679636149 : True := trivial
theorem _root_.Mine.hd.tw1147470481896660410 : True := trivial
theorem _root_.Mine.hd.tw3673020696563887462 : True := trivial
theorem _root_.Mine.hd.tw7578210074245671484 : True := trivial
theorem _root_.Mine.hd.tw6264232113106981867 : True := trivial
theorem _root_.Mine.hd.tw15367242080415987702 : True := trivial
theorem _root_.Mine.hd.tw11136197038861592535 : True := trivial
theorem _root_.Mine.hd.tw18293732401869909652 : True := trivial
theorem _root_.Mine.hd.tw13619402905963910902 : True := trivial
theorem _root_.Mine.hd.tw11660266114150955751 : True := trivial
theorem _root_.Mine.hd.tw3704167492566942397 : True := trivial
theorem _root_.Mine.hd.tw5247051413645994129 : True := trivial
theorem _root_.Mine.hd.tw6442067068224118133 : True := trivial
theorem _root_.Mine.hd.tw16477043939570097188 : True := trivial
theorem _root_.Mine.hd.tw16171809288044610508 : True := trivial
theorem _root_.Mine.hd.tw10603584201595350602 : True := trivial
theorem _root_.Mine.hd.tw14980023328507725902 : True := trivial
theorem _root_.Mine.hd.tw12602439190401603521 : True := trivial
theorem _root_.Mine.hd.tw11151547217846952531 : True := trivial
theorem _root_.Mine.hd.tw2887051446865420828 : True := trivial
theorem _root_.Mine.hd.tw10806950440038215891 : True := trivial
theorem _root_.Mine.hd.tw9657781627882305391 : True := trivial
theorem _root_.Mine.hd.tw2068664650715991707 : True := trivial
theorem _root_.Mine.hd.tw1241404454085649124 : True := trivial
theorem _root_.Mine.hd.tw4788038989552484473 : True := trivial
theorem _root_.Mine.hd.tw2329189449893159454 : True := trivial
theorem _root_.Mine.hd.tw2788664435532181463 : True := trivial
theorem _root_.Mine.hd.tw13532847315355080253 : True := trivial
theorem _root_.Mine.hd.tw5190246844813560578 : True := trivial
theorem _root_.Mine.hd.tw14492701947808656938 : True := trivial
theorem _root_.Mine.hd.tw14852329139284432860 : True := trivial
theorem _root_.Mine.hd.tw14103535550066685397 : True := trivial
theorem _root_.Mine.hd.tw8356816923877370021 : True := trivial
theorem _root_.Mine.hd.tw16124447700955497774 : True := trivial
theorem _root_.Mine.hd.tw15683763237869141255 : True := trivial
theorem _root_.Mine.hd.tw16432713993328977331 : True := trivial
theorem _root_.Mine.hd.tw12629568148972539762 : True := trivial
theorem _root_.Mine.hd.tw5283464899586487735 : True := trivial
theorem _root_.Mine.hd.tw7028611270464810887 : True := trivial
theorem _root_.Mine.hd.tw14246236162039180721 : True := trivial
theorem _root_.Mine.hd.tw1194904439430580092 : True := trivial
theorem _root_.Mine.hd.tw4654797750381630734 : True := trivial
theorem _root_.Mine.hd.tw10264135568141901301 : True := trivial
theorem _root_.Mine.hd.tw17070941380808615275 : True := trivial
theorem _root_.Mine.hd.tw12113243949977362033 : True := trivial
theorem _root_.Mine.hd.tw9153386212771759811 : True := trivial
theorem _root_.Mine.hd.tw12832683148521936107 : True := trivial
theorem _root_.Mine.hd.tw1043307727769730188 : True := trivial
theorem _root_.Mine.hd.tw10879034167726328663 : True := trivial
theorem _root_.Mine.hd.tw6578402527460240241 : True := trivial
theorem _root_.Mine.hd.tw16064382804478563927 : True := trivial
theorem _root_.Mine.hd.tw4068527845204499245 : True := trivial
theorem _root_.Mine.hd.tw17062030032774818151 : True := trivial
theorem _root_.Mine.hd.tw6305734824756694309 : True := trivial
theorem _root_.Mine.hd.tw2252305205657439004 : True := trivial
theorem _root_.Mine.hd.tw2708950531961675432 : True := trivial
theorem _root_.Mine.hd.tw4494801613693538912 : True := trivial
theorem _root_.Mine.hd.tw7526368328331116154 : True := trivial
theorem _root_.Mine.hd.tw10424393626065333798 : True := trivial
theorem _root_.Mine.hd.tw11551083187376567056 : True := trivial
theorem _root_.Mine.hd.tw1439246655266547700 : True := trivial
theorem _root_.Mine.hd.tw6438293893037913957 : True := trivial
theorem _root_.Mine.hd.tw14685462170515437407 : True := trivial
theorem _root_.Mine.hd.tw3429492842335990350 : True := trivial
theorem _root_.Mine.hd.tw16794247820008079007 : True := trivial
set_option Elab.async true in
theorem _root_.Mine.hd : PySem.Challenge.rw_nz0095_01.Holds := by
  w_on
  o_law
  o_head (kHook Mine.H.heap_1 [2, 3, 15, 17, 18, 20, 21, 22, 24, 25, 27, 28, 29, 31, 32, 34, 35, 36, 37, 39, 40, 42, 43, 44, 45, 47, 48, 50, 51, 52, 53, 54, 56, 57, 59, 60, 61, 63, 64, 66, 67, 68, 75, 77, 78, 80, 81, 82, 83, 84, 85, 88, 95, 96, 97, 107, 109, 110, 112, 113, 114, 116, 117, 119, 120, 121, 123, 124, 126, 127, 128, 130, 131, 133, 134, 135, 137, 138, 140, 141, 142, 144, 145, 147, 148, 149, 151, 152, 154, 155, 156, 158, 159, 161, 162, 163, 165, 166, 168, 169, 170, 172, 173, 175, 176, 177, 178, 179, 180, 181, 184, 186, 187, 189, 190, 198, 200, 201, 203, 204, 205, 207, 208, 210, 211, 212, 214, 215, 217, 218, 219, 221, 222, 224, 225, 226, 228, 229, 231, 232, 233, 235, 236, 238, 239, 240, 242, 243, 245, 246, 247, 249, 250, 252, 253, 254, 256, 257, 259, 260, 261, 263, 264, 266, 267, 268, 270, 271, 273, 274, 275, 277, 278, 280, 281, 282, 284, 285, 287, 288, 289, 290, 291, 292, 293, 303, 305, 306, 308, 309, 310, 311, 312, 314, 315, 317, 318, 319, 320, 321, 323, 324, 326, 327, 328, 330, 331, 333, 334, 335, 337, 338, 340, 341, 342, 344, 345, 347, 348, 349, 350, 352, 353, 355, 356, 357, 359, 360, 362, 363, 364, 366, 367, 369, 370, 371, 373, 374, 376, 377, 378, 380, 381, 383, 384, 385, 387, 388, 390, 391, 392, 394, 395, 397, 398, 399, 401, 402, 404, 405, 406, 407, 408, 409, 410, 413, 415, 416, 418, 419, 427, 428, 430, 431, 433, 434, 435, 437, 438, 440, 441, 442, 444, 445, 447, 448, 449, 451, 452, 454, 455, 456, 458, 459, 461, 462, 463, 465, 466, 468, 469, 470, 472, 473, 475, 476, 477, 479, 480, 482, 483, 484, 485, 486, 487, 488, 491, 492, 494, 495, 497, 498, 499, 501, 502, 504, 505, 506, 508, 509, 511, 512, 513, 515, 516, 518, 519, 520, 522, 523, 525, 526, 527, 530, 531, 532, 535, 536] (fun _ => by kernel_rfl))
  case hw => w_witness2
  k_go0
  rename_i hcd ns hs hlay0 hLa hr1 hl2 w4 w3 sc vs w0 hL ra w1 r0 hI hr hc1 hc2 K0 hD h1 F0 N0
  rename World => ww
  have hvl := hI.length
  k_steps
  refine Hold.out (Tells.use (bases_ (r := [])) (by first | k_asm | exact rfl) (by first | exact rfl | assumption) (by first | exact rfl | assumption) (by k_asm) (by k_asm) (by k_asm) (by k_asm) (by k_asm) (by walk_at "nz room") ?_)
  (refine' retA2 ?_; intro B nwB hp99 h' tk' F1 N1; have hp98 := hp99; have UB := hp98.1; have hB := hp98.2; clear hp98; clear hp99)
  rw [List.append_nil] at N1
  clear UB
  (refine' ex1 hB ?_; intro bs hb9)
  (have hp98 := hb9; have hb1 := hp98.1; have hb2 := hp98.2; clear hp98)
  k_steps
  refine Hold.out ?_
  rename IsRange _ _ _ _ _ _ _ _ => hr2
  rename Fr _ _ _ _ => F2
  rename News _ _ _ _ => N2
  refine' rng_to2 (n := 4) (fun I _ m l => m (Str.ofString "script") = some (.ref sc) ∧ m (Str.ofString "bases") = some (.ref B) ∧ l = nwB ∧ ∀ p ∈ nwB, p.1 ≠ I) ?hh hr2 ?hs ?hn F2 N2 ?h0 ?step ?done
  case hh => first | exact rfl | exact Room.han (by assumption)
  case hs => exact small_one (by decide) (by decide) (by decide) (by decide)
  case hn =>
    rw [rangeSize_nat]
    rfl
  case h0 => exact fun I hI => ⟨rfl, rfl, rfl, fun p hp => Nat.ne_of_lt (hI p hp)⟩
  case done =>
    intro I m l h tk hp9
    (refine' and4 hp9 ?_; intro m1 m2 e9 u9)
    clear hp9 u9
    subst e9
    intro F3 N3
    ((try clear F2); (try clear N2); (try clear hr2); (try clear F1); (try clear N1); (try clear F0); (try clear N0))
    k_steps
  case step =>
    intro I i m nl hi hp9 t it h tk hit
    (refine' and4 hp9 ?_; intro m1 m2 e9 off)
    clear hp9
    subst e9
    intro F3 N3
    ((try clear F2); (try clear N2); (try clear hr2); (try clear F1); (try clear N1); (try clear F0); (try clear N0))
    (refine' ex3 (hb2 i hi) ?_; intro ba bvs bns hb9)
    (refine' and4 hb9 ?_; intro e1 e2 e3 e4)
    clear hb9
    replace e1 : bs[((0 : Int) + (i : Int) * 1).toNat]? = some (.ref ba) := by
      rw [show ((0 : Int) + (i : Int) * 1).toNat = i by omega]
      exact e1
    k_steps
    refine Hold.out ?_
    refine newList_K (by k_asm) (by k_asm) (fun D h4 F4 N4 l4 => ?_) (Nat.le_of_ble_eq_true rfl)
    have l4n : ∀ q ∈ (I, it) :: nl, D ≠ q.1 := fun q hq => Ne.symm (Nat.ne_of_lt (l4 q hq))
    clear l4
    k_steps
    refine Hold.out ?_
    rename IsRange _ _ _ _ _ _ _ _ => hr5
    rename Fr _ _ _ _ => F5
    rename News _ _ _ _ => N5
    refine' rng_to2 (n := 8) (fun J j m' l' => m' (Str.ofString "script") = some (.ref sc) ∧ m' (Str.ofString "bases") = some (.ref B) ∧ m' (Str.ofString "base") = some (.ref ba) ∧ m' (Str.ofString "digits") = some (.ref D) ∧ m' (Str.ofString "scene") = some (.int ((0 : Int) + (i : Int) * 1) t) ∧
      ∃ ds c dg, l' = [(D, lsOf ds c)] ++ (I, it) :: nl ∧ IntsAre ds dg ∧ dg.length = j ∧ D ≠ J ∧ ∀ p ∈ (I, it) :: nl, p.1 ≠ J) ?hh8 hr5 ?hs8 ?hn8 F5 N5 ?h08 ?step8 ?done8
    case hh8 => exact rfl
    case hs8 => exact small_one (by decide) (by decide) (by decide) (by decide)
    case hn8 =>
      rw [rangeSize_nat]
      rfl
    case h08 => exact fun J hJ => ⟨by walk_at "nz look", by walk_at "nz look", by walk_at "nz look", by walk_at "nz look", by walk_at "nz look", [], 0, [], rfl, .nil, rfl, Nat.ne_of_lt (hJ _ (.head _)), fun p hp => Nat.ne_of_lt (hJ p (.tail _ hp))⟩
    case step8 =>
      intro J j m' l' hj hp9 t2 jt h6 tk6 hjt
      (refine' and6 hp9 ?_; intro q1 q2 q3 q4 q5 hp8)
      (refine' ex3 hp8 ?_; intro ds c dg hp7)
      (refine' and5 hp7 ?_; intro e9 hds hdl offD offJ)
      clear hp9 hp8 hp7
      subst e9
      intro F6 N6
      ((try clear F5); (try clear N5); (try clear hr5); (try clear F4); (try clear N4); (try clear F3); (try clear N3))
      obtain ⟨tb, hx8⟩ := ints_at e3 (k := j) (by omega)
      replace hx8 : bvs[((0 : Int) + (j : Int) * 1).toNat]? = some (.int (bns.getD j 0) tb) := by
        rw [show ((0 : Int) + (j : Int) * 1).toNat = j by omega]
        exact hx8
      have hdl' := hds.length
      have SD : Sep [(D, lsOf ds c)] ((J, jt) :: (I, it) :: nl) := ⟨by simp [keys], fun p hp q hq => by
        rw [List.mem_singleton.mp hp]
        rcases List.mem_cons.mp hq with rfl | hq
        · exact offD
        · exact l4n q hq⟩
      replace N6 := News.sub (l' := [(D, lsOf ds c)] ++ (J, jt) :: (I, it) :: nl) N6 (fun q hq => by
        simp only [List.mem_append, List.mem_cons, List.not_mem_nil, or_false] at hq ⊢
        rcases hq with hq | hq | hq | hq <;> simp [hq])
      k_steps
      all_goals (refine Hold.out ?_)
      all_goals (rename Fr _ _ _ _ => F7; rename News _ _ _ _ => N7)
      all_goals (refine led_append 0 F7 N7 SD rfl rfl (by omega) fun h7 F8 N8 S8 => ?_; ((try clear F7); (try clear N7); (try clear F6); (try clear N6)); k_steps; refine Hold.out ?_; rename Fr _ _ _ _ => F9; rename News _ _ _ _ => N9)
      all_goals exact dig_end F9 N9 (fun p hp => (List.mem_cons.mp hp).elim (fun e => e ▸ offD) fun hp => offJ _ hp) ⟨by walk_at "nz look", by walk_at "nz look", by walk_at "nz look", by walk_at "nz look", by walk_at "nz look", _, _, _, rfl, ints_snoc hds, by rw [List.length_append, hdl]; rfl, offD, offJ⟩
    case done8 =>
      intro J m' l' h6 tk6 hp9
      (refine' and6 hp9 ?_; intro q1 q2 q3 q4 q5 hp8)
      (refine' ex3 hp8 ?_; intro ds c dg hp7)
      (refine' and5 hp7 ?_; intro e9 hds hdl offD offJ)
      clear hp9 hp8 hp7
      subst e9
      intro F6 N6
      ((try clear F5); (try clear N5); (try clear hr5); (try clear F4); (try clear N4); (try clear F3); (try clear N3); (try clear q3); (try clear q5); (try clear offJ); (try clear hx8); (try clear e1); (try clear e2); (try clear e3); (try clear e4))
      k_steps
      refine Hold.out (Tells.use (builder_ []) (by first | k_asm | exact rfl) (by first | exact rfl | assumption) (by first | exact rfl | assumption) (by k_asm) (by k_asm) (by k_asm) (by k_asm) (by k_asm) (by walk_at "nz room") ?_)
      (refine' retA4 ?_; intro ad bd u v hp99 h' tk' F7 N7; refine' and4 hp99 ?_; intro S7 H7 f7 m7; clear hp99)
      k_steps
      refine Hold.out (Tells.use (ready_ S7 H7 f7) (by first | k_asm | exact rfl) (by first | exact rfl | assumption) (by first | exact rfl | assumption) (by k_asm) (by k_asm) (by k_asm) (by k_asm) (by k_asm) (by walk_at "nz room") ?_)
      (refine' retA5 ?_; intro D8 t8a t8b u8 v8 hp99 h' tk' F8 N8; refine' and4 hp99 ?_; intro S8 H8 f8 m8; clear hp99)
      k_steps
      refine Hold.out ?_
      refine list_tup3 (by k_asm) (by k_asm) S8 (.head _) (Nat.le_of_ble_eq_true rfl) fun oI c9 h9 F9 N9 S9 r9 => ?_
      ((try clear F7); (try clear N7); (try clear F8); (try clear N8); (try clear F6); (try clear N6))
      k_steps
      refine Hold.out ?_
      refine new_list3 (by k_asm) (by k_asm) S9 (by decide) fun lI h10 F10 N10 S10 r10 => ?_
      ((try clear F9); (try clear N9))
      k_steps
      refine Hold.out ?_
      refine new_list3 (by k_asm) (by k_asm) S10 (by decide) fun rI h11 F11 N11 S11 r11 => ?_
      ((try clear F10); (try clear N10))
      (refine' ex2 (law_start N11 S11 r9 r10 r11) ?_; intro R2 x hp9)
      (refine' and7 hp9 ?_; intro hR2 N12 S12 T12 ox lx rx)
      clear hp9
      clear N11 S11 r9 r10 r11 S10 S9 S8 S7
      have mD : (D, lsOf ds c) ∈ R2 := by rw [hR2]; exact .tail _ (.tail _ (.head _))
      have mI : (I, it) ∈ R2 := by rw [hR2]; exact .tail _ (.tail _ (.tail _ (.head _)))
      have mn : ∀ q ∈ nl, q ∈ R2 := fun q hq => by rw [hR2]; exact .tail _ (.tail _ (.tail _ (.tail _ hq)))
      clear hR2
      have hC0 : Sc PySem.Challenge.rw_nz0095_01.row.prog ww ad bd ⟨oI, lI, rI⟩ [] R2 u8 v8 x T3 [1, 3] [] [] [] 4 := ⟨S12, T12, H8, ox, lx, by rw [rx]; exact .nil, fun _ h => (nomatch h), f8, m8⟩
      have hI0 : Inv T3 4 [1, 3] [] [] [] 0 := ⟨rfl, by decide, by decide, .head _, List.nodup_nil, fun _ h => (nomatch h), rfl, by decide, by decide, by decide, fun _ h => (nomatch h)⟩
      k_steps
      refine Hold.out ?_
      rename IsRange _ _ _ _ _ _ _ _ => hr13
      rename Fr _ _ _ _ => F13
      rename News _ _ _ _ => N13
      refine' rng_to2 (n := 7) (fun J j m' l' => m' (Str.ofString "script") = some (.ref sc) ∧ m' (Str.ofString "bases") = some (.ref B) ∧ m' (Str.ofString "builder") = some (.ref bd.b) ∧ m' (Str.ofString "digits") = some (.ref D) ∧ m' (Str.ofString "opened") = some (.ref oI) ∧ m' (Str.ofString "late") = some (.ref lI) ∧ m' (Str.ofString "row") = some (.ref rI) ∧
        (∀ p ∈ l', p.1 ≠ J) ∧ (∀ p ∈ R2, p.1 ≠ J) ∧ ScP PySem.Challenge.rw_nz0095_01.row.prog ww ad bd ⟨oI, lI, rI⟩ R2 j l') ?hh7 hr13 ?hs7 ?hn7 F13 N13 ?h07 ?step7 ?done7
      case hh7 => exact rfl
      case hs7 => exact small_one (by decide) (by decide) (by decide) (by decide)
      case hn7 =>
        rw [rangeSize_nat]
        rfl
      case h07 => exact fun J hJ => ⟨by walk_at "nz look", by walk_at "nz look", by walk_at "nz look", by walk_at "nz look", by walk_at "nz look", by walk_at "nz look", by walk_at "nz look", fun p hp => Nat.ne_of_lt (hJ p hp), fun p hp => Nat.ne_of_lt (hJ p (by simp [hp])), [], u8, v8, x, T3, [1, 3], [], [], [], 4, rfl, hC0, hI0, fun _ h => (nomatch h)⟩
      case step7 =>
        intro J j m7 l7 hj hp9 t2 jt h14 tk14 hjt F14 N14
        (refine' and10 hp9 ?_; intro q1 q2 q3 q4 q5 q6 q7 off7 offR hP)
        clear hp9
        ((try clear F13); (try clear N13); (try clear hr13); (try clear S12); (try clear T12); (try clear hC0); (try clear hI0); (try clear H8); (try clear ox); (try clear lx); (try clear rx); (try clear f8); (try clear m8); (try clear H7); (try clear f7))
        refine scp_in hP N14 (by rw [hjt]; decide) offR off7 fun z u v x T stack fmt late row n hC hI9 hz N15 => ?_
        clear N14 hP
        have CS := hC.S2
        have CT := hC.S3
        rw [show (0 : Int) + (j : Int) * 1 = (j : Int) by omega] at F14
        obtain ⟨td, hdx⟩ := ints_at hds (k := j) (by omega)
        replace hdx : ds[((j : Nat) : Int).toNat]? = some (.int (dg.getD j 0) td) := hdx
        k_steps
        rename Sep2 _ _ _ => S16
        rename Sep _ _ => T16
        refine Hold.out (Tells.use (step_ (hC.re S16 T16 (fun q hq => .tail _ hq)) hI9 hj (.head _)) (by first | k_asm | exact rfl) (by first | exact rfl | assumption) (by first | exact rfl | assumption) (by k_asm) (by k_asm) (by k_asm) (by k_asm) (by k_asm) (by walk_at "nz room") ?_)
        intro y l' h' tk' hp9
        (have hp98 := hp9; have e9 := hp98.1; have hp8 := hp98.2; clear hp98)
        (refine' ex5 hp8 ?_; intro u' v' x' z' T' hp7)
        (refine' ex5 hp7 ?_; intro stack' fmt' late' row' n' hp6)
        (refine' and4 hp6 ?_; intro e8 hC' hI' hz')
        clear hp9 hp8 hp7 hp6
        subst e9
        subst e8
        intro F17 N17
        ((try clear F14); (try clear N15); (try clear CS); (try clear CT); (try clear S16); (try clear T16))
        k_steps
        refine Hold.out ?_
        rename Fr _ _ _ _ => F18
        rename News _ _ _ _ => N18
        exact scp_end F18 N18 hC' hI' hz' hz hjt offR fun l o h => ⟨by walk_at "nz look", by walk_at "nz look", by walk_at "nz look", by walk_at "nz look", by walk_at "nz look", by walk_at "nz look", by walk_at "nz look", o, offR, h⟩
      case done7 =>
        intro J m7 l7 h14 tk14 hp9
        (refine' and10 hp9 ?_; intro q1 q2 q3 q4 q5 q6 q7 v9 v8 hp8)
        (refine' ex5 hp8 ?_; intro z u v x T hp7)
        (refine' ex5 hp7 ?_; intro stack fmt late row n hp6)
        (refine' and4 hp6 ?_; intro e8 hC hI9 hz)
        clear hp9 hp8 hp7 hp6 v9 v8
        subst e8
        intro F14 N14
        ((try clear F13); (try clear N13); (try clear hr13); (try clear S12); (try clear T12); (try clear hC0); (try clear hI0); (try clear H8); (try clear ox); (try clear lx); (try clear rx); (try clear f8); (try clear m8); (try clear H7); (try clear f7); (try clear m7))
        have CS := hC.S2
        have CT := hC.S3
        k_steps
        refine Hold.out ?_
        rename Fr _ _ _ _ => F15
        rename News _ _ _ _ => N15
        refine' lst_to2 (lo := lsOf x.lV x.lN) (vs := x.lV) (n := x.lN) (fun J i m' l' => m' (Str.ofString "script") = some (.ref sc) ∧ m' (Str.ofString "bases") = some (.ref B) ∧ m' (Str.ofString "builder") = some (.ref bd.b) ∧ m' (Str.ofString "digits") = some (.ref D) ∧ m' (Str.ofString "opened") = some (.ref oI) ∧ m' (Str.ofString "row") = some (.ref rI) ∧
          (∀ p ∈ l', p.1 ≠ J) ∧ (∀ p ∈ z ++ R2, p.1 ≠ J) ∧ LaP ww ad bd ⟨oI, lI, rI⟩ (z ++ R2) u fmt late stack x i l') ?hh9 F15 N15 ?hm9 rfl rfl ?h09 ?step9 ?done9
        case hh9 => exact rfl
        case hm9 => exact List.mem_append_right _ (List.mem_append_right _ (List.mem_append_left _ (.tail _ (.head _))))
        case h09 => exact fun J hJ => ⟨by walk_at "nz look", by walk_at "nz look", by walk_at "nz look", by walk_at "nz look", by walk_at "nz look", by walk_at "nz look", fun p hp => Nat.ne_of_lt (hJ p hp), fun p hp => Nat.ne_of_lt (hJ p (List.mem_append_right _ (List.mem_append_right _ (List.mem_append_right _ hp)))), v, x, stack, rfl, CS, CT, hC.H.B, hC.o, rfl, rfl, rfl, hI9.late0, hC.fo, hC.mo⟩
        case step9 =>
          intro J k m9 l9 y hy hp9 jt h16 tk16 hjt F16 N16
          (refine' and9 hp9 ?_; intro q1 q2 q3 q4 q5 q7 off9 offR9 hP9)
          clear hp9
          ((try clear F15); (try clear N15); (try clear F14); (try clear N14))
          refine lap_in hP9 N16 off9 fun v9 x9 st hS Sa Ta N17 => ?_
          clear N16 hP9 off9
          have hkl : k < late.length := by
            have h1 := (List.getElem?_eq_some_iff.mp hy).1
            have h2 := hC.l.length
            omega
          obtain ⟨ty, e9⟩ := ints_at hC.l hkl
          have hy9 : y = .int (late.getD k 0) ty := Option.some.inj (hy.symm.trans e9)
          rw [hy9] at F16
          have hst9 := hS.I.step (y := late.getD k 0) hI9.ln (fun y hy => (hI9.lm y hy).2.1) (by rw [List.getD_eq_getElem?_getD, List.getElem?_eq_getElem hkl]; rfl)
          have hz9 : st.length ≤ 100 := by
            have h1 := hS.I.len
            have h2 := hC.H.hl
            have h3 := hI9.hn
            omega
          have ol9 := hS.o.length
          k_steps
          refine Hold.out (Tells.use (srem_ Sa hS.B hst9.1 (by omega)) (by first | k_asm | exact rfl) (by first | exact rfl | assumption) (by first | exact rfl | assumption) (by k_asm) (by k_asm) (by k_asm) (by k_asm) (by k_asm) (by walk_at "nz room") ?_)
          (refine' retB1 ?_; intro v10 hp99 h' tk' F18 N18; refine' and4 hp99 ?_; intro S10 B10 f10 m10; clear hp99)
          k_steps
          refine Hold.out ?_
          rename Fr _ _ _ _ => F19
          rename News _ _ _ _ => N19
          refine rem_oI hS.o hst9.1 F19 N19 S10 Ta (by omega) fun vs9 n9 h19 hv9 F20 N20 S20 T20 => ?_
          ((try clear F19); (try clear N19); (try clear N17); (try clear F16); (try clear S10); (try clear Sa); (try clear Ta))
          k_steps
          refine Hold.out ?_
          rename Fr _ _ _ _ => F21
          rename News _ _ _ _ => N21
          exact lap_end F21 N21 S20 T20 ⟨B10.s, B10.f⟩ hv9 hS.lV hS.lN hS.rV hst9.2 (f10.trans hS.fo) (m10.trans hS.mo) offR9 fun l o m h => ⟨m, by walk_at "nz look", by walk_at "nz look", by walk_at "nz look", by walk_at "nz look", by walk_at "nz look", by walk_at "nz look", o, offR9, h⟩
        case done9 =>
          intro J m9 l9 h16 tk16 hp9
          (refine' and9 hp9 ?_; intro q1 q2 q3 q4 q5 q7 c9 c8 hp8)
          (refine' ex3 hp8 ?_; intro v9 x9 st hp7)
          (have hp98 := hp7; have e9 := hp98.1; have hS := hp98.2; clear hp98)
          clear hp9 hp8 hp7 c9 c8
          subst e9
          intro F16 N16
          ((try clear F15); (try clear N15); (try clear F14); (try clear N14); (try clear CS); (try clear CT))
          have hP : Pre T n st fmt row := ⟨hI9.fm, hI9.n4, by have := hI9.hn; omega, hS.I.one, hI9.co, hI9.at', hI9.rl, hI9.en⟩
          have H9 := hC.H.re hS.B (fun y hy => hC.H.hst y (hS.I.sub y hy)) (Nat.le_trans hS.I.len hC.H.hl)
          have S9 := hS.S2
          have T9 := hS.S3
          obtain ⟨t7, hd7⟩ := ints_at hds (k := 7) (by omega)
          replace hd7 : ds[(7 : Int).toNat]? = some (.int (dg.getD 7 0) t7) := hd7
          k_steps
          refine Hold.out (Tells.use (end_ hP S9 T9 H9 hS.o hS.fo (Int.fmod_nonneg_of_pos _ (by decide)) (Int.fmod_lt_of_pos _ (by decide))) (by first | k_asm | exact rfl) (by first | exact rfl | assumption) (by first | exact rfl | assumption) (by k_asm) (by k_asm) (by k_asm) (by k_asm) (by k_asm) (by walk_at "nz room") ?_)
          intro y l' h' tk' hp9
          (refine' ex6 hp9 ?_; intro Dsp ts1 ts2 q b u2 hp8)
          (refine' ex6 hp8 ?_; intro v2 x2 z2 T2 n2 st2 hp7)
          (refine' and10 hp7 ?_; intro e9 e8 hsp S18 T18 H2 o2 rV2 mo2 hF)
          clear hp9 hp8 hp7
          subst e9
          subst e8
          intro F18 N18
          ((try clear F16); (try clear N16); (try clear S9); (try clear T9))
          k_steps
          refine Hold.out ?_
          rename News _ _ _ _ => N19
          refine ne_same N19 (List.mem_append_left _ (List.mem_of_getElem? (i := 4) rfl)) (List.mem_append_right _ (List.mem_append_right _ (List.mem_append_left _ (.head _)))) H2.B.s o2 (by ke_room) ?_
          k_steps
          refine Hold.out ?_
          rename Fr _ _ _ _ => F20
          k_dflt (refine LCg.ListComp_U (F₀ := F20) (by rfl) (by decide) (by rfl) (by decide) (by rfl) ?_)
          k_steps
          refine Hold.out ?_
          rename Fr _ _ _ _ => F21
          rename News _ _ _ _ => N21
          have hrw : RowAre ww.params z x2.rV row := by
            rw [rV2, hS.rV]
            exact hC.rw
          have hrl := hrw.length
          have hr7 := hF.rl
          refine comp_src x2.rV (by rfl) F21 N21 (List.mem_append_right _ (List.mem_append_right _ (List.mem_append_left _ (.tail _ (.tail _ (.head _)))))) (by omega) fun gg => ?_
          refine comp_inv (fun i ys nw => nw = _ ∧ IntsAre ys ((row.take i).map (·.1))) ⟨rfl, .nil⟩ ?_ ?_
          · rintro i ys nw9 y I9 oI9 C9 oC D9 m₂ h tk E' hi hPy ⟨rfl, hSy⟩ hC' hx F23 N23 off ne
            rw [List.size_toArray] at hi
            refine row_c hrw (Nat.lt_of_lt_of_eq hi hrl) hPy fun ra rb ta tb na vs e1 e2 _ _ => ?_
            replace hx := hx.trans (congrArg some e1)
            ((try clear F21); (try clear N21); (try clear F20); (try clear N19))
            k_steps
            refine Hold.out ?_
            refine comp_same (by k_asm) (by k_asm) off (src_in (by walk_at "nz mem")) ⟨rfl, ?_⟩
            rw [take_snoc (0, Str.ofString "", []) (Nat.lt_of_lt_of_eq hi hrl), List.map_append]
            exact ints_snoc hSy
          · rintro cv nw9 ⟨rfl, hcv⟩
            rw [List.size_toArray, hrl, List.take_length] at hcv
            intro D22 h22 tk22 F22 N22 o22
            clear o22
            ((try clear F21); (try clear N21); (try clear F20); (try clear N19))
            k_steps
            refine Hold.out ?_
            rename News _ _ _ _ => N24
            refine ne_same N24 (.tail _ (List.mem_append_left _ (List.mem_of_getElem? (i := 7) rfl))) (.head _) H2.B.f (hF.fm ▸ hcv) (by ke_room) ?_
            replace N24 := News.sub (l' := BRaw.led ww.params ad bd v2 ++ (TRaw.led ww.params ad u2 ++ (LRaw.led ⟨oI, lI, rI⟩ x2 ++ (z2 ++ (z ++ R2))))) N24 (fun q hq => .tail _ hq)
            ((try clear N22))
            k_steps
            (refine' ex2 (cut st2 row) ?_; intro pre fresh hp9)
            (have hp98 := hp9; have hrow := hp98.1; have hpre := hp98.2.1; have hfr := hp98.2.2; clear hp98)
            clear hp9
            have zr9 : ∀ y ∈ z, y ∈ z2 ++ (z ++ R2) := fun y hy => List.mem_append_right _ (List.mem_append_left _ hy)
            have J9 := due_in (la := ⟨oI, lI, rI⟩) hF H2 o2 hrw zr9 (List.mem_append_left _ hsp) hrow hpre hfr
            refine Hold.out (Tells.use (due_ J9) (by first | k_asm | exact rfl) (by first | exact rfl | assumption) (by first | exact rfl | assumption) (by k_asm) (by k_asm) (by k_asm) (by k_asm) (by k_asm) (by walk_at "nz room") ?_)
            (refine' retA5 ?_; intro D9 nw9 vs9 co9 oC9 hp99 h' tk' F30 N30; refine' and6 hp99 ?_; intro U9 mD9 dd9 mc9 lo9 C9; clear hp99)
            replace N30 := due_news N30
            have S30 := due_sep S18 U9
            ((try clear F22); (try clear N24); (try clear J9))
            k_steps
            refine Hold.out (Tells.use (reconstruct_ (rec_in hF S30 H2 hrow hfr (mo2.trans hS.mo)) (map_last hpre) (fr_map hfr)) (by first | k_asm | exact rfl) (by first | exact rfl | assumption) (by first | exact rfl | assumption) (by k_asm) (by k_asm) (by k_asm) (by k_asm) (by k_asm) (by walk_at "nz room") ?_)
            (refine' retB2 ?_; intro u3 v3 hp99 h' tk' F31 N31; refine' and4 hp99 ?_; intro S31 H3 f3 m3; clear hp99)
            ((try clear F30); (try clear N30); (try clear S30))
            k_steps
            refine Hold.out (Tells.use (all_ S31) (by first | k_asm | exact rfl) (by first | exact rfl | assumption) (by first | exact rfl | assumption) (by k_asm) (by k_asm) (by k_asm) (by k_asm) (by k_asm) (by walk_at "nz room") ?_)
            (refine' retA1 ?_; intro D10 S32 h' tk' F32 N32)
            ((try clear F31); (try clear N31); (try clear S31))
            k_steps
            refine Hold.out ?_
            rename News _ _ _ _ => N33
            refine ne_due N33 (fun p hp => hp) zr9 H3 hF H2.W hrow hfr mD9 dd9 mc9 lo9 C9 (by ke_room) ?_
            k_steps
            refine Hold.out (Tells.use (reconstruct_ (rec2_in hF H2.W hrow hfr S32 H3 f3 m3) (all_last (map_last hpre) _) (fun _ h => nomatch h)) (by first | k_asm | exact rfl) (by first | exact rfl | assumption) (by first | exact rfl | assumption) (by k_asm) (by k_asm) (by k_asm) (by k_asm) (by k_asm) (by walk_at "nz room") ?_)
            (refine' retB2 ?_; intro u4 v4 hp99 h' tk' F41 N41; refine' and4 hp99 ?_; intro S41 H4 f4 m4; clear hp99)
            ((try clear F32); (try clear N32); (try clear S32); (try clear N33))
            k_steps
            refine Hold.out (Tells.use (all_ S41) (by first | k_asm | exact rfl) (by first | exact rfl | assumption) (by first | exact rfl | assumption) (by k_asm) (by k_asm) (by k_asm) (by k_asm) (by k_asm) (by walk_at "nz room") ?_)
            (refine' retA1 ?_; intro D11 S42 h' tk' F42 N42)
            ((try clear F41); (try clear N41); (try clear S41))
            k_steps
            refine Hold.out ?_
            rename News _ _ _ _ => N43
            refine ne_due N43 (fun p hp => .tail _ hp) zr9 H4 hF H2.W hrow hfr mD9 dd9 mc9 lo9 C9 (by ke_room) ?_
            k_steps
            refine Hold.out ?_
            rename Fr _ _ _ _ => F44
            rename News _ _ _ _ => N44
            have inR : ∀ p ∈ R2, p ∈ BRaw.led ww.params ad bd v4 ++ (TRaw.led ww.params ad u4 ++ (D11, lsOf (allRefs ad bd) 0) :: (D10, lsOf (allRefs ad bd) 0) :: (nw9 ++ (LRaw.led ⟨oI, lI, rI⟩ x2 ++ (z2 ++ (z ++ R2))))) := fun p hp => by simp [hp]
            exact turn_end F44 N44 (inR _ mI) (fun p hp => inR p (mn p hp)) off ⟨by walk_at "nz look", by walk_at "nz look", rfl, off⟩
end
end Nz
theorem PySem.Challenge.cw_nz0095_01_holds : PySem.Challenge.rw_nz0095_01.Holds :=
  Mine.hd
