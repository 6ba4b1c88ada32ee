import PyProof.Rows.All
import Wide.All
import OpenK.AllK
import Wide.FinOn
import PySem.Challenge.RW_sm0079_01
open PySem PySem.W PyProof.Rows PySem.Spec PySem.Calls
set_option Elab.async false
set_option maxRecDepth 100000
set_option maxHeartbeats 1000000
set_option linter.all false
set_option linter.unusedVariables false
set_option genInjectivity false
set_option genSizeOf false
namespace Mine
section
local macro_rules | `(tactic| o_head $_H:term) => `(tactic| assumption)
theorem k0 (h : PySem.Challenge.rw_sm0079_01.row.Holds) : PySem.Challenge.rw_sm0079_01.row.Holds := by
  k_head
end
theorem fill0 : PySem.Challenge.rw_sm0079_01.Holds ∨ Mine.k0.heap_1 = Mine.k0.heap_1 := by
  k_fill
  exact .inr rfl
theorem my_fm (z : Int) : -(2 ^ 64) < z.fmod 2147483647 ∧ z.fmod 2147483647 < 2 ^ 64 := by
  rw [Int.fmod_eq_emod_of_nonneg _ (by decide)]
  omega
theorem my_fdiv {a b : Int} (h : 0 ≤ a) (hb : 0 < b) : 0 ≤ a.fdiv b := by
  rw [Int.fdiv_eq_ediv_of_nonneg _ (by omega)]
  exact Int.ediv_nonneg h (by omega)
section
variable {prog : Program} {w : World} {A : Around} {E : Value → Shared → Prop} {s : Shared} {h₀ : Heap} {L : Addr} {news : List (Addr × Obj)} {Q : Value → Shared → Prop}
theorem my_len_list {l : Addr} {vs : List Value} {n : Nat} (N : News h₀ L s.heap news) (hm : (l, W.listOf vs.toArray n) ∈ news) (hfit : vs.length ≤ 1000)
    (h : ∀ t k, Q (.int vs.length t) { s with toks := k }) : wpAny (model prog w) A (call (.builtin "len") [.ref l]) Q E s :=
  len_list (N.isList hm) (by simp; omega) (by simpa using h _ _)
theorem my_item {value slice : PySem.Expr} {l : Addr} {vs : List Value} {n : Nat} {k : Int} {u : Tok} (N : News h₀ L s.heap news) (hm : (l, W.listOf vs.toArray n) ∈ news)
    (h0 : 0 ≤ k) (h1 : k < vs.length) (hfit : vs.length ≤ 1000) (h : ∀ v, v ∈ vs → Q v s)
    (hs : subscripted slice false (.ref l) (.int k u) = operate [.ref l, .int k u] (getItem (.ref l) (.int k u)) := by with_unfolding_all rfl) (hg : ∀ r, letTemporaryGo value (.ref l) r = pure () := by intro _; with_unfolding_all rfl) :
    wpAny (model prog w) A (subscriptTail value slice (.ref l) (.int k u)) Q E s := by
  have hl : k.toNat < vs.length := by omega
  exact item_list (N.isList hm) h0 (by omega) (by simp [hl]) (h vs[k.toNat] (List.getElem_mem hl)) hs hg
end
theorem restNe {d a : Addr} {rest : List (Addr × Obj)} (h : AllLt d rest) (hd : d ≤ a) : ∀ p ∈ rest, p.1 ≠ a := by
  induction rest with
  | nil => intro p hp; cases hp
  | cons q r ih =>
    intro p hp
    have h1 : q.1 < d := h.1
    cases hp with
    | head => exact Nat.ne_of_lt (Nat.lt_of_lt_of_le h1 hd)
    | tail _ hp => exact ih h.2 p hp
theorem restLe {d a : Addr} {rest : List (Addr × Obj)} (h : AllLt d rest) (hd : d ≤ a) : AllLt a rest := by
  induction rest with
  | nil => trivial
  | cons q r ih => exact ⟨Nat.lt_of_lt_of_le h.1 hd, ih h.2⟩
theorem allLt_mem {d : Addr} {rest : List (Addr × Obj)} (h : AllLt d rest) : ∀ p ∈ rest, p.1 < d := by
  induction rest with
  | nil => intro p hp; cases hp
  | cons q r ih =>
    intro p hp
    cases hp with
    | head => exact h.1
    | tail _ hp => exact ih h.2 p hp
inductive Has (a : Addr) : List (Addr × Obj) → Prop
  | head {o : Obj} {l : List (Addr × Obj)} : Has a ((a, o) :: l)
  | tail {p : Addr × Obj} {l : List (Addr × Obj)} : Has a l → Has a (p :: l)
theorem Has.ex {a : Addr} {l : List (Addr × Obj)} (x : Has a l) : ∃ o, (a, o) ∈ l := by
  induction x with
  | head => exact ⟨_, .head _⟩
  | tail _ ih => exact ih.elim fun o h => ⟨o, .tail _ h⟩
theorem Has.lt {a d : Addr} {l : List (Addr × Obj)} (h : AllLt d l) (x : Has a l) : @LT.lt Nat instLTNat a d := x.ex.elim fun _ m => allLt_mem h _ m
theorem neR {a d : Addr} {l : List (Addr × Obj)} (h : AllLt d l) (x : Has a l) : a ≠ d := Nat.ne_of_lt (x.lt h)
theorem neL {a d : Addr} {l : List (Addr × Obj)} (h : AllLt d l) (x : Has a l) : d ≠ a := Nat.ne_of_gt (x.lt h)
theorem neQ {a d : Addr} {l : List (Addr × Obj)} (h : ∀ p ∈ l, p.1 ≠ d) (x : Has a l) : a ≠ d := x.ex.elim fun _ m => h _ m
theorem neP {a d : Addr} {l : List (Addr × Obj)} (h : ∀ p ∈ l, p.1 ≠ d) (x : Has a l) : d ≠ a := (neQ h x).symm
theorem allNe {d : Addr} {l : List (Addr × Obj)} (h : AllLt d l) : ∀ p ∈ l, p.1 ≠ d := fun p hp => Nat.ne_of_lt (allLt_mem h p hp)
theorem subLt {d : Addr} {l r : List (Addr × Obj)} (h : AllLt d l) (s : ∀ q ∈ r, q ∈ l) : ∀ p ∈ r, p.1 < d := fun p hp => allLt_mem h p (s p hp)
theorem subNe {d : Addr} {l r : List (Addr × Obj)} (h : AllLt d l) (s : ∀ q ∈ r, q ∈ l) : ∀ p ∈ r, p.1 ≠ d := fun p hp => allNe h p (s p hp)
theorem subNeQ {d : Addr} {l r : List (Addr × Obj)} (h : ∀ p ∈ l, p.1 ≠ d) (s : ∀ q ∈ r, q ∈ l) : ∀ p ∈ r, p.1 ≠ d := fun p hp => h p (s p hp)
theorem neT {a d x : Addr} {l : List (Addr × Obj)} (hx : @LT.lt Nat instLTNat d x) (h : AllLt d l) (p : Has a l) : a ≠ x := Nat.ne_of_lt (Nat.lt_trans (p.lt h) hx)
theorem neU {a d x : Addr} {l : List (Addr × Obj)} (hx : @LT.lt Nat instLTNat d x) (h : AllLt d l) (p : Has a l) : x ≠ a := (neT hx h p).symm
theorem ltT {a d x : Addr} {l : List (Addr × Obj)} (hx : @LT.lt Nat instLTNat d x) (h : AllLt d l) (p : Has a l) : @LT.lt Nat instLTNat a x := Nat.lt_trans (p.lt h) hx
theorem subNeT {d x : Addr} {l r : List (Addr × Obj)} (hx : @LT.lt Nat instLTNat d x) (h : AllLt d l) (s : ∀ q ∈ r, q ∈ l) : ∀ p ∈ r, p.1 ≠ x := fun p hp => Nat.ne_of_lt (Nat.lt_trans (subLt h s p hp) hx)
inductive Pick (x : Addr × Obj) : List (Addr × Obj) → List (Addr × Obj) → Prop
  | head {l : List (Addr × Obj)} : Pick x (x :: l) l
  | tail {y : Addr × Obj} {l l' : List (Addr × Obj)} : Pick x l l' → Pick x (y :: l) (y :: l')
theorem Pick.mem {x : Addr × Obj} {l l' : List (Addr × Obj)} (P : Pick x l l') : ∀ p ∈ x :: l', p ∈ l := by
  induction P with
  | head => exact fun p hp => hp
  | tail q ih =>
    intro p hp
    cases hp with
    | head => exact .tail _ (ih _ (.head _))
    | tail _ hp => cases hp with
      | head => exact .head _
      | tail _ hp => exact .tail _ (ih _ (.tail _ hp))
theorem pickN {h₀ h : Heap} {L : Addr} {x : Addr × Obj} {l l' : List (Addr × Obj)} (N : News h₀ L h l) (P : Pick x l l') : News h₀ L h (x :: l') :=
  fun p hp => N p (P.mem p hp)
theorem four_ways {f : Int} (h : 0 ≤ f) (h2 : f < 4) : f = 0 ∨ f = 1 ∨ f = 2 ∨ f = 3 := by omega
theorem compEndP {h₀ : Heap} {L I C D : Addr} {m : Str → Option Value} {s₁ : Shared} {oI oC oD : Obj} {S : List (Addr × Obj) → Prop} {rest : Value → List (Addr × Obj) → Prop} {y : Value} {h' : Heap} {tk : Nat} {all l1 l2 news' : List (Addr × Obj)}
    (F : Fr h₀ L h' m) (N : News h₀ L h' all) (P1 : Pick (I, oI) all l1) (P2 : Pick (C, oC) l1 l2) (P3 : Pick (D, oD) l2 news') (off : LCg.Off3 I C D news') (hS : S news') (r : rest y news') :
    LCg.CompEnd h₀ L m s₁ I oI C oC D oD S rest y { s₁ with heap := h', toks := tk } :=
  LCg.CompEnd.intro F N news' (fun p hp => by
    rcases List.mem_cons.mp hp with rfl | hp
    · exact P1.mem _ (.head _)
    · rcases List.mem_cons.mp hp with rfl | hp
      · exact P1.mem _ (.tail _ (P2.mem _ (.head _)))
      · exact P1.mem _ (.tail _ (P2.mem _ (.tail _ (P3.mem _ hp))))) off hS r
def WhileMark (P : Prop) : Prop := P
theorem while_mark {P : Prop} (h : WhileMark P) : P := h
theorem hideG {P : Prop} (h : let G := P; G) : P := h
theorem letA {α : Type} {prog : Program} {w : World} {A : Around} {t : Sem α} {Q : α → Shared → Prop} {E : Value → Shared → Prop} {s : Shared} (h : let B := A; wpAny (model prog w) B t Q E s) : wpAny (model prog w) A t Q E s := h
/-- a part of a literal: a text, or a reference to a parameter -/
inductive Part where
  | s (x : Str)
  | r (n : Str)
  deriving DecidableEq
abbrev tup1 (n : Str) (t : Tok) : Obj := { cls := .type "tuple", data := .seq [Value.str n t].toArray }
def Part.Ok : Part → Prop
  | .s x => x = Str.ofString "x" ∨ x = Str.ofString "yz" ∨ x = Str.ofString " " ∨ x = Str.ofString "sign" ∨ x = Str.ofString "left"
  | .r n => n = Str.ofString "p" ∨ n = Str.ofString "q" ∨ n = Str.ofString "r" ∨ n = Str.ofString "none"
def PartIs (news : List (Addr × Obj)) (v : Value) : Part → Prop
  | .s x => ∃ t, v = .str x t
  | .r n => ∃ a t, v = .ref a ∧ (a, tup1 n t) ∈ news
inductive PartsAre (news : List (Addr × Obj)) : List Value → List Part → Prop
  | nil : PartsAre news [] []
  | cons {v : Value} {p : Part} {vs : List Value} {ps : List Part} : PartIs news v p → p.Ok → PartsAre news vs ps → PartsAre news (v :: vs) (p :: ps)
theorem PartIs.mono {news news' : List (Addr × Obj)} (h : ∀ p ∈ news, p ∈ news') {v : Value} : ∀ {p : Part}, PartIs news v p → PartIs news' v p
  | .s _, h' => h'
  | .r _, ⟨a, t, e, hm⟩ => ⟨a, t, e, h _ hm⟩
theorem PartsAre.mono {news news' : List (Addr × Obj)} (h : ∀ p ∈ news, p ∈ news') {vs : List Value} {ps : List Part} (P : PartsAre news vs ps) : PartsAre news' vs ps := by
  induction P with
  | nil => exact .nil
  | cons a b _ ih => exact .cons (a.mono h) b ih
theorem PartsAre.length {news : List (Addr × Obj)} {vs : List Value} {ps : List Part} (P : PartsAre news vs ps) : vs.length = ps.length := by
  induction P with
  | nil => rfl
  | cons _ _ _ ih => simp [ih]
theorem menu_part {news : List (Addr × Obj)} {t0 t1 t2 t3 t4 k0 k1 k2 k3 k4 k5 : Tok} {a0 a1 a2 a3 a4 a5 : Addr} {v : Value}
    (h : v ∈ [Value.str (Str.ofString "x") t0, .str (Str.ofString "yz") t1, .str (Str.ofString " ") t2, .str (Str.ofString "sign") t3, .str (Str.ofString "left") t4, .ref a0, .ref a1, .ref a2, .ref a3, .ref a4, .ref a5])
    (m0 : (a0, tup1 (Str.ofString "p") k0) ∈ news) (m1 : (a1, tup1 (Str.ofString "q") k1) ∈ news) (m2 : (a2, tup1 (Str.ofString "r") k2) ∈ news) (m3 : (a3, tup1 (Str.ofString "q") k3) ∈ news) (m4 : (a4, tup1 (Str.ofString "r") k4) ∈ news) (m5 : (a5, tup1 (Str.ofString "none") k5) ∈ news) :
    ∃ p, PartIs news v p ∧ p.Ok := by
  simp only [List.mem_cons, List.not_mem_nil, or_false] at h
  rcases h with rfl | rfl | rfl | rfl | rfl | rfl | rfl | rfl | rfl | rfl | rfl
  · exact ⟨.s _, ⟨_, rfl⟩, .inl rfl⟩
  · exact ⟨.s _, ⟨_, rfl⟩, .inr (.inl rfl)⟩
  · exact ⟨.s _, ⟨_, rfl⟩, .inr (.inr (.inl rfl))⟩
  · exact ⟨.s _, ⟨_, rfl⟩, .inr (.inr (.inr (.inl rfl)))⟩
  · exact ⟨.s _, ⟨_, rfl⟩, .inr (.inr (.inr (.inr rfl)))⟩
  · exact ⟨.r _, ⟨_, _, rfl, m0⟩, .inl rfl⟩
  · exact ⟨.r _, ⟨_, _, rfl, m1⟩, .inr (.inl rfl)⟩
  · exact ⟨.r _, ⟨_, _, rfl, m2⟩, .inr (.inr (.inl rfl))⟩
  · exact ⟨.r _, ⟨_, _, rfl, m3⟩, .inr (.inl rfl)⟩
  · exact ⟨.r _, ⟨_, _, rfl, m4⟩, .inr (.inr (.inl rfl))⟩
  · exact ⟨.r _, ⟨_, _, rfl, m5⟩, .inr (.inr (.inr rfl))⟩
theorem parts_nil {news : List (Addr × Obj)} : ∃ ps, PartsAre news [] ps := ⟨[], .nil⟩
theorem parts_cons {news : List (Addr × Obj)} {v : Value} {vs : List Value} (h : ∃ p, PartIs news v p ∧ p.Ok) (h' : ∃ ps, PartsAre news vs ps) : ∃ ps, PartsAre news (v :: vs) ps :=
  let ⟨_, a, b⟩ := h; let ⟨_, c⟩ := h'; ⟨_, .cons a b c⟩
inductive Split (rest : List (Addr × Obj)) : List (Addr × Obj) → List (Addr × Obj) → Prop
  | nil : Split rest rest []
  | cons {x : Addr × Obj} {l pre : List (Addr × Obj)} : Split rest l pre → Split rest (x :: l) (x :: pre)
theorem Split.eq {rest l pre : List (Addr × Obj)} (S : Split rest l pre) : l = pre ++ rest := by
  induction S with
  | nil => rfl
  | cons _ ih => rw [ih]; rfl
theorem splitN {h₀ h : Heap} {L : Addr} {x : Addr × Obj} {all l pre rest : List (Addr × Obj)} (N : News h₀ L h all) (P : Pick x all l) (S : Split rest l pre) : News h₀ L h (x :: (rest ++ pre)) := by
  intro p hp
  refine N p (P.mem p ?_)
  rw [S.eq]
  rcases List.mem_cons.mp hp with rfl | hp
  · exact .head _
  · rcases List.mem_append.mp hp with hp | hp
    · exact .tail _ (List.mem_append_right _ hp)
    · exact .tail _ (List.mem_append_left _ hp)
theorem off1_ne {d : Addr} : ∀ {rest : List (Addr × Obj)}, LCg.Off1 d rest → ∀ p ∈ rest, p.1 ≠ d
  | [], _, p, hp => nomatch hp
  | q :: r, h, p, hp => by
    rcases List.mem_cons.mp hp with rfl | hp
    · exact h.1
    · exact off1_ne h.2 p hp
theorem newsSub {h₀ h : Heap} {L : Addr} {all l : List (Addr × Obj)} (N : News h₀ L h all) (s : ∀ q ∈ l, q ∈ all) : News h₀ L h l := fun q hq => N q (s q hq)
section
variable {prog : Program} {w : World} {A : Around} {s : Shared} {h₀ : Heap} {L : Addr} {m : Str → Option Value} {env : Env} {elt : PySem.Expr} {x : Str} {scope : Scope} {cl : List (Str × Addr)} {S : List (Addr × Obj) → Prop} {P : Nat → Value → Prop} {Fin : List Value → List (Addr × Obj) → Prop} {n : Nat} {news : List (Addr × Obj)}
theorem compRest_keep (J : Nat → List Value → Prop) (init : J 0 [])
    (step : ∀ i ys v I oI C oC D m₂ h tk (E' : Value → Shared → Prop), i < n → J i ys → P i v → LCg.NsObj oC m₂ → m₂ x = some v → Fr h₀ L h m → News h₀ L h ((I, oI) :: (C, oC) :: (D, LCg.lst ys) :: news) → LCg.Off3 I C D news → ((@Ne Nat I C) ∧ (@Ne Nat I D) ∧ (@Ne Nat C D)) →
      wpAny (model prog w) A (eval elt (compEnvC scope cl C env)) (LCg.CompEnd h₀ L m { s with heap := h, toks := tk } I oI C oC D (LCg.lst ys) S (fun y news' => news' = news ∧ J (i + 1) (ys ++ [y]))) E' { s with heap := h, toks := tk })
    (fin : ∀ ys, J n ys → Fin ys news) : LCg.CompRest prog w A h₀ L m env elt x scope cl s S P Fin n 0 [] news := by
  have key : ∀ k i ys, i + k = n → J i ys → LCg.CompRest prog w A h₀ L m env elt x scope cl s S P Fin k i ys news := by
    intro k
    induction k with
    | zero => intro i ys e hJ; obtain rfl : i = n := by omega
              exact LCg.CompRest.zero (fin ys hJ)
    | succ k ih =>
      intro i ys e hJ
      refine LCg.CompRest.succ fun v I oI C oC D m₂ h tk E' hP hC hx F N off ne => ?_
      refine wpAny_mono (step i ys v I oI C oC D m₂ h tk E' (by omega) hJ hP hC hx F N off ne) (fun y s₂ hE => ?_) fun _ _ q => q
      obtain ⟨h', tk', news', rfl, F', N', off', hS, rfl, hJ'⟩ := hE
      exact ⟨h', tk', news', rfl, F', N', off', hS, ih (i + 1) _ (by omega) hJ'⟩
  exact key n 0 [] (by omega) init
theorem compRest_inv (J : Nat → List Value → List (Addr × Obj) → Prop) (init : J 0 [] news)
    (step : ∀ i ys news v I oI C oC D m₂ h tk (E' : Value → Shared → Prop), i < n → J i ys news → P i v → LCg.NsObj oC m₂ → m₂ x = some v → Fr h₀ L h m → News h₀ L h ((I, oI) :: (C, oC) :: (D, LCg.lst ys) :: news) → LCg.Off3 I C D news → ((@Ne Nat I C) ∧ (@Ne Nat I D) ∧ (@Ne Nat C D)) →
      wpAny (model prog w) A (eval elt (compEnvC scope cl C env)) (LCg.CompEnd h₀ L m { s with heap := h, toks := tk } I oI C oC D (LCg.lst ys) S (fun y news' => J (i + 1) (ys ++ [y]) news')) E' { s with heap := h, toks := tk })
    (fin : ∀ ys news, J n ys news → Fin ys news) : LCg.CompRest prog w A h₀ L m env elt x scope cl s S P Fin n 0 [] news := by
  have key : ∀ k i ys news, i + k = n → J i ys news → LCg.CompRest prog w A h₀ L m env elt x scope cl s S P Fin k i ys news := by
    intro k
    induction k with
    | zero => intro i ys news e hJ; obtain rfl : i = n := by omega
              exact LCg.CompRest.zero (fin ys news hJ)
    | succ k ih =>
      intro i ys news e hJ
      refine LCg.CompRest.succ fun v I oI C oC D m₂ h tk E' hP hC hx F N off ne => ?_
      refine wpAny_mono (step i ys news v I oI C oC D m₂ h tk E' (by omega) hJ hP hC hx F N off ne) (fun y s₂ hE => ?_) fun _ _ q => q
      obtain ⟨h', tk', news', rfl, F', N', off', hS, hJ'⟩ := hE
      exact ⟨h', tk', news', rfl, F', N', off', hS, ih (i + 1) _ _ (by omega) hJ'⟩
  exact key n 0 [] news (by omega) init
end
def wr1 (mark sign : Str) : Part → Str
  | .s x => if x = Str.ofString "sign" then sign else if x = Str.ofString "left" then Str.ofString "&e;" else x
  | .r n => mark ++ n ++ Str.ofString ";"
def written (mark sign : Str) (ps : List Part) : Str := Txt.join (Str.ofString "") (ps.map (wr1 mark sign))
theorem strsAre_snoc {vs : List Value} {ys : List Str} {y : Str} {t : Tok} (h : StrsAre vs ys) : StrsAre (vs ++ [.str y t]) (ys ++ [y]) := by
  induction h with
  | nil => exact .cons _ _ .nil
  | cons a b _ ih => exact .cons _ _ ih
theorem PartsAre.get {news : List (Addr × Obj)} {vs : List Value} {ps : List Part} (P : PartsAre news vs ps) : ∀ {i : Nat} {v : Value}, vs.toArray[i]? = some v → ∃ p, ps[i]? = some p ∧ PartIs news v p ∧ p.Ok := by
  induction P with
  | nil => intro i v h; simp at h
  | cons a b _ ih =>
    intro i v h
    cases i with
    | zero => simp at h; subst h; exact ⟨_, rfl, a, b⟩
    | succ i => simp at h; exact ih (by simpa using h)
theorem take_map {ps : List Part} {f : Part → Str} {i : Nat} {p : Part} (h : ps[i]? = some p) : (ps.take (i + 1)).map f = (ps.take i).map f ++ [f p] := by
  rw [List.take_add_one, h]; simp
theorem part_cases {news : List (Addr × Obj)} {v : Value} {p : Part} (h : PartIs news v p) (ok : p.Ok) :
    (∃ t, v = .str (Str.ofString "x") t ∧ p = .s (Str.ofString "x")) ∨ (∃ t, v = .str (Str.ofString "yz") t ∧ p = .s (Str.ofString "yz")) ∨ (∃ t, v = .str (Str.ofString " ") t ∧ p = .s (Str.ofString " ")) ∨
    (∃ t, v = .str (Str.ofString "sign") t ∧ p = .s (Str.ofString "sign")) ∨ (∃ t, v = .str (Str.ofString "left") t ∧ p = .s (Str.ofString "left")) ∨
    (∃ a t n, v = .ref a ∧ (a, tup1 n t) ∈ news ∧ p = .r n ∧ n.length ≤ 4) := by
  cases p with
  | s x =>
    obtain ⟨t, rfl⟩ := h
    rcases ok with rfl | rfl | rfl | rfl | rfl
    · exact .inl ⟨_, rfl, rfl⟩
    · exact .inr (.inl ⟨_, rfl, rfl⟩)
    · exact .inr (.inr (.inl ⟨_, rfl, rfl⟩))
    · exact .inr (.inr (.inr (.inl ⟨_, rfl, rfl⟩)))
    · exact .inr (.inr (.inr (.inr (.inl ⟨_, rfl, rfl⟩))))
  | r n =>
    obtain ⟨a, t, rfl, hm⟩ := h
    refine .inr (.inr (.inr (.inr (.inr ⟨a, t, n, rfl, hm, rfl, ?_⟩))))
    rcases ok with rfl | rfl | rfl | rfl <;> decide
theorem wr1_x {mark sign : Str} : wr1 mark sign (.s (Str.ofString "x")) = Str.ofString "x" := by unfold wr1; dsimp only; rw [if_neg (by decide), if_neg (by decide)]
theorem wr1_yz {mark sign : Str} : wr1 mark sign (.s (Str.ofString "yz")) = Str.ofString "yz" := by unfold wr1; dsimp only; rw [if_neg (by decide), if_neg (by decide)]
theorem wr1_sp {mark sign : Str} : wr1 mark sign (.s (Str.ofString " ")) = Str.ofString " " := by unfold wr1; dsimp only; rw [if_neg (by decide), if_neg (by decide)]
theorem wr1_sign {mark sign : Str} : wr1 mark sign (.s (Str.ofString "sign")) = sign := by unfold wr1; dsimp only; rw [if_pos rfl]
theorem wr1_left {mark sign : Str} : wr1 mark sign (.s (Str.ofString "left")) = Str.ofString "&e;" := by unfold wr1; dsimp only; rw [if_neg (by decide), if_pos rfl]
theorem wr1_len {mark sign : Str} (hm : mark.length ≤ 5) (hs : sign.length ≤ 5) {p : Part} (ok : p.Ok) : (wr1 mark sign p).length ≤ 10 := by
  cases p with
  | s x =>
    rcases ok with rfl | rfl | rfl | rfl | rfl
    · rw [wr1_x]; decide
    · rw [wr1_yz]; decide
    · rw [wr1_sp]; decide
    · rw [wr1_sign]; omega
    · rw [wr1_left]; decide
  | r n =>
    have h1 : n.length ≤ 4 := by rcases ok with rfl | rfl | rfl | rfl <;> decide
    have h2 : (Str.ofString ";").length = 1 := by decide
    unfold wr1
    rw [strLen_append, strLen_append]
    omega
theorem PartsAre.sum_len {news : List (Addr × Obj)} {vs : List Value} {ps : List Part} (P : PartsAre news vs ps) {mark sign : Str} (hm : mark.length ≤ 5) (hs : sign.length ≤ 5) :
    ((ps.map (wr1 mark sign)).map (·.length)).sum ≤ 10 * vs.length := by
  induction P with
  | nil => simp
  | cons a b _ ih =>
    simp only [List.map_cons, List.sum_cons, List.length_cons]
    have := wr1_len hm hs b
    omega
theorem newsDrop {h₀ h : Heap} {L : Addr} {all pre rest : List (Addr × Obj)} (N : News h₀ L h all) (S : Split rest all pre) : News h₀ L h rest :=
  fun p hp => N p (by rw [S.eq]; exact List.mem_append_right _ hp)
/-- a slice of a text, by its signs -/
def cut (x : Str) (i j : Int) : Str := ⟨((x.cps.toList.drop i.toNat).take (j - i).toNat).toArray⟩
theorem slice_cut {x : Str} {i j : Int} (h0 : 0 ≤ i) (h1 : i ≤ j) (h2 : j ≤ x.length) : Txt.slice x (some i) (some j) = cut x i j :=
  eq_of_beq (slice_closes ⟨h0, h1, by rw [Array.length_toList]; exact h2⟩)
theorem item_at {x : Str} {j : Int} {c : Nat} (h0 : 0 ≤ j) (hc : x.cps.toList[j.toNat]? = some c) : Txt.item x j = ⟨#[c]⟩ := by
  have hlt : j.toNat < x.cps.toList.length := (List.getElem?_eq_some_iff.mp hc).1
  have h1 : j < (x.length : Int) := by
    have : x.cps.toList.length = x.length := by simp [Str.length]
    omega
  unfold Txt.item Txt.charAt seqIndex?
  have e : (if j < 0 then j + (x.length : Int) else j) = j := if_neg (by omega)
  simp only [e]
  rw [if_pos (by simp [h0, h1])]
  have : x.cps[j.toNat]? = some c := by rw [← Array.getElem?_toList]; exact hc
  simp [this]
theorem marks_has (c : Nat) : Txt.contains (Str.ofString "&%") ⟨#[c]⟩ = decide (c = 38 ∨ c = 37) := by
  unfold Txt.contains
  rw [StrLaws.found_one]
  have e : (Str.ofString "&%").cps.toList = [38, 37] := by decide +kernel
  rw [e]
  simp
section
variable {prog : Program} {w : World} {A : Around} {E : Value → Shared → Prop} {s : Shared} {Q : Value → Shared → Prop}
theorem my_char {value slice : PySem.Expr} {x : Str} {t : Tok} {j : Int} {u : Tok} (h0 : 0 ≤ j) (h1 : j < x.length) (hx : x.length ≤ 1000)
    (h : ∀ c t' k, x.cps.toList[j.toNat]? = some c → Q (.str ⟨#[c]⟩ t') { s with toks := k })
    (hs : subscripted slice false (.str x t) (.int j u) = operate [.str x t, .int j u] (getItem (.str x t) (.int j u)) := by with_unfolding_all rfl)
    (ht : ∀ r, letTemporaryGo value (.str x t) r = pure () := by intro _; with_unfolding_all rfl) :
    wpAny (model prog w) A (subscriptTail value slice (.str x t) (.int j u)) Q E s := by
  have e : x.cps.toList.length = x.length := by simp [Str.length]
  have hl : j.toNat < x.cps.toList.length := by omega
  have hc : x.cps.toList[j.toNat]? = some x.cps.toList[j.toNat] := List.getElem?_eq_getElem hl
  refine item_str (fitsSsize_of (N := 9223372036854775808) (by omega) (by omega) (by decide)) (by omega) h1 (fun _ => ?_) hs ht
  rw [item_at h0 hc]
  exact h _ _ _ hc
theorem my_notmark {c : Nat} {u t : Tok} (h : Q (.bool (!decide (c = 38 ∨ c = 37))) s) : wpAny (model prog w) A (compareOp .NotIn (.str ⟨#[c]⟩ u) (.str (Str.ofString "&%") t)) Q E s := by
  refine P.notIn_str ?_
  have := marks_has c
  unfold Txt.contains at this
  rw [this]
  exact h
end
/-- no mark stands from i up to j -/
def Plain (x : Str) (i j : Int) : Prop := ∀ k : Nat, i ≤ k → (k : Int) < j → ∀ c, x.cps.toList[k]? = some c → ¬ (c = 38 ∨ c = 37)
/-- at j the text is over, or a mark stands there -/
def Stops (x : Str) (j : Int) : Prop := j = x.length ∨ ∃ c, x.cps.toList[j.toNat]? = some c ∧ (c = 38 ∨ c = 37)
theorem Plain.nil {x : Str} {i : Int} : Plain x i i := fun k h1 h2 => by omega
theorem Plain.step {x : Str} {i j : Int} {c : Nat} (h : Plain x i j) (h0 : 0 ≤ j) (hc : x.cps.toList[j.toNat]? = some c) (hn : ¬ (c = 38 ∨ c = 37)) : Plain x i (j + 1) := by
  intro k h1 h2 c' hc'
  by_cases e : (k : Int) < j
  · exact h k h1 e c' hc'
  · have : k = j.toNat := by omega
    subst this
    rw [hc] at hc'
    cases hc'
    exact hn
local macro_rules | `(tactic| k_all) => `(tactic| k_extra "k_all")
local macro_rules | `(tactic| kbo_some) => `(tactic| k_extra "kbo_some")
local macro_rules | `(tactic| k_mem) => `(tactic| k_extra "k_mem")
local macro_rules | `(tactic| k_upd) => `(tactic| k_extra "k_upd")
local macro_rules | `(tactic| k_updF) => `(tactic| k_extra "k_updF")
local macro_rules | `(tactic| k_lt $h:ident) => `(tactic| replace $h := allLt_of $h)
local macro_rules | `(tactic| k_ne) => `(tactic| k_extra "k_ne")
local macro_rules | `(tactic| k_enter) => `(tactic| k_extra "k_enter")
local macro_rules | `(tactic| ktr_room) => `(tactic| k_extra "ktr_room")
local macro_rules | `(tactic| ktr_units) => `(tactic| k_extra "ktr_units")
local macro_rules | `(tactic| kbd_text) => `(tactic| k_extra "kbd_text")
local macro_rules | `(tactic| walk_at $s:str) => `(tactic| k_extra $s)
local macro_rules | `(tactic| lcg_off) => `(tactic| k_extra "lcg_off")
local macro_rules | `(tactic| k_in) => `(tactic| k_extra "k_in")
section
local macro_rules | `(tactic| mul_fits) => `(tactic| k_extra "mul_fits")
theorem kw1 : True := by
  k_with "k_all" => (first | with_reducible assumption | exact List.forall_mem_nil _ | exact allNe (by with_reducible assumption) | (refine' List.forall_mem_cons.mpr ⟨?q1a, ?q1b⟩; (case q1a => k_ne); (case q1b => k_all)) | exact subNe (by with_reducible assumption) (fun q hq => by kbo_some) | exact subNeT (by with_reducible assumption) (by with_reducible assumption) (fun q hq => by kbo_some) | exact subNeQ (by with_reducible assumption) (fun q hq => by kbo_some) | assumption)
  k_with "kbo_some" => (first | with_reducible assumption | exact List.Mem.head _ | (refine' List.mem_cons_of_mem _ ?_; kbo_some) | ((with_reducible refine List.mem_append.mpr (Or.inr ?_)); kbo_some))
  k_with "k_mem" => (first | kbo_some | assumption)
  k_with "k_upd" => (first | (refine' Upd.head ?q4a; (case q4a => k_all)) | (refine' Upd.tail ?q4a ?q4b; (case q4a => k_ne); (case q4b => k_upd)))
  k_with "k_updF" => (first | (refine' UpdF.head ?q5a; (case q5a => k_all)) | (refine' UpdF.tail ?q5a ?q5b; (case q5a => k_ne); (case q5b => k_updF)))
  k_with "k_ne" => (((try dsimp only); first | with_reducible assumption | (refine Ne.symm ?_; with_reducible assumption) | (refine Nat.ne_of_gt ?_; with_reducible assumption) | (refine Nat.ne_of_lt ?_; with_reducible assumption) | (refine neR (by with_reducible assumption) ?_; k_extra "has") | (refine neL (by with_reducible assumption) ?_; k_extra "has") | (refine neQ (by with_reducible assumption) ?_; k_extra "has") | (refine neP (by with_reducible assumption) ?_; k_extra "has") | (refine neT (by with_reducible assumption) (by with_reducible assumption) ?_; k_extra "has") | (refine neU (by with_reducible assumption) (by with_reducible assumption) ?_; k_extra "has") | exact Nat.ne_of_lt (Nat.lt_succ_self _) | exact Nat.ne_of_gt (Nat.lt_succ_self _) | omega))
  k_with "k_enter" => (first
  | (refine' code_def ?q7k1 ?q7k2 ?q7k3 ?q7k4 ?q7k5 ?q7kA ?q7kF ?q7kK ?q7k6 ?q7k7 ?q7k8 ?q7k9 ?q7kB ?_ ?q7c2 ?q7c3 ?q7c4 ?q7c5; (case q7kA => exact rfl); (case q7kF => exact rfl); (case q7kK => first | exact rfl | assumption); (case q7k1 => k_asm); (case q7k2 => k_asm); (case q7k3 => k_asm); (case q7k4 => k_asm); (case q7k5 => k_asm); (case q7k6 => k_is); (case q7k7 => k_is); (case q7k8 => ktr_room); (case q7k9 => first | exact BindsTo.of_eq rfl | exact binds_K (by k_in) rfl (by k_is) rfl rfl rfl); (case q7c5 => decide); (case q7kB => exact locs rfl); (case q7c2 => exact rfl); (case q7c3 => exact rfl); (case q7c4 => exact rfl); k_whole; intro g'z L'z h'z FG'z F'z N'z B'z X'z T'z; (try dsimp only); (try k_fold); (try (refine letA ?_; intro A9)))
  | (refine' code_defC ?q7k1 ?q7k2 ?q7k3 ?q7k4 ?q7k5 ?q7kA ?q7kF ?q7kK ?q7k6 ?q7k7 ?q7k8 ?q7k9 ?q7kB ?q7kD ?_ ?q7c2 ?q7c3 ?q7c4; (case q7kA => exact rfl); (case q7kF => exact rfl); (case q7kK => first | exact rfl | assumption); (case q7k1 => k_asm); (case q7k2 => k_asm); (case q7k3 => k_asm); (case q7k4 => k_asm); (case q7k5 => k_asm); (case q7k6 => k_is); (case q7k7 => k_is); (case q7k8 => ktr_room); (case q7k9 => first | exact BindsTo.of_eq rfl | exact binds_K (by k_in) rfl (by k_is) rfl rfl rfl); (case q7kB => exact rfl); (case q7kD => decide +kernel); (case q7c2 => exact rfl); (case q7c3 => exact rfl); (case q7c4 => exact rfl); k_whole; intro g'z L'z h'z tk'z cells'z FG'z F'z N'z Y'z B'z X'z T'z l1; (try k_lt l1); (try (have hR6 := restNe l1 (Nat.le_add_right _ 1); have hR5 := restNe l1 (Nat.le_add_right _ (1 + 1)))); (first   | (have hY := CellsAre.one Y'z; obtain ⟨o'z, hE'z, d1'z⟩ := hY; subst hE'z; clear Y'z; (first | (replace d1'z : o'z.data = .cell none := d1'z) | (replace d1'z : o'z.data = .cell (some _) := d1'z) | skip))   | (have hY := CellsAre.two Y'z; obtain ⟨o'z, o2'z, hE'z, d1'z, d2'z⟩ := hY; subst hE'z; clear Y'z; (first | (replace d1'z : o'z.data = .cell none := d1'z) | (replace d1'z : o'z.data = .cell (some _) := d1'z) | skip); (first | (replace d2'z : o2'z.data = .cell none := d2'z) | (replace d2'z : o2'z.data = .cell (some _) := d2'z) | skip))); (try simp only [List.cons_append, List.nil_append] at N'z); (try dsimp only); (try k_fold); (try (refine letA ?_; intro A9))))
  k_with "ktr_room" => (((try simp +zetaDelta only [depth_deeper, depth_in1, depth_mark, depth_under_make, depth_under_kw]); (try dsimp only [ktrTop]); (try simp only [Nat.add_assoc, Nat.reduceAdd]); refine Nat.lt_of_le_of_lt (Nat.add_le_add_left ?_ _) (by with_reducible assumption); decide))
  k_with "ktr_units" => (((try simp +zetaDelta only [units_deeper, units_in1, Around.mark_units]); (try dsimp only [ktrTop]); (try simp only [Nat.add_assoc, Nat.reduceAdd]); refine Nat.lt_of_le_of_lt (Nat.add_le_add_left ?_ _) (by with_reducible assumption); decide))
  k_with "kbd_text" => (first | exact Pick.head | (apply Pick.tail; kbd_text))
  k_with "hide" => ((refine hideG ?_; intro G9))
  k_with "has" => (first | with_reducible exact Has.head | (refine Has.tail ?_; k_extra "has"))
  k_with "lt" => (first | with_reducible assumption | (refine Has.lt (by with_reducible assumption) ?_; k_extra "has") | (refine ltT (by with_reducible assumption) (by with_reducible assumption) ?_; k_extra "has"))
  k_with "ltAll" => (first | with_reducible assumption | exact allLt_mem (by with_reducible assumption) | exact subLt (by with_reducible assumption) (fun q hq => by kbo_some))
  k_with "FinE" => (((unfold LCg.FinE); intro D'z h'z tk'z F'z N'z o1'z; (have hR8 := off1_ne o1'z); (try simp only [List.nil_append, List.cons_append] at N'z); (try dsimp only)))
  k_with "lcg_off" => (first | exact True.intro | with_reducible assumption | (refine And.intro ⟨by k_ne, by k_ne, by k_ne⟩ ?_; lcg_off))
  k_with "CompEnd" => ((k_here; k_dflt (refine' compEndP ?q17f ?q17n ?q17p1 ?q17p2 ?q17p3 ?q17o ?q17s ?_; (case q17f => k_asm); (case q17n => k_asm); (case q17p1 => kbd_text); (case q17p2 => kbd_text); (case q17p3 => kbd_text); (case q17o => lcg_off); (case q17s => lcg_src); k_whole)))
  k_with "kbd_text" => (((with_reducible show Split _ _ _); first | exact Split.nil | (apply Split.cons; kbd_text)))
  k_with "exec While BoolOp cons nil" => ((k_here; refine while_mark ?_))
  k_with "exec While Compare cons nil" => ((k_here; refine while_mark ?_))
  k_with "subscriptTail Attribute" => ((k_here; k_dflt (refine kba_turn (value' := PySem.Expr.Name (PySem.Str.ofString "_") ⟨0, 0, 0, 0⟩) (fun _ => rfl) ?_)))
  k_with "ite" => ((k_closed; k_dflt (first | rw [if_pos (by decide)] | rw [if_neg (by decide)])))
  k_with "k_in" => (first | with_reducible assumption | exact Frag.In.keeps (by with_reducible assumption) (Fr.keep (by with_reducible assumption)))
  k_with "execs nil" => ((k_here; refine wpAny_execs_nil ?_))
  k_with "execs cons" => ((k_here; refine wpAny_execs_cons ?_))
  k_with "exec If" => ((k_here; refine wpAny_If ?_))
  k_with "mul_fits" => (k_dflt (exact PySem.IntMulOk.of_left (PySem.intBits_le_64 (my_fm _).1 (my_fm _).2)))
  trivial
theorem c_take {w : World} {vw : Program} {loose : List Str} {mean : ExcName → Option Value} {mg mb : Str → Option Value} {dp un : Nat} {gd : Option (List Code)} {cn : Str} {cs : Scope} {a : Addr} {ccd : Value} {cl : List (Str × Addr)} {outer : List Env} {A₀ : Around} {base h₀ : Heap} {L : Addr} {m : Str → Option Value} {s : Shared} {Q E : Value → Shared → Prop} {rest : List (Addr × Obj)}
   {src : Addr} {x y : Int} {tx ty : Tok} {n : Nat} {top : Int} {tt : Tok}
   (B : Below A₀ base outer h₀ := by k_asm) (F : Fr h₀ L s.heap m := by k_asm) (X : (Mine.k0.heap_1 w.params).In h₀ := by k_asm) (T : Top vw loose mean mg mb h₀ := by k_asm) (hk : cs.kind = .function := by exact rfl)
   (N : News h₀ L s.heap ((src, W.listOf #[.int x tx, .int y ty] n) :: rest)) (hrest : ∀ p ∈ rest, p.1 ≠ src)
   (hx : 0 ≤ x) (hy : 0 ≤ y) (htop : 0 < top) (htop2: top ≤ 11) (hdp : dp + 2 < recursionLimit := by ktr_room) (hu : un + 80 < cLine := by ktr_units)
   (ret : ∀ f x' y' t1 t2 t3 h' tk', 0 ≤ f → f < top → 0 ≤ x' → 0 ≤ y' → Fr h₀ L h' m → News h₀ L h' ((src, W.listOf #[.int x' t1, .int y' t2] n) :: rest) → Q (.int f t3) { s with heap := h', toks := tk' }) :
   wpAny (model PySem.Challenge.pw_sm0079_01 w) (ktrTop dp un gd cn cs L a ccd cl outer) (call (.ref 693) [.ref src, .int top tt]) Q E s := by
  refine wpAny_call ?_
  k_dflt k_enter
  k_steps
  all_goals (try k_data)
  all_goals (refine ret _ _ _ _ _ _ _ _ ?_ ?_ ?_ ?_ (by assumption) (by assumption))
  all_goals first | exact hx | exact hy | exact fmod_lo _ htop | exact fmod_hi _ htop | exact fmod_lo _ (by decide) | exact my_fdiv hx htop
end
section
section
theorem kw2 : True := by
  k_with_none
  k_with "k_all" => (first | with_reducible assumption | exact List.forall_mem_nil _ | exact allNe (by with_reducible assumption) | (refine' List.forall_mem_cons.mpr ⟨?q1a, ?q1b⟩; (case q1a => k_ne); (case q1b => k_all)) | exact subNe (by with_reducible assumption) (fun q hq => by kbo_some) | exact subNeT (by with_reducible assumption) (by with_reducible assumption) (fun q hq => by kbo_some) | exact subNeQ (by with_reducible assumption) (fun q hq => by kbo_some) | assumption)
  k_with "kbo_some" => (first | with_reducible assumption | exact List.Mem.head _ | (refine' List.mem_cons_of_mem _ ?_; kbo_some) | ((with_reducible refine List.mem_append.mpr (Or.inr ?_)); kbo_some))
  k_with "k_mem" => (first | kbo_some | assumption)
  k_with "k_upd" => (first | (refine' Upd.head ?q4a; (case q4a => k_all)) | (refine' Upd.tail ?q4a ?q4b; (case q4a => k_ne); (case q4b => k_upd)))
  k_with "k_updF" => (first | (refine' UpdF.head ?q5a; (case q5a => k_all)) | (refine' UpdF.tail ?q5a ?q5b; (case q5a => k_ne); (case q5b => k_updF)))
  k_with "k_ne" => (((try dsimp only); first | with_reducible assumption | (refine Ne.symm ?_; with_reducible assumption) | (refine Nat.ne_of_gt ?_; with_reducible assumption) | (refine Nat.ne_of_lt ?_; with_reducible assumption) | (refine neR (by with_reducible assumption) ?_; k_extra "has") | (refine neL (by with_reducible assumption) ?_; k_extra "has") | (refine neQ (by with_reducible assumption) ?_; k_extra "has") | (refine neP (by with_reducible assumption) ?_; k_extra "has") | (refine neT (by with_reducible assumption) (by with_reducible assumption) ?_; k_extra "has") | (refine neU (by with_reducible assumption) (by with_reducible assumption) ?_; k_extra "has") | exact Nat.ne_of_lt (Nat.lt_succ_self _) | exact Nat.ne_of_gt (Nat.lt_succ_self _) | omega))
  k_with "k_enter" => (first
  | (refine' code_def ?q7k1 ?q7k2 ?q7k3 ?q7k4 ?q7k5 ?q7kA ?q7kF ?q7kK ?q7k6 ?q7k7 ?q7k8 ?q7k9 ?q7kB ?_ ?q7c2 ?q7c3 ?q7c4 ?q7c5; (case q7kA => exact rfl); (case q7kF => exact rfl); (case q7kK => first | exact rfl | assumption); (case q7k1 => k_asm); (case q7k2 => k_asm); (case q7k3 => k_asm); (case q7k4 => k_asm); (case q7k5 => k_asm); (case q7k6 => k_is); (case q7k7 => k_is); (case q7k8 => ktr_room); (case q7k9 => first | exact BindsTo.of_eq rfl | exact binds_K (by k_in) rfl (by k_is) rfl rfl rfl); (case q7c5 => decide); (case q7kB => exact locs rfl); (case q7c2 => exact rfl); (case q7c3 => exact rfl); (case q7c4 => exact rfl); k_whole; intro g'z L'z h'z FG'z F'z N'z B'z X'z T'z; (try dsimp only); (try k_fold); (try (refine letA ?_; intro A9)))
  | (refine' code_defC ?q7k1 ?q7k2 ?q7k3 ?q7k4 ?q7k5 ?q7kA ?q7kF ?q7kK ?q7k6 ?q7k7 ?q7k8 ?q7k9 ?q7kB ?q7kD ?_ ?q7c2 ?q7c3 ?q7c4; (case q7kA => exact rfl); (case q7kF => exact rfl); (case q7kK => first | exact rfl | assumption); (case q7k1 => k_asm); (case q7k2 => k_asm); (case q7k3 => k_asm); (case q7k4 => k_asm); (case q7k5 => k_asm); (case q7k6 => k_is); (case q7k7 => k_is); (case q7k8 => ktr_room); (case q7k9 => first | exact BindsTo.of_eq rfl | exact binds_K (by k_in) rfl (by k_is) rfl rfl rfl); (case q7kB => exact rfl); (case q7kD => decide +kernel); (case q7c2 => exact rfl); (case q7c3 => exact rfl); (case q7c4 => exact rfl); k_whole; intro g'z L'z h'z tk'z cells'z FG'z F'z N'z Y'z B'z X'z T'z l1; (try k_lt l1); (try (have hR6 := restNe l1 (Nat.le_add_right _ 1); have hR5 := restNe l1 (Nat.le_add_right _ (1 + 1)))); (first   | (have hY := CellsAre.one Y'z; obtain ⟨o'z, hE'z, d1'z⟩ := hY; subst hE'z; clear Y'z; (first | (replace d1'z : o'z.data = .cell none := d1'z) | (replace d1'z : o'z.data = .cell (some _) := d1'z) | skip))   | (have hY := CellsAre.two Y'z; obtain ⟨o'z, o2'z, hE'z, d1'z, d2'z⟩ := hY; subst hE'z; clear Y'z; (first | (replace d1'z : o'z.data = .cell none := d1'z) | (replace d1'z : o'z.data = .cell (some _) := d1'z) | skip); (first | (replace d2'z : o2'z.data = .cell none := d2'z) | (replace d2'z : o2'z.data = .cell (some _) := d2'z) | skip))); (try simp only [List.cons_append, List.nil_append] at N'z); (try dsimp only); (try k_fold); (try (refine letA ?_; intro A9))))
  k_with "ktr_room" => (((try simp +zetaDelta only [depth_deeper, depth_in1, depth_mark, depth_under_make, depth_under_kw]); (try dsimp only [ktrTop]); (try simp only [Nat.add_assoc, Nat.reduceAdd]); refine Nat.lt_of_le_of_lt (Nat.add_le_add_left ?_ _) (by with_reducible assumption); decide))
  k_with "ktr_units" => (((try simp +zetaDelta only [units_deeper, units_in1, Around.mark_units]); (try dsimp only [ktrTop]); (try simp only [Nat.add_assoc, Nat.reduceAdd]); refine Nat.lt_of_le_of_lt (Nat.add_le_add_left ?_ _) (by with_reducible assumption); decide))
  k_with "kbd_text" => (first | exact Pick.head | (apply Pick.tail; kbd_text))
  k_with "hide" => ((refine hideG ?_; intro G9))
  k_with "has" => (first | with_reducible exact Has.head | (refine Has.tail ?_; k_extra "has"))
  k_with "lt" => (first | with_reducible assumption | (refine Has.lt (by with_reducible assumption) ?_; k_extra "has") | (refine ltT (by with_reducible assumption) (by with_reducible assumption) ?_; k_extra "has"))
  k_with "ltAll" => (first | with_reducible assumption | exact allLt_mem (by with_reducible assumption) | exact subLt (by with_reducible assumption) (fun q hq => by kbo_some))
  k_with "FinE" => (((unfold LCg.FinE); intro D'z h'z tk'z F'z N'z o1'z; (have hR8 := off1_ne o1'z); (try simp only [List.nil_append, List.cons_append] at N'z); (try dsimp only)))
  k_with "lcg_off" => (first | exact True.intro | with_reducible assumption | (refine And.intro ⟨by k_ne, by k_ne, by k_ne⟩ ?_; lcg_off))
  k_with "CompEnd" => ((k_here; k_dflt (refine' compEndP ?q17f ?q17n ?q17p1 ?q17p2 ?q17p3 ?q17o ?q17s ?_; (case q17f => k_asm); (case q17n => k_asm); (case q17p1 => kbd_text); (case q17p2 => kbd_text); (case q17p3 => kbd_text); (case q17o => lcg_off); (case q17s => lcg_src); k_whole)))
  k_with "kbd_text" => (((with_reducible show Split _ _ _); first | exact Split.nil | (apply Split.cons; kbd_text)))
  k_with "exec While BoolOp cons nil" => ((k_here; refine while_mark ?_))
  k_with "exec While Compare cons nil" => ((k_here; refine while_mark ?_))
  k_with "subscriptTail Attribute" => ((k_here; k_dflt (refine kba_turn (value' := PySem.Expr.Name (PySem.Str.ofString "_") ⟨0, 0, 0, 0⟩) (fun _ => rfl) ?_)))
  k_with "ite" => ((k_closed; k_dflt (first | rw [if_pos (by decide)] | rw [if_neg (by decide)])))
  k_with "k_in" => (first | with_reducible assumption | exact Frag.In.keeps (by with_reducible assumption) (Fr.keep (by with_reducible assumption)))
  k_with "execs nil" => ((k_here; refine wpAny_execs_nil ?_))
  k_with "execs cons" => ((k_here; refine wpAny_execs_cons ?_))
  k_with "exec If" => ((k_here; refine wpAny_If ?_))
  k_with "call ref" => (((k_here; (with_reducible show wpAny _ _ (call (Value.ref 693) _) _ _ _); k_dflt (refine' c_take ?q28b ?q28f ?q28x ?q28t ?q28k ?q28n ?q28r ?q28h1 ?q28h2 ?q28h3 ?q28h4 ?q28rd ?q28ru ?_; (case q28b => k_asm); (case q28f => k_asm); (case q28x => k_asm); (case q28t => k_asm); (case q28k => exact rfl); (case q28n => exact pickN (by k_asm) (by kbd_text)); (case q28r => k_all); (case q28h1 => first | assumption | decide | omega); (case q28h2 => first | assumption | decide | omega); (case q28h3 => first | assumption | decide | omega); (case q28h4 => first | assumption | decide | omega); (case q28rd => ktr_room); (case q28ru => ktr_units); k_whole); intro f'z x'z y'z t1'z t2'z t3'z h'z tk'z i1'z i2'z i3'z i4'z F'z N'z); (try dsimp only)))
  k_with "call builtin:len" => ((k_here; (with_reducible show wpAny _ _ (call (Value.builtin "len") [Value.ref _]) _ _ _); k_dflt (refine' my_len_list ?q29n ?q29m ?q29z ?_; (case q29n => k_asm); (case q29m => k_mem); (case q29z => first | assumption | decide | omega); k_whole); intro t'z k'z))
  k_with "subscriptTail" => ((k_here; (with_reducible show wpAny _ _ (subscriptTail _ _ (Value.ref _) (Value.int _ _)) _ _ _); k_dflt (refine' my_item ?q30n ?q30m ?q30z0 ?q30z1 ?q30z2 ?_; (case q30n => k_asm); (case q30m => k_mem); (case q30z0 => first | assumption | decide | omega); (case q30z1 => first | assumption | decide | omega); (case q30z2 => first | assumption | decide | omega); k_whole); intro v'z hv'z))
  trivial
theorem c_one {w : World} {vw : Program} {loose : List Str} {mean : ExcName → Option Value} {mg mb : Str → Option Value} {dp un : Nat} {gd : Option (List Code)} {cn : Str} {cs : Scope} {a : Addr} {ccd : Value} {cl : List (Str × Addr)} {outer : List Env} {A₀ : Around} {base h₀ : Heap} {L : Addr} {m : Str → Option Value} {s : Shared} {Q E : Value → Shared → Prop} {rest : List (Addr × Obj)}
   {src : Addr} {x y : Int} {tx ty : Tok} {n : Nat} {th : Addr} {vs : List Value} {nt : Nat}
   (B : Below A₀ base outer h₀ := by k_asm) (F : Fr h₀ L s.heap m := by k_asm) (X : (Mine.k0.heap_1 w.params).In h₀ := by k_asm) (T : Top vw loose mean mg mb h₀ := by k_asm) (hk : cs.kind = .function := by exact rfl)
   (N : News h₀ L s.heap ((src, W.listOf #[.int x tx, .int y ty] n) :: rest)) (hrest : ∀ p ∈ rest, p.1 ≠ src)
   (hm : (th, W.listOf vs.toArray nt) ∈ rest)
   (hx : 0 ≤ x) (hy : 0 ≤ y) (hlen : 0 < vs.length) (hlen2 : vs.length ≤ 11) (hdp : dp + 4 < recursionLimit := by ktr_room) (hu : un + 160 < cLine := by ktr_units)
   (ret : ∀ v x' y' t1 t2 h' tk', v ∈ vs → 0 ≤ x' → 0 ≤ y' → Fr h₀ L h' m → News h₀ L h' ((src, W.listOf #[.int x' t1, .int y' t2] n) :: rest) → Q v { s with heap := h', toks := tk' }) :
   wpAny (model PySem.Challenge.pw_sm0079_01 w) (ktrTop dp un gd cn cs L a ccd cl outer) (call (.ref 700) [.ref src, .ref th]) Q E s := by
  refine wpAny_call ?_
  k_dflt k_enter
  k_steps
  all_goals (try k_data)
  refine ret _ _ _ _ _ _ _ ?_ ?_ ?_ (by assumption) (by assumption) <;> assumption
end
end
section
theorem kw3 : True := by
  k_with_none
  k_with "k_all" => (first | with_reducible assumption | exact List.forall_mem_nil _ | exact allNe (by with_reducible assumption) | (refine' List.forall_mem_cons.mpr ⟨?q1a, ?q1b⟩; (case q1a => k_ne); (case q1b => k_all)) | exact subNe (by with_reducible assumption) (fun q hq => by kbo_some) | exact subNeT (by with_reducible assumption) (by with_reducible assumption) (fun q hq => by kbo_some) | exact subNeQ (by with_reducible assumption) (fun q hq => by kbo_some) | assumption)
  k_with "kbo_some" => (first | with_reducible assumption | exact List.Mem.head _ | (refine' List.mem_cons_of_mem _ ?_; kbo_some) | ((with_reducible refine List.mem_append.mpr (Or.inr ?_)); kbo_some))
  k_with "k_mem" => (first | kbo_some | assumption)
  k_with "k_upd" => (first | (refine' Upd.head ?q4a; (case q4a => k_all)) | (refine' Upd.tail ?q4a ?q4b; (case q4a => k_ne); (case q4b => k_upd)))
  k_with "k_updF" => (first | (refine' UpdF.head ?q5a; (case q5a => k_all)) | (refine' UpdF.tail ?q5a ?q5b; (case q5a => k_ne); (case q5b => k_updF)))
  k_with "k_ne" => (((try dsimp only); first | with_reducible assumption | (refine Ne.symm ?_; with_reducible assumption) | (refine Nat.ne_of_gt ?_; with_reducible assumption) | (refine Nat.ne_of_lt ?_; with_reducible assumption) | (refine neR (by with_reducible assumption) ?_; k_extra "has") | (refine neL (by with_reducible assumption) ?_; k_extra "has") | (refine neQ (by with_reducible assumption) ?_; k_extra "has") | (refine neP (by with_reducible assumption) ?_; k_extra "has") | (refine neT (by with_reducible assumption) (by with_reducible assumption) ?_; k_extra "has") | (refine neU (by with_reducible assumption) (by with_reducible assumption) ?_; k_extra "has") | exact Nat.ne_of_lt (Nat.lt_succ_self _) | exact Nat.ne_of_gt (Nat.lt_succ_self _) | omega))
  k_with "k_enter" => (first
  | (refine' code_def ?q7k1 ?q7k2 ?q7k3 ?q7k4 ?q7k5 ?q7kA ?q7kF ?q7kK ?q7k6 ?q7k7 ?q7k8 ?q7k9 ?q7kB ?_ ?q7c2 ?q7c3 ?q7c4 ?q7c5; (case q7kA => exact rfl); (case q7kF => exact rfl); (case q7kK => first | exact rfl | assumption); (case q7k1 => k_asm); (case q7k2 => k_asm); (case q7k3 => k_asm); (case q7k4 => k_asm); (case q7k5 => k_asm); (case q7k6 => k_is); (case q7k7 => k_is); (case q7k8 => ktr_room); (case q7k9 => first | exact BindsTo.of_eq rfl | exact binds_K (by k_in) rfl (by k_is) rfl rfl rfl); (case q7c5 => decide); (case q7kB => exact locs rfl); (case q7c2 => exact rfl); (case q7c3 => exact rfl); (case q7c4 => exact rfl); k_whole; intro g'z L'z h'z FG'z F'z N'z B'z X'z T'z; (try dsimp only); (try k_fold); (try (refine letA ?_; intro A9)))
  | (refine' code_defC ?q7k1 ?q7k2 ?q7k3 ?q7k4 ?q7k5 ?q7kA ?q7kF ?q7kK ?q7k6 ?q7k7 ?q7k8 ?q7k9 ?q7kB ?q7kD ?_ ?q7c2 ?q7c3 ?q7c4; (case q7kA => exact rfl); (case q7kF => exact rfl); (case q7kK => first | exact rfl | assumption); (case q7k1 => k_asm); (case q7k2 => k_asm); (case q7k3 => k_asm); (case q7k4 => k_asm); (case q7k5 => k_asm); (case q7k6 => k_is); (case q7k7 => k_is); (case q7k8 => ktr_room); (case q7k9 => first | exact BindsTo.of_eq rfl | exact binds_K (by k_in) rfl (by k_is) rfl rfl rfl); (case q7kB => exact rfl); (case q7kD => decide +kernel); (case q7c2 => exact rfl); (case q7c3 => exact rfl); (case q7c4 => exact rfl); k_whole; intro g'z L'z h'z tk'z cells'z FG'z F'z N'z Y'z B'z X'z T'z l1; (try k_lt l1); (try (have hR6 := restNe l1 (Nat.le_add_right _ 1); have hR5 := restNe l1 (Nat.le_add_right _ (1 + 1)))); (first   | (have hY := CellsAre.one Y'z; obtain ⟨o'z, hE'z, d1'z⟩ := hY; subst hE'z; clear Y'z; (first | (replace d1'z : o'z.data = .cell none := d1'z) | (replace d1'z : o'z.data = .cell (some _) := d1'z) | skip))   | (have hY := CellsAre.two Y'z; obtain ⟨o'z, o2'z, hE'z, d1'z, d2'z⟩ := hY; subst hE'z; clear Y'z; (first | (replace d1'z : o'z.data = .cell none := d1'z) | (replace d1'z : o'z.data = .cell (some _) := d1'z) | skip); (first | (replace d2'z : o2'z.data = .cell none := d2'z) | (replace d2'z : o2'z.data = .cell (some _) := d2'z) | skip))); (try simp only [List.cons_append, List.nil_append] at N'z); (try dsimp only); (try k_fold); (try (refine letA ?_; intro A9))))
  k_with "ktr_room" => (((try simp +zetaDelta only [depth_deeper, depth_in1, depth_mark, depth_under_make, depth_under_kw]); (try dsimp only [ktrTop]); (try simp only [Nat.add_assoc, Nat.reduceAdd]); refine Nat.lt_of_le_of_lt (Nat.add_le_add_left ?_ _) (by with_reducible assumption); decide))
  k_with "ktr_units" => (((try simp +zetaDelta only [units_deeper, units_in1, Around.mark_units]); (try dsimp only [ktrTop]); (try simp only [Nat.add_assoc, Nat.reduceAdd]); refine Nat.lt_of_le_of_lt (Nat.add_le_add_left ?_ _) (by with_reducible assumption); decide))
  k_with "kbd_text" => (first | exact Pick.head | (apply Pick.tail; kbd_text))
  k_with "hide" => ((refine hideG ?_; intro G9))
  k_with "has" => (first | with_reducible exact Has.head | (refine Has.tail ?_; k_extra "has"))
  k_with "lt" => (first | with_reducible assumption | (refine Has.lt (by with_reducible assumption) ?_; k_extra "has") | (refine ltT (by with_reducible assumption) (by with_reducible assumption) ?_; k_extra "has"))
  k_with "ltAll" => (first | with_reducible assumption | exact allLt_mem (by with_reducible assumption) | exact subLt (by with_reducible assumption) (fun q hq => by kbo_some))
  k_with "FinE" => (((unfold LCg.FinE); intro D'z h'z tk'z F'z N'z o1'z; (have hR8 := off1_ne o1'z); (try simp only [List.nil_append, List.cons_append] at N'z); (try dsimp only)))
  k_with "lcg_off" => (first | exact True.intro | with_reducible assumption | (refine And.intro ⟨by k_ne, by k_ne, by k_ne⟩ ?_; lcg_off))
  k_with "CompEnd" => ((k_here; k_dflt (refine' compEndP ?q17f ?q17n ?q17p1 ?q17p2 ?q17p3 ?q17o ?q17s ?_; (case q17f => k_asm); (case q17n => k_asm); (case q17p1 => kbd_text); (case q17p2 => kbd_text); (case q17p3 => kbd_text); (case q17o => lcg_off); (case q17s => lcg_src); k_whole)))
  k_with "kbd_text" => (((with_reducible show Split _ _ _); first | exact Split.nil | (apply Split.cons; kbd_text)))
  k_with "exec While BoolOp cons nil" => ((k_here; refine while_mark ?_))
  k_with "exec While Compare cons nil" => ((k_here; refine while_mark ?_))
  k_with "subscriptTail Attribute" => ((k_here; k_dflt (refine kba_turn (value' := PySem.Expr.Name (PySem.Str.ofString "_") ⟨0, 0, 0, 0⟩) (fun _ => rfl) ?_)))
  k_with "ite" => ((k_closed; k_dflt (first | rw [if_pos (by decide)] | rw [if_neg (by decide)])))
  k_with "k_in" => (first | with_reducible assumption | exact Frag.In.keeps (by with_reducible assumption) (Fr.keep (by with_reducible assumption)))
  k_with "execs nil" => ((k_here; refine wpAny_execs_nil ?_))
  k_with "execs cons" => ((k_here; refine wpAny_execs_cons ?_))
  k_with "exec If" => ((k_here; refine wpAny_If ?_))
  trivial
theorem parts_snoc {news : List (Addr × Obj)} {vs : List Value} {ps : List Part} {v : Value} {p : Part} (h : PartsAre news vs ps) (a : PartIs news v p) (b : p.Ok) : PartsAre news (vs ++ [v]) (ps ++ [p]) := by
  induction h with
  | nil => exact .cons a b .nil
  | cons x y _ ih => exact .cons x y ih
/-- the comprehension of _law_parts: the source is drawn from, the rest stands -/
inductive PartsJ (src : Addr) (n : Nat) (base pre : List (Addr × Obj)) (i : Nat) (ys : List Value) (news : List (Addr × Obj)) : Prop
  | mk : ∀ (x y : Int) (tx ty : Tok), ((src, W.listOf #[.int x tx, .int y ty] n) ∈ news) → ((∀ q ∈ base, q ∈ news)) → (0 ≤ x) → (0 ≤ y) → ((∃ ps, PartsAre pre ys ps)) → (ys.length = i) → PartsJ src n base pre i ys news
section
variable {h₀ h : Heap} {L src : Addr} {n i : Nat} {base pre news : List (Addr × Obj)} {ys : List Value} {I C D : Addr} {oI oC oD : Obj}
theorem PartsJ.start (N : News h₀ L h ((I, oI) :: (C, oC) :: (D, oD) :: news)) (J : PartsJ src n base pre i ys news) (off : LCg.Off3 I C D news) (hb : ∀ q ∈ base, q.1 ≠ src) :
    ∃ (x y : Int) (tx ty : Tok), News h₀ L h ((src, W.listOf #[.int x tx, .int y ty] n) :: ((I, oI) :: (C, oC) :: (D, oD) :: base)) ∧ 0 ≤ x ∧ 0 ≤ y ∧ (∀ q ∈ (I, oI) :: (C, oC) :: (D, oD) :: base, q.1 ≠ src) ∧
      LCg.Off3 I C D ((src, W.listOf #[] n) :: base) ∧ (∃ ps, PartsAre pre ys ps) ∧ ys.length = i := by
  k_extra "hide"
  obtain ⟨x, y, tx, ty, e1, e2, e3, e4, e5, e6⟩ := J
  unfold G9
  have o1 := off.mem _ e1
  refine ⟨x, y, tx, ty, newsSub N (List.forall_mem_cons.mpr ⟨.tail _ (.tail _ (.tail _ e1)), List.forall_mem_cons.mpr ⟨.head _, List.forall_mem_cons.mpr ⟨.tail _ (.head _), List.forall_mem_cons.mpr ⟨.tail _ (.tail _ (.head _)), fun q hq => .tail _ (.tail _ (.tail _ (e2 q hq)))⟩⟩⟩⟩), e3, e4, ?_, ⟨o1, LCg.Off3.of fun q hq => off.mem q (e2 q hq)⟩, e5, e6⟩
  exact List.forall_mem_cons.mpr ⟨Ne.symm o1.1, List.forall_mem_cons.mpr ⟨Ne.symm o1.2.1, List.forall_mem_cons.mpr ⟨Ne.symm o1.2.2, hb⟩⟩⟩
theorem PartsJ.stop {m : Str → Option Value} {s : Shared} {tk : Nat} {S : List (Addr × Obj) → Prop} {x y : Int} {tx ty : Tok} {v : Value}
    (F : Fr h₀ L h m) (N : News h₀ L h ((src, W.listOf #[.int x tx, .int y ty] n) :: ((I, oI) :: (C, oC) :: (D, oD) :: base))) (hx : 0 ≤ x) (hy : 0 ≤ y) (off : LCg.Off3 I C D ((src, W.listOf #[] n) :: base)) (hps : ∃ ps, PartsAre pre ys ps) (hl : ys.length = i)
    (hv : ∃ p, PartIs pre v p ∧ p.Ok) (hS : ∀ nw, S nw) :
    LCg.CompEnd h₀ L m s I oI C oC D oD S (fun y news' => PartsJ src n base pre (i + 1) (ys ++ [y]) news') v { s with heap := h, toks := tk } := by
  obtain ⟨ps, hps⟩ := hps
  k_extra "hide"
  obtain ⟨p, a, b⟩ := hv
  unfold G9
  refine LCg.CompEnd.intro F N ((src, W.listOf #[.int x tx, .int y ty] n) :: base) ?_ ⟨off.1, off.2⟩ (hS _) ⟨x, y, tx, ty, .head _, fun q hq => .tail _ hq, hx, hy, ⟨_, parts_snoc hps a b⟩, by rw [List.length_append, hl]; rfl⟩
  intro q hq
  simp only [List.mem_cons] at hq ⊢
  rcases hq with h | h | h | h | h <;> simp only [h, true_or, or_true]
theorem PartsJ.fin (J : PartsJ src n base pre i ys news) (N : News h₀ L h ((D, oD) :: news)) (off : LCg.Off1 D news) :
    ∃ (x y : Int) (tx ty : Tok), News h₀ L h ((src, W.listOf #[.int x tx, .int y ty] n) :: ((D, oD) :: base)) ∧ 0 ≤ x ∧ 0 ≤ y ∧ (∀ q ∈ base, q.1 ≠ D) ∧ D ≠ src ∧ (∃ ps, PartsAre pre ys ps) ∧ ys.length = i := by
  k_extra "hide"
  obtain ⟨x, y, tx, ty, e1, e2, e3, e4, e5, e6⟩ := J
  unfold G9
  have ne := off1_ne off
  exact ⟨x, y, tx, ty, newsSub N (List.forall_mem_cons.mpr ⟨.tail _ e1, List.forall_mem_cons.mpr ⟨.head _, fun q hq => .tail _ (e2 q hq)⟩⟩), e3, e4, fun q hq => ne q (e2 q hq), Ne.symm (ne _ e1), e5, e6⟩
theorem parts_comp {prog : Program} {w : World} {A : Around} {s : Shared} {m : Str → Option Value} {env : Env} {elt : PySem.Expr} {x : Str} {scope : Scope} {cl : List (Str × Addr)} {S : List (Addr × Obj) → Prop} {P : Nat → Value → Prop} {Fin : List Value → List (Addr × Obj) → Prop} {rest : List (Addr × Obj)}
    {x₀ y₀ : Int} {tx ty : Tok} {ns : Nat} (hp : Pick (src, W.listOf #[.int x₀ tx, .int y₀ ty] ns) news base) (_sp : Split rest base pre) (h0 : 0 ≤ x₀) (h1 : 0 ≤ y₀)
    (step : ∀ i ys news v I oI C oC D m₂ h tk (E' : Value → Shared → Prop), i < n → PartsJ src ns base pre i ys news → P i v → LCg.NsObj oC m₂ → m₂ x = some v → Fr h₀ L h m → News h₀ L h ((I, oI) :: (C, oC) :: (D, LCg.lst ys) :: news) → LCg.Off3 I C D news → ((@Ne Nat I C) ∧ (@Ne Nat I D) ∧ (@Ne Nat C D)) →
      wpAny (model prog w) A (eval elt (compEnvC scope cl C env)) (LCg.CompEnd h₀ L m { s with heap := h, toks := tk } I oI C oC D (LCg.lst ys) S (fun y news' => PartsJ src ns base pre (i + 1) (ys ++ [y]) news')) E' { s with heap := h, toks := tk })
    (fin : ∀ ys news, PartsJ src ns base pre n ys news → Fin ys news) : LCg.CompRest prog w A h₀ L m env elt x scope cl s S P Fin n 0 [] news :=
  compRest_inv (PartsJ src ns base pre) ⟨x₀, y₀, tx, ty, hp.mem _ (.head _), fun q hq => hp.mem _ (.tail _ hq), h0, h1, ⟨[], .nil⟩, rfl⟩ step fin
end
section
theorem kw4 : True := by
  k_with "call ref" => (((k_here; (with_reducible show wpAny _ _ (call (Value.ref 693) _) _ _ _); k_dflt (refine' c_take ?q31b ?q31f ?q31x ?q31t ?q31k ?q31n ?q31r ?q31h1 ?q31h2 ?q31h3 ?q31h4 ?q31rd ?q31ru ?_; (case q31b => k_asm); (case q31f => k_asm); (case q31x => k_asm); (case q31t => k_asm); (case q31k => exact rfl); (case q31n => exact pickN (by k_asm) (by kbd_text)); (case q31r => k_all); (case q31h1 => first | assumption | decide | omega); (case q31h2 => first | assumption | decide | omega); (case q31h3 => first | assumption | decide | omega); (case q31h4 => first | assumption | decide | omega); (case q31rd => ktr_room); (case q31ru => ktr_units); k_whole); intro f'z x'z y'z t1'z t2'z t3'z h'z tk'z i1'z i2'z i3'z i4'z F'z N'z); (try dsimp only)))
  k_with "call ref" => ((k_here; (with_reducible show wpAny _ _ (call (Value.ref 700) _) _ _ _); refine while_mark ?_))
  k_with "CompSrc" => ((k_here; k_dflt (refine LCg.CompSrc.range (by rfl) (by k_asm) (by k_asm) (by assumption) (small_one (by decide) (by decide) (by omega) (by omega)) (rangeSize_nat _ _) (by rw [PySem.sizeLine_eq]; omega) ?_; intro g'z)))
  k_with "CompRest" => ((refine while_mark ?_))
  k_with "CompEnd" => ((refine while_mark ?_))
  trivial
theorem c_parts {w : World} {vw : Program} {loose : List Str} {mean : ExcName → Option Value} {mg mb : Str → Option Value} {dp un : Nat} {gd : Option (List Code)} {cn : Str} {cs : Scope} {a : Addr} {ccd : Value} {cl : List (Str × Addr)} {outer : List Env} {A₀ : Around} {base h₀ : Heap} {L : Addr} {m : Str → Option Value} {s : Shared} {Q E : Value → Shared → Prop} {rest : List (Addr × Obj)}
   {src : Addr} {x y : Int} {tx ty : Tok} {n : Nat}
   (B : Below A₀ base outer h₀ := by k_asm) (F : Fr h₀ L s.heap m := by k_asm) (X : (Mine.k0.heap_1 w.params).In h₀ := by k_asm) (T : Top vw loose mean mg mb h₀ := by k_asm) (hk : cs.kind = .function := by exact rfl)
   (N : News h₀ L s.heap ((src, W.listOf #[.int x tx, .int y ty] n) :: rest)) (hrest : ∀ p ∈ rest, p.1 ≠ src)
   (hx : 0 ≤ x) (hy : 0 ≤ y) (hdp : dp + 6 < recursionLimit := by ktr_room) (hu : un + 240 < cLine := by ktr_units)
   (ret : ∀ l vs k tl x' y' t1 t2 h' tk', Fr h₀ L h' m → News h₀ L h' ((src, W.listOf #[.int x' t1, .int y' t2] n) :: (rest ++ tl)) → (l, W.listOf vs.toArray k) ∈ tl →
     (∃ ps, PartsAre tl vs ps) → vs.length ≤ 3 → 0 ≤ x' → 0 ≤ y' → (∀ p ∈ tl, p.1 ≠ src) → (∀ p ∈ tl, ∀ q ∈ rest, q.1 ≠ p.1) → Q (.ref l) { s with heap := h', toks := tk' }) :
   wpAny (model PySem.Challenge.pw_sm0079_01 w) (ktrTop dp un gd cn cs L a ccd cl outer) (call (.ref 705) [.ref src]) Q E s := by
  refine wpAny_call ?_
  k_dflt k_enter
  k_steps
  unfold WhileMark
  k_dflt (refine parts_comp (rest := rest) (by kbd_text) (by kbd_text) (by assumption) (by assumption) ?_ ?_)
  · intro i ys news v I oI C oC D m₂ h tk E' hi hJ hP hC hx F' N' off' ne'
    k_extra "hide"
    obtain ⟨x1, y1, tx1, ty1, N1, p1, p2, p3, p4, p5, p6⟩ := hJ.start N' off' (by k_all)
    unfold G9
    k_steps
    unfold WhileMark
    k_dflt (refine' c_one (hdp := by ktr_room) (hu := by ktr_units) (N := N1) (hrest := p3) (hm := by k_mem) (hx := p1) (hy := p2) (hlen := by simp) (hlen2 := by simp) (ret := fun v' x' y' t1' t2' h' tk' iv' i3' i4' F' N' => ?_))
    (try dsimp only)
    k_steps
    unfold WhileMark
    rename Fr _ _ _ _ => lF
    rename News _ _ _ _ => lN
    exact PartsJ.stop lF lN i3' i4' p4 p5 p6 (menu_part iv' (by k_mem) (by k_mem) (by k_mem) (by k_mem) (by k_mem) (by k_mem)) (fun _ => trivial)
  · intro ys news hJ D h tk F1 N1 o1
    k_extra "hide"
    obtain ⟨x1, y1, tx1, ty1, N2, p1, p2, p3, p4, p5, p6⟩ := hJ.fin N1 o1
    unfold G9
    clear N1
    k_steps
    all_goals (try k_data)
    refine' ret _ ys _ ((D, LCg.lst ys) :: _) _ _ _ _ _ _ (by assumption) (splitN (by assumption) (by kbd_text) (by kbd_text)) (.head _) (p5.elim fun ps h => ⟨ps, h.mono fun q hq => .tail _ hq⟩) (by omega) p1 p2 ?_ ?_
    · k_all
    · refine' List.forall_mem_cons.mpr ⟨fun q hq => p3 q (by k_mem), ?_⟩
      repeat' (first | exact List.forall_mem_nil _ | (refine' List.forall_mem_cons.mpr ⟨by (try dsimp only); k_all, ?_⟩))
end
end
section
section
variable {prog : Program} {w : World} {A : Around} {E : Value → Shared → Prop} {s : Shared} {Q : Value → Shared → Prop} {h₀ : Heap} {L : Addr} {news : List (Addr × Obj)}
theorem kw5 : True := by
  k_with_none
  k_with "k_all" => (first | with_reducible assumption | exact List.forall_mem_nil _ | exact allNe (by with_reducible assumption) | (refine' List.forall_mem_cons.mpr ⟨?q1a, ?q1b⟩; (case q1a => k_ne); (case q1b => k_all)) | exact subNe (by with_reducible assumption) (fun q hq => by kbo_some) | exact subNeT (by with_reducible assumption) (by with_reducible assumption) (fun q hq => by kbo_some) | exact subNeQ (by with_reducible assumption) (fun q hq => by kbo_some) | assumption)
  k_with "kbo_some" => (first | with_reducible assumption | exact List.Mem.head _ | (refine' List.mem_cons_of_mem _ ?_; kbo_some) | ((with_reducible refine List.mem_append.mpr (Or.inr ?_)); kbo_some))
  k_with "k_mem" => (first | kbo_some | assumption)
  k_with "k_upd" => (first | (refine' Upd.head ?q4a; (case q4a => k_all)) | (refine' Upd.tail ?q4a ?q4b; (case q4a => k_ne); (case q4b => k_upd)))
  k_with "k_updF" => (first | (refine' UpdF.head ?q5a; (case q5a => k_all)) | (refine' UpdF.tail ?q5a ?q5b; (case q5a => k_ne); (case q5b => k_updF)))
  k_with "k_ne" => (((try dsimp only); first | with_reducible assumption | (refine Ne.symm ?_; with_reducible assumption) | (refine Nat.ne_of_gt ?_; with_reducible assumption) | (refine Nat.ne_of_lt ?_; with_reducible assumption) | (refine neR (by with_reducible assumption) ?_; k_extra "has") | (refine neL (by with_reducible assumption) ?_; k_extra "has") | (refine neQ (by with_reducible assumption) ?_; k_extra "has") | (refine neP (by with_reducible assumption) ?_; k_extra "has") | (refine neT (by with_reducible assumption) (by with_reducible assumption) ?_; k_extra "has") | (refine neU (by with_reducible assumption) (by with_reducible assumption) ?_; k_extra "has") | exact Nat.ne_of_lt (Nat.lt_succ_self _) | exact Nat.ne_of_gt (Nat.lt_succ_self _) | omega))
  k_with "k_enter" => (first
  | (refine' code_def ?q7k1 ?q7k2 ?q7k3 ?q7k4 ?q7k5 ?q7kA ?q7kF ?q7kK ?q7k6 ?q7k7 ?q7k8 ?q7k9 ?q7kB ?_ ?q7c2 ?q7c3 ?q7c4 ?q7c5; (case q7kA => exact rfl); (case q7kF => exact rfl); (case q7kK => first | exact rfl | assumption); (case q7k1 => k_asm); (case q7k2 => k_asm); (case q7k3 => k_asm); (case q7k4 => k_asm); (case q7k5 => k_asm); (case q7k6 => k_is); (case q7k7 => k_is); (case q7k8 => ktr_room); (case q7k9 => first | exact BindsTo.of_eq rfl | exact binds_K (by k_in) rfl (by k_is) rfl rfl rfl); (case q7c5 => decide); (case q7kB => exact locs rfl); (case q7c2 => exact rfl); (case q7c3 => exact rfl); (case q7c4 => exact rfl); k_whole; intro g'z L'z h'z FG'z F'z N'z B'z X'z T'z; (try dsimp only); (try k_fold); (try (refine letA ?_; intro A9)))
  | (refine' code_defC ?q7k1 ?q7k2 ?q7k3 ?q7k4 ?q7k5 ?q7kA ?q7kF ?q7kK ?q7k6 ?q7k7 ?q7k8 ?q7k9 ?q7kB ?q7kD ?_ ?q7c2 ?q7c3 ?q7c4; (case q7kA => exact rfl); (case q7kF => exact rfl); (case q7kK => first | exact rfl | assumption); (case q7k1 => k_asm); (case q7k2 => k_asm); (case q7k3 => k_asm); (case q7k4 => k_asm); (case q7k5 => k_asm); (case q7k6 => k_is); (case q7k7 => k_is); (case q7k8 => ktr_room); (case q7k9 => first | exact BindsTo.of_eq rfl | exact binds_K (by k_in) rfl (by k_is) rfl rfl rfl); (case q7kB => exact rfl); (case q7kD => decide +kernel); (case q7c2 => exact rfl); (case q7c3 => exact rfl); (case q7c4 => exact rfl); k_whole; intro g'z L'z h'z tk'z cells'z FG'z F'z N'z Y'z B'z X'z T'z l1; (try k_lt l1); (try (have hR6 := restNe l1 (Nat.le_add_right _ 1); have hR5 := restNe l1 (Nat.le_add_right _ (1 + 1)))); (first   | (have hY := CellsAre.one Y'z; obtain ⟨o'z, hE'z, d1'z⟩ := hY; subst hE'z; clear Y'z; (first | (replace d1'z : o'z.data = .cell none := d1'z) | (replace d1'z : o'z.data = .cell (some _) := d1'z) | skip))   | (have hY := CellsAre.two Y'z; obtain ⟨o'z, o2'z, hE'z, d1'z, d2'z⟩ := hY; subst hE'z; clear Y'z; (first | (replace d1'z : o'z.data = .cell none := d1'z) | (replace d1'z : o'z.data = .cell (some _) := d1'z) | skip); (first | (replace d2'z : o2'z.data = .cell none := d2'z) | (replace d2'z : o2'z.data = .cell (some _) := d2'z) | skip))); (try simp only [List.cons_append, List.nil_append] at N'z); (try dsimp only); (try k_fold); (try (refine letA ?_; intro A9))))
  k_with "ktr_room" => (((try simp +zetaDelta only [depth_deeper, depth_in1, depth_mark, depth_under_make, depth_under_kw]); (try dsimp only [ktrTop]); (try simp only [Nat.add_assoc, Nat.reduceAdd]); refine Nat.lt_of_le_of_lt (Nat.add_le_add_left ?_ _) (by with_reducible assumption); decide))
  k_with "ktr_units" => (((try simp +zetaDelta only [units_deeper, units_in1, Around.mark_units]); (try dsimp only [ktrTop]); (try simp only [Nat.add_assoc, Nat.reduceAdd]); refine Nat.lt_of_le_of_lt (Nat.add_le_add_left ?_ _) (by with_reducible assumption); decide))
  k_with "kbd_text" => (first | exact Pick.head | (apply Pick.tail; kbd_text))
  k_with "hide" => ((refine hideG ?_; intro G9))
  k_with "has" => (first | with_reducible exact Has.head | (refine Has.tail ?_; k_extra "has"))
  k_with "lt" => (first | with_reducible assumption | (refine Has.lt (by with_reducible assumption) ?_; k_extra "has") | (refine ltT (by with_reducible assumption) (by with_reducible assumption) ?_; k_extra "has"))
  k_with "ltAll" => (first | with_reducible assumption | exact allLt_mem (by with_reducible assumption) | exact subLt (by with_reducible assumption) (fun q hq => by kbo_some))
  k_with "FinE" => (((unfold LCg.FinE); intro D'z h'z tk'z F'z N'z o1'z; (have hR8 := off1_ne o1'z); (try simp only [List.nil_append, List.cons_append] at N'z); (try dsimp only)))
  k_with "lcg_off" => (first | exact True.intro | with_reducible assumption | (refine And.intro ⟨by k_ne, by k_ne, by k_ne⟩ ?_; lcg_off))
  k_with "CompEnd" => ((k_here; k_dflt (refine' compEndP ?q17f ?q17n ?q17p1 ?q17p2 ?q17p3 ?q17o ?q17s ?_; (case q17f => k_asm); (case q17n => k_asm); (case q17p1 => kbd_text); (case q17p2 => kbd_text); (case q17p3 => kbd_text); (case q17o => lcg_off); (case q17s => lcg_src); k_whole)))
  k_with "kbd_text" => (((with_reducible show Split _ _ _); first | exact Split.nil | (apply Split.cons; kbd_text)))
  k_with "exec While BoolOp cons nil" => ((k_here; refine while_mark ?_))
  k_with "exec While Compare cons nil" => ((k_here; refine while_mark ?_))
  k_with "subscriptTail Attribute" => ((k_here; k_dflt (refine kba_turn (value' := PySem.Expr.Name (PySem.Str.ofString "_") ⟨0, 0, 0, 0⟩) (fun _ => rfl) ?_)))
  k_with "ite" => ((k_closed; k_dflt (first | rw [if_pos (by decide)] | rw [if_neg (by decide)])))
  k_with "k_in" => (first | with_reducible assumption | exact Frag.In.keeps (by with_reducible assumption) (Fr.keep (by with_reducible assumption)))
  k_with "execs nil" => ((k_here; refine wpAny_execs_nil ?_))
  k_with "execs cons" => ((k_here; refine wpAny_execs_cons ?_))
  k_with "exec If" => ((k_here; refine wpAny_If ?_))
  trivial
theorem get_wr1 {mark sign x : Str} {ts t1 t2 t3 t : Tok} (ok : (Part.s x).Ok) :
    ∃ tok, (valueAt (strPairs [(Value.str (Str.ofString "sign") t1, Value.str sign ts), (Value.str (Str.ofString "left") t2, Value.str (Str.ofString "&e;") t3)]) x).getD (.str x t) = .str (wr1 mark sign (.s x)) tok := by
  rcases ok with rfl | rfl | rfl | rfl | rfl
  · exact ⟨t, by rw [wr1_x]; rfl⟩
  · exact ⟨t, by rw [wr1_yz]; rfl⟩
  · exact ⟨t, by rw [wr1_sp]; rfl⟩
  · exact ⟨ts, by rw [wr1_sign]; rfl⟩
  · exact ⟨t3, by rw [wr1_left]; rfl⟩
theorem table_get {d : Addr} {o : Obj} {mark sign x : Str} {ts t1 t2 t3 t t' : Tok} (N : News h₀ L s.heap news) (hp : (d, o) ∈ news)
    (hd : o.IsDictOf (PySem.strKind prog w) (strPairs [(Value.str (Str.ofString "sign") t1, Value.str sign ts), (Value.str (Str.ofString "left") t2, Value.str (Str.ofString "&e;") t3)])) (lo : (d == sysModules) = false) (ok : (Part.s x).Ok)
    (h : ∀ u k, Q (.str (wr1 mark sign (.s x)) u) { s with toks := k }) : wpAny (model prog w) A (call (.builtin "dict.get") [.ref d, .str x t, .str x t']) Q E s := by
  refine kdg_get2 N hp hd lo (strKind_is _ _ _ _) _ rfl ?_
  obtain ⟨u, e⟩ := get_wr1 (mark := mark) (ts := ts) (t1 := t1) (t2 := t2) (t3 := t3) (t := t') ok
  rw [e]
  exact h _ _
end
theorem ref_len {n : Str} (ok : (Part.r n).Ok) : n.length ≤ 4 := by rcases ok with rfl | rfl | rfl | rfl <;> decide
section
theorem kw6 : True := by
  k_with "CompSrc" => ((k_here; k_dflt (refine LCg.CompSrc.ledger (by rfl) (by k_asm) (by k_asm) (by k_mem) (by (rw [List.size_toArray, PySem.sizeLine_eq]; omega)) ?_; intro g'z)))
  k_with "call builtin:dict.get" => ((k_here; k_dflt (refine table_get (mark := mark) (by k_asm) (by k_mem) (by with_reducible assumption) (by with_reducible assumption) (by with_reducible assumption) (fun t'z k'z => ?_)); (try dsimp only)))
  trivial
theorem c_written {w : World} {vw : Program} {loose : List Str} {mean : ExcName → Option Value} {mg mb : Str → Option Value} {dp un : Nat} {gd : Option (List Code)} {cn : Str} {cs : Scope} {a : Addr} {ccd : Value} {cl : List (Str × Addr)} {outer : List Env} {A₀ : Around} {base h₀ : Heap} {L : Addr} {m : Str → Option Value} {s : Shared} {Q E : Value → Shared → Prop} {rest : List (Addr × Obj)}
   {l : Addr} {vs : List Value} {ps : List Part} {nl : Nat} {mark sign : Str} {tm ts : Tok}
   (B : Below A₀ base outer h₀ := by k_asm) (F : Fr h₀ L s.heap m := by k_asm) (X : (Mine.k0.heap_1 w.params).In h₀ := by k_asm) (T : Top vw loose mean mg mb h₀ := by k_asm) (hk : cs.kind = .function := by exact rfl)
   (N : News h₀ L s.heap rest) (hm : (l, W.listOf vs.toArray nl) ∈ rest) (hp : PartsAre rest vs ps) (hlen : vs.length ≤ 3) (hmk : mark.length ≤ 5) (hsg : sign.length ≤ 5) (hdp : dp + 2 < recursionLimit := by ktr_room) (hu : un + 80 < cLine := by ktr_units)
   (ret : ∀ t h' tk', Fr h₀ L h' m → News h₀ L h' rest → Q (.str (written mark sign ps) t) { s with heap := h', toks := tk' }) :
   wpAny (model PySem.Challenge.pw_sm0079_01 w) (ktrTop dp un gd cn cs L a ccd cl outer) (call (.ref 710) [.ref l, .str mark tm, .str sign ts]) Q E s := by
  refine wpAny_call ?_
  k_dflt k_enter
  k_steps
  refine compRest_keep (fun i ys => StrsAre ys ((ps.take i).map (wr1 mark sign))) .nil ?_ ?_
  · intro i ys v I oI C oC D m₂ h tk E' hi hJ hP hC hx F' N' off' ne'
    k_extra "hide"
    obtain ⟨p, hpi, hpv, hok⟩ := hp.get hP
    unfold G9
    rw [take_map hpi]
    cases p with
    | s x =>
      obtain ⟨t, rfl⟩ := hpv
      k_steps
      exact strsAre_snoc hJ
    | r n =>
      k_extra "hide"
      obtain ⟨a, t, rfl, hmt⟩ := hpv
      unfold G9
      have hn := ref_len hok
      k_steps
      exact strsAre_snoc hJ
  · intro ys hJ
    have hJ' : StrsAre ys (ps.map (wr1 mark sign)) := by
      have e : ps.take vs.toArray.size = ps := by rw [List.size_toArray, hp.length]; exact List.take_length
      rw [e] at hJ; exact hJ
    have hok := hp.sum_len hmk hsg
    k_steps
    refine join_list (News.isList (by k_asm) (by k_mem)) hJ' (by have e0 : (Str.ofString "").length = 0 := by decide
                                                                 rw [e0, Nat.mul_zero]; omega) ?_
    intro t' k'
    k_steps
    exact ret _ _ _ (by assumption) (newsDrop (by assumption) (by kbd_text))
end
end
section
section
theorem kw7 : True := by
  k_with_none
  k_with "k_all" => (first | with_reducible assumption | exact List.forall_mem_nil _ | exact allNe (by with_reducible assumption) | (refine' List.forall_mem_cons.mpr ⟨?q1a, ?q1b⟩; (case q1a => k_ne); (case q1b => k_all)) | exact subNe (by with_reducible assumption) (fun q hq => by kbo_some) | exact subNeT (by with_reducible assumption) (by with_reducible assumption) (fun q hq => by kbo_some) | exact subNeQ (by with_reducible assumption) (fun q hq => by kbo_some) | assumption)
  k_with "kbo_some" => (first | with_reducible assumption | exact List.Mem.head _ | (refine' List.mem_cons_of_mem _ ?_; kbo_some) | ((with_reducible refine List.mem_append.mpr (Or.inr ?_)); kbo_some))
  k_with "k_mem" => (first | kbo_some | assumption)
  k_with "k_upd" => (first | (refine' Upd.head ?q4a; (case q4a => k_all)) | (refine' Upd.tail ?q4a ?q4b; (case q4a => k_ne); (case q4b => k_upd)))
  k_with "k_updF" => (first | (refine' UpdF.head ?q5a; (case q5a => k_all)) | (refine' UpdF.tail ?q5a ?q5b; (case q5a => k_ne); (case q5b => k_updF)))
  k_with "k_ne" => (((try dsimp only); first | with_reducible assumption | (refine Ne.symm ?_; with_reducible assumption) | (refine Nat.ne_of_gt ?_; with_reducible assumption) | (refine Nat.ne_of_lt ?_; with_reducible assumption) | (refine neR (by with_reducible assumption) ?_; k_extra "has") | (refine neL (by with_reducible assumption) ?_; k_extra "has") | (refine neQ (by with_reducible assumption) ?_; k_extra "has") | (refine neP (by with_reducible assumption) ?_; k_extra "has") | (refine neT (by with_reducible assumption) (by with_reducible assumption) ?_; k_extra "has") | (refine neU (by with_reducible assumption) (by with_reducible assumption) ?_; k_extra "has") | exact Nat.ne_of_lt (Nat.lt_succ_self _) | exact Nat.ne_of_gt (Nat.lt_succ_self _) | omega))
  k_with "k_enter" => (first
  | (refine' code_def ?q7k1 ?q7k2 ?q7k3 ?q7k4 ?q7k5 ?q7kA ?q7kF ?q7kK ?q7k6 ?q7k7 ?q7k8 ?q7k9 ?q7kB ?_ ?q7c2 ?q7c3 ?q7c4 ?q7c5; (case q7kA => exact rfl); (case q7kF => exact rfl); (case q7kK => first | exact rfl | assumption); (case q7k1 => k_asm); (case q7k2 => k_asm); (case q7k3 => k_asm); (case q7k4 => k_asm); (case q7k5 => k_asm); (case q7k6 => k_is); (case q7k7 => k_is); (case q7k8 => ktr_room); (case q7k9 => first | exact BindsTo.of_eq rfl | exact binds_K (by k_in) rfl (by k_is) rfl rfl rfl); (case q7c5 => decide); (case q7kB => exact locs rfl); (case q7c2 => exact rfl); (case q7c3 => exact rfl); (case q7c4 => exact rfl); k_whole; intro g'z L'z h'z FG'z F'z N'z B'z X'z T'z; (try dsimp only); (try k_fold); (try (refine letA ?_; intro A9)))
  | (refine' code_defC ?q7k1 ?q7k2 ?q7k3 ?q7k4 ?q7k5 ?q7kA ?q7kF ?q7kK ?q7k6 ?q7k7 ?q7k8 ?q7k9 ?q7kB ?q7kD ?_ ?q7c2 ?q7c3 ?q7c4; (case q7kA => exact rfl); (case q7kF => exact rfl); (case q7kK => first | exact rfl | assumption); (case q7k1 => k_asm); (case q7k2 => k_asm); (case q7k3 => k_asm); (case q7k4 => k_asm); (case q7k5 => k_asm); (case q7k6 => k_is); (case q7k7 => k_is); (case q7k8 => ktr_room); (case q7k9 => first | exact BindsTo.of_eq rfl | exact binds_K (by k_in) rfl (by k_is) rfl rfl rfl); (case q7kB => exact rfl); (case q7kD => decide +kernel); (case q7c2 => exact rfl); (case q7c3 => exact rfl); (case q7c4 => exact rfl); k_whole; intro g'z L'z h'z tk'z cells'z FG'z F'z N'z Y'z B'z X'z T'z l1; (try k_lt l1); (try (have hR6 := restNe l1 (Nat.le_add_right _ 1); have hR5 := restNe l1 (Nat.le_add_right _ (1 + 1)))); (first   | (have hY := CellsAre.one Y'z; obtain ⟨o'z, hE'z, d1'z⟩ := hY; subst hE'z; clear Y'z; (first | (replace d1'z : o'z.data = .cell none := d1'z) | (replace d1'z : o'z.data = .cell (some _) := d1'z) | skip))   | (have hY := CellsAre.two Y'z; obtain ⟨o'z, o2'z, hE'z, d1'z, d2'z⟩ := hY; subst hE'z; clear Y'z; (first | (replace d1'z : o'z.data = .cell none := d1'z) | (replace d1'z : o'z.data = .cell (some _) := d1'z) | skip); (first | (replace d2'z : o2'z.data = .cell none := d2'z) | (replace d2'z : o2'z.data = .cell (some _) := d2'z) | skip))); (try simp only [List.cons_append, List.nil_append] at N'z); (try dsimp only); (try k_fold); (try (refine letA ?_; intro A9))))
  k_with "ktr_room" => (((try simp +zetaDelta only [depth_deeper, depth_in1, depth_mark, depth_under_make, depth_under_kw]); (try dsimp only [ktrTop]); (try simp only [Nat.add_assoc, Nat.reduceAdd]); refine Nat.lt_of_le_of_lt (Nat.add_le_add_left ?_ _) (by with_reducible assumption); decide))
  k_with "ktr_units" => (((try simp +zetaDelta only [units_deeper, units_in1, Around.mark_units]); (try dsimp only [ktrTop]); (try simp only [Nat.add_assoc, Nat.reduceAdd]); refine Nat.lt_of_le_of_lt (Nat.add_le_add_left ?_ _) (by with_reducible assumption); decide))
  k_with "kbd_text" => (first | exact Pick.head | (apply Pick.tail; kbd_text))
  k_with "hide" => ((refine hideG ?_; intro G9))
  k_with "has" => (first | with_reducible exact Has.head | (refine Has.tail ?_; k_extra "has"))
  k_with "lt" => (first | with_reducible assumption | (refine Has.lt (by with_reducible assumption) ?_; k_extra "has") | (refine ltT (by with_reducible assumption) (by with_reducible assumption) ?_; k_extra "has"))
  k_with "ltAll" => (first | with_reducible assumption | exact allLt_mem (by with_reducible assumption) | exact subLt (by with_reducible assumption) (fun q hq => by kbo_some))
  k_with "FinE" => (((unfold LCg.FinE); intro D'z h'z tk'z F'z N'z o1'z; (have hR8 := off1_ne o1'z); (try simp only [List.nil_append, List.cons_append] at N'z); (try dsimp only)))
  k_with "lcg_off" => (first | exact True.intro | with_reducible assumption | (refine And.intro ⟨by k_ne, by k_ne, by k_ne⟩ ?_; lcg_off))
  k_with "CompEnd" => ((k_here; k_dflt (refine' compEndP ?q17f ?q17n ?q17p1 ?q17p2 ?q17p3 ?q17o ?q17s ?_; (case q17f => k_asm); (case q17n => k_asm); (case q17p1 => kbd_text); (case q17p2 => kbd_text); (case q17p3 => kbd_text); (case q17o => lcg_off); (case q17s => lcg_src); k_whole)))
  k_with "kbd_text" => (((with_reducible show Split _ _ _); first | exact Split.nil | (apply Split.cons; kbd_text)))
  k_with "exec While BoolOp cons nil" => ((k_here; refine while_mark ?_))
  k_with "exec While Compare cons nil" => ((k_here; refine while_mark ?_))
  k_with "subscriptTail Attribute" => ((k_here; k_dflt (refine kba_turn (value' := PySem.Expr.Name (PySem.Str.ofString "_") ⟨0, 0, 0, 0⟩) (fun _ => rfl) ?_)))
  k_with "ite" => ((k_closed; k_dflt (first | rw [if_pos (by decide)] | rw [if_neg (by decide)])))
  k_with "k_in" => (first | with_reducible assumption | exact Frag.In.keeps (by with_reducible assumption) (Fr.keep (by with_reducible assumption)))
  k_with "execs nil" => ((k_here; refine wpAny_execs_nil ?_))
  k_with "execs cons" => ((k_here; refine wpAny_execs_cons ?_))
  k_with "exec If" => ((k_here; refine wpAny_If ?_))
  k_with "subscriptTail" => ((k_here; (with_reducible show wpAny _ _ (subscriptTail _ _ (Value.str _ _) (Value.int _ _)) _ _ _); k_dflt (refine' my_char ?q38z0 ?q38z1 ?q38z2 ?_; (case q38z0 => first | assumption | omega); (case q38z1 => first | assumption | omega); (case q38z2 => first | assumption | omega); k_whole); intro c'z t'z k'z hc'z))
  k_with "compareOp NotIn str str" => ((k_here; refine my_notmark ?_))
  trivial
theorem c_run {w : World} {vw : Program} {loose : List Str} {mean : ExcName → Option Value} {mg mb : Str → Option Value} {dp un : Nat} {gd : Option (List Code)} {cn : Str} {cs : Scope} {a : Addr} {ccd : Value} {cl : List (Str × Addr)} {outer : List Env} {A₀ : Around} {base h₀ : Heap} {L : Addr} {m : Str → Option Value} {s : Shared} {Q E : Value → Shared → Prop} {rest : List (Addr × Obj)}
   {p pd : Addr} {x : Str} {tx k1 k2 k3 ti tm : Tok} {h1 h2 h3 : Int} {nm : Value} {i : Int} 
   (B : Below A₀ base outer h₀ := by k_asm) (F : Fr h₀ L s.heap m := by k_asm) (X : (Mine.k0.heap_1 w.params).In h₀ := by k_asm) (T : Top vw loose mean mg mb h₀ := by k_asm) (hk : cs.kind = .function := by exact rfl)
   (N : News h₀ L s.heap ((p, W.instObj 297 pd) :: (pd, W.dictOf [⟨h1, .str (Str.ofString "text") k1, .str x tx⟩, ⟨h2, .str (Str.ofString "name") k2, nm⟩, ⟨h3, .str (Str.ofString "at") k3, .int i ti⟩] 3) :: rest))
   (hpd : p ≠ pd) (hr1 : ∀ q ∈ rest, q.1 ≠ p) (hr2 : ∀ q ∈ rest, q.1 ≠ pd) (hi : 0 ≤ i) (hi2 : i ≤ x.length) (hx : x.length ≤ 1000) (hdp : dp + 2 < recursionLimit := by ktr_room) (hu : un + 80 < cLine := by ktr_units)
   (ret : ∀ j tj t h' tk', i ≤ j → j ≤ x.length → Plain x i j → Stops x j → Fr h₀ L h' m →
     News h₀ L h' ((p, W.instObj 297 pd) :: (pd, W.dictOf [⟨h1, .str (Str.ofString "text") k1, .str x tx⟩, ⟨h2, .str (Str.ofString "name") k2, nm⟩, ⟨h3, .str (Str.ofString "at") k3, .int j tj⟩] 3) :: rest) → Q (.str (cut x i j) t) { s with heap := h', toks := tk' }) :
   wpAny (model PySem.Challenge.pw_sm0079_01 w) (ktrTop dp un gd cn cs L a ccd cl outer) (call (.ref 287) [.ref p, .str (Str.ofString "&%") tm]) Q E s := by
  refine wpAny_call ?_
  k_dflt k_enter
  k_steps
  unfold WhileMark
  refine While_inv (fun n m₁ news₁ => m₁ = _ ∧ ∃ (j : Int) (tj : Tok), n = (x.length - j).toNat ∧ i ≤ j ∧ j ≤ x.length ∧ Plain x i j ∧
      news₁ = (p, W.instObj 297 pd) :: (pd, W.dictOf [⟨h1, .str (Str.ofString "text") k1, .str x tx⟩, ⟨h2, .str (Str.ofString "name") k2, nm⟩, ⟨h3, .str (Str.ofString "at") k3, .int j tj⟩] 3) :: rest) (by k_asm) (by k_asm) ⟨rfl, i, ti, rfl, Int.le_refl _, hi2, Plain.nil, rfl⟩ ?_
  · intro n m₁ news₁ h₁ tk₁ F₁ N₁ pz0
    k_extra "hide"
    obtain ⟨rfl, j, tj, rfl, hj1, hj2, hn, rfl⟩ := pz0
    unfold G9
    k_steps
    all_goals (try k_data)
    · rw [slice_cut hi hj1 hj2]
      exact ret j tj _ _ _ hj1 hj2 hn (.inr ⟨_, by assumption, by first | assumption | omega⟩) (by assumption) (by assumption)
    · exact WhileStep.intro (by assumption) (by assumption) (by omega) ⟨rfl, j + 1, _, rfl, by omega, by omega, hn.step (by omega) (by assumption) (by assumption), rfl⟩
    · rw [slice_cut hi hj1 hj2]
      exact ret j tj _ _ _ hj1 hj2 hn (.inl (by omega)) (by assumption) (by assumption)
end
end
section
theorem kw8 : True := by
  k_with_none
  k_with "k_all" => (first | with_reducible assumption | exact List.forall_mem_nil _ | exact allNe (by with_reducible assumption) | (refine' List.forall_mem_cons.mpr ⟨?q1a, ?q1b⟩; (case q1a => k_ne); (case q1b => k_all)) | exact subNe (by with_reducible assumption) (fun q hq => by kbo_some) | exact subNeT (by with_reducible assumption) (by with_reducible assumption) (fun q hq => by kbo_some) | exact subNeQ (by with_reducible assumption) (fun q hq => by kbo_some) | assumption)
  k_with "kbo_some" => (first | with_reducible assumption | exact List.Mem.head _ | (refine' List.mem_cons_of_mem _ ?_; kbo_some) | ((with_reducible refine List.mem_append.mpr (Or.inr ?_)); kbo_some))
  k_with "k_mem" => (first | kbo_some | assumption)
  k_with "k_upd" => (first | (refine' Upd.head ?q4a; (case q4a => k_all)) | (refine' Upd.tail ?q4a ?q4b; (case q4a => k_ne); (case q4b => k_upd)))
  k_with "k_updF" => (first | (refine' UpdF.head ?q5a; (case q5a => k_all)) | (refine' UpdF.tail ?q5a ?q5b; (case q5a => k_ne); (case q5b => k_updF)))
  k_with "k_ne" => (((try dsimp only); first | with_reducible assumption | (refine Ne.symm ?_; with_reducible assumption) | (refine Nat.ne_of_gt ?_; with_reducible assumption) | (refine Nat.ne_of_lt ?_; with_reducible assumption) | (refine neR (by with_reducible assumption) ?_; k_extra "has") | (refine neL (by with_reducible assumption) ?_; k_extra "has") | (refine neQ (by with_reducible assumption) ?_; k_extra "has") | (refine neP (by with_reducible assumption) ?_; k_extra "has") | (refine neT (by with_reducible assumption) (by with_reducible assumption) ?_; k_extra "has") | (refine neU (by with_reducible assumption) (by with_reducible assumption) ?_; k_extra "has") | exact Nat.ne_of_lt (Nat.lt_succ_self _) | exact Nat.ne_of_gt (Nat.lt_succ_self _) | omega))
  k_with "k_enter" => (first
  | (refine' code_def ?q7k1 ?q7k2 ?q7k3 ?q7k4 ?q7k5 ?q7kA ?q7kF ?q7kK ?q7k6 ?q7k7 ?q7k8 ?q7k9 ?q7kB ?_ ?q7c2 ?q7c3 ?q7c4 ?q7c5; (case q7kA => exact rfl); (case q7kF => exact rfl); (case q7kK => first | exact rfl | assumption); (case q7k1 => k_asm); (case q7k2 => k_asm); (case q7k3 => k_asm); (case q7k4 => k_asm); (case q7k5 => k_asm); (case q7k6 => k_is); (case q7k7 => k_is); (case q7k8 => ktr_room); (case q7k9 => first | exact BindsTo.of_eq rfl | exact binds_K (by k_in) rfl (by k_is) rfl rfl rfl); (case q7c5 => decide); (case q7kB => exact locs rfl); (case q7c2 => exact rfl); (case q7c3 => exact rfl); (case q7c4 => exact rfl); k_whole; intro g'z L'z h'z FG'z F'z N'z B'z X'z T'z; (try dsimp only); (try k_fold); (try (refine letA ?_; intro A9)))
  | (refine' code_defC ?q7k1 ?q7k2 ?q7k3 ?q7k4 ?q7k5 ?q7kA ?q7kF ?q7kK ?q7k6 ?q7k7 ?q7k8 ?q7k9 ?q7kB ?q7kD ?_ ?q7c2 ?q7c3 ?q7c4; (case q7kA => exact rfl); (case q7kF => exact rfl); (case q7kK => first | exact rfl | assumption); (case q7k1 => k_asm); (case q7k2 => k_asm); (case q7k3 => k_asm); (case q7k4 => k_asm); (case q7k5 => k_asm); (case q7k6 => k_is); (case q7k7 => k_is); (case q7k8 => ktr_room); (case q7k9 => first | exact BindsTo.of_eq rfl | exact binds_K (by k_in) rfl (by k_is) rfl rfl rfl); (case q7kB => exact rfl); (case q7kD => decide +kernel); (case q7c2 => exact rfl); (case q7c3 => exact rfl); (case q7c4 => exact rfl); k_whole; intro g'z L'z h'z tk'z cells'z FG'z F'z N'z Y'z B'z X'z T'z l1; (try k_lt l1); (try (have hR6 := restNe l1 (Nat.le_add_right _ 1); have hR5 := restNe l1 (Nat.le_add_right _ (1 + 1)))); (first   | (have hY := CellsAre.one Y'z; obtain ⟨o'z, hE'z, d1'z⟩ := hY; subst hE'z; clear Y'z; (first | (replace d1'z : o'z.data = .cell none := d1'z) | (replace d1'z : o'z.data = .cell (some _) := d1'z) | skip))   | (have hY := CellsAre.two Y'z; obtain ⟨o'z, o2'z, hE'z, d1'z, d2'z⟩ := hY; subst hE'z; clear Y'z; (first | (replace d1'z : o'z.data = .cell none := d1'z) | (replace d1'z : o'z.data = .cell (some _) := d1'z) | skip); (first | (replace d2'z : o2'z.data = .cell none := d2'z) | (replace d2'z : o2'z.data = .cell (some _) := d2'z) | skip))); (try simp only [List.cons_append, List.nil_append] at N'z); (try dsimp only); (try k_fold); (try (refine letA ?_; intro A9))))
  k_with "ktr_room" => (((try simp +zetaDelta only [depth_deeper, depth_in1, depth_mark, depth_under_make, depth_under_kw]); (try dsimp only [ktrTop]); (try simp only [Nat.add_assoc, Nat.reduceAdd]); refine Nat.lt_of_le_of_lt (Nat.add_le_add_left ?_ _) (by with_reducible assumption); decide))
  k_with "ktr_units" => (((try simp +zetaDelta only [units_deeper, units_in1, Around.mark_units]); (try dsimp only [ktrTop]); (try simp only [Nat.add_assoc, Nat.reduceAdd]); refine Nat.lt_of_le_of_lt (Nat.add_le_add_left ?_ _) (by with_reducible assumption); decide))
  k_with "kbd_text" => (first | exact Pick.head | (apply Pick.tail; kbd_text))
  k_with "hide" => ((refine hideG ?_; intro G9))
  k_with "has" => (first | with_reducible exact Has.head | (refine Has.tail ?_; k_extra "has"))
  k_with "lt" => (first | with_reducible assumption | (refine Has.lt (by with_reducible assumption) ?_; k_extra "has") | (refine ltT (by with_reducible assumption) (by with_reducible assumption) ?_; k_extra "has"))
  k_with "ltAll" => (first | with_reducible assumption | exact allLt_mem (by with_reducible assumption) | exact subLt (by with_reducible assumption) (fun q hq => by kbo_some))
  k_with "FinE" => (((unfold LCg.FinE); intro D'z h'z tk'z F'z N'z o1'z; (have hR8 := off1_ne o1'z); (try simp only [List.nil_append, List.cons_append] at N'z); (try dsimp only)))
  k_with "lcg_off" => (first | exact True.intro | with_reducible assumption | (refine And.intro ⟨by k_ne, by k_ne, by k_ne⟩ ?_; lcg_off))
  k_with "CompEnd" => ((k_here; k_dflt (refine' compEndP ?q17f ?q17n ?q17p1 ?q17p2 ?q17p3 ?q17o ?q17s ?_; (case q17f => k_asm); (case q17n => k_asm); (case q17p1 => kbd_text); (case q17p2 => kbd_text); (case q17p3 => kbd_text); (case q17o => lcg_off); (case q17s => lcg_src); k_whole)))
  k_with "kbd_text" => (((with_reducible show Split _ _ _); first | exact Split.nil | (apply Split.cons; kbd_text)))
  k_with "exec While BoolOp cons nil" => ((k_here; refine while_mark ?_))
  k_with "exec While Compare cons nil" => ((k_here; refine while_mark ?_))
  k_with "subscriptTail Attribute" => ((k_here; k_dflt (refine kba_turn (value' := PySem.Expr.Name (PySem.Str.ofString "_") ⟨0, 0, 0, 0⟩) (fun _ => rfl) ?_)))
  k_with "ite" => ((k_closed; k_dflt (first | rw [if_pos (by decide)] | rw [if_neg (by decide)])))
  k_with "k_in" => (first | with_reducible assumption | exact Frag.In.keeps (by with_reducible assumption) (Fr.keep (by with_reducible assumption)))
  k_with "execs nil" => ((k_here; refine wpAny_execs_nil ?_))
  k_with "execs cons" => ((k_here; refine wpAny_execs_cons ?_))
  k_with "exec If" => ((k_here; refine wpAny_If ?_))
  trivial
def Letter (x : Str) : Prop := x = Str.ofString "p" ∨ x = Str.ofString "q" ∨ x = Str.ofString "r" ∨ x = Str.ofString "e" ∨ x = Str.ofString "n" ∨ x = Str.ofString "o"
def NameWord (x : Str) : Prop := x = Str.ofString "p" ∨ x = Str.ofString "q" ∨ x = Str.ofString "r" ∨ x = Str.ofString "e" ∨ x = Str.ofString "none"
theorem unrEndP {h₀ : Heap} {L I : Addr} {s₁ : Shared} {it : Obj} {rest : (Str → Option Value) → List (Addr × Obj) → Prop} {h' : Heap} {tk : Nat} {m' : Str → Option Value} {all news' : List (Addr × Obj)} (F : Fr h₀ L h' m') (N : News h₀ L h' all)
    (P : Pick (I, it) all news') (off : ∀ p ∈ news', p.1 ≠ I) (r : rest m' news') : UnrEnd h₀ L s₁ I it rest { s₁ with heap := h', toks := tk } :=
  ⟨h', tk, m', news', rfl, F, pickN N P, off, r⟩
section
variable {prog : Program} {w : World} {A : Around} {E : Value → Shared → Prop} {s : Shared} {Q : Value → Shared → Prop} {x : Str} {t u : Tok}
theorem ord_letter (hw : Letter x) (h : ∀ (c : Int) t' k, c < 128 → Q (.int c t') { s with toks := k }) : wpAny (model prog w) A (call (.builtin "ord") [.str x t]) Q E s := by
  rcases hw with rfl | rfl | rfl | rfl | rfl | rfl
  all_goals exact ord_of_one (by decide) (h _ _ _ (by decide))
theorem le_a (hw : Letter x) (h : Q (.bool true) s) : wpAny (model prog w) A (compareOp .LtE (.str (Str.ofString "a") u) (.str x t)) Q E s := by
  refine P.le_str ?_
  rcases hw with rfl | rfl | rfl | rfl | rfl | rfl
  all_goals exact h
theorem le_z (hw : Letter x) (h : Q (.bool true) s) : wpAny (model prog w) A (compareOp .LtE (.str x t) (.str (Str.ofString "z") u)) Q E s := by
  refine P.le_str ?_
  rcases hw with rfl | rfl | rfl | rfl | rfl | rfl
  all_goals exact h
theorem ne_nil_str (hx : x ≠ Str.ofString "") (h : Q (.bool true) s) : wpAny (model prog w) A (compareOp .NotEq (.str x t) (.str (Str.ofString "") u)) Q E s := by
  refine ne_str ?_
  rw [show (x != Str.ofString "") = true from bne_iff_ne.mpr hx]
  exact h
theorem item0 {value slice : PySem.Expr} {j : Tok} (hx : x.length ≤ 1000) (h0 : 0 < x.length) (h : ∀ t' k, Q (.str (Txt.item x 0) t') { s with toks := k })
    (hs : subscripted slice false (.str x t) (.int 0 j) = operate [.str x t, .int 0 j] (getItem (.str x t) (.int 0 j)) := by with_unfolding_all rfl)
    (ht : ∀ r, letTemporaryGo value (.str x t) r = pure () := by intro _; with_unfolding_all rfl) :
    wpAny (model prog w) A (subscriptTail value slice (.str x t) (.int 0 j)) Q E s :=
  item_str (fitsSsize_of (N := 9223372036854775808) (by omega) (by omega) (by decide)) (by omega) (by omega) (fun _ => h _ _) hs ht
end
section
variable {prog : Program} {w : World} {A : Around} {E : Value → Shared → Prop} {h₀ : Heap} {env : Env} {body : List Stmt} {x : Str} {Q : Flow → Shared → Prop} {s : Shared} {I : Addr}
theorem unrPost_mono {L : Addr} {s₁ : Shared} {it : Obj} {r r' : (Str → Option Value) → List (Addr × Obj) → Prop} (h : ∀ m n, r m n → r' m n) {fl : Flow} {s₂ : Shared} (k : UnrPost h₀ L s₁ I it r Q fl s₂) : UnrPost h₀ L s₁ I it r' Q fl s₂ := by
  cases fl with
  | ret v => exact k
  | brk => exact k
  | cont => obtain ⟨a, b, c, d, e1, e2, e3, e4, e5⟩ := k; exact ⟨a, b, c, d, e1, e2, e3, e4, h _ _ e5⟩
  | next => obtain ⟨a, b, c, d, e1, e2, e3, e4, e5⟩ := k; exact ⟨a, b, c, d, e1, e2, e3, e4, h _ _ e5⟩
theorem strRest_inv (J : List Str → (Str → Option Value) → List (Addr × Obj) → Prop)
    (step : ∀ c r m news (u : Tok) (it : Obj) h tk, J (c :: r) m news → Fr h₀ env.locals h (fun y => if y = x then some (.str c u) else m y) → News h₀ env.locals h ((I, it) :: news) →
      wpAny (model prog w) A (execs body env) (UnrPost h₀ env.locals { s with heap := h, toks := tk } I it (fun m' n' => J r m' n') Q) E { s with heap := h, toks := tk })
    (fin : ∀ m news h tk, J [] m news → Fr h₀ env.locals h m → News h₀ env.locals h news → Q .next { s with heap := h, toks := tk }) :
    ∀ l m news, J l m news → StrRest prog w A E h₀ env x body Q s I l m news := by
  intro l
  induction l with
  | nil => intro m news hJ; exact StrRest.zero fun h tk F N => fin m news h tk hJ F N
  | cons c r ih =>
    intro m news hJ
    refine StrRest.succ fun u it h tk F N => wpAny_mono (step c r m news u it h tk hJ F N) (fun fl s₂ k => ?_) fun _ _ q => q
    exact unrPost_mono (fun m n a => ih m n a) k
end
theorem NameWord.ne {x : Str} (h : NameWord x) : x ≠ Str.ofString "" := by rcases h with rfl | rfl | rfl | rfl | rfl <;> decide
theorem NameWord.len {x : Str} (h : NameWord x) : 0 < x.length ∧ x.length ≤ 1000 := by rcases h with rfl | rfl | rfl | rfl | rfl <;> decide
theorem NameWord.all {x : Str} (h : NameWord x) : ∀ c ∈ x.cps.toList.map (fun c => (⟨#[c]⟩ : Str)), Letter c := by unfold Letter; rcases h with rfl | rfl | rfl | rfl | rfl <;> decide +kernel
theorem NameWord.first {x : Str} (h : NameWord x) : Letter (Txt.item x 0) := by unfold Letter; rcases h with rfl | rfl | rfl | rfl | rfl <;> decide +kernel
section
theorem kw9 : True := by
  k_with "call builtin:ord" => ((k_here; k_dflt (refine ord_letter (by with_reducible assumption) (fun c'z t'z k'z e'z => ?_)); k_whole))
  k_with "compareOp LtE str str" => ((first | ((with_reducible show wpAny _ _ (compareOp CmpOp.LtE (Value.str (PySem.Str.ofString "a") _) _) _ _ _); k_here; k_dflt (refine le_a (by with_reducible assumption) ?_)) | (k_here; k_dflt (refine le_z (by with_reducible assumption) ?_))))
  k_with "eval Name" => ((k_here; k_dflt (refine' PyProof.Rows.ld ?q42k1 ?q42k2 ?_; (case q42k1 => k_asm); (case q42k2 => first | with_reducible assumption | exact rfl | assumption); k_whole)))
  trivial
theorem c_start {w : World} {vw : Program} {loose : List Str} {mean : ExcName → Option Value} {mg mb : Str → Option Value} {dp un : Nat} {gd : Option (List Code)} {cn : Str} {cs : Scope} {a : Addr} {ccd : Value} {cl : List (Str × Addr)} {outer : List Env} {A₀ : Around} {base h₀ : Heap} {L : Addr} {m : Str → Option Value} {s : Shared} {Q E : Value → Shared → Prop} {rest : List (Addr × Obj)}
   {wd : Str} {t : Tok} (B : Below A₀ base outer h₀ := by k_asm) (F : Fr h₀ L s.heap m := by k_asm) (X : (Mine.k0.heap_1 w.params).In h₀ := by k_asm) (T : Top vw loose mean mg mb h₀ := by k_asm) (hk : cs.kind = .function := by exact rfl) (N : News h₀ L s.heap rest := by k_asm) (hdp : dp + 3 < recursionLimit := by ktr_room) (hu : un + 120 < cLine := by ktr_units) (hw : Letter wd := by assumption)
   (ret : ∀ h' tk', Fr h₀ L h' m → News h₀ L h' rest → Q (.bool true) { s with heap := h', toks := tk' }) :
   wpAny (model PySem.Challenge.pw_sm0079_01 w) (ktrTop dp un gd cn cs L a ccd cl outer) (call (.ref 77) [.str wd t]) Q E s := by
  refine wpAny_call ?_
  k_dflt k_enter
  k_steps
  all_goals (try k_data)
  all_goals exact ret _ _ (by assumption) (by assumption)
end
section
theorem kw10 : True := by
  k_with_none
  k_with "k_all" => (first | with_reducible assumption | exact List.forall_mem_nil _ | exact allNe (by with_reducible assumption) | (refine' List.forall_mem_cons.mpr ⟨?q1a, ?q1b⟩; (case q1a => k_ne); (case q1b => k_all)) | exact subNe (by with_reducible assumption) (fun q hq => by kbo_some) | exact subNeT (by with_reducible assumption) (by with_reducible assumption) (fun q hq => by kbo_some) | exact subNeQ (by with_reducible assumption) (fun q hq => by kbo_some) | assumption)
  k_with "kbo_some" => (first | with_reducible assumption | exact List.Mem.head _ | (refine' List.mem_cons_of_mem _ ?_; kbo_some) | ((with_reducible refine List.mem_append.mpr (Or.inr ?_)); kbo_some))
  k_with "k_mem" => (first | kbo_some | assumption)
  k_with "k_upd" => (first | (refine' Upd.head ?q4a; (case q4a => k_all)) | (refine' Upd.tail ?q4a ?q4b; (case q4a => k_ne); (case q4b => k_upd)))
  k_with "k_updF" => (first | (refine' UpdF.head ?q5a; (case q5a => k_all)) | (refine' UpdF.tail ?q5a ?q5b; (case q5a => k_ne); (case q5b => k_updF)))
  k_with "k_ne" => (((try dsimp only); first | with_reducible assumption | (refine Ne.symm ?_; with_reducible assumption) | (refine Nat.ne_of_gt ?_; with_reducible assumption) | (refine Nat.ne_of_lt ?_; with_reducible assumption) | (refine neR (by with_reducible assumption) ?_; k_extra "has") | (refine neL (by with_reducible assumption) ?_; k_extra "has") | (refine neQ (by with_reducible assumption) ?_; k_extra "has") | (refine neP (by with_reducible assumption) ?_; k_extra "has") | (refine neT (by with_reducible assumption) (by with_reducible assumption) ?_; k_extra "has") | (refine neU (by with_reducible assumption) (by with_reducible assumption) ?_; k_extra "has") | exact Nat.ne_of_lt (Nat.lt_succ_self _) | exact Nat.ne_of_gt (Nat.lt_succ_self _) | omega))
  k_with "k_enter" => (first
  | (refine' code_def ?q7k1 ?q7k2 ?q7k3 ?q7k4 ?q7k5 ?q7kA ?q7kF ?q7kK ?q7k6 ?q7k7 ?q7k8 ?q7k9 ?q7kB ?_ ?q7c2 ?q7c3 ?q7c4 ?q7c5; (case q7kA => exact rfl); (case q7kF => exact rfl); (case q7kK => first | exact rfl | assumption); (case q7k1 => k_asm); (case q7k2 => k_asm); (case q7k3 => k_asm); (case q7k4 => k_asm); (case q7k5 => k_asm); (case q7k6 => k_is); (case q7k7 => k_is); (case q7k8 => ktr_room); (case q7k9 => first | exact BindsTo.of_eq rfl | exact binds_K (by k_in) rfl (by k_is) rfl rfl rfl); (case q7c5 => decide); (case q7kB => exact locs rfl); (case q7c2 => exact rfl); (case q7c3 => exact rfl); (case q7c4 => exact rfl); k_whole; intro g'z L'z h'z FG'z F'z N'z B'z X'z T'z; (try dsimp only); (try k_fold); (try (refine letA ?_; intro A9)))
  | (refine' code_defC ?q7k1 ?q7k2 ?q7k3 ?q7k4 ?q7k5 ?q7kA ?q7kF ?q7kK ?q7k6 ?q7k7 ?q7k8 ?q7k9 ?q7kB ?q7kD ?_ ?q7c2 ?q7c3 ?q7c4; (case q7kA => exact rfl); (case q7kF => exact rfl); (case q7kK => first | exact rfl | assumption); (case q7k1 => k_asm); (case q7k2 => k_asm); (case q7k3 => k_asm); (case q7k4 => k_asm); (case q7k5 => k_asm); (case q7k6 => k_is); (case q7k7 => k_is); (case q7k8 => ktr_room); (case q7k9 => first | exact BindsTo.of_eq rfl | exact binds_K (by k_in) rfl (by k_is) rfl rfl rfl); (case q7kB => exact rfl); (case q7kD => decide +kernel); (case q7c2 => exact rfl); (case q7c3 => exact rfl); (case q7c4 => exact rfl); k_whole; intro g'z L'z h'z tk'z cells'z FG'z F'z N'z Y'z B'z X'z T'z l1; (try k_lt l1); (try (have hR6 := restNe l1 (Nat.le_add_right _ 1); have hR5 := restNe l1 (Nat.le_add_right _ (1 + 1)))); (first   | (have hY := CellsAre.one Y'z; obtain ⟨o'z, hE'z, d1'z⟩ := hY; subst hE'z; clear Y'z; (first | (replace d1'z : o'z.data = .cell none := d1'z) | (replace d1'z : o'z.data = .cell (some _) := d1'z) | skip))   | (have hY := CellsAre.two Y'z; obtain ⟨o'z, o2'z, hE'z, d1'z, d2'z⟩ := hY; subst hE'z; clear Y'z; (first | (replace d1'z : o'z.data = .cell none := d1'z) | (replace d1'z : o'z.data = .cell (some _) := d1'z) | skip); (first | (replace d2'z : o2'z.data = .cell none := d2'z) | (replace d2'z : o2'z.data = .cell (some _) := d2'z) | skip))); (try simp only [List.cons_append, List.nil_append] at N'z); (try dsimp only); (try k_fold); (try (refine letA ?_; intro A9))))
  k_with "ktr_room" => (((try simp +zetaDelta only [depth_deeper, depth_in1, depth_mark, depth_under_make, depth_under_kw]); (try dsimp only [ktrTop]); (try simp only [Nat.add_assoc, Nat.reduceAdd]); refine Nat.lt_of_le_of_lt (Nat.add_le_add_left ?_ _) (by with_reducible assumption); decide))
  k_with "ktr_units" => (((try simp +zetaDelta only [units_deeper, units_in1, Around.mark_units]); (try dsimp only [ktrTop]); (try simp only [Nat.add_assoc, Nat.reduceAdd]); refine Nat.lt_of_le_of_lt (Nat.add_le_add_left ?_ _) (by with_reducible assumption); decide))
  k_with "kbd_text" => (first | exact Pick.head | (apply Pick.tail; kbd_text))
  k_with "hide" => ((refine hideG ?_; intro G9))
  k_with "has" => (first | with_reducible exact Has.head | (refine Has.tail ?_; k_extra "has"))
  k_with "lt" => (first | with_reducible assumption | (refine Has.lt (by with_reducible assumption) ?_; k_extra "has") | (refine ltT (by with_reducible assumption) (by with_reducible assumption) ?_; k_extra "has"))
  k_with "ltAll" => (first | with_reducible assumption | exact allLt_mem (by with_reducible assumption) | exact subLt (by with_reducible assumption) (fun q hq => by kbo_some))
  k_with "FinE" => (((unfold LCg.FinE); intro D'z h'z tk'z F'z N'z o1'z; (have hR8 := off1_ne o1'z); (try simp only [List.nil_append, List.cons_append] at N'z); (try dsimp only)))
  k_with "lcg_off" => (first | exact True.intro | with_reducible assumption | (refine And.intro ⟨by k_ne, by k_ne, by k_ne⟩ ?_; lcg_off))
  k_with "CompEnd" => ((k_here; k_dflt (refine' compEndP ?q17f ?q17n ?q17p1 ?q17p2 ?q17p3 ?q17o ?q17s ?_; (case q17f => k_asm); (case q17n => k_asm); (case q17p1 => kbd_text); (case q17p2 => kbd_text); (case q17p3 => kbd_text); (case q17o => lcg_off); (case q17s => lcg_src); k_whole)))
  k_with "kbd_text" => (((with_reducible show Split _ _ _); first | exact Split.nil | (apply Split.cons; kbd_text)))
  k_with "exec While BoolOp cons nil" => ((k_here; refine while_mark ?_))
  k_with "exec While Compare cons nil" => ((k_here; refine while_mark ?_))
  k_with "subscriptTail Attribute" => ((k_here; k_dflt (refine kba_turn (value' := PySem.Expr.Name (PySem.Str.ofString "_") ⟨0, 0, 0, 0⟩) (fun _ => rfl) ?_)))
  k_with "ite" => ((k_closed; k_dflt (first | rw [if_pos (by decide)] | rw [if_neg (by decide)])))
  k_with "k_in" => (first | with_reducible assumption | exact Frag.In.keeps (by with_reducible assumption) (Fr.keep (by with_reducible assumption)))
  k_with "execs nil" => ((k_here; refine wpAny_execs_nil ?_))
  k_with "execs cons" => ((k_here; refine wpAny_execs_cons ?_))
  k_with "exec If" => ((k_here; refine wpAny_If ?_))
  k_with "call ref" => (((k_here; (with_reducible show wpAny _ _ (call (Value.ref 77) _) _ _ _); k_dflt (refine' c_start (ret := fun h'z tk'z F'z N'z => ?_)); k_whole); (try dsimp only)))
  trivial
theorem c_char {w : World} {vw : Program} {loose : List Str} {mean : ExcName → Option Value} {mg mb : Str → Option Value} {dp un : Nat} {gd : Option (List Code)} {cn : Str} {cs : Scope} {a : Addr} {ccd : Value} {cl : List (Str × Addr)} {outer : List Env} {A₀ : Around} {base h₀ : Heap} {L : Addr} {m : Str → Option Value} {s : Shared} {Q E : Value → Shared → Prop} {rest : List (Addr × Obj)}
   {wd : Str} {t : Tok} (B : Below A₀ base outer h₀ := by k_asm) (F : Fr h₀ L s.heap m := by k_asm) (X : (Mine.k0.heap_1 w.params).In h₀ := by k_asm) (T : Top vw loose mean mg mb h₀ := by k_asm) (hk : cs.kind = .function := by exact rfl) (N : News h₀ L s.heap rest := by k_asm) (hdp : dp + 5 < recursionLimit := by ktr_room) (hu : un + 200 < cLine := by ktr_units) (hw : Letter wd := by assumption)
   (ret : ∀ h' tk', Fr h₀ L h' m → News h₀ L h' rest → Q (.bool true) { s with heap := h', toks := tk' }) :
   wpAny (model PySem.Challenge.pw_sm0079_01 w) (ktrTop dp un gd cn cs L a ccd cl outer) (call (.ref 84) [.str wd t]) Q E s := by
  refine wpAny_call ?_
  k_dflt k_enter
  k_steps
  all_goals (try k_data)
  all_goals exact ret _ _ (by assumption) (by assumption)
theorem kw11 : True := by
  k_with "call ref" => (((k_here; (with_reducible show wpAny _ _ (call (Value.ref 84) _) _ _ _); k_dflt (refine' c_char (ret := fun h'z tk'z F'z N'z => ?_)); k_whole); (try dsimp only)))
  k_with "eval Name" => ((k_here; k_dflt (refine' PyProof.Rows.ld ?q45k1 ?q45k2 ?_; (case q45k1 => k_asm); (case q45k2 => first | with_reducible assumption | exact rfl | assumption); k_whole)))
  k_with "compareOp NotEq str str" => ((k_here; k_dflt (refine ne_nil_str (by with_reducible assumption) ?_)))
  k_with "subscriptTail Name Constant str int" => ((k_here; k_dflt (refine item0 (by with_reducible assumption) (by with_reducible assumption) (fun t'z k'z => ?_))))
  k_with "exec For Name Name cons nil" => ((k_here; (rename Fr _ _ _ _ => lF'z); (with_unfolding_all refine' For_invVF lF'z ?q48k1 ?q48k2 ?_; (case q48k1 => exact rfl); (case q48k2 => exact rfl); k_whole)))
  k_with "pyIter str" => (((with_reducible show wpAny _ _ (pyIter (Value.str _ _)) (fun it s₂ => LoopAtV _ _ _ _ _ _ _ _ _ it s₂) _ _); k_here; k_dflt (refine' iter_strUnr ?q49hh ?q49F ?q49N ?q49hx ?_; (case q49hh => exact rfl); (case q49F => k_asm); (case q49N => k_asm); (case q49hx => exact rfl)); refine while_mark ?_))
  k_with "UnrEnd" => ((k_here; refine while_mark ?_))
  trivial
theorem c_isname {w : World} {vw : Program} {loose : List Str} {mean : ExcName → Option Value} {mg mb : Str → Option Value} {dp un : Nat} {gd : Option (List Code)} {cn : Str} {cs : Scope} {a : Addr} {ccd : Value} {cl : List (Str × Addr)} {outer : List Env} {A₀ : Around} {base h₀ : Heap} {L : Addr} {m : Str → Option Value} {s : Shared} {Q E : Value → Shared → Prop} {rest : List (Addr × Obj)}
   {wd : Str} {t : Tok} (B : Below A₀ base outer h₀ := by k_asm) (F : Fr h₀ L s.heap m := by k_asm) (X : (Mine.k0.heap_1 w.params).In h₀ := by k_asm) (T : Top vw loose mean mg mb h₀ := by k_asm) (hk : cs.kind = .function := by exact rfl) (N : News h₀ L s.heap rest := by k_asm) (hdp : dp + 8 < recursionLimit := by ktr_room) (hu : un + 320 < cLine := by ktr_units) (hw : NameWord wd := by first | assumption | (unfold NameWord; decide))
   (ret : ∀ h' tk', Fr h₀ L h' m → News h₀ L h' rest → Q (.bool true) { s with heap := h', toks := tk' }) :
   wpAny (model PySem.Challenge.pw_sm0079_01 w) (ktrTop dp un gd cn cs L a ccd cl outer) (call (.ref 105) [.str wd t]) Q E s := by
  have w1 := hw.ne
  obtain ⟨w2, w3⟩ := hw.len
  have w4 := hw.first
  refine wpAny_call ?_
  k_dflt k_enter
  k_steps
  unfold WhileMark
  intro I l1
  refine strRest_inv (fun r m₁ n₁ => m₁ (Str.ofString "text") = some (.str wd t) ∧ n₁ = rest ∧ ∀ c ∈ r, Letter c) ?_ ?_ _ _ _ ⟨rfl, rfl, hw.all⟩
  · rintro c r m₁ n₁ u it h₁ tk₁ ⟨e1, rfl, e2⟩ F₁ N₁
    have e3 := e2 _ (.head _)
    k_steps
    unfold WhileMark
    rename Fr _ _ _ _ => lF
    rename News _ _ _ _ => lN
    exact unrEndP lF lN Pick.head (fun p hp => Nat.ne_of_lt (l1 p hp)) ⟨e1, rfl, fun c hc => e2 c (.tail _ hc)⟩
  · rintro m₁ n₁ h₁ tk₁ ⟨e1, rfl, -⟩ F₁ N₁
    k_steps
    all_goals (try k_data)
    exact ret _ _ (by assumption) (by assumption)
end
end
section
/-- an exception's object ahead of its own __init__ -/
theorem kw12 : True := by
  k_with_none
  k_with "k_all" => (first | with_reducible assumption | exact List.forall_mem_nil _ | exact allNe (by with_reducible assumption) | (refine' List.forall_mem_cons.mpr ⟨?q1a, ?q1b⟩; (case q1a => k_ne); (case q1b => k_all)) | exact subNe (by with_reducible assumption) (fun q hq => by kbo_some) | exact subNeT (by with_reducible assumption) (by with_reducible assumption) (fun q hq => by kbo_some) | exact subNeQ (by with_reducible assumption) (fun q hq => by kbo_some) | assumption)
  k_with "kbo_some" => (first | with_reducible assumption | exact List.Mem.head _ | (refine' List.mem_cons_of_mem _ ?_; kbo_some) | ((with_reducible refine List.mem_append.mpr (Or.inr ?_)); kbo_some))
  k_with "k_mem" => (first | kbo_some | assumption)
  k_with "k_upd" => (first | (refine' Upd.head ?q4a; (case q4a => k_all)) | (refine' Upd.tail ?q4a ?q4b; (case q4a => k_ne); (case q4b => k_upd)))
  k_with "k_updF" => (first | (refine' UpdF.head ?q5a; (case q5a => k_all)) | (refine' UpdF.tail ?q5a ?q5b; (case q5a => k_ne); (case q5b => k_updF)))
  k_with "k_ne" => (((try dsimp only); first | with_reducible assumption | (refine Ne.symm ?_; with_reducible assumption) | (refine Nat.ne_of_gt ?_; with_reducible assumption) | (refine Nat.ne_of_lt ?_; with_reducible assumption) | (refine neR (by with_reducible assumption) ?_; k_extra "has") | (refine neL (by with_reducible assumption) ?_; k_extra "has") | (refine neQ (by with_reducible assumption) ?_; k_extra "has") | (refine neP (by with_reducible assumption) ?_; k_extra "has") | (refine neT (by with_reducible assumption) (by with_reducible assumption) ?_; k_extra "has") | (refine neU (by with_reducible assumption) (by with_reducible assumption) ?_; k_extra "has") | exact Nat.ne_of_lt (Nat.lt_succ_self _) | exact Nat.ne_of_gt (Nat.lt_succ_self _) | omega))
  k_with "k_enter" => (first
  | (refine' code_def ?q7k1 ?q7k2 ?q7k3 ?q7k4 ?q7k5 ?q7kA ?q7kF ?q7kK ?q7k6 ?q7k7 ?q7k8 ?q7k9 ?q7kB ?_ ?q7c2 ?q7c3 ?q7c4 ?q7c5; (case q7kA => exact rfl); (case q7kF => exact rfl); (case q7kK => first | exact rfl | assumption); (case q7k1 => k_asm); (case q7k2 => k_asm); (case q7k3 => k_asm); (case q7k4 => k_asm); (case q7k5 => k_asm); (case q7k6 => k_is); (case q7k7 => k_is); (case q7k8 => ktr_room); (case q7k9 => first | exact BindsTo.of_eq rfl | exact binds_K (by k_in) rfl (by k_is) rfl rfl rfl); (case q7c5 => decide); (case q7kB => exact locs rfl); (case q7c2 => exact rfl); (case q7c3 => exact rfl); (case q7c4 => exact rfl); k_whole; intro g'z L'z h'z FG'z F'z N'z B'z X'z T'z; (try dsimp only); (try k_fold); (try (refine letA ?_; intro A9)))
  | (refine' code_defC ?q7k1 ?q7k2 ?q7k3 ?q7k4 ?q7k5 ?q7kA ?q7kF ?q7kK ?q7k6 ?q7k7 ?q7k8 ?q7k9 ?q7kB ?q7kD ?_ ?q7c2 ?q7c3 ?q7c4; (case q7kA => exact rfl); (case q7kF => exact rfl); (case q7kK => first | exact rfl | assumption); (case q7k1 => k_asm); (case q7k2 => k_asm); (case q7k3 => k_asm); (case q7k4 => k_asm); (case q7k5 => k_asm); (case q7k6 => k_is); (case q7k7 => k_is); (case q7k8 => ktr_room); (case q7k9 => first | exact BindsTo.of_eq rfl | exact binds_K (by k_in) rfl (by k_is) rfl rfl rfl); (case q7kB => exact rfl); (case q7kD => decide +kernel); (case q7c2 => exact rfl); (case q7c3 => exact rfl); (case q7c4 => exact rfl); k_whole; intro g'z L'z h'z tk'z cells'z FG'z F'z N'z Y'z B'z X'z T'z l1; (try k_lt l1); (try (have hR6 := restNe l1 (Nat.le_add_right _ 1); have hR5 := restNe l1 (Nat.le_add_right _ (1 + 1)))); (first   | (have hY := CellsAre.one Y'z; obtain ⟨o'z, hE'z, d1'z⟩ := hY; subst hE'z; clear Y'z; (first | (replace d1'z : o'z.data = .cell none := d1'z) | (replace d1'z : o'z.data = .cell (some _) := d1'z) | skip))   | (have hY := CellsAre.two Y'z; obtain ⟨o'z, o2'z, hE'z, d1'z, d2'z⟩ := hY; subst hE'z; clear Y'z; (first | (replace d1'z : o'z.data = .cell none := d1'z) | (replace d1'z : o'z.data = .cell (some _) := d1'z) | skip); (first | (replace d2'z : o2'z.data = .cell none := d2'z) | (replace d2'z : o2'z.data = .cell (some _) := d2'z) | skip))); (try simp only [List.cons_append, List.nil_append] at N'z); (try dsimp only); (try k_fold); (try (refine letA ?_; intro A9))))
  k_with "ktr_room" => (((try simp +zetaDelta only [depth_deeper, depth_in1, depth_mark, depth_under_make, depth_under_kw]); (try dsimp only [ktrTop]); (try simp only [Nat.add_assoc, Nat.reduceAdd]); refine Nat.lt_of_le_of_lt (Nat.add_le_add_left ?_ _) (by with_reducible assumption); decide))
  k_with "ktr_units" => (((try simp +zetaDelta only [units_deeper, units_in1, Around.mark_units]); (try dsimp only [ktrTop]); (try simp only [Nat.add_assoc, Nat.reduceAdd]); refine Nat.lt_of_le_of_lt (Nat.add_le_add_left ?_ _) (by with_reducible assumption); decide))
  k_with "kbd_text" => (first | exact Pick.head | (apply Pick.tail; kbd_text))
  k_with "hide" => ((refine hideG ?_; intro G9))
  k_with "has" => (first | with_reducible exact Has.head | (refine Has.tail ?_; k_extra "has"))
  k_with "lt" => (first | with_reducible assumption | (refine Has.lt (by with_reducible assumption) ?_; k_extra "has") | (refine ltT (by with_reducible assumption) (by with_reducible assumption) ?_; k_extra "has"))
  k_with "ltAll" => (first | with_reducible assumption | exact allLt_mem (by with_reducible assumption) | exact subLt (by with_reducible assumption) (fun q hq => by kbo_some))
  k_with "FinE" => (((unfold LCg.FinE); intro D'z h'z tk'z F'z N'z o1'z; (have hR8 := off1_ne o1'z); (try simp only [List.nil_append, List.cons_append] at N'z); (try dsimp only)))
  k_with "lcg_off" => (first | exact True.intro | with_reducible assumption | (refine And.intro ⟨by k_ne, by k_ne, by k_ne⟩ ?_; lcg_off))
  k_with "CompEnd" => ((k_here; k_dflt (refine' compEndP ?q17f ?q17n ?q17p1 ?q17p2 ?q17p3 ?q17o ?q17s ?_; (case q17f => k_asm); (case q17n => k_asm); (case q17p1 => kbd_text); (case q17p2 => kbd_text); (case q17p3 => kbd_text); (case q17o => lcg_off); (case q17s => lcg_src); k_whole)))
  k_with "kbd_text" => (((with_reducible show Split _ _ _); first | exact Split.nil | (apply Split.cons; kbd_text)))
  k_with "exec While BoolOp cons nil" => ((k_here; refine while_mark ?_))
  k_with "exec While Compare cons nil" => ((k_here; refine while_mark ?_))
  k_with "subscriptTail Attribute" => ((k_here; k_dflt (refine kba_turn (value' := PySem.Expr.Name (PySem.Str.ofString "_") ⟨0, 0, 0, 0⟩) (fun _ => rfl) ?_)))
  k_with "ite" => ((k_closed; k_dflt (first | rw [if_pos (by decide)] | rw [if_neg (by decide)])))
  k_with "k_in" => (first | with_reducible assumption | exact Frag.In.keeps (by with_reducible assumption) (Fr.keep (by with_reducible assumption)))
  k_with "execs nil" => ((k_here; refine wpAny_execs_nil ?_))
  k_with "execs cons" => ((k_here; refine wpAny_execs_cons ?_))
  k_with "exec If" => ((k_here; refine wpAny_If ?_))
  trivial
abbrev excObj (C t : Addr) : Obj := { cls := .ref C, data := .fields #[.ref t, .none, .none, .none, .bool false, .none] }
abbrev tupObj (vs : List Value) : Obj := { cls := .type "tuple", data := .seq vs.toArray }
section
variable {prog : Program} {w : World} {A : Around} {R : Result → Shared → Prop} {h : Heap} {g : Array GenState} {d : Drawn} {t : Nat} {os : OsState}
variable {nm q : Str} {C N fI : Addr} {bs bm bmB : List Value} {hdct : Bool} {sn : List Str} {sub : List Value} {ab : Bool} {col : Option Bool} {dd : Option Addr} {k0 k1 k2 k3 k5 : Option Value} {B newId initId : String}
theorem exc_new (F : ExcBaseFacts B newId initId bmB) {rest : List Value} (hC : h.get? C = some (excClassObj nm q C N bs bm hdct sn sub ab col dd k0 k1 k2 k3 k5 newId))
    (b1 : (Value.ref C :: bm).contains (.type B) = true) (b2 : (Value.ref C :: bm).contains (.type "AttributeError") = false) (b3 : (Value.ref C :: bm).contains (.type "NameError") = false)
    (hq : R (.ok (.ret (.ref (h.objs.size + 1)))) ⟨(h.push (tupObj rest)).push (excObj C h.objs.size), g, d, t, os⟩) (hrest : rest.length ≤ sizeLine) :
    codeAny (model prog w) A (.builtin newId ⟨.ref C :: rest, []⟩) R ⟨h, g, d, t, os⟩ := by
  have hends := F.ends
  refine codeAny_builtinAt F.entry ?_
  unfold Builtin.«BaseException.__new__»
  refine PySem.wpAt_bind ?_
  show PySem.wpAt _ _ _ (stack >>= _) _ _ _
  refine PySem.wpAt_bind (PySem.wpAt_stack fun p below => PySem.wpAt_of_wpAny ?_)
  wp_walk
  refine PySem.wpAt_of_wpAny ?_
  rw [F.owner]
  repeat (first | with_reducible refine wpAny_madeHere_exc F.canon hC ?_ | with_reducible refine wpAny_loadPart_at hC ?_ | (with_reducible refine wpAny_isSubtype_exc hC ?_; first | rw [b1] | rw [b2] | rw [b3]) | wp_step)
  show R _ _
  rw [Heap.size_push]
  exact hq
theorem exc_check (F : ExcBaseFacts B newId initId bmB) {E : Value → Shared → Prop} {M : Model} {rest : List Value} {Q : Unit → Shared → Prop} (hC : h.get? C = some (excClassObj nm q C N bs bm hdct sn sub ab col dd k0 k1 k2 k3 k5 newId))
    (b1 : (Value.ref C :: bm).contains (.type B) = true) (hq : Q () ⟨h, g, d, t, os⟩) : wpAny M A (checkBuiltinCall newId ⟨.ref C :: rest, []⟩) Q E ⟨h, g, d, t, os⟩ := by
  have hstar := F.noStar
  simp only [checkBuiltinCall, F.newKind, F.newSplit, F.newRow]
  repeat (first | refine wpAny_loadPart_at hC ?_ | (refine wpAny_isSubtype_exc hC ?_; rw [b1]) | refine wpAny_staticBase_exc hC ?_ | refine wpAny_madeBy_exc hC ?_ | simp only [bne_self_eq_false, Bool.false_eq_true, if_false] | wp_step)
  exact hq
theorem exc_core (F : ExcBaseFacts B newId initId bmB) {rest : List Value} (hC : h.get? C = some (excClassObj nm q C N bs bm hdct sn sub ab col dd k0 k1 k2 k3 k5 newId))
    (b1 : (Value.ref C :: bm).contains (.type B) = true) (b2 : (Value.ref C :: bm).contains (.type "AttributeError") = false) (b3 : (Value.ref C :: bm).contains (.type "NameError") = false)
    (hi : Looks (model prog w) h (typeLookup (.ref C) "__init__") (some (.ref fI))) (hb : ∀ self, Looks (model prog w) h (bindSpecial (.ref fI) self) (.ref fI, [self]))
    (call : Looks (model prog w) h (specialOf (.ref C) "__call__") (some (.builtin "type.__call__")))
    (hq : codeAny (model prog w) (A.under (.builtin "type.__call__" ⟨.ref C :: rest, []⟩)) (.call (.ref fI) ⟨.ref (h.objs.size + 1) :: rest, []⟩) (InitBack (h.objs.size + 1) R) ⟨(h.push (tupObj rest)).push (excObj C h.objs.size), g, d, t, os⟩) (hrest : rest.length ≤ sizeLine) :
    codeAny (model prog w) A (.call (.ref C) ⟨rest, []⟩) R ⟨h, g, d, t, os⟩ := by
  refine codeAny_of_tree ?_
  show wpAny _ _ (callAny (.ref C) _) _ _ _
  refine nd_load hC ?_
  show wpAny _ _ (callAny.viaDunder (.ref C) _) _ _ _
  unfold callAny.viaDunder
  refine wpAny_bind (call.at ?_)
  dsimp only
  rw [tc_bind]
  refine wpAny_bind (wpAny_pure (wpAny_bind (wpAny_pure ?_)))
  refine wpAny_pure (a := Fin.again (.call (.builtin "type.__call__") ⟨.ref C :: rest, []⟩)) (And.intro rfl ?_)
  refine codeAny_call_builtin_at (Code.quiet_builtin _ (by decide +kernel)) entry_typeCall (wpAny_check_type_call_sub hC ?_)
  unfold Builtin.«type.__call__»
  repeat (first | with_reducible refine wpAny_loadPart_at hC ?_ | with_reducible refine wpAny_madeBy_exc hC ?_ | wp_step)
  refine codeAny_call_builtin_code (Code.quiet_builtin _ F.quiet) (exc_check F hC b1 ?_)
  refine exc_new F hC b1 b2 b3 ?_ hrest
  show wpAny _ _ _ _ _ _
  have k : ∀ b o, h.get? b = some o → ((h.push (tupObj rest)).push (excObj C h.objs.size)).get? b = some o := fun b o e => Heap.get?_push_of_some _ (Heap.get?_push_of_some _ e)
  have hx : ((h.push (tupObj rest)).push (excObj C h.objs.size)).get? (h.objs.size + 1) = some (excObj C h.objs.size) := by heap_get
  have hC₁ := k _ _ hC
  have hcC : (Value.ref C :: bm).contains (.ref C) = true := by simp
  have i1 := hi.keeps k
  have b4 := (hb (.ref (h.objs.size + 1))).keeps k
  unfold isInstance
  repeat (first | with_reducible refine wpAny_loadPart_at hx ?_ | (with_reducible refine wpAny_isSubtype_exc hC₁ ?_; rw [hcC]) | wp_step)
  refine Looks.at i1 ?_
  dsimp only
  refine wpAny_holding (wpAny_bind (Looks.at b4 ?_))
  refine wpAny_bind (wpAny_call ?_)
  refine codeAny_mono hq fun r s' z => ?_
  rcases r with e | (v | _ | _ | _) <;> first | exact z | exact z.elim | skip
  obtain ⟨rfl, z⟩ := z
  repeat (first | with_reducible refine wpAny_pure ?_ | wp_step)
  exact z
end
section
variable {prog : Program} {w : World} {A : Around} {Q E : Value → Shared → Prop} {s : Shared} {h₀ : Heap} {L : Addr} {m : Str → Option Value} {news : List (Addr × Obj)} {K : Frag}
variable {nm q : Str} {C N fI : Addr} {bs bm bmB : List Value} {hdct : Bool} {sn : List Str} {sub : List Value} {ab : Bool} {col : Option Bool} {dd : Option Addr} {k0 k1 k2 k3 k5 : Option Value} {B newId initId : String}
theorem call_exc {pos : List Value} (FB : ExcBaseFacts B newId initId bmB) (F : Fr h₀ L s.heap m) (NN : News h₀ L s.heap news) (X₀ : K.In h₀)
    (hC : K.lookup C = some (excClassObj nm q C N bs bm hdct sn sub ab col dd k0 k1 k2 k3 k5 newId))
    (b1 : (Value.ref C :: bm).contains (.type B) = true) (b2 : (Value.ref C :: bm).contains (.type "AttributeError") = false) (b3 : (Value.ref C :: bm).contains (.type "NameError") = false)
    (hi : findIn K (.ref C) "__init__" = some (some (.ref fI))) (hf : typeIn K (.ref fI) = some (.type "function")) (hc : specialIn K (.ref C) "__call__" = some (some (.builtin "type.__call__"))) (hrest : pos.length ≤ sizeLine)
    (h : ∀ e t h', Fr h₀ L h' m → News h₀ L h' ((e, excObj C t) :: (t, tupObj pos) :: news) → (∀ p ∈ news, p.1 < t) → t < e →
      codeAny (model prog w) (A.under (.builtin "type.__call__" ⟨.ref C :: pos, []⟩)) (.call (.ref fI) ⟨.ref e :: pos, []⟩) (InitBack e fun r s' => match r with | .ok (.ret v) => Q v s' | .ok _ => False | .error e => E e s') { s with heap := h' }) :
    wpAny (model prog w) A (call (.ref C) pos []) Q E s := by
  refine wpAny_call ?_
  have X := X₀.keeps F.keep
  obtain ⟨hh, g, d, t, os⟩ := s
  refine exc_core FB (X _ _ hC) b1 b2 b3 (looks_findIn X hi) (fun self => bind_fn X self hf) (looks_specialIn X hc) (h _ hh.objs.size _ ((F.push _).push _) ?_ (fun p hp => Heap.lt_size (NN p hp).1) (Nat.lt_succ_self _)) hrest
  have := (NN.push F (tupObj pos)).push (F.push _) (excObj C hh.objs.size)
  rwa [Heap.size_push] at this
end
end
section
section
variable {prog : Program} {w : World} {A : Around} {E : Value → Shared → Prop} {s : Shared} {K : Frag} {C C₂ e t : Addr} {cd : ClassData} {name : Str} {v : Value} {h₀ : Heap} {L : Addr} {m : Str → Option Value} {news : List (Addr × Obj)}
abbrev excObjD (C t d : Addr) : Obj := { cls := .ref C, dict := some d, data := .fields #[.ref t, .none, .none, .none, .bool false, .none] }
theorem exc_osa {R : Result → Shared → Prop} {tk : Tok} (X : K.In s.heap) (hx : s.heap.get? e = some (excObj C t))
    (hc : clsIn K C = some cd) (hmro : cd.mro = [.ref C, .ref C₂, .type "Exception", .type "BaseException", .type "object"]) (hhd : cd.hasDict = true) (ha : findIn K (.ref C) name = some none)
    (h : ∀ h' tk', h'.get? e = some (excObjD C t s.heap.objs.size) → (∀ b o, b ≠ e → s.heap.get? b = some o → h'.get? b = some o) → R (.ok (.ret .none)) { s with heap := h', toks := tk' }) :
    codeAny (model prog w) A (.call (.builtin "object.__setattr__") ⟨[.ref e, .str name tk, v], []⟩) R s := by
  have I : InstAt s.heap e (excObj C t) C none := ⟨hx, rfl, rfl, trivial⟩
  have SF := PySem.F.store_object
  have ne : cd.mro.isEmpty = false := by rw [hmro]; rfl
  have hot : cd.mro.contains (.type "object") = true := by rw [hmro]; simp
  have sub : Looks (model prog w) s.heap (isInstance (.ref e) (.type "object")) true := I.type.andThen (looks_mroIn X (by unfold mroIn; rw [hc, Option.bind_some, if_neg (by rw [ne]; decide), hot]))
  refine codeAny_call_builtin SF.slot.plain SF.entry (@check_slot (model prog w) _ _ s "object.__setattr__" "object" "__setattr__" (.ref e) [.str name tk, v] [] _ SF.kind SF.split sub (SF.args (.ref e) (.str name tk) v) ?_)
  have hm : Looks (model prog w) s.heap (mroOf (.ref C)) cd.mro := (looks_clsIn X hc).andThen .now
  rw [osa_eq, refuse_eq]
  refine wpAny_bind (wpAny_bind (I.type.here (wpAny_bind (hm.here ?_))))
  rw [hmro, refuseLoop_ref, refuseLoop_ref, PySem.F.store_Exception.passes]
  refine wpAny_pure (wpAny_bind (I.type.here (wpAny_bind ((looks_findIn X ha).here (wpAny_bind (wpAny_pure ?_))))))
  refine wpAny_bind (wpAny_pure (wpAny_bind (wpAny_bind (wpAny_loadPart hx (wpAny_bind ((looks_clsIn X hc).here ?_))))))
  rw [hhd]
  have hlt := Heap.lt_size hx
  have hne : e ≠ s.heap.objs.size := Nat.ne_of_lt hlt
  have hx₁ : (s.heap.push emptyDict).get? e = some (excObj C t) := Heap.get?_push_of_some _ hx
  refine wpAny_bind (wpAny_alloc (wpAny_bind (wpAny_update hx₁ ?_)))
  have hD : ((s.heap.push emptyDict).update e (fun o => { o with dict := some s.heap.objs.size })).get? s.heap.objs.size = some emptyDict := by
    rw [Heap.get?_update_other _ _ hne]; exact Heap.get?_push_size _ rfl
  have hE : ((s.heap.push emptyDict).update e (fun o => { o with dict := some s.heap.objs.size })).get? e = some (excObjD C t s.heap.objs.size) := by
    rw [Heap.get?_update_self _ hx₁ rfl]
  refine wpAny_pure (wpAny_bind (wpAny_pure (wpAny_bind ?_)))
  unfold nsSet
  refine wpAny_bind (wpAny_bind (wpAny_askSetting (wpAny_pure (wpAny_bind (wpAny_mkText (wpAny_bind (wpAny_loadPart hD ?_)))))))
  dsimp only
  rw [aRefKeyMayBeTheName_at]
  have z : (!(#[] : Array DictEntry).any (·.key.isStr name) && (#[] : Array DictEntry).any (·.refKey)) = false := by simp
  rw [z]
  refine wpAny_updatePart hD ?_
  have hD' := Heap.get?_update_self (Obj.putName name (PyData.keyHash w.params name) (.str name s.toks) v) hD (by rw [show emptyDict = dictOf [] 0 from rfl, putName_dict]; rfl)
  refine wpAny_bind (wpAny_lookBehind hD' ?_ ?_)
  · rw [show emptyDict = dictOf [] 0 from rfl, putName_dict]
    exact pastItsLine_dict (by show (1 : Nat) ≤ _; rw [sizeLine_eq]; decide)
  · refine wpAny_pure (h _ _ ?_ fun b o hb ho => ?_)
    · rw [Heap.get?_update_other _ _ (Ne.symm hne)]; exact hE
    · have hbl := Heap.lt_size ho
      rw [Heap.get?_update_other _ _ (Nat.ne_of_gt hbl), Heap.get?_update_other _ _ (Ne.symm hb)]
      exact Heap.get?_push_of_some _ ho
theorem set_exc_at {Q : Unit → Shared → Prop} (X : K.In s.heap) (hx : s.heap.get? e = some (excObj C t)) (hs : findIn K (.ref C) "__setattr__" = some (some (.builtin "object.__setattr__")))
    (hc : clsIn K C = some cd) (hmro : cd.mro = [.ref C, .ref C₂, .type "Exception", .type "BaseException", .type "object"]) (hhd : cd.hasDict = true) (ha : findIn K (.ref C) name = some none)
    (h : ∀ h' tk', h'.get? e = some (excObjD C t s.heap.objs.size) → (∀ b o, b ≠ e → s.heap.get? b = some o → h'.get? b = some o) → Q () { s with heap := h', toks := tk' }) :
    wpAny (model prog w) A (setAttr (.ref e) name v) Q E s := by
  have I : InstAt s.heap e (excObj C t) C none := ⟨hx, rfl, rfl, trivial⟩
  exact set_plain X I hs (exc_osa (s := { s with toks := s.toks + 1 }) X hx hc hmro hhd ha h)
theorem fr_but {h' : Heap} {o₁ : Obj} (F : Fr h₀ L s.heap m) (N : News h₀ L s.heap ((e, o₁) :: news)) (hk : ∀ b o, b ≠ e → s.heap.get? b = some o → h'.get? b = some o) : Fr h₀ L h' m := by
  have D := N (e, o₁) (.head _)
  obtain ⟨oL, es, ep, hL, r⟩ := F.ns
  exact ⟨⟨oL, es, ep, hk _ _ (Ne.symm D.2.1) hL, r⟩, fun b x q => hk _ _ (fun z => by have := D.2.2; rw [← z, q] at this; cases this) (F.keep b x q), F.above⟩
theorem news_but {h' : Heap} {o₁ o₂ : Obj} (N : News h₀ L s.heap ((e, o₁) :: news)) (hn : ∀ p ∈ news, p.1 ≠ e) (he : h'.get? e = some o₂) (hk : ∀ b o, b ≠ e → s.heap.get? b = some o → h'.get? b = some o) : News h₀ L h' ((e, o₂) :: news) := by
  intro p hp
  have D := N (e, o₁) (.head _)
  rcases List.mem_cons.mp hp with rfl | hp
  · exact ⟨he, D.2⟩
  · have P := N p (.tail _ hp)
    exact ⟨hk _ _ (hn p hp) P.1, P.2⟩
theorem set_exc {Q : Unit → Shared → Prop} (F : Fr h₀ L s.heap m) (N : News h₀ L s.heap ((e, excObj C t) :: news)) (X₀ : K.In h₀) (hn : ∀ p ∈ news, p.1 ≠ e) (hs : findIn K (.ref C) "__setattr__" = some (some (.builtin "object.__setattr__")))
    (hc : clsIn K C = some cd) (hmro : cd.mro = [.ref C, .ref C₂, .type "Exception", .type "BaseException", .type "object"]) (hhd : cd.hasDict = true) (ha : findIn K (.ref C) name = some none)
    (h : ∀ d h' tk', Fr h₀ L h' m → News h₀ L h' ((e, excObjD C t d) :: news) → Q () { s with heap := h', toks := tk' }) :
    wpAny (model prog w) A (setAttr (.ref e) name v) Q E s :=
  set_exc_at (X₀.keeps F.keep) (N _ (.head _)).1 hs hc hmro hhd ha fun _ _ h1 h2 => h _ _ _ (fr_but F N h2) (news_but N hn h1 h2)
theorem getm_exc {pl : Sem Bool} {Q : Value × List Value → Shared → Prop} (F : Fr h₀ L s.heap m) (X₀ : K.In h₀)
    (ef : findCls K (.type "Exception") (.type "type") (PySem.Str.ofString "__init__") = some (.val (.builtin "Exception.__init__")))
    (h : Q (.builtin "Exception.__init__", []) { s with toks := s.toks + 1 }) :
    wpAny (model prog w) A (getMethod (.type "Exception") (PySem.Str.ofString "__init__") pl) Q E s := by
  have X := X₀.keeps F.keep
  have hstub : opaqueClassAbove (.type "Exception") = pure none := by unfold opaqueClassAbove; dsimp only; rw [show Manifest.isStub "Exception" = false by decide +kernel]; rfl
  have ht : typeOf (.type "Exception") = pure (.type "type") := by first | rfl | kernel_rfl
  have L0 : Looks (model prog w) s.heap (typeOf (.type "Exception")) (.type "type") := Looks.of_pure ht
  have hg : findIn K (.type "type") "__getattribute__" = some (some (.builtin "type.__getattribute__")) := type_tga
  unfold getMethod specialOf
  refine wpAny_bind (wpAny_bind (L0.here ((looks_findIn X hg).here ?_)))
  dsimp only
  rw [if_pos canon_tga]
  refine wpAny_bind (wpAny_mono (Q := fun v => Q (v, [])) (E := E) ?_ (fun _ _ z => wpAny_pure z) fun _ _ z => z)
  have LO : Looks (model prog w) s.heap (opaqueClassAbove (.type "Exception")) none := Looks.of_pure hstub
  refine cls_open X LO L0 hg (looks_hook X (r := none) (by rfl)) (by show subIn K _ _ = _; rfl) ef ?_
  refine wpAny_pure ?_
  exact wpAny_pure h
theorem exc_check_init {M : Model} {h : Heap} {g : Array GenState} {d : Drawn} {tk : Nat} {os : OsState} {nm q : Str} {N : Addr} {bs bm bmB : List Value} {hdct : Bool} {sn : List Str} {sub : List Value} {ab : Bool} {col : Option Bool} {dd : Option Addr} {k0 k1 k2 k3 k5 : Option Value} {B newId initId : String}
    (F : ExcBaseFacts B newId initId bmB) {oe : Obj} {rest : List Value} {Q : Unit → Shared → Prop} (hC : h.get? C = some (excClassObj nm q C N bs bm hdct sn sub ab col dd k0 k1 k2 k3 k5 newId)) (b1 : (Value.ref C :: bm).contains (.type B) = true)
    (he : h.get? e = some oe) (hcls : oe.cls = .ref C) (hq : Q () ⟨h, g, d, tk, os⟩) : wpAny M A (checkBuiltinCall initId ⟨.ref e :: rest, []⟩) Q E ⟨h, g, d, tk, os⟩ := by
  have hshort := F.noStar
  simp only [checkBuiltinCall, F.initKind, F.initSplit, F.initRow]
  repeat (first | (with_reducible refine wpAny_loadPart_at he ?_; rw [hcls]) | with_reducible refine wpAny_loadPart_at hC ?_ | (with_reducible refine wpAny_isSubtype_exc hC ?_; rw [b1]) | wp_step)
  refine wpAny_onRaise ?_
  rw [show ∀ (a b : String) (n : Nat), Bind.check ⟨.positional, "*", B, .self, [⟨"args", .varPos, false⟩]⟩ a b n (List.map (fun x => x.fst) ({ pos := Value.ref e :: rest } : Args).kw) = pure () from
    fun a b n => check_star_args _ _ _ _ _ _]
  exact wpAny_pure hq
theorem init_exc_own {nm q : Str} {NS : Addr} {bs bm : List Value} {hdct : Bool} {sn : List Str} {sub : List Value} {ab : Bool} {col : Option Bool} {dd : Option Addr} {k0 k1 k2 k3 k5 : Option Value} {v : Value} {Q : Value → Shared → Prop} (F : Fr h₀ L s.heap m) (N : News h₀ L s.heap ((e, excObj C t) :: news)) (X₀ : K.In h₀) (hn : ∀ p ∈ news, p.1 ≠ e)
    (hC : K.lookup C = some (excClassObj nm q C NS bs bm hdct sn sub ab col dd k0 k1 k2 k3 k5 "Exception.__new__")) (b1 : (Value.ref C :: bm).contains (.type "Exception") = true)
    (h : ∀ t' h', Fr h₀ L h' m → News h₀ L h' ((e, excObj C t') :: (t', tupObj [v]) :: news) → (∀ p ∈ news, p.1 < t') → e < t' → Q .none { s with heap := h' }) :
    wpAny (model prog w) A (call (.builtin "Exception.__init__") [.ref e, v]) Q E s := by
  have FB := PySem.F.excBase_Exception
  have X := X₀.keeps F.keep
  have he := (N _ (.head _)).1
  have hC' := X _ _ hC
  obtain ⟨hp, g, d, tk, os⟩ := s
  refine wpAny_call (codeAny_call_builtin FB.init.plain FB.initEntry (exc_check_init FB hC' b1 he rfl ?_))
  unfold Builtin.«BaseException.__init__»
  dsimp only
  rw [if_neg (by simp)]
  unfold newTuple Builtin.BaseException.bexcPut
  have he₁ := Heap.get?_push_of_some (h := hp) (tupObj [v]) he
  refine wpAny_bind (wpAny_newObj_type (wpAny_bind (wpAny_bind (wpAny_field he₁ rfl rfl (wpAny_bind (wpAny_setField he₁ rfl (by show 0 < 6; decide) ?_))))) (by size_fits))
  refine wpAny_letGo (wpAny_pure ?_)
  have hlt := Heap.lt_size he
  have hk : ∀ b o, b ≠ e → hp.get? b = some o → ((hp.push (tupObj [v])).update e (Obj.mapFields (·.setIfInBounds 0 (.ref hp.objs.size)))).get? b = some o := fun b o hb ho => by
    rw [Heap.get?_update_other _ _ (Ne.symm hb)]; exact Heap.get?_push_of_some _ ho
  have hE : ((hp.push (tupObj [v])).update e (Obj.mapFields (·.setIfInBounds 0 (.ref hp.objs.size)))).get? e = some (excObj C hp.objs.size) := by
    rw [Heap.get?_update_self _ he₁ rfl]; rfl
  have hT : ((hp.push (tupObj [v])).update e (Obj.mapFields (·.setIfInBounds 0 (.ref hp.objs.size)))).get? hp.objs.size = some (tupObj [v]) := by
    rw [Heap.get?_update_other _ _ (Nat.ne_of_lt hlt)]; exact Heap.get?_push_size _ rfl
  have F' := fr_but F N hk
  have N' := news_but N hn hE hk
  refine h _ _ F' ?_ (fun p hp => Heap.lt_size (N p (.tail _ hp)).1) hlt
  intro p hp
  rcases List.mem_cons.mp hp with rfl | hp
  · exact N' _ (.head _)
  · rcases List.mem_cons.mp hp with rfl | hp
    · exact ⟨hT, Nat.ne_of_gt F.ns.lt, none_at_size F⟩
    · exact N' _ (.tail _ hp)
end
end
section
section
theorem kw13 : True := by
  k_with "getMethod type:Exception" => ((k_here; k_dflt (refine' getm_exc ?q51f ?q51x ?q51e ?_; (case q51f => k_asm); (case q51x => k_asm); (case q51e => k_is); k_whole)))
  k_with "call builtin:Exception.__init__" => ((k_here; k_dflt (refine' init_exc_own ?q52f ?q52n ?q52x ?q52o ?q52hC ?q52b1 ?_; (case q52f => k_asm); (case q52n => k_asm); (case q52x => k_asm); (case q52o => k_all); (case q52hC => k_is); (case q52b1 => decide +kernel); k_whole); intro t'z h'z F'z N'z l1 l2; (try k_lt l1)))
  k_with "setAttr ref" => ((k_here; k_dflt (refine' set_exc ?q53f ?q53n ?q53x ?q53o ?q53hs ?q53hc ?q53hm ?q53hh ?q53ha ?_; (case q53f => k_asm); (case q53n => k_asm); (case q53x => k_asm); (case q53o => k_all); (case q53hs => k_is); (case q53hc => k_is); (case q53hm => exact rfl); (case q53hh => exact rfl); (case q53ha => k_is); k_whole); intro d'z h'z tk'z F'z N'z))
  trivial
theorem c_fault {w : World} {vw : Program} {loose : List Str} {mean : ExcName → Option Value} {mg mb : Str → Option Value} {dp un : Nat} {gd : Option (List Code)} {cn : Str} {cs : Scope} {a : Addr} {ccd : Value} {cl : List (Str × Addr)} {outer : List Env} {A₀ : Around} {base h₀ : Heap} {L : Addr} {m : Str → Option Value} {s : Shared} {Q E : Value → Shared → Prop} {rest : List (Addr × Obj)}
   {msg : Str} {t : Tok} {C : Addr} (hC : C = 162 ∨ C = 174) (B : Below A₀ base outer h₀ := by k_asm) (F : Fr h₀ L s.heap m := by k_asm) (X : (Mine.k0.heap_1 w.params).In h₀ := by k_asm) (T : Top vw loose mean mg mb h₀ := by k_asm) (hk : cs.kind = .function := by exact rfl) (N : News h₀ L s.heap rest) (hdp : dp + 4 < recursionLimit := by ktr_room) (hu : un + 160 < cLine := by ktr_units)
   (ret : ∀ e tu d l h' tk', Fr h₀ L h' m → News h₀ L h' ((e, excObjD C tu d) :: (tu, tupObj [.str msg t]) :: (l ++ rest)) → (∀ p ∈ rest, p.1 ≠ e) → (∀ p ∈ rest, p.1 ≠ tu) → tu ≠ e → Q (.ref e) { s with heap := h', toks := tk' }) :
   wpAny (model PySem.Challenge.pw_sm0079_01 w) (ktrTop dp un gd cn cs L a ccd cl outer) (call (.ref C) [.str msg t]) Q E s := by
  rcases hC with rfl | rfl
  all_goals
    refine' call_exc PySem.F.excBase_Exception F N X ?hC ?b1 ?b2 ?b3 ?hi ?hf ?hc ?hr ?_
    case hC => k_is
    case b1 => decide +kernel
    case b2 => decide +kernel
    case b3 => decide +kernel
    case hi => k_is
    case hf => k_is
    case hc => k_is
    case hr => exact Nat.le_of_ble_eq_true rfl
    intro e' t' h' F' N' l1 l2
    k_lt l1
    have hR7 := restNe l1 (Nat.le_of_lt l2)
    k_dflt k_enter
    k_steps
  all_goals (try k_data)
  all_goals (refine ret _ _ _ [_] _ _ (by assumption) (by assumption) hR7 ?_ ?_)
  all_goals first | k_ne | k_all
end
end
section
theorem kw14 : True := by
  k_with_none
  k_with "k_all" => (first | with_reducible assumption | exact List.forall_mem_nil _ | exact allNe (by with_reducible assumption) | (refine' List.forall_mem_cons.mpr ⟨?q1a, ?q1b⟩; (case q1a => k_ne); (case q1b => k_all)) | exact subNe (by with_reducible assumption) (fun q hq => by kbo_some) | exact subNeT (by with_reducible assumption) (by with_reducible assumption) (fun q hq => by kbo_some) | exact subNeQ (by with_reducible assumption) (fun q hq => by kbo_some) | assumption)
  k_with "kbo_some" => (first | with_reducible assumption | exact List.Mem.head _ | (refine' List.mem_cons_of_mem _ ?_; kbo_some) | ((with_reducible refine List.mem_append.mpr (Or.inr ?_)); kbo_some))
  k_with "k_mem" => (first | kbo_some | assumption)
  k_with "k_upd" => (first | (refine' Upd.head ?q4a; (case q4a => k_all)) | (refine' Upd.tail ?q4a ?q4b; (case q4a => k_ne); (case q4b => k_upd)))
  k_with "k_updF" => (first | (refine' UpdF.head ?q5a; (case q5a => k_all)) | (refine' UpdF.tail ?q5a ?q5b; (case q5a => k_ne); (case q5b => k_updF)))
  k_with "k_ne" => (((try dsimp only); first | with_reducible assumption | (refine Ne.symm ?_; with_reducible assumption) | (refine Nat.ne_of_gt ?_; with_reducible assumption) | (refine Nat.ne_of_lt ?_; with_reducible assumption) | (refine neR (by with_reducible assumption) ?_; k_extra "has") | (refine neL (by with_reducible assumption) ?_; k_extra "has") | (refine neQ (by with_reducible assumption) ?_; k_extra "has") | (refine neP (by with_reducible assumption) ?_; k_extra "has") | (refine neT (by with_reducible assumption) (by with_reducible assumption) ?_; k_extra "has") | (refine neU (by with_reducible assumption) (by with_reducible assumption) ?_; k_extra "has") | exact Nat.ne_of_lt (Nat.lt_succ_self _) | exact Nat.ne_of_gt (Nat.lt_succ_self _) | omega))
  k_with "k_enter" => (first
  | (refine' code_def ?q7k1 ?q7k2 ?q7k3 ?q7k4 ?q7k5 ?q7kA ?q7kF ?q7kK ?q7k6 ?q7k7 ?q7k8 ?q7k9 ?q7kB ?_ ?q7c2 ?q7c3 ?q7c4 ?q7c5; (case q7kA => exact rfl); (case q7kF => exact rfl); (case q7kK => first | exact rfl | assumption); (case q7k1 => k_asm); (case q7k2 => k_asm); (case q7k3 => k_asm); (case q7k4 => k_asm); (case q7k5 => k_asm); (case q7k6 => k_is); (case q7k7 => k_is); (case q7k8 => ktr_room); (case q7k9 => first | exact BindsTo.of_eq rfl | exact binds_K (by k_in) rfl (by k_is) rfl rfl rfl); (case q7c5 => decide); (case q7kB => exact locs rfl); (case q7c2 => exact rfl); (case q7c3 => exact rfl); (case q7c4 => exact rfl); k_whole; intro g'z L'z h'z FG'z F'z N'z B'z X'z T'z; (try dsimp only); (try k_fold); (try (refine letA ?_; intro A9)))
  | (refine' code_defC ?q7k1 ?q7k2 ?q7k3 ?q7k4 ?q7k5 ?q7kA ?q7kF ?q7kK ?q7k6 ?q7k7 ?q7k8 ?q7k9 ?q7kB ?q7kD ?_ ?q7c2 ?q7c3 ?q7c4; (case q7kA => exact rfl); (case q7kF => exact rfl); (case q7kK => first | exact rfl | assumption); (case q7k1 => k_asm); (case q7k2 => k_asm); (case q7k3 => k_asm); (case q7k4 => k_asm); (case q7k5 => k_asm); (case q7k6 => k_is); (case q7k7 => k_is); (case q7k8 => ktr_room); (case q7k9 => first | exact BindsTo.of_eq rfl | exact binds_K (by k_in) rfl (by k_is) rfl rfl rfl); (case q7kB => exact rfl); (case q7kD => decide +kernel); (case q7c2 => exact rfl); (case q7c3 => exact rfl); (case q7c4 => exact rfl); k_whole; intro g'z L'z h'z tk'z cells'z FG'z F'z N'z Y'z B'z X'z T'z l1; (try k_lt l1); (try (have hR6 := restNe l1 (Nat.le_add_right _ 1); have hR5 := restNe l1 (Nat.le_add_right _ (1 + 1)))); (first   | (have hY := CellsAre.one Y'z; obtain ⟨o'z, hE'z, d1'z⟩ := hY; subst hE'z; clear Y'z; (first | (replace d1'z : o'z.data = .cell none := d1'z) | (replace d1'z : o'z.data = .cell (some _) := d1'z) | skip))   | (have hY := CellsAre.two Y'z; obtain ⟨o'z, o2'z, hE'z, d1'z, d2'z⟩ := hY; subst hE'z; clear Y'z; (first | (replace d1'z : o'z.data = .cell none := d1'z) | (replace d1'z : o'z.data = .cell (some _) := d1'z) | skip); (first | (replace d2'z : o2'z.data = .cell none := d2'z) | (replace d2'z : o2'z.data = .cell (some _) := d2'z) | skip))); (try simp only [List.cons_append, List.nil_append] at N'z); (try dsimp only); (try k_fold); (try (refine letA ?_; intro A9))))
  k_with "ktr_room" => (((try simp +zetaDelta only [depth_deeper, depth_in1, depth_mark, depth_under_make, depth_under_kw]); (try dsimp only [ktrTop]); (try simp only [Nat.add_assoc, Nat.reduceAdd]); refine Nat.lt_of_le_of_lt (Nat.add_le_add_left ?_ _) (by with_reducible assumption); decide))
  k_with "ktr_units" => (((try simp +zetaDelta only [units_deeper, units_in1, Around.mark_units]); (try dsimp only [ktrTop]); (try simp only [Nat.add_assoc, Nat.reduceAdd]); refine Nat.lt_of_le_of_lt (Nat.add_le_add_left ?_ _) (by with_reducible assumption); decide))
  k_with "kbd_text" => (first | exact Pick.head | (apply Pick.tail; kbd_text))
  k_with "hide" => ((refine hideG ?_; intro G9))
  k_with "has" => (first | with_reducible exact Has.head | (refine Has.tail ?_; k_extra "has"))
  k_with "lt" => (first | with_reducible assumption | (refine Has.lt (by with_reducible assumption) ?_; k_extra "has") | (refine ltT (by with_reducible assumption) (by with_reducible assumption) ?_; k_extra "has"))
  k_with "ltAll" => (first | with_reducible assumption | exact allLt_mem (by with_reducible assumption) | exact subLt (by with_reducible assumption) (fun q hq => by kbo_some))
  k_with "FinE" => (((unfold LCg.FinE); intro D'z h'z tk'z F'z N'z o1'z; (have hR8 := off1_ne o1'z); (try simp only [List.nil_append, List.cons_append] at N'z); (try dsimp only)))
  k_with "lcg_off" => (first | exact True.intro | with_reducible assumption | (refine And.intro ⟨by k_ne, by k_ne, by k_ne⟩ ?_; lcg_off))
  k_with "CompEnd" => ((k_here; k_dflt (refine' compEndP ?q17f ?q17n ?q17p1 ?q17p2 ?q17p3 ?q17o ?q17s ?_; (case q17f => k_asm); (case q17n => k_asm); (case q17p1 => kbd_text); (case q17p2 => kbd_text); (case q17p3 => kbd_text); (case q17o => lcg_off); (case q17s => lcg_src); k_whole)))
  k_with "kbd_text" => (((with_reducible show Split _ _ _); first | exact Split.nil | (apply Split.cons; kbd_text)))
  k_with "exec While BoolOp cons nil" => ((k_here; refine while_mark ?_))
  k_with "exec While Compare cons nil" => ((k_here; refine while_mark ?_))
  k_with "subscriptTail Attribute" => ((k_here; k_dflt (refine kba_turn (value' := PySem.Expr.Name (PySem.Str.ofString "_") ⟨0, 0, 0, 0⟩) (fun _ => rfl) ?_)))
  k_with "ite" => ((k_closed; k_dflt (first | rw [if_pos (by decide)] | rw [if_neg (by decide)])))
  k_with "k_in" => (first | with_reducible assumption | exact Frag.In.keeps (by with_reducible assumption) (Fr.keep (by with_reducible assumption)))
  k_with "execs nil" => ((k_here; refine wpAny_execs_nil ?_))
  k_with "execs cons" => ((k_here; refine wpAny_execs_cons ?_))
  k_with "exec If" => ((k_here; refine wpAny_If ?_))
  trivial
def RaiseNow (E : Value → Shared → Prop) (v : Value) (s₁ : Shared) : Prop :=
  ∃ (C e t d : Addr) (nm q : Str) (N : Addr) (bs bm : List Value) (hdct : Bool) (sn : List Str) (sub : List Value) (ab : Bool) (col : Option Bool) (dd : Option Addr) (k0 k1 k2 k3 k5 : Option Value) (newId : String),
    s₁.heap.get? C = some (excClassObj nm q C N bs bm hdct sn sub ab col dd k0 k1 k2 k3 k5 newId) ∧ (Value.ref C :: bm).contains (.type "BaseException") = true ∧ v = .ref e ∧ s₁.heap.get? e = some (excObjD C t d) ∧ E (.ref e) s₁
section
variable {prog : Program} {w : World} {A : Around} {E : Value → Shared → Prop} {s s' : Shared} {env : Env} {K : Frag} {base g h₀ : Heap} {outer : List Env} {L a e t d C : Addr} {m : Str → Option Value} {news all : List (Addr × Obj)} {name : Str} {scope : Scope} {cd : Value} {M : Model}
theorem raise_stmt {x : Sem Value} {Q : Flow → Shared → Prop} (hh : A.handled = none) (h : wpAny M A x (RaiseNow E) E s) : wpAny M A (raiseStmt env (some x) none) Q E s := by
  unfold raiseStmt
  refine wpAny_bind (wpAny_mono h (fun v s₁ h₁ => ?_) fun _ _ x => x)
  obtain ⟨C, e, t, d, nm, q, N, bs, bm, hdct, sn, sub, ab, col, dd, k0, k1, k2, k3, k5, newId, hC, hcB, rfl, he, hE⟩ := h₁
  obtain ⟨hp, g, dr, tk, os⟩ := s₁
  repeat (first | with_reducible refine wpAny_loadPart_at he ?_ | with_reducible refine wpAny_loadPart_at hC ?_ | (with_reducible refine wpAny_isSubtype_exc hC ?_; rw [hcB]) | wp_step)
  exact wpAny_raiseNew_none hh hE
theorem raise_own {x : PySem.Expr} {pos : Pos} {Q : Flow → Shared → Prop} (hh : A.handled = none) (h : wpAny M A (eval x env) (RaiseNow E) E s) :
    wpAny M A (exec (.Raise (some x) none pos) env) Q E s := by
  rw [arm_exec_Raise]
  simp only [evalOpt, Option.map]
  refine wpAny_bind (wpAny_standAt (raise_stmt hh (wpAny_bind (wpAny_mono h (fun v s₃ h₃ => wpAny_bind (wpAny_standAt (wpAny_pure h₃))) fun _ _ x => x))))
theorem raise_now {nm q : Str} {NS : Addr} {bs bm : List Value} {hdct : Bool} {sn : List Str} {sub : List Value} {ab : Bool} {col : Option Bool} {dd : Option Addr} {k0 k1 k2 k3 k5 : Option Value} {newId : String}
    (F : Fr h₀ L s.heap m) (N : News h₀ L s.heap all) (X₀ : K.In h₀) (hm : (e, excObjD C t d) ∈ all) (hC : K.lookup C = some (excClassObj nm q C NS bs bm hdct sn sub ab col dd k0 k1 k2 k3 k5 newId)) (hb : (Value.ref C :: bm).contains (.type "BaseException") = true)
    (hE : E (.ref e) s) : RaiseNow E (.ref e) s :=
  ⟨C, e, t, d, nm, q, NS, bs, bm, hdct, sn, sub, ab, col, dd, k0, k1, k2, k3, k5, newId, (X₀.keeps F.keep) _ _ hC, hb, rfl, (N _ hm).1, hE⟩
theorem leave_exc {vs : List Value} {Q : Unit → Shared → Prop} (B : Below A base outer g) (F : Fr g L s'.heap m) (NE : News g L s'.heap ((e, excObjD C t d) :: (t, tupObj vs) :: all)) (sub : ∀ q ∈ news, q ∈ all)
    (n1 : ∀ q ∈ news, q.1 ≠ e) (n2 : ∀ q ∈ news, q.1 ≠ t) (hte : t ≠ e)
    (hQ : ∀ h', RaisedS base g outer e (.ref C) t vs news h' → g.UpToSlots h' → Q () { s' with heap := h' }) (hk : scope.kind = .function := by rfl) :
    wpAny M (A.deeper (envOf name scope L a cd)) (leaving (envOf name scope L a cd) (.ref e)) Q E s' := by
  have K' := B.push (name := name) (a := a) (cd := cd) F hk
  have De := NE _ (.head _)
  have Dt := NE _ (.tail _ (.head _))
  have be : base.get? e = none := fresh_of_stays B.stays De.2.2
  have bt : base.get? t = none := fresh_of_stays B.stays Dt.2.2
  let as := e :: t :: (envOf name scope L a cd :: outer).filterMap (·.frame)
  have hin : ∀ env ∈ (envOf name scope L a cd :: outer), ∀ b, env.frame = some b → b ∈ as := fun env he b hb => .tail _ (.tail _ (List.mem_filterMap.mpr ⟨env, he, hb⟩))
  have st : base.StaysIn (hideAll s'.heap as) := fun b o q => hideAll_get _ (K'.stays b o q) fun hm => by
    rcases List.mem_cons.mp hm with rfl | hm
    · rw [be] at q; cases q
    · rcases List.mem_cons.mp hm with rfl | hm
      · rw [bt] at q; cases q
      · rw [(K'.frames.mem hm).1] at q; cases q
  have sg : ∀ b o, g.get? b = some o → b ∉ outer.filterMap (·.frame) → (hideAll s'.heap as).get? b = some o := fun b o q nm => hideAll_get _ (F.keep b o q) fun hm => by
    rcases List.mem_cons.mp hm with rfl | hm
    · rw [De.2.2] at q; cases q
    · rcases List.mem_cons.mp hm with rfl | hm
      · rw [Dt.2.2] at q; cases q
      · rcases kts_mem hm with z | z
        · rw [z, kts_self F] at q; cases q
        · exact nm z
  have hl : ∀ q ∈ news, (hideAll s'.heap as).get? q.1 = some q.2 ∧ g.get? q.1 = none ∧ base.get? q.1 = none := fun q hq => by
    have Dq := NE q (.tail _ (.tail _ (sub q hq)))
    refine ⟨hideAll_get _ Dq.1 fun hm => ?_, Dq.2.2, fresh_of_stays B.stays Dq.2.2⟩
    rcases List.mem_cons.mp hm with hm | hm
    · exact n1 q hq hm
    · rcases List.mem_cons.mp hm with hm | hm
      · exact n2 q hq hm
      · obtain ⟨env, he, hf⟩ := List.mem_filterMap.mp hm
        rcases List.mem_cons.mp he with rfl | he
        · exact Dq.2.1 (Option.some.inj hf).symm
        · obtain ⟨o, ho, _⟩ := (B.frames.mem (List.mem_filterMap.mpr ⟨env, he, hf⟩)).2
          rw [Dq.2.2] at ho; cases ho
  refine wpAny_leaving_firstW (base := hideAll s'.heap as) K'.stack (funFrames_hide K'.frames hin) rfl De.1 (fun b o q => of_hideAll _ q) (hideAll_none _ (.head _)) rfl rfl (a0 := .ref t) rfl fun h' hL => ?_
  obtain ⟨k1, ⟨_, _, k2⟩, k3, k4⟩ := hL
  refine hQ h' ⟨⟨_, st, sg, hl, ⟨k1, hideAll_none _ (.head _), k2, k3⟩, hideAll_none _ (.tail _ (.head _))⟩, ?_⟩ ((Heap.UpToSlots.of_keeps F.keep).trans k4)
  exact Heap.TupAt.of_slots ⟨_, _, Dt.1, rfl, rfl⟩ k4
end
theorem RaisedS.mono {base G : Heap} {l : List Env} {e : Addr} {cls : Value} {t : Addr} {vs : List Value} {news news' : List (Addr × Obj)} {h : Heap} (R : RaisedS base G l e cls t vs news h) (sub : ∀ q ∈ news', q ∈ news) : RaisedS base G l e cls t vs news' h :=
  let ⟨⟨B, a, a', b, c, d⟩, k⟩ := R
  ⟨⟨B, a, a', fun q hq => b q (sub q hq), c, d⟩, k⟩
theorem leave_onR {M : Model} {A : Around} {E : Value → Shared → Prop} {s' : Shared} {base g g₂ : Heap} {outer : List Env} {L a e t : Addr} {m : Str → Option Value} {name : Str} {scope : Scope} {cd : Value} {Q : Unit → Shared → Prop} {news : List (Addr × Obj)} {cls : Value} {vs : List Value} (K : Below A base outer g) (F : Fr g L g₂ m) (R : RaisedS base g₂ (envOf name scope L a cd :: outer) e cls t vs news s'.heap) (hsm : g₂.UpToSlots s'.heap)
    (hQ : ∀ h', RaisedS base g outer e cls t vs news h' → g.UpToSlots h' → Q () { s' with heap := h' }) :
    wpAny M (A.deeper (envOf name scope L a cd)) (leaving (envOf name scope L a cd) (.ref e)) Q E s' :=
  leave_onS K F R hsm fun h' R _ U => hQ h' R U
end
section
def GoodW (w : Str) : Prop := w = Str.ofString "#37" ∨ w = Str.ofString "#65" ∨ w = Str.ofString "p" ∨ w = Str.ofString "q" ∨ w = Str.ofString "r" ∨ w = Str.ofString "e" ∨ w = Str.ofString "none"
theorem at_drop {x : Str} {i : Int} {l : List Nat} (hs : x.cps.toList.drop i.toNat = l) (v : Nat) : x.cps.toList[i.toNat + v]? = l[v]? := by
  rw [← hs, List.getElem?_drop]
theorem getD_of {x : Str} {k c : Nat} (h : x.cps.toList[k]? = some c) : x.cps.getD k 0 = c := by
  have h' : x.cps[k]? = some c := by rw [← Array.getElem?_toList]; exact h
  simp [h']
theorem len_drop {x : Str} {i : Int} {l : List Nat} (h0 : 0 ≤ i) (hs : x.cps.toList.drop i.toNat = l) (hl : 0 < l.length) : (x.length : Int) = i + l.length := by
  have h1 : x.cps.toList.length = x.length := by simp [Str.length]
  have h2 : (x.cps.toList.drop i.toNat).length = l.length := by rw [hs]
  rw [List.length_drop] at h2
  omega
theorem find_ref {x : Str} {i : Int} {c : Nat} {w tl : List Nat} (h0 : 0 ≤ i) (hs : x.cps.toList.drop i.toNat = c :: (w ++ 59 :: tl)) (hc : c ≠ 59) (hw : 59 ∉ w) : Txt.find3 x (Str.ofString ";") i = i + 1 + w.length := by
  have hl := len_drop h0 hs (by simp)
  simp only [List.length_cons, List.length_append] at hl
  have hf : fromIndex x.length i = i.toNat := by
    unfold fromIndex
    split <;> omega
  have hsep : Str.ofString ";" = ⟨#[59]⟩ := by decide +kernel
  have hhere : x.cps.getD (i.toNat + (1 + w.length)) 0 = 59 := by
    refine getD_of ?_
    rw [at_drop hs]
    rw [show 1 + w.length = w.length + 1 from by omega, List.getElem?_cons_succ, List.getElem?_append_right (Nat.le_refl _)]
    simp
  have hbefore : ∀ v, i.toNat ≤ v → v < i.toNat + (1 + w.length) → x.cps.getD v 0 ≠ 59 := by
    intro v h1 h2
    obtain ⟨u, rfl⟩ : ∃ u, v = i.toNat + u := ⟨v - i.toNat, by omega⟩
    cases u with
    | zero => rw [getD_of (c := c) (by rw [at_drop hs]; rfl)]; exact hc
    | succ u =>
      have hu : u < w.length := by omega
      rw [getD_of (c := w[u]) (by rw [at_drop hs, List.getElem?_cons_succ, List.getElem?_append_left hu, List.getElem?_eq_getElem hu])]
      intro e
      exact hw (e ▸ List.getElem_mem hu)
  rw [hsep]
  rcases StrLaws.find3_spec x 59 i with ⟨_, hn⟩ | ⟨k, hk, k1, k2, k3, k4⟩
  · exact absurd hhere (hn _ (by omega) (by omega))
  · rw [hk]
    rw [hf] at k1 k4
    rcases Nat.lt_trichotomy k (i.toNat + (1 + w.length)) with q | q | q
    · exact absurd k3 (hbefore k (by omega) q)
    · omega
    · exact absurd hhere (k4 _ (by omega) q)
theorem slice_ref {x : Str} {i : Int} {c : Nat} {w tl : List Nat} (h0 : 0 ≤ i) (hs : x.cps.toList.drop i.toNat = c :: (w ++ 59 :: tl)) : Txt.slice x (some (i + 1)) (some (i + 1 + w.length)) = ⟨w.toArray⟩ := by
  have hl := len_drop h0 hs (by simp)
  simp only [List.length_cons, List.length_append] at hl
  rw [slice_cut (by omega) (by omega) (by omega)]
  unfold cut
  congr 2
  rw [show (i + 1).toNat = i.toNat + 1 from by omega, ← List.drop_drop, hs]
  rw [show (i + 1 + (w.length : Int) - (i + 1)).toNat = w.length from by omega]
  simp
section
variable {prog : Program} {w : World} {A : Around} {E : Value → Shared → Prop} {s : Shared} {Q : Value → Shared → Prop} {h₀ : Heap} {L : Addr} {m : Str → Option Value} {news : List (Addr × Obj)}
theorem my_find {x : Str} {i : Int} {c : Nat} {word : Str} {tl : List Nat} {tx t ti : Tok} (h0 : 0 ≤ i) (hs : x.cps.toList.drop i.toNat = c :: (word.cps.toList ++ 59 :: tl)) (hc : c ≠ 59) (hw : 59 ∉ word.cps.toList)
    (h : ∀ t' k, Q (.int (i + 1 + word.length) t') { s with toks := k }) : wpAny (model prog w) A (call (.builtin "str.find") [.str x tx, .str (Str.ofString ";") t, .int i ti]) Q E s := by
  refine SC.find3 ?_
  rw [find_ref h0 hs hc hw, show word.cps.toList.length = word.length by simp [Str.length]]
  exact h _ _
theorem my_word {value slice : PySem.Expr} {x : Str} {t ui uj : Tok} {i j : Int} {c : Nat} {word : Str} {tl : List Nat} (h0 : 0 ≤ i) (hs : x.cps.toList.drop i.toNat = c :: (word.cps.toList ++ 59 :: tl)) (hj : j = i + 1 + word.length) (hx : x.length ≤ 1000)
    (hF : Fr h₀ L s.heap m) (hN : News h₀ L s.heap news) (h : ∀ h' t' k, Fr h₀ L h' m → News h₀ L h' news → Q (.str word t') { s with heap := h', toks := k })
    (hss : subscripted slice false (.str x t) (.ref s.heap.objs.size) = operate [.ref s.heap.objs.size, .str x t] (getItem (.str x t) (.ref s.heap.objs.size)) := by with_unfolding_all rfl)
    (ht : ∀ r, letTemporaryGo value (.str x t) r = pure () := by intro _; with_unfolding_all rfl) :
    wpAny (model prog w) A (subscriptTail value slice (.str x t) (.ref s.heap.objs.size)) Q E { s with heap := s.heap.push { cls := .type "slice", data := .fields #[.int (i + 1) ui, .int j uj, .none] } } := by
  subst hj
  refine slice_strN_ss (hsz := by rw [sizeLine_eq]; omega) hF hN (fun h' t' k a b => ?_) hss ht
  have e := slice_ref h0 hs
  rw [show word.cps.toList.length = word.length by simp [Str.length]] at e
  rw [e]
  exact h h' t' k a b
theorem head_slice {value slice : PySem.Expr} {x : Str} {t uj : Tok} (hx : x.length ≤ 1000)
    (hF : Fr h₀ L s.heap m) (hN : News h₀ L s.heap news) (h : ∀ h' t' k, Fr h₀ L h' m → News h₀ L h' news → Q (.str (Txt.slice x none (some 1)) t') { s with heap := h', toks := k })
    (hss : subscripted slice false (.str x t) (.ref s.heap.objs.size) = operate [.ref s.heap.objs.size, .str x t] (getItem (.str x t) (.ref s.heap.objs.size)) := by with_unfolding_all rfl)
    (ht : ∀ r, letTemporaryGo value (.str x t) r = pure () := by intro _; with_unfolding_all rfl) :
    wpAny (model prog w) A (subscriptTail value slice (.str x t) (.ref s.heap.objs.size)) Q E { s with heap := s.heap.push { cls := .type "slice", data := .fields #[.none, .int 1 uj, .none] } } :=
  slice_strN_ns (hsz := by rw [sizeLine_eq]; omega) hF hN (fun h' t' k a b => h h' t' k a b) hss ht
theorem ne_strT {x y : Str} {t u : Tok} (hx : x ≠ y) (h : Q (.bool true) s) : wpAny (model prog w) A (compareOp .NotEq (.str x t) (.str y u)) Q E s := by
  refine ne_str ?_
  rw [show (x != y) = true from bne_iff_ne.mpr hx]
  exact h
theorem ne_strF {x y : Str} {t u : Tok} (hx : x = y) (h : Q (.bool false) s) : wpAny (model prog w) A (compareOp .NotEq (.str x t) (.str y u)) Q E s := by
  refine ne_str ?_
  rw [show (x != y) = false from by rw [hx]; simp]
  exact h
end
theorem goodW_cases {w : Str} (h : GoodW w) : Txt.slice w none (some 1) = Str.ofString "#" ∨ (NameWord w ∧ Txt.slice w none (some 1) ≠ Str.ofString "#") := by
  rcases h with rfl | rfl | rfl | rfl | rfl | rfl | rfl
  · exact .inl (by decide +kernel)
  · exact .inl (by decide +kernel)
  · exact .inr ⟨.inl rfl, by decide +kernel⟩
  · exact .inr ⟨.inr (.inl rfl), by decide +kernel⟩
  · exact .inr ⟨.inr (.inr (.inl rfl)), by decide +kernel⟩
  · exact .inr ⟨.inr (.inr (.inr (.inl rfl))), by decide +kernel⟩
  · exact .inr ⟨.inr (.inr (.inr (.inr rfl))), by decide +kernel⟩
theorem goodW_len {w : Str} (h : GoodW w) : w.length ≤ 1000 := by
  rcases h with rfl | rfl | rfl | rfl | rfl | rfl | rfl <;> decide +kernel
section
theorem kw15 : True := by
  k_with "call builtin:str.find" => ((k_here; k_dflt (refine' my_find ?q54h0 ?q54hs ?q54hc ?q54hw ?_; (case q54h0 => assumption); (case q54hs => assumption); (case q54hc => assumption); (case q54hw => assumption); k_whole); intro t'z k'z))
  k_with "subscriptTail Name Slice str ref" => ((k_here; (with_reducible show wpAny _ _ (subscriptTail _ (PySem.Expr.Slice (some _) (some _) none _) (Value.str _ _) (Value.ref _)) _ _ _); k_dflt (refine' my_word (s := ⟨_, _, _, _, _⟩) ?q55h0 ?q55hs ?q55hj ?q55hx ?q55f ?q55n ?_; (case q55f => k_asm); (case q55n => k_asm); (case q55h0 => assumption); (case q55hs => assumption); (case q55hj => first | assumption | rfl | omega); (case q55hx => assumption); k_whole); intro h'z t'z k'z F'z N'z; (rcases goodW_cases (by assumption) with gE'z | ⟨gN'z, gE'z⟩)))
  k_with "subscriptTail Name Slice str ref" => ((k_here; (with_reducible show wpAny _ _ (subscriptTail _ (PySem.Expr.Slice none (some _) none _) (Value.str _ _) (Value.ref _)) _ _ _); k_dflt (refine' head_slice (s := ⟨_, _, _, _, _⟩) ?q56hx ?q56f ?q56n ?_; (case q56f => k_asm); (case q56n => k_asm); (case q56hx => exact goodW_len (by assumption)); k_whole); intro h'z t'z k'z F'z N'z))
  k_with "compareOp NotEq str str" => ((k_here; k_dflt (first | refine ne_strT (by with_reducible assumption) ?_ | refine ne_strF (by with_reducible assumption) ?_)))
  k_with "call ref" => (((k_here; (with_reducible show wpAny _ _ (call (Value.ref 105) _) _ _ _); k_dflt (refine' c_isname (ret := fun h'z tk'z F'z N'z => ?_)); k_whole); (try dsimp only)))
  trivial
theorem c_ref {w : World} {vw : Program} {loose : List Str} {mean : ExcName → Option Value} {mg mb : Str → Option Value} {dp un : Nat} {gd : Option (List Code)} {cn : Str} {cs : Scope} {a : Addr} {ccd : Value} {cl : List (Str × Addr)} {outer : List Env} {A₀ : Around} {base h₀ : Heap} {L : Addr} {m : Str → Option Value} {s : Shared} {Q E : Value → Shared → Prop} {rest : List (Addr × Obj)}
   {p pd : Addr} {x : Str} {tx k1 k2 k3 ti tm : Tok} {h1 h2 h3 : Int} {nm : Value} {i : Int} {c : Nat} {word : Str} {tl : List Nat} {place : Value}
   (B : Below A₀ base outer h₀ := by k_asm) (F : Fr h₀ L s.heap m := by k_asm) (X : (Mine.k0.heap_1 w.params).In h₀ := by k_asm) (T : Top vw loose mean mg mb h₀ := by k_asm) (hk : cs.kind = .function := by exact rfl)
   (N : News h₀ L s.heap ((p, W.instObj 297 pd) :: (pd, W.dictOf [⟨h1, .str (Str.ofString "text") k1, .str x tx⟩, ⟨h2, .str (Str.ofString "name") k2, nm⟩, ⟨h3, .str (Str.ofString "at") k3, .int i ti⟩] 3) :: rest))
   (hpd : p ≠ pd) (hr1 : ∀ q ∈ rest, q.1 ≠ p) (hr2 : ∀ q ∈ rest, q.1 ≠ pd) (h0 : 0 ≤ i) (hx : x.length ≤ 1000)
   (hs : x.cps.toList.drop i.toNat = c :: (word.cps.toList ++ 59 :: tl)) (hc : c ≠ 59) (hw : 59 ∉ word.cps.toList) (hg : GoodW word) (hdp : dp + 10 < recursionLimit := by ktr_room) (hu : un + 400 < cLine := by ktr_units)
   (ret : ∀ tj t h' tk', Fr h₀ L h' m →
     News h₀ L h' ((p, W.instObj 297 pd) :: (pd, W.dictOf [⟨h1, .str (Str.ofString "text") k1, .str x tx⟩, ⟨h2, .str (Str.ofString "name") k2, nm⟩, ⟨h3, .str (Str.ofString "at") k3, .int (i + 1 + word.length + 1) tj⟩] 3) :: rest) → Q (.str word t) { s with heap := h', toks := tk' }) :
   wpAny (model PySem.Challenge.pw_sm0079_01 w) (ktrTop dp un gd cn cs L a ccd cl outer) (call (.ref 294) [.ref p, place]) Q E s := by
  refine wpAny_call ?_
  k_dflt k_enter
  k_steps
  all_goals (try k_data)
  all_goals exact ret _ _ _ _ (by assumption) (by assumption)
end
end
section
section
variable {prog : Program} {w : World} {A : Around} {E : Value → Shared → Prop} {s : Shared} {env : Env} {h₀ : Heap} {m : Str → Option Value} {news : List (Addr × Obj)} {K : Frag}
theorem kw16 : True := by
  k_with_none
  k_with "k_all" => (first | with_reducible assumption | exact List.forall_mem_nil _ | exact allNe (by with_reducible assumption) | (refine' List.forall_mem_cons.mpr ⟨?q1a, ?q1b⟩; (case q1a => k_ne); (case q1b => k_all)) | exact subNe (by with_reducible assumption) (fun q hq => by kbo_some) | exact subNeT (by with_reducible assumption) (by with_reducible assumption) (fun q hq => by kbo_some) | exact subNeQ (by with_reducible assumption) (fun q hq => by kbo_some) | assumption)
  k_with "kbo_some" => (first | with_reducible assumption | exact List.Mem.head _ | (refine' List.mem_cons_of_mem _ ?_; kbo_some) | ((with_reducible refine List.mem_append.mpr (Or.inr ?_)); kbo_some))
  k_with "k_mem" => (first | kbo_some | assumption)
  k_with "k_upd" => (first | (refine' Upd.head ?q4a; (case q4a => k_all)) | (refine' Upd.tail ?q4a ?q4b; (case q4a => k_ne); (case q4b => k_upd)))
  k_with "k_updF" => (first | (refine' UpdF.head ?q5a; (case q5a => k_all)) | (refine' UpdF.tail ?q5a ?q5b; (case q5a => k_ne); (case q5b => k_updF)))
  k_with "k_ne" => (((try dsimp only); first | with_reducible assumption | (refine Ne.symm ?_; with_reducible assumption) | (refine Nat.ne_of_gt ?_; with_reducible assumption) | (refine Nat.ne_of_lt ?_; with_reducible assumption) | (refine neR (by with_reducible assumption) ?_; k_extra "has") | (refine neL (by with_reducible assumption) ?_; k_extra "has") | (refine neQ (by with_reducible assumption) ?_; k_extra "has") | (refine neP (by with_reducible assumption) ?_; k_extra "has") | (refine neT (by with_reducible assumption) (by with_reducible assumption) ?_; k_extra "has") | (refine neU (by with_reducible assumption) (by with_reducible assumption) ?_; k_extra "has") | exact Nat.ne_of_lt (Nat.lt_succ_self _) | exact Nat.ne_of_gt (Nat.lt_succ_self _) | omega))
  k_with "k_enter" => (first
  | (refine' code_def ?q7k1 ?q7k2 ?q7k3 ?q7k4 ?q7k5 ?q7kA ?q7kF ?q7kK ?q7k6 ?q7k7 ?q7k8 ?q7k9 ?q7kB ?_ ?q7c2 ?q7c3 ?q7c4 ?q7c5; (case q7kA => exact rfl); (case q7kF => exact rfl); (case q7kK => first | exact rfl | assumption); (case q7k1 => k_asm); (case q7k2 => k_asm); (case q7k3 => k_asm); (case q7k4 => k_asm); (case q7k5 => k_asm); (case q7k6 => k_is); (case q7k7 => k_is); (case q7k8 => ktr_room); (case q7k9 => first | exact BindsTo.of_eq rfl | exact binds_K (by k_in) rfl (by k_is) rfl rfl rfl); (case q7c5 => decide); (case q7kB => exact locs rfl); (case q7c2 => exact rfl); (case q7c3 => exact rfl); (case q7c4 => exact rfl); k_whole; intro g'z L'z h'z FG'z F'z N'z B'z X'z T'z; (try dsimp only); (try k_fold); (try (refine letA ?_; intro A9)))
  | (refine' code_defC ?q7k1 ?q7k2 ?q7k3 ?q7k4 ?q7k5 ?q7kA ?q7kF ?q7kK ?q7k6 ?q7k7 ?q7k8 ?q7k9 ?q7kB ?q7kD ?_ ?q7c2 ?q7c3 ?q7c4; (case q7kA => exact rfl); (case q7kF => exact rfl); (case q7kK => first | exact rfl | assumption); (case q7k1 => k_asm); (case q7k2 => k_asm); (case q7k3 => k_asm); (case q7k4 => k_asm); (case q7k5 => k_asm); (case q7k6 => k_is); (case q7k7 => k_is); (case q7k8 => ktr_room); (case q7k9 => first | exact BindsTo.of_eq rfl | exact binds_K (by k_in) rfl (by k_is) rfl rfl rfl); (case q7kB => exact rfl); (case q7kD => decide +kernel); (case q7c2 => exact rfl); (case q7c3 => exact rfl); (case q7c4 => exact rfl); k_whole; intro g'z L'z h'z tk'z cells'z FG'z F'z N'z Y'z B'z X'z T'z l1; (try k_lt l1); (try (have hR6 := restNe l1 (Nat.le_add_right _ 1); have hR5 := restNe l1 (Nat.le_add_right _ (1 + 1)))); (first   | (have hY := CellsAre.one Y'z; obtain ⟨o'z, hE'z, d1'z⟩ := hY; subst hE'z; clear Y'z; (first | (replace d1'z : o'z.data = .cell none := d1'z) | (replace d1'z : o'z.data = .cell (some _) := d1'z) | skip))   | (have hY := CellsAre.two Y'z; obtain ⟨o'z, o2'z, hE'z, d1'z, d2'z⟩ := hY; subst hE'z; clear Y'z; (first | (replace d1'z : o'z.data = .cell none := d1'z) | (replace d1'z : o'z.data = .cell (some _) := d1'z) | skip); (first | (replace d2'z : o2'z.data = .cell none := d2'z) | (replace d2'z : o2'z.data = .cell (some _) := d2'z) | skip))); (try simp only [List.cons_append, List.nil_append] at N'z); (try dsimp only); (try k_fold); (try (refine letA ?_; intro A9))))
  k_with "ktr_room" => (((try simp +zetaDelta only [depth_deeper, depth_in1, depth_mark, depth_under_make, depth_under_kw]); (try dsimp only [ktrTop]); (try simp only [Nat.add_assoc, Nat.reduceAdd]); refine Nat.lt_of_le_of_lt (Nat.add_le_add_left ?_ _) (by with_reducible assumption); decide))
  k_with "ktr_units" => (((try simp +zetaDelta only [units_deeper, units_in1, Around.mark_units]); (try dsimp only [ktrTop]); (try simp only [Nat.add_assoc, Nat.reduceAdd]); refine Nat.lt_of_le_of_lt (Nat.add_le_add_left ?_ _) (by with_reducible assumption); decide))
  k_with "kbd_text" => (first | exact Pick.head | (apply Pick.tail; kbd_text))
  k_with "hide" => ((refine hideG ?_; intro G9))
  k_with "has" => (first | with_reducible exact Has.head | (refine Has.tail ?_; k_extra "has"))
  k_with "lt" => (first | with_reducible assumption | (refine Has.lt (by with_reducible assumption) ?_; k_extra "has") | (refine ltT (by with_reducible assumption) (by with_reducible assumption) ?_; k_extra "has"))
  k_with "ltAll" => (first | with_reducible assumption | exact allLt_mem (by with_reducible assumption) | exact subLt (by with_reducible assumption) (fun q hq => by kbo_some))
  k_with "FinE" => (((unfold LCg.FinE); intro D'z h'z tk'z F'z N'z o1'z; (have hR8 := off1_ne o1'z); (try simp only [List.nil_append, List.cons_append] at N'z); (try dsimp only)))
  k_with "lcg_off" => (first | exact True.intro | with_reducible assumption | (refine And.intro ⟨by k_ne, by k_ne, by k_ne⟩ ?_; lcg_off))
  k_with "CompEnd" => ((k_here; k_dflt (refine' compEndP ?q17f ?q17n ?q17p1 ?q17p2 ?q17p3 ?q17o ?q17s ?_; (case q17f => k_asm); (case q17n => k_asm); (case q17p1 => kbd_text); (case q17p2 => kbd_text); (case q17p3 => kbd_text); (case q17o => lcg_off); (case q17s => lcg_src); k_whole)))
  k_with "kbd_text" => (((with_reducible show Split _ _ _); first | exact Split.nil | (apply Split.cons; kbd_text)))
  k_with "exec While BoolOp cons nil" => ((k_here; refine while_mark ?_))
  k_with "exec While Compare cons nil" => ((k_here; refine while_mark ?_))
  k_with "subscriptTail Attribute" => ((k_here; k_dflt (refine kba_turn (value' := PySem.Expr.Name (PySem.Str.ofString "_") ⟨0, 0, 0, 0⟩) (fun _ => rfl) ?_)))
  k_with "ite" => ((k_closed; k_dflt (first | rw [if_pos (by decide)] | rw [if_neg (by decide)])))
  k_with "k_in" => (first | with_reducible assumption | exact Frag.In.keeps (by with_reducible assumption) (Fr.keep (by with_reducible assumption)))
  k_with "execs nil" => ((k_here; refine wpAny_execs_nil ?_))
  k_with "execs cons" => ((k_here; refine wpAny_execs_cons ?_))
  k_with "exec If" => ((k_here; refine wpAny_If ?_))
  trivial
theorem iter_ktup {Q : Flow → Shared → Prop} {target : PySem.Expr} {body : List Stmt} {t : Addr} {items : Array Value} {od : Option Addr} {n : Nat} {sl : Array (Option Value)}
    (hh : A.handled = none) (X : K.In h₀) (hl : K.lookup t = some ⟨.type "tuple", od, .seq items n, sl⟩) (F : Fr h₀ env.locals s.heap m) (N : News h₀ env.locals s.heap news)
    (h : Unr prog w A E h₀ env target body Q (fun i v => items[i]? = some v) [s.heap.objs.size, t] { s with heap := s.heap.push { cls := .type "tuple_iterator", data := .fields #[.ref t, .int 0 0] } } items.size 0 m news) :
    wpAny (model prog w) A (pyIter (.ref t)) (fun it s₂ => UnrAt prog w A h₀ env target body Q E it s₂) E s :=
  Iter_tuple_unr hh ⟨_, X.keeps F.keep _ _ hl, rfl, _, rfl⟩ F N (Nat.ne_of_lt (Nat.lt_of_lt_of_le (Heap.lt_size (X _ _ hl)) F.above)) h
end
section
theorem kw17 : True := by
  k_with "exec For Tuple Name cons nil" => ((k_here; (rename Fr _ _ _ _ => lF'z); (with_unfolding_all refine' For_unrF lF'z ?_ ?q59ks); (case q59ks => (intro _; with_unfolding_all rfl))))
  k_with "pyIter ref" => ((k_here; (with_unfolding_all refine' iter_ktup ?q60hh ?q60x ?q60l ?q60f ?q60n ?_; (case q60hh => exact rfl); (case q60x => k_asm); (case q60l => k_is); (case q60f => k_asm); (case q60n => k_asm); k_whole); refine Unr.succ ?_; intro v'z h'z tk'z own'z hv'z ho'z F'z N'z; (simp only [List.getElem?_toArray, List.getElem?_cons_zero, Option.some.injEq] at hv'z); subst hv'z; (replace N'z := N'z.right)))
  trivial
theorem c_ranges {w : World} {vw : Program} {loose : List Str} {mean : ExcName → Option Value} {mg mb : Str → Option Value} {dp un : Nat} {gd : Option (List Code)} {cn : Str} {cs : Scope} {a : Addr} {ccd : Value} {cl : List (Str × Addr)} {outer : List Env} {A₀ : Around} {base h₀ : Heap} {L : Addr} {m : Str → Option Value} {s : Shared} {Q E : Value → Shared → Prop} {rest : List (Addr × Obj)}
   {code : Int} {t : Tok} (B : Below A₀ base outer h₀ := by k_asm) (F : Fr h₀ L s.heap m := by k_asm) (X : (Mine.k0.heap_1 w.params).In h₀ := by k_asm) (T : Top vw loose mean mg mb h₀ := by k_asm) (hk : cs.kind = .function := by exact rfl) (N : News h₀ L s.heap rest) (h1 : 32 ≤ code) (h2 : code ≤ 127) (hdp : dp + 2 < recursionLimit := by ktr_room) (hu : un + 80 < cLine := by ktr_units)
   (ret : ∀ h' tk', Fr h₀ L h' m → News h₀ L h' rest → Q (.bool true) { s with heap := h', toks := tk' }) :
   wpAny (model PySem.Challenge.pw_sm0079_01 w) (ktrTop dp un gd cn cs L a ccd cl outer) (call (.ref 49) [.int code t, .ref 25]) Q E s := by
  refine wpAny_call ?_
  k_dflt k_enter
  k_steps
  all_goals (try k_data)
  all_goals exact ret _ _ (by assumption) (by assumption)
end
end
section
section
variable {prog : Program} {w : World} {A : Around} {E : Value → Shared → Prop} {s : Shared} {Q : Value → Shared → Prop}
theorem kw18 : True := by
  k_with_none
  k_with "k_all" => (first | with_reducible assumption | exact List.forall_mem_nil _ | exact allNe (by with_reducible assumption) | (refine' List.forall_mem_cons.mpr ⟨?q1a, ?q1b⟩; (case q1a => k_ne); (case q1b => k_all)) | exact subNe (by with_reducible assumption) (fun q hq => by kbo_some) | exact subNeT (by with_reducible assumption) (by with_reducible assumption) (fun q hq => by kbo_some) | exact subNeQ (by with_reducible assumption) (fun q hq => by kbo_some) | assumption)
  k_with "kbo_some" => (first | with_reducible assumption | exact List.Mem.head _ | (refine' List.mem_cons_of_mem _ ?_; kbo_some) | ((with_reducible refine List.mem_append.mpr (Or.inr ?_)); kbo_some))
  k_with "k_mem" => (first | kbo_some | assumption)
  k_with "k_upd" => (first | (refine' Upd.head ?q4a; (case q4a => k_all)) | (refine' Upd.tail ?q4a ?q4b; (case q4a => k_ne); (case q4b => k_upd)))
  k_with "k_updF" => (first | (refine' UpdF.head ?q5a; (case q5a => k_all)) | (refine' UpdF.tail ?q5a ?q5b; (case q5a => k_ne); (case q5b => k_updF)))
  k_with "k_ne" => (((try dsimp only); first | with_reducible assumption | (refine Ne.symm ?_; with_reducible assumption) | (refine Nat.ne_of_gt ?_; with_reducible assumption) | (refine Nat.ne_of_lt ?_; with_reducible assumption) | (refine neR (by with_reducible assumption) ?_; k_extra "has") | (refine neL (by with_reducible assumption) ?_; k_extra "has") | (refine neQ (by with_reducible assumption) ?_; k_extra "has") | (refine neP (by with_reducible assumption) ?_; k_extra "has") | (refine neT (by with_reducible assumption) (by with_reducible assumption) ?_; k_extra "has") | (refine neU (by with_reducible assumption) (by with_reducible assumption) ?_; k_extra "has") | exact Nat.ne_of_lt (Nat.lt_succ_self _) | exact Nat.ne_of_gt (Nat.lt_succ_self _) | omega))
  k_with "k_enter" => (first
  | (refine' code_def ?q7k1 ?q7k2 ?q7k3 ?q7k4 ?q7k5 ?q7kA ?q7kF ?q7kK ?q7k6 ?q7k7 ?q7k8 ?q7k9 ?q7kB ?_ ?q7c2 ?q7c3 ?q7c4 ?q7c5; (case q7kA => exact rfl); (case q7kF => exact rfl); (case q7kK => first | exact rfl | assumption); (case q7k1 => k_asm); (case q7k2 => k_asm); (case q7k3 => k_asm); (case q7k4 => k_asm); (case q7k5 => k_asm); (case q7k6 => k_is); (case q7k7 => k_is); (case q7k8 => ktr_room); (case q7k9 => first | exact BindsTo.of_eq rfl | exact binds_K (by k_in) rfl (by k_is) rfl rfl rfl); (case q7c5 => decide); (case q7kB => exact locs rfl); (case q7c2 => exact rfl); (case q7c3 => exact rfl); (case q7c4 => exact rfl); k_whole; intro g'z L'z h'z FG'z F'z N'z B'z X'z T'z; (try dsimp only); (try k_fold); (try (refine letA ?_; intro A9)))
  | (refine' code_defC ?q7k1 ?q7k2 ?q7k3 ?q7k4 ?q7k5 ?q7kA ?q7kF ?q7kK ?q7k6 ?q7k7 ?q7k8 ?q7k9 ?q7kB ?q7kD ?_ ?q7c2 ?q7c3 ?q7c4; (case q7kA => exact rfl); (case q7kF => exact rfl); (case q7kK => first | exact rfl | assumption); (case q7k1 => k_asm); (case q7k2 => k_asm); (case q7k3 => k_asm); (case q7k4 => k_asm); (case q7k5 => k_asm); (case q7k6 => k_is); (case q7k7 => k_is); (case q7k8 => ktr_room); (case q7k9 => first | exact BindsTo.of_eq rfl | exact binds_K (by k_in) rfl (by k_is) rfl rfl rfl); (case q7kB => exact rfl); (case q7kD => decide +kernel); (case q7c2 => exact rfl); (case q7c3 => exact rfl); (case q7c4 => exact rfl); k_whole; intro g'z L'z h'z tk'z cells'z FG'z F'z N'z Y'z B'z X'z T'z l1; (try k_lt l1); (try (have hR6 := restNe l1 (Nat.le_add_right _ 1); have hR5 := restNe l1 (Nat.le_add_right _ (1 + 1)))); (first   | (have hY := CellsAre.one Y'z; obtain ⟨o'z, hE'z, d1'z⟩ := hY; subst hE'z; clear Y'z; (first | (replace d1'z : o'z.data = .cell none := d1'z) | (replace d1'z : o'z.data = .cell (some _) := d1'z) | skip))   | (have hY := CellsAre.two Y'z; obtain ⟨o'z, o2'z, hE'z, d1'z, d2'z⟩ := hY; subst hE'z; clear Y'z; (first | (replace d1'z : o'z.data = .cell none := d1'z) | (replace d1'z : o'z.data = .cell (some _) := d1'z) | skip); (first | (replace d2'z : o2'z.data = .cell none := d2'z) | (replace d2'z : o2'z.data = .cell (some _) := d2'z) | skip))); (try simp only [List.cons_append, List.nil_append] at N'z); (try dsimp only); (try k_fold); (try (refine letA ?_; intro A9))))
  k_with "ktr_room" => (((try simp +zetaDelta only [depth_deeper, depth_in1, depth_mark, depth_under_make, depth_under_kw]); (try dsimp only [ktrTop]); (try simp only [Nat.add_assoc, Nat.reduceAdd]); refine Nat.lt_of_le_of_lt (Nat.add_le_add_left ?_ _) (by with_reducible assumption); decide))
  k_with "ktr_units" => (((try simp +zetaDelta only [units_deeper, units_in1, Around.mark_units]); (try dsimp only [ktrTop]); (try simp only [Nat.add_assoc, Nat.reduceAdd]); refine Nat.lt_of_le_of_lt (Nat.add_le_add_left ?_ _) (by with_reducible assumption); decide))
  k_with "kbd_text" => (first | exact Pick.head | (apply Pick.tail; kbd_text))
  k_with "hide" => ((refine hideG ?_; intro G9))
  k_with "has" => (first | with_reducible exact Has.head | (refine Has.tail ?_; k_extra "has"))
  k_with "lt" => (first | with_reducible assumption | (refine Has.lt (by with_reducible assumption) ?_; k_extra "has") | (refine ltT (by with_reducible assumption) (by with_reducible assumption) ?_; k_extra "has"))
  k_with "ltAll" => (first | with_reducible assumption | exact allLt_mem (by with_reducible assumption) | exact subLt (by with_reducible assumption) (fun q hq => by kbo_some))
  k_with "FinE" => (((unfold LCg.FinE); intro D'z h'z tk'z F'z N'z o1'z; (have hR8 := off1_ne o1'z); (try simp only [List.nil_append, List.cons_append] at N'z); (try dsimp only)))
  k_with "lcg_off" => (first | exact True.intro | with_reducible assumption | (refine And.intro ⟨by k_ne, by k_ne, by k_ne⟩ ?_; lcg_off))
  k_with "CompEnd" => ((k_here; k_dflt (refine' compEndP ?q17f ?q17n ?q17p1 ?q17p2 ?q17p3 ?q17o ?q17s ?_; (case q17f => k_asm); (case q17n => k_asm); (case q17p1 => kbd_text); (case q17p2 => kbd_text); (case q17p3 => kbd_text); (case q17o => lcg_off); (case q17s => lcg_src); k_whole)))
  k_with "kbd_text" => (((with_reducible show Split _ _ _); first | exact Split.nil | (apply Split.cons; kbd_text)))
  k_with "exec While BoolOp cons nil" => ((k_here; refine while_mark ?_))
  k_with "exec While Compare cons nil" => ((k_here; refine while_mark ?_))
  k_with "subscriptTail Attribute" => ((k_here; k_dflt (refine kba_turn (value' := PySem.Expr.Name (PySem.Str.ofString "_") ⟨0, 0, 0, 0⟩) (fun _ => rfl) ?_)))
  k_with "ite" => ((k_closed; k_dflt (first | rw [if_pos (by decide)] | rw [if_neg (by decide)])))
  k_with "k_in" => (first | with_reducible assumption | exact Frag.In.keeps (by with_reducible assumption) (Fr.keep (by with_reducible assumption)))
  k_with "execs nil" => ((k_here; refine wpAny_execs_nil ?_))
  k_with "execs cons" => ((k_here; refine wpAny_execs_cons ?_))
  k_with "exec If" => ((k_here; refine wpAny_If ?_))
  trivial
theorem my_chary {value slice : PySem.Expr} {x y : Str} {t : Tok} {j : Int} {u : Tok} (h0 : 0 ≤ j) (h1 : j < x.length) (hx : x.length ≤ 1000) (hy : Txt.item x j = y)
    (h : ∀ t' k, Q (.str y t') { s with toks := k })
    (hs : subscripted slice false (.str x t) (.int j u) = operate [.str x t, .int j u] (getItem (.str x t) (.int j u)) := by with_unfolding_all rfl)
    (ht : ∀ r, letTemporaryGo value (.str x t) r = pure () := by intro _; with_unfolding_all rfl) :
    wpAny (model prog w) A (subscriptTail value slice (.str x t) (.int j u)) Q E s := by
  subst hy
  refine item_str (fitsSsize_of (N := 9223372036854775808) (by omega) (by omega) (by decide)) (by omega) h1 (fun _ => ?_) hs ht
  exact h _ _
theorem fin_str {y z : Str} (h : y = z) {t : Tok} (q : Q (.str z t) s) : Q (.str y t) s := h ▸ q
variable {h₀ : Heap} {L : Addr} {m : Str → Option Value} {news : List (Addr × Obj)}
theorem my_tail {value slice : PySem.Expr} {x y : Str} {t ui : Tok} {i : Int} (hy : Txt.slice x (some i) none = y) (hx : x.length ≤ 1000)
    (hF : Fr h₀ L s.heap m) (hN : News h₀ L s.heap news) (h : ∀ h' t' k, Fr h₀ L h' m → News h₀ L h' news → Q (.str y t') { s with heap := h', toks := k })
    (hss : subscripted slice false (.str x t) (.ref s.heap.objs.size) = operate [.ref s.heap.objs.size, .str x t] (getItem (.str x t) (.ref s.heap.objs.size)) := by with_unfolding_all rfl)
    (ht : ∀ r, letTemporaryGo value (.str x t) r = pure () := by intro _; with_unfolding_all rfl) :
    wpAny (model prog w) A (subscriptTail value slice (.str x t) (.ref s.heap.objs.size)) Q E { s with heap := s.heap.push { cls := .type "slice", data := .fields #[.int i ui, .none, .none] } } := by
  subst hy
  exact slice_strN_sn (hsz := by rw [sizeLine_eq]; omega) hF hN (fun h' t' k a b => h h' t' k a b) hss ht
theorem eq_strF {x y : Str} {t u : Tok} (hx : x ≠ y) (h : Q (.bool false) s) : wpAny (model prog w) A (compareOp .Eq (.str x t) (.str y u)) Q E s := by
  refine eq_str ?_
  rw [show (x == y) = false from beq_false_of_ne hx]
  exact h
theorem len_two {x : Str} {t : Tok} (hx : x.length = 2) (h : ∀ t' k, Q (.int 2 t') { s with toks := k }) : wpAny (model prog w) A (call (.builtin "len") [.str x t]) Q E s := by
  refine SBL.len (by rw [hx]; decide) ?_
  rw [hx]
  exact h _ _
theorem len_ten {t : Tok} (h : ∀ t' k, Q (.int 10 t') { s with toks := k }) : wpAny (model prog w) A (call (.builtin "len") [.str (Str.ofString "0123456789") t]) Q E s := by
  have e : (Str.ofString "0123456789").length = 10 := by decide +kernel
  refine SBL.len (by rw [e]; decide) ?_
  rw [e]
  exact h _ _
theorem chr_sign {c : Int} {t : Tok} (h0 : 32 ≤ c) (h1 : c ≤ 127) (h : ∀ t' k, Q (.str ⟨#[c.toNat]⟩ t') { s with toks := k }) : wpAny (model prog w) A (call (.builtin "chr") [.int c t]) Q E s :=
  chr_of_range (by omega) (by omega) (h _ _)
theorem ord_sign {c : Int} {t : Tok} (h0 : 32 ≤ c) (h : ∀ t' k, Q (.int c t') { s with toks := k }) : wpAny (model prog w) A (call (.builtin "ord") [.str ⟨#[c.toNat]⟩ t]) Q E s := by
  refine P.ord_of_char ?_
  rw [show ((c.toNat : Nat) : Int) = c by omega]
  exact h _ _
theorem find_dig {d : Str} {t u : Tok} (h : ∀ t' k, Q (.int (Txt.find (Str.ofString "0123456789") d) t') { s with toks := k }) : wpAny (model prog w) A (call (.builtin "str.find") [.str (Str.ofString "0123456789") t, .str d u]) Q E s :=
  SC.find (h _ _)
end
/-- the number that the digits say, behind n -/
def valD (n : Int) : List Str → Int
  | [] => n
  | d :: r => valD (n * 10 + Txt.find (Str.ofString "0123456789") d) r
structure SignN (wd : Str) (c : Int) : Prop where
  head : Txt.slice wd none (some 1) ≠ Str.ofString "x"
  len : wd.length = 2
  item : Txt.item wd 0 ≠ Str.ofString "0"
  tail : Txt.slice wd (some 0) none = wd
  ne : wd ≠ Str.ofString ""
  val : valD 0 (wd.cps.toList.map (fun c => (⟨#[c]⟩ : Str))) = c
  dig : ∀ d ∈ wd.cps.toList.map (fun c => (⟨#[c]⟩ : Str)), 0 ≤ Txt.find (Str.ofString "0123456789") d ∧ Txt.find (Str.ofString "0123456789") d ≤ 9
  lo : 32 ≤ c
  hi : c ≤ 127
theorem sign37 : SignN (Str.ofString "37") 37 := ⟨by decide +kernel, by decide +kernel, by decide +kernel, by decide +kernel, by decide +kernel, by decide +kernel, by decide +kernel, by decide, by decide⟩
theorem sign65 : SignN (Str.ofString "65") 65 := ⟨by decide +kernel, by decide +kernel, by decide +kernel, by decide +kernel, by decide +kernel, by decide +kernel, by decide +kernel, by decide, by decide⟩
section
theorem kw19 : True := by
  k_with "exec For Name Name cons nil" => ((k_here; (rename Fr _ _ _ _ => lF'z); (with_unfolding_all refine' For_invVF lF'z ?q61k1 ?q61k2 ?_; (case q61k1 => exact rfl); (case q61k2 => exact rfl); k_whole)))
  k_with "pyIter str" => (((with_reducible show wpAny _ _ (pyIter (Value.str _ _)) (fun it s₂ => LoopAtV _ _ _ _ _ _ _ _ _ it s₂) _ _); k_here; k_dflt (refine' iter_strUnr ?q62hh ?q62F ?q62N ?q62hx ?_; (case q62hh => exact rfl); (case q62F => k_asm); (case q62N => k_asm); (case q62hx => exact rfl)); refine while_mark ?_))
  k_with "UnrEnd" => ((k_here; refine while_mark ?_))
  k_with "subscriptTail Name Name str int" => ((k_here; k_dflt (refine item0 (by omega) (by omega) (fun t'z k'z => ?_))))
  k_with "subscriptTail Name Slice str ref" => ((k_here; (with_reducible show wpAny _ _ (subscriptTail _ (PySem.Expr.Slice (some _) none none _) (Value.str _ _) (Value.ref _)) _ _ _); k_dflt (refine' my_tail (s := ⟨_, _, _, _, _⟩) ?q65hy ?q65hx ?q65f ?q65n ?_; (case q65hy => assumption); (case q65hx => omega); (case q65f => k_asm); (case q65n => k_asm); k_whole); intro h'z t'z k'z F'z N'z))
  k_with "subscriptTail Name Slice str ref" => ((k_here; (with_reducible show wpAny _ _ (subscriptTail _ (PySem.Expr.Slice none (some _) none _) (Value.str _ _) (Value.ref _)) _ _ _); k_dflt (refine' head_slice (s := ⟨_, _, _, _, _⟩) ?q66hx ?q66f ?q66n ?_; (case q66f => k_asm); (case q66n => k_asm); (case q66hx => omega); k_whole); intro h'z t'z k'z F'z N'z))
  k_with "compareOp Eq str str" => ((k_here; k_dflt (refine eq_strF (by with_reducible assumption) ?_)))
  k_with "call builtin:len" => ((k_here; k_dflt (first | refine len_two (by with_reducible assumption) (fun t'z k'z => ?_) | refine len_ten (fun t'z k'z => ?_))))
  k_with "call builtin:chr" => ((k_here; k_dflt (refine chr_sign (by with_reducible assumption) (by with_reducible assumption) (fun t'z k'z => ?_))))
  k_with "call builtin:ord" => ((k_here; k_dflt (refine ord_sign (by with_reducible assumption) (fun t'z k'z => ?_))))
  k_with "call builtin:str.find" => ((k_here; k_dflt (refine find_dig (fun t'z k'z => ?_))))
  k_with "binaryOp Mult int int" => ((k_here; k_dflt (refine' PyProof.Rows.mul_int ?_ ?q72m; (case q72m => exact PySem.IntMulOk.of_left (PySem.intBits_le_64 (by omega) (by omega))))))
  k_with "eval Name" => ((k_here; k_dflt (refine' PyProof.Rows.ld ?q73k1 ?q73k2 ?_; (case q73k1 => k_asm); (case q73k2 => first | with_reducible assumption | exact rfl | assumption); k_whole)))
  k_with "call ref" => (((k_here; (with_reducible show wpAny _ _ (call (Value.ref 49) _) _ _ _); k_dflt (refine' c_ranges ?q74b ?q74f ?q74x ?q74t ?q74k ?q74n ?q74h1 ?q74h2 ?q74rd ?q74ru ?_; (case q74b => k_asm); (case q74f => k_asm); (case q74x => k_asm); (case q74t => k_asm); (case q74k => exact rfl); (case q74n => k_asm); (case q74h1 => assumption); (case q74h2 => assumption); (case q74rd => ktr_room); (case q74ru => ktr_units); k_whole); intro h'z tk'z F'z N'z); (try dsimp only)))
  trivial
theorem c_charof {w : World} {vw : Program} {loose : List Str} {mean : ExcName → Option Value} {mg mb : Str → Option Value} {dp un : Nat} {gd : Option (List Code)} {cn : Str} {cs : Scope} {a : Addr} {ccd : Value} {cl : List (Str × Addr)} {outer : List Env} {A₀ : Around} {base h₀ : Heap} {L : Addr} {m : Str → Option Value} {s : Shared} {Q E : Value → Shared → Prop} {rest : List (Addr × Obj)}
   {wd : Str} {c : Int} {t : Tok} {place : Value} (B : Below A₀ base outer h₀ := by k_asm) (F : Fr h₀ L s.heap m := by k_asm) (X : (Mine.k0.heap_1 w.params).In h₀ := by k_asm) (T : Top vw loose mean mg mb h₀ := by k_asm) (hk : cs.kind = .function := by exact rfl) (N : News h₀ L s.heap rest) (hw : SignN wd c) (hdp : dp + 8 < recursionLimit := by ktr_room) (hu : un + 320 < cLine := by ktr_units)
   (ret : ∀ t' h' tk', Fr h₀ L h' m → News h₀ L h' rest → Q (.str ⟨#[c.toNat]⟩ t') { s with heap := h', toks := tk' }) :
   wpAny (model PySem.Challenge.pw_sm0079_01 w) (ktrTop dp un gd cn cs L a ccd cl outer) (call (.ref 203) [.str wd t, place]) Q E s := by
  k_extra "hide"
  obtain ⟨w1, w2, w3, w4, w5, w6, w7, w8, w9⟩ := hw
  unfold G9
  refine wpAny_call ?_
  k_dflt k_enter
  k_steps
  unfold WhileMark
  refine While_inv (n₀ := 0) (fun n m₁ news₁ => m₁ = _ ∧ news₁ = rest) (by k_asm) (by k_asm) ⟨rfl, rfl⟩ ?_
  rintro n m₁ news₁ h₁ tk₁ F₁ N₁ ⟨rfl, rfl⟩
  k_steps
  unfold WhileMark
  intro I l1
  refine strRest_inv (fun r m₁ n₁ => n₁ = _ ∧ (∀ d ∈ r, 0 ≤ Txt.find (Str.ofString "0123456789") d ∧ Txt.find (Str.ofString "0123456789") d ≤ 9) ∧ r.length ≤ 2 ∧
    ∃ ts n tn, m₁ (Str.ofString "signs") = some (.str (Str.ofString "0123456789") ts) ∧ m₁ (Str.ofString "number") = some (.int n tn) ∧ 0 ≤ n ∧ (r ≠ [] → n ≤ 9) ∧ (2 ≤ r.length → n = 0) ∧ valD n r = c) ?_ ?_ _ _ _ ⟨rfl, w7, by rw [List.length_map, Array.length_toList]; exact Nat.le_of_eq w2, _, 0, _, rfl, rfl, Int.le_refl _, fun _ => by decide, fun _ => rfl, w6⟩
  · intro d r m₁ n₁ u it h₁ tk₁ pz0 F₁ N₁
    k_extra "hide"
    obtain ⟨rfl, e1, e2, ts, n, tn, e3, e4, e5, e6, e7, e8⟩ := pz0
    unfold G9
    obtain ⟨d0, d9⟩ := e1 d (.head _)
    have e6 := e6 (fun q => nomatch q)
    k_steps
    unfold WhileMark
    rename Fr _ _ _ _ => lF
    rename News _ _ _ _ => lN
    refine unrEndP lF lN Pick.head (fun p hp => Nat.ne_of_lt (l1 p hp)) ⟨rfl, fun d hd => e1 d (.tail _ hd), Nat.le_of_succ_le e2, ts, _, _, e3, rfl, ?_, fun hr => ?_, fun hr => ?_, e8⟩
    · omega
    · have h2 : 0 < r.length := List.length_pos_iff.mpr hr
      have h3 := e7 (Nat.succ_le_succ h2)
      omega
    · rw [List.length_cons] at e2; omega
  · intro m₁ n₁ h₁ tk₁ pz0 F₁ N₁
    k_extra "hide"
    obtain ⟨rfl, -, -, ts, n, tn, e3, e4, -, -, -, rfl⟩ := pz0
    unfold G9
    have w8' : 32 ≤ n := w8
    have w9' : n ≤ 127 := w9
    k_steps
    all_goals (try k_data)
    exact ret _ _ _ (by assumption) (newsDrop (by assumption) (by kbd_text))
end
end
section
section
theorem kw20 : True := by
  k_with_none
  k_with "k_all" => (first | with_reducible assumption | exact List.forall_mem_nil _ | exact allNe (by with_reducible assumption) | (refine' List.forall_mem_cons.mpr ⟨?q1a, ?q1b⟩; (case q1a => k_ne); (case q1b => k_all)) | exact subNe (by with_reducible assumption) (fun q hq => by kbo_some) | exact subNeT (by with_reducible assumption) (by with_reducible assumption) (fun q hq => by kbo_some) | exact subNeQ (by with_reducible assumption) (fun q hq => by kbo_some) | assumption)
  k_with "kbo_some" => (first | with_reducible assumption | exact List.Mem.head _ | (refine' List.mem_cons_of_mem _ ?_; kbo_some) | ((with_reducible refine List.mem_append.mpr (Or.inr ?_)); kbo_some))
  k_with "k_mem" => (first | kbo_some | assumption)
  k_with "k_upd" => (first | (refine' Upd.head ?q4a; (case q4a => k_all)) | (refine' Upd.tail ?q4a ?q4b; (case q4a => k_ne); (case q4b => k_upd)))
  k_with "k_updF" => (first | (refine' UpdF.head ?q5a; (case q5a => k_all)) | (refine' UpdF.tail ?q5a ?q5b; (case q5a => k_ne); (case q5b => k_updF)))
  k_with "k_ne" => (((try dsimp only); first | with_reducible assumption | (refine Ne.symm ?_; with_reducible assumption) | (refine Nat.ne_of_gt ?_; with_reducible assumption) | (refine Nat.ne_of_lt ?_; with_reducible assumption) | (refine neR (by with_reducible assumption) ?_; k_extra "has") | (refine neL (by with_reducible assumption) ?_; k_extra "has") | (refine neQ (by with_reducible assumption) ?_; k_extra "has") | (refine neP (by with_reducible assumption) ?_; k_extra "has") | (refine neT (by with_reducible assumption) (by with_reducible assumption) ?_; k_extra "has") | (refine neU (by with_reducible assumption) (by with_reducible assumption) ?_; k_extra "has") | exact Nat.ne_of_lt (Nat.lt_succ_self _) | exact Nat.ne_of_gt (Nat.lt_succ_self _) | omega))
  k_with "k_enter" => (first
  | (refine' code_def ?q7k1 ?q7k2 ?q7k3 ?q7k4 ?q7k5 ?q7kA ?q7kF ?q7kK ?q7k6 ?q7k7 ?q7k8 ?q7k9 ?q7kB ?_ ?q7c2 ?q7c3 ?q7c4 ?q7c5; (case q7kA => exact rfl); (case q7kF => exact rfl); (case q7kK => first | exact rfl | assumption); (case q7k1 => k_asm); (case q7k2 => k_asm); (case q7k3 => k_asm); (case q7k4 => k_asm); (case q7k5 => k_asm); (case q7k6 => k_is); (case q7k7 => k_is); (case q7k8 => ktr_room); (case q7k9 => first | exact BindsTo.of_eq rfl | exact binds_K (by k_in) rfl (by k_is) rfl rfl rfl); (case q7c5 => decide); (case q7kB => exact locs rfl); (case q7c2 => exact rfl); (case q7c3 => exact rfl); (case q7c4 => exact rfl); k_whole; intro g'z L'z h'z FG'z F'z N'z B'z X'z T'z; (try dsimp only); (try k_fold); (try (refine letA ?_; intro A9)))
  | (refine' code_defC ?q7k1 ?q7k2 ?q7k3 ?q7k4 ?q7k5 ?q7kA ?q7kF ?q7kK ?q7k6 ?q7k7 ?q7k8 ?q7k9 ?q7kB ?q7kD ?_ ?q7c2 ?q7c3 ?q7c4; (case q7kA => exact rfl); (case q7kF => exact rfl); (case q7kK => first | exact rfl | assumption); (case q7k1 => k_asm); (case q7k2 => k_asm); (case q7k3 => k_asm); (case q7k4 => k_asm); (case q7k5 => k_asm); (case q7k6 => k_is); (case q7k7 => k_is); (case q7k8 => ktr_room); (case q7k9 => first | exact BindsTo.of_eq rfl | exact binds_K (by k_in) rfl (by k_is) rfl rfl rfl); (case q7kB => exact rfl); (case q7kD => decide +kernel); (case q7c2 => exact rfl); (case q7c3 => exact rfl); (case q7c4 => exact rfl); k_whole; intro g'z L'z h'z tk'z cells'z FG'z F'z N'z Y'z B'z X'z T'z l1; (try k_lt l1); (try (have hR6 := restNe l1 (Nat.le_add_right _ 1); have hR5 := restNe l1 (Nat.le_add_right _ (1 + 1)))); (first   | (have hY := CellsAre.one Y'z; obtain ⟨o'z, hE'z, d1'z⟩ := hY; subst hE'z; clear Y'z; (first | (replace d1'z : o'z.data = .cell none := d1'z) | (replace d1'z : o'z.data = .cell (some _) := d1'z) | skip))   | (have hY := CellsAre.two Y'z; obtain ⟨o'z, o2'z, hE'z, d1'z, d2'z⟩ := hY; subst hE'z; clear Y'z; (first | (replace d1'z : o'z.data = .cell none := d1'z) | (replace d1'z : o'z.data = .cell (some _) := d1'z) | skip); (first | (replace d2'z : o2'z.data = .cell none := d2'z) | (replace d2'z : o2'z.data = .cell (some _) := d2'z) | skip))); (try simp only [List.cons_append, List.nil_append] at N'z); (try dsimp only); (try k_fold); (try (refine letA ?_; intro A9))))
  k_with "ktr_room" => (((try simp +zetaDelta only [depth_deeper, depth_in1, depth_mark, depth_under_make, depth_under_kw]); (try dsimp only [ktrTop]); (try simp only [Nat.add_assoc, Nat.reduceAdd]); refine Nat.lt_of_le_of_lt (Nat.add_le_add_left ?_ _) (by with_reducible assumption); decide))
  k_with "ktr_units" => (((try simp +zetaDelta only [units_deeper, units_in1, Around.mark_units]); (try dsimp only [ktrTop]); (try simp only [Nat.add_assoc, Nat.reduceAdd]); refine Nat.lt_of_le_of_lt (Nat.add_le_add_left ?_ _) (by with_reducible assumption); decide))
  k_with "kbd_text" => (first | exact Pick.head | (apply Pick.tail; kbd_text))
  k_with "hide" => ((refine hideG ?_; intro G9))
  k_with "has" => (first | with_reducible exact Has.head | (refine Has.tail ?_; k_extra "has"))
  k_with "lt" => (first | with_reducible assumption | (refine Has.lt (by with_reducible assumption) ?_; k_extra "has") | (refine ltT (by with_reducible assumption) (by with_reducible assumption) ?_; k_extra "has"))
  k_with "ltAll" => (first | with_reducible assumption | exact allLt_mem (by with_reducible assumption) | exact subLt (by with_reducible assumption) (fun q hq => by kbo_some))
  k_with "FinE" => (((unfold LCg.FinE); intro D'z h'z tk'z F'z N'z o1'z; (have hR8 := off1_ne o1'z); (try simp only [List.nil_append, List.cons_append] at N'z); (try dsimp only)))
  k_with "lcg_off" => (first | exact True.intro | with_reducible assumption | (refine And.intro ⟨by k_ne, by k_ne, by k_ne⟩ ?_; lcg_off))
  k_with "CompEnd" => ((k_here; k_dflt (refine' compEndP ?q17f ?q17n ?q17p1 ?q17p2 ?q17p3 ?q17o ?q17s ?_; (case q17f => k_asm); (case q17n => k_asm); (case q17p1 => kbd_text); (case q17p2 => kbd_text); (case q17p3 => kbd_text); (case q17o => lcg_off); (case q17s => lcg_src); k_whole)))
  k_with "kbd_text" => (((with_reducible show Split _ _ _); first | exact Split.nil | (apply Split.cons; kbd_text)))
  k_with "exec While BoolOp cons nil" => ((k_here; refine while_mark ?_))
  k_with "exec While Compare cons nil" => ((k_here; refine while_mark ?_))
  k_with "subscriptTail Attribute" => ((k_here; k_dflt (refine kba_turn (value' := PySem.Expr.Name (PySem.Str.ofString "_") ⟨0, 0, 0, 0⟩) (fun _ => rfl) ?_)))
  k_with "ite" => ((k_closed; k_dflt (first | rw [if_pos (by decide)] | rw [if_neg (by decide)])))
  k_with "k_in" => (first | with_reducible assumption | exact Frag.In.keeps (by with_reducible assumption) (Fr.keep (by with_reducible assumption)))
  k_with "execs nil" => ((k_here; refine wpAny_execs_nil ?_))
  k_with "execs cons" => ((k_here; refine wpAny_execs_cons ?_))
  k_with "exec If" => ((k_here; refine wpAny_If ?_))
  k_with "exec Raise some none" => ((k_here; k_dflt (refine' raise_own ?q75hh ?_; (case q75hh => first | exact rfl | assumption); k_whole)))
  k_with "RaiseNow" => ((k_dflt (refine' raise_now ?q76f ?q76n ?q76x ?q76m ?q76c ?q76b ?_; (case q76f => k_asm); (case q76n => k_asm); (case q76x => k_asm); (case q76m => k_mem); (case q76c => k_is); (case q76b => decide +kernel); k_whole); (try dsimp only)))
  k_with "leaving ref" => ((k_here; first
  | (refine' leave_exc ?q77b ?q77f ?q77n ?q77su ?q77n1 ?q77n2 ?q77te ?_; (case q77b => assumption); (case q77f => assumption); (case q77n => assumption); (case q77su => exact fun q hq => List.mem_append_right _ hq); (case q77n1 => k_all); (case q77n2 => k_all); (case q77te => k_ne); k_whole; intro h'z R'z U'z; (try dsimp only at R'z U'z ⊢))
  | (refine' leave_onR ?q77k1 ?q77k2 ?q77k3 ?q77k4 ?_; (case q77k3 => assumption); (case q77k1 => assumption); (case q77k4 => assumption); (case q77k2 => assumption); k_whole; intro h'z R'z U'z; (try dsimp only at R'z U'z ⊢))))
  k_with "call ref" => (((k_here; (with_reducible show wpAny _ _ (call (Value.ref 162) _) _ _ _); k_dflt (refine' c_fault (C := 162) ?q78hC ?q78b ?q78f ?q78x ?q78t ?q78k ?q78n ?q78rd ?q78ru ?_; (case q78hC => exact .inl rfl); (case q78b => k_asm); (case q78f => k_asm); (case q78x => k_asm); (case q78t => k_asm); (case q78k => exact rfl); (case q78n => k_asm); (case q78rd => ktr_room); (case q78ru => ktr_units); k_whole); intro e'z tu'z d'z l'z h'z tk'z F'z N'z i1'z i2'z i3'z); (try dsimp only)))
  k_with "call ref" => (((k_here; (with_reducible show wpAny _ _ (call (Value.ref 174) _) _ _ _); k_dflt (refine' c_fault (C := 174) ?q79hC ?q79b ?q79f ?q79x ?q79t ?q79k ?q79n ?q79rd ?q79ru ?_; (case q79hC => exact .inr rfl); (case q79b => k_asm); (case q79f => k_asm); (case q79x => k_asm); (case q79t => k_asm); (case q79k => exact rfl); (case q79n => k_asm); (case q79rd => ktr_room); (case q79ru => ktr_units); k_whole); intro e'z tu'z d'z l'z h'z tk'z F'z N'z i1'z i2'z i3'z); (try dsimp only)))
  k_with "compareOp In str ref" => ((k_here; (with_reducible show wpAny _ _ (compareOp CmpOp.In (Value.str _ _) (Value.ref _)) _ _ _); (refine' in_list_strs ?q80k1 ?q80k2 ?_; (case q80k1 => exact News.isList (by k_asm) (by k_mem)); (case q80k2 => assumption); k_whole)))
  k_with "call builtin:len" => ((k_here; (with_reducible show wpAny _ _ (call (Value.builtin "len") [Value.ref _]) _ _ _); k_dflt (refine' my_len_list ?q81n ?q81m ?q81z ?_; (case q81n => k_asm); (case q81m => k_mem); (case q81z => first | assumption | decide | omega); k_whole); intro t'z k'z))
  trivial
theorem c_enter {w : World} {vw : Program} {loose : List Str} {mean : ExcName → Option Value} {mg mb : Str → Option Value} {dp un : Nat} {gd : Option (List Code)} {cn : Str} {cs : Scope} {a : Addr} {ccd : Value} {cl : List (Str × Addr)} {outer : List Env} {A₀ : Around} {base h₀ : Heap} {L : Addr} {m : Str → Option Value} {s : Shared} {Q E : Value → Shared → Prop} {rest : List (Addr × Obj)}
   {g gx lm ld ol : Addr} {h1 h2 h3 h4 h5 : Int} {k1 k2 k3 k4 k5 ts td tz tn : Tok} {sz depth most : Int} {vs : List Value} {ys : List Str} {no : Nat} {nm : Str}
   (B : Below A₀ base outer h₀ := by k_asm) (F : Fr h₀ L s.heap m := by k_asm) (X : (Mine.k0.heap_1 w.params).In h₀ := by k_asm) (T : Top vw loose mean mg mb h₀ := by k_asm) (hk : cs.kind = .function := by exact rfl)
   (N : News h₀ L s.heap ((ol, W.listOf vs.toArray no) :: (gx, W.dictOf [⟨h1, .str (Str.ofString "limits") k1, .ref lm⟩, ⟨h2, .str (Str.ofString "size") k2, .int sz ts⟩, ⟨h3, .str (Str.ofString "open") k3, .ref ol⟩] 3) :: rest))
   (hg : (g, W.instObj 255 gx) ∈ rest) (hlm : (lm, W.instObj 533 ld) ∈ rest) (hld : (ld, W.dictOf [⟨h4, .str (Str.ofString "most_depth") k4, .int depth td⟩, ⟨h5, .str (Str.ofString "most_size") k5, .int most tz⟩] 2) ∈ rest)
   (d1 : ol ≠ gx) (d2 : ∀ q ∈ rest, q.1 ≠ ol) (d3 : ∀ q ∈ rest, q.1 ≠ gx) (hys : StrsAre vs ys) (hlen : vs.length ≤ 1000) (hnm : nm.length ≤ 10) (hdp : dp + 8 < recursionLimit := by ktr_room) (hu : un + 320 < cLine := by ktr_units)
   (ret : ∀ n' t' h' tk', ys.any (· == nm) = false → (vs.length : Int) < depth → Fr h₀ L h' m → News h₀ L h' ((ol, W.listOf (vs ++ [Value.str nm t']).toArray n') :: (gx, W.dictOf [⟨h1, .str (Str.ofString "limits") k1, .ref lm⟩, ⟨h2, .str (Str.ofString "size") k2, .int sz ts⟩, ⟨h3, .str (Str.ofString "open") k3, .ref ol⟩] 3) :: rest) → Q .none { s with heap := h', toks := tk' })
   (thr : ∀ e t us h' tk' g₂ (C : Addr), ((ys.any (· == nm) = true ∧ C = 162) ∨ (ys.any (· == nm) = false ∧ depth ≤ vs.length ∧ C = 174)) → Fr h₀ L g₂ m → g₂.UpToSlots h' → RaisedS base g₂ (envX cn cs L a ccd cl :: outer) e (.ref C) t us rest h' → E (.ref e) { s with heap := h', toks := tk' }) :
   wpAny (model PySem.Challenge.pw_sm0079_01 w) (ktrTop dp un gd cn cs L a ccd cl outer) (call (.ref 238) [.ref g, .str nm tn]) Q E s := by
  refine wpAny_call ?_
  k_dflt k_enter
  k_steps
  all_goals (try k_data)
  · exact thr _ _ _ _ _ _ 162 (.inl ⟨by assumption, rfl⟩) (by assumption) (by assumption) (RaisedS.mono (by assumption) (fun q hq => .tail _ (.tail _ hq)))
  · exact thr _ _ _ _ _ _ 174 (.inr ⟨by assumption, by omega, rfl⟩) (by assumption) (by assumption) (RaisedS.mono (by assumption) (fun q hq => .tail _ (.tail _ hq)))
  · have kN' := ‹News h₀ L _ ((ol, W.listOf (vs.toArray.push _) _) :: _)›
    rw [List.push_toArray] at kN'
    exact ret _ _ _ _ (by assumption) (by omega) (by assumption) kN'
end
end
section
theorem kw21 : True := by
  k_with_none
  k_with "k_all" => (first | with_reducible assumption | exact List.forall_mem_nil _ | exact allNe (by with_reducible assumption) | (refine' List.forall_mem_cons.mpr ⟨?q1a, ?q1b⟩; (case q1a => k_ne); (case q1b => k_all)) | exact subNe (by with_reducible assumption) (fun q hq => by kbo_some) | exact subNeT (by with_reducible assumption) (by with_reducible assumption) (fun q hq => by kbo_some) | exact subNeQ (by with_reducible assumption) (fun q hq => by kbo_some) | assumption)
  k_with "kbo_some" => (first | with_reducible assumption | exact List.Mem.head _ | (refine' List.mem_cons_of_mem _ ?_; kbo_some) | ((with_reducible refine List.mem_append.mpr (Or.inr ?_)); kbo_some))
  k_with "k_mem" => (first | kbo_some | assumption)
  k_with "k_upd" => (first | (refine' Upd.head ?q4a; (case q4a => k_all)) | (refine' Upd.tail ?q4a ?q4b; (case q4a => k_ne); (case q4b => k_upd)))
  k_with "k_updF" => (first | (refine' UpdF.head ?q5a; (case q5a => k_all)) | (refine' UpdF.tail ?q5a ?q5b; (case q5a => k_ne); (case q5b => k_updF)))
  k_with "k_ne" => (((try dsimp only); first | with_reducible assumption | (refine Ne.symm ?_; with_reducible assumption) | (refine Nat.ne_of_gt ?_; with_reducible assumption) | (refine Nat.ne_of_lt ?_; with_reducible assumption) | (refine neR (by with_reducible assumption) ?_; k_extra "has") | (refine neL (by with_reducible assumption) ?_; k_extra "has") | (refine neQ (by with_reducible assumption) ?_; k_extra "has") | (refine neP (by with_reducible assumption) ?_; k_extra "has") | (refine neT (by with_reducible assumption) (by with_reducible assumption) ?_; k_extra "has") | (refine neU (by with_reducible assumption) (by with_reducible assumption) ?_; k_extra "has") | exact Nat.ne_of_lt (Nat.lt_succ_self _) | exact Nat.ne_of_gt (Nat.lt_succ_self _) | omega))
  k_with "k_enter" => (first
  | (refine' code_def ?q7k1 ?q7k2 ?q7k3 ?q7k4 ?q7k5 ?q7kA ?q7kF ?q7kK ?q7k6 ?q7k7 ?q7k8 ?q7k9 ?q7kB ?_ ?q7c2 ?q7c3 ?q7c4 ?q7c5; (case q7kA => exact rfl); (case q7kF => exact rfl); (case q7kK => first | exact rfl | assumption); (case q7k1 => k_asm); (case q7k2 => k_asm); (case q7k3 => k_asm); (case q7k4 => k_asm); (case q7k5 => k_asm); (case q7k6 => k_is); (case q7k7 => k_is); (case q7k8 => ktr_room); (case q7k9 => first | exact BindsTo.of_eq rfl | exact binds_K (by k_in) rfl (by k_is) rfl rfl rfl); (case q7c5 => decide); (case q7kB => exact locs rfl); (case q7c2 => exact rfl); (case q7c3 => exact rfl); (case q7c4 => exact rfl); k_whole; intro g'z L'z h'z FG'z F'z N'z B'z X'z T'z; (try dsimp only); (try k_fold); (try (refine letA ?_; intro A9)))
  | (refine' code_defC ?q7k1 ?q7k2 ?q7k3 ?q7k4 ?q7k5 ?q7kA ?q7kF ?q7kK ?q7k6 ?q7k7 ?q7k8 ?q7k9 ?q7kB ?q7kD ?_ ?q7c2 ?q7c3 ?q7c4; (case q7kA => exact rfl); (case q7kF => exact rfl); (case q7kK => first | exact rfl | assumption); (case q7k1 => k_asm); (case q7k2 => k_asm); (case q7k3 => k_asm); (case q7k4 => k_asm); (case q7k5 => k_asm); (case q7k6 => k_is); (case q7k7 => k_is); (case q7k8 => ktr_room); (case q7k9 => first | exact BindsTo.of_eq rfl | exact binds_K (by k_in) rfl (by k_is) rfl rfl rfl); (case q7kB => exact rfl); (case q7kD => decide +kernel); (case q7c2 => exact rfl); (case q7c3 => exact rfl); (case q7c4 => exact rfl); k_whole; intro g'z L'z h'z tk'z cells'z FG'z F'z N'z Y'z B'z X'z T'z l1; (try k_lt l1); (try (have hR6 := restNe l1 (Nat.le_add_right _ 1); have hR5 := restNe l1 (Nat.le_add_right _ (1 + 1)))); (first   | (have hY := CellsAre.one Y'z; obtain ⟨o'z, hE'z, d1'z⟩ := hY; subst hE'z; clear Y'z; (first | (replace d1'z : o'z.data = .cell none := d1'z) | (replace d1'z : o'z.data = .cell (some _) := d1'z) | skip))   | (have hY := CellsAre.two Y'z; obtain ⟨o'z, o2'z, hE'z, d1'z, d2'z⟩ := hY; subst hE'z; clear Y'z; (first | (replace d1'z : o'z.data = .cell none := d1'z) | (replace d1'z : o'z.data = .cell (some _) := d1'z) | skip); (first | (replace d2'z : o2'z.data = .cell none := d2'z) | (replace d2'z : o2'z.data = .cell (some _) := d2'z) | skip))); (try simp only [List.cons_append, List.nil_append] at N'z); (try dsimp only); (try k_fold); (try (refine letA ?_; intro A9))))
  k_with "ktr_room" => (((try simp +zetaDelta only [depth_deeper, depth_in1, depth_mark, depth_under_make, depth_under_kw]); (try dsimp only [ktrTop]); (try simp only [Nat.add_assoc, Nat.reduceAdd]); refine Nat.lt_of_le_of_lt (Nat.add_le_add_left ?_ _) (by with_reducible assumption); decide))
  k_with "ktr_units" => (((try simp +zetaDelta only [units_deeper, units_in1, Around.mark_units]); (try dsimp only [ktrTop]); (try simp only [Nat.add_assoc, Nat.reduceAdd]); refine Nat.lt_of_le_of_lt (Nat.add_le_add_left ?_ _) (by with_reducible assumption); decide))
  k_with "kbd_text" => (first | exact Pick.head | (apply Pick.tail; kbd_text))
  k_with "hide" => ((refine hideG ?_; intro G9))
  k_with "has" => (first | with_reducible exact Has.head | (refine Has.tail ?_; k_extra "has"))
  k_with "lt" => (first | with_reducible assumption | (refine Has.lt (by with_reducible assumption) ?_; k_extra "has") | (refine ltT (by with_reducible assumption) (by with_reducible assumption) ?_; k_extra "has"))
  k_with "ltAll" => (first | with_reducible assumption | exact allLt_mem (by with_reducible assumption) | exact subLt (by with_reducible assumption) (fun q hq => by kbo_some))
  k_with "FinE" => (((unfold LCg.FinE); intro D'z h'z tk'z F'z N'z o1'z; (have hR8 := off1_ne o1'z); (try simp only [List.nil_append, List.cons_append] at N'z); (try dsimp only)))
  k_with "lcg_off" => (first | exact True.intro | with_reducible assumption | (refine And.intro ⟨by k_ne, by k_ne, by k_ne⟩ ?_; lcg_off))
  k_with "CompEnd" => ((k_here; k_dflt (refine' compEndP ?q17f ?q17n ?q17p1 ?q17p2 ?q17p3 ?q17o ?q17s ?_; (case q17f => k_asm); (case q17n => k_asm); (case q17p1 => kbd_text); (case q17p2 => kbd_text); (case q17p3 => kbd_text); (case q17o => lcg_off); (case q17s => lcg_src); k_whole)))
  k_with "kbd_text" => (((with_reducible show Split _ _ _); first | exact Split.nil | (apply Split.cons; kbd_text)))
  k_with "exec While BoolOp cons nil" => ((k_here; refine while_mark ?_))
  k_with "exec While Compare cons nil" => ((k_here; refine while_mark ?_))
  k_with "subscriptTail Attribute" => ((k_here; k_dflt (refine kba_turn (value' := PySem.Expr.Name (PySem.Str.ofString "_") ⟨0, 0, 0, 0⟩) (fun _ => rfl) ?_)))
  k_with "ite" => ((k_closed; k_dflt (first | rw [if_pos (by decide)] | rw [if_neg (by decide)])))
  k_with "k_in" => (first | with_reducible assumption | exact Frag.In.keeps (by with_reducible assumption) (Fr.keep (by with_reducible assumption)))
  k_with "execs nil" => ((k_here; refine wpAny_execs_nil ?_))
  k_with "execs cons" => ((k_here; refine wpAny_execs_cons ?_))
  k_with "exec If" => ((k_here; refine wpAny_If ?_))
  k_with "exec Raise some none" => ((k_here; k_dflt (refine' raise_own ?q82hh ?_; (case q82hh => first | exact rfl | assumption); k_whole)))
  k_with "RaiseNow" => ((k_dflt (refine' raise_now ?q83f ?q83n ?q83x ?q83m ?q83c ?q83b ?_; (case q83f => k_asm); (case q83n => k_asm); (case q83x => k_asm); (case q83m => k_mem); (case q83c => k_is); (case q83b => decide +kernel); k_whole); (try dsimp only)))
  k_with "leaving ref" => ((k_here; first
  | (refine' leave_exc ?q84b ?q84f ?q84n ?q84su ?q84n1 ?q84n2 ?q84te ?_; (case q84b => assumption); (case q84f => assumption); (case q84n => assumption); (case q84su => exact fun q hq => List.mem_append_right _ hq); (case q84n1 => k_all); (case q84n2 => k_all); (case q84te => k_ne); k_whole; intro h'z R'z U'z; (try dsimp only at R'z U'z ⊢))
  | (refine' leave_onR ?q84k1 ?q84k2 ?q84k3 ?q84k4 ?_; (case q84k3 => assumption); (case q84k1 => assumption); (case q84k4 => assumption); (case q84k2 => assumption); k_whole; intro h'z R'z U'z; (try dsimp only at R'z U'z ⊢))))
  k_with "call ref" => (((k_here; (with_reducible show wpAny _ _ (call (Value.ref 162) _) _ _ _); k_dflt (refine' c_fault (C := 162) ?q85hC ?q85b ?q85f ?q85x ?q85t ?q85k ?q85n ?q85rd ?q85ru ?_; (case q85hC => exact .inl rfl); (case q85b => k_asm); (case q85f => k_asm); (case q85x => k_asm); (case q85t => k_asm); (case q85k => exact rfl); (case q85n => k_asm); (case q85rd => ktr_room); (case q85ru => ktr_units); k_whole); intro e'z tu'z d'z l'z h'z tk'z F'z N'z i1'z i2'z i3'z); (try dsimp only)))
  k_with "call ref" => (((k_here; (with_reducible show wpAny _ _ (call (Value.ref 174) _) _ _ _); k_dflt (refine' c_fault (C := 174) ?q86hC ?q86b ?q86f ?q86x ?q86t ?q86k ?q86n ?q86rd ?q86ru ?_; (case q86hC => exact .inr rfl); (case q86b => k_asm); (case q86f => k_asm); (case q86x => k_asm); (case q86t => k_asm); (case q86k => exact rfl); (case q86n => k_asm); (case q86rd => ktr_room); (case q86ru => ktr_units); k_whole); intro e'z tu'z d'z l'z h'z tk'z F'z N'z i1'z i2'z i3'z); (try dsimp only)))
  trivial
theorem last_snoc (vs : List Value) (v : Value) : kl_last (vs ++ [v]).toArray.toList = some (vs, v) := by
  show kl_last (vs ++ [v]) = some (vs, v)
  induction vs with
  | nil => rfl
  | cons a r ih => show (match kl_last (r ++ [v]) with | some (p, y) => some (a :: p, y) | none => some ([], a)) = _; rw [ih]
theorem pop_room {vs : List Value} {v : Value} (h : vs.length ≤ 1000) : (vs ++ [v]).toArray.toList.length ≤ sizeLine := by
  show (vs ++ [v]).length ≤ sizeLine
  rw [sizeLine_eq, List.length_append, List.length_singleton]; omega
section
theorem c_add {w : World} {vw : Program} {loose : List Str} {mean : ExcName → Option Value} {mg mb : Str → Option Value} {dp un : Nat} {gd : Option (List Code)} {cn : Str} {cs : Scope} {a : Addr} {ccd : Value} {cl : List (Str × Addr)} {outer : List Env} {A₀ : Around} {base h₀ : Heap} {L : Addr} {m : Str → Option Value} {s : Shared} {Q E : Value → Shared → Prop} {rest : List (Addr × Obj)}
   {g gx lm ld : Addr} {h1 h2 h3 h4 h5 : Int} {k1 k2 k3 k4 k5 ts td tz tn : Tok} {sz depth most many : Int} {ol : Value}
   (B : Below A₀ base outer h₀ := by k_asm) (F : Fr h₀ L s.heap m := by k_asm) (X : (Mine.k0.heap_1 w.params).In h₀ := by k_asm) (T : Top vw loose mean mg mb h₀ := by k_asm) (hk : cs.kind = .function := by exact rfl)
   (N : News h₀ L s.heap ((gx, W.dictOf [⟨h1, .str (Str.ofString "limits") k1, .ref lm⟩, ⟨h2, .str (Str.ofString "size") k2, .int sz ts⟩, ⟨h3, .str (Str.ofString "open") k3, ol⟩] 3) :: rest))
   (hg : (g, W.instObj 255 gx) ∈ rest) (hlm : (lm, W.instObj 533 ld) ∈ rest) (hld : (ld, W.dictOf [⟨h4, .str (Str.ofString "most_depth") k4, .int depth td⟩, ⟨h5, .str (Str.ofString "most_size") k5, .int most tz⟩] 2) ∈ rest)
   (d3 : ∀ q ∈ rest, q.1 ≠ gx) (hs0 : 0 ≤ sz) (hs1 : sz ≤ 100000) (hm0 : 0 ≤ many) (hm1 : many ≤ 1000) (hdp : dp + 8 < recursionLimit := by ktr_room) (hu : un + 320 < cLine := by ktr_units)
   (ret : ∀ ts' h' tk', sz + many ≤ most → Fr h₀ L h' m → News h₀ L h' ((gx, W.dictOf [⟨h1, .str (Str.ofString "limits") k1, .ref lm⟩, ⟨h2, .str (Str.ofString "size") k2, .int (sz + many) ts'⟩, ⟨h3, .str (Str.ofString "open") k3, ol⟩] 3) :: rest) → Q .none { s with heap := h', toks := tk' })
   (thr : ∀ e t us h' tk' g₂, most < sz + many → Fr h₀ L g₂ m → g₂.UpToSlots h' → RaisedS base g₂ (envX cn cs L a ccd cl :: outer) e (.ref 174) t us rest h' → E (.ref e) { s with heap := h', toks := tk' }) :
   wpAny (model PySem.Challenge.pw_sm0079_01 w) (ktrTop dp un gd cn cs L a ccd cl outer) (call (.ref 231) [.ref g, .int many tn]) Q E s := by
  refine wpAny_call ?_
  k_dflt k_enter
  k_steps
  all_goals (try k_data)
  all_goals first
    | exact thr _ _ _ _ _ _ (by omega) (by assumption) (by assumption) (RaisedS.mono (by assumption) (fun q hq => .tail _ hq))
    | exact ret _ _ _ (by omega) (by assumption) (by assumption)
    | w_report
theorem kw22 : True := by
  k_with "call builtin:list.pop" => ((k_here; k_dflt (refine' kl_pop (by assumption) (by assumption) (last_snoc _ _) ?q87u ?q87z ?_; (case q87u => k_upd); (case q87z => exact pop_room (by assumption)); k_whole); intro h'z F'z N'z))
  trivial
theorem c_leave {w : World} {vw : Program} {loose : List Str} {mean : ExcName → Option Value} {mg mb : Str → Option Value} {dp un : Nat} {gd : Option (List Code)} {cn : Str} {cs : Scope} {a : Addr} {ccd : Value} {cl : List (Str × Addr)} {outer : List Env} {A₀ : Around} {base h₀ : Heap} {L : Addr} {m : Str → Option Value} {s : Shared} {Q E : Value → Shared → Prop} {rest : List (Addr × Obj)}
   {g gx lm ol : Addr} {h1 h2 h3 : Int} {k1 k2 k3 ts : Tok} {sz : Int} {vs : List Value} {v : Value} {no : Nat}
   (B : Below A₀ base outer h₀ := by k_asm) (F : Fr h₀ L s.heap m := by k_asm) (X : (Mine.k0.heap_1 w.params).In h₀ := by k_asm) (T : Top vw loose mean mg mb h₀ := by k_asm) (hk : cs.kind = .function := by exact rfl)
   (N : News h₀ L s.heap ((ol, W.listOf (vs ++ [v]).toArray no) :: rest))
   (hg : (g, W.instObj 255 gx) ∈ rest) (hgx : (gx, W.dictOf [⟨h1, .str (Str.ofString "limits") k1, .ref lm⟩, ⟨h2, .str (Str.ofString "size") k2, .int sz ts⟩, ⟨h3, .str (Str.ofString "open") k3, .ref ol⟩] 3) ∈ rest)
   (d2 : ∀ q ∈ rest, q.1 ≠ ol) (hlen : vs.length ≤ 1000) (hdp : dp + 4 < recursionLimit := by ktr_room) (hu : un + 160 < cLine := by ktr_units)
   (ret : ∀ n' h' tk', Fr h₀ L h' m → News h₀ L h' ((ol, W.listOf vs.toArray n') :: rest) → Q .none { s with heap := h', toks := tk' }) :
   wpAny (model PySem.Challenge.pw_sm0079_01 w) (ktrTop dp un gd cn cs L a ccd cl outer) (call (.ref 245) [.ref g]) Q E s := by
  refine wpAny_call ?_
  k_dflt k_enter
  k_steps
  all_goals (try k_data)
  all_goals first
    | exact ret _ _ _ (by assumption) (by assumption)
    | w_report
end
end
section
section
theorem kw23 : True := by
  k_with_none
  k_with "k_all" => (first | with_reducible assumption | exact List.forall_mem_nil _ | exact allNe (by with_reducible assumption) | (refine' List.forall_mem_cons.mpr ⟨?q1a, ?q1b⟩; (case q1a => k_ne); (case q1b => k_all)) | exact subNe (by with_reducible assumption) (fun q hq => by kbo_some) | exact subNeT (by with_reducible assumption) (by with_reducible assumption) (fun q hq => by kbo_some) | exact subNeQ (by with_reducible assumption) (fun q hq => by kbo_some) | assumption)
  k_with "kbo_some" => (first | with_reducible assumption | exact List.Mem.head _ | (refine' List.mem_cons_of_mem _ ?_; kbo_some) | ((with_reducible refine List.mem_append.mpr (Or.inr ?_)); kbo_some))
  k_with "k_mem" => (first | kbo_some | assumption)
  k_with "k_upd" => (first | (refine' Upd.head ?q4a; (case q4a => k_all)) | (refine' Upd.tail ?q4a ?q4b; (case q4a => k_ne); (case q4b => k_upd)))
  k_with "k_updF" => (first | (refine' UpdF.head ?q5a; (case q5a => k_all)) | (refine' UpdF.tail ?q5a ?q5b; (case q5a => k_ne); (case q5b => k_updF)))
  k_with "k_ne" => (((try dsimp only); first | with_reducible assumption | (refine Ne.symm ?_; with_reducible assumption) | (refine Nat.ne_of_gt ?_; with_reducible assumption) | (refine Nat.ne_of_lt ?_; with_reducible assumption) | (refine neR (by with_reducible assumption) ?_; k_extra "has") | (refine neL (by with_reducible assumption) ?_; k_extra "has") | (refine neQ (by with_reducible assumption) ?_; k_extra "has") | (refine neP (by with_reducible assumption) ?_; k_extra "has") | (refine neT (by with_reducible assumption) (by with_reducible assumption) ?_; k_extra "has") | (refine neU (by with_reducible assumption) (by with_reducible assumption) ?_; k_extra "has") | exact Nat.ne_of_lt (Nat.lt_succ_self _) | exact Nat.ne_of_gt (Nat.lt_succ_self _) | omega))
  k_with "k_enter" => (first
  | (refine' code_def ?q7k1 ?q7k2 ?q7k3 ?q7k4 ?q7k5 ?q7kA ?q7kF ?q7kK ?q7k6 ?q7k7 ?q7k8 ?q7k9 ?q7kB ?_ ?q7c2 ?q7c3 ?q7c4 ?q7c5; (case q7kA => exact rfl); (case q7kF => exact rfl); (case q7kK => first | exact rfl | assumption); (case q7k1 => k_asm); (case q7k2 => k_asm); (case q7k3 => k_asm); (case q7k4 => k_asm); (case q7k5 => k_asm); (case q7k6 => k_is); (case q7k7 => k_is); (case q7k8 => ktr_room); (case q7k9 => first | exact BindsTo.of_eq rfl | exact binds_K (by k_in) rfl (by k_is) rfl rfl rfl); (case q7c5 => decide); (case q7kB => exact locs rfl); (case q7c2 => exact rfl); (case q7c3 => exact rfl); (case q7c4 => exact rfl); k_whole; intro g'z L'z h'z FG'z F'z N'z B'z X'z T'z; (try dsimp only); (try k_fold); (try (refine letA ?_; intro A9)))
  | (refine' code_defC ?q7k1 ?q7k2 ?q7k3 ?q7k4 ?q7k5 ?q7kA ?q7kF ?q7kK ?q7k6 ?q7k7 ?q7k8 ?q7k9 ?q7kB ?q7kD ?_ ?q7c2 ?q7c3 ?q7c4; (case q7kA => exact rfl); (case q7kF => exact rfl); (case q7kK => first | exact rfl | assumption); (case q7k1 => k_asm); (case q7k2 => k_asm); (case q7k3 => k_asm); (case q7k4 => k_asm); (case q7k5 => k_asm); (case q7k6 => k_is); (case q7k7 => k_is); (case q7k8 => ktr_room); (case q7k9 => first | exact BindsTo.of_eq rfl | exact binds_K (by k_in) rfl (by k_is) rfl rfl rfl); (case q7kB => exact rfl); (case q7kD => decide +kernel); (case q7c2 => exact rfl); (case q7c3 => exact rfl); (case q7c4 => exact rfl); k_whole; intro g'z L'z h'z tk'z cells'z FG'z F'z N'z Y'z B'z X'z T'z l1; (try k_lt l1); (try (have hR6 := restNe l1 (Nat.le_add_right _ 1); have hR5 := restNe l1 (Nat.le_add_right _ (1 + 1)))); (first   | (have hY := CellsAre.one Y'z; obtain ⟨o'z, hE'z, d1'z⟩ := hY; subst hE'z; clear Y'z; (first | (replace d1'z : o'z.data = .cell none := d1'z) | (replace d1'z : o'z.data = .cell (some _) := d1'z) | skip))   | (have hY := CellsAre.two Y'z; obtain ⟨o'z, o2'z, hE'z, d1'z, d2'z⟩ := hY; subst hE'z; clear Y'z; (first | (replace d1'z : o'z.data = .cell none := d1'z) | (replace d1'z : o'z.data = .cell (some _) := d1'z) | skip); (first | (replace d2'z : o2'z.data = .cell none := d2'z) | (replace d2'z : o2'z.data = .cell (some _) := d2'z) | skip))); (try simp only [List.cons_append, List.nil_append] at N'z); (try dsimp only); (try k_fold); (try (refine letA ?_; intro A9))))
  k_with "ktr_room" => (((try simp +zetaDelta only [depth_deeper, depth_in1, depth_mark, depth_under_make, depth_under_kw]); (try dsimp only [ktrTop]); (try simp only [Nat.add_assoc, Nat.reduceAdd]); refine Nat.lt_of_le_of_lt (Nat.add_le_add_left ?_ _) (by with_reducible assumption); decide))
  k_with "ktr_units" => (((try simp +zetaDelta only [units_deeper, units_in1, Around.mark_units]); (try dsimp only [ktrTop]); (try simp only [Nat.add_assoc, Nat.reduceAdd]); refine Nat.lt_of_le_of_lt (Nat.add_le_add_left ?_ _) (by with_reducible assumption); decide))
  k_with "kbd_text" => (first | exact Pick.head | (apply Pick.tail; kbd_text))
  k_with "hide" => ((refine hideG ?_; intro G9))
  k_with "has" => (first | with_reducible exact Has.head | (refine Has.tail ?_; k_extra "has"))
  k_with "lt" => (first | with_reducible assumption | (refine Has.lt (by with_reducible assumption) ?_; k_extra "has") | (refine ltT (by with_reducible assumption) (by with_reducible assumption) ?_; k_extra "has"))
  k_with "ltAll" => (first | with_reducible assumption | exact allLt_mem (by with_reducible assumption) | exact subLt (by with_reducible assumption) (fun q hq => by kbo_some))
  k_with "FinE" => (((unfold LCg.FinE); intro D'z h'z tk'z F'z N'z o1'z; (have hR8 := off1_ne o1'z); (try simp only [List.nil_append, List.cons_append] at N'z); (try dsimp only)))
  k_with "lcg_off" => (first | exact True.intro | with_reducible assumption | (refine And.intro ⟨by k_ne, by k_ne, by k_ne⟩ ?_; lcg_off))
  k_with "CompEnd" => ((k_here; k_dflt (refine' compEndP ?q17f ?q17n ?q17p1 ?q17p2 ?q17p3 ?q17o ?q17s ?_; (case q17f => k_asm); (case q17n => k_asm); (case q17p1 => kbd_text); (case q17p2 => kbd_text); (case q17p3 => kbd_text); (case q17o => lcg_off); (case q17s => lcg_src); k_whole)))
  k_with "kbd_text" => (((with_reducible show Split _ _ _); first | exact Split.nil | (apply Split.cons; kbd_text)))
  k_with "exec While BoolOp cons nil" => ((k_here; refine while_mark ?_))
  k_with "exec While Compare cons nil" => ((k_here; refine while_mark ?_))
  k_with "subscriptTail Attribute" => ((k_here; k_dflt (refine kba_turn (value' := PySem.Expr.Name (PySem.Str.ofString "_") ⟨0, 0, 0, 0⟩) (fun _ => rfl) ?_)))
  k_with "ite" => ((k_closed; k_dflt (first | rw [if_pos (by decide)] | rw [if_neg (by decide)])))
  k_with "k_in" => (first | with_reducible assumption | exact Frag.In.keeps (by with_reducible assumption) (Fr.keep (by with_reducible assumption)))
  k_with "execs nil" => ((k_here; refine wpAny_execs_nil ?_))
  k_with "execs cons" => ((k_here; refine wpAny_execs_cons ?_))
  k_with "exec If" => ((k_here; refine wpAny_If ?_))
  k_with "call ref" => (((k_here; (with_reducible show wpAny _ _ (call (Value.ref 238) _) _ _ _); k_dflt (refine' c_enter (hys := ?q88hys) (hg := ?q88hg) (hlm := ?q88hlm) (hld := ?q88hld) (N := ?q88n) (B := ?q88b) (F := ?q88f) (X := ?q88x) (T := ?q88t) (hk := ?q88k) (d1 := ?q88d1) (d2 := ?q88d2) (d3 := ?q88d3) (hlen := ?q88hl) (hnm := ?q88hn) (hdp := ?q88rd) (hu := ?q88ru) (ret := fun n'z t'z h'z tk'z i1'z i2'z F'z N'z => ?_) (thr := fun e'z t'z us'z h'z tk'z g'z C'z i1'z F'z U'z R'z => ?_); (case q88b => k_asm); (case q88f => k_asm); (case q88x => k_asm); (case q88t => k_asm); (case q88k => exact rfl); (case q88n => exact pickN (pickN (by k_asm) (by kbd_text)) (Pick.tail (by kbd_text))); (case q88hg => k_mem); (case q88hlm => k_mem); (case q88hld => k_mem); (case q88d1 => k_ne); (case q88d2 => k_all); (case q88d3 => k_all); (case q88hys => assumption); (case q88hl => assumption); (case q88hn => assumption); (case q88rd => ktr_room); (case q88ru => ktr_units); k_whole)); (try dsimp only)))
  k_with "call ref" => (((k_here; (with_reducible show wpAny _ _ (call (Value.ref 231) _) _ _ _); k_dflt (refine' c_add (hg := ?q89hg) (hlm := ?q89hlm) (hld := ?q89hld) (N := ?q89n) (B := ?q89b) (F := ?q89f) (X := ?q89x) (T := ?q89t) (hk := ?q89k) (d3 := ?q89d3) (hs0 := ?q89s0) (hs1 := ?q89s1) (hm0 := ?q89m0) (hm1 := ?q89m1) (hdp := ?q89rd) (hu := ?q89ru) (ret := fun ts'z h'z tk'z i1'z F'z N'z => ?_) (thr := fun e'z t'z us'z h'z tk'z g'z i1'z F'z U'z R'z => ?_); (case q89b => k_asm); (case q89f => k_asm); (case q89x => k_asm); (case q89t => k_asm); (case q89k => exact rfl); (case q89n => exact pickN (by k_asm) (by kbd_text)); (case q89hg => k_mem); (case q89hlm => k_mem); (case q89hld => k_mem); (case q89d3 => k_all); (case q89s0 => first | assumption | omega); (case q89s1 => first | assumption | omega); (case q89m0 => first | assumption | omega); (case q89m1 => first | assumption | omega); (case q89rd => ktr_room); (case q89ru => ktr_units); k_whole)); (try dsimp only)))
  k_with "leaving ref" => ((k_here; refine' leave_onR ?q90k1 ?q90k2 ?q90k3 ?q90k4 ?_; (case q90k3 => assumption); (case q90k1 => assumption); (case q90k4 => assumption); (case q90k2 => assumption); k_whole; intro h'z R'z U'z; (try dsimp only at R'z U'z ⊢)))
  trivial
theorem c_gput {w : World} {vw : Program} {loose : List Str} {mean : ExcName → Option Value} {mg mb : Str → Option Value} {dp un : Nat} {gd : Option (List Code)} {cn : Str} {cs : Scope} {a : Addr} {ccd : Value} {cl : List (Str × Addr)} {outer : List Env} {A₀ : Around} {base h₀ : Heap} {L : Addr} {m : Str → Option Value} {s : Shared} {Q E : Value → Shared → Prop} {rest : List (Addr × Obj)}
   {g gx lm ld ol : Addr} {h1 h2 h3 h4 h5 : Int} {k1 k2 k3 k4 k5 ts td tz tn tx : Tok} {sz depth most : Int} {vs : List Value} {ys : List Str} {no : Nat} {nm x : Str}
   (B : Below A₀ base outer h₀ := by k_asm) (F : Fr h₀ L s.heap m := by k_asm) (X : (Mine.k0.heap_1 w.params).In h₀ := by k_asm) (T : Top vw loose mean mg mb h₀ := by k_asm) (hk : cs.kind = .function := by exact rfl)
   (N : News h₀ L s.heap ((ol, W.listOf vs.toArray no) :: (gx, W.dictOf [⟨h1, .str (Str.ofString "limits") k1, .ref lm⟩, ⟨h2, .str (Str.ofString "size") k2, .int sz ts⟩, ⟨h3, .str (Str.ofString "open") k3, .ref ol⟩] 3) :: rest))
   (hg : (g, W.instObj 255 gx) ∈ rest) (hlm : (lm, W.instObj 533 ld) ∈ rest) (hld : (ld, W.dictOf [⟨h4, .str (Str.ofString "most_depth") k4, .int depth td⟩, ⟨h5, .str (Str.ofString "most_size") k5, .int most tz⟩] 2) ∈ rest)
   (d1 : ol ≠ gx) (d2 : ∀ q ∈ rest, q.1 ≠ ol) (d3 : ∀ q ∈ rest, q.1 ≠ gx) (hys : StrsAre vs ys) (hlen : vs.length ≤ 1000) (hnm : nm.length ≤ 10) (hs0 : 0 ≤ sz) (hs1 : sz ≤ 100000) (hx : x.length ≤ 1000) (hdp : dp + 12 < recursionLimit := by ktr_room) (hu : un + 480 < cLine := by ktr_units)
   (ret : ∀ n' t' ts' h' tk', ys.any (· == nm) = false → (vs.length : Int) < depth → sz + x.length ≤ most → Fr h₀ L h' m →
      News h₀ L h' ((ol, W.listOf (vs ++ [Value.str nm t']).toArray n') :: (gx, W.dictOf [⟨h1, .str (Str.ofString "limits") k1, .ref lm⟩, ⟨h2, .str (Str.ofString "size") k2, .int (sz + x.length) ts'⟩, ⟨h3, .str (Str.ofString "open") k3, .ref ol⟩] 3) :: rest) → Q .none { s with heap := h', toks := tk' })
   (thr : ∀ e t us h' tk' g₂ (C : Addr), ((ys.any (· == nm) = true ∧ C = 162) ∨ (ys.any (· == nm) = false ∧ (depth ≤ vs.length ∨ most < sz + x.length) ∧ C = 174)) → Fr h₀ L g₂ m → g₂.UpToSlots h' → RaisedS base g₂ (envX cn cs L a ccd cl :: outer) e (.ref C) t us rest h' → E (.ref e) { s with heap := h', toks := tk' }) :
   wpAny (model PySem.Challenge.pw_sm0079_01 w) (ktrTop dp un gd cn cs L a ccd cl outer) (call (.ref 252) [.ref g, .str nm tn, .str x tx]) Q E s := by
  refine wpAny_call ?_
  k_dflt k_enter
  k_steps
  all_goals (try k_data)
  · exact ret _ _ _ _ _ (by assumption) (by assumption) (by assumption) (by assumption) (pickN (by assumption) (Pick.tail Pick.head))
  · exact thr _ _ _ _ _ _ 174 (.inr ⟨by assumption, .inr (by omega), rfl⟩) (by assumption) (by assumption) (RaisedS.mono (by assumption) (fun q hq => .tail _ hq))
  · refine thr _ _ _ _ _ _ _ ?_ (by assumption) (by assumption) (by assumption)
    rcases ‹(_ ∧ _) ∨ (_ ∧ _ ∧ _)› with ⟨a, b⟩ | ⟨a, b, c⟩
    · exact .inl ⟨a, b⟩
    · exact .inr ⟨a, .inl b, c⟩
end
end
section
/-- a pending text: its object and its dict, the text, its name, the place -/
structure Row where
  p : Addr
  pd : Addr
  h1 : Int
  h2 : Int
  h3 : Int
  k1 : Tok
  k2 : Tok
  k3 : Tok
  tx : Tok
  ti : Tok
  x : Str
  nm : Value
  i : Int
theorem kw24 : True := by
  k_with_none
  k_with "k_all" => (first | with_reducible assumption | exact List.forall_mem_nil _ | exact allNe (by with_reducible assumption) | (refine' List.forall_mem_cons.mpr ⟨?q1a, ?q1b⟩; (case q1a => k_ne); (case q1b => k_all)) | exact subNe (by with_reducible assumption) (fun q hq => by kbo_some) | exact subNeT (by with_reducible assumption) (by with_reducible assumption) (fun q hq => by kbo_some) | exact subNeQ (by with_reducible assumption) (fun q hq => by kbo_some) | assumption)
  k_with "kbo_some" => (first | with_reducible assumption | exact List.Mem.head _ | (refine' List.mem_cons_of_mem _ ?_; kbo_some) | ((with_reducible refine List.mem_append.mpr (Or.inr ?_)); kbo_some))
  k_with "k_mem" => (first | kbo_some | assumption)
  k_with "k_upd" => (first | (refine' Upd.head ?q4a; (case q4a => k_all)) | (refine' Upd.tail ?q4a ?q4b; (case q4a => k_ne); (case q4b => k_upd)))
  k_with "k_updF" => (first | (refine' UpdF.head ?q5a; (case q5a => k_all)) | (refine' UpdF.tail ?q5a ?q5b; (case q5a => k_ne); (case q5b => k_updF)))
  k_with "k_ne" => (((try dsimp only); first | with_reducible assumption | (refine Ne.symm ?_; with_reducible assumption) | (refine Nat.ne_of_gt ?_; with_reducible assumption) | (refine Nat.ne_of_lt ?_; with_reducible assumption) | (refine neR (by with_reducible assumption) ?_; k_extra "has") | (refine neL (by with_reducible assumption) ?_; k_extra "has") | (refine neQ (by with_reducible assumption) ?_; k_extra "has") | (refine neP (by with_reducible assumption) ?_; k_extra "has") | (refine neT (by with_reducible assumption) (by with_reducible assumption) ?_; k_extra "has") | (refine neU (by with_reducible assumption) (by with_reducible assumption) ?_; k_extra "has") | exact Nat.ne_of_lt (Nat.lt_succ_self _) | exact Nat.ne_of_gt (Nat.lt_succ_self _) | omega))
  k_with "k_enter" => (first
  | (refine' code_def ?q7k1 ?q7k2 ?q7k3 ?q7k4 ?q7k5 ?q7kA ?q7kF ?q7kK ?q7k6 ?q7k7 ?q7k8 ?q7k9 ?q7kB ?_ ?q7c2 ?q7c3 ?q7c4 ?q7c5; (case q7kA => exact rfl); (case q7kF => exact rfl); (case q7kK => first | exact rfl | assumption); (case q7k1 => k_asm); (case q7k2 => k_asm); (case q7k3 => k_asm); (case q7k4 => k_asm); (case q7k5 => k_asm); (case q7k6 => k_is); (case q7k7 => k_is); (case q7k8 => ktr_room); (case q7k9 => first | exact BindsTo.of_eq rfl | exact binds_K (by k_in) rfl (by k_is) rfl rfl rfl); (case q7c5 => decide); (case q7kB => exact locs rfl); (case q7c2 => exact rfl); (case q7c3 => exact rfl); (case q7c4 => exact rfl); k_whole; intro g'z L'z h'z FG'z F'z N'z B'z X'z T'z; (try dsimp only); (try k_fold); (try (refine letA ?_; intro A9)))
  | (refine' code_defC ?q7k1 ?q7k2 ?q7k3 ?q7k4 ?q7k5 ?q7kA ?q7kF ?q7kK ?q7k6 ?q7k7 ?q7k8 ?q7k9 ?q7kB ?q7kD ?_ ?q7c2 ?q7c3 ?q7c4; (case q7kA => exact rfl); (case q7kF => exact rfl); (case q7kK => first | exact rfl | assumption); (case q7k1 => k_asm); (case q7k2 => k_asm); (case q7k3 => k_asm); (case q7k4 => k_asm); (case q7k5 => k_asm); (case q7k6 => k_is); (case q7k7 => k_is); (case q7k8 => ktr_room); (case q7k9 => first | exact BindsTo.of_eq rfl | exact binds_K (by k_in) rfl (by k_is) rfl rfl rfl); (case q7kB => exact rfl); (case q7kD => decide +kernel); (case q7c2 => exact rfl); (case q7c3 => exact rfl); (case q7c4 => exact rfl); k_whole; intro g'z L'z h'z tk'z cells'z FG'z F'z N'z Y'z B'z X'z T'z l1; (try k_lt l1); (try (have hR6 := restNe l1 (Nat.le_add_right _ 1); have hR5 := restNe l1 (Nat.le_add_right _ (1 + 1)))); (first   | (have hY := CellsAre.one Y'z; obtain ⟨o'z, hE'z, d1'z⟩ := hY; subst hE'z; clear Y'z; (first | (replace d1'z : o'z.data = .cell none := d1'z) | (replace d1'z : o'z.data = .cell (some _) := d1'z) | skip))   | (have hY := CellsAre.two Y'z; obtain ⟨o'z, o2'z, hE'z, d1'z, d2'z⟩ := hY; subst hE'z; clear Y'z; (first | (replace d1'z : o'z.data = .cell none := d1'z) | (replace d1'z : o'z.data = .cell (some _) := d1'z) | skip); (first | (replace d2'z : o2'z.data = .cell none := d2'z) | (replace d2'z : o2'z.data = .cell (some _) := d2'z) | skip))); (try simp only [List.cons_append, List.nil_append] at N'z); (try dsimp only); (try k_fold); (try (refine letA ?_; intro A9))))
  k_with "ktr_room" => (((try simp +zetaDelta only [depth_deeper, depth_in1, depth_mark, depth_under_make, depth_under_kw]); (try dsimp only [ktrTop]); (try simp only [Nat.add_assoc, Nat.reduceAdd]); refine Nat.lt_of_le_of_lt (Nat.add_le_add_left ?_ _) (by with_reducible assumption); decide))
  k_with "ktr_units" => (((try simp +zetaDelta only [units_deeper, units_in1, Around.mark_units]); (try dsimp only [ktrTop]); (try simp only [Nat.add_assoc, Nat.reduceAdd]); refine Nat.lt_of_le_of_lt (Nat.add_le_add_left ?_ _) (by with_reducible assumption); decide))
  k_with "kbd_text" => (first | exact Pick.head | (apply Pick.tail; kbd_text))
  k_with "hide" => ((refine hideG ?_; intro G9))
  k_with "has" => (first | with_reducible exact Has.head | (refine Has.tail ?_; k_extra "has"))
  k_with "lt" => (first | with_reducible assumption | (refine Has.lt (by with_reducible assumption) ?_; k_extra "has") | (refine ltT (by with_reducible assumption) (by with_reducible assumption) ?_; k_extra "has"))
  k_with "ltAll" => (first | with_reducible assumption | exact allLt_mem (by with_reducible assumption) | exact subLt (by with_reducible assumption) (fun q hq => by kbo_some))
  k_with "FinE" => (((unfold LCg.FinE); intro D'z h'z tk'z F'z N'z o1'z; (have hR8 := off1_ne o1'z); (try simp only [List.nil_append, List.cons_append] at N'z); (try dsimp only)))
  k_with "lcg_off" => (first | exact True.intro | with_reducible assumption | (refine And.intro ⟨by k_ne, by k_ne, by k_ne⟩ ?_; lcg_off))
  k_with "CompEnd" => ((k_here; k_dflt (refine' compEndP ?q17f ?q17n ?q17p1 ?q17p2 ?q17p3 ?q17o ?q17s ?_; (case q17f => k_asm); (case q17n => k_asm); (case q17p1 => kbd_text); (case q17p2 => kbd_text); (case q17p3 => kbd_text); (case q17o => lcg_off); (case q17s => lcg_src); k_whole)))
  k_with "kbd_text" => (((with_reducible show Split _ _ _); first | exact Split.nil | (apply Split.cons; kbd_text)))
  k_with "exec While BoolOp cons nil" => ((k_here; refine while_mark ?_))
  k_with "exec While Compare cons nil" => ((k_here; refine while_mark ?_))
  k_with "subscriptTail Attribute" => ((k_here; k_dflt (refine kba_turn (value' := PySem.Expr.Name (PySem.Str.ofString "_") ⟨0, 0, 0, 0⟩) (fun _ => rfl) ?_)))
  k_with "ite" => ((k_closed; k_dflt (first | rw [if_pos (by decide)] | rw [if_neg (by decide)])))
  k_with "k_in" => (first | with_reducible assumption | exact Frag.In.keeps (by with_reducible assumption) (Fr.keep (by with_reducible assumption)))
  k_with "execs nil" => ((k_here; refine wpAny_execs_nil ?_))
  k_with "execs cons" => ((k_here; refine wpAny_execs_cons ?_))
  k_with "exec If" => ((k_here; refine wpAny_If ?_))
  trivial
abbrev rowDict (r : Row) : Obj := W.dictOf [⟨r.h1, .str (Str.ofString "text") r.k1, .str r.x r.tx⟩, ⟨r.h2, .str (Str.ofString "name") r.k2, r.nm⟩, ⟨r.h3, .str (Str.ofString "at") r.k3, .int r.i r.ti⟩] 3
def rowsNews : List Row → List (Addr × Obj)
  | [] => []
  | r :: rs => (r.p, W.instObj 297 r.pd) :: (r.pd, rowDict r) :: rowsNews rs
def Row.over (r : Row) : Bool := decide (r.i = r.x.length)
def popOver : List Row → List Row
  | [] => []
  | r :: rs => if r.over then popOver rs else r :: rs
/-- the rows' list, the top row last -/
def rowVals (rs : List Row) : List Value := (rs.map fun r => Value.ref r.p).reverse
theorem rowVals_cons (r : Row) (rs : List Row) : rowVals (r :: rs) = rowVals rs ++ [.ref r.p] := by simp [rowVals]
section
theorem c_over {w : World} {vw : Program} {loose : List Str} {mean : ExcName → Option Value} {mg mb : Str → Option Value} {dp un : Nat} {gd : Option (List Code)} {cn : Str} {cs : Scope} {a : Addr} {ccd : Value} {cl : List (Str × Addr)} {outer : List Env} {A₀ : Around} {base h₀ : Heap} {L : Addr} {m : Str → Option Value} {s : Shared} {Q E : Value → Shared → Prop} {rest : List (Addr × Obj)}
   {p pd : Addr} {x : Str} {tx k1 k2 k3 ti : Tok} {h1 h2 h3 : Int} {nm : Value} {i : Int}
   (B : Below A₀ base outer h₀ := by k_asm) (F : Fr h₀ L s.heap m := by k_asm) (X : (Mine.k0.heap_1 w.params).In h₀ := by k_asm) (T : Top vw loose mean mg mb h₀ := by k_asm) (hk : cs.kind = .function := by exact rfl)
   (N : News h₀ L s.heap rest) (hp : (p, W.instObj 297 pd) ∈ rest) (hpd : (pd, W.dictOf [⟨h1, .str (Str.ofString "text") k1, .str x tx⟩, ⟨h2, .str (Str.ofString "name") k2, nm⟩, ⟨h3, .str (Str.ofString "at") k3, .int i ti⟩] 3) ∈ rest)
   (h0 : 0 ≤ i) (hx : x.length ≤ 1000) (hdp : dp + 2 < recursionLimit := by ktr_room) (hu : un + 80 < cLine := by ktr_units)
   (ret : ∀ h' tk', Fr h₀ L h' m → News h₀ L h' rest → Q (.bool (decide (i = x.length))) { s with heap := h', toks := tk' }) :
   wpAny (model PySem.Challenge.pw_sm0079_01 w) (ktrTop dp un gd cn cs L a ccd cl outer) (call (.ref 280) [.ref p]) Q E s := by
  refine wpAny_call ?_
  k_dflt k_enter
  k_steps
  all_goals (try k_data)
  all_goals first | exact ret _ _ (by assumption) (by assumption) | w_report
end
end
section
section
variable {prog : Program} {w : World} {A : Around} {E : Value → Shared → Prop} {s : Shared} {Q : Value → Shared → Prop} {h₀ : Heap} {L : Addr} {news : List (Addr × Obj)}
theorem my_ne_nil {a b : Addr} {vs : List Value} {na nb : Nat} (N : News h₀ L s.heap news) (ha : (a, W.listOf vs.toArray na) ∈ news) (hb : (b, W.listOf #[] nb) ∈ news) (hu : A.units < cLine)
    (h : Q (.bool (!vs.isEmpty)) s) : wpAny (model prog w) A (compareOp .NotEq (.ref a) (.ref b)) Q E s := by
  have ga := (N _ ha).1
  have gb := (N _ hb).1
  show wpAny (model prog w) A (richCompare .NotEq (.ref a) (.ref b)) Q E s
  cases vs with
  | nil =>
    refine richCompare_meets_room ⟨_, ga, rfl⟩ ⟨_, gb, rfl⟩ PySem.F.slot_list_ne PySem.F.entry_list_ne (PySem.F.args_list_ne_2 _ _) (PySem.SeqAt.list_neAt a b _ _ _ _ _ _ _ _ rfl (fun _ => true)) ⟨ga, gb, fun j h1 _ => absurd h1 (by simp), ?_⟩ hu
    exact ⟨by simp, h⟩
  | cons x r =>
    refine richCompare_meets_room ⟨_, ga, rfl⟩ ⟨_, gb, rfl⟩ PySem.F.slot_list_ne PySem.F.entry_list_ne (PySem.F.args_list_ne_2 _ _) (PySem.SeqAt.list_ne_lengthsAt a b _ _ _ _ _ _ _ _ (by simp)) ⟨ga, gb, ?_⟩ hu
    exact ⟨by simp, h⟩
end
section
variable {prog : Program} {w : World} {A : Around} {E : Value → Shared → Prop} {s : Shared} {Q : Value → Shared → Prop} {h₀ : Heap} {L : Addr} {news : List (Addr × Obj)}
theorem my_last {value slice : PySem.Expr} {l : Addr} {vs : List Value} {v : Value} {n : Nat} {u : Tok} (N : News h₀ L s.heap news) (hm : (l, W.listOf (vs ++ [v]).toArray n) ∈ news) (h : Q v s)
    (hs : subscripted slice false (.ref l) (.int (-1) u) = operate [.ref l, .int (-1) u] (getItem (.ref l) (.int (-1) u)) := by with_unfolding_all rfl) (hg : ∀ r, letTemporaryGo value (.ref l) r = pure () := by intro _; with_unfolding_all rfl) :
    wpAny (model prog w) A (subscriptTail value slice (.ref l) (.int (-1) u)) Q E s := by
  have hsz : (vs ++ [v]).toArray.size = vs.length + 1 := by simp
  refine subscriptTail_builtin (News.isList N hm).typeIs slot_list_getitem.lookup (wpAny_getItem_list_neg (News.isList N hm) (by decide) (by rw [hsz]; omega) (by decide) ?_ h) hs hg
  rw [hsz, show ((-1 : Int) + ((vs.length + 1 : Nat) : Int)).toNat = vs.length by omega]
  simp
end
section
variable {prog : Program} {w : World} {A : Around} {E : Value → Shared → Prop} {s : Shared} {Q : Value → Shared → Prop} {h₀ : Heap} {L : Addr} {news : List (Addr × Obj)}
theorem my_ne_snoc {a b : Addr} {vs : List Value} {v : Value} {na nb : Nat} (N : News h₀ L s.heap news) (ha : (a, W.listOf (vs ++ [v]).toArray na) ∈ news) (hb : (b, W.listOf #[] nb) ∈ news) (hu : A.units < cLine)
    (h : Q (.bool true) s) : wpAny (model prog w) A (compareOp .NotEq (.ref a) (.ref b)) Q E s :=
  my_ne_nil N ha hb hu (by rw [show (vs ++ [v]).isEmpty = false by simp]; exact h)
end
end
section
/-- the rows stand as they should, n names are open -/
def RowsOk : List Row → Nat → Prop
  | [], n => n = 0
  | r :: rs, n => (0 ≤ r.i ∧ r.i ≤ r.x.length ∧ r.x.length ≤ 1000) ∧ ((rs = [] ∧ r.nm = .none ∧ n = 0) ∨ (rs ≠ [] ∧ (∃ y t, r.nm = .str y t) ∧ ∃ n', n = n' + 1 ∧ RowsOk rs n'))
theorem RowsOk.top {r : Row} {rs : List Row} {n : Nat} (h : RowsOk (r :: rs) n) : 0 ≤ r.i ∧ r.i ≤ r.x.length ∧ r.x.length ≤ 1000 := h.1
theorem sub_a {l a b p pd : Addr × Obj} {X : List (Addr × Obj)} : ∀ q ∈ a :: b :: X, q ∈ l :: a :: b :: p :: pd :: X := by
  intro q hq
  rcases List.mem_cons.mp hq with rfl | hq
  · exact .tail _ (.head _)
  · rcases List.mem_cons.mp hq with rfl | hq
    · exact .tail _ (.tail _ (.head _))
    · exact .tail _ (.tail _ (.tail _ (.tail _ (.tail _ hq))))
theorem sub_b {l a b p pd : Addr × Obj} {X : List (Addr × Obj)} : ∀ q ∈ a :: b :: X, q ∈ b :: l :: a :: p :: pd :: X := by
  intro q hq
  rcases List.mem_cons.mp hq with rfl | hq
  · exact .tail _ (.tail _ (.head _))
  · rcases List.mem_cons.mp hq with rfl | hq
    · exact .head _
    · exact .tail _ (.tail _ (.tail _ (.tail _ (.tail _ hq))))
section
inductive TopJ (rows : List Row) (rest : List (Addr × Obj)) (vs : List Value) (rl ol : Addr) (m : Str → Option Value) (n : Nat) (m₁ : Str → Option Value) (news₁ : List (Addr × Obj)) : Prop
  | mk : m₁ = m → ∀ (rows₁ : List Row) (vs₁ : List Value) (nr₁ no₁ : Nat), n = rows₁.length → popOver rows = popOver rows₁ → (∀ q ∈ rowsNews rows₁, q ∈ rowsNews rows) → RowsOk rows₁ vs₁.length → vs₁ = vs.take vs₁.length → rows₁.length ≤ 1000 →
      news₁ = (rl, W.listOf (rowVals rows₁).toArray nr₁) :: (ol, W.listOf vs₁.toArray no₁) :: (rowsNews rows₁ ++ rest) → TopJ rows rest vs rl ol m n m₁ news₁
theorem kw25 : True := by
  k_with "call ref" => (((k_here; (with_reducible show wpAny _ _ (call (Value.ref 280) _) _ _ _); k_dflt (refine' c_over (hp := ?q91hp) (hpd := ?q91hpd) (N := ?q91n) (B := ?q91b) (F := ?q91f) (X := ?q91x) (T := ?q91t) (hk := ?q91k) (h0 := ?q91h0) (hx := ?q91hx) (hdp := ?q91rd) (hu := ?q91ru) (ret := fun h'z tk'z F'z N'z => ?_); (case q91b => k_asm); (case q91f => k_asm); (case q91x => k_asm); (case q91t => k_asm); (case q91k => exact rfl); (case q91n => k_asm); (case q91hp => k_mem); (case q91hpd => k_mem); (case q91h0 => first | assumption | omega); (case q91hx => first | assumption | omega); (case q91rd => ktr_room); (case q91ru => ktr_units); k_whole)); (try dsimp only)))
  k_with "compareOp NotEq ref ref" => ((k_here; (with_reducible show wpAny _ _ (compareOp CmpOp.NotEq (Value.ref _) (Value.ref _)) _ _ _); k_dflt (first | (refine' my_ne_snoc ?q92n ?q92a ?q92b ?q92u ?_; (case q92n => k_asm); (case q92a => k_mem); (case q92b => k_mem); (case q92u => ktr_units); k_whole) | (refine' my_ne_nil ?q92n ?q92a ?q92b ?q92u ?_; (case q92n => k_asm); (case q92a => k_mem); (case q92b => k_mem); (case q92u => ktr_units); k_whole))))
  k_with "subscriptTail" => ((k_here; (with_reducible show wpAny _ _ (subscriptTail _ _ (Value.ref _) (Value.int _ _)) _ _ _); k_dflt (refine' my_last ?q93n ?q93m ?_; (case q93n => k_asm); (case q93m => k_mem); k_whole)))
  k_with "call builtin:list.pop" => ((k_here; k_dflt (refine' kl_pop (by assumption) (by assumption) (last_snoc _ _) ?q94u ?q94z ?_; (case q94u => k_upd); (case q94z => exact pop_room (by first | assumption | omega)); k_whole); intro h'z F'z N'z))
  k_with "call ref" => (((k_here; (with_reducible show wpAny _ _ (call (Value.ref 245) _) _ _ _); k_dflt (refine' c_leave (hg := ?q95hg) (hgx := ?q95hgx) (N := ?q95n) (B := ?q95b) (F := ?q95f) (X := ?q95x) (T := ?q95t) (hk := ?q95k) (d2 := ?q95d2) (hlen := ?q95hl) (hdp := ?q95rd) (hu := ?q95ru) (ret := fun n'z h'z tk'z F'z N'z => ?_); (case q95b => k_asm); (case q95f => k_asm); (case q95x => k_asm); (case q95t => k_asm); (case q95k => exact rfl); (case q95n => exact pickN (by k_asm) (by kbd_text)); (case q95hg => k_mem); (case q95hgx => k_mem); (case q95d2 => k_all); (case q95hl => first | assumption | omega); (case q95rd => ktr_room); (case q95ru => ktr_units); k_whole)); (try dsimp only)))
  trivial
theorem c_top {w : World} {vw : Program} {loose : List Str} {mean : ExcName → Option Value} {mg mb : Str → Option Value} {dp un : Nat} {gd : Option (List Code)} {cn : Str} {cs : Scope} {a : Addr} {ccd : Value} {cl : List (Str × Addr)} {outer : List Env} {A₀ : Around} {base h₀ : Heap} {L : Addr} {m : Str → Option Value} {s : Shared} {Q E : Value → Shared → Prop} {rest : List (Addr × Obj)}
   {st sd rl g gx lm ol : Addr} {h1 h2 h3 h4 h5 h6 : Int} {k1 k2 k3 k4 k5 k6 ts tb : Tok} {sz bg : Int} {vs : List Value} {no nr : Nat} {rows : List Row}
   (B : Below A₀ base outer h₀ := by k_asm) (F : Fr h₀ L s.heap m := by k_asm) (X : (Mine.k0.heap_1 w.params).In h₀ := by k_asm) (T : Top vw loose mean mg mb h₀ := by k_asm) (hk : cs.kind = .function := by exact rfl)
   (N : News h₀ L s.heap ((rl, W.listOf (rowVals rows).toArray nr) :: (ol, W.listOf vs.toArray no) :: (rowsNews rows ++ rest)))
   (hst : (st, W.instObj 339 sd) ∈ rest) (hsd : (sd, W.dictOf [⟨h4, .str (Str.ofString "growth") k4, .ref g⟩, ⟨h5, .str (Str.ofString "rows") k5, .ref rl⟩, ⟨h6, .str (Str.ofString "begin") k6, .int bg tb⟩] 3) ∈ rest)
   (hg : (g, W.instObj 255 gx) ∈ rest) (hgx : (gx, W.dictOf [⟨h1, .str (Str.ofString "limits") k1, .ref lm⟩, ⟨h2, .str (Str.ofString "size") k2, .int sz ts⟩, ⟨h3, .str (Str.ofString "open") k3, .ref ol⟩] 3) ∈ rest)
   (hok : RowsOk rows vs.length) (hlen : vs.length ≤ 1000) (hrows : rows.length ≤ 1000) (e1 : rl ≠ ol) (e2 : ∀ q ∈ rowsNews rows, q.1 ≠ rl) (e3 : ∀ q ∈ rowsNews rows, q.1 ≠ ol) (e4 : ∀ q ∈ rest, q.1 ≠ rl) (e5 : ∀ q ∈ rest, q.1 ≠ ol) (hdp : dp + 8 < recursionLimit := by ktr_room) (hu : un + 320 < cLine := by ktr_units)
   (ret : ∀ nr' no' vs' h' tk', RowsOk (popOver rows) vs'.length → vs' = vs.take vs'.length → Fr h₀ L h' m →
      News h₀ L h' ((rl, W.listOf (rowVals (popOver rows)).toArray nr') :: (ol, W.listOf vs'.toArray no') :: (rowsNews (popOver rows) ++ rest)) →
      Q (match popOver rows with | [] => .none | r :: _ => .ref r.p) { s with heap := h', toks := tk' }) :
   wpAny (model PySem.Challenge.pw_sm0079_01 w) (ktrTop dp un gd cn cs L a ccd cl outer) (call (.ref 322) [.ref st]) Q E s := by
  refine wpAny_call ?_
  k_dflt k_enter
  k_steps
  unfold WhileMark
  refine While_inv (fun n m₁ news₁ => TopJ rows rest vs rl ol _ n m₁ news₁) (by k_asm) (by k_asm) (.mk rfl rows vs nr no rfl rfl (fun _ h => h) hok (by simp) hrows rfl) ?_
  intro n m₁ news₁ h₁ tk₁ F₁ N₁ pz0
  k_extra "hide"
  obtain ⟨rfl, rows₁, vs₁, nr₁, no₁, rfl, hpop, hsub, hok₁, hvs₁, hrl₁, rfl⟩ := pz0
  unfold G9
  cases rows₁ with
  | nil =>
    k_steps
    all_goals (try k_data)
    rw [show popOver rows = [] from hpop] at ret
    exact ret _ _ vs₁ _ _ hok₁ hvs₁ (by assumption) (newsDrop (by assumption) (by kbd_text))
  | cons r rs =>
    k_extra "hide"
    obtain ⟨r1, r2, r3⟩ := hok₁.top
    unfold G9
    have a3 : ∀ q ∈ rowsNews rs ++ rest, q.1 ≠ rl := fun q hq => (List.mem_append.mp hq).elim (fun h => e2 q (hsub q (.tail _ (.tail _ h)))) (e4 q)
    have b3 : ∀ q ∈ rowsNews rs ++ rest, q.1 ≠ ol := fun q hq => (List.mem_append.mp hq).elim (fun h => e3 q (hsub q (.tail _ (.tail _ h)))) (e5 q)
    have a1 : r.p ≠ rl := e2 _ (hsub _ (.head _))
    have a2 : r.pd ≠ rl := e2 _ (hsub _ (.tail _ (.head _)))
    have b1 : r.p ≠ ol := e3 _ (hsub _ (.head _))
    have b2 : r.pd ≠ ol := e3 _ (hsub _ (.tail _ (.head _)))
    have l3 : (rowVals rs).length ≤ 1000 := by simp only [rowVals, List.length_reverse, List.length_map]; simp only [List.length_cons] at hrl₁; omega
    simp only [rowVals_cons, rowsNews, List.cons_append] at N₁
    have hrest := hok₁.2
    k_extra "hide"
    obtain ⟨p, pd, g1, g2, g3, q1, q2, q3, tx, ti, x, nm, i⟩ := r
    unfold G9
    dsimp only at *
    k_steps
    · rename_i hov
      have hovx : i = (x.length : Int) := by assumption
      k_extra "hide"
      rcases hrest with ⟨rfl, rfl, hz⟩ | ⟨hne, ⟨y, ty, rfl⟩, n', hn', hok₂⟩
      all_goals unfold G9
      · k_steps
        all_goals (try k_data)
        have hp1 : popOver rows = popOver [] := by rw [hpop]; exact if_pos (decide_eq_true hovx)
        exact WhileStep.intro (by assumption) (newsSub (by assumption) sub_a) (by simp) (.mk rfl [] vs₁ _ _ rfl hp1 (fun q hq => (nomatch hq)) hz hvs₁ (by simp) rfl)
      · obtain ⟨vs₂, v, rfl⟩ : ∃ vs₂ v, vs₁ = vs₂ ++ [v] := by
          rcases List.eq_nil_or_concat vs₁ with rfl | ⟨a, b, rfl⟩
          · simp at hn'
          · exact ⟨a, b, by simp⟩
        have l4 : vs₂.length ≤ 1000 := by
          have z := congrArg List.length hvs₁
          simp only [List.length_take, List.length_append, List.length_singleton] at z
          omega
        k_steps
        all_goals (try k_data)
        have e : n' = vs₂.length := by simp at hn'; omega
        have hp1 : popOver rows = popOver rs := by rw [hpop]; exact if_pos (decide_eq_true hovx)
        have hv2 : vs₂ = vs.take vs₂.length := by
          have z := congrArg (List.take vs₂.length) hvs₁
          rw [List.take_left, List.take_take, List.length_append, List.length_singleton, Nat.min_eq_left (by omega)] at z
          exact z
        exact WhileStep.intro (by assumption) (newsSub (by assumption) sub_b) (by simp) (.mk rfl rs vs₂ _ _ rfl hp1 (fun q hq => hsub q (.tail _ (.tail _ hq))) (e ▸ hok₂) hv2 (by simp only [List.length_cons] at hrl₁; omega) rfl)
    · have hp2 := hpop.trans (if_neg (by rw [Bool.not_eq_true]; exact decide_eq_false ‹¬ i = (x.length : Int)›))
      rw [hp2] at ret
      simp only [rowVals_cons, rowsNews, List.cons_append] at ret
      exact ret _ _ vs₁ _ _ hok₁ hvs₁ (by assumption) (newsDrop (by assumption) (by kbd_text))
end
end
section
section
theorem kw26 : True := by
  k_with_none
  k_with "k_all" => (first | with_reducible assumption | exact List.forall_mem_nil _ | exact allNe (by with_reducible assumption) | (refine' List.forall_mem_cons.mpr ⟨?q1a, ?q1b⟩; (case q1a => k_ne); (case q1b => k_all)) | exact subNe (by with_reducible assumption) (fun q hq => by kbo_some) | exact subNeT (by with_reducible assumption) (by with_reducible assumption) (fun q hq => by kbo_some) | exact subNeQ (by with_reducible assumption) (fun q hq => by kbo_some) | assumption)
  k_with "kbo_some" => (first | with_reducible assumption | exact List.Mem.head _ | (refine' List.mem_cons_of_mem _ ?_; kbo_some) | ((with_reducible refine List.mem_append.mpr (Or.inr ?_)); kbo_some))
  k_with "k_mem" => (first | kbo_some | assumption)
  k_with "k_upd" => (first | (refine' Upd.head ?q4a; (case q4a => k_all)) | (refine' Upd.tail ?q4a ?q4b; (case q4a => k_ne); (case q4b => k_upd)))
  k_with "k_updF" => (first | (refine' UpdF.head ?q5a; (case q5a => k_all)) | (refine' UpdF.tail ?q5a ?q5b; (case q5a => k_ne); (case q5b => k_updF)))
  k_with "k_ne" => (((try dsimp only); first | with_reducible assumption | (refine Ne.symm ?_; with_reducible assumption) | (refine Nat.ne_of_gt ?_; with_reducible assumption) | (refine Nat.ne_of_lt ?_; with_reducible assumption) | (refine neR (by with_reducible assumption) ?_; k_extra "has") | (refine neL (by with_reducible assumption) ?_; k_extra "has") | (refine neQ (by with_reducible assumption) ?_; k_extra "has") | (refine neP (by with_reducible assumption) ?_; k_extra "has") | (refine neT (by with_reducible assumption) (by with_reducible assumption) ?_; k_extra "has") | (refine neU (by with_reducible assumption) (by with_reducible assumption) ?_; k_extra "has") | exact Nat.ne_of_lt (Nat.lt_succ_self _) | exact Nat.ne_of_gt (Nat.lt_succ_self _) | omega))
  k_with "k_enter" => (first
  | (refine' code_def ?q7k1 ?q7k2 ?q7k3 ?q7k4 ?q7k5 ?q7kA ?q7kF ?q7kK ?q7k6 ?q7k7 ?q7k8 ?q7k9 ?q7kB ?_ ?q7c2 ?q7c3 ?q7c4 ?q7c5; (case q7kA => exact rfl); (case q7kF => exact rfl); (case q7kK => first | exact rfl | assumption); (case q7k1 => k_asm); (case q7k2 => k_asm); (case q7k3 => k_asm); (case q7k4 => k_asm); (case q7k5 => k_asm); (case q7k6 => k_is); (case q7k7 => k_is); (case q7k8 => ktr_room); (case q7k9 => first | exact BindsTo.of_eq rfl | exact binds_K (by k_in) rfl (by k_is) rfl rfl rfl); (case q7c5 => decide); (case q7kB => exact locs rfl); (case q7c2 => exact rfl); (case q7c3 => exact rfl); (case q7c4 => exact rfl); k_whole; intro g'z L'z h'z FG'z F'z N'z B'z X'z T'z; (try dsimp only); (try k_fold); (try (refine letA ?_; intro A9)))
  | (refine' code_defC ?q7k1 ?q7k2 ?q7k3 ?q7k4 ?q7k5 ?q7kA ?q7kF ?q7kK ?q7k6 ?q7k7 ?q7k8 ?q7k9 ?q7kB ?q7kD ?_ ?q7c2 ?q7c3 ?q7c4; (case q7kA => exact rfl); (case q7kF => exact rfl); (case q7kK => first | exact rfl | assumption); (case q7k1 => k_asm); (case q7k2 => k_asm); (case q7k3 => k_asm); (case q7k4 => k_asm); (case q7k5 => k_asm); (case q7k6 => k_is); (case q7k7 => k_is); (case q7k8 => ktr_room); (case q7k9 => first | exact BindsTo.of_eq rfl | exact binds_K (by k_in) rfl (by k_is) rfl rfl rfl); (case q7kB => exact rfl); (case q7kD => decide +kernel); (case q7c2 => exact rfl); (case q7c3 => exact rfl); (case q7c4 => exact rfl); k_whole; intro g'z L'z h'z tk'z cells'z FG'z F'z N'z Y'z B'z X'z T'z l1; (try k_lt l1); (try (have hR6 := restNe l1 (Nat.le_add_right _ 1); have hR5 := restNe l1 (Nat.le_add_right _ (1 + 1)))); (first   | (have hY := CellsAre.one Y'z; obtain ⟨o'z, hE'z, d1'z⟩ := hY; subst hE'z; clear Y'z; (first | (replace d1'z : o'z.data = .cell none := d1'z) | (replace d1'z : o'z.data = .cell (some _) := d1'z) | skip))   | (have hY := CellsAre.two Y'z; obtain ⟨o'z, o2'z, hE'z, d1'z, d2'z⟩ := hY; subst hE'z; clear Y'z; (first | (replace d1'z : o'z.data = .cell none := d1'z) | (replace d1'z : o'z.data = .cell (some _) := d1'z) | skip); (first | (replace d2'z : o2'z.data = .cell none := d2'z) | (replace d2'z : o2'z.data = .cell (some _) := d2'z) | skip))); (try simp only [List.cons_append, List.nil_append] at N'z); (try dsimp only); (try k_fold); (try (refine letA ?_; intro A9))))
  k_with "ktr_room" => (((try simp +zetaDelta only [depth_deeper, depth_in1, depth_mark, depth_under_make, depth_under_kw]); (try dsimp only [ktrTop]); (try simp only [Nat.add_assoc, Nat.reduceAdd]); refine Nat.lt_of_le_of_lt (Nat.add_le_add_left ?_ _) (by with_reducible assumption); decide))
  k_with "ktr_units" => (((try simp +zetaDelta only [units_deeper, units_in1, Around.mark_units]); (try dsimp only [ktrTop]); (try simp only [Nat.add_assoc, Nat.reduceAdd]); refine Nat.lt_of_le_of_lt (Nat.add_le_add_left ?_ _) (by with_reducible assumption); decide))
  k_with "kbd_text" => (first | exact Pick.head | (apply Pick.tail; kbd_text))
  k_with "hide" => ((refine hideG ?_; intro G9))
  k_with "has" => (first | with_reducible exact Has.head | (refine Has.tail ?_; k_extra "has"))
  k_with "lt" => (first | with_reducible assumption | (refine Has.lt (by with_reducible assumption) ?_; k_extra "has") | (refine ltT (by with_reducible assumption) (by with_reducible assumption) ?_; k_extra "has"))
  k_with "ltAll" => (first | with_reducible assumption | exact allLt_mem (by with_reducible assumption) | exact subLt (by with_reducible assumption) (fun q hq => by kbo_some))
  k_with "FinE" => (((unfold LCg.FinE); intro D'z h'z tk'z F'z N'z o1'z; (have hR8 := off1_ne o1'z); (try simp only [List.nil_append, List.cons_append] at N'z); (try dsimp only)))
  k_with "lcg_off" => (first | exact True.intro | with_reducible assumption | (refine And.intro ⟨by k_ne, by k_ne, by k_ne⟩ ?_; lcg_off))
  k_with "CompEnd" => ((k_here; k_dflt (refine' compEndP ?q17f ?q17n ?q17p1 ?q17p2 ?q17p3 ?q17o ?q17s ?_; (case q17f => k_asm); (case q17n => k_asm); (case q17p1 => kbd_text); (case q17p2 => kbd_text); (case q17p3 => kbd_text); (case q17o => lcg_off); (case q17s => lcg_src); k_whole)))
  k_with "kbd_text" => (((with_reducible show Split _ _ _); first | exact Split.nil | (apply Split.cons; kbd_text)))
  k_with "exec While BoolOp cons nil" => ((k_here; refine while_mark ?_))
  k_with "exec While Compare cons nil" => ((k_here; refine while_mark ?_))
  k_with "subscriptTail Attribute" => ((k_here; k_dflt (refine kba_turn (value' := PySem.Expr.Name (PySem.Str.ofString "_") ⟨0, 0, 0, 0⟩) (fun _ => rfl) ?_)))
  k_with "ite" => ((k_closed; k_dflt (first | rw [if_pos (by decide)] | rw [if_neg (by decide)])))
  k_with "k_in" => (first | with_reducible assumption | exact Frag.In.keeps (by with_reducible assumption) (Fr.keep (by with_reducible assumption)))
  k_with "execs nil" => ((k_here; refine wpAny_execs_nil ?_))
  k_with "execs cons" => ((k_here; refine wpAny_execs_cons ?_))
  k_with "exec If" => ((k_here; refine wpAny_If ?_))
  k_with "subscriptTail" => ((k_here; (with_reducible show wpAny _ _ (subscriptTail _ _ (Value.ref _) (Value.int _ _)) _ _ _); k_dflt (refine' my_last ?q96n ?q96m ?_; (case q96n => k_asm); (case q96m => k_mem); k_whole)))
  k_with "call builtin:len" => ((k_here; (with_reducible show wpAny _ _ (call (Value.builtin "len") [Value.ref _]) _ _ _); k_dflt (refine' my_len_list ?q97n ?q97m ?q97z ?_; (case q97n => k_asm); (case q97m => k_mem); (case q97z => first | assumption | decide | omega); k_whole); intro t'z k'z))
  k_with "call ref" => (((k_here; (with_reducible show wpAny _ _ (call (Value.ref 294) _) _ _ _); k_dflt (refine' c_ref (N := by exact pickN (pickN (by k_asm) (by kbd_text)) (Pick.tail (by kbd_text))) (hpd := by k_ne) (hr1 := by k_all) (hr2 := by k_all) (h0 := by assumption) (hx := by assumption) (hs := by assumption) (hc := by assumption) (hw := by assumption) (hg := by assumption) (ret := fun tj'z t'z h'z tk'z F'z N'z => ?_); k_whole)); (try dsimp only)))
  trivial
theorem c_sref {w : World} {vw : Program} {loose : List Str} {mean : ExcName → Option Value} {mg mb : Str → Option Value} {dp un : Nat} {gd : Option (List Code)} {cn : Str} {cs : Scope} {a : Addr} {ccd : Value} {cl : List (Str × Addr)} {outer : List Env} {A₀ : Around} {base h₀ : Heap} {L : Addr} {m : Str → Option Value} {s : Shared} {Q E : Value → Shared → Prop} {rest : List (Addr × Obj)}
   {st sd rl p pd : Addr} {h1 h2 h3 h4 h5 h6 : Int} {k1 k2 k3 k4 k5 k6 tb tx ti : Tok} {bg : Int} {g : Value} {vs : List Value} {nr : Nat} {x : Str} {nm : Value} {i : Int} {c : Nat} {word : Str} {tl : List Nat}
   (B : Below A₀ base outer h₀ := by k_asm) (F : Fr h₀ L s.heap m := by k_asm) (X : (Mine.k0.heap_1 w.params).In h₀ := by k_asm) (T : Top vw loose mean mg mb h₀ := by k_asm) (hk : cs.kind = .function := by exact rfl)
   (N : News h₀ L s.heap ((sd, W.dictOf [⟨h4, .str (Str.ofString "growth") k4, g⟩, ⟨h5, .str (Str.ofString "rows") k5, .ref rl⟩, ⟨h6, .str (Str.ofString "begin") k6, .int bg tb⟩] 3) :: (p, W.instObj 297 pd) :: (pd, W.dictOf [⟨h1, .str (Str.ofString "text") k1, .str x tx⟩, ⟨h2, .str (Str.ofString "name") k2, nm⟩, ⟨h3, .str (Str.ofString "at") k3, .int i ti⟩] 3) :: rest))
   (hst : (st, W.instObj 339 sd) ∈ rest) (hrl : (rl, W.listOf (vs ++ [Value.ref p]).toArray nr) ∈ rest)
   (d1 : p ≠ sd) (d2 : pd ≠ sd) (d3 : p ≠ pd) (d4 : ∀ q ∈ rest, q.1 ≠ sd) (d5 : ∀ q ∈ rest, q.1 ≠ p) (d6 : ∀ q ∈ rest, q.1 ≠ pd) (hvs : (vs ++ [Value.ref p]).length ≤ 1000) (h0 : 0 ≤ i) (hx : x.length ≤ 1000)
   (hs : x.cps.toList.drop i.toNat = c :: (word.cps.toList ++ 59 :: tl)) (hc : c ≠ 59) (hw : 59 ∉ word.cps.toList) (hg : GoodW word) (hdp : dp + 14 < recursionLimit := by ktr_room) (hu : un + 560 < cLine := by ktr_units)
   (ret : ∀ tj bg' tb' t h' tk', Fr h₀ L h' m →
     News h₀ L h' ((sd, W.dictOf [⟨h4, .str (Str.ofString "growth") k4, g⟩, ⟨h5, .str (Str.ofString "rows") k5, .ref rl⟩, ⟨h6, .str (Str.ofString "begin") k6, .int bg' tb'⟩] 3) :: (p, W.instObj 297 pd) :: (pd, W.dictOf [⟨h1, .str (Str.ofString "text") k1, .str x tx⟩, ⟨h2, .str (Str.ofString "name") k2, nm⟩, ⟨h3, .str (Str.ofString "at") k3, .int (i + 1 + word.length + 1) tj⟩] 3) :: rest) → Q (.str word t) { s with heap := h', toks := tk' }) :
   wpAny (model PySem.Challenge.pw_sm0079_01 w) (ktrTop dp un gd cn cs L a ccd cl outer) (call (.ref 329) [.ref st]) Q E s := by
  refine wpAny_call ?_
  k_dflt k_enter
  k_steps
  all_goals (try k_data)
  all_goals first | exact ret _ _ _ _ _ _ (by assumption) (pickN (by assumption) (by kbd_text))
end
end
section
section
/-- the table: its object, its dict, the limits, the parameters' dict -/
structure TabOk (prog : Program) (w : World) (news : List (Addr × Obj)) (tb lm : Addr) (kvs : List (Str × Value)) where
  td : Addr
  pm : Addr
  po : Obj
  h1 : Int
  h2 : Int
  h3 : Int
  h4 : Int
  k1 : Tok
  k2 : Tok
  k3 : Tok
  k4 : Tok
  v2 : Value
  v3 : Value
  mt : (tb, W.instObj 675 td) ∈ news
  md : (td, W.dictOf [⟨h1, .str (Str.ofString "limits") k1, .ref lm⟩, ⟨h2, .str (Str.ofString "outer") k2, v2⟩, ⟨h3, .str (Str.ofString "general") k3, v3⟩, ⟨h4, .str (Str.ofString "parameters") k4, .ref pm⟩] 4) ∈ news
  mp : (pm, po) ∈ news
  isd : po.IsDictOf (PySem.strKind prog w) kvs
  low : (pm == sysModules) = false
/-- what a name is declared by -/
structure EntOk (news : List (Addr × Obj)) (v : Value) (x : Str) where
  e : Addr
  ed : Addr
  h1 : Int
  h2 : Int
  h3 : Int
  h4 : Int
  k1 : Tok
  k2 : Tok
  k3 : Tok
  k4 : Tok
  tx : Tok
  v1 : Value
  eq : v = .ref e
  me : (e, W.instObj 568 ed) ∈ news
  md : (ed, W.dictOf [⟨h1, .str (Str.ofString "name") k1, v1⟩, ⟨h2, .str (Str.ofString "value") k2, .str x tx⟩, ⟨h3, .str (Str.ofString "system") k3, .none⟩, ⟨h4, .str (Str.ofString "notation") k4, .none⟩] 4) ∈ news
theorem kw27 : True := by
  k_with_none
  k_with "k_all" => (first | with_reducible assumption | exact List.forall_mem_nil _ | exact allNe (by with_reducible assumption) | (refine' List.forall_mem_cons.mpr ⟨?q1a, ?q1b⟩; (case q1a => k_ne); (case q1b => k_all)) | exact subNe (by with_reducible assumption) (fun q hq => by kbo_some) | exact subNeT (by with_reducible assumption) (by with_reducible assumption) (fun q hq => by kbo_some) | exact subNeQ (by with_reducible assumption) (fun q hq => by kbo_some) | assumption)
  k_with "kbo_some" => (first | with_reducible assumption | exact List.Mem.head _ | (refine' List.mem_cons_of_mem _ ?_; kbo_some) | ((with_reducible refine List.mem_append.mpr (Or.inr ?_)); kbo_some))
  k_with "k_mem" => (first | kbo_some | assumption)
  k_with "k_upd" => (first | (refine' Upd.head ?q4a; (case q4a => k_all)) | (refine' Upd.tail ?q4a ?q4b; (case q4a => k_ne); (case q4b => k_upd)))
  k_with "k_updF" => (first | (refine' UpdF.head ?q5a; (case q5a => k_all)) | (refine' UpdF.tail ?q5a ?q5b; (case q5a => k_ne); (case q5b => k_updF)))
  k_with "k_ne" => (((try dsimp only); first | with_reducible assumption | (refine Ne.symm ?_; with_reducible assumption) | (refine Nat.ne_of_gt ?_; with_reducible assumption) | (refine Nat.ne_of_lt ?_; with_reducible assumption) | (refine neR (by with_reducible assumption) ?_; k_extra "has") | (refine neL (by with_reducible assumption) ?_; k_extra "has") | (refine neQ (by with_reducible assumption) ?_; k_extra "has") | (refine neP (by with_reducible assumption) ?_; k_extra "has") | (refine neT (by with_reducible assumption) (by with_reducible assumption) ?_; k_extra "has") | (refine neU (by with_reducible assumption) (by with_reducible assumption) ?_; k_extra "has") | exact Nat.ne_of_lt (Nat.lt_succ_self _) | exact Nat.ne_of_gt (Nat.lt_succ_self _) | omega))
  k_with "k_enter" => (first
  | (refine' code_def ?q7k1 ?q7k2 ?q7k3 ?q7k4 ?q7k5 ?q7kA ?q7kF ?q7kK ?q7k6 ?q7k7 ?q7k8 ?q7k9 ?q7kB ?_ ?q7c2 ?q7c3 ?q7c4 ?q7c5; (case q7kA => exact rfl); (case q7kF => exact rfl); (case q7kK => first | exact rfl | assumption); (case q7k1 => k_asm); (case q7k2 => k_asm); (case q7k3 => k_asm); (case q7k4 => k_asm); (case q7k5 => k_asm); (case q7k6 => k_is); (case q7k7 => k_is); (case q7k8 => ktr_room); (case q7k9 => first | exact BindsTo.of_eq rfl | exact binds_K (by k_in) rfl (by k_is) rfl rfl rfl); (case q7c5 => decide); (case q7kB => exact locs rfl); (case q7c2 => exact rfl); (case q7c3 => exact rfl); (case q7c4 => exact rfl); k_whole; intro g'z L'z h'z FG'z F'z N'z B'z X'z T'z; (try dsimp only); (try k_fold); (try (refine letA ?_; intro A9)))
  | (refine' code_defC ?q7k1 ?q7k2 ?q7k3 ?q7k4 ?q7k5 ?q7kA ?q7kF ?q7kK ?q7k6 ?q7k7 ?q7k8 ?q7k9 ?q7kB ?q7kD ?_ ?q7c2 ?q7c3 ?q7c4; (case q7kA => exact rfl); (case q7kF => exact rfl); (case q7kK => first | exact rfl | assumption); (case q7k1 => k_asm); (case q7k2 => k_asm); (case q7k3 => k_asm); (case q7k4 => k_asm); (case q7k5 => k_asm); (case q7k6 => k_is); (case q7k7 => k_is); (case q7k8 => ktr_room); (case q7k9 => first | exact BindsTo.of_eq rfl | exact binds_K (by k_in) rfl (by k_is) rfl rfl rfl); (case q7kB => exact rfl); (case q7kD => decide +kernel); (case q7c2 => exact rfl); (case q7c3 => exact rfl); (case q7c4 => exact rfl); k_whole; intro g'z L'z h'z tk'z cells'z FG'z F'z N'z Y'z B'z X'z T'z l1; (try k_lt l1); (try (have hR6 := restNe l1 (Nat.le_add_right _ 1); have hR5 := restNe l1 (Nat.le_add_right _ (1 + 1)))); (first   | (have hY := CellsAre.one Y'z; obtain ⟨o'z, hE'z, d1'z⟩ := hY; subst hE'z; clear Y'z; (first | (replace d1'z : o'z.data = .cell none := d1'z) | (replace d1'z : o'z.data = .cell (some _) := d1'z) | skip))   | (have hY := CellsAre.two Y'z; obtain ⟨o'z, o2'z, hE'z, d1'z, d2'z⟩ := hY; subst hE'z; clear Y'z; (first | (replace d1'z : o'z.data = .cell none := d1'z) | (replace d1'z : o'z.data = .cell (some _) := d1'z) | skip); (first | (replace d2'z : o2'z.data = .cell none := d2'z) | (replace d2'z : o2'z.data = .cell (some _) := d2'z) | skip))); (try simp only [List.cons_append, List.nil_append] at N'z); (try dsimp only); (try k_fold); (try (refine letA ?_; intro A9))))
  k_with "ktr_room" => (((try simp +zetaDelta only [depth_deeper, depth_in1, depth_mark, depth_under_make, depth_under_kw]); (try dsimp only [ktrTop]); (try simp only [Nat.add_assoc, Nat.reduceAdd]); refine Nat.lt_of_le_of_lt (Nat.add_le_add_left ?_ _) (by with_reducible assumption); decide))
  k_with "ktr_units" => (((try simp +zetaDelta only [units_deeper, units_in1, Around.mark_units]); (try dsimp only [ktrTop]); (try simp only [Nat.add_assoc, Nat.reduceAdd]); refine Nat.lt_of_le_of_lt (Nat.add_le_add_left ?_ _) (by with_reducible assumption); decide))
  k_with "kbd_text" => (first | exact Pick.head | (apply Pick.tail; kbd_text))
  k_with "hide" => ((refine hideG ?_; intro G9))
  k_with "has" => (first | with_reducible exact Has.head | (refine Has.tail ?_; k_extra "has"))
  k_with "lt" => (first | with_reducible assumption | (refine Has.lt (by with_reducible assumption) ?_; k_extra "has") | (refine ltT (by with_reducible assumption) (by with_reducible assumption) ?_; k_extra "has"))
  k_with "ltAll" => (first | with_reducible assumption | exact allLt_mem (by with_reducible assumption) | exact subLt (by with_reducible assumption) (fun q hq => by kbo_some))
  k_with "FinE" => (((unfold LCg.FinE); intro D'z h'z tk'z F'z N'z o1'z; (have hR8 := off1_ne o1'z); (try simp only [List.nil_append, List.cons_append] at N'z); (try dsimp only)))
  k_with "lcg_off" => (first | exact True.intro | with_reducible assumption | (refine And.intro ⟨by k_ne, by k_ne, by k_ne⟩ ?_; lcg_off))
  k_with "CompEnd" => ((k_here; k_dflt (refine' compEndP ?q17f ?q17n ?q17p1 ?q17p2 ?q17p3 ?q17o ?q17s ?_; (case q17f => k_asm); (case q17n => k_asm); (case q17p1 => kbd_text); (case q17p2 => kbd_text); (case q17p3 => kbd_text); (case q17o => lcg_off); (case q17s => lcg_src); k_whole)))
  k_with "kbd_text" => (((with_reducible show Split _ _ _); first | exact Split.nil | (apply Split.cons; kbd_text)))
  k_with "exec While BoolOp cons nil" => ((k_here; refine while_mark ?_))
  k_with "exec While Compare cons nil" => ((k_here; refine while_mark ?_))
  k_with "subscriptTail Attribute" => ((k_here; k_dflt (refine kba_turn (value' := PySem.Expr.Name (PySem.Str.ofString "_") ⟨0, 0, 0, 0⟩) (fun _ => rfl) ?_)))
  k_with "ite" => ((k_closed; k_dflt (first | rw [if_pos (by decide)] | rw [if_neg (by decide)])))
  k_with "k_in" => (first | with_reducible assumption | exact Frag.In.keeps (by with_reducible assumption) (Fr.keep (by with_reducible assumption)))
  k_with "execs nil" => ((k_here; refine wpAny_execs_nil ?_))
  k_with "execs cons" => ((k_here; refine wpAny_execs_cons ?_))
  k_with "exec If" => ((k_here; refine wpAny_If ?_))
  k_with "exec Raise some none" => ((k_here; k_dflt (refine' raise_own ?q99hh ?_; (case q99hh => first | exact rfl | assumption); k_whole)))
  k_with "RaiseNow" => ((k_dflt (refine' raise_now ?q100f ?q100n ?q100x ?q100m ?q100c ?q100b ?_; (case q100f => k_asm); (case q100n => k_asm); (case q100x => k_asm); (case q100m => k_mem); (case q100c => k_is); (case q100b => decide +kernel); k_whole); (try dsimp only)))
  k_with "leaving ref" => ((k_here; first
  | (refine' leave_exc ?q101b ?q101f ?q101n ?q101su ?q101n1 ?q101n2 ?q101te ?_; (case q101b => assumption); (case q101f => assumption); (case q101n => assumption); (case q101su => exact fun q hq => List.mem_append_right _ hq); (case q101n1 => k_all); (case q101n2 => k_all); (case q101te => k_ne); k_whole; intro h'z R'z U'z; (try dsimp only at R'z U'z ⊢))
  | (refine' leave_onR ?q101k1 ?q101k2 ?q101k3 ?q101k4 ?_; (case q101k3 => assumption); (case q101k1 => assumption); (case q101k4 => assumption); (case q101k2 => assumption); k_whole; intro h'z R'z U'z; (try dsimp only at R'z U'z ⊢))))
  k_with "call ref" => (((k_here; (with_reducible show wpAny _ _ (call (Value.ref 162) _) _ _ _); k_dflt (refine' c_fault (C := 162) ?q102hC ?q102b ?q102f ?q102x ?q102t ?q102k ?q102n ?q102rd ?q102ru ?_; (case q102hC => exact .inl rfl); (case q102b => k_asm); (case q102f => k_asm); (case q102x => k_asm); (case q102t => k_asm); (case q102k => exact rfl); (case q102n => k_asm); (case q102rd => ktr_room); (case q102ru => ktr_units); k_whole); intro e'z tu'z d'z l'z h'z tk'z F'z N'z i1'z i2'z i3'z); (try dsimp only)))
  k_with "call ref" => (((k_here; (with_reducible show wpAny _ _ (call (Value.ref 174) _) _ _ _); k_dflt (refine' c_fault (C := 174) ?q103hC ?q103b ?q103f ?q103x ?q103t ?q103k ?q103n ?q103rd ?q103ru ?_; (case q103hC => exact .inr rfl); (case q103b => k_asm); (case q103f => k_asm); (case q103x => k_asm); (case q103t => k_asm); (case q103k => exact rfl); (case q103n => k_asm); (case q103rd => ktr_room); (case q103ru => ktr_units); k_whole); intro e'z tu'z d'z l'z h'z tk'z F'z N'z i1'z i2'z i3'z); (try dsimp only)))
  k_with "compareOp NotIn str ref" => ((k_here; (with_reducible show wpAny _ _ (compareOp CmpOp.NotIn (Value.str _ _) (Value.ref _)) _ _ _); k_dflt (first
  | refine kdg_notin (knd := PySem.strKind _ _) (by k_asm) (by k_mem) (by assumption) (by assumption) (strKind_is _ _ _ _) true (by rw [‹valueAt _ _ = some _›]; rfl) ?_
  | refine kdg_notin (knd := PySem.strKind _ _) (by k_asm) (by k_mem) (by assumption) (by assumption) (strKind_is _ _ _ _) false (by rw [‹valueAt _ _ = none›]; rfl) ?_)))
  k_with "subscriptTail" => ((k_here; (with_reducible show wpAny _ _ (subscriptTail _ _ (Value.ref _) (Value.str _ _)) _ _ _); k_dflt (refine kda_item (knd := PySem.strKind _ _) (by k_asm) (by k_mem) (by assumption) (strKind_is _ _ _ _) (by assumption) ?_)))
  trivial
theorem c_param {w : World} {vw : Program} {loose : List Str} {mean : ExcName → Option Value} {mg mb : Str → Option Value} {dp un : Nat} {gd : Option (List Code)} {cn : Str} {cs : Scope} {a : Addr} {ccd : Value} {cl : List (Str × Addr)} {outer : List Env} {A₀ : Around} {base h₀ : Heap} {L : Addr} {m : Str → Option Value} {s : Shared} {Q E : Value → Shared → Prop} {rest : List (Addr × Obj)}
   {tb lm : Addr} {kvs : List (Str × Value)} {nm x : Str} {tn : Tok} {v : Value}
   (B : Below A₀ base outer h₀ := by k_asm) (F : Fr h₀ L s.heap m := by k_asm) (X : (Mine.k0.heap_1 w.params).In h₀ := by k_asm) (T : Top vw loose mean mg mb h₀ := by k_asm) (hk : cs.kind = .function := by exact rfl)
   (N : News h₀ L s.heap rest) (tab : TabOk PySem.Challenge.pw_sm0079_01 w rest tb lm kvs) (hv : valueAt kvs nm = some v) (ent : EntOk rest v x) (hdp : dp + 8 < recursionLimit := by ktr_room) (hu : un + 320 < cLine := by ktr_units)
   (ret : ∀ t h' tk', Fr h₀ L h' m → News h₀ L h' rest → Q (.str x t) { s with heap := h', toks := tk' }) :
   wpAny (model PySem.Challenge.pw_sm0079_01 w) (ktrTop dp un gd cn cs L a ccd cl outer) (call (.ref 672) [.ref tb, .str nm tn]) Q E s := by
  k_extra "hide"
  obtain ⟨td, pm, po, h1, h2, h3, h4, k1, k2, k3, k4, v2, v3, mt, md, mp, isd, low⟩ := tab
  unfold G9
  k_extra "hide"
  obtain ⟨e, ed, g1, g2, g3, g4, q1, q2, q3, q4, tx, v1, rfl, me, mde⟩ := ent
  unfold G9
  refine wpAny_call ?_
  k_dflt k_enter
  k_steps
  all_goals (try k_data)
  all_goals exact ret _ _ _ (by assumption) (by assumption)
theorem c_param0 {w : World} {vw : Program} {loose : List Str} {mean : ExcName → Option Value} {mg mb : Str → Option Value} {dp un : Nat} {gd : Option (List Code)} {cn : Str} {cs : Scope} {a : Addr} {ccd : Value} {cl : List (Str × Addr)} {outer : List Env} {A₀ : Around} {base h₀ : Heap} {L : Addr} {m : Str → Option Value} {s : Shared} {Q E : Value → Shared → Prop} {rest : List (Addr × Obj)}
   {tb lm : Addr} {kvs : List (Str × Value)} {nm : Str} {tn : Tok}
   (B : Below A₀ base outer h₀ := by k_asm) (F : Fr h₀ L s.heap m := by k_asm) (X : (Mine.k0.heap_1 w.params).In h₀ := by k_asm) (T : Top vw loose mean mg mb h₀ := by k_asm) (hk : cs.kind = .function := by exact rfl)
   (N : News h₀ L s.heap rest) (tab : TabOk PySem.Challenge.pw_sm0079_01 w rest tb lm kvs) (hv : valueAt kvs nm = none) (hnm : nm.length ≤ 10) (hdp : dp + 8 < recursionLimit := by ktr_room) (hu : un + 320 < cLine := by ktr_units)
   (thr : ∀ e t us h' tk' g₂, Fr h₀ L g₂ m → g₂.UpToSlots h' → RaisedS base g₂ (envX cn cs L a ccd cl :: outer) e (.ref 162) t us rest h' → E (.ref e) { s with heap := h', toks := tk' }) :
   wpAny (model PySem.Challenge.pw_sm0079_01 w) (ktrTop dp un gd cn cs L a ccd cl outer) (call (.ref 672) [.ref tb, .str nm tn]) Q E s := by
  k_extra "hide"
  obtain ⟨td, pm, po, h1, h2, h3, h4, k1, k2, k3, k4, v2, v3, mt, md, mp, isd, low⟩ := tab
  unfold G9
  refine wpAny_call ?_
  k_dflt k_enter
  k_steps
  all_goals (try k_data)
  all_goals exact thr _ _ _ _ _ _ (by assumption) (by assumption) (by assumption)
end
end
section
section
theorem kw28 : True := by
  k_with_none
  k_with "k_all" => (first | with_reducible assumption | exact List.forall_mem_nil _ | exact allNe (by with_reducible assumption) | (refine' List.forall_mem_cons.mpr ⟨?q1a, ?q1b⟩; (case q1a => k_ne); (case q1b => k_all)) | exact subNe (by with_reducible assumption) (fun q hq => by kbo_some) | exact subNeT (by with_reducible assumption) (by with_reducible assumption) (fun q hq => by kbo_some) | exact subNeQ (by with_reducible assumption) (fun q hq => by kbo_some) | assumption)
  k_with "kbo_some" => (first | with_reducible assumption | exact List.Mem.head _ | (refine' List.mem_cons_of_mem _ ?_; kbo_some) | ((with_reducible refine List.mem_append.mpr (Or.inr ?_)); kbo_some))
  k_with "k_mem" => (first | kbo_some | assumption)
  k_with "k_upd" => (first | (refine' Upd.head ?q4a; (case q4a => k_all)) | (refine' Upd.tail ?q4a ?q4b; (case q4a => k_ne); (case q4b => k_upd)))
  k_with "k_updF" => (first | (refine' UpdF.head ?q5a; (case q5a => k_all)) | (refine' UpdF.tail ?q5a ?q5b; (case q5a => k_ne); (case q5b => k_updF)))
  k_with "k_ne" => (((try dsimp only); first | with_reducible assumption | (refine Ne.symm ?_; with_reducible assumption) | (refine Nat.ne_of_gt ?_; with_reducible assumption) | (refine Nat.ne_of_lt ?_; with_reducible assumption) | (refine neR (by with_reducible assumption) ?_; k_extra "has") | (refine neL (by with_reducible assumption) ?_; k_extra "has") | (refine neQ (by with_reducible assumption) ?_; k_extra "has") | (refine neP (by with_reducible assumption) ?_; k_extra "has") | (refine neT (by with_reducible assumption) (by with_reducible assumption) ?_; k_extra "has") | (refine neU (by with_reducible assumption) (by with_reducible assumption) ?_; k_extra "has") | exact Nat.ne_of_lt (Nat.lt_succ_self _) | exact Nat.ne_of_gt (Nat.lt_succ_self _) | omega))
  k_with "k_enter" => (first
  | (refine' code_def ?q7k1 ?q7k2 ?q7k3 ?q7k4 ?q7k5 ?q7kA ?q7kF ?q7kK ?q7k6 ?q7k7 ?q7k8 ?q7k9 ?q7kB ?_ ?q7c2 ?q7c3 ?q7c4 ?q7c5; (case q7kA => exact rfl); (case q7kF => exact rfl); (case q7kK => first | exact rfl | assumption); (case q7k1 => k_asm); (case q7k2 => k_asm); (case q7k3 => k_asm); (case q7k4 => k_asm); (case q7k5 => k_asm); (case q7k6 => k_is); (case q7k7 => k_is); (case q7k8 => ktr_room); (case q7k9 => first | exact BindsTo.of_eq rfl | exact binds_K (by k_in) rfl (by k_is) rfl rfl rfl); (case q7c5 => decide); (case q7kB => exact locs rfl); (case q7c2 => exact rfl); (case q7c3 => exact rfl); (case q7c4 => exact rfl); k_whole; intro g'z L'z h'z FG'z F'z N'z B'z X'z T'z; (try dsimp only); (try k_fold); (try (refine letA ?_; intro A9)))
  | (refine' code_defC ?q7k1 ?q7k2 ?q7k3 ?q7k4 ?q7k5 ?q7kA ?q7kF ?q7kK ?q7k6 ?q7k7 ?q7k8 ?q7k9 ?q7kB ?q7kD ?_ ?q7c2 ?q7c3 ?q7c4; (case q7kA => exact rfl); (case q7kF => exact rfl); (case q7kK => first | exact rfl | assumption); (case q7k1 => k_asm); (case q7k2 => k_asm); (case q7k3 => k_asm); (case q7k4 => k_asm); (case q7k5 => k_asm); (case q7k6 => k_is); (case q7k7 => k_is); (case q7k8 => ktr_room); (case q7k9 => first | exact BindsTo.of_eq rfl | exact binds_K (by k_in) rfl (by k_is) rfl rfl rfl); (case q7kB => exact rfl); (case q7kD => decide +kernel); (case q7c2 => exact rfl); (case q7c3 => exact rfl); (case q7c4 => exact rfl); k_whole; intro g'z L'z h'z tk'z cells'z FG'z F'z N'z Y'z B'z X'z T'z l1; (try k_lt l1); (try (have hR6 := restNe l1 (Nat.le_add_right _ 1); have hR5 := restNe l1 (Nat.le_add_right _ (1 + 1)))); (first   | (have hY := CellsAre.one Y'z; obtain ⟨o'z, hE'z, d1'z⟩ := hY; subst hE'z; clear Y'z; (first | (replace d1'z : o'z.data = .cell none := d1'z) | (replace d1'z : o'z.data = .cell (some _) := d1'z) | skip))   | (have hY := CellsAre.two Y'z; obtain ⟨o'z, o2'z, hE'z, d1'z, d2'z⟩ := hY; subst hE'z; clear Y'z; (first | (replace d1'z : o'z.data = .cell none := d1'z) | (replace d1'z : o'z.data = .cell (some _) := d1'z) | skip); (first | (replace d2'z : o2'z.data = .cell none := d2'z) | (replace d2'z : o2'z.data = .cell (some _) := d2'z) | skip))); (try simp only [List.cons_append, List.nil_append] at N'z); (try dsimp only); (try k_fold); (try (refine letA ?_; intro A9))))
  k_with "ktr_room" => (((try simp +zetaDelta only [depth_deeper, depth_in1, depth_mark, depth_under_make, depth_under_kw]); (try dsimp only [ktrTop]); (try simp only [Nat.add_assoc, Nat.reduceAdd]); refine Nat.lt_of_le_of_lt (Nat.add_le_add_left ?_ _) (by with_reducible assumption); decide))
  k_with "ktr_units" => (((try simp +zetaDelta only [units_deeper, units_in1, Around.mark_units]); (try dsimp only [ktrTop]); (try simp only [Nat.add_assoc, Nat.reduceAdd]); refine Nat.lt_of_le_of_lt (Nat.add_le_add_left ?_ _) (by with_reducible assumption); decide))
  k_with "kbd_text" => (first | exact Pick.head | (apply Pick.tail; kbd_text))
  k_with "hide" => ((refine hideG ?_; intro G9))
  k_with "has" => (first | with_reducible exact Has.head | (refine Has.tail ?_; k_extra "has"))
  k_with "lt" => (first | with_reducible assumption | (refine Has.lt (by with_reducible assumption) ?_; k_extra "has") | (refine ltT (by with_reducible assumption) (by with_reducible assumption) ?_; k_extra "has"))
  k_with "ltAll" => (first | with_reducible assumption | exact allLt_mem (by with_reducible assumption) | exact subLt (by with_reducible assumption) (fun q hq => by kbo_some))
  k_with "FinE" => (((unfold LCg.FinE); intro D'z h'z tk'z F'z N'z o1'z; (have hR8 := off1_ne o1'z); (try simp only [List.nil_append, List.cons_append] at N'z); (try dsimp only)))
  k_with "lcg_off" => (first | exact True.intro | with_reducible assumption | (refine And.intro ⟨by k_ne, by k_ne, by k_ne⟩ ?_; lcg_off))
  k_with "CompEnd" => ((k_here; k_dflt (refine' compEndP ?q17f ?q17n ?q17p1 ?q17p2 ?q17p3 ?q17o ?q17s ?_; (case q17f => k_asm); (case q17n => k_asm); (case q17p1 => kbd_text); (case q17p2 => kbd_text); (case q17p3 => kbd_text); (case q17o => lcg_off); (case q17s => lcg_src); k_whole)))
  k_with "kbd_text" => (((with_reducible show Split _ _ _); first | exact Split.nil | (apply Split.cons; kbd_text)))
  k_with "exec While BoolOp cons nil" => ((k_here; refine while_mark ?_))
  k_with "exec While Compare cons nil" => ((k_here; refine while_mark ?_))
  k_with "subscriptTail Attribute" => ((k_here; k_dflt (refine kba_turn (value' := PySem.Expr.Name (PySem.Str.ofString "_") ⟨0, 0, 0, 0⟩) (fun _ => rfl) ?_)))
  k_with "ite" => ((k_closed; k_dflt (first | rw [if_pos (by decide)] | rw [if_neg (by decide)])))
  k_with "k_in" => (first | with_reducible assumption | exact Frag.In.keeps (by with_reducible assumption) (Fr.keep (by with_reducible assumption)))
  k_with "execs nil" => ((k_here; refine wpAny_execs_nil ?_))
  k_with "execs cons" => ((k_here; refine wpAny_execs_cons ?_))
  k_with "exec If" => ((k_here; refine wpAny_If ?_))
  k_with "call ref" => (((k_here; (with_reducible show wpAny _ _ (call (Value.ref 252) _) _ _ _); k_dflt (refine' c_gput (N := by exact pickN (pickN (by k_asm) (by kbd_text)) (Pick.tail (by kbd_text))) (hg := by k_mem) (hlm := by k_mem) (hld := by k_mem) (d1 := by k_ne) (d2 := by k_all) (d3 := by k_all) (hys := by assumption) (hlen := by assumption) (hnm := by assumption) (hs0 := by assumption) (hs1 := by assumption) (hx := by assumption) (ret := fun n'z t'z ts'z h'z tk'z i1'z i2'z i3'z F'z N'z => ?_) (thr := fun e'z t'z us'z h'z tk'z g'z C'z i1'z F'z U'z R'z => ?_); k_whole)); (try dsimp only)))
  k_with "leaving ref" => ((k_here; refine' leave_onR ?q107k1 ?q107k2 ?q107k3 ?q107k4 ?_; (case q107k3 => assumption); (case q107k1 => assumption); (case q107k4 => assumption); (case q107k2 => assumption); k_whole; intro h'z R'z U'z; (try dsimp only at R'z U'z ⊢)))
  trivial
theorem c_sput {w : World} {vw : Program} {loose : List Str} {mean : ExcName → Option Value} {mg mb : Str → Option Value} {dp un : Nat} {gd : Option (List Code)} {cn : Str} {cs : Scope} {a : Addr} {ccd : Value} {cl : List (Str × Addr)} {outer : List Env} {A₀ : Around} {base h₀ : Heap} {L : Addr} {m : Str → Option Value} {s : Shared} {Q E : Value → Shared → Prop} {rest : List (Addr × Obj)}
   {st sd rl g gx lm ld ol : Addr} {h1 h2 h3 h4 h5 h6 h7 h8 : Int} {k1 k2 k3 k4 k5 k6 k7 k8 ts td tz tn tx tb : Tok} {sz depth most bg : Int} {vs rv : List Value} {ys : List Str} {no nr : Nat} {nm x : Str}
   (B : Below A₀ base outer h₀ := by k_asm) (F : Fr h₀ L s.heap m := by k_asm) (X : (Mine.k0.heap_1 w.params).In h₀ := by k_asm) (T : Top vw loose mean mg mb h₀ := by k_asm) (hk : cs.kind = .function := by exact rfl)
   (N : News h₀ L s.heap ((rl, W.listOf rv.toArray nr) :: (ol, W.listOf vs.toArray no) :: (gx, W.dictOf [⟨h1, .str (Str.ofString "limits") k1, .ref lm⟩, ⟨h2, .str (Str.ofString "size") k2, .int sz ts⟩, ⟨h3, .str (Str.ofString "open") k3, .ref ol⟩] 3) :: rest))
   (hst : (st, W.instObj 339 sd) ∈ rest) (hsd : (sd, W.dictOf [⟨h6, .str (Str.ofString "growth") k6, .ref g⟩, ⟨h7, .str (Str.ofString "rows") k7, .ref rl⟩, ⟨h8, .str (Str.ofString "begin") k8, .int bg tb⟩] 3) ∈ rest)
   (hg : (g, W.instObj 255 gx) ∈ rest) (hlm : (lm, W.instObj 533 ld) ∈ rest) (hld : (ld, W.dictOf [⟨h4, .str (Str.ofString "most_depth") k4, .int depth td⟩, ⟨h5, .str (Str.ofString "most_size") k5, .int most tz⟩] 2) ∈ rest)
   (d1 : rl ≠ ol) (d2 : rl ≠ gx) (d3 : ol ≠ gx) (d4 : ∀ q ∈ rest, q.1 ≠ rl) (d5 : ∀ q ∈ rest, q.1 ≠ ol) (d6 : ∀ q ∈ rest, q.1 ≠ gx) (hys : StrsAre vs ys) (hlen : vs.length ≤ 1000) (hrv : rv.length ≤ 1000) (hnm : nm.length ≤ 10) (hs0 : 0 ≤ sz) (hs1 : sz ≤ 100000) (hx : x.length ≤ 1000) (hdp : dp + 16 < recursionLimit := by ktr_room) (hu : un + 640 < cLine := by ktr_units)
   (ret : ∀ p pd g1 g2 g3 q1 q2 q3 tx' tn' ti' nr' n' t' ts' h' tk', ys.any (· == nm) = false → (vs.length : Int) < depth → sz + x.length ≤ most → p ≠ pd → (∀ q ∈ rest, q.1 ≠ p) → (∀ q ∈ rest, q.1 ≠ pd) → (rl ≠ p ∧ rl ≠ pd ∧ ol ≠ p ∧ ol ≠ pd ∧ gx ≠ p ∧ gx ≠ pd) → Fr h₀ L h' m →
      News h₀ L h' ((p, W.instObj 297 pd) :: (pd, W.dictOf [⟨g1, .str (Str.ofString "text") q1, .str x tx'⟩, ⟨g2, .str (Str.ofString "name") q2, .str nm tn'⟩, ⟨g3, .str (Str.ofString "at") q3, .int 0 ti'⟩] 3) :: (rl, W.listOf (rv ++ [Value.ref p]).toArray nr') :: (ol, W.listOf (vs ++ [Value.str nm t']).toArray n') :: (gx, W.dictOf [⟨h1, .str (Str.ofString "limits") k1, .ref lm⟩, ⟨h2, .str (Str.ofString "size") k2, .int (sz + x.length) ts'⟩, ⟨h3, .str (Str.ofString "open") k3, .ref ol⟩] 3) :: rest) → Q .none { s with heap := h', toks := tk' })
   (thr : ∀ e t us h' tk' g₂ (C : Addr), ((ys.any (· == nm) = true ∧ C = 162) ∨ (ys.any (· == nm) = false ∧ (depth ≤ vs.length ∨ most < sz + x.length) ∧ C = 174)) → Fr h₀ L g₂ m → g₂.UpToSlots h' → RaisedS base g₂ (envX cn cs L a ccd cl :: outer) e (.ref C) t us rest h' → E (.ref e) { s with heap := h', toks := tk' }) :
   wpAny (model PySem.Challenge.pw_sm0079_01 w) (ktrTop dp un gd cn cs L a ccd cl outer) (call (.ref 336) [.ref st, .str nm tn, .str x tx]) Q E s := by
  refine wpAny_call ?_
  k_dflt k_enter
  k_steps
  all_goals (try k_data)
  all_goals first | exact thr _ _ _ _ _ _ _ (by assumption) (by assumption) (by assumption) (RaisedS.mono (by assumption) (fun q hq => .tail _ hq)) | skip
  · have kN' := ‹News h₀ L _ ((_, W.instObj 297 _) :: _)›
    rw [List.push_toArray] at kN'
    refine ret _ _ _ _ _ _ _ _ _ _ _ _ _ _ _ _ _ (by assumption) (by assumption) (by assumption) ?_ ?_ ?_ ?_ (by assumption) (pickN (pickN (pickN kN' (Pick.tail (Pick.tail (Pick.tail (Pick.tail Pick.head))))) (Pick.tail (Pick.tail Pick.head))) (Pick.tail (Pick.tail Pick.head)))
    · k_ne
    · k_all
    · k_all
    · refine ⟨?_, ?_, ?_, ?_, ?_, ?_⟩ <;> k_ne
end
end
section
theorem kw29 : True := by
  k_with_none
  k_with "k_all" => (first | with_reducible assumption | exact List.forall_mem_nil _ | exact allNe (by with_reducible assumption) | (refine' List.forall_mem_cons.mpr ⟨?q1a, ?q1b⟩; (case q1a => k_ne); (case q1b => k_all)) | exact subNe (by with_reducible assumption) (fun q hq => by kbo_some) | exact subNeT (by with_reducible assumption) (by with_reducible assumption) (fun q hq => by kbo_some) | exact subNeQ (by with_reducible assumption) (fun q hq => by kbo_some) | assumption)
  k_with "kbo_some" => (first | with_reducible assumption | exact List.Mem.head _ | (refine' List.mem_cons_of_mem _ ?_; kbo_some) | ((with_reducible refine List.mem_append.mpr (Or.inr ?_)); kbo_some))
  k_with "k_mem" => (first | kbo_some | assumption)
  k_with "k_upd" => (first | (refine' Upd.head ?q4a; (case q4a => k_all)) | (refine' Upd.tail ?q4a ?q4b; (case q4a => k_ne); (case q4b => k_upd)))
  k_with "k_updF" => (first | (refine' UpdF.head ?q5a; (case q5a => k_all)) | (refine' UpdF.tail ?q5a ?q5b; (case q5a => k_ne); (case q5b => k_updF)))
  k_with "k_ne" => (((try dsimp only); first | with_reducible assumption | (refine Ne.symm ?_; with_reducible assumption) | (refine Nat.ne_of_gt ?_; with_reducible assumption) | (refine Nat.ne_of_lt ?_; with_reducible assumption) | (refine neR (by with_reducible assumption) ?_; k_extra "has") | (refine neL (by with_reducible assumption) ?_; k_extra "has") | (refine neQ (by with_reducible assumption) ?_; k_extra "has") | (refine neP (by with_reducible assumption) ?_; k_extra "has") | (refine neT (by with_reducible assumption) (by with_reducible assumption) ?_; k_extra "has") | (refine neU (by with_reducible assumption) (by with_reducible assumption) ?_; k_extra "has") | exact Nat.ne_of_lt (Nat.lt_succ_self _) | exact Nat.ne_of_gt (Nat.lt_succ_self _) | omega))
  k_with "k_enter" => (first
  | (refine' code_def ?q7k1 ?q7k2 ?q7k3 ?q7k4 ?q7k5 ?q7kA ?q7kF ?q7kK ?q7k6 ?q7k7 ?q7k8 ?q7k9 ?q7kB ?_ ?q7c2 ?q7c3 ?q7c4 ?q7c5; (case q7kA => exact rfl); (case q7kF => exact rfl); (case q7kK => first | exact rfl | assumption); (case q7k1 => k_asm); (case q7k2 => k_asm); (case q7k3 => k_asm); (case q7k4 => k_asm); (case q7k5 => k_asm); (case q7k6 => k_is); (case q7k7 => k_is); (case q7k8 => ktr_room); (case q7k9 => first | exact BindsTo.of_eq rfl | exact binds_K (by k_in) rfl (by k_is) rfl rfl rfl); (case q7c5 => decide); (case q7kB => exact locs rfl); (case q7c2 => exact rfl); (case q7c3 => exact rfl); (case q7c4 => exact rfl); k_whole; intro g'z L'z h'z FG'z F'z N'z B'z X'z T'z; (try dsimp only); (try k_fold); (try (refine letA ?_; intro A9)))
  | (refine' code_defC ?q7k1 ?q7k2 ?q7k3 ?q7k4 ?q7k5 ?q7kA ?q7kF ?q7kK ?q7k6 ?q7k7 ?q7k8 ?q7k9 ?q7kB ?q7kD ?_ ?q7c2 ?q7c3 ?q7c4; (case q7kA => exact rfl); (case q7kF => exact rfl); (case q7kK => first | exact rfl | assumption); (case q7k1 => k_asm); (case q7k2 => k_asm); (case q7k3 => k_asm); (case q7k4 => k_asm); (case q7k5 => k_asm); (case q7k6 => k_is); (case q7k7 => k_is); (case q7k8 => ktr_room); (case q7k9 => first | exact BindsTo.of_eq rfl | exact binds_K (by k_in) rfl (by k_is) rfl rfl rfl); (case q7kB => exact rfl); (case q7kD => decide +kernel); (case q7c2 => exact rfl); (case q7c3 => exact rfl); (case q7c4 => exact rfl); k_whole; intro g'z L'z h'z tk'z cells'z FG'z F'z N'z Y'z B'z X'z T'z l1; (try k_lt l1); (try (have hR6 := restNe l1 (Nat.le_add_right _ 1); have hR5 := restNe l1 (Nat.le_add_right _ (1 + 1)))); (first   | (have hY := CellsAre.one Y'z; obtain ⟨o'z, hE'z, d1'z⟩ := hY; subst hE'z; clear Y'z; (first | (replace d1'z : o'z.data = .cell none := d1'z) | (replace d1'z : o'z.data = .cell (some _) := d1'z) | skip))   | (have hY := CellsAre.two Y'z; obtain ⟨o'z, o2'z, hE'z, d1'z, d2'z⟩ := hY; subst hE'z; clear Y'z; (first | (replace d1'z : o'z.data = .cell none := d1'z) | (replace d1'z : o'z.data = .cell (some _) := d1'z) | skip); (first | (replace d2'z : o2'z.data = .cell none := d2'z) | (replace d2'z : o2'z.data = .cell (some _) := d2'z) | skip))); (try simp only [List.cons_append, List.nil_append] at N'z); (try dsimp only); (try k_fold); (try (refine letA ?_; intro A9))))
  k_with "ktr_room" => (((try simp +zetaDelta only [depth_deeper, depth_in1, depth_mark, depth_under_make, depth_under_kw]); (try dsimp only [ktrTop]); (try simp only [Nat.add_assoc, Nat.reduceAdd]); refine Nat.lt_of_le_of_lt (Nat.add_le_add_left ?_ _) (by with_reducible assumption); decide))
  k_with "ktr_units" => (((try simp +zetaDelta only [units_deeper, units_in1, Around.mark_units]); (try dsimp only [ktrTop]); (try simp only [Nat.add_assoc, Nat.reduceAdd]); refine Nat.lt_of_le_of_lt (Nat.add_le_add_left ?_ _) (by with_reducible assumption); decide))
  k_with "kbd_text" => (first | exact Pick.head | (apply Pick.tail; kbd_text))
  k_with "hide" => ((refine hideG ?_; intro G9))
  k_with "has" => (first | with_reducible exact Has.head | (refine Has.tail ?_; k_extra "has"))
  k_with "lt" => (first | with_reducible assumption | (refine Has.lt (by with_reducible assumption) ?_; k_extra "has") | (refine ltT (by with_reducible assumption) (by with_reducible assumption) ?_; k_extra "has"))
  k_with "ltAll" => (first | with_reducible assumption | exact allLt_mem (by with_reducible assumption) | exact subLt (by with_reducible assumption) (fun q hq => by kbo_some))
  k_with "FinE" => (((unfold LCg.FinE); intro D'z h'z tk'z F'z N'z o1'z; (have hR8 := off1_ne o1'z); (try simp only [List.nil_append, List.cons_append] at N'z); (try dsimp only)))
  k_with "lcg_off" => (first | exact True.intro | with_reducible assumption | (refine And.intro ⟨by k_ne, by k_ne, by k_ne⟩ ?_; lcg_off))
  k_with "CompEnd" => ((k_here; k_dflt (refine' compEndP ?q17f ?q17n ?q17p1 ?q17p2 ?q17p3 ?q17o ?q17s ?_; (case q17f => k_asm); (case q17n => k_asm); (case q17p1 => kbd_text); (case q17p2 => kbd_text); (case q17p3 => kbd_text); (case q17o => lcg_off); (case q17s => lcg_src); k_whole)))
  k_with "kbd_text" => (((with_reducible show Split _ _ _); first | exact Split.nil | (apply Split.cons; kbd_text)))
  k_with "exec While BoolOp cons nil" => ((k_here; refine while_mark ?_))
  k_with "exec While Compare cons nil" => ((k_here; refine while_mark ?_))
  k_with "subscriptTail Attribute" => ((k_here; k_dflt (refine kba_turn (value' := PySem.Expr.Name (PySem.Str.ofString "_") ⟨0, 0, 0, 0⟩) (fun _ => rfl) ?_)))
  k_with "ite" => ((k_closed; k_dflt (first | rw [if_pos (by decide)] | rw [if_neg (by decide)])))
  k_with "k_in" => (first | with_reducible assumption | exact Frag.In.keeps (by with_reducible assumption) (Fr.keep (by with_reducible assumption)))
  k_with "execs nil" => ((k_here; refine wpAny_execs_nil ?_))
  k_with "execs cons" => ((k_here; refine wpAny_execs_cons ?_))
  k_with "exec If" => ((k_here; refine wpAny_If ?_))
  trivial
def TabOk.mono {prog : Program} {w : World} {l l' : List (Addr × Obj)} {tb lm : Addr} {kvs : List (Str × Value)} (t : TabOk prog w l tb lm kvs) (h : ∀ q ∈ l, q ∈ l') : TabOk prog w l' tb lm kvs :=
  { t with mt := h _ t.mt, md := h _ t.md, mp := h _ t.mp }
def EntOk.mono {l l' : List (Addr × Obj)} {v : Value} {x : Str} (t : EntOk l v x) (h : ∀ q ∈ l, q ∈ l') : EntOk l' v x :=
  { t with me := h _ t.me, md := h _ t.md }
section
variable {prog : Program} {w : World} {A : Around} {E : Value → Shared → Prop} {s : Shared} {Q : Value → Shared → Prop}
theorem my_mark {value slice : PySem.Expr} {x y : Str} {t : Tok} {i : Int} {u : Tok} {c : Nat} {tl : List Nat} (h0 : 0 ≤ i) (hx : x.length ≤ 1000) (hs : x.cps.toList.drop i.toNat = c :: tl) (hy : (⟨#[c]⟩ : Str) = y)
    (h : ∀ t' k, Q (.str y t') { s with toks := k })
    (hss : subscripted slice false (.str x t) (.int i u) = operate [.str x t, .int i u] (getItem (.str x t) (.int i u)) := by with_unfolding_all rfl)
    (ht : ∀ r, letTemporaryGo value (.str x t) r = pure () := by intro _; with_unfolding_all rfl) :
    wpAny (model prog w) A (subscriptTail value slice (.str x t) (.int i u)) Q E s := by
  subst hy
  have hl := len_drop h0 hs (by simp)
  simp only [List.length_cons] at hl
  have hc : x.cps.toList[i.toNat]? = some c := by have := at_drop hs 0; simpa using this
  refine item_str (fitsSsize_of (N := 9223372036854775808) (by omega) (by omega) (by decide)) (by omega) (by omega) (fun _ => ?_) hss ht
  rw [item_at h0 hc]
  exact h _ _
theorem my_head {h₀ : Heap} {L : Addr} {m : Str → Option Value} {news : List (Addr × Obj)} {value slice : PySem.Expr} {x y : Str} {t ui : Tok} {i : Int} (hy : Txt.slice x none (some i) = y) (hx : x.length ≤ 1000)
    (hF : Fr h₀ L s.heap m) (hN : News h₀ L s.heap news) (h : ∀ h' t' k, Fr h₀ L h' m → News h₀ L h' news → Q (.str y t') { s with heap := h', toks := k })
    (hss : subscripted slice false (.str x t) (.ref s.heap.objs.size) = operate [.ref s.heap.objs.size, .str x t] (getItem (.str x t) (.ref s.heap.objs.size)) := by with_unfolding_all rfl)
    (ht : ∀ r, letTemporaryGo value (.str x t) r = pure () := by intro _; with_unfolding_all rfl) :
    wpAny (model prog w) A (subscriptTail value slice (.str x t) (.ref s.heap.objs.size)) Q E { s with heap := s.heap.push { cls := .type "slice", data := .fields #[.none, .int i ui, .none] } } := by
  subst hy
  exact slice_strN_ns (hsz := by rw [sizeLine_eq]; omega) hF hN (fun h' t' k a b => h h' t' k a b) hss ht
theorem word38 {word out : Str} (hw : (word = Str.ofString "#37" ∧ out = Str.ofString "%") ∨ (word = Str.ofString "#65" ∧ out = Str.ofString "A") ∨ (word = Str.ofString "e" ∧ out = Str.ofString "&e;")) :
    GoodW word ∧ 59 ∉ word.cps.toList ∧ word.length ≤ 1000 ∧ ((∃ wd c, Txt.slice word none (some 1) = Str.ofString "#" ∧ Txt.slice word (some 1) none = wd ∧ SignN wd c ∧ out = ⟨#[c.toNat]⟩) ∨ (word = Str.ofString "e" ∧ out = Str.ofString "&e;")) := by
  k_extra "hide"
  rcases hw with ⟨rfl, rfl⟩ | ⟨rfl, rfl⟩ | ⟨rfl, rfl⟩
  all_goals unfold G9
  · exact ⟨.inl rfl, by decide +kernel, by decide +kernel, .inl ⟨_, _, by decide +kernel, by decide +kernel, sign37, by decide +kernel⟩⟩
  · exact ⟨.inr (.inl rfl), by decide +kernel, by decide +kernel, .inl ⟨_, _, by decide +kernel, by decide +kernel, sign65, by decide +kernel⟩⟩
  · exact ⟨by unfold GoodW; simp, by decide +kernel, by decide +kernel, .inr ⟨rfl, rfl⟩⟩
theorem my_eqb {x y : Str} {t u : Tok} {b : Bool} (e : (x == y) = b) (h : Q (.bool b) s) : wpAny (model prog w) A (compareOp .Eq (.str x t) (.str y u)) Q E s := eq_str (by rw [e]; exact h)
end
section
section
theorem kw30 : True := by
  k_with "subscriptTail Name Attribute str int" => ((k_here; (with_reducible show wpAny _ _ (subscriptTail _ _ (Value.str _ _) (Value.int _ _)) _ _ _); k_dflt (first
  | (refine' my_mark (y := Str.ofString "&") ?q108h0 ?q108h1 ?q108h2 ?q108h3 ?_; (case q108h2 => assumption); (case q108h3 => decide +kernel); (case q108h0 => assumption); (case q108h1 => assumption); k_whole)
  | (refine' my_mark (y := Str.ofString "%") ?q108h0 ?q108h1 ?q108h2 ?q108h3 ?_; (case q108h2 => assumption); (case q108h3 => decide +kernel); (case q108h0 => assumption); (case q108h1 => assumption); k_whole)); intro t'z k'z))
  k_with "subscriptTail Name Slice str ref" => ((k_here; (with_reducible show wpAny _ _ (subscriptTail _ (PySem.Expr.Slice (some _) none none _) (Value.str _ _) (Value.ref _)) _ _ _); k_dflt (first
  | (refine' my_tail (s := ⟨_, _, _, _, _⟩) ?q109hy ?q109hx ?q109f ?q109n ?_; (case q109hy => with_reducible assumption); (case q109hx => assumption); (case q109f => k_asm); (case q109n => k_asm); k_whole)); intro h'z t'z k'z F'z N'z))
  k_with "call ref" => (((k_here; (with_reducible show wpAny _ _ (call (Value.ref 329) _) _ _ _); k_dflt (refine' c_sref (N := by exact pickN (pickN (pickN (by k_asm) (by kbd_text)) (Pick.tail (by kbd_text))) (Pick.tail (Pick.tail (by kbd_text)))) (hst := by k_mem) (hrl := by k_mem) (d1 := by k_ne) (d2 := by k_ne) (d3 := by k_ne) (d4 := by k_all) (d5 := by k_all) (d6 := by k_all) (hvs := by assumption) (h0 := by assumption) (hx := by assumption) (hs := by assumption) (hc := by decide) (hw := by first | assumption | decide +kernel) (hg := by first | assumption | (unfold GoodW; simp)) (ret := fun tj'z bg'z tb'z t'z h'z tk'z F'z N'z => ?_); k_whole)); (try dsimp only)))
  k_with "subscriptTail Name Slice str ref" => ((k_here; (with_reducible show wpAny _ _ (subscriptTail _ (PySem.Expr.Slice none (some _) none _) (Value.str _ _) (Value.ref _)) _ _ _); k_dflt (first
  | (refine' my_head (s := ⟨_, _, _, _, _⟩) ?q111hy ?q111hx ?q111f ?q111n ?_; (case q111hy => with_reducible assumption); (case q111hx => assumption); (case q111f => k_asm); (case q111n => k_asm); k_whole)
  | (refine' my_head (s := ⟨_, _, _, _, _⟩) (y := Str.ofString "e") ?q111hy ?q111hx ?q111f ?q111n ?_; (case q111hy => decide +kernel); (case q111hx => decide +kernel); (case q111f => k_asm); (case q111n => k_asm); k_whole)); intro h'z t'z k'z F'z N'z))
  k_with "call ref" => (((k_here; (with_reducible show wpAny _ _ (call (Value.ref 203) _) _ _ _); k_dflt (refine' c_charof (N := by k_asm) (hw := by assumption) (ret := fun t'z h'z tk'z F'z N'z => ?_); k_whole)); (try dsimp only)))
  trivial
theorem c_part38 {w : World} {vw : Program} {loose : List Str} {mean : ExcName → Option Value} {mg mb : Str → Option Value} {dp un : Nat} {gd : Option (List Code)} {cn : Str} {cs : Scope} {a : Addr} {ccd : Value} {cl : List (Str × Addr)} {outer : List Env} {A₀ : Around} {base h₀ : Heap} {L : Addr} {m : Str → Option Value} {s : Shared} {Q E : Value → Shared → Prop} {rest : List (Addr × Obj)}
   {st sd rl p pd tb : Addr} {h1 h2 h3 h4 h5 h6 : Int} {k1 k2 k3 k4 k5 k6 tn tx ti : Tok} {bg : Int} {g : Value} {vs : List Value} {nr : Nat} {x : Str} {nm : Value} {i : Int} {word out : Str} {tl : List Nat}
   (B : Below A₀ base outer h₀ := by k_asm) (F : Fr h₀ L s.heap m := by k_asm) (X : (Mine.k0.heap_1 w.params).In h₀ := by k_asm) (T : Top vw loose mean mg mb h₀ := by k_asm) (hk : cs.kind = .function := by exact rfl)
   (N : News h₀ L s.heap ((sd, W.dictOf [⟨h4, .str (Str.ofString "growth") k4, g⟩, ⟨h5, .str (Str.ofString "rows") k5, .ref rl⟩, ⟨h6, .str (Str.ofString "begin") k6, .int bg tn⟩] 3) :: (p, W.instObj 297 pd) :: (pd, W.dictOf [⟨h1, .str (Str.ofString "text") k1, .str x tx⟩, ⟨h2, .str (Str.ofString "name") k2, nm⟩, ⟨h3, .str (Str.ofString "at") k3, .int i ti⟩] 3) :: rest))
   (hst : (st, W.instObj 339 sd) ∈ rest) (hrl : (rl, W.listOf (vs ++ [Value.ref p]).toArray nr) ∈ rest)
   (d1 : p ≠ sd) (d2 : pd ≠ sd) (d3 : p ≠ pd) (d4 : ∀ q ∈ rest, q.1 ≠ sd) (d5 : ∀ q ∈ rest, q.1 ≠ p) (d6 : ∀ q ∈ rest, q.1 ≠ pd) (hvs : (vs ++ [Value.ref p]).length ≤ 1000) (h0 : 0 ≤ i) (hx : x.length ≤ 1000)
   (hs : x.cps.toList.drop i.toNat = 38 :: (word.cps.toList ++ 59 :: tl)) (hw : (word = Str.ofString "#37" ∧ out = Str.ofString "%") ∨ (word = Str.ofString "#65" ∧ out = Str.ofString "A") ∨ (word = Str.ofString "e" ∧ out = Str.ofString "&e;")) (hdp : dp + 18 < recursionLimit := by ktr_room) (hu : un + 720 < cLine := by ktr_units)
   (ret : ∀ tj bg' tb' t h' tk', Fr h₀ L h' m →
     News h₀ L h' ((sd, W.dictOf [⟨h4, .str (Str.ofString "growth") k4, g⟩, ⟨h5, .str (Str.ofString "rows") k5, .ref rl⟩, ⟨h6, .str (Str.ofString "begin") k6, .int bg' tb'⟩] 3) :: (p, W.instObj 297 pd) :: (pd, W.dictOf [⟨h1, .str (Str.ofString "text") k1, .str x tx⟩, ⟨h2, .str (Str.ofString "name") k2, nm⟩, ⟨h3, .str (Str.ofString "at") k3, .int (i + 1 + word.length + 1) tj⟩] 3) :: rest) → Q (.str out t) { s with heap := h', toks := tk' }) :
   wpAny (model PySem.Challenge.pw_sm0079_01 w) (ktrTop dp un gd cn cs L a ccd cl outer) (call (.ref 365) [.ref p, .ref tb, .ref st]) Q E s := by
  k_extra "hide"
  obtain ⟨hgw, hno, hwl, hk⟩ := word38 hw
  unfold G9
  clear hw
  k_extra "hide"
  rcases hk with ⟨wd, c, k1, k2, k3, rfl⟩ | ⟨rfl, rfl⟩
  all_goals unfold G9
  all_goals (refine wpAny_call ?_; k_dflt k_enter; k_steps)
  all_goals (try k_data)
  · exact ret _ _ _ _ _ _ (by assumption) (by assumption)
  · refine fin_str ?_ (ret _ _ _ _ _ _ (by assumption) (by assumption)); decide +kernel
end
section
theorem kw31 : True := by
  k_with_none
  k_with "k_all" => (first | with_reducible assumption | exact List.forall_mem_nil _ | exact allNe (by with_reducible assumption) | (refine' List.forall_mem_cons.mpr ⟨?q1a, ?q1b⟩; (case q1a => k_ne); (case q1b => k_all)) | exact subNe (by with_reducible assumption) (fun q hq => by kbo_some) | exact subNeT (by with_reducible assumption) (by with_reducible assumption) (fun q hq => by kbo_some) | exact subNeQ (by with_reducible assumption) (fun q hq => by kbo_some) | assumption)
  k_with "kbo_some" => (first | with_reducible assumption | exact List.Mem.head _ | (refine' List.mem_cons_of_mem _ ?_; kbo_some) | ((with_reducible refine List.mem_append.mpr (Or.inr ?_)); kbo_some))
  k_with "k_mem" => (first | kbo_some | assumption)
  k_with "k_upd" => (first | (refine' Upd.head ?q4a; (case q4a => k_all)) | (refine' Upd.tail ?q4a ?q4b; (case q4a => k_ne); (case q4b => k_upd)))
  k_with "k_updF" => (first | (refine' UpdF.head ?q5a; (case q5a => k_all)) | (refine' UpdF.tail ?q5a ?q5b; (case q5a => k_ne); (case q5b => k_updF)))
  k_with "k_ne" => (((try dsimp only); first | with_reducible assumption | (refine Ne.symm ?_; with_reducible assumption) | (refine Nat.ne_of_gt ?_; with_reducible assumption) | (refine Nat.ne_of_lt ?_; with_reducible assumption) | (refine neR (by with_reducible assumption) ?_; k_extra "has") | (refine neL (by with_reducible assumption) ?_; k_extra "has") | (refine neQ (by with_reducible assumption) ?_; k_extra "has") | (refine neP (by with_reducible assumption) ?_; k_extra "has") | (refine neT (by with_reducible assumption) (by with_reducible assumption) ?_; k_extra "has") | (refine neU (by with_reducible assumption) (by with_reducible assumption) ?_; k_extra "has") | exact Nat.ne_of_lt (Nat.lt_succ_self _) | exact Nat.ne_of_gt (Nat.lt_succ_self _) | omega))
  k_with "k_enter" => (first
  | (refine' code_def ?q7k1 ?q7k2 ?q7k3 ?q7k4 ?q7k5 ?q7kA ?q7kF ?q7kK ?q7k6 ?q7k7 ?q7k8 ?q7k9 ?q7kB ?_ ?q7c2 ?q7c3 ?q7c4 ?q7c5; (case q7kA => exact rfl); (case q7kF => exact rfl); (case q7kK => first | exact rfl | assumption); (case q7k1 => k_asm); (case q7k2 => k_asm); (case q7k3 => k_asm); (case q7k4 => k_asm); (case q7k5 => k_asm); (case q7k6 => k_is); (case q7k7 => k_is); (case q7k8 => ktr_room); (case q7k9 => first | exact BindsTo.of_eq rfl | exact binds_K (by k_in) rfl (by k_is) rfl rfl rfl); (case q7c5 => decide); (case q7kB => exact locs rfl); (case q7c2 => exact rfl); (case q7c3 => exact rfl); (case q7c4 => exact rfl); k_whole; intro g'z L'z h'z FG'z F'z N'z B'z X'z T'z; (try dsimp only); (try k_fold); (try (refine letA ?_; intro A9)))
  | (refine' code_defC ?q7k1 ?q7k2 ?q7k3 ?q7k4 ?q7k5 ?q7kA ?q7kF ?q7kK ?q7k6 ?q7k7 ?q7k8 ?q7k9 ?q7kB ?q7kD ?_ ?q7c2 ?q7c3 ?q7c4; (case q7kA => exact rfl); (case q7kF => exact rfl); (case q7kK => first | exact rfl | assumption); (case q7k1 => k_asm); (case q7k2 => k_asm); (case q7k3 => k_asm); (case q7k4 => k_asm); (case q7k5 => k_asm); (case q7k6 => k_is); (case q7k7 => k_is); (case q7k8 => ktr_room); (case q7k9 => first | exact BindsTo.of_eq rfl | exact binds_K (by k_in) rfl (by k_is) rfl rfl rfl); (case q7kB => exact rfl); (case q7kD => decide +kernel); (case q7c2 => exact rfl); (case q7c3 => exact rfl); (case q7c4 => exact rfl); k_whole; intro g'z L'z h'z tk'z cells'z FG'z F'z N'z Y'z B'z X'z T'z l1; (try k_lt l1); (try (have hR6 := restNe l1 (Nat.le_add_right _ 1); have hR5 := restNe l1 (Nat.le_add_right _ (1 + 1)))); (first   | (have hY := CellsAre.one Y'z; obtain ⟨o'z, hE'z, d1'z⟩ := hY; subst hE'z; clear Y'z; (first | (replace d1'z : o'z.data = .cell none := d1'z) | (replace d1'z : o'z.data = .cell (some _) := d1'z) | skip))   | (have hY := CellsAre.two Y'z; obtain ⟨o'z, o2'z, hE'z, d1'z, d2'z⟩ := hY; subst hE'z; clear Y'z; (first | (replace d1'z : o'z.data = .cell none := d1'z) | (replace d1'z : o'z.data = .cell (some _) := d1'z) | skip); (first | (replace d2'z : o2'z.data = .cell none := d2'z) | (replace d2'z : o2'z.data = .cell (some _) := d2'z) | skip))); (try simp only [List.cons_append, List.nil_append] at N'z); (try dsimp only); (try k_fold); (try (refine letA ?_; intro A9))))
  k_with "ktr_room" => (((try simp +zetaDelta only [depth_deeper, depth_in1, depth_mark, depth_under_make, depth_under_kw]); (try dsimp only [ktrTop]); (try simp only [Nat.add_assoc, Nat.reduceAdd]); refine Nat.lt_of_le_of_lt (Nat.add_le_add_left ?_ _) (by with_reducible assumption); decide))
  k_with "ktr_units" => (((try simp +zetaDelta only [units_deeper, units_in1, Around.mark_units]); (try dsimp only [ktrTop]); (try simp only [Nat.add_assoc, Nat.reduceAdd]); refine Nat.lt_of_le_of_lt (Nat.add_le_add_left ?_ _) (by with_reducible assumption); decide))
  k_with "kbd_text" => (first | exact Pick.head | (apply Pick.tail; kbd_text))
  k_with "hide" => ((refine hideG ?_; intro G9))
  k_with "has" => (first | with_reducible exact Has.head | (refine Has.tail ?_; k_extra "has"))
  k_with "lt" => (first | with_reducible assumption | (refine Has.lt (by with_reducible assumption) ?_; k_extra "has") | (refine ltT (by with_reducible assumption) (by with_reducible assumption) ?_; k_extra "has"))
  k_with "ltAll" => (first | with_reducible assumption | exact allLt_mem (by with_reducible assumption) | exact subLt (by with_reducible assumption) (fun q hq => by kbo_some))
  k_with "FinE" => (((unfold LCg.FinE); intro D'z h'z tk'z F'z N'z o1'z; (have hR8 := off1_ne o1'z); (try simp only [List.nil_append, List.cons_append] at N'z); (try dsimp only)))
  k_with "lcg_off" => (first | exact True.intro | with_reducible assumption | (refine And.intro ⟨by k_ne, by k_ne, by k_ne⟩ ?_; lcg_off))
  k_with "CompEnd" => ((k_here; k_dflt (refine' compEndP ?q17f ?q17n ?q17p1 ?q17p2 ?q17p3 ?q17o ?q17s ?_; (case q17f => k_asm); (case q17n => k_asm); (case q17p1 => kbd_text); (case q17p2 => kbd_text); (case q17p3 => kbd_text); (case q17o => lcg_off); (case q17s => lcg_src); k_whole)))
  k_with "kbd_text" => (((with_reducible show Split _ _ _); first | exact Split.nil | (apply Split.cons; kbd_text)))
  k_with "exec While BoolOp cons nil" => ((k_here; refine while_mark ?_))
  k_with "exec While Compare cons nil" => ((k_here; refine while_mark ?_))
  k_with "subscriptTail Attribute" => ((k_here; k_dflt (refine kba_turn (value' := PySem.Expr.Name (PySem.Str.ofString "_") ⟨0, 0, 0, 0⟩) (fun _ => rfl) ?_)))
  k_with "ite" => ((k_closed; k_dflt (first | rw [if_pos (by decide)] | rw [if_neg (by decide)])))
  k_with "k_in" => (first | with_reducible assumption | exact Frag.In.keeps (by with_reducible assumption) (Fr.keep (by with_reducible assumption)))
  k_with "execs nil" => ((k_here; refine wpAny_execs_nil ?_))
  k_with "execs cons" => ((k_here; refine wpAny_execs_cons ?_))
  k_with "exec If" => ((k_here; refine wpAny_If ?_))
  k_with "subscriptTail Name Attribute str int" => ((k_here; (with_reducible show wpAny _ _ (subscriptTail _ _ (Value.str _ _) (Value.int _ _)) _ _ _); k_dflt (first
  | (refine' my_mark (y := Str.ofString "&") ?q108h0 ?q108h1 ?q108h2 ?q108h3 ?_; (case q108h2 => assumption); (case q108h3 => decide +kernel); (case q108h0 => assumption); (case q108h1 => assumption); k_whole)
  | (refine' my_mark (y := Str.ofString "%") ?q108h0 ?q108h1 ?q108h2 ?q108h3 ?_; (case q108h2 => assumption); (case q108h3 => decide +kernel); (case q108h0 => assumption); (case q108h1 => assumption); k_whole)); intro t'z k'z))
  k_with "subscriptTail Name Slice str ref" => ((k_here; (with_reducible show wpAny _ _ (subscriptTail _ (PySem.Expr.Slice (some _) none none _) (Value.str _ _) (Value.ref _)) _ _ _); k_dflt (first
  | (refine' my_tail (s := ⟨_, _, _, _, _⟩) ?q109hy ?q109hx ?q109f ?q109n ?_; (case q109hy => with_reducible assumption); (case q109hx => assumption); (case q109f => k_asm); (case q109n => k_asm); k_whole)); intro h'z t'z k'z F'z N'z))
  k_with "call ref" => (((k_here; (with_reducible show wpAny _ _ (call (Value.ref 329) _) _ _ _); k_dflt (refine' c_sref (N := by exact pickN (pickN (pickN (by k_asm) (by kbd_text)) (Pick.tail (by kbd_text))) (Pick.tail (Pick.tail (by kbd_text)))) (hst := by k_mem) (hrl := by k_mem) (d1 := by k_ne) (d2 := by k_ne) (d3 := by k_ne) (d4 := by k_all) (d5 := by k_all) (d6 := by k_all) (hvs := by assumption) (h0 := by assumption) (hx := by assumption) (hs := by assumption) (hc := by decide) (hw := by first | assumption | decide +kernel) (hg := by first | assumption | (unfold GoodW; simp)) (ret := fun tj'z bg'z tb'z t'z h'z tk'z F'z N'z => ?_); k_whole)); (try dsimp only)))
  k_with "subscriptTail Name Slice str ref" => ((k_here; (with_reducible show wpAny _ _ (subscriptTail _ (PySem.Expr.Slice none (some _) none _) (Value.str _ _) (Value.ref _)) _ _ _); k_dflt (refine' my_head (s := ⟨_, _, _, _, _⟩) ?q113hy ?q113hx ?q113f ?q113n ?_; (case q113hy => exact rfl); (case q113hx => assumption); (case q113f => k_asm); (case q113n => k_asm); k_whole); intro h'z t'z k'z F'z N'z))
  k_with "compareOp Eq str str" => ((k_here; (with_reducible show wpAny _ _ (compareOp CmpOp.Eq (Value.str (Txt.slice _ _ _) _) (Value.str _ _)) _ _ _); refine my_eqb (by assumption) ?_))
  k_with "call ref" => (((k_here; (with_reducible show wpAny _ _ (call (Value.ref 672) _) _ _ _); k_dflt (refine' c_param (N := by k_asm) (tab := TabOk.mono (by assumption) (fun q hq => by k_mem)) (hv := by assumption) (ent := EntOk.mono (by assumption) (fun q hq => by k_mem)) (ret := fun t'z h'z tk'z F'z N'z => ?_); k_whole)); (try dsimp only)))
  k_with "call ref" => (((k_here; (with_reducible show wpAny _ _ (call (Value.ref 336) _) _ _ _); k_dflt (refine' c_sput (N := by exact pickN (pickN (pickN (by k_asm) (by kbd_text)) (Pick.tail (by kbd_text))) (Pick.tail (Pick.tail (by kbd_text)))) (hst := by k_mem) (hsd := by k_mem) (hg := by k_mem) (hlm := by k_mem) (hld := by k_mem) (d1 := by k_ne) (d2 := by k_ne) (d3 := by k_ne) (d4 := by k_all) (d5 := by k_all) (d6 := by k_all) (hys := by assumption) (hlen := by assumption) (hrv := by assumption) (hnm := by assumption) (hs0 := by assumption) (hs1 := by assumption) (hx := by assumption) (ret := fun np npd'z a1'z a2'z a3'z b1'z b2'z b3'z tx'z tn'z ti'z nr'z n'z t'z ts'z h'z tk'z i1'z i2'z i3'z i4'z i5'z i6'z i7'z F'z N'z => ?_) (thr := fun e'z t'z us'z h'z tk'z g'z C'z i1'z F'z U'z R'z => ?_); k_whole)); (try dsimp only)))
  k_with "leaving ref" => ((k_here; refine' leave_onR ?q117k1 ?q117k2 ?q117k3 ?q117k4 ?_; (case q117k3 => assumption); (case q117k1 => assumption); (case q117k4 => assumption); (case q117k2 => assumption); k_whole; intro h'z R'z U'z; (try dsimp only at R'z U'z ⊢)))
  trivial
theorem c_part37 {w : World} {vw : Program} {loose : List Str} {mean : ExcName → Option Value} {mg mb : Str → Option Value} {dp un : Nat} {gd : Option (List Code)} {cn : Str} {cs : Scope} {a : Addr} {ccd : Value} {cl : List (Str × Addr)} {outer : List Env} {A₀ : Around} {base h₀ : Heap} {L : Addr} {m : Str → Option Value} {s : Shared} {Q E : Value → Shared → Prop} {rest : List (Addr × Obj)}
   {st sd rl p pd tb g gx lm ld ol : Addr} {h1 h2 h3 h4 h5 h6 g1 g2 g3 g4 g5 : Int} {k1 k2 k3 k4 k5 k6 q1 q2 q3 q4 q5 tn tx ti ts td tz : Tok} {bg sz depth most : Int} {rv vs : List Value} {ys : List Str} {nr no : Nat} {x y : Str} {nm v : Value} {i : Int} {word : Str} {tl : List Nat} {kvs : List (Str × Value)}
   (B : Below A₀ base outer h₀ := by k_asm) (F : Fr h₀ L s.heap m := by k_asm) (X : (Mine.k0.heap_1 w.params).In h₀ := by k_asm) (T : Top vw loose mean mg mb h₀ := by k_asm) (hk : cs.kind = .function := by exact rfl)
   (N : News h₀ L s.heap ((rl, W.listOf (rv ++ [Value.ref p]).toArray nr) :: (ol, W.listOf vs.toArray no) :: (gx, W.dictOf [⟨g1, .str (Str.ofString "limits") q1, .ref lm⟩, ⟨g2, .str (Str.ofString "size") q2, .int sz ts⟩, ⟨g3, .str (Str.ofString "open") q3, .ref ol⟩] 3) ::
      (sd, W.dictOf [⟨h4, .str (Str.ofString "growth") k4, .ref g⟩, ⟨h5, .str (Str.ofString "rows") k5, .ref rl⟩, ⟨h6, .str (Str.ofString "begin") k6, .int bg tn⟩] 3) :: (p, W.instObj 297 pd) :: (pd, W.dictOf [⟨h1, .str (Str.ofString "text") k1, .str x tx⟩, ⟨h2, .str (Str.ofString "name") k2, nm⟩, ⟨h3, .str (Str.ofString "at") k3, .int i ti⟩] 3) :: rest))
   (hst : (st, W.instObj 339 sd) ∈ rest) (hg : (g, W.instObj 255 gx) ∈ rest) (hlm : (lm, W.instObj 533 ld) ∈ rest) (hld : (ld, W.dictOf [⟨g4, .str (Str.ofString "most_depth") q4, .int depth td⟩, ⟨g5, .str (Str.ofString "most_size") q5, .int most tz⟩] 2) ∈ rest)
   (e1 : rl ≠ ol) (e2 : rl ≠ gx) (e3 : rl ≠ sd) (e4 : rl ≠ p) (e5 : rl ≠ pd) (e6 : ol ≠ gx) (e7 : ol ≠ sd) (e8 : ol ≠ p) (e9 : ol ≠ pd) (f1 : gx ≠ sd) (f2 : gx ≠ p) (f3 : gx ≠ pd) (f4 : p ≠ sd) (f5 : pd ≠ sd) (f6 : p ≠ pd)
   (r1 : ∀ q ∈ rest, q.1 ≠ rl) (r2 : ∀ q ∈ rest, q.1 ≠ ol) (r3 : ∀ q ∈ rest, q.1 ≠ gx) (r4 : ∀ q ∈ rest, q.1 ≠ sd) (r5 : ∀ q ∈ rest, q.1 ≠ p) (r6 : ∀ q ∈ rest, q.1 ≠ pd)
   (hys : StrsAre vs ys) (hlen : vs.length ≤ 1000) (hrv : (rv ++ [Value.ref p]).length ≤ 1000) (hs0 : 0 ≤ sz) (hs1 : sz ≤ 100000) (h0 : 0 ≤ i) (hx : x.length ≤ 1000) (hy : y.length ≤ 1000)
   (hs : x.cps.toList.drop i.toNat = 37 :: (word.cps.toList ++ 59 :: tl)) (hok : (Part.r word).Ok)
   (tab : TabOk PySem.Challenge.pw_sm0079_01 w rest tb lm kvs) (hv : valueAt kvs word = some v) (ent : EntOk rest v y) (hdp : dp + 22 < recursionLimit := by ktr_room) (hu : un + 880 < cLine := by ktr_units)
   (ret : ∀ np npd a1 a2 a3 b1 b2 b3 tx' tn' ti' nr' n' t' ts' bg' tb' tj t h' tk', ys.any (· == Str.ofString "%" ++ word) = false → (vs.length : Int) < depth → sz + y.length ≤ most → np ≠ npd →
      (∀ q ∈ (sd, W.dictOf [⟨h4, .str (Str.ofString "growth") k4, .ref g⟩, ⟨h5, .str (Str.ofString "rows") k5, .ref rl⟩, ⟨h6, .str (Str.ofString "begin") k6, .int bg' tb'⟩] 3) :: (p, W.instObj 297 pd) :: (pd, W.dictOf [⟨h1, .str (Str.ofString "text") k1, .str x tx⟩, ⟨h2, .str (Str.ofString "name") k2, nm⟩, ⟨h3, .str (Str.ofString "at") k3, .int (i + 1 + word.length + 1) tj⟩] 3) :: rest, q.1 ≠ np) →
      (∀ q ∈ (sd, W.dictOf [⟨h4, .str (Str.ofString "growth") k4, .ref g⟩, ⟨h5, .str (Str.ofString "rows") k5, .ref rl⟩, ⟨h6, .str (Str.ofString "begin") k6, .int bg' tb'⟩] 3) :: (p, W.instObj 297 pd) :: (pd, W.dictOf [⟨h1, .str (Str.ofString "text") k1, .str x tx⟩, ⟨h2, .str (Str.ofString "name") k2, nm⟩, ⟨h3, .str (Str.ofString "at") k3, .int (i + 1 + word.length + 1) tj⟩] 3) :: rest, q.1 ≠ npd) →
      (rl ≠ np ∧ rl ≠ npd ∧ ol ≠ np ∧ ol ≠ npd ∧ gx ≠ np ∧ gx ≠ npd) → Fr h₀ L h' m →
      News h₀ L h' ((np, W.instObj 297 npd) :: (npd, W.dictOf [⟨a1, .str (Str.ofString "text") b1, .str y tx'⟩, ⟨a2, .str (Str.ofString "name") b2, .str (Str.ofString "%" ++ word) tn'⟩, ⟨a3, .str (Str.ofString "at") b3, .int 0 ti'⟩] 3) :: (rl, W.listOf ((rv ++ [Value.ref p]) ++ [Value.ref np]).toArray nr') :: (ol, W.listOf (vs ++ [Value.str (Str.ofString "%" ++ word) t']).toArray n') ::
        (gx, W.dictOf [⟨g1, .str (Str.ofString "limits") q1, .ref lm⟩, ⟨g2, .str (Str.ofString "size") q2, .int (sz + y.length) ts'⟩, ⟨g3, .str (Str.ofString "open") q3, .ref ol⟩] 3) ::
        (sd, W.dictOf [⟨h4, .str (Str.ofString "growth") k4, .ref g⟩, ⟨h5, .str (Str.ofString "rows") k5, .ref rl⟩, ⟨h6, .str (Str.ofString "begin") k6, .int bg' tb'⟩] 3) :: (p, W.instObj 297 pd) :: (pd, W.dictOf [⟨h1, .str (Str.ofString "text") k1, .str x tx⟩, ⟨h2, .str (Str.ofString "name") k2, nm⟩, ⟨h3, .str (Str.ofString "at") k3, .int (i + 1 + word.length + 1) tj⟩] 3) :: rest) → Q (.str (Str.ofString "") t) { s with heap := h', toks := tk' })
   (thr : ∀ e t us h' tk' g₂ (C : Addr), ((ys.any (· == Str.ofString "%" ++ word) = true ∧ C = 162) ∨ (ys.any (· == Str.ofString "%" ++ word) = false ∧ (depth ≤ vs.length ∨ most < sz + y.length) ∧ C = 174)) → Fr h₀ L g₂ m → g₂.UpToSlots h' → RaisedS base g₂ (envX cn cs L a ccd cl :: outer) e (.ref C) t us rest h' → E (.ref e) { s with heap := h', toks := tk' }) :
   wpAny (model PySem.Challenge.pw_sm0079_01 w) (ktrTop dp un gd cn cs L a ccd cl outer) (call (.ref 365) [.ref p, .ref tb, .ref st]) Q E s := by
  have mt := tab.mt
  have md := tab.md
  have hh : (Txt.slice word none (some 1) == Str.ofString "#") = false := by rcases hok with rfl | rfl | rfl | rfl <;> decide +kernel
  have hw : 59 ∉ word.cps.toList := by rcases hok with rfl | rfl | rfl | rfl <;> decide +kernel
  have hgw : GoodW word := by unfold GoodW; rcases hok with rfl | rfl | rfl | rfl <;> simp
  have hpw : (Str.ofString "%" ++ word).length ≤ 10 := by rcases hok with rfl | rfl | rfl | rfl <;> decide +kernel
  have hl : word.length ≤ 1000 := by rcases hok with rfl | rfl | rfl | rfl <;> decide +kernel
  refine wpAny_call ?_
  k_dflt k_enter
  k_steps
  all_goals (try k_data)
  · exact ret _ _ _ _ _ _ _ _ _ _ _ _ _ _ _ _ _ _ _ _ _ (by assumption) (by assumption) (by assumption) (by assumption) (by assumption) (by assumption) (by assumption) (by assumption) (by assumption)
  · exact thr _ _ _ _ _ _ _ (by assumption) (by assumption) (by assumption) (RaisedS.mono (by assumption) (fun q hq => .tail _ (.tail _ (.tail _ hq))))
end
end
end
section
theorem kw32 : True := by
  k_with_none
  k_with "k_all" => (first | with_reducible assumption | exact List.forall_mem_nil _ | exact allNe (by with_reducible assumption) | (refine' List.forall_mem_cons.mpr ⟨?q1a, ?q1b⟩; (case q1a => k_ne); (case q1b => k_all)) | exact subNe (by with_reducible assumption) (fun q hq => by kbo_some) | exact subNeT (by with_reducible assumption) (by with_reducible assumption) (fun q hq => by kbo_some) | exact subNeQ (by with_reducible assumption) (fun q hq => by kbo_some) | assumption)
  k_with "kbo_some" => (first | with_reducible assumption | exact List.Mem.head _ | (refine' List.mem_cons_of_mem _ ?_; kbo_some) | ((with_reducible refine List.mem_append.mpr (Or.inr ?_)); kbo_some))
  k_with "k_mem" => (first | kbo_some | assumption)
  k_with "k_upd" => (first | (refine' Upd.head ?q4a; (case q4a => k_all)) | (refine' Upd.tail ?q4a ?q4b; (case q4a => k_ne); (case q4b => k_upd)))
  k_with "k_updF" => (first | (refine' UpdF.head ?q5a; (case q5a => k_all)) | (refine' UpdF.tail ?q5a ?q5b; (case q5a => k_ne); (case q5b => k_updF)))
  k_with "k_ne" => (((try dsimp only); first | with_reducible assumption | (refine Ne.symm ?_; with_reducible assumption) | (refine Nat.ne_of_gt ?_; with_reducible assumption) | (refine Nat.ne_of_lt ?_; with_reducible assumption) | (refine neR (by with_reducible assumption) ?_; k_extra "has") | (refine neL (by with_reducible assumption) ?_; k_extra "has") | (refine neQ (by with_reducible assumption) ?_; k_extra "has") | (refine neP (by with_reducible assumption) ?_; k_extra "has") | (refine neT (by with_reducible assumption) (by with_reducible assumption) ?_; k_extra "has") | (refine neU (by with_reducible assumption) (by with_reducible assumption) ?_; k_extra "has") | exact Nat.ne_of_lt (Nat.lt_succ_self _) | exact Nat.ne_of_gt (Nat.lt_succ_self _) | omega))
  k_with "k_enter" => (first
  | (refine' code_def ?q7k1 ?q7k2 ?q7k3 ?q7k4 ?q7k5 ?q7kA ?q7kF ?q7kK ?q7k6 ?q7k7 ?q7k8 ?q7k9 ?q7kB ?_ ?q7c2 ?q7c3 ?q7c4 ?q7c5; (case q7kA => exact rfl); (case q7kF => exact rfl); (case q7kK => first | exact rfl | assumption); (case q7k1 => k_asm); (case q7k2 => k_asm); (case q7k3 => k_asm); (case q7k4 => k_asm); (case q7k5 => k_asm); (case q7k6 => k_is); (case q7k7 => k_is); (case q7k8 => ktr_room); (case q7k9 => first | exact BindsTo.of_eq rfl | exact binds_K (by k_in) rfl (by k_is) rfl rfl rfl); (case q7c5 => decide); (case q7kB => exact locs rfl); (case q7c2 => exact rfl); (case q7c3 => exact rfl); (case q7c4 => exact rfl); k_whole; intro g'z L'z h'z FG'z F'z N'z B'z X'z T'z; (try dsimp only); (try k_fold); (try (refine letA ?_; intro A9)))
  | (refine' code_defC ?q7k1 ?q7k2 ?q7k3 ?q7k4 ?q7k5 ?q7kA ?q7kF ?q7kK ?q7k6 ?q7k7 ?q7k8 ?q7k9 ?q7kB ?q7kD ?_ ?q7c2 ?q7c3 ?q7c4; (case q7kA => exact rfl); (case q7kF => exact rfl); (case q7kK => first | exact rfl | assumption); (case q7k1 => k_asm); (case q7k2 => k_asm); (case q7k3 => k_asm); (case q7k4 => k_asm); (case q7k5 => k_asm); (case q7k6 => k_is); (case q7k7 => k_is); (case q7k8 => ktr_room); (case q7k9 => first | exact BindsTo.of_eq rfl | exact binds_K (by k_in) rfl (by k_is) rfl rfl rfl); (case q7kB => exact rfl); (case q7kD => decide +kernel); (case q7c2 => exact rfl); (case q7c3 => exact rfl); (case q7c4 => exact rfl); k_whole; intro g'z L'z h'z tk'z cells'z FG'z F'z N'z Y'z B'z X'z T'z l1; (try k_lt l1); (try (have hR6 := restNe l1 (Nat.le_add_right _ 1); have hR5 := restNe l1 (Nat.le_add_right _ (1 + 1)))); (first   | (have hY := CellsAre.one Y'z; obtain ⟨o'z, hE'z, d1'z⟩ := hY; subst hE'z; clear Y'z; (first | (replace d1'z : o'z.data = .cell none := d1'z) | (replace d1'z : o'z.data = .cell (some _) := d1'z) | skip))   | (have hY := CellsAre.two Y'z; obtain ⟨o'z, o2'z, hE'z, d1'z, d2'z⟩ := hY; subst hE'z; clear Y'z; (first | (replace d1'z : o'z.data = .cell none := d1'z) | (replace d1'z : o'z.data = .cell (some _) := d1'z) | skip); (first | (replace d2'z : o2'z.data = .cell none := d2'z) | (replace d2'z : o2'z.data = .cell (some _) := d2'z) | skip))); (try simp only [List.cons_append, List.nil_append] at N'z); (try dsimp only); (try k_fold); (try (refine letA ?_; intro A9))))
  k_with "ktr_room" => (((try simp +zetaDelta only [depth_deeper, depth_in1, depth_mark, depth_under_make, depth_under_kw]); (try dsimp only [ktrTop]); (try simp only [Nat.add_assoc, Nat.reduceAdd]); refine Nat.lt_of_le_of_lt (Nat.add_le_add_left ?_ _) (by with_reducible assumption); decide))
  k_with "ktr_units" => (((try simp +zetaDelta only [units_deeper, units_in1, Around.mark_units]); (try dsimp only [ktrTop]); (try simp only [Nat.add_assoc, Nat.reduceAdd]); refine Nat.lt_of_le_of_lt (Nat.add_le_add_left ?_ _) (by with_reducible assumption); decide))
  k_with "kbd_text" => (first | exact Pick.head | (apply Pick.tail; kbd_text))
  k_with "hide" => ((refine hideG ?_; intro G9))
  k_with "has" => (first | with_reducible exact Has.head | (refine Has.tail ?_; k_extra "has"))
  k_with "lt" => (first | with_reducible assumption | (refine Has.lt (by with_reducible assumption) ?_; k_extra "has") | (refine ltT (by with_reducible assumption) (by with_reducible assumption) ?_; k_extra "has"))
  k_with "ltAll" => (first | with_reducible assumption | exact allLt_mem (by with_reducible assumption) | exact subLt (by with_reducible assumption) (fun q hq => by kbo_some))
  k_with "FinE" => (((unfold LCg.FinE); intro D'z h'z tk'z F'z N'z o1'z; (have hR8 := off1_ne o1'z); (try simp only [List.nil_append, List.cons_append] at N'z); (try dsimp only)))
  k_with "lcg_off" => (first | exact True.intro | with_reducible assumption | (refine And.intro ⟨by k_ne, by k_ne, by k_ne⟩ ?_; lcg_off))
  k_with "CompEnd" => ((k_here; k_dflt (refine' compEndP ?q17f ?q17n ?q17p1 ?q17p2 ?q17p3 ?q17o ?q17s ?_; (case q17f => k_asm); (case q17n => k_asm); (case q17p1 => kbd_text); (case q17p2 => kbd_text); (case q17p3 => kbd_text); (case q17o => lcg_off); (case q17s => lcg_src); k_whole)))
  k_with "kbd_text" => (((with_reducible show Split _ _ _); first | exact Split.nil | (apply Split.cons; kbd_text)))
  k_with "exec While BoolOp cons nil" => ((k_here; refine while_mark ?_))
  k_with "exec While Compare cons nil" => ((k_here; refine while_mark ?_))
  k_with "subscriptTail Attribute" => ((k_here; k_dflt (refine kba_turn (value' := PySem.Expr.Name (PySem.Str.ofString "_") ⟨0, 0, 0, 0⟩) (fun _ => rfl) ?_)))
  k_with "ite" => ((k_closed; k_dflt (first | rw [if_pos (by decide)] | rw [if_neg (by decide)])))
  k_with "k_in" => (first | with_reducible assumption | exact Frag.In.keeps (by with_reducible assumption) (Fr.keep (by with_reducible assumption)))
  k_with "execs nil" => ((k_here; refine wpAny_execs_nil ?_))
  k_with "execs cons" => ((k_here; refine wpAny_execs_cons ?_))
  k_with "exec If" => ((k_here; refine wpAny_If ?_))
  trivial
theorem c_growth {w : World} {vw : Program} {loose : List Str} {mean : ExcName → Option Value} {mg mb : Str → Option Value} {dp un : Nat} {gd : Option (List Code)} {cn : Str} {cs : Scope} {a : Addr} {ccd : Value} {cl : List (Str × Addr)} {outer : List Env} {A₀ : Around} {base h₀ : Heap} {L : Addr} {m : Str → Option Value} {s : Shared} {Q E : Value → Shared → Prop} {rest : List (Addr × Obj)}
   {tb td lm : Addr} {v2 v3 v4 : Value} {h1 h2 h3 h4 : Int} {k1 k2 k3 k4 : Tok}
   (B : Below A₀ base outer h₀ := by k_asm) (F : Fr h₀ L s.heap m := by k_asm) (X : (Mine.k0.heap_1 w.params).In h₀ := by k_asm) (T : Top vw loose mean mg mb h₀ := by k_asm) (hk : cs.kind = .function := by exact rfl)
   (N : News h₀ L s.heap rest) (mt : (tb, W.instObj 675 td) ∈ rest) (md : (td, W.dictOf [⟨h1, .str (Str.ofString "limits") k1, .ref lm⟩, ⟨h2, .str (Str.ofString "outer") k2, v2⟩, ⟨h3, .str (Str.ofString "general") k3, v3⟩, ⟨h4, .str (Str.ofString "parameters") k4, v4⟩] 4) ∈ rest) (hdp : dp + 10 < recursionLimit := by ktr_room) (hu : un + 400 < cLine := by ktr_units)
   (ret : ∀ (g gx ol : Addr) g1 g2 g3 q1 q2 q3 ts n h' tk', Fr h₀ L h' m →
      News h₀ L h' ((ol, W.listOf #[] n) :: (g, W.instObj 255 gx) :: (gx, W.dictOf [⟨g1, .str (Str.ofString "limits") q1, .ref lm⟩, ⟨g2, .str (Str.ofString "size") q2, .int 0 ts⟩, ⟨g3, .str (Str.ofString "open") q3, .ref ol⟩] 3) :: rest) → (∀ q ∈ rest, q.1 < gx) → gx < g → g < ol → Q (.ref g) { s with heap := h', toks := tk' }) :
   wpAny (model PySem.Challenge.pw_sm0079_01 w) (ktrTop dp un gd cn cs L a ccd cl outer) (call (.ref 350) [.ref tb, .none]) Q E s := by
  refine wpAny_call ?_
  k_dflt k_enter
  k_steps
  all_goals (try k_data)
  all_goals first | exact ret _ _ _ _ _ _ _ _ _ _ _ _ _ (by assumption) (by assumption) (by k_extra "ltAll") (by k_extra "lt") (by k_extra "lt")
theorem c_stack {w : World} {vw : Program} {loose : List Str} {mean : ExcName → Option Value} {mg mb : Str → Option Value} {dp un : Nat} {gd : Option (List Code)} {cn : Str} {cs : Scope} {a : Addr} {ccd : Value} {cl : List (Str × Addr)} {outer : List Env} {A₀ : Around} {base h₀ : Heap} {L : Addr} {m : Str → Option Value} {s : Shared} {Q E : Value → Shared → Prop} {rest : List (Addr × Obj)}
   {raw : Str} {tr : Tok} {g : Value}
   (B : Below A₀ base outer h₀ := by k_asm) (F : Fr h₀ L s.heap m := by k_asm) (X : (Mine.k0.heap_1 w.params).In h₀ := by k_asm) (T : Top vw loose mean mg mb h₀ := by k_asm) (hk : cs.kind = .function := by exact rfl)
   (N : News h₀ L s.heap rest) (hdp : dp + 10 < recursionLimit := by ktr_room) (hu : un + 400 < cLine := by ktr_units)
   (ret : ∀ (st sd rl p pd : Addr) a1 a2 a3 b1 b2 b3 g1 g2 g3 q1 q2 q3 tb tx ti n h' tk', Fr h₀ L h' m →
      News h₀ L h' ((rl, W.listOf #[Value.ref p] n) :: (p, W.instObj 297 pd) :: (pd, W.dictOf [⟨g1, .str (Str.ofString "text") q1, .str raw tx⟩, ⟨g2, .str (Str.ofString "name") q2, .none⟩, ⟨g3, .str (Str.ofString "at") q3, .int 0 ti⟩] 3) :: (st, W.instObj 339 sd) :: (sd, W.dictOf [⟨a1, .str (Str.ofString "growth") b1, g⟩, ⟨a2, .str (Str.ofString "rows") b2, .ref rl⟩, ⟨a3, .str (Str.ofString "begin") b3, .int 0 tb⟩] 3) :: rest) → (∀ q ∈ rest, q.1 < sd) → sd < st → st < pd → pd < p → p < rl → Q (.ref st) { s with heap := h', toks := tk' }) :
   wpAny (model PySem.Challenge.pw_sm0079_01 w) (ktrTop dp un gd cn cs L a ccd cl outer) (call (.ref 339) [.str raw tr, g]) Q E s := by
  k_steps
  all_goals (try k_data)
  all_goals first | exact ret _ _ _ _ _ _ _ _ _ _ _ _ _ _ _ _ _ _ _ _ _ _ _ (by assumption) (by assumption) (by k_extra "ltAll") (by k_extra "lt") (by k_extra "lt") (by k_extra "lt") (by k_extra "lt")
end
section
section
theorem kw33 : True := by
  k_with "subscriptTail Name Attribute str int" => ((k_here; (with_reducible show wpAny _ _ (subscriptTail _ _ (Value.str _ _) (Value.int _ _)) _ _ _); k_dflt (refine' my_mark (y := Str.ofString "%") ?q118h0 ?q118h1 ?q118h2 ?q118h3 ?_; (case q118h2 => assumption); (case q118h3 => decide +kernel); (case q118h0 => assumption); (case q118h1 => assumption); k_whole); intro t'z k'z))
  k_with "call ref" => (((k_here; (with_reducible show wpAny _ _ (call (Value.ref 329) _) _ _ _); k_dflt (refine' c_sref (N := by exact pickN (pickN (pickN (by k_asm) (by kbd_text)) (Pick.tail (by kbd_text))) (Pick.tail (Pick.tail (by kbd_text)))) (hst := by k_mem) (hrl := by k_mem) (d1 := by k_ne) (d2 := by k_ne) (d3 := by k_ne) (d4 := by k_all) (d5 := by k_all) (d6 := by k_all) (hvs := by assumption) (h0 := by assumption) (hx := by assumption) (hs := by assumption) (hc := by decide) (hw := by assumption) (hg := by assumption) (ret := fun tj'z bg'z tb'z t'z h'z tk'z F'z N'z => ?_); k_whole)); (try dsimp only)))
  k_with "subscriptTail Name Slice str ref" => ((k_here; (with_reducible show wpAny _ _ (subscriptTail _ (PySem.Expr.Slice none (some _) none _) (Value.str _ _) (Value.ref _)) _ _ _); k_dflt (refine' my_head (s := ⟨_, _, _, _, _⟩) ?q120hy ?q120hx ?q120f ?q120n ?_; (case q120hy => exact rfl); (case q120hx => assumption); (case q120f => k_asm); (case q120n => k_asm); k_whole); intro h'z t'z k'z F'z N'z))
  k_with "compareOp Eq str str" => ((k_here; (with_reducible show wpAny _ _ (compareOp CmpOp.Eq (Value.str (Txt.slice _ _ _) _) (Value.str _ _)) _ _ _); refine my_eqb (by assumption) ?_))
  k_with "call ref" => (((k_here; (with_reducible show wpAny _ _ (call (Value.ref 672) _) _ _ _); k_dflt (refine' c_param0 (N := by k_asm) (tab := TabOk.mono (by assumption) (fun q hq => by k_mem)) (hv := by assumption) (hnm := by assumption) (thr := fun e'z t'z us'z h'z tk'z g'z F'z U'z R'z => ?_); k_whole)); (try dsimp only)))
  k_with "leaving ref" => ((k_here; refine' leave_onR ?q123k1 ?q123k2 ?q123k3 ?q123k4 ?_; (case q123k3 => assumption); (case q123k1 => assumption); (case q123k4 => assumption); (case q123k2 => assumption); k_whole; intro h'z R'z U'z; (try dsimp only at R'z U'z ⊢)))
  trivial
theorem c_part37n {w : World} {vw : Program} {loose : List Str} {mean : ExcName → Option Value} {mg mb : Str → Option Value} {dp un : Nat} {gd : Option (List Code)} {cn : Str} {cs : Scope} {a : Addr} {ccd : Value} {cl : List (Str × Addr)} {outer : List Env} {A₀ : Around} {base h₀ : Heap} {L : Addr} {m : Str → Option Value} {s : Shared} {Q E : Value → Shared → Prop} {rest : List (Addr × Obj)}
   {st sd rl p pd tb lm : Addr} {h1 h2 h3 h4 h5 h6 : Int} {k1 k2 k3 k4 k5 k6 tn tx ti : Tok} {bg : Int} {g : Value} {rv : List Value} {nr : Nat} {x : Str} {nm : Value} {i : Int} {word : Str} {tl : List Nat} {kvs : List (Str × Value)}
   (B : Below A₀ base outer h₀ := by k_asm) (F : Fr h₀ L s.heap m := by k_asm) (X : (Mine.k0.heap_1 w.params).In h₀ := by k_asm) (T : Top vw loose mean mg mb h₀ := by k_asm) (hk : cs.kind = .function := by exact rfl)
   (N : News h₀ L s.heap ((sd, W.dictOf [⟨h4, .str (Str.ofString "growth") k4, g⟩, ⟨h5, .str (Str.ofString "rows") k5, .ref rl⟩, ⟨h6, .str (Str.ofString "begin") k6, .int bg tn⟩] 3) :: (p, W.instObj 297 pd) :: (pd, W.dictOf [⟨h1, .str (Str.ofString "text") k1, .str x tx⟩, ⟨h2, .str (Str.ofString "name") k2, nm⟩, ⟨h3, .str (Str.ofString "at") k3, .int i ti⟩] 3) :: rest))
   (hst : (st, W.instObj 339 sd) ∈ rest) (hrl : (rl, W.listOf (rv ++ [Value.ref p]).toArray nr) ∈ rest)
   (d1 : p ≠ sd) (d2 : pd ≠ sd) (d3 : p ≠ pd) (d4 : ∀ q ∈ rest, q.1 ≠ sd) (d5 : ∀ q ∈ rest, q.1 ≠ p) (d6 : ∀ q ∈ rest, q.1 ≠ pd) (hvs : (rv ++ [Value.ref p]).length ≤ 1000) (h0 : 0 ≤ i) (hx : x.length ≤ 1000)
   (hs : x.cps.toList.drop i.toNat = 37 :: (word.cps.toList ++ 59 :: tl)) (hok : (Part.r word).Ok)
   (tab : TabOk PySem.Challenge.pw_sm0079_01 w rest tb lm kvs) (hv : valueAt kvs word = none) (hdp : dp + 22 < recursionLimit := by ktr_room) (hu : un + 880 < cLine := by ktr_units)
   (thr : ∀ e t us h' tk' g₂, Fr h₀ L g₂ m → g₂.UpToSlots h' → RaisedS base g₂ (envX cn cs L a ccd cl :: outer) e (.ref 162) t us rest h' → E (.ref e) { s with heap := h', toks := tk' }) :
   wpAny (model PySem.Challenge.pw_sm0079_01 w) (ktrTop dp un gd cn cs L a ccd cl outer) (call (.ref 365) [.ref p, .ref tb, .ref st]) Q E s := by
  have mt := tab.mt
  have md := tab.md
  have hh : (Txt.slice word none (some 1) == Str.ofString "#") = false := by rcases hok with rfl | rfl | rfl | rfl <;> decide +kernel
  have hw : 59 ∉ word.cps.toList := by rcases hok with rfl | rfl | rfl | rfl <;> decide +kernel
  have hgw : GoodW word := by unfold GoodW; rcases hok with rfl | rfl | rfl | rfl <;> simp
  have hpw : word.length ≤ 10 := by rcases hok with rfl | rfl | rfl | rfl <;> decide +kernel
  have hl : word.length ≤ 1000 := by omega
  refine wpAny_call ?_
  k_dflt k_enter
  k_steps
  all_goals (try k_data)
  all_goals exact thr _ _ _ _ _ _ (by assumption) (by assumption) (RaisedS.mono (by assumption) (fun q hq => .tail _ (.tail _ (.tail _ hq))))
end
end
section
/-- a piece of a text that is still to be read: plain signs, or a mark, a word and ';' -/
inductive Pc where
  | t (x : Str)
  | k (c : Nat) (w : Str)
theorem kw34 : True := by
  k_with_none
  k_with "k_all" => (first | with_reducible assumption | exact List.forall_mem_nil _ | exact allNe (by with_reducible assumption) | (refine' List.forall_mem_cons.mpr ⟨?q1a, ?q1b⟩; (case q1a => k_ne); (case q1b => k_all)) | exact subNe (by with_reducible assumption) (fun q hq => by kbo_some) | exact subNeT (by with_reducible assumption) (by with_reducible assumption) (fun q hq => by kbo_some) | exact subNeQ (by with_reducible assumption) (fun q hq => by kbo_some) | assumption)
  k_with "kbo_some" => (first | with_reducible assumption | exact List.Mem.head _ | (refine' List.mem_cons_of_mem _ ?_; kbo_some) | ((with_reducible refine List.mem_append.mpr (Or.inr ?_)); kbo_some))
  k_with "k_mem" => (first | kbo_some | assumption)
  k_with "k_upd" => (first | (refine' Upd.head ?q4a; (case q4a => k_all)) | (refine' Upd.tail ?q4a ?q4b; (case q4a => k_ne); (case q4b => k_upd)))
  k_with "k_updF" => (first | (refine' UpdF.head ?q5a; (case q5a => k_all)) | (refine' UpdF.tail ?q5a ?q5b; (case q5a => k_ne); (case q5b => k_updF)))
  k_with "k_ne" => (((try dsimp only); first | with_reducible assumption | (refine Ne.symm ?_; with_reducible assumption) | (refine Nat.ne_of_gt ?_; with_reducible assumption) | (refine Nat.ne_of_lt ?_; with_reducible assumption) | (refine neR (by with_reducible assumption) ?_; k_extra "has") | (refine neL (by with_reducible assumption) ?_; k_extra "has") | (refine neQ (by with_reducible assumption) ?_; k_extra "has") | (refine neP (by with_reducible assumption) ?_; k_extra "has") | (refine neT (by with_reducible assumption) (by with_reducible assumption) ?_; k_extra "has") | (refine neU (by with_reducible assumption) (by with_reducible assumption) ?_; k_extra "has") | exact Nat.ne_of_lt (Nat.lt_succ_self _) | exact Nat.ne_of_gt (Nat.lt_succ_self _) | omega))
  k_with "k_enter" => (first
  | (refine' code_def ?q7k1 ?q7k2 ?q7k3 ?q7k4 ?q7k5 ?q7kA ?q7kF ?q7kK ?q7k6 ?q7k7 ?q7k8 ?q7k9 ?q7kB ?_ ?q7c2 ?q7c3 ?q7c4 ?q7c5; (case q7kA => exact rfl); (case q7kF => exact rfl); (case q7kK => first | exact rfl | assumption); (case q7k1 => k_asm); (case q7k2 => k_asm); (case q7k3 => k_asm); (case q7k4 => k_asm); (case q7k5 => k_asm); (case q7k6 => k_is); (case q7k7 => k_is); (case q7k8 => ktr_room); (case q7k9 => first | exact BindsTo.of_eq rfl | exact binds_K (by k_in) rfl (by k_is) rfl rfl rfl); (case q7c5 => decide); (case q7kB => exact locs rfl); (case q7c2 => exact rfl); (case q7c3 => exact rfl); (case q7c4 => exact rfl); k_whole; intro g'z L'z h'z FG'z F'z N'z B'z X'z T'z; (try dsimp only); (try k_fold); (try (refine letA ?_; intro A9)))
  | (refine' code_defC ?q7k1 ?q7k2 ?q7k3 ?q7k4 ?q7k5 ?q7kA ?q7kF ?q7kK ?q7k6 ?q7k7 ?q7k8 ?q7k9 ?q7kB ?q7kD ?_ ?q7c2 ?q7c3 ?q7c4; (case q7kA => exact rfl); (case q7kF => exact rfl); (case q7kK => first | exact rfl | assumption); (case q7k1 => k_asm); (case q7k2 => k_asm); (case q7k3 => k_asm); (case q7k4 => k_asm); (case q7k5 => k_asm); (case q7k6 => k_is); (case q7k7 => k_is); (case q7k8 => ktr_room); (case q7k9 => first | exact BindsTo.of_eq rfl | exact binds_K (by k_in) rfl (by k_is) rfl rfl rfl); (case q7kB => exact rfl); (case q7kD => decide +kernel); (case q7c2 => exact rfl); (case q7c3 => exact rfl); (case q7c4 => exact rfl); k_whole; intro g'z L'z h'z tk'z cells'z FG'z F'z N'z Y'z B'z X'z T'z l1; (try k_lt l1); (try (have hR6 := restNe l1 (Nat.le_add_right _ 1); have hR5 := restNe l1 (Nat.le_add_right _ (1 + 1)))); (first   | (have hY := CellsAre.one Y'z; obtain ⟨o'z, hE'z, d1'z⟩ := hY; subst hE'z; clear Y'z; (first | (replace d1'z : o'z.data = .cell none := d1'z) | (replace d1'z : o'z.data = .cell (some _) := d1'z) | skip))   | (have hY := CellsAre.two Y'z; obtain ⟨o'z, o2'z, hE'z, d1'z, d2'z⟩ := hY; subst hE'z; clear Y'z; (first | (replace d1'z : o'z.data = .cell none := d1'z) | (replace d1'z : o'z.data = .cell (some _) := d1'z) | skip); (first | (replace d2'z : o2'z.data = .cell none := d2'z) | (replace d2'z : o2'z.data = .cell (some _) := d2'z) | skip))); (try simp only [List.cons_append, List.nil_append] at N'z); (try dsimp only); (try k_fold); (try (refine letA ?_; intro A9))))
  k_with "ktr_room" => (((try simp +zetaDelta only [depth_deeper, depth_in1, depth_mark, depth_under_make, depth_under_kw]); (try dsimp only [ktrTop]); (try simp only [Nat.add_assoc, Nat.reduceAdd]); refine Nat.lt_of_le_of_lt (Nat.add_le_add_left ?_ _) (by with_reducible assumption); decide))
  k_with "ktr_units" => (((try simp +zetaDelta only [units_deeper, units_in1, Around.mark_units]); (try dsimp only [ktrTop]); (try simp only [Nat.add_assoc, Nat.reduceAdd]); refine Nat.lt_of_le_of_lt (Nat.add_le_add_left ?_ _) (by with_reducible assumption); decide))
  k_with "kbd_text" => (first | exact Pick.head | (apply Pick.tail; kbd_text))
  k_with "hide" => ((refine hideG ?_; intro G9))
  k_with "has" => (first | with_reducible exact Has.head | (refine Has.tail ?_; k_extra "has"))
  k_with "lt" => (first | with_reducible assumption | (refine Has.lt (by with_reducible assumption) ?_; k_extra "has") | (refine ltT (by with_reducible assumption) (by with_reducible assumption) ?_; k_extra "has"))
  k_with "ltAll" => (first | with_reducible assumption | exact allLt_mem (by with_reducible assumption) | exact subLt (by with_reducible assumption) (fun q hq => by kbo_some))
  k_with "FinE" => (((unfold LCg.FinE); intro D'z h'z tk'z F'z N'z o1'z; (have hR8 := off1_ne o1'z); (try simp only [List.nil_append, List.cons_append] at N'z); (try dsimp only)))
  k_with "lcg_off" => (first | exact True.intro | with_reducible assumption | (refine And.intro ⟨by k_ne, by k_ne, by k_ne⟩ ?_; lcg_off))
  k_with "CompEnd" => ((k_here; k_dflt (refine' compEndP ?q17f ?q17n ?q17p1 ?q17p2 ?q17p3 ?q17o ?q17s ?_; (case q17f => k_asm); (case q17n => k_asm); (case q17p1 => kbd_text); (case q17p2 => kbd_text); (case q17p3 => kbd_text); (case q17o => lcg_off); (case q17s => lcg_src); k_whole)))
  k_with "kbd_text" => (((with_reducible show Split _ _ _); first | exact Split.nil | (apply Split.cons; kbd_text)))
  k_with "exec While BoolOp cons nil" => ((k_here; refine while_mark ?_))
  k_with "exec While Compare cons nil" => ((k_here; refine while_mark ?_))
  k_with "subscriptTail Attribute" => ((k_here; k_dflt (refine kba_turn (value' := PySem.Expr.Name (PySem.Str.ofString "_") ⟨0, 0, 0, 0⟩) (fun _ => rfl) ?_)))
  k_with "ite" => ((k_closed; k_dflt (first | rw [if_pos (by decide)] | rw [if_neg (by decide)])))
  k_with "k_in" => (first | with_reducible assumption | exact Frag.In.keeps (by with_reducible assumption) (Fr.keep (by with_reducible assumption)))
  k_with "execs nil" => ((k_here; refine wpAny_execs_nil ?_))
  k_with "execs cons" => ((k_here; refine wpAny_execs_cons ?_))
  k_with "exec If" => ((k_here; refine wpAny_If ?_))
  trivial
def Pc.flat : Pc → List Nat
  | .t x => x.cps.toList
  | .k c w => c :: (w.cps.toList ++ [59])
def flat : List Pc → List Nat
  | [] => []
  | p :: r => p.flat ++ flat r
def Pc.Ok : Pc → Prop
  | .t x => x.cps.toList ≠ [] ∧ ∀ c ∈ x.cps.toList, ¬ (c = 38 ∨ c = 37)
  | .k c w => (c = 38 ∧ (w = Str.ofString "#37" ∨ w = Str.ofString "#65" ∨ w = Str.ofString "e")) ∨ (c = 37 ∧ (Part.r w).Ok)
abbrev PcsOk (l : List Pc) : Prop := ∀ p ∈ l, p.Ok
/-- what a mark 38 and its word come to -/
def toldW (w : Str) : List Nat := if w = Str.ofString "#37" then [37] else if w = Str.ofString "#65" then [65] else [38, 101, 59]
/-- the pieces of a text written with the mark '%' -/
def pcsOf1 (sign : List Pc) : Part → List Pc
  | .s x => if x = Str.ofString "sign" then sign else if x = Str.ofString "left" then [.k 38 (Str.ofString "e")] else [.t x]
  | .r n => [.k 37 n]
def pcsOf (sign : List Pc) (ps : List Part) : List Pc := ps.flatMap (pcsOf1 sign)
/-- the pieces of a text written with the mark's number -/
def pcsLit1 : Part → List Pc
  | .s x => if x = Str.ofString "sign" then [.k 38 (Str.ofString "#65")] else if x = Str.ofString "left" then [.k 38 (Str.ofString "e")] else [.t x]
  | .r n => [.k 38 (Str.ofString "#37"), .t (n ++ Str.ofString ";")]
def pcsLit (ps : List Part) : List Pc := ps.flatMap pcsLit1
abbrev sgA : List Pc := [.t (Str.ofString "A")]
abbrev sg65 : List Pc := [.k 38 (Str.ofString "#65")]
abbrev textOf (ps : List Part) : Str := written (Str.ofString "%") (Str.ofString "A") ps
/-- what is declared -/
abbrev Known := List (Str × List Part)
def knGet (kn : Known) (w : Str) : Option (List Part) := (kn.find? fun p => p.1 = w).map (·.2)
inductive Res where
  | ok (x : List Nat)
  | bad (C : Addr)
  deriving DecidableEq
/-- the stack machine: rows of pieces (the top row first), the names that are open, the size, what is found -/
def go (kn : Known) (depth most : Int) : Nat → List (List Pc) → List Str → Int → List Nat → Option Res
  | 0, _, _, _, _ => none
  | _ + 1, [], _, _, f => some (.ok f)
  | n + 1, [] :: rs, ys, sz, f => go kn depth most n rs (ys.take (rs.length - 1)) sz f
  | n + 1, (.t x :: r) :: rs, ys, sz, f => go kn depth most n (r :: rs) ys sz (f ++ x.cps.toList)
  | n + 1, (.k c w :: r) :: rs, ys, sz, f =>
    if c = 38 then go kn depth most n (r :: rs) ys sz (f ++ toldW w)
    else match knGet kn w with
      | none => some (.bad 162)
      | some ps => if w ∈ ys then some (.bad 162) else if depth ≤ ys.length ∨ most < sz + (textOf ps).length then some (.bad 174)
        else go kn depth most n (pcsOf sgA ps :: r :: rs) (ys ++ [w]) (sz + (textOf ps).length) f
/-- what the law's own reading gives: the text, or the word of the fault; the size; the deepest -/
structure Led where
  out : Except Addr (List Nat)
  sz : Int
  dp : Int
def ledW (O : Str → List Str → Int → Int → Led) : List Part → List Str → Int → Int → List Nat → Led
  | [], _, sz, dp, f => ⟨.ok f, sz, dp⟩
  | .s x :: ps, ys, sz, dp, f => ledW O ps ys sz dp (f ++ (wr1 (Str.ofString "%") (Str.ofString "A") (.s x)).cps.toList)
  | .r n :: ps, ys, sz, dp, f => match O n ys sz dp with
    | ⟨.error C, sz', dp'⟩ => ⟨.error C, sz', dp'⟩
    | ⟨.ok t, sz', dp'⟩ => ledW O ps ys sz' dp' (f ++ t)
def opened (kn : Known) (depth most : Int) : Nat → Str → List Str → Int → Int → Led
  | k, n, ys, sz, dp => match knGet kn n with
    | none => ⟨.error 162, sz, dp⟩
    | some ps => if n ∈ ys then ⟨.error 162, sz, dp⟩
      else if depth ≤ ys.length ∨ most < sz + (textOf ps).length then ⟨.error 174, sz + (textOf ps).length, max dp (ys.length + 1)⟩
      else match k with
        | 0 => ⟨.error 0, sz, dp⟩
        | k + 1 => ledW (opened kn depth most k) ps (ys ++ [n]) (sz + (textOf ps).length) (max dp (ys.length + 1)) []
/-- how many of the declared names are not open -/
def free (kn : Known) (ys : List Str) : Nat := (kn.map (·.1)).countP (fun n => n ∉ ys)
theorem knGet_mem {kn : Known} {w : Str} {ps : List Part} (h : knGet kn w = some ps) : (w, ps) ∈ kn := by
  unfold knGet at h
  cases hf : kn.find? (fun p => p.1 = w) with
  | none => rw [hf] at h; cases h
  | some p =>
    rw [hf] at h
    cases h
    have h1 := List.find?_some hf
    have h2 := List.mem_of_find?_eq_some hf
    obtain ⟨a, b⟩ := p
    have : a = w := by simpa using h1
    subst this
    exact h2
theorem free_lt {kn : Known} {n : Str} {ps : List Part} {ys : List Str} (h : knGet kn n = some ps) (hn : n ∉ ys) : free kn (ys ++ [n]) < free kn ys := by
  have hm : n ∈ kn.map (·.1) := List.mem_map.mpr ⟨_, knGet_mem h, rfl⟩
  unfold free
  generalize kn.map (·.1) = l at hm
  induction l with
  | nil => cases hm
  | cons a r ih =>
    rw [List.countP_cons, List.countP_cons]
    have hle : ∀ r : List Str, r.countP (fun m => decide (m ∉ ys ++ [n])) ≤ r.countP (fun m => decide (m ∉ ys)) := fun r => by
      refine List.countP_mono_left (fun m _ hm => ?_)
      simp only [List.mem_append, List.mem_singleton, not_or, decide_eq_true_eq] at hm ⊢
      exact hm.1
    by_cases e : a = n
    · subst e
      have := hle r
      simp [hn]
      exact Nat.lt_succ_of_le (by simpa using this)
    · have hr : n ∈ r := by
        rcases List.mem_cons.mp hm with h | h
        · exact absurd h.symm e
        · exact h
      have := ih hr
      have e2 : (decide (a ∉ ys ++ [n])) = decide (a ∉ ys) := by simp [e]
      rw [e2]
      omega
end
section
theorem go_one {kn : Known} {depth most : Int} {sg : List Pc} (hsg : sg = sgA ∨ sg = sg65) {x : Str} (ok : (Part.s x).Ok) (n : Nat) (r : List Pc) (rs : List (List Pc)) (ys : List Str) (sz : Int) (F : List Nat) :
    go kn depth most (n + 1) ((pcsOf1 sg (.s x) ++ r) :: rs) ys sz F = go kn depth most n (r :: rs) ys sz (F ++ (wr1 (Str.ofString "%") (Str.ofString "A") (.s x)).cps.toList) := by
  rcases ok with rfl | rfl | rfl | rfl | rfl
  · rw [wr1_x]; rfl
  · rw [wr1_yz]; rfl
  · rw [wr1_sp]; rfl
  · rw [wr1_sign]
    rcases hsg with rfl | rfl
    · rfl
    · have e : pcsOf1 sg65 (.s (Str.ofString "sign")) = [.k 38 (Str.ofString "#65")] := by unfold pcsOf1; dsimp only; rw [if_pos rfl]
      rw [e]
      have e2 : toldW (Str.ofString "#65") = (Str.ofString "A").cps.toList := by unfold toldW; rw [if_neg (by decide +kernel), if_pos rfl]; decide +kernel
      rw [← e2]
      rfl
  · rw [wr1_left]
    have e : pcsOf1 sg (.s (Str.ofString "left")) = [.k 38 (Str.ofString "e")] := by unfold pcsOf1; dsimp only; rw [if_neg (by decide +kernel), if_pos rfl]
    rw [e]
    have e2 : toldW (Str.ofString "e") = (Str.ofString "&e;").cps.toList := by unfold toldW; rw [if_neg (by decide +kernel), if_neg (by decide +kernel)]; decide +kernel
    rw [← e2]
    rfl
theorem pcsOf_cons (sg : List Pc) (p : Part) (ps : List Part) : pcsOf sg (p :: ps) = pcsOf1 sg p ++ pcsOf sg ps := List.flatMap_cons
/-- steps that one part takes at most, with f names not yet open -/
def cost : Nat → Nat
  | 0 => 1
  | f + 1 => 2 + 3 * cost f
theorem cost_pos (f : Nat) : 1 ≤ cost f := by cases f <;> simp only [cost] <;> omega
abbrev PartsOk (ps : List Part) : Prop := ∀ p ∈ ps, p.Ok
abbrev KnownOk (kn : Known) : Prop := ∀ q ∈ kn, PartsOk q.2 ∧ q.2.length ≤ 3
theorem go_nil {kn : Known} {depth most : Int} (n : Nat) (rs : List (List Pc)) (ys : List Str) (sz : Int) (F : List Nat) :
    go kn depth most (n + 1) ([] :: rs) ys sz F = go kn depth most n rs (ys.take (rs.length - 1)) sz F := rfl
theorem go_mark {kn : Known} {depth most : Int} (n : Nat) (w : Str) (r : List Pc) (rs : List (List Pc)) (ys : List Str) (sz : Int) (F : List Nat) :
    go kn depth most (n + 1) ((.k 37 w :: r) :: rs) ys sz F = match knGet kn w with
      | none => some (.bad 162)
      | some ps => if w ∈ ys then some (.bad 162) else if depth ≤ ys.length ∨ most < sz + (textOf ps).length then some (.bad 174)
        else go kn depth most n (pcsOf sgA ps :: r :: rs) (ys ++ [w]) (sz + (textOf ps).length) F := rfl
theorem run_led {kn : Known} {depth most : Int} (hk : KnownOk kn) : ∀ (f : Nat) (ps : List Part) (sg : List Pc) (ys : List Str) (sz dp : Int) (f0 F : List Nat) (r : List Pc) (rs : List (List Pc)),
    sg = sgA ∨ sg = sg65 → PartsOk ps → free kn ys ≤ f → ys.length = rs.length →
    match ledW (opened kn depth most f) ps ys sz dp f0 with
    | ⟨.ok t, sz', _⟩ => ∃ (k : Nat) (t0 : List Nat), k ≤ ps.length * cost f ∧ t = f0 ++ t0 ∧ ∀ n, go kn depth most (n + k) ((pcsOf sg ps ++ r) :: rs) ys sz F = go kn depth most n (r :: rs) ys sz' (F ++ t0)
    | ⟨.error C, _, _⟩ => ∃ k : Nat, k ≤ ps.length * cost f ∧ ∀ n, go kn depth most (n + k) ((pcsOf sg ps ++ r) :: rs) ys sz F = some (.bad C) := by
  intro f
  induction f with
  | zero =>
    intro ps
    induction ps with
    | nil =>
      intro sg ys sz dp f0 F r rs _ _ _ _
      exact ⟨0, [], by simp, by simp, fun n => by simp [pcsOf]⟩
    | cons p ps ih =>
      intro sg ys sz dp f0 F r rs hsg hok hfree hlen
      have hok' : PartsOk ps := fun q hq => hok q (.tail _ hq)
      cases p with
      | s x =>
        have h := ih sg ys sz dp (f0 ++ (wr1 (Str.ofString "%") (Str.ofString "A") (.s x)).cps.toList) (F ++ (wr1 (Str.ofString "%") (Str.ofString "A") (.s x)).cps.toList) r rs hsg hok' hfree hlen
        have e : ledW (opened kn depth most 0) (.s x :: ps) ys sz dp f0 = ledW (opened kn depth most 0) ps ys sz dp (f0 ++ (wr1 (Str.ofString "%") (Str.ofString "A") (.s x)).cps.toList) := rfl
        rw [e]
        generalize ledW (opened kn depth most 0) ps ys sz dp (f0 ++ _) = l at h
        obtain ⟨o, sz', dp'⟩ := l
        cases o with
        | error C =>
          obtain ⟨k, h1, h2⟩ := h
          refine ⟨k + 1, by simp only [List.length_cons, Nat.add_mul, cost] at h1 ⊢; omega, fun n => ?_⟩
          rw [pcsOf_cons, List.append_assoc, ← Nat.add_assoc, go_one hsg (hok _ (.head _))]
          exact h2 n
        | ok t =>
          obtain ⟨k, t0, h1, h2, h3⟩ := h
          refine ⟨k + 1, _, by simp only [List.length_cons, Nat.add_mul, cost] at h1 ⊢; omega, h2.trans (List.append_assoc _ _ _), fun n => ?_⟩
          rw [pcsOf_cons, List.append_assoc, ← Nat.add_assoc, go_one hsg (hok _ (.head _)), h3, List.append_assoc]
      | r w =>
        have e : ledW (opened kn depth most 0) (.r w :: ps) ys sz dp f0 = match opened kn depth most 0 w ys sz dp with
          | ⟨.error C, sz', dp'⟩ => ⟨.error C, sz', dp'⟩
          | ⟨.ok t, sz', dp'⟩ => ledW (opened kn depth most 0) ps ys sz' dp' (f0 ++ t) := rfl
        rw [e]
        have e1 : ∀ n, go kn depth most (n + 1) ((pcsOf sg (.r w :: ps) ++ r) :: rs) ys sz F = match knGet kn w with
            | none => some (.bad 162)
            | some qs => if w ∈ ys then some (.bad 162) else if depth ≤ ys.length ∨ most < sz + (textOf qs).length then some (.bad 174)
              else go kn depth most n (pcsOf sgA qs :: (pcsOf sg ps ++ r) :: rs) (ys ++ [w]) (sz + (textOf qs).length) F := fun n => by
          rw [pcsOf_cons]; exact go_mark n w (pcsOf sg ps ++ r) rs ys sz F
        unfold opened
        cases hg : knGet kn w with
        | none => exact ⟨1, by simp [cost], fun n => by rw [e1, hg]⟩
        | some qs =>
          dsimp only
          by_cases c1 : w ∈ ys
          · rw [if_pos c1]; exact ⟨1, by simp [cost], fun n => by rw [e1, hg]; dsimp only; rw [if_pos c1]⟩
          · rw [if_neg c1]
            have := free_lt hg c1
            omega
  | succ f ihf =>
    intro ps
    induction ps with
    | nil =>
      intro sg ys sz dp f0 F r rs _ _ _ _
      exact ⟨0, [], by simp, by simp, fun n => by simp [pcsOf]⟩
    | cons p ps ih =>
      intro sg ys sz dp f0 F r rs hsg hok hfree hlen
      have hok' : PartsOk ps := fun q hq => hok q (.tail _ hq)
      have hcp := cost_pos (f + 1)
      cases p with
      | s x =>
        have h := ih sg ys sz dp (f0 ++ (wr1 (Str.ofString "%") (Str.ofString "A") (.s x)).cps.toList) (F ++ (wr1 (Str.ofString "%") (Str.ofString "A") (.s x)).cps.toList) r rs hsg hok' hfree hlen
        have e : ledW (opened kn depth most (f + 1)) (.s x :: ps) ys sz dp f0 = ledW (opened kn depth most (f + 1)) ps ys sz dp (f0 ++ (wr1 (Str.ofString "%") (Str.ofString "A") (.s x)).cps.toList) := rfl
        rw [e]
        generalize ledW (opened kn depth most (f + 1)) ps ys sz dp (f0 ++ _) = l at h
        obtain ⟨o, sz', dp'⟩ := l
        cases o with
        | error C =>
          obtain ⟨k, h1, h2⟩ := h
          refine ⟨k + 1, by simp only [List.length_cons, Nat.add_mul] at h1 ⊢; omega, fun n => ?_⟩
          rw [pcsOf_cons, List.append_assoc, ← Nat.add_assoc, go_one hsg (hok _ (.head _))]
          exact h2 n
        | ok t =>
          obtain ⟨k, t0, h1, h2, h3⟩ := h
          refine ⟨k + 1, _, by simp only [List.length_cons, Nat.add_mul] at h1 ⊢; omega, h2.trans (List.append_assoc _ _ _), fun n => ?_⟩
          rw [pcsOf_cons, List.append_assoc, ← Nat.add_assoc, go_one hsg (hok _ (.head _)), h3, List.append_assoc]
      | r w =>
        have e : ledW (opened kn depth most (f + 1)) (.r w :: ps) ys sz dp f0 = match opened kn depth most (f + 1) w ys sz dp with
          | ⟨.error C, sz', dp'⟩ => ⟨.error C, sz', dp'⟩
          | ⟨.ok t, sz', dp'⟩ => ledW (opened kn depth most (f + 1)) ps ys sz' dp' (f0 ++ t) := rfl
        rw [e]
        have e1 : ∀ n, go kn depth most (n + 1) ((pcsOf sg (.r w :: ps) ++ r) :: rs) ys sz F = match knGet kn w with
            | none => some (.bad 162)
            | some qs => if w ∈ ys then some (.bad 162) else if depth ≤ ys.length ∨ most < sz + (textOf qs).length then some (.bad 174)
              else go kn depth most n (pcsOf sgA qs :: (pcsOf sg ps ++ r) :: rs) (ys ++ [w]) (sz + (textOf qs).length) F := fun n => by
          rw [pcsOf_cons]; exact go_mark n w (pcsOf sg ps ++ r) rs ys sz F
        have eo : opened kn depth most (f + 1) w ys sz dp = match knGet kn w with
          | none => ⟨.error 162, sz, dp⟩
          | some ps => if w ∈ ys then ⟨.error 162, sz, dp⟩
            else if depth ≤ ys.length ∨ most < sz + (textOf ps).length then ⟨.error 174, sz + (textOf ps).length, max dp (ys.length + 1)⟩
            else ledW (opened kn depth most f) ps (ys ++ [w]) (sz + (textOf ps).length) (max dp (ys.length + 1)) [] := by
          conv => lhs; unfold opened
          all_goals (cases knGet kn w <;> rfl)
        have hone : 1 ≤ (ps.length + 1) * cost (f + 1) := Nat.le_trans hcp (Nat.le_mul_of_pos_left _ (Nat.succ_pos _))
        rw [eo]
        cases hg : knGet kn w with
        | none => exact ⟨1, by simpa using hone, fun n => by rw [e1, hg]⟩
        | some qs =>
          dsimp only
          by_cases c1 : w ∈ ys
          · rw [if_pos c1]; exact ⟨1, by simpa using hone, fun n => by rw [e1, hg]; dsimp only; rw [if_pos c1]⟩
          · rw [if_neg c1]
            by_cases c2 : depth ≤ ys.length ∨ most < sz + (textOf qs).length
            · rw [if_pos c2]; exact ⟨1, by simpa using hone, fun n => by rw [e1, hg]; dsimp only; rw [if_neg c1, if_pos c2]⟩
            · rw [if_neg c2]
              have hq := hk _ (knGet_mem hg)
              have hfl := free_lt hg c1
              have h := ihf qs sgA (ys ++ [w]) (sz + (textOf qs).length) (max dp (ys.length + 1)) [] F [] ((pcsOf sg ps ++ r) :: rs) (.inl rfl) hq.1 (by omega) (by simp [hlen])
              generalize ledW (opened kn depth most f) qs (ys ++ [w]) (sz + (textOf qs).length) (max dp (ys.length + 1)) [] = l at h
              have hc : cost (f + 1) = 2 + 3 * cost f := rfl
              obtain ⟨o, sz', dp'⟩ := l
              cases o with
              | error C =>
                obtain ⟨k, h1, h2⟩ := h
                have h1' : k ≤ 3 * cost f := Nat.le_trans h1 (Nat.mul_le_mul_right _ hq.2)
                refine ⟨k + 1, by simp only [List.length_cons, Nat.add_mul]; omega, fun n => ?_⟩
                rw [← Nat.add_assoc, e1, hg]; dsimp only; rw [if_neg c1, if_neg c2]
                have := h2 n
                rw [List.append_nil] at this
                exact this
              | ok t =>
                obtain ⟨k, t0, h1, h2, h3⟩ := h
                have h1' : k ≤ 3 * cost f := Nat.le_trans h1 (Nat.mul_le_mul_right _ hq.2)
                dsimp only
                have g := ih sg ys sz' dp' (f0 ++ t) (F ++ t0) r rs hsg hok' hfree hlen
                generalize ledW (opened kn depth most (f + 1)) ps ys sz' dp' (f0 ++ t) = l at g
                have e2 : ∀ n j, go kn depth most (n + (j + (k + 2))) ((pcsOf sg (.r w :: ps) ++ r) :: rs) ys sz F = go kn depth most (n + j) ((pcsOf sg ps ++ r) :: rs) ys sz' (F ++ t0) := fun n j => by
                  rw [show n + (j + (k + 2)) = (n + j + 1 + k) + 1 by omega, e1, hg]; dsimp only; rw [if_neg c1, if_neg c2]
                  have := h3 (n + j + 1)
                  rw [List.append_nil] at this
                  rw [this, go_nil]
                  rw [show ((pcsOf sg ps ++ r) :: rs).length - 1 = ys.length by simp [hlen], List.take_left]
                obtain ⟨o, sz2, dp2⟩ := l
                have h2' : t = t0 := by simpa using h2
                cases o with
                | error C =>
                  obtain ⟨j, g1, g2⟩ := g
                  refine ⟨j + (k + 2), by simp only [List.length_cons, Nat.add_mul] at g1 ⊢; omega, fun n => ?_⟩
                  rw [e2]; exact g2 n
                | ok t2 =>
                  obtain ⟨j, t3, g1, g2, g3⟩ := g
                  refine ⟨j + (k + 2), t0 ++ t3, by simp only [List.length_cons, Nat.add_mul] at g1 ⊢; omega, by rw [g2, h2', List.append_assoc], fun n => ?_⟩
                  rw [e2, g3, List.append_assoc]
end
section
theorem app_list (a b : Str) : (a ++ b).cps.toList = a.cps.toList ++ b.cps.toList := by
  show (a.cps ++ b.cps).toList = _
  simp
theorem nil_list : (Str.ofString "").cps.toList = [] := by decide +kernel
theorem join_list_cps (ys : List Str) : (Txt.join (Str.ofString "") ys).cps.toList = ys.flatMap (·.cps.toList) := by
  unfold Txt.join
  rw [StrLaws.glued_eq_join]
  induction ys with
  | nil => rfl
  | cons x r ih =>
    cases r with
    | nil => simp [Str.join]
    | cons y r =>
      rw [List.flatMap_cons, ← ih]
      show (x ++ Str.ofString "" ++ Str.join (Str.ofString "") (y :: r)).cps.toList = _
      rw [app_list, app_list, nil_list, List.append_nil]
theorem written_list (mark sign : Str) (ps : List Part) : (written mark sign ps).cps.toList = ps.flatMap fun p => (wr1 mark sign p).cps.toList := by
  unfold written
  rw [join_list_cps, List.flatMap_map]
theorem str_ext {a b : Str} (h : a.cps.toList = b.cps.toList) : a = b := by
  obtain ⟨⟨a⟩⟩ := a
  obtain ⟨⟨b⟩⟩ := b
  cases h
  rfl
theorem flat_app (a b : List Pc) : flat (a ++ b) = flat a ++ flat b := by
  induction a with
  | nil => rfl
  | cons p r ih => simp only [List.cons_append, flat, ih, List.append_assoc]
theorem pc1_sign (sg : List Pc) : pcsOf1 sg (.s (Str.ofString "sign")) = sg := by unfold pcsOf1; dsimp only; rw [if_pos rfl]
theorem pc1_left (sg : List Pc) : pcsOf1 sg (.s (Str.ofString "left")) = [.k 38 (Str.ofString "e")] := by unfold pcsOf1; dsimp only; rw [if_neg (by decide +kernel), if_pos rfl]
theorem pcl_sign : pcsLit1 (.s (Str.ofString "sign")) = [.k 38 (Str.ofString "#65")] := by unfold pcsLit1; dsimp only; rw [if_pos rfl]
theorem pcl_left : pcsLit1 (.s (Str.ofString "left")) = [.k 38 (Str.ofString "e")] := by unfold pcsLit1; dsimp only; rw [if_neg (by decide +kernel), if_pos rfl]
theorem flat_pc1 {sg : List Pc} {sign : Str} (h : flat sg = sign.cps.toList) {p : Part} (ok : p.Ok) : flat (pcsOf1 sg p) = (wr1 (Str.ofString "%") sign p).cps.toList := by
  cases p with
  | s x =>
    rcases ok with rfl | rfl | rfl | rfl | rfl
    · rw [wr1_x]; exact Eq.trans (b := flat [.t (Str.ofString "x")]) rfl (by decide +kernel)
    · rw [wr1_yz]; exact Eq.trans (b := flat [.t (Str.ofString "yz")]) rfl (by decide +kernel)
    · rw [wr1_sp]; exact Eq.trans (b := flat [.t (Str.ofString " ")]) rfl (by decide +kernel)
    · rw [wr1_sign, pc1_sign]; exact h
    · rw [wr1_left, pc1_left]; decide +kernel
  | r n =>
    show flat [Pc.k 37 n] = (Str.ofString "%" ++ n ++ Str.ofString ";").cps.toList
    rcases ok with rfl | rfl | rfl | rfl <;> decide +kernel
theorem flat_pcl {p : Part} (ok : p.Ok) : flat (pcsLit1 p) = (wr1 (Str.ofString "&#37;") (Str.ofString "&#65;") p).cps.toList := by
  cases p with
  | s x =>
    rcases ok with rfl | rfl | rfl | rfl | rfl
    · rw [wr1_x]; decide +kernel
    · rw [wr1_yz]; decide +kernel
    · rw [wr1_sp]; decide +kernel
    · rw [wr1_sign, pcl_sign]; decide +kernel
    · rw [wr1_left, pcl_left]; decide +kernel
  | r n =>
    rcases ok with rfl | rfl | rfl | rfl <;> decide +kernel
theorem flat_map {f : Part → List Pc} {g : Part → List Nat} : ∀ {ps : List Part}, (∀ p ∈ ps, flat (f p) = g p) → flat (ps.flatMap f) = ps.flatMap g
  | [], _ => rfl
  | p :: r, h => by rw [List.flatMap_cons, List.flatMap_cons, flat_app, h p (.head _), flat_map (fun q hq => h q (.tail _ hq))]
theorem flat_pcsOf {sg : List Pc} {sign : Str} (h : flat sg = sign.cps.toList) {ps : List Part} (ok : PartsOk ps) : (written (Str.ofString "%") sign ps).cps.toList = flat (pcsOf sg ps) := by
  rw [written_list]; exact (flat_map (fun p hp => flat_pc1 h (ok p hp))).symm
theorem flat_pcsLit {ps : List Part} (ok : PartsOk ps) : (written (Str.ofString "&#37;") (Str.ofString "&#65;") ps).cps.toList = flat (pcsLit ps) := by
  rw [written_list]; exact (flat_map (fun p hp => flat_pcl (ok p hp))).symm
theorem flat_sgA : flat sgA = (Str.ofString "A").cps.toList := by decide +kernel
theorem flat_sg65 : flat sg65 = (Str.ofString "&#65;").cps.toList := by decide +kernel
theorem ok_t {x : Str} (h : x = Str.ofString "x" ∨ x = Str.ofString "yz" ∨ x = Str.ofString " " ∨ x = Str.ofString "A" ∨ x = Str.ofString "p;" ∨ x = Str.ofString "q;" ∨ x = Str.ofString "r;" ∨ x = Str.ofString "none;") : (Pc.t x).Ok := by
  rcases h with rfl | rfl | rfl | rfl | rfl | rfl | rfl | rfl <;> exact ⟨by decide +kernel, by decide +kernel⟩
theorem pcsOf_ok {sg : List Pc} (h : sg = sgA ∨ sg = sg65) {ps : List Part} (ok : PartsOk ps) : PcsOk (pcsOf sg ps) := by
  intro q hq
  obtain ⟨p, hp, hq⟩ := List.mem_flatMap.mp hq
  have := ok p hp
  cases p with
  | s x =>
    rcases this with rfl | rfl | rfl | rfl | rfl
    · obtain rfl := List.mem_singleton.mp hq; exact ok_t (.inl rfl)
    · obtain rfl := List.mem_singleton.mp hq; exact ok_t (.inr (.inl rfl))
    · obtain rfl := List.mem_singleton.mp hq; exact ok_t (.inr (.inr (.inl rfl)))
    · rw [pc1_sign] at hq
      rcases h with rfl | rfl
      · obtain rfl := List.mem_singleton.mp hq; exact ok_t (.inr (.inr (.inr (.inl rfl))))
      · obtain rfl := List.mem_singleton.mp hq; exact .inl ⟨rfl, .inr (.inl rfl)⟩
    · rw [pc1_left] at hq
      obtain rfl := List.mem_singleton.mp hq; exact .inl ⟨rfl, .inr (.inr rfl)⟩
  | r n => obtain rfl := List.mem_singleton.mp hq; exact .inr ⟨rfl, this⟩
theorem pcsLit_ok {ps : List Part} (ok : PartsOk ps) : PcsOk (pcsLit ps) := by
  intro q hq
  obtain ⟨p, hp, hq⟩ := List.mem_flatMap.mp hq
  have := ok p hp
  cases p with
  | s x =>
    rcases this with rfl | rfl | rfl | rfl | rfl
    · obtain rfl := List.mem_singleton.mp hq; exact ok_t (.inl rfl)
    · obtain rfl := List.mem_singleton.mp hq; exact ok_t (.inr (.inl rfl))
    · obtain rfl := List.mem_singleton.mp hq; exact ok_t (.inr (.inr (.inl rfl)))
    · rw [pcl_sign] at hq
      obtain rfl := List.mem_singleton.mp hq; exact .inl ⟨rfl, .inr (.inl rfl)⟩
    · rw [pcl_left] at hq
      obtain rfl := List.mem_singleton.mp hq; exact .inl ⟨rfl, .inr (.inr rfl)⟩
  | r n =>
    rcases List.mem_cons.mp hq with rfl | hq
    · exact .inl ⟨rfl, .inl rfl⟩
    · obtain rfl := List.mem_singleton.mp hq
      rcases this with rfl | rfl | rfl | rfl
      · exact ok_t (.inr (.inr (.inr (.inr (.inl (by decide +kernel))))))
      · exact ok_t (.inr (.inr (.inr (.inr (.inr (.inl (by decide +kernel)))))))
      · exact ok_t (.inr (.inr (.inr (.inr (.inr (.inr (.inl (by decide +kernel))))))))
      · exact ok_t (.inr (.inr (.inr (.inr (.inr (.inr (.inr (by decide +kernel))))))))
theorem run_lit {kn : Known} {depth most : Int} : ∀ (ps : List Part) (r : List Pc) (rs : List (List Pc)) (ys : List Str) (sz : Int) (F : List Nat), PartsOk ps →
    ∃ k, k ≤ 2 * ps.length ∧ ∀ n, go kn depth most (n + k) ((pcsLit ps ++ r) :: rs) ys sz F = go kn depth most n (r :: rs) ys sz (F ++ (textOf ps).cps.toList)
  | [], r, rs, ys, sz, F, _ => ⟨0, by simp, fun n => by
      have e : (textOf []).cps.toList = [] := by decide +kernel
      rw [e, List.append_nil]; rfl⟩
  | p :: ps, r, rs, ys, sz, F, ok => by
    obtain ⟨k, h1, h2⟩ := run_lit ps r rs ys sz (F ++ (wr1 (Str.ofString "%") (Str.ofString "A") p).cps.toList) (fun q hq => ok q (.tail _ hq))
    have e : (textOf (p :: ps)).cps.toList = (wr1 (Str.ofString "%") (Str.ofString "A") p).cps.toList ++ (textOf ps).cps.toList := by
      rw [written_list, written_list, List.flatMap_cons]
    have e2 : pcsLit (p :: ps) = pcsLit1 p ++ pcsLit ps := List.flatMap_cons
    have key : ∃ j, j ≤ 2 ∧ ∀ n R, go kn depth most (n + j) ((pcsLit1 p ++ R) :: rs) ys sz F = go kn depth most n (R :: rs) ys sz (F ++ (wr1 (Str.ofString "%") (Str.ofString "A") p).cps.toList) := by
      have hp := ok p (.head _)
      cases p with
      | s x =>
        refine ⟨1, by omega, fun n R => ?_⟩
        have h := go_one (kn := kn) (depth := depth) (most := most) (sg := sg65) (.inr rfl) hp n R rs ys sz F
        have e4 : pcsLit1 (.s x) = pcsOf1 sg65 (.s x) := by
          rcases hp with rfl | rfl | rfl | rfl | rfl
          · rfl
          · rfl
          · rfl
          · rw [pcl_sign, pc1_sign]
          · rw [pcl_left, pc1_left]
        rw [e4]
        exact h
      | r w =>
        refine ⟨2, by omega, fun n R => ?_⟩
        have e3 : (wr1 (Str.ofString "%") (Str.ofString "A") (.r w)).cps.toList = toldW (Str.ofString "#37") ++ (w ++ Str.ofString ";").cps.toList := by
          rcases hp with rfl | rfl | rfl | rfl <;> decide +kernel
        rw [e3, ← List.append_assoc]
        rfl
    obtain ⟨j, j1, j2⟩ := key
    refine ⟨k + j, by simp only [List.length_cons]; omega, fun n => ?_⟩
    rw [e2, List.append_assoc, ← Nat.add_assoc, j2, h2, e, List.append_assoc]
end
section
/-- a row stands where these pieces are still to be read -/
def RowIs (r : Row) (ps : List Pc) : Prop := r.x.cps.toList.drop r.i.toNat = flat ps ∧ PcsOk ps
inductive RowsAre : List Row → List (List Pc) → Prop
  | nil : RowsAre [] []
  | cons {r : Row} {ps : List Pc} {rs : List Row} {pss : List (List Pc)} : RowIs r ps → RowsAre rs pss → RowsAre (r :: rs) (ps :: pss)
theorem RowsAre.length {rs : List Row} {pss : List (List Pc)} (h : RowsAre rs pss) : rs.length = pss.length := by
  induction h with
  | nil => rfl
  | cons _ _ ih => simp [ih]
theorem flat_ne {ps : List Pc} (ok : PcsOk ps) (h : flat ps = []) : ps = [] := by
  cases ps with
  | nil => rfl
  | cons p r =>
    have h1 : p.flat = [] := (List.append_eq_nil_iff.mp h).1
    cases p with
    | t x => exact absurd h1 (ok _ (.head _)).1
    | k c w => cases h1
def dropNil : List (List Pc) → List (List Pc)
  | [] :: r => dropNil r
  | l => l
theorem str_len (x : Str) : x.cps.toList.length = x.length := by simp [Str.length]
theorem over_iff {r : Row} {ps : List Pc} (h : RowIs r ps) (h0 : 0 ≤ r.i) (h1 : r.i ≤ r.x.length) : r.over = true ↔ ps = [] := by
  unfold Row.over
  rw [decide_eq_true_eq]
  constructor
  · intro e
    refine flat_ne h.2 ?_
    rw [← h.1, List.drop_eq_nil_iff, str_len]
    omega
  · rintro rfl
    have := h.1
    rw [show flat [] = [] from rfl, List.drop_eq_nil_iff, str_len] at this
    omega
theorem popOver_are {rs : List Row} {pss : List (List Pc)} (h : RowsAre rs pss) : ∀ {n : Nat}, RowsOk rs n → RowsAre (popOver rs) (dropNil pss) := by
  induction h with
  | nil => intro n _; exact .nil
  | @cons r ps rs pss hr hs ih =>
    intro n ok
    have hi := over_iff hr ok.1.1 ok.1.2.1
    unfold popOver
    cases ps with
    | nil =>
      rw [if_pos (hi.mpr rfl)]
      rcases ok.2 with ⟨rfl, _⟩ | ⟨_, _, n', _, ok'⟩
      · cases hs; exact .nil
      · exact ih ok'
    | cons p q =>
      rw [if_neg (fun e => nomatch hi.mp e)]
      exact .cons hr hs
theorem dropNil_len (pss : List (List Pc)) : (dropNil pss).length ≤ pss.length := by
  induction pss with
  | nil => exact Nat.le_refl _
  | cons p r ih =>
    cases p with
    | nil => exact Nat.le_succ_of_le ih
    | cons => exact Nat.le_refl _
theorem go_pop {kn : Known} {depth most sz : Int} {f : List Nat} {R : Res} : ∀ {pss : List (List Pc)} {n : Nat} {ys : List Str}, ys.length = pss.length - 1 → go kn depth most n pss ys sz f = some R →
    ∃ n', n' ≤ n ∧ go kn depth most n' (dropNil pss) (ys.take ((dropNil pss).length - 1)) sz f = some R := by
  intro pss
  induction pss with
  | nil =>
    intro n ys _ h
    refine ⟨n, Nat.le_refl _, ?_⟩
    cases n with
    | zero => exact h
    | succ n => exact h
  | cons p rs ih =>
    intro n ys hl h
    cases p with
    | nil =>
      cases n with
      | zero => cases h
      | succ n =>
        have h' : go kn depth most n rs (ys.take (rs.length - 1)) sz f = some R := h
        have hy : (ys.take (rs.length - 1)).length = rs.length - 1 := by rw [List.length_take]; simp only [List.length_cons] at hl; omega
        obtain ⟨n', h1, h2⟩ := ih hy h'
        refine ⟨n', Nat.le_succ_of_le h1, ?_⟩
        rw [List.take_take, Nat.min_eq_left (by have := dropNil_len rs; omega)] at h2
        exact h2
    | cons c q =>
      refine ⟨n, Nat.le_refl _, ?_⟩
      show go kn depth most n ((c :: q) :: rs) (ys.take (((c :: q) :: rs).length - 1)) sz f = some R
      rw [← hl, List.take_length]
      exact h
theorem dropNil_head {pss : List (List Pc)} : dropNil pss = [] ∨ ∃ p q rs, dropNil pss = (p :: q) :: rs := by
  induction pss with
  | nil => exact .inl rfl
  | cons p rs ih =>
    cases p with
    | nil => exact ih
    | cons c q => exact .inr ⟨_, _, _, rfl⟩
theorem split_pcs : ∀ (ps : List Pc), ∃ (ts : List Str) (r : List Pc), ps = ts.map Pc.t ++ r ∧ (r = [] ∨ ∃ c w q, r = .k c w :: q)
  | [] => ⟨[], [], rfl, .inl rfl⟩
  | .t x :: r => by
    obtain ⟨ts, q, h1, h2⟩ := split_pcs r
    exact ⟨x :: ts, q, by rw [h1]; rfl, h2⟩
  | .k c w :: r => ⟨[], _, rfl, .inr ⟨_, _, _, rfl⟩⟩
theorem go_ts {kn : Known} {depth most sz : Int} {R : Res} {r : List Pc} {rs : List (List Pc)} {ys : List Str} : ∀ {ts : List Str} {n : Nat} {f : List Nat}, go kn depth most n ((ts.map Pc.t ++ r) :: rs) ys sz f = some R →
    ∃ n', n = n' + ts.length ∧ go kn depth most n' (r :: rs) ys sz (f ++ flat (ts.map Pc.t)) = some R := by
  intro ts
  induction ts with
  | nil => intro n f h; exact ⟨n, rfl, by simpa [flat] using h⟩
  | cons x ts ih =>
    intro n f h
    cases n with
    | zero => cases h
    | succ n =>
      have h' : go kn depth most n ((ts.map Pc.t ++ r) :: rs) ys sz (f ++ x.cps.toList) = some R := h
      obtain ⟨n', h1, h2⟩ := ih h'
      refine ⟨n', by simp only [List.length_cons]; omega, ?_⟩
      rw [List.append_assoc] at h2
      exact h2
/-- what run and the place behind it come to -/
theorem run_is {x : Str} {i j : Int} {ts : List Str} {r : List Pc} (h0 : 0 ≤ i) (h1 : i ≤ j) (h2 : j ≤ x.length) (hp : Plain x i j) (hs : Stops x j) (hd : x.cps.toList.drop i.toNat = flat (ts.map Pc.t ++ r)) (ok : PcsOk (ts.map Pc.t ++ r)) (hr : r = [] ∨ ∃ c w q, r = .k c w :: q) :
    (cut x i j).cps.toList = flat (ts.map Pc.t) ∧ x.cps.toList.drop j.toNat = flat r := by
  rw [flat_app] at hd
  have hm : ∀ c ∈ flat (ts.map Pc.t), ¬ (c = 38 ∨ c = 37) := by
    intro c hc
    have : ∀ l : List Str, (∀ y ∈ l, (Pc.t y).Ok) → c ∈ flat (l.map Pc.t) → ¬ (c = 38 ∨ c = 37) := by
      intro l
      induction l with
      | nil => intro _ h; cases h
      | cons y l ih =>
        intro hl hc
        rcases List.mem_append.mp (show c ∈ y.cps.toList ++ flat (l.map Pc.t) from hc) with h | h
        · exact (hl y (.head _)).2 c h
        · exact ih (fun z hz => hl z (.tail _ hz)) h
    exact this ts (fun y hy => ok _ (List.mem_append_left _ (List.mem_map.mpr ⟨y, hy, rfl⟩))) hc
  have hk : x.cps.toList.length = x.length := str_len x
  have at_ : ∀ v : Nat, x.cps.toList[i.toNat + v]? = (flat (ts.map Pc.t) ++ flat r)[v]? := at_drop hd
  have hlen : x.length - i.toNat = (flat (ts.map Pc.t)).length + (flat r).length := by
    have := congrArg List.length hd
    rw [List.length_drop, List.length_append, hk] at this
    exact this
  have hj : j = i + (flat (ts.map Pc.t)).length := by
    rcases Int.lt_trichotomy j (i + (flat (ts.map Pc.t)).length) with h | h | h
    · exfalso
      rcases hs with e | ⟨c, hc, hm2⟩
      · omega
      · have e := at_ (j - i).toNat
        rw [show i.toNat + (j - i).toNat = j.toNat by omega, hc, List.getElem?_append_left (by omega)] at e
        exact hm c (List.mem_of_getElem? e.symm) hm2
    · exact h
    · exfalso
      have e := at_ (flat (ts.map Pc.t)).length
      rw [List.getElem?_append_right (Nat.le_refl _), Nat.sub_self] at e
      rcases hr with rfl | ⟨c, w, q, rfl⟩
      · have : (flat ([] : List Pc)).length = 0 := rfl
        omega
      · have e2 : (flat (Pc.k c w :: q))[0]? = some c := rfl
        rw [e2] at e
        have hc : c = 38 ∨ c = 37 := by
          have := ok (Pc.k c w) (List.mem_append_right _ (.head _))
          rcases this with ⟨h, _⟩ | ⟨h, _⟩
          · exact .inl h
          · exact .inr h
        exact hp (i.toNat + (flat (ts.map Pc.t)).length) (by omega) (by omega) c e hc
  constructor
  · unfold cut
    show List.take (j - i).toNat (List.drop i.toNat x.cps.toList) = _
    rw [hd, show (j - i).toNat = (flat (ts.map Pc.t)).length by omega, List.take_left]
  · rw [show j.toNat = i.toNat + (flat (ts.map Pc.t)).length by omega, ← List.drop_drop, hd, List.drop_left]
theorem mark_is {x : Str} {j : Int} {c : Nat} {w : Str} {q : List Pc} (h0 : 0 ≤ j) (hd : x.cps.toList.drop j.toNat = flat (.k c w :: q)) :
    x.cps.toList.drop j.toNat = c :: (w.cps.toList ++ 59 :: flat q) ∧ x.cps.toList.drop (j + 1 + w.length + 1).toNat = flat q ∧ j + 1 + w.length + 1 ≤ x.length := by
  have e : flat (.k c w :: q) = c :: (w.cps.toList ++ 59 :: flat q) := by
    show (c :: (w.cps.toList ++ [59])) ++ flat q = _
    simp
  rw [e] at hd
  have hl := len_drop h0 hd (by simp)
  simp only [List.length_cons, List.length_append, str_len] at hl
  refine ⟨hd, ?_, by omega⟩
  rw [show (j + 1 + (w.length : Int) + 1).toNat = j.toNat + (1 + (w.length + 1)) by omega, ← List.drop_drop, hd, Nat.add_comm 1, List.drop_succ_cons, ← str_len w, ← List.drop_drop, List.drop_left]
  rfl
end
section
abbrev pn (w : Str) : Str := Str.ofString "%" ++ w
theorem pn_inj {a b : Str} (h : pn a = pn b) : a = b := by
  have := congrArg (fun x : Str => x.cps.toList) h
  simp only [pn, app_list] at this
  exact str_ext (List.append_cancel_left this)
theorem any_names (names : List Str) (w : Str) : (names.map pn).any (· == pn w) = decide (w ∈ names) := by
  induction names with
  | nil => rfl
  | cons a r ih =>
    rw [List.map_cons, List.any_cons, ih]
    by_cases e : w = a
    · subst e; simp
    · have : (pn a == pn w) = false := by
        apply Bool.eq_false_iff.mpr
        intro h
        exact e (pn_inj (eq_of_beq h)).symm
      rw [this]
      simp [e]
theorem written_len {mark sign : Str} (hm : mark.length ≤ 5) (hs : sign.length ≤ 5) {ps : List Part} (ok : PartsOk ps) : (written mark sign ps).length ≤ 10 * ps.length := by
  rw [← str_len, written_list]
  induction ps with
  | nil => simp
  | cons p r ih =>
    rw [List.flatMap_cons, List.length_append, str_len, List.length_cons]
    have h1 := wr1_len hm hs (ok p (.head _))
    have h2 := ih (fun q hq => ok q (.tail _ hq))
    omega
theorem textOf_len {ps : List Part} (ok : PartsOk ps) (h : ps.length ≤ 3) : (textOf ps).length ≤ 30 := by
  show (written (Str.ofString "%") (Str.ofString "A") ps).length ≤ 30
  have := written_len (mark := Str.ofString "%") (sign := Str.ofString "A") (by decide) (by decide) ok
  omega
theorem RowsOk.len : ∀ {rs : List Row} {n : Nat}, RowsOk rs n → n = rs.length - 1
  | [], n, h => h
  | r :: rs, n, h => by
    rcases h.2 with ⟨rfl, _, rfl⟩ | ⟨hne, _, n', rfl, h'⟩
    · rfl
    · have := RowsOk.len h'
      have : rs.length ≠ 0 := fun e => hne (List.length_eq_zero_iff.mp e)
      simp only [List.length_cons]
      omega
theorem strsAre_len {vs : List Value} {ys : List Str} (h : StrsAre vs ys) : vs.length = ys.length := by
  induction h with
  | nil => rfl
  | cons _ _ _ ih => simp [ih]
theorem strsAre_take {vs : List Value} {ys : List Str} (h : StrsAre vs ys) : ∀ n, StrsAre (vs.take n) (ys.take n) := by
  induction h with
  | nil => intro n; rw [List.take_nil, List.take_nil]; exact .nil
  | cons a b _ ih =>
    intro n
    cases n with
    | zero => exact .nil
    | succ n => exact .cons _ _ (ih n)
theorem sum_flat (fs : List Str) : (fs.map (·.length)).sum = (fs.flatMap (·.cps.toList)).length := by
  induction fs with
  | nil => rfl
  | cons a r ih => rw [List.map_cons, List.sum_cons, ih, List.flatMap_cons, List.length_append, str_len]
def KnIs (news : List (Addr × Obj)) (kvs : List (Str × Value)) (kn : Known) : Prop :=
  ∀ n, match knGet kn n with | none => valueAt kvs n = none | some ps => ∃ v, valueAt kvs n = some v ∧ Nonempty (EntOk news v (textOf ps))
theorem KnIs.none {news : List (Addr × Obj)} {kvs : List (Str × Value)} {kn : Known} (h : KnIs news kvs kn) {n : Str} (e : knGet kn n = none) : valueAt kvs n = none := by
  have := h n; rw [e] at this; exact this
theorem KnIs.some {news : List (Addr × Obj)} {kvs : List (Str × Value)} {kn : Known} (h : KnIs news kvs kn) {n : Str} {ps : List Part} (e : knGet kn n = some ps) : ∃ v, valueAt kvs n = some v ∧ Nonempty (EntOk news v (textOf ps)) := by
  have := h n; rw [e] at this; exact this
end
section
def big : Nat → Nat
  | 0 => 3
  | f + 1 => 3 * big f
theorem wr1_three {p : Part} (ok : p.Ok) (x : Str) (e : p = .s x) : (wr1 (Str.ofString "%") (Str.ofString "A") p).cps.toList.length ≤ 3 := by
  subst e
  rcases ok with rfl | rfl | rfl | rfl | rfl
  · rw [wr1_x]; decide +kernel
  · rw [wr1_yz]; decide +kernel
  · rw [wr1_sp]; decide +kernel
  · rw [wr1_sign]; decide +kernel
  · rw [wr1_left]; decide +kernel
theorem big_three (f : Nat) : 3 ≤ big f := by induction f with | zero => exact Nat.le_refl _ | succ f ih => simp only [big]; omega
theorem ledW_s {O : Str → List Str → Int → Int → Led} {x : Str} {ps : List Part} {ys : List Str} {sz dp : Int} {f : List Nat} : ledW O (.s x :: ps) ys sz dp f = ledW O ps ys sz dp (f ++ (wr1 (Str.ofString "%") (Str.ofString "A") (.s x)).cps.toList) := rfl
theorem ledW_ok {O : Str → List Str → Int → Int → Led} {n : Str} {ps : List Part} {ys : List Str} {sz dp : Int} {f t : List Nat} (h : (O n ys sz dp).out = .ok t) : ledW O (.r n :: ps) ys sz dp f = ledW O ps ys (O n ys sz dp).sz (O n ys sz dp).dp (f ++ t) := by
  have e : ledW O (.r n :: ps) ys sz dp f = match O n ys sz dp with
    | ⟨.error C, sz', dp'⟩ => ⟨.error C, sz', dp'⟩
    | ⟨.ok t, sz', dp'⟩ => ledW O ps ys sz' dp' (f ++ t) := rfl
  rw [e]
  generalize O n ys sz dp = r at h
  obtain ⟨o, a, b⟩ := r
  dsimp only at h
  subst h
  rfl
theorem ledW_bad {O : Str → List Str → Int → Int → Led} {n : Str} {ps : List Part} {ys : List Str} {sz dp : Int} {f : List Nat} {C : Addr} (h : (O n ys sz dp).out = .error C) : ledW O (.r n :: ps) ys sz dp f = O n ys sz dp := by
  have e : ledW O (.r n :: ps) ys sz dp f = match O n ys sz dp with
    | ⟨.error C, sz', dp'⟩ => ⟨.error C, sz', dp'⟩
    | ⟨.ok t, sz', dp'⟩ => ledW O ps ys sz' dp' (f ++ t) := rfl
  rw [e]
  generalize O n ys sz dp = r at h
  obtain ⟨o, a, b⟩ := r
  dsimp only at h
  subst h
  rfl
/-- if nothing is wrong: the size stays within its bound, and the text is not long -/
theorem led_ok {kn : Known} {depth most : Int} (hk : KnownOk kn) (hm : most ≤ 3000) : ∀ (f : Nat) (ps : List Part) (ys : List Str) (sz dp : Int) (f0 t : List Nat), PartsOk ps → 0 ≤ sz → sz ≤ 3000 →
    (ledW (opened kn depth most f) ps ys sz dp f0).out = .ok t → 0 ≤ (ledW (opened kn depth most f) ps ys sz dp f0).sz ∧ (ledW (opened kn depth most f) ps ys sz dp f0).sz ≤ 3000 ∧ t.length ≤ f0.length + ps.length * big f := by
  intro f
  induction f with
  | zero =>
    intro ps
    induction ps with
    | nil => intro ys sz dp f0 t _ h0 h1 h; cases h; exact ⟨h0, h1, by simp⟩
    | cons p ps ih =>
      intro ys sz dp f0 t ok h0 h1 h
      cases p with
      | s x =>
        rw [ledW_s] at h ⊢
        obtain ⟨a, b, c⟩ := ih _ _ _ _ _ (fun q hq => ok q (.tail _ hq)) h0 h1 h
        refine ⟨a, b, ?_⟩
        have := wr1_three (ok _ (.head _)) x rfl
        rw [List.length_append] at c
        simp only [List.length_cons, big, Nat.add_mul] at c ⊢
        omega
      | r n =>
        cases ho : (opened kn depth most 0 n ys sz dp).out with
        | error C => rw [ledW_bad ho, ho] at h; cases h
        | ok t1 =>
          exfalso
          unfold opened at ho
          cases hg : knGet kn n with
          | none => rw [hg] at ho; cases ho
          | some qs =>
            rw [hg] at ho
            dsimp only at ho
            split at ho
            · cases ho
            · split at ho <;> cases ho
  | succ f ihf =>
    intro ps
    induction ps with
    | nil => intro ys sz dp f0 t _ h0 h1 h; cases h; exact ⟨h0, h1, by simp⟩
    | cons p ps ih =>
      intro ys sz dp f0 t ok h0 h1 h
      have hb := big_three (f + 1)
      cases p with
      | s x =>
        rw [ledW_s] at h ⊢
        obtain ⟨a, b, c⟩ := ih _ _ _ _ _ (fun q hq => ok q (.tail _ hq)) h0 h1 h
        refine ⟨a, b, ?_⟩
        have := wr1_three (ok _ (.head _)) x rfl
        rw [List.length_append] at c
        simp only [List.length_cons, Nat.add_mul] at c ⊢
        omega
      | r n =>
        cases ho : (opened kn depth most (f + 1) n ys sz dp).out with
        | error C => rw [ledW_bad ho, ho] at h; cases h
        | ok t1 =>
          rw [ledW_ok ho] at h ⊢
          have key : 0 ≤ (opened kn depth most (f + 1) n ys sz dp).sz ∧ (opened kn depth most (f + 1) n ys sz dp).sz ≤ 3000 ∧ t1.length ≤ big (f + 1) := by
            have eo : opened kn depth most (f + 1) n ys sz dp = match knGet kn n with
              | none => ⟨.error 162, sz, dp⟩
              | some ps => if n ∈ ys then ⟨.error 162, sz, dp⟩
                else if depth ≤ ys.length ∨ most < sz + (textOf ps).length then ⟨.error 174, sz + (textOf ps).length, max dp (ys.length + 1)⟩
                else ledW (opened kn depth most f) ps (ys ++ [n]) (sz + (textOf ps).length) (max dp (ys.length + 1)) [] := by
              conv => lhs; unfold opened
              all_goals (cases knGet kn n <;> rfl)
            rw [eo] at ho ⊢
            cases hg : knGet kn n with
            | none => rw [hg] at ho; cases ho
            | some qs =>
              rw [hg] at ho
              dsimp only at ho ⊢
              by_cases c1 : n ∈ ys
              · rw [if_pos c1] at ho; cases ho
              · rw [if_neg c1] at ho ⊢
                by_cases c2 : depth ≤ (ys.length : Int) ∨ most < sz + ((textOf qs).length : Int)
                · rw [if_pos c2] at ho; cases ho
                · rw [if_neg c2] at ho ⊢
                  have hq := hk _ (knGet_mem hg)
                  obtain ⟨a, b, c⟩ := ihf qs _ _ _ _ _ hq.1 (by omega) (by omega) ho
                  refine ⟨a, b, ?_⟩
                  have h3 : qs.length ≤ 3 := hq.2
                  have := Nat.mul_le_mul_right (big f) h3
                  simp only [List.length_nil, big] at c ⊢
                  omega
          obtain ⟨a, b, c⟩ := ih _ _ _ _ _ (fun q hq => ok q (.tail _ hq)) key.1 key.2.1 h
          refine ⟨a, b, ?_⟩
          rw [List.length_append] at c
          simp only [List.length_cons, Nat.add_mul] at c ⊢
          omega
theorem opened_ok {kn : Known} {depth most : Int} (hk : KnownOk kn) (hm : most ≤ 3000) {f : Nat} {n : Str} {ys : List Str} {sz dp : Int} {t : List Nat} (ok : (Part.r n).Ok) (h0 : 0 ≤ sz) (h1 : sz ≤ 3000) (h : (opened kn depth most f n ys sz dp).out = .ok t) :
    0 ≤ (opened kn depth most f n ys sz dp).sz ∧ (opened kn depth most f n ys sz dp).sz ≤ 3000 ∧ t.length ≤ big f := by
  have e : ledW (opened kn depth most f) [.r n] ys sz dp [] = ⟨.ok t, (opened kn depth most f n ys sz dp).sz, (opened kn depth most f n ys sz dp).dp⟩ := ledW_ok h
  have := led_ok hk hm f [.r n] ys sz dp [] t (by intro q hq; rw [List.mem_singleton.mp hq]; exact ok) h0 h1 (by rw [e])
  rw [e] at this
  simpa using this
theorem big_le {f : Nat} (h : f ≤ 3) : big f ≤ 81 := by
  rcases f with _ | _ | _ | _ | f
  · decide
  · decide
  · decide
  · decide
  · omega
end
section
theorem topl_in {l o f x g d t : Addr × Obj} {R X : List (Addr × Obj)} : ∀ q ∈ l :: o :: (R ++ (f :: x :: g :: d :: t :: X)), q ∈ f :: o :: l :: x :: g :: d :: t :: (R ++ X) := by
  intro q hq
  simp only [List.mem_cons, List.mem_append] at hq ⊢
  rcases hq with h | h | h | h | h | h | h | h | h <;> simp only [h, true_or, or_true]
theorem topl_out {l o f x g d t : Addr × Obj} {R X : List (Addr × Obj)} : ∀ q ∈ f :: o :: l :: x :: g :: d :: t :: (R ++ X), q ∈ l :: o :: (R ++ (f :: x :: g :: d :: t :: X)) := by
  intro q hq
  simp only [List.mem_cons, List.mem_append] at hq ⊢
  rcases hq with h | h | h | h | h | h | h | h | h <;> simp only [h, true_or, or_true]
/-- what stands in front of the rows while a literal is read -/
structure LitA where
  (fl ol rl gx g sd st lm : Addr)
  (h1 h2 h3 h4 h5 h6 : Int)
  (k1 k2 k3 k4 k5 k6 : Tok)
abbrev LitA.news (z : LitA) (fv vs : List Value) (rows : List Row) (sz bg : Int) (nf no nr : Nat) (ts tb : Tok) (rest : List (Addr × Obj)) : List (Addr × Obj) :=
  (z.fl, W.listOf fv.toArray nf) :: (z.ol, W.listOf vs.toArray no) :: (z.rl, W.listOf (rowVals rows).toArray nr) :: (z.gx, W.dictOf [⟨z.h1, .str (Str.ofString "limits") z.k1, .ref z.lm⟩, ⟨z.h2, .str (Str.ofString "size") z.k2, .int sz ts⟩, ⟨z.h3, .str (Str.ofString "open") z.k3, .ref z.ol⟩] 3) :: (z.g, W.instObj 255 z.gx) ::
    (z.sd, W.dictOf [⟨z.h4, .str (Str.ofString "growth") z.k4, .ref z.g⟩, ⟨z.h5, .str (Str.ofString "rows") z.k5, .ref z.rl⟩, ⟨z.h6, .str (Str.ofString "begin") z.k6, .int bg tb⟩] 3) :: (z.st, W.instObj 339 z.sd) :: (rowsNews rows ++ rest)
/-- all these objects are apart -/
def LitA.Apart (z : LitA) (rows : List Row) (rest : List (Addr × Obj)) : Prop :=
  [z.fl, z.ol, z.rl, z.gx, z.g, z.sd, z.st].Nodup ∧ (∀ q ∈ rowsNews rows ++ rest, q.1 ∉ [z.fl, z.ol, z.rl, z.gx, z.g, z.sd, z.st]) ∧ ((rowsNews rows).map (·.1)).Nodup ∧ (∀ q ∈ rowsNews rows, ∀ q' ∈ rest, q.1 ≠ q'.1)
theorem popOver_sub (rows : List Row) : ∃ pre, rowsNews rows = pre ++ rowsNews (popOver rows) := by
  induction rows with
  | nil => exact ⟨[], rfl⟩
  | cons r rs ih =>
    unfold popOver
    by_cases h : r.over = true
    · rw [if_pos h]
      obtain ⟨pre, e⟩ := ih
      exact ⟨(r.p, W.instObj 297 r.pd) :: (r.pd, rowDict r) :: pre, by show (r.p, W.instObj 297 r.pd) :: (r.pd, rowDict r) :: rowsNews rs = _; rw [e]; rfl⟩
    · rw [if_neg h]; exact ⟨[], rfl⟩
theorem LitA.Apart.pop {z : LitA} {rows : List Row} {rest : List (Addr × Obj)} (h : z.Apart rows rest) : z.Apart (popOver rows) rest := by
  obtain ⟨pre, e⟩ := popOver_sub rows
  have sub : ∀ q ∈ rowsNews (popOver rows), q ∈ rowsNews rows := fun q hq => by rw [e]; exact List.mem_append_right _ hq
  refine ⟨h.1, fun q hq => h.2.1 q ?_, ?_, fun q hq => h.2.2.2 q (sub q hq)⟩
  · exact List.mem_append.mpr ((List.mem_append.mp hq).imp (sub q) id)
  · have := h.2.2.1
    rw [e, List.map_append] at this
    exact (List.nodup_append.mp this).2.1
def topVal : List Row → Value
  | [] => .none
  | r :: _ => .ref r.p
theorem topVal_eq (rows : List Row) : (match rows with | [] => (.none : Value) | r :: _ => .ref r.p) = topVal rows := by cases rows <;> rfl
theorem c_topL {w : World} {vw : Program} {loose : List Str} {mean : ExcName → Option Value} {mg mb : Str → Option Value} {dp un : Nat} {gd : Option (List Code)} {cn : Str} {cs : Scope} {a : Addr} {ccd : Value} {cl : List (Str × Addr)} {outer : List Env} {A₀ : Around} {base h₀ : Heap} {L : Addr} {m : Str → Option Value} {s : Shared} {Q E : Value → Shared → Prop} {rest : List (Addr × Obj)}
   {z : LitA} {fv vs : List Value} {rows : List Row} {sz bg : Int} {nf no nr : Nat} {ts tb : Tok}
   (B : Below A₀ base outer h₀ := by k_asm) (F : Fr h₀ L s.heap m := by k_asm) (X : (Mine.k0.heap_1 w.params).In h₀ := by k_asm) (T : Top vw loose mean mg mb h₀ := by k_asm) (hk : cs.kind = .function := by exact rfl)
   (N : News h₀ L s.heap (z.news fv vs rows sz bg nf no nr ts tb rest)) (ap : z.Apart rows rest)
   (hok : RowsOk rows vs.length) (hlen : vs.length ≤ 1000) (hrows : rows.length ≤ 1000) (hdp : dp + 8 < recursionLimit := by ktr_room) (hu : un + 320 < cLine := by ktr_units)
   (ret : ∀ nr' no' vs' h' tk', RowsOk (popOver rows) vs'.length → vs' = vs.take vs'.length → z.Apart (popOver rows) rest → Fr h₀ L h' m →
      News h₀ L h' (z.news fv vs' (popOver rows) sz bg nf no' nr' ts tb rest) →
      Q (topVal (popOver rows)) { s with heap := h', toks := tk' }) :
   wpAny (model PySem.Challenge.pw_sm0079_01 w) (ktrTop dp un gd cn cs L a ccd cl outer) (call (.ref 322) [.ref z.st]) Q E s := by
  have apP := ap.pop
  obtain ⟨ap1, ap2, ap3, ap4⟩ := ap
  have nn := ap1
  simp only [List.nodup_cons, List.mem_cons, List.not_mem_nil, or_false, not_or] at nn
  have far : ∀ q ∈ rowsNews rows ++ rest, q.1 ≠ z.fl ∧ q.1 ≠ z.ol ∧ q.1 ≠ z.rl ∧ q.1 ≠ z.gx ∧ q.1 ≠ z.g ∧ q.1 ≠ z.sd ∧ q.1 ≠ z.st := fun q hq => by
    have := ap2 q hq
    simp only [List.mem_cons, List.not_mem_nil, or_false, not_or] at this
    exact this
  refine c_top (N := newsSub N topl_in) (hst := .tail _ (.tail _ (.tail _ (.tail _ (.head _))))) (hsd := .tail _ (.tail _ (.tail _ (.head _)))) (hg := .tail _ (.tail _ (.head _))) (hgx := .tail _ (.head _))
    (hok := hok) (hlen := hlen) (hrows := hrows) (B := B) (F := F) (X := X) (T := T) (hk := hk) (hdp := hdp) (hu := hu) ?_ ?_ ?_ ?_ ?_ (ret := fun nr' no' vs' h' tk' a b c d => by
      have h9 := ret nr' no' vs' h' tk' a b apP c (newsSub d topl_out)
      revert h9
      generalize popOver rows = l9
      cases l9 <;> exact id)
  · exact fun e => nn.2.1.1 e.symm
  · exact fun q hq => (far q (List.mem_append_left _ hq)).2.2.1
  · exact fun q hq => (far q (List.mem_append_left _ hq)).2.1
  · intro q hq
    simp only [List.mem_cons] at hq
    rcases hq with rfl | rfl | rfl | rfl | rfl | hq
    · exact nn.1.2.1
    · exact fun e => nn.2.2.1.1 e.symm
    · exact fun e => nn.2.2.1.2.1 e.symm
    · exact fun e => nn.2.2.1.2.2.1 e.symm
    · exact fun e => nn.2.2.1.2.2.2 e.symm
    · exact (far q (List.mem_append_right _ hq)).2.2.1
  · intro q hq
    simp only [List.mem_cons] at hq
    rcases hq with rfl | rfl | rfl | rfl | rfl | hq
    · exact nn.1.1
    · exact fun e => nn.2.1.2.1 e.symm
    · exact fun e => nn.2.1.2.2.1 e.symm
    · exact fun e => nn.2.1.2.2.2.1 e.symm
    · exact fun e => nn.2.1.2.2.2.2 e.symm
    · exact (far q (List.mem_append_right _ hq)).2.1
theorem c_topL0 {w : World} {vw : Program} {loose : List Str} {mean : ExcName → Option Value} {mg mb : Str → Option Value} {dp un : Nat} {gd : Option (List Code)} {cn : Str} {cs : Scope} {a : Addr} {ccd : Value} {cl : List (Str × Addr)} {outer : List Env} {A₀ : Around} {base h₀ : Heap} {L : Addr} {m : Str → Option Value} {s : Shared} {Q E : Value → Shared → Prop} {rest : List (Addr × Obj)}
   {z : LitA} {fv vs : List Value} {rows : List Row} {sz bg : Int} {nf no nr : Nat} {ts tb : Tok}
   (B : Below A₀ base outer h₀ := by k_asm) (F : Fr h₀ L s.heap m := by k_asm) (X : (Mine.k0.heap_1 w.params).In h₀ := by k_asm) (T : Top vw loose mean mg mb h₀ := by k_asm) (hk : cs.kind = .function := by exact rfl)
   (N : News h₀ L s.heap (z.news fv vs rows sz bg nf no nr ts tb rest)) (ap : z.Apart rows rest)
   (hok : RowsOk rows vs.length) (hlen : vs.length ≤ 1000) (hrows : rows.length ≤ 1000) (hdp : dp + 8 < recursionLimit := by ktr_room) (hu : un + 320 < cLine := by ktr_units)
   (ret : ∀ (z' : LitA) nr' no' vs' h' tk', z'.fl = z.fl → z'.st = z.st → z'.lm = z.lm → RowsOk (popOver rows) vs'.length → vs' = vs.take vs'.length → z'.Apart (popOver rows) rest → Fr h₀ L h' m →
      News h₀ L h' (z'.news fv vs' (popOver rows) sz bg nf no' nr' ts tb rest) →
      Q (topVal (popOver rows)) { s with heap := h', toks := tk' }) :
   wpAny (model PySem.Challenge.pw_sm0079_01 w) (ktrTop dp un gd cn cs L a ccd cl outer) (call (.ref 322) [.ref z.st]) Q E s :=
  c_topL (N := N) (ap := ap) (hok := hok) (hlen := hlen) (hrows := hrows) (B := B) (F := F) (X := X) (T := T) (hk := hk) (hdp := hdp) (hu := hu) (ret := fun nr' no' vs' h' tk' a b c d e => ret z nr' no' vs' h' tk' rfl rfl rfl a b c d e)
end
section
theorem LitA.Apart.consE {P : Prop} {z : LitA} {r : Row} {rs : List Row} {rest : List (Addr × Obj)} (h : z.Apart (r :: rs) rest)
    (k : (z.fl ≠ z.ol) → (z.fl ≠ z.rl) → (z.fl ≠ z.gx) → (z.fl ≠ z.g) → (z.fl ≠ z.sd) → (z.fl ≠ z.st) → (z.ol ≠ z.rl) → (z.ol ≠ z.gx) → (z.ol ≠ z.g) → (z.ol ≠ z.sd) → (z.ol ≠ z.st) → (z.rl ≠ z.gx) → (z.rl ≠ z.g) → (z.rl ≠ z.sd) → (z.rl ≠ z.st) → (z.gx ≠ z.g) → (z.gx ≠ z.sd) → (z.gx ≠ z.st) → (z.g ≠ z.sd) → (z.g ≠ z.st) → (z.sd ≠ z.st) → (r.p ≠ z.fl) → (r.p ≠ z.ol) → (r.p ≠ z.rl) → (r.p ≠ z.gx) → (r.p ≠ z.g) → (r.p ≠ z.sd) → (r.p ≠ z.st) → (r.pd ≠ z.fl) → (r.pd ≠ z.ol) → (r.pd ≠ z.rl) → (r.pd ≠ z.gx) → (r.pd ≠ z.g) → (r.pd ≠ z.sd) → (r.pd ≠ z.st) → (r.p ≠ r.pd) → (∀ q ∈ rowsNews rs ++ rest, q.1 ≠ z.fl) → (∀ q ∈ rowsNews rs ++ rest, q.1 ≠ z.ol) → (∀ q ∈ rowsNews rs ++ rest, q.1 ≠ z.rl) → (∀ q ∈ rowsNews rs ++ rest, q.1 ≠ z.gx) → (∀ q ∈ rowsNews rs ++ rest, q.1 ≠ z.g) → (∀ q ∈ rowsNews rs ++ rest, q.1 ≠ z.sd) → (∀ q ∈ rowsNews rs ++ rest, q.1 ≠ z.st) → (∀ q ∈ rowsNews rs ++ rest, q.1 ≠ r.p) → (∀ q ∈ rowsNews rs ++ rest, q.1 ≠ r.pd) → P) : P := by
  obtain ⟨a1, a2, a3, a4⟩ := h
  have far : ∀ q ∈ rowsNews (r :: rs) ++ rest, q.1 ≠ z.fl ∧ q.1 ≠ z.ol ∧ q.1 ≠ z.rl ∧ q.1 ≠ z.gx ∧ q.1 ≠ z.g ∧ q.1 ≠ z.sd ∧ q.1 ≠ z.st := fun q hq => by
    have := a2 q hq
    simp only [List.mem_cons, List.not_mem_nil, or_false, not_or] at this
    exact this
  have n3 : r.p ≠ r.pd ∧ (∀ q ∈ rowsNews rs, q.1 ≠ r.p) ∧ (∀ q ∈ rowsNews rs, q.1 ≠ r.pd) := by
    have e : (rowsNews (r :: rs)).map (·.1) = r.p :: r.pd :: (rowsNews rs).map (·.1) := rfl
    rw [e, List.nodup_cons, List.nodup_cons] at a3
    refine ⟨fun h => a3.1 (h ▸ .head _), fun q hq h => a3.1 (.tail _ (List.mem_map.mpr ⟨q, hq, h⟩)), fun q hq h => a3.2.1 (List.mem_map.mpr ⟨q, hq, h⟩)⟩
  have tl : ∀ q ∈ rowsNews rs ++ rest, q ∈ rowsNews (r :: rs) ++ rest := fun q hq => .tail _ (.tail _ hq)
  simp only [List.nodup_cons, List.mem_cons, List.not_mem_nil, or_false, not_or, not_false_eq_true, List.nodup_nil, and_true] at a1
  obtain ⟨⟨b1, b2, b3, b4, b5, b6⟩, ⟨c1, c2, c3, c4, c5⟩, ⟨d1, d2, d3, d4⟩, ⟨e1, e2, e3⟩, ⟨f1, f2⟩, g1⟩ := a1
  have p7 := far (r.p, _) (.head _)
  have d7 := far (r.pd, _) (.tail _ (.head _))
  exact k b1 b2 b3 b4 b5 b6 c1 c2 c3 c4 c5 d1 d2 d3 d4 e1 e2 e3 f1 f2 g1 p7.1 p7.2.1 p7.2.2.1 p7.2.2.2.1 p7.2.2.2.2.1 p7.2.2.2.2.2.1 p7.2.2.2.2.2.2 d7.1 d7.2.1 d7.2.2.1 d7.2.2.2.1 d7.2.2.2.2.1 d7.2.2.2.2.2.1 d7.2.2.2.2.2.2 n3.1
    (fun q hq => (far q (tl q hq)).1) (fun q hq => (far q (tl q hq)).2.1) (fun q hq => (far q (tl q hq)).2.2.1) (fun q hq => (far q (tl q hq)).2.2.2.1) (fun q hq => (far q (tl q hq)).2.2.2.2.1) (fun q hq => (far q (tl q hq)).2.2.2.2.2.1) (fun q hq => (far q (tl q hq)).2.2.2.2.2.2)
    (fun q hq => (List.mem_append.mp hq).elim (n3.2.1 q) (fun h e => a4 (r.p, W.instObj 297 r.pd) (.head _) q h e.symm)) (fun q hq => (List.mem_append.mp hq).elim (n3.2.2 q) (fun h e => a4 (r.pd, rowDict r) (.tail _ (.head _)) q h e.symm))
/-- the loop of literal_value: where it stands -/
inductive LitJ (kn : Known) (depth most : Int) (R : Res) (z : LitA) (tb : Addr) (rest : List (Addr × Obj)) (n : Nat) (m₁ : Str → Option Value) (news₁ : List (Addr × Obj)) : Prop
  | mk : m₁ (Str.ofString "stack") = some (.ref z.st) → m₁ (Str.ofString "found") = some (.ref z.fl) → m₁ (Str.ofString "table") = some (.ref tb) →
      ∀ (rows : List Row) (pss : List (List Pc)) (vs : List Value) (names : List Str) (fv : List Value) (fs : List Str) (sz bg : Int) (nf no nr : Nat) (ts tk : Tok),
      m₁ (Str.ofString "pending") = some (topVal rows) → dropNil pss = pss → RowsAre rows pss → RowsOk rows vs.length → StrsAre vs (names.map pn) → StrsAre fv fs → z.Apart rows rest →
      go kn depth most n pss names sz (fs.flatMap (·.cps.toList)) = some R → 0 ≤ sz → sz ≤ 3000 → rows.length + n ≤ 400 → fv.length + 2 * n ≤ 700 → news₁ = z.news fv vs rows sz bg nf no nr ts tk rest → LitJ kn depth most R z tb rest n m₁ news₁
theorem dropNil_idem (pss : List (List Pc)) : dropNil (dropNil pss) = dropNil pss := by
  rcases dropNil_head (pss := pss) with h | ⟨p, q, rs, h⟩
  · rw [h]; rfl
  · rw [h]; rfl
theorem popOver_len (rs : List Row) : (popOver rs).length ≤ rs.length := by
  induction rs with
  | nil => exact Nat.le_refl _
  | cons r rs ih =>
    unfold popOver
    by_cases h : r.over = true
    · rw [if_pos h]; exact Nat.le_succ_of_le ih
    · rw [if_neg h]; exact Nat.le_refl _
theorem LitJ.intro {kn : Known} {depth most : Int} {R : Res} {z : LitA} {tb : Addr} {rest : List (Addr × Obj)} {n : Nat} {m₁ : Str → Option Value}
    {rows : List Row} {pss : List (List Pc)} {vs vs' : List Value} {names : List Str} {fv : List Value} {fs : List Str} {sz bg : Int} {nf no nr : Nat} {ts tk : Tok} {f : List Nat} {g₀ g₁ : Heap} {L₁ : Addr} (_F : Fr g₀ L₁ g₁ m₁)
    (s1 : m₁ (Str.ofString "stack") = some (.ref z.st)) (s2 : m₁ (Str.ofString "found") = some (.ref z.fl)) (s3 : m₁ (Str.ofString "table") = some (.ref tb)) (s4 : m₁ (Str.ofString "pending") = some (topVal (popOver rows)))
    (hra : RowsAre rows pss) (hro : RowsOk rows vs.length) (hvs : StrsAre vs (names.map pn)) (hfv : StrsAre fv fs) (hap : z.Apart (popOver rows) rest) (hf : fs.flatMap (·.cps.toList) = f) (hgo : go kn depth most n pss names sz f = some R)
    (h0 : 0 ≤ sz) (h1 : sz ≤ 3000) (hb1 : rows.length + n ≤ 400) (hb2 : fv.length + 2 * n ≤ 700) (ho' : RowsOk (popOver rows) vs'.length) (hv' : vs' = vs.take vs'.length) :
    ∃ n', n' ≤ n ∧ LitJ kn depth most R z tb rest n' m₁ (z.news fv vs' (popOver rows) sz bg nf no nr ts tk rest) := by
  have e1 : names.length = pss.length - 1 := by
    have := strsAre_len hvs
    rw [List.length_map] at this
    rw [← this, ← hra.length]
    exact hro.len
  obtain ⟨n', g1, g2⟩ := go_pop e1 hgo
  have hra' := popOver_are hra hro
  have e2 : (dropNil pss).length - 1 = vs'.length := by rw [← hra'.length]; exact ho'.len.symm
  refine ⟨n', g1, s1, s2, s3, popOver rows, dropNil pss, vs', names.take vs'.length, fv, fs, sz, bg, nf, no, nr, ts, tk, s4, dropNil_idem _, hra', ho', ?_, hfv, hap, ?_, h0, h1, ?_, ?_, rfl⟩
  · rw [List.map_take]
    conv => lhs; rw [hv']
    exact strsAre_take hvs _
  · rw [hf, ← e2]; exact g2
  · have := popOver_len rows; omega
  · omega
end
section
theorem turn_in {p d : Addr × Obj} {f o l x g s t : Addr × Obj} {X : List (Addr × Obj)} : ∀ q ∈ f :: o :: l :: x :: g :: s :: t :: p :: d :: X, q ∈ p :: d :: f :: o :: l :: x :: g :: s :: t :: X := by
  intro q hq
  simp only [List.mem_cons] at hq ⊢
  rcases hq with h | h | h | h | h | h | h | h | h | h <;> simp only [h, true_or, or_true]
theorem turn_in2 {p d : Addr × Obj} {f o l x g s t : Addr × Obj} {X : List (Addr × Obj)} : ∀ q ∈ f :: o :: l :: x :: g :: s :: t :: p :: d :: X, q ∈ s :: p :: d :: f :: o :: l :: x :: g :: t :: X := by
  intro q hq
  simp only [List.mem_cons] at hq ⊢
  rcases hq with h | h | h | h | h | h | h | h | h | h <;> simp only [h, true_or, or_true]
theorem turn_in4 {p d : Addr × Obj} {f o l x g s t : Addr × Obj} {X : List (Addr × Obj)} : ∀ q ∈ l :: o :: x :: s :: p :: d :: f :: g :: t :: X, q ∈ p :: d :: f :: o :: l :: x :: g :: s :: t :: X := by
  intro q hq
  simp only [List.mem_cons] at hq ⊢
  rcases hq with h | h | h | h | h | h | h | h | h | h <;> simp only [h, true_or, or_true]
theorem turn_in3 {p d a b : Addr × Obj} {f o l x g s t : Addr × Obj} {X : List (Addr × Obj)} : ∀ q ∈ f :: o :: l :: x :: g :: s :: t :: a :: b :: p :: d :: X, q ∈ a :: b :: l :: o :: x :: s :: p :: d :: f :: g :: t :: X := by
  intro q hq
  simp only [List.mem_cons] at hq ⊢
  rcases hq with h | h | h | h | h | h | h | h | h | h | h | h <;> simp only [h, true_or, or_true]
theorem LitA.Apart.row {z : LitA} {r r' : Row} {rs : List Row} {rest : List (Addr × Obj)} (h : z.Apart (r :: rs) rest) (e1 : r'.p = r.p) (e2 : r'.pd = r.pd) : z.Apart (r' :: rs) rest := by
  obtain ⟨h1, h2, h3, h4⟩ := h
  refine ⟨h1, ?_, ?_, ?_⟩
  · intro q hq
    rcases List.mem_cons.mp hq with rfl | hq
    · exact e1 ▸ h2 (r.p, W.instObj 297 r.pd) (.head _)
    · rcases List.mem_cons.mp hq with rfl | hq
      · exact e2 ▸ h2 (r.pd, rowDict r) (.tail _ (.head _))
      · exact h2 q (.tail _ (.tail _ hq))
  · show (r'.p :: r'.pd :: (rowsNews rs).map (·.1)).Nodup
    rw [e1, e2]; exact h3
  · intro q hq
    rcases List.mem_cons.mp hq with rfl | hq
    · exact e1 ▸ h4 (r.p, W.instObj 297 r.pd) (.head _)
    · rcases List.mem_cons.mp hq with rfl | hq
      · exact e2 ▸ h4 (r.pd, rowDict r) (.tail _ (.head _))
      · exact h4 q (.tail _ (.tail _ hq))
theorem LitA.Apart.push {z : LitA} {r : Row} {rs : List Row} {rest : List (Addr × Obj)} (h : z.Apart rs rest) (hd : r.p ≠ r.pd)
    (f : (z.fl ≠ r.p ∧ z.ol ≠ r.p ∧ z.rl ≠ r.p ∧ z.gx ≠ r.p ∧ z.g ≠ r.p ∧ z.sd ≠ r.p ∧ z.st ≠ r.p) ∧ (z.fl ≠ r.pd ∧ z.ol ≠ r.pd ∧ z.rl ≠ r.pd ∧ z.gx ≠ r.pd ∧ z.g ≠ r.pd ∧ z.sd ≠ r.pd ∧ z.st ≠ r.pd))
    (g1 : ∀ q ∈ rowsNews rs ++ rest, q.1 ≠ r.p) (g2 : ∀ q ∈ rowsNews rs ++ rest, q.1 ≠ r.pd) : z.Apart (r :: rs) rest := by
  obtain ⟨h1, h2, h3, h4⟩ := h
  obtain ⟨⟨a1, a2, a3, a4, a5, a6, a7⟩, ⟨b1, b2, b3, b4, b5, b6, b7⟩⟩ := f
  refine ⟨h1, ?_, ?_, ?_⟩
  · intro q hq
    rcases List.mem_cons.mp hq with rfl | hq
    · simp only [List.mem_cons, List.not_mem_nil, or_false, not_or]; exact ⟨a1.symm, a2.symm, a3.symm, a4.symm, a5.symm, a6.symm, a7.symm⟩
    · rcases List.mem_cons.mp hq with rfl | hq
      · simp only [List.mem_cons, List.not_mem_nil, or_false, not_or]; exact ⟨b1.symm, b2.symm, b3.symm, b4.symm, b5.symm, b6.symm, b7.symm⟩
      · exact h2 q hq
  · show (r.p :: r.pd :: (rowsNews rs).map (·.1)).Nodup
    rw [List.nodup_cons, List.nodup_cons]
    refine ⟨?_, ?_, h3⟩
    · intro hm
      rcases List.mem_cons.mp hm with e | hm
      · exact hd e
      · obtain ⟨q, hq, e⟩ := List.mem_map.mp hm
        exact g1 q (List.mem_append_left _ hq) e
    · intro hm
      obtain ⟨q, hq, e⟩ := List.mem_map.mp hm
      exact g2 q (List.mem_append_left _ hq) e
  · intro q hq q' hq'
    rcases List.mem_cons.mp hq with rfl | hq
    · exact (g1 q' (List.mem_append_right _ hq')).symm
    · rcases List.mem_cons.mp hq with rfl | hq
      · exact (g2 q' (List.mem_append_right _ hq')).symm
      · exact h4 q hq q' hq'
theorem told_out {w : Str} (hw : w = Str.ofString "#37" ∨ w = Str.ofString "#65" ∨ w = Str.ofString "e") : ∃ out : Str, ((w = Str.ofString "#37" ∧ out = Str.ofString "%") ∨ (w = Str.ofString "#65" ∧ out = Str.ofString "A") ∨ (w = Str.ofString "e" ∧ out = Str.ofString "&e;")) ∧ out.cps.toList = toldW w := by
  rcases hw with rfl | rfl | rfl
  · exact ⟨_, .inl ⟨rfl, rfl⟩, by decide +kernel⟩
  · exact ⟨_, .inr (.inl ⟨rfl, rfl⟩), by decide +kernel⟩
  · exact ⟨_, .inr (.inr ⟨rfl, rfl⟩), by decide +kernel⟩
theorem flat_snoc (fs : List Str) (y : Str) : (fs ++ [y]).flatMap (·.cps.toList) = fs.flatMap (·.cps.toList) ++ y.cps.toList := by simp
theorem apart_start {fl ol rl gx g sd st lm p pd : Addr} {h1 h2 h3 h4 h5 h6 a1 a2 a3 : Int} {k1 k2 k3 k4 k5 k6 b1 b2 b3 c1 c2 : Tok} {x : Str} {nm : Value} {i : Int} {rest : List (Addr × Obj)} (lo : ∀ q ∈ rest, q.1 < gx)
    (f01 : @LT.lt Nat instLTNat gx g) (f12 : @LT.lt Nat instLTNat g ol) (f23 : @LT.lt Nat instLTNat ol sd) (f34 : @LT.lt Nat instLTNat sd st) (f45 : @LT.lt Nat instLTNat st pd) (f56 : @LT.lt Nat instLTNat pd p) (f67 : @LT.lt Nat instLTNat p rl) (f78 : @LT.lt Nat instLTNat rl fl) :
    (⟨fl, ol, rl, gx, g, sd, st, lm, h1, h2, h3, h4, h5, h6, k1, k2, k3, k4, k5, k6⟩ : LitA).Apart [⟨p, pd, a1, a2, a3, b1, b2, b3, c1, c2, x, nm, i⟩] rest := by
  have f02 := Nat.lt_trans f01 f12
  have f13 := Nat.lt_trans f12 f23
  have f24 := Nat.lt_trans f23 f34
  have f35 := Nat.lt_trans f34 f45
  have f46 := Nat.lt_trans f45 f56
  have f57 := Nat.lt_trans f56 f67
  have f68 := Nat.lt_trans f67 f78
  have f03 := Nat.lt_trans f02 f23
  have f14 := Nat.lt_trans f13 f34
  have f25 := Nat.lt_trans f24 f45
  have f36 := Nat.lt_trans f35 f56
  have f47 := Nat.lt_trans f46 f67
  have f58 := Nat.lt_trans f57 f78
  have f04 := Nat.lt_trans f03 f34
  have f15 := Nat.lt_trans f14 f45
  have f26 := Nat.lt_trans f25 f56
  have f37 := Nat.lt_trans f36 f67
  have f48 := Nat.lt_trans f47 f78
  have f05 := Nat.lt_trans f04 f45
  have f16 := Nat.lt_trans f15 f56
  have f27 := Nat.lt_trans f26 f67
  have f38 := Nat.lt_trans f37 f78
  have f06 := Nat.lt_trans f05 f56
  have f17 := Nat.lt_trans f16 f67
  have f28 := Nat.lt_trans f27 f78
  have f07 := Nat.lt_trans f06 f67
  have f18 := Nat.lt_trans f17 f78
  have f08 := Nat.lt_trans f07 f78
  refine ⟨?_, ?_, ?_, ?_⟩
  · simp only [List.nodup_cons, List.mem_cons, List.not_mem_nil, or_false, not_or, not_false_eq_true, List.nodup_nil, and_true]
    repeat' (first | refine And.intro ?_ ?_ | exact Nat.ne_of_gt (by assumption) | exact Nat.ne_of_lt (by assumption))
  · intro q hq
    simp only [List.mem_cons, List.not_mem_nil, or_false, not_or]
    rcases List.mem_cons.mp hq with rfl | hq
    · dsimp only; repeat' (first | refine And.intro ?_ ?_ | exact Nat.ne_of_gt (by assumption) | exact Nat.ne_of_lt (by assumption))
    · rcases List.mem_cons.mp hq with rfl | hq
      · dsimp only; repeat' (first | refine And.intro ?_ ?_ | exact Nat.ne_of_gt (by assumption) | exact Nat.ne_of_lt (by assumption))
      · have l0 := lo q hq
        repeat' (first | refine And.intro ?_ ?_ | exact Nat.ne_of_lt l0 | exact Nat.ne_of_lt (Nat.lt_trans l0 (by assumption)))
  · show [p, pd].Nodup
    simp only [List.nodup_cons, List.mem_cons, List.not_mem_nil, or_false, not_or, not_false_eq_true, List.nodup_nil, and_true]
    exact Nat.ne_of_gt (by assumption)
  · intro q hq q' hq'
    have l0 := lo q' hq'
    rcases List.mem_cons.mp hq with rfl | hq
    · exact Nat.ne_of_gt (Nat.lt_trans l0 (by assumption))
    · rcases List.mem_cons.mp hq with rfl | hq
      · exact Nat.ne_of_gt (Nat.lt_trans l0 (by assumption))
      · cases hq
end
section
section
theorem kw35 : True := by
  k_with "callWith ref" => ((k_here; k_dflt (first
  | refine' callWith_K ?q124k1 ?q124k2 ?_; (case q124k1 => k_asm); (case q124k2 => k_is); k_whole
  | refine' callWith_K0 ?q124k1 ?q124k2 ?_; (case q124k1 => k_in); (case q124k2 => k_is); k_whole)))
  k_with "eval Name" => ((k_here; k_dflt (refine' PyProof.Rows.ld ?q125k1 ?q125k2 ?_; (case q125k1 => k_asm); (case q125k2 => with_reducible assumption); k_whole)))
  k_with "call ref" => (((k_here; (with_reducible show wpAny _ _ (call (Value.ref 350) _) _ _ _); k_dflt (refine' c_growth (N := by k_asm) (mt := by assumption) (md := by assumption) (ret := fun g gx ol g1' g2' g3' q1' q2' q3' ts' n' h' tk' F' N' m1 m2 m3 => ?_); k_whole); (have m1s := m1); k_lt m1); (try dsimp only)))
  k_with "call ref" => (((k_here; (with_reducible show wpAny _ _ (call (Value.ref 339) _) _ _ _); k_dflt (refine' c_stack (N := by k_asm) (ret := fun st sd rl p pd a1' a2' a3' b1' b2' b3' g1' g2' g3' q1' q2' q3' tb' tx' ti' n' h' tk' F' N' l1 l2 l3 l4 l5 => ?_); k_whole); k_lt l1); (try dsimp only)))
  k_with "call ref" => ((k_here; (with_reducible show wpAny _ _ (call (Value.ref 322) _) _ _ _); refine while_mark ?_))
  k_with "call ref" => ((k_here; (with_reducible show wpAny _ _ (call (Value.ref 287) _) _ _ _); refine while_mark ?_))
  k_with "call ref" => ((k_here; (with_reducible show wpAny _ _ (call (Value.ref 365) _) _ _ _); refine while_mark ?_))
  k_with "call ref" => (((k_here; (with_reducible show wpAny _ _ (call (Value.ref 280) _) _ _ _); k_dflt (refine' c_over (hp := ?q131hp) (hpd := ?q131hpd) (N := ?q131n) (B := ?q131b) (F := ?q131f) (X := ?q131x) (T := ?q131t) (hk := ?q131k) (h0 := ?q131h0) (hx := ?q131hx) (hdp := ?q131rd) (hu := ?q131ru) (ret := fun h'z tk'z F'z N'z => ?_); (case q131b => k_asm); (case q131f => k_asm); (case q131x => k_asm); (case q131t => k_asm); (case q131k => exact rfl); (case q131n => k_asm); (case q131hp => k_mem); (case q131hpd => k_mem); (case q131h0 => first | assumption | omega); (case q131hx => first | assumption | omega); (case q131rd => ktr_room); (case q131ru => ktr_units); k_whole)); (try dsimp only)))
  k_with "leaving ref" => ((k_here; refine' leave_onR ?q132k1 ?q132k2 ?q132k3 ?q132k4 ?_; (case q132k3 => assumption); (case q132k1 => assumption); (case q132k4 => assumption); (case q132k2 => assumption); k_whole; intro h'z R'z U'z; (try dsimp only at R'z U'z ⊢)))
  trivial
theorem take_fl {P : Prop} {fl : Addr} {l : List (Addr × Obj)} (_h : AllLt fl l) (k : ∀ x, x = fl → P) : P := k _ rfl
theorem c_lit {w : World} {vw : Program} {loose : List Str} {mean : ExcName → Option Value} {mg mb : Str → Option Value} {dp un : Nat} {gd : Option (List Code)} {cn : Str} {cs : Scope} {a : Addr} {ccd : Value} {cl : List (Str × Addr)} {outer : List Env} {A₀ : Around} {base h₀ : Heap} {L : Addr} {m : Str → Option Value} {s : Shared} {Q E : Value → Shared → Prop} {rest : List (Addr × Obj)}
   {tb lm ld : Addr} {kvs : List (Str × Value)} {raw : Str} {tr : Tok} {h4 h5 : Int} {k4 k5 td tz : Tok} {depth most : Int} {kn : Known} {pcs : List Pc} {R : Res} {fuel : Nat}
   (B : Below A₀ base outer h₀ := by k_asm) (F : Fr h₀ L s.heap m := by k_asm) (X : (Mine.k0.heap_1 w.params).In h₀ := by k_asm) (T : Top vw loose mean mg mb h₀ := by k_asm) (hk : cs.kind = .function := by exact rfl)
   (N : News h₀ L s.heap rest) (tab : TabOk PySem.Challenge.pw_sm0079_01 w rest tb lm kvs) (hlm : (lm, W.instObj 533 ld) ∈ rest) (hld : (ld, W.dictOf [⟨h4, .str (Str.ofString "most_depth") k4, .int depth td⟩, ⟨h5, .str (Str.ofString "most_size") k5, .int most tz⟩] 2) ∈ rest)
   (hkn : KnIs rest kvs kn) (hkk : KnownOk kn) (hraw : raw.length ≤ 1000) (hfl : raw.cps.toList = flat pcs) (hok : PcsOk pcs) (hm : most ≤ 3000) (hfuel : fuel ≤ 300) (hgo : go kn depth most fuel [pcs] [] 0 [] = some R) (hR : ∀ x, R = .ok x → x.length ≤ 1000) (hdp : dp + 30 < recursionLimit := by ktr_room) (hu : un + 1200 < cLine := by ktr_units)
   (ret : ∀ x t h' tk', R = .ok x → Fr h₀ L h' m → News h₀ L h' rest → Q (.str ⟨x.toArray⟩ t) { s with heap := h', toks := tk' })
   (thr : ∀ e t us h' tk' g₂ (C : Addr), R = .bad C → Fr h₀ L g₂ m → g₂.UpToSlots h' → RaisedS base g₂ (envX cn cs L a ccd cl :: outer) e (.ref C) t us rest h' → E (.ref e) { s with heap := h', toks := tk' }) :
   wpAny (model PySem.Challenge.pw_sm0079_01 w) (ktrTop dp un gd cn cs L a ccd cl outer) (call (.ref 358) [.str raw tr, .ref tb]) Q E s := by
  have mt := tab.mt
  have md := tab.md
  refine wpAny_call ?_
  k_dflt k_enter
  k_steps
  refine take_fl ‹AllLt _ ((rl, _) :: _)› (fun fl e9 => ?_)
  subst e9
  unfold WhileMark
  k_dflt (refine' c_topL0 (z := ⟨fl, ol, rl, gx, g, sd, st, lm, _, _, _, _, _, _, _, _, _, _, _, _⟩) (fv := []) (vs := []) (rows := [⟨p, pd, _, _, _, _, _, _, _, _, raw, .none, 0⟩]) (rest := rest) (N := ?N) (ap := ?ap) (hok := ?ok) (hlen := by decide) (hrows := Nat.le_of_ble_eq_true rfl) (ret := ?ret))
  case N =>
    refine newsSub (by k_asm) ?_
    refine' List.forall_mem_cons.mpr ⟨?fl, List.forall_mem_cons.mpr ⟨?a1, List.forall_mem_cons.mpr ⟨?a2, List.forall_mem_cons.mpr ⟨?a3, List.forall_mem_cons.mpr ⟨?a4, List.forall_mem_cons.mpr ⟨?a5, List.forall_mem_cons.mpr ⟨?a6, List.forall_mem_cons.mpr ⟨?a7, List.forall_mem_cons.mpr ⟨?a8, ?a9⟩⟩⟩⟩⟩⟩⟩⟩⟩
    case a1 => k_mem
    case a2 => k_mem
    case a3 => k_mem
    case a4 => k_mem
    case a5 => k_mem
    case a6 => k_mem
    case a7 => k_mem
    case a8 => k_mem
    case a9 => exact fun q hq => by k_mem
    case fl => exact List.mem_cons_of_mem _ List.mem_cons_self
  case ap => exact apart_start (by k_extra "ltAll") m2 m3 (by k_extra "lt") l2 l3 l4 l5 (by k_extra "lt")
  case ok => exact ⟨⟨Int.le_refl _, Int.natCast_nonneg _, hraw⟩, .inl ⟨rfl, rfl, rfl⟩⟩
  case ret =>
    intro z nr no vs' h' tk' e1 e2 e3 ho' hv' ap' F' N'
    dsimp only at e1 e2 e3
    subst e1 e2 e3
    k_steps
    unfold WhileMark
    obtain ⟨n₀, -, hJ⟩ := LitJ.intro (kn := kn) (depth := depth) (most := most) (R := R) (tb := tb) (z := z) (vs := []) (names := []) (fs := []) (f := []) (pss := [pcs]) (n := fuel) (rows := [⟨p, pd, g1', g2', g3', q1', q2', q3', tx', ti', raw, .none, 0⟩]) (nf := 0) (no := no) (nr := nr) (fv := []) (sz := 0) (bg := 0) (ts := ts') (tk := tb')
      (by k_asm) rfl rfl rfl rfl (.cons (show RowIs _ _ from ⟨hfl, hok⟩) .nil) ⟨⟨Int.le_refl _, Int.natCast_nonneg _, hraw⟩, .inl ⟨rfl, rfl, rfl⟩⟩ .nil .nil ap' rfl hgo (Int.le_refl _) (by decide) (by simp; omega) (by simp; omega) ho' hv'
    refine While_inv (fun n m₁ news₁ => LitJ kn depth most R z tb rest n m₁ news₁) (by k_asm) (by k_asm) hJ ?_
    clear hJ ap' ho' hv'
    iterate 40 (try (rename News _ _ _ _ => o9; clear o9))
    iterate 40 (try (rename AllLt _ _ => o9; clear o9))
    intro n m₁ news₁ h₁ tk₁ F₁ N₁ hJ9
    k_extra "hide"
    obtain ⟨hs1, hs2, hs3, rows, pss, vs, names, fv, fs, sz, bg, nf, no, nr, ts, tkk, hs4, hpop, hra, hro, hvs, hfv, hap, hgo', hsz0, hsz1, hb1, hb2, rfl⟩ := hJ9
    cases hra with
    | nil =>
      dsimp only [topVal] at hs4
      have hRf : R = .ok (fs.flatMap (·.cps.toList)) := by
        cases n with
        | zero => cases hgo'
        | succ n => exact (Option.some.inj hgo').symm
      have hl9 := hR _ hRf
      rw [← sum_flat] at hl9
      simp only [LitA.news, rowsNews, rowVals, List.map_nil, List.reverse_nil, List.nil_append] at N₁
      unfold G9
      k_steps
      refine join_list (News.isList (by k_asm) (by k_mem)) hfv (by have e0 : (Str.ofString "").length = 0 := by decide
                                                                   rw [e0, Nat.mul_zero]; omega) ?_
      intro t' k'
      k_steps
      exact fin_str (str_ext (join_list_cps fs)) (ret _ _ _ _ hRf (by k_asm) (newsDrop (by k_asm) (by kbd_text)))
    | @cons r ps rs pss' hr hrs =>
      refine hap.consE fun a1 a2 a3 a4 a5 a6 a7 a8 a9 a10 a11 a12 a13 a14 a15 a16 a17 a18 a19 a20 a21 b1 b2 b3 b4 b5 b6 b7 c1 c2 c3 c4 c5 c6 c7 d1 f1 f2 f3 f4 f5 f6 f7 f8 f9 => ?_
      have hpn : ps ≠ [] := by
        rintro rfl
        have e1 := congrArg List.length hpop
        have e2 := dropNil_len pss'
        simp only [dropNil, List.length_cons] at e1
        omega
      obtain ⟨tt, rr, rfl, hrr⟩ := split_pcs ps
      obtain ⟨n', hn, hgo2⟩ := go_ts hgo'
      obtain ⟨i0, i1, i2⟩ := hro.top
      have hro2 := hro.2
      simp only [LitA.news, rowVals_cons, rowsNews, List.cons_append] at N₁
      dsimp only [topVal] at hs4
      obtain ⟨rp, rpd, u1, u2, u3, v1, v2, v3, vx, vi, x, nm, i⟩ := r
      unfold RowIs at hr
      have hbound : (rs.length + 1) + n ≤ 400 := hb1
      have hvs9 : vs.length ≤ 400 := by have e9 := hro.len; simp only [List.length_cons] at e9; omega
      dsimp only at hs4 N₁ i0 i1 i2 hr b1 b2 b3 b4 b5 b6 b7 c1 c2 c3 c4 c5 c6 c7 d1 f8 f9 hro2
      unfold G9
      k_steps
      unfold WhileMark
      k_dflt (refine' c_run (N := pickN (pickN (by k_asm) (by kbd_text)) (Pick.tail (by kbd_text))) (hpd := by k_ne) (hr1 := by k_all) (hr2 := by k_all) (hi := i0) (hi2 := i1) (hx := i2) (ret := ?_))
      intro j tj tr2 h2 tk2 hij hjl hpl hst F₂ N₂
      obtain ⟨hcut, hdrop⟩ := run_is i0 hij hjl hpl hst hr.1 hr.2 hrr
      k_steps
      · unfold WhileMark
        have kN' := ‹News _ _ _ ((rp, _) :: _)›
        rw [List.push_toArray] at kN'
        have hfr : flat rr = [] := by rw [← hdrop, List.drop_eq_nil_iff, str_len]; omega
        obtain rfl : rr = [] := flat_ne (fun q hq => hr.2 q (List.mem_append_right _ hq)) hfr
        have htt : tt ≠ [] := by rintro rfl; exact hpn rfl
        have htl : 0 < tt.length := List.length_pos_iff.mpr htt
        k_dflt (refine' c_topL (z := z) (rows := ⟨rp, rpd, u1, u2, u3, v1, v2, v3, vx, tj, x, nm, j⟩ :: rs) (vs := vs) (fv := fv ++ [Value.str (cut x i j) tr2]) (rest := rest) (N := ?N) (ap := hap.row rfl rfl) (hok := ⟨⟨Int.le_trans i0 hij, hjl, i2⟩, hro2⟩) (hlen := by have := hro.len; simp only [List.length_cons] at this hb1; omega) (hrows := by simp only [List.length_cons] at hb1 ⊢; omega) (ret := ?ret))
        case N => simp only [LitA.news, rowVals_cons, rowsNews, List.cons_append]; exact newsSub kN' turn_in
        case ret =>
          intro nr' no' vs' h' tk' ho' hv' ap' F' N'
          k_steps
          rename Fr _ _ _ _ => lF
          obtain ⟨n'', hle, hJ⟩ := LitJ.intro (kn := kn) (depth := depth) (most := most) (R := R) (tb := tb) (z := z) (rows := ⟨rp, rpd, u1, u2, u3, v1, v2, v3, vx, tj, x, nm, j⟩ :: rs) (pss := [] :: pss') (vs := vs) (names := names) (n := n') (fs := fs ++ [cut x i j]) (fv := fv ++ [Value.str (cut x i j) tr2]) (sz := sz) (bg := bg) (nf := _) (no := no') (nr := nr') (ts := ts) (tk := tkk)
            lF hs1 hs2 hs3 rfl (.cons (show RowIs _ _ from ⟨hdrop, fun q hq => nomatch hq⟩) hrs) ⟨⟨Int.le_trans i0 hij, hjl, i2⟩, hro2⟩ hvs (strsAre_snoc hfv) ap' (by rw [flat_snoc, hcut]) hgo2 hsz0 hsz1 (by simp only [List.length_cons]; omega) (by simp only [List.length_append, List.length_singleton]; omega) ho' hv'
          exact WhileStep.intro (by k_asm) (by k_asm) (by omega) hJ
      · unfold WhileMark
        have kN' := ‹News _ _ _ ((rp, _) :: _)›
        rw [List.push_toArray] at kN'
        have hrn : rr ≠ [] := by
          rintro rfl
          rw [show flat [] = [] from rfl, List.drop_eq_nil_iff, str_len] at hdrop
          omega
        k_extra "hide"
        obtain ⟨c, wd, q, rfl⟩ := hrr.resolve_left hrn
        have j0 : 0 ≤ j := Int.le_trans i0 hij
        obtain ⟨hm1, hm2, hm3⟩ := mark_is j0 hdrop
        have hqok : PcsOk q := fun z hz => hr.2 z (List.mem_append_right _ (.tail _ hz))
        have hrvl : (rowVals rs ++ [Value.ref rp]).length ≤ 1000 := by simp only [rowVals, List.length_append, List.length_reverse, List.length_map, List.length_singleton]; omega
        obtain ⟨k, rfl⟩ : ∃ k, n' = k + 1 := by
          cases n' with
          | zero => cases hgo2
          | succ k => exact ⟨k, rfl⟩
        have hj2 : 0 ≤ j + 1 + (wd.length : Int) + 1 := by omega
        rcases hr.2 (.k c wd) (List.mem_append_right _ (.head _)) with ⟨rfl, hwd⟩ | ⟨rfl, hwd⟩
        · obtain ⟨out, how, hout⟩ := told_out hwd
          have hgo3 : go kn depth most k (q :: pss') names sz ((fs.flatMap (·.cps.toList) ++ flat (tt.map Pc.t)) ++ toldW wd) = some R := hgo2
          unfold G9
          k_dflt (refine' c_part38 (word := wd) (out := out) (tl := flat q) (sd := z.sd) (rl := z.rl) (pd := rpd) (N := pickN (pickN (pickN kN' (by kbd_text)) (Pick.tail (by kbd_text))) (Pick.tail (Pick.tail (by kbd_text)))) (hst := by k_mem) (hrl := by k_mem) (d1 := by k_ne) (d2 := by k_ne) (d3 := by k_ne) (d4 := by k_all) (d5 := by k_all) (d6 := by k_all) (hvs := hrvl) (h0 := j0) (hx := i2) (hs := hm1) (hw := how) (ret := ?_))
          intro tj2 bg2 tb2 t2 h3 tk3 F₃ N₃
          k_steps
          unfold WhileMark
          have kN2 := ‹News _ _ _ ((z.sd, _) :: (rp, _) :: _)›
          rw [List.push_toArray] at kN2
          k_dflt (refine' c_topL (z := z) (rows := ⟨rp, rpd, u1, u2, u3, v1, v2, v3, vx, tj2, x, nm, j + 1 + wd.length + 1⟩ :: rs) (vs := vs) (fv := (fv ++ [Value.str (cut x i j) tr2]) ++ [Value.str out t2]) (rest := rest) (N := ?N) (ap := hap.row rfl rfl) (hok := ⟨⟨hj2, hm3, i2⟩, hro2⟩) (hlen := by have := hro.len; simp only [List.length_cons] at this hb1; omega) (hrows := by simp only [List.length_cons] at hb1 ⊢; omega) (ret := ?ret))
          case N => simp only [LitA.news, rowVals_cons, rowsNews, List.cons_append]; exact newsSub kN2 turn_in2
          case ret =>
            intro nr' no' vs' h' tk' ho' hv' ap' F' N'
            k_steps
            rename Fr _ _ _ _ => lF
            obtain ⟨n'', hle, hJ⟩ := LitJ.intro (kn := kn) (depth := depth) (most := most) (R := R) (tb := tb) (z := z) (rows := ⟨rp, rpd, u1, u2, u3, v1, v2, v3, vx, tj2, x, nm, j + 1 + wd.length + 1⟩ :: rs) (pss := q :: pss') (vs := vs) (names := names) (n := k) (fs := (fs ++ [cut x i j]) ++ [out]) (fv := (fv ++ [Value.str (cut x i j) tr2]) ++ [Value.str out t2]) (sz := sz) (bg := bg2) (nf := _) (no := no') (nr := nr') (ts := ts) (tk := tb2)
              lF hs1 hs2 hs3 rfl (.cons (show RowIs _ _ from ⟨hm2, hqok⟩) hrs) ⟨⟨hj2, hm3, i2⟩, hro2⟩ hvs (strsAre_snoc (strsAre_snoc hfv)) ap' (by rw [flat_snoc, flat_snoc, hcut, hout]) hgo3 hsz0 hsz1 (by simp only [List.length_cons]; omega) (by simp only [List.length_append, List.length_singleton]; omega) ho' hv'
            exact WhileStep.intro (by k_asm) (by k_asm) (by omega) hJ
        · have tab2 : TabOk PySem.Challenge.pw_sm0079_01 w (rowsNews rs ++ rest) tb z.lm kvs := tab.mono (fun q hq => List.mem_append_right _ hq)
          have hlm2 : (z.lm, W.instObj 533 ld) ∈ rowsNews rs ++ rest := List.mem_append_right _ hlm
          have hld2 := List.mem_append_right (rowsNews rs) hld
          have hgm := (go_mark k wd q pss' names sz (fs.flatMap (·.cps.toList) ++ flat (tt.map Pc.t)) (kn := kn) (depth := depth) (most := most)).symm.trans hgo2
          cases hkg : knGet kn wd with
          | none =>
            rw [hkg] at hgm
            have hR1 : R = .bad 162 := (Option.some.inj hgm).symm
            unfold G9
            k_dflt (refine' c_part37n (word := wd) (tl := flat q) (sd := z.sd) (rl := z.rl) (pd := rpd) (lm := z.lm) (kvs := kvs) (N := pickN (pickN (pickN kN' (by kbd_text)) (Pick.tail (by kbd_text))) (Pick.tail (Pick.tail (by kbd_text)))) (hst := by k_mem) (hrl := by k_mem) (d1 := by k_ne) (d2 := by k_ne) (d3 := by k_ne) (d4 := by k_all) (d5 := by k_all) (d6 := by k_all) (hvs := hrvl) (h0 := j0) (hx := i2) (hs := hm1) (hok := hwd) (tab := tab2.mono (fun q hq => by k_mem)) (hv := hkn.none hkg) (thr := ?_))
            intro e' t' us' h' tk' g' F' U' R'
            k_steps
            exact thr _ _ _ _ _ _ _ hR1 (by assumption) (by assumption) (RaisedS.mono (by assumption) (fun q hq => by have hq2 := List.mem_append_right (rowsNews rs) hq; k_mem))
          | some pp =>
            rw [hkg] at hgm
            dsimp only at hgm
            obtain ⟨v, hv, ⟨ent⟩⟩ := hkn.some hkg
            have hpp := hkk _ (knGet_mem hkg)
            have hyl := textOf_len hpp.1 hpp.2
            have ent2 : EntOk (rowsNews rs ++ rest) v (textOf pp) := ent.mono (fun q hq => List.mem_append_right _ hq)
            have hvl := strsAre_len hvs
            rw [List.length_map] at hvl
            have hrl2 := hro.len
            simp only [List.length_cons, Nat.add_sub_cancel] at hrl2
            unfold G9
            k_dflt (refine' c_part37 (word := wd) (tl := flat q) (st := z.st) (sd := z.sd) (rl := z.rl) (ol := z.ol) (gx := z.gx) (g := z.g) (pd := rpd) (lm := z.lm) (ld := ld) (kvs := kvs) (y := textOf pp) (v := v) (ys := names.map pn) (vs := vs) (rv := rowVals rs) (N := newsSub kN' turn_in4) (hst := by k_mem) (hg := by k_mem) (hlm := by k_mem) (hld := by k_mem) (e1 := by k_ne) (e2 := by k_ne) (e3 := by k_ne) (e4 := by k_ne) (e5 := by k_ne) (e6 := by k_ne) (e7 := by k_ne) (e8 := by k_ne) (e9 := by k_ne) (f1 := by k_ne) (f2 := by k_ne) (f3 := by k_ne) (f4 := by k_ne) (f5 := by k_ne) (f6 := by k_ne) (r1 := by k_all) (r2 := by k_all) (r3 := by k_all) (r4 := by k_all) (r5 := by k_all) (r6 := by k_all) (hys := hvs) (hlen := Nat.le_trans hvs9 (by decide)) (hrv := hrvl) (hs0 := hsz0) (hs1 := by omega) (h0 := j0) (hx := i2) (hy := Nat.le_trans hyl (by decide)) (hs := hm1) (hok := hwd) (tab := tab2.mono (fun q hq => by k_mem)) (hv := hv) (ent := ent2.mono (fun q hq => by k_mem)) (ret := ?ret) (thr := ?thr))
            case thr =>
              intro e' t' us' h' tk' g' C' i1' F' U' R'
              have hRC : R = .bad C' := by
                rw [any_names] at i1'
                rcases i1' with ⟨hm9, rfl⟩ | ⟨hm9, hc9, rfl⟩
                · rw [if_pos (of_decide_eq_true hm9)] at hgm
                  exact (Option.some.inj hgm).symm
                · rw [if_neg (of_decide_eq_false hm9), if_pos (by rw [← hvl]; exact hc9)] at hgm
                  exact (Option.some.inj hgm).symm
              k_steps
              exact thr _ _ _ _ _ _ _ hRC (by assumption) (by assumption) (RaisedS.mono (by assumption) (fun q hq => by have hq2 := List.mem_append_right (rowsNews rs) hq; k_mem))
            case ret =>
              intro np npd x1 x2 x3 y1 y2 y3 tx2 tn2 ti2 nr2 nn2 t3 ts2 bg2 tb2 tj2 t2 h3 tk3 i1' i2' i3' i4' i5' i6' i7' F₃ N₃
              have hnm9 : wd ∉ names := by rw [any_names] at i1'; exact of_decide_eq_false i1'
              rw [if_neg hnm9, if_neg (by rw [← hvl]; omega)] at hgm
              have n1 : z.fl ≠ np := i5' (z.fl, _) (.tail _ (.tail _ (.tail _ (.head _))))
              have n2 : z.g ≠ np := i5' (z.g, _) (.tail _ (.tail _ (.tail _ (.tail _ (.head _)))))
              have n3 : z.st ≠ np := i5' (z.st, _) (.tail _ (.tail _ (.tail _ (.tail _ (.tail _ (.head _))))))
              have n4 : z.sd ≠ np := i5' (z.sd, _) (.head _)
              have n5 : rp ≠ np := i5' (rp, _) (.tail _ (.head _))
              have n6 : rpd ≠ np := i5' (rpd, _) (.tail _ (.tail _ (.head _)))
              have n7 : ∀ q ∈ rowsNews rs ++ rest, q.1 ≠ np := fun q hq => i5' q (.tail _ (.tail _ (.tail _ (.tail _ (.tail _ (.tail _ hq))))))
              have o1 : z.fl ≠ npd := i6' (z.fl, _) (.tail _ (.tail _ (.tail _ (.head _))))
              have o2 : z.g ≠ npd := i6' (z.g, _) (.tail _ (.tail _ (.tail _ (.tail _ (.head _)))))
              have o3 : z.st ≠ npd := i6' (z.st, _) (.tail _ (.tail _ (.tail _ (.tail _ (.tail _ (.head _))))))
              have o4 : z.sd ≠ npd := i6' (z.sd, _) (.head _)
              have o5 : rp ≠ npd := i6' (rp, _) (.tail _ (.head _))
              have o6 : rpd ≠ npd := i6' (rpd, _) (.tail _ (.tail _ (.head _)))
              have o7 : ∀ q ∈ rowsNews rs ++ rest, q.1 ≠ npd := fun q hq => i6' q (.tail _ (.tail _ (.tail _ (.tail _ (.tail _ (.tail _ hq))))))
              k_extra "hide"
              obtain ⟨k1', k2', k3', k4', k5', k6'⟩ := i7'
              have hj3 : 0 ≤ j + 1 + (wd.length : Int) + 1 := hj2
              have hro3 : RowsOk (⟨rp, rpd, u1, u2, u3, v1, v2, v3, vx, tj2, x, nm, j + 1 + wd.length + 1⟩ :: rs) vs.length := ⟨⟨hj3, hm3, i2⟩, hro2⟩
              have hro4 : RowsOk (⟨np, npd, x1, x2, x3, y1, y2, y3, tx2, ti2, textOf pp, .str (pn wd) tn2, 0⟩ :: ⟨rp, rpd, u1, u2, u3, v1, v2, v3, vx, tj2, x, nm, j + 1 + wd.length + 1⟩ :: rs) (vs ++ [Value.str (pn wd) t3]).length :=
                ⟨⟨Int.le_refl _, Int.natCast_nonneg _, Nat.le_trans hyl (by decide)⟩, .inr ⟨List.cons_ne_nil _ _, ⟨_, _, rfl⟩, vs.length, by simp, hro3⟩⟩
              have hap3 : z.Apart (⟨np, npd, x1, x2, x3, y1, y2, y3, tx2, ti2, textOf pp, .str (pn wd) tn2, 0⟩ :: ⟨rp, rpd, u1, u2, u3, v1, v2, v3, vx, tj2, x, nm, j + 1 + wd.length + 1⟩ :: rs) rest := by
                refine (hap.row (r' := ⟨rp, rpd, u1, u2, u3, v1, v2, v3, vx, tj2, x, nm, j + 1 + wd.length + 1⟩) rfl rfl).push i4' ?_ ?_ ?_
                · exact ⟨⟨n1, k3', k1', k5', n2, n4, n3⟩, ⟨o1, k4', k2', k6', o2, o4, o3⟩⟩
                · exact fun q hq => by
                    rcases List.mem_cons.mp hq with rfl | hq
                    · exact n5
                    · rcases List.mem_cons.mp hq with rfl | hq
                      · exact n6
                      · exact n7 q hq
                · exact fun q hq => by
                    rcases List.mem_cons.mp hq with rfl | hq
                    · exact o5
                    · rcases List.mem_cons.mp hq with rfl | hq
                      · exact o6
                      · exact o7 q hq
              unfold G9
              k_steps
              unfold WhileMark
              have kN2 := ‹News _ _ _ ((np, _) :: (npd, _) :: _)›
              rw [List.push_toArray] at kN2
              k_dflt (refine' c_topL (z := z) (rows := ⟨np, npd, x1, x2, x3, y1, y2, y3, tx2, ti2, textOf pp, .str (pn wd) tn2, 0⟩ :: ⟨rp, rpd, u1, u2, u3, v1, v2, v3, vx, tj2, x, nm, j + 1 + wd.length + 1⟩ :: rs) (vs := vs ++ [Value.str (pn wd) t3]) (fv := (fv ++ [Value.str (cut x i j) tr2]) ++ [Value.str (Str.ofString "") t2]) (rest := rest) (N := ?N) (ap := hap3) (hok := hro4) (hlen := by rw [List.length_append, List.length_singleton]; exact Nat.le_trans (Nat.succ_le_succ hvs9) (by decide)) (hrows := by simp only [List.length_cons]; omega) (ret := ?ret))
              case N => simp only [LitA.news, rowVals_cons, rowsNews, List.cons_append]; exact newsSub kN2 turn_in3
              case ret =>
                intro nr' no' vs' h' tk' ho' hv' ap' F' N'
                k_steps
                rename Fr _ _ _ _ => lF
                obtain ⟨n'', hle, hJ⟩ := LitJ.intro (kn := kn) (depth := depth) (most := most) (R := R) (tb := tb) (z := z) (rows := ⟨np, npd, x1, x2, x3, y1, y2, y3, tx2, ti2, textOf pp, .str (pn wd) tn2, 0⟩ :: ⟨rp, rpd, u1, u2, u3, v1, v2, v3, vx, tj2, x, nm, j + 1 + wd.length + 1⟩ :: rs) (pss := pcsOf sgA pp :: q :: pss') (vs := vs ++ [Value.str (pn wd) t3]) (names := names ++ [wd]) (n := k) (fs := (fs ++ [cut x i j]) ++ [Str.ofString ""]) (fv := (fv ++ [Value.str (cut x i j) tr2]) ++ [Value.str (Str.ofString "") t2]) (sz := sz + (textOf pp).length) (bg := bg2) (nf := _) (no := no') (nr := nr') (ts := ts2) (tk := tb2)
                  lF hs1 hs2 hs3 rfl (.cons (show RowIs _ _ from ⟨flat_pcsOf flat_sgA hpp.1, pcsOf_ok (.inl rfl) hpp.1⟩) (.cons (show RowIs _ _ from ⟨hm2, hqok⟩) hrs)) hro4 (by rw [List.map_append]; exact strsAre_snoc hvs) (strsAre_snoc (strsAre_snoc hfv)) ap' (by rw [flat_snoc, flat_snoc, hcut, nil_list, List.append_nil]) hgm (by omega) (by omega) (by simp only [List.length_cons]; omega) (by simp only [List.length_append, List.length_singleton]; omega) ho' hv'
                exact WhileStep.intro (by k_asm) (by k_asm) (by omega) hJ
end
end
section
theorem kw36 : True := by
  k_with_none
  k_with "k_all" => (first | with_reducible assumption | exact List.forall_mem_nil _ | exact allNe (by with_reducible assumption) | (refine' List.forall_mem_cons.mpr ⟨?q1a, ?q1b⟩; (case q1a => k_ne); (case q1b => k_all)) | exact subNe (by with_reducible assumption) (fun q hq => by kbo_some) | exact subNeT (by with_reducible assumption) (by with_reducible assumption) (fun q hq => by kbo_some) | exact subNeQ (by with_reducible assumption) (fun q hq => by kbo_some) | assumption)
  k_with "kbo_some" => (first | with_reducible assumption | exact List.Mem.head _ | (refine' List.mem_cons_of_mem _ ?_; kbo_some) | ((with_reducible refine List.mem_append.mpr (Or.inr ?_)); kbo_some))
  k_with "k_mem" => (first | kbo_some | assumption)
  k_with "k_upd" => (first | (refine' Upd.head ?q4a; (case q4a => k_all)) | (refine' Upd.tail ?q4a ?q4b; (case q4a => k_ne); (case q4b => k_upd)))
  k_with "k_updF" => (first | (refine' UpdF.head ?q5a; (case q5a => k_all)) | (refine' UpdF.tail ?q5a ?q5b; (case q5a => k_ne); (case q5b => k_updF)))
  k_with "k_ne" => (((try dsimp only); first | with_reducible assumption | (refine Ne.symm ?_; with_reducible assumption) | (refine Nat.ne_of_gt ?_; with_reducible assumption) | (refine Nat.ne_of_lt ?_; with_reducible assumption) | (refine neR (by with_reducible assumption) ?_; k_extra "has") | (refine neL (by with_reducible assumption) ?_; k_extra "has") | (refine neQ (by with_reducible assumption) ?_; k_extra "has") | (refine neP (by with_reducible assumption) ?_; k_extra "has") | (refine neT (by with_reducible assumption) (by with_reducible assumption) ?_; k_extra "has") | (refine neU (by with_reducible assumption) (by with_reducible assumption) ?_; k_extra "has") | exact Nat.ne_of_lt (Nat.lt_succ_self _) | exact Nat.ne_of_gt (Nat.lt_succ_self _) | omega))
  k_with "k_enter" => (first
  | (refine' code_def ?q7k1 ?q7k2 ?q7k3 ?q7k4 ?q7k5 ?q7kA ?q7kF ?q7kK ?q7k6 ?q7k7 ?q7k8 ?q7k9 ?q7kB ?_ ?q7c2 ?q7c3 ?q7c4 ?q7c5; (case q7kA => exact rfl); (case q7kF => exact rfl); (case q7kK => first | exact rfl | assumption); (case q7k1 => k_asm); (case q7k2 => k_asm); (case q7k3 => k_asm); (case q7k4 => k_asm); (case q7k5 => k_asm); (case q7k6 => k_is); (case q7k7 => k_is); (case q7k8 => ktr_room); (case q7k9 => first | exact BindsTo.of_eq rfl | exact binds_K (by k_in) rfl (by k_is) rfl rfl rfl); (case q7c5 => decide); (case q7kB => exact locs rfl); (case q7c2 => exact rfl); (case q7c3 => exact rfl); (case q7c4 => exact rfl); k_whole; intro g'z L'z h'z FG'z F'z N'z B'z X'z T'z; (try dsimp only); (try k_fold); (try (refine letA ?_; intro A9)))
  | (refine' code_defC ?q7k1 ?q7k2 ?q7k3 ?q7k4 ?q7k5 ?q7kA ?q7kF ?q7kK ?q7k6 ?q7k7 ?q7k8 ?q7k9 ?q7kB ?q7kD ?_ ?q7c2 ?q7c3 ?q7c4; (case q7kA => exact rfl); (case q7kF => exact rfl); (case q7kK => first | exact rfl | assumption); (case q7k1 => k_asm); (case q7k2 => k_asm); (case q7k3 => k_asm); (case q7k4 => k_asm); (case q7k5 => k_asm); (case q7k6 => k_is); (case q7k7 => k_is); (case q7k8 => ktr_room); (case q7k9 => first | exact BindsTo.of_eq rfl | exact binds_K (by k_in) rfl (by k_is) rfl rfl rfl); (case q7kB => exact rfl); (case q7kD => decide +kernel); (case q7c2 => exact rfl); (case q7c3 => exact rfl); (case q7c4 => exact rfl); k_whole; intro g'z L'z h'z tk'z cells'z FG'z F'z N'z Y'z B'z X'z T'z l1; (try k_lt l1); (try (have hR6 := restNe l1 (Nat.le_add_right _ 1); have hR5 := restNe l1 (Nat.le_add_right _ (1 + 1)))); (first   | (have hY := CellsAre.one Y'z; obtain ⟨o'z, hE'z, d1'z⟩ := hY; subst hE'z; clear Y'z; (first | (replace d1'z : o'z.data = .cell none := d1'z) | (replace d1'z : o'z.data = .cell (some _) := d1'z) | skip))   | (have hY := CellsAre.two Y'z; obtain ⟨o'z, o2'z, hE'z, d1'z, d2'z⟩ := hY; subst hE'z; clear Y'z; (first | (replace d1'z : o'z.data = .cell none := d1'z) | (replace d1'z : o'z.data = .cell (some _) := d1'z) | skip); (first | (replace d2'z : o2'z.data = .cell none := d2'z) | (replace d2'z : o2'z.data = .cell (some _) := d2'z) | skip))); (try simp only [List.cons_append, List.nil_append] at N'z); (try dsimp only); (try k_fold); (try (refine letA ?_; intro A9))))
  k_with "ktr_room" => (((try simp +zetaDelta only [depth_deeper, depth_in1, depth_mark, depth_under_make, depth_under_kw]); (try dsimp only [ktrTop]); (try simp only [Nat.add_assoc, Nat.reduceAdd]); refine Nat.lt_of_le_of_lt (Nat.add_le_add_left ?_ _) (by with_reducible assumption); decide))
  k_with "ktr_units" => (((try simp +zetaDelta only [units_deeper, units_in1, Around.mark_units]); (try dsimp only [ktrTop]); (try simp only [Nat.add_assoc, Nat.reduceAdd]); refine Nat.lt_of_le_of_lt (Nat.add_le_add_left ?_ _) (by with_reducible assumption); decide))
  k_with "kbd_text" => (first | exact Pick.head | (apply Pick.tail; kbd_text))
  k_with "hide" => ((refine hideG ?_; intro G9))
  k_with "has" => (first | with_reducible exact Has.head | (refine Has.tail ?_; k_extra "has"))
  k_with "lt" => (first | with_reducible assumption | (refine Has.lt (by with_reducible assumption) ?_; k_extra "has") | (refine ltT (by with_reducible assumption) (by with_reducible assumption) ?_; k_extra "has"))
  k_with "ltAll" => (first | with_reducible assumption | exact allLt_mem (by with_reducible assumption) | exact subLt (by with_reducible assumption) (fun q hq => by kbo_some))
  k_with "FinE" => (((unfold LCg.FinE); intro D'z h'z tk'z F'z N'z o1'z; (have hR8 := off1_ne o1'z); (try simp only [List.nil_append, List.cons_append] at N'z); (try dsimp only)))
  k_with "lcg_off" => (first | exact True.intro | with_reducible assumption | (refine And.intro ⟨by k_ne, by k_ne, by k_ne⟩ ?_; lcg_off))
  k_with "CompEnd" => ((k_here; k_dflt (refine' compEndP ?q17f ?q17n ?q17p1 ?q17p2 ?q17p3 ?q17o ?q17s ?_; (case q17f => k_asm); (case q17n => k_asm); (case q17p1 => kbd_text); (case q17p2 => kbd_text); (case q17p3 => kbd_text); (case q17o => lcg_off); (case q17s => lcg_src); k_whole)))
  k_with "kbd_text" => (((with_reducible show Split _ _ _); first | exact Split.nil | (apply Split.cons; kbd_text)))
  k_with "exec While BoolOp cons nil" => ((k_here; refine while_mark ?_))
  k_with "exec While Compare cons nil" => ((k_here; refine while_mark ?_))
  k_with "subscriptTail Attribute" => ((k_here; k_dflt (refine kba_turn (value' := PySem.Expr.Name (PySem.Str.ofString "_") ⟨0, 0, 0, 0⟩) (fun _ => rfl) ?_)))
  k_with "ite" => ((k_closed; k_dflt (first | rw [if_pos (by decide)] | rw [if_neg (by decide)])))
  k_with "k_in" => (first | with_reducible assumption | exact Frag.In.keeps (by with_reducible assumption) (Fr.keep (by with_reducible assumption)))
  k_with "execs nil" => ((k_here; refine wpAny_execs_nil ?_))
  k_with "execs cons" => ((k_here; refine wpAny_execs_cons ?_))
  k_with "exec If" => ((k_here; refine wpAny_If ?_))
  trivial
abbrev stKvs (kd ol : Addr) (depth most sz dpt : Int) (t1 t2 t3 t4 : Tok) (fv : Value) : List (Str × Value) :=
  [(Str.ofString "known", .ref kd), (Str.ofString "depth", .int depth t1), (Str.ofString "most", .int most t2), (Str.ofString "open", .ref ol), (Str.ofString "size", .int sz t3), (Str.ofString "deepest", .int dpt t4), (Str.ofString "fault", fv)]
def faultW (C : Addr) : Str := if C = 162 then Str.ofString "entity" else Str.ofString "limit"
/-- what is known, as the ledger has it: a dict from names to lists of parts -/
structure KnLaw (prog : Program) (w : World) (news : List (Addr × Obj)) (kd : Addr) (kn : Known) where
  ko : Obj
  kkvs : List (Str × Value)
  mko : (kd, ko) ∈ news
  isd : ko.IsDictOf (PySem.strKind prog w) kkvs
  low : (kd == sysModules) = false
  get : ∀ n, match knGet kn n with | none => valueAt kkvs n = none | some ps => ∃ l us nl, valueAt kkvs n = some (.ref l) ∧ (l, W.listOf us.toArray nl) ∈ news ∧ PartsAre news us ps ∧ us.length ≤ 3
def PartsUp (news : List (Addr × Obj)) (us : List Value) (ps : List Part) : Prop := ∀ l', (∀ q ∈ news, q ∈ l') → PartsAre l' us ps
theorem PartsUp.at {news l' : List (Addr × Obj)} {us : List Value} {ps : List Part} (h : PartsUp news us ps) (k : ∀ q ∈ news, q ∈ l') : PartsAre l' us ps := h l' k
theorem PartsAre.up {news : List (Addr × Obj)} {us : List Value} {ps : List Part} (h : PartsAre news us ps) : PartsUp news us ps := fun _ k => h.mono k
/-- what the two functions of the law give back -/
def LedBack (r : Led) (v fv fv' : Value) : Prop :=
  (∃ t tk, r.out = .ok t ∧ v = .str ⟨t.toArray⟩ tk ∧ fv' = fv) ∨ (∃ C tk, r.out = .error C ∧ v = .none ∧ fv' = .str (faultW C) tk)
def LedSpec (kn : Known) (depth most : Int) (f : Nat) : Prop :=
  ∀ (w : World) (vw : Program) (loose : List Str) (mean : ExcName → Option Value) (mg mb : Str → Option Value) (dp un : Nat) (gd : Option (List Code)) (cn : Str) (cs : Scope) (a : Addr) (ccd : Value) (cl : List (Str × Addr)) (outer : List Env) (A₀ : Around) (base h₀ : Heap) (L : Addr) (m : Str → Option Value) (s : Shared) (Q E : Value → Shared → Prop) (rest : List (Addr × Obj))
    (sd ol kd pl : Addr) (so : Obj) (us vs : List Value) (ps : List Part) (ys : List Str) (npl no : Nat) (sz dpt : Int) (t1 t2 t3 t4 : Tok) (fv : Value),
    Below A₀ base outer h₀ → Fr h₀ L s.heap m → (Mine.k0.heap_1 w.params).In h₀ → Top vw loose mean mg mb h₀ → cs.kind = .function →
    News h₀ L s.heap ((sd, so) :: (ol, W.listOf vs.toArray no) :: rest) → so.IsDictOf (PySem.strKind PySem.Challenge.pw_sm0079_01 w) (stKvs kd ol depth most sz dpt t1 t2 t3 t4 fv) → (sd == sysModules) = false →
    KnLaw PySem.Challenge.pw_sm0079_01 w rest kd kn → (pl, W.listOf us.toArray npl) ∈ rest → PartsAre rest us ps → us.length ≤ 3 →
    sd ≠ ol → (∀ q ∈ rest, q.1 ≠ sd) → (∀ q ∈ rest, q.1 ≠ ol) → StrsAre vs ys → vs.length + f ≤ 10 → free kn ys ≤ f → 0 ≤ sz → sz ≤ 3000 →
    dp + (12 * f + 14) < recursionLimit → un + 40 * (12 * f + 14) < cLine →
    (∀ v so' no' t3' t4' fv' h' tk', LedBack (ledW (opened kn depth most f) ps ys sz dpt []) v fv fv' → Fr h₀ L h' m → News h₀ L h' ((sd, so') :: (ol, W.listOf vs.toArray no') :: rest) →
      so'.IsDictOf (PySem.strKind PySem.Challenge.pw_sm0079_01 w) (stKvs kd ol depth most (ledW (opened kn depth most f) ps ys sz dpt []).sz (ledW (opened kn depth most f) ps ys sz dpt []).dp t1 t2 t3' t4' fv') → Q v { s with heap := h', toks := tk' }) →
    wpAny (model PySem.Challenge.pw_sm0079_01 w) (ktrTop dp un gd cn cs L a ccd cl outer) (call (.ref 717) [.ref pl, .ref sd]) Q E s
section
variable {prog : Program} {w : World} {A : Around} {E : Value → Shared → Prop} {s : Shared} {Q : Value → Shared → Prop}
theorem my_len_str {x : Str} {t : Tok} (hx : x.length ≤ 1000) (h : ∀ t' k, Q (.int x.length t') { s with toks := k }) : wpAny (model prog w) A (call (.builtin "len") [.str x t]) Q E s :=
  len_str (by omega) (h _ _)
end
end
section
theorem in_list_b {prog : Program} {w : World} {A : Around} {E : Value → Shared → Prop} {s : Shared} {l : Addr} {vs : List Value} {ys : List Str} {k : Str} {t : Tok} {b : Bool} {Q : Value → Shared → Prop} (hl : s.heap.IsList l vs.toArray) (hi : StrsAre vs ys) (e : ys.any (· == k) = b)
    (h : Q (.bool b) s) : wpAny (model prog w) A (compareOp .In (.str k t) (.ref l)) Q E s := in_list_strs hl hi (e ▸ h)
section
theorem kw37 : True := by
  k_with "compareOp NotIn str ref" => ((k_here; refine while_mark ?_))
  k_with "compareOp In str ref" => ((k_here; refine while_mark ?_))
  k_with "subscriptTail Name" => ((k_here; (with_reducible show wpAny _ _ (subscriptTail _ _ (Value.ref _) (Value.str _ _)) _ _ _); k_dflt (first
  | refine kda_item (knd := PySem.strKind _ _) (by k_asm) (by k_mem) (by with_reducible assumption) (strKind_is _ _ _ _) (by with_reducible assumption) ?_
  | refine kda_item (knd := PySem.strKind _ _) (by k_asm) (by k_mem) (by with_reducible assumption) (strKind_is _ _ _ _) (by rfl) ?_)))
  k_with "setItem ref str" => ((k_here; k_dflt (refine' kda_set (knd := PySem.strKind _ _) ?q136F ?q136N ?q136U ?q136d (strKind_is _ _ _ _) ?q136z ?_; (case q136F => k_asm); (case q136N => k_asm); (case q136U => k_updF); (case q136d => with_reducible assumption); (case q136z => rw [sizeLine_eq]; exact Nat.le_of_ble_eq_true (by with_unfolding_all rfl))); intro h'z o'z F'z N'z hd'z; (try dsimp only at N'z); (replace hd'z : Obj.IsDictOf _ _ (stKvs _ _ _ _ _ _ _ _ _ _ _) := hd'z)))
  k_with "call builtin:len" => ((k_here; first
  | ((with_reducible show wpAny _ _ (call (Value.builtin "len") [Value.ref _]) _ _ _); k_dflt (refine' my_len_list ?q137n ?q137m ?q137z ?_; (case q137n => k_asm); (case q137m => k_mem); (case q137z => first | assumption | decide | omega); k_whole); intro t'z k'z)
  | ((with_reducible show wpAny _ _ (call (Value.builtin "len") [Value.str _ _]) _ _ _); k_dflt (refine' my_len_str ?q137z ?_; (case q137z => assumption); k_whole); intro t'z k'z)))
  k_with "call ref" => (((k_here; (with_reducible show wpAny _ _ (call (Value.ref 710) _) _ _ _); k_dflt (refine' c_written (N := by k_asm) (hm := by k_mem) (hp := PartsUp.at (by assumption) (fun q hq => by k_mem)) (hlen := by assumption) (hmk := by decide) (hsg := by decide) (ret := fun t'z h'z tk'z F'z N'z => ?_); k_whole)); (try dsimp only)))
  k_with "call ref" => ((k_here; (with_reducible show wpAny _ _ (call (Value.ref 717) _) _ _ _); refine while_mark ?_))
  k_with "call builtin:list.pop" => ((k_here; k_dflt (refine' kl_pop (by assumption) (by assumption) (last_snoc _ _) ?q140u ?q140z ?_; (case q140u => k_upd); (case q140z => exact pop_room (by first | assumption | omega)); k_whole); intro h'z F'z N'z))
  trivial
theorem c_opened {w : World} {vw : Program} {loose : List Str} {mean : ExcName → Option Value} {mg mb : Str → Option Value} {dp un : Nat} {gd : Option (List Code)} {cn : Str} {cs : Scope} {a : Addr} {ccd : Value} {cl : List (Str × Addr)} {outer : List Env} {A₀ : Around} {base h₀ : Heap} {L : Addr} {m : Str → Option Value} {s : Shared} {Q E : Value → Shared → Prop} {rest : List (Addr × Obj)} {kn : Known} {depth most : Int} {f : Nat} (ih : ∀ k, f = k + 1 → LedSpec kn depth most k) (hkk : KnownOk kn)
    {sd ol kd : Addr} {so : Obj} {vs : List Value} {ys : List Str} {no : Nat} {sz dpt : Int} {t1 t2 t3 t4 tn : Tok} {fv : Value} {nm : Str}
    (B : Below A₀ base outer h₀ := by k_asm) (F : Fr h₀ L s.heap m := by k_asm) (X : (Mine.k0.heap_1 w.params).In h₀ := by k_asm) (T : Top vw loose mean mg mb h₀ := by k_asm) (hk : cs.kind = .function := by exact rfl) (N : News h₀ L s.heap ((sd, so) :: (ol, W.listOf vs.toArray no) :: rest)) (hso : so.IsDictOf (PySem.strKind PySem.Challenge.pw_sm0079_01 w) (stKvs kd ol depth most sz dpt t1 t2 t3 t4 fv)) (low : (sd == sysModules) = false)
    (kl : KnLaw PySem.Challenge.pw_sm0079_01 w rest kd kn) (d1 : sd ≠ ol) (d2 : ∀ q ∈ rest, q.1 ≠ sd) (d3 : ∀ q ∈ rest, q.1 ≠ ol) (hys : StrsAre vs ys) (hlen : vs.length + f ≤ 10) (hfree : free kn ys ≤ f) (hs0 : 0 ≤ sz) (hs1 : sz ≤ 3000) (hmo : most ≤ 3000)
    (hdp : dp + (12 * f + 6) < recursionLimit) (hu : un + 40 * (12 * f + 6) < cLine)
    (ret : ∀ v so' no' t3' t4' fv' h' tk', LedBack (opened kn depth most f nm ys sz dpt) v fv fv' → Fr h₀ L h' m → News h₀ L h' ((sd, so') :: (ol, W.listOf vs.toArray no') :: rest) →
      so'.IsDictOf (PySem.strKind PySem.Challenge.pw_sm0079_01 w) (stKvs kd ol depth most (opened kn depth most f nm ys sz dpt).sz (opened kn depth most f nm ys sz dpt).dp t1 t2 t3' t4' fv') → Q v { s with heap := h', toks := tk' }) :
    wpAny (model PySem.Challenge.pw_sm0079_01 w) (ktrTop dp un gd cn cs L a ccd cl outer) (call (.ref 724) [.str nm tn, .ref sd]) Q E s := by
  k_extra "hide"
  obtain ⟨ko, kkvs, mk, isd, klow, get⟩ := kl
  unfold G9
  have hl10 : vs.length ≤ 10 := by omega
  have hl : vs.length ≤ 1000 := by omega
  have hdp2 : dp + 6 < recursionLimit := by omega
  have hu2 : un + 240 < cLine := by omega
  have g := get nm
  unfold opened at ret
  refine wpAny_call ?_
  k_dflt k_enter
  k_steps
  unfold WhileMark
  cases hg : knGet kn nm with
  | none =>
    rw [hg] at g ret
    dsimp only at g ret
    k_dflt (refine kdg_notin (knd := PySem.strKind _ _) (by k_asm) (by k_mem) (by with_reducible assumption) (by with_reducible assumption) (strKind_is _ _ _ _) false (by rw [g]; rfl) ?_)
    k_steps
    all_goals (try k_data)
    exact ret _ _ _ _ _ _ _ _ (.inr ⟨162, _, rfl, rfl, rfl⟩) (by assumption) (by assumption) (by assumption)
  | some qs =>
    rw [hg] at g ret
    dsimp only at g ret
    k_extra "hide"
    obtain ⟨l, us, nl, gv, gl, gp, gu⟩ := g
    unfold G9
    have gup := gp.up
    have hqk := hkk _ (knGet_mem hg)
    have hwl : (written (Str.ofString "%") (Str.ofString "A") qs).length ≤ 1000 := by
      have := written_len (mark := Str.ofString "%") (sign := Str.ofString "A") (by decide) (by decide) (ps := qs) hqk.1
      have h3 : qs.length ≤ 3 := hqk.2
      omega
    k_dflt (refine kdg_notin (knd := PySem.strKind _ _) (by k_asm) (by k_mem) (by with_reducible assumption) (by with_reducible assumption) (strKind_is _ _ _ _) true (by rw [gv]; rfl) ?_)
    k_steps
    unfold WhileMark
    by_cases c1 : nm ∈ ys
    · have hany : ys.any (· == nm) = true := List.any_eq_true.mpr ⟨nm, c1, by simp⟩
      rw [if_pos c1] at ret
      refine in_list_b (News.isList (by k_asm) (by k_mem)) (by assumption) hany ?_
      k_steps
      all_goals (try k_data)
      · exact ret _ _ _ _ _ _ _ _ (.inr ⟨162, _, rfl, rfl, rfl⟩) (by assumption) (by assumption) (by assumption)
    · have hany : ys.any (· == nm) = false := Bool.eq_false_iff.mpr (fun h => by
        k_extra "hide"
        obtain ⟨y, hy, e⟩ := List.any_eq_true.mp h
        unfold G9
        exact c1 (eq_of_beq e ▸ hy))
      rw [if_neg c1] at ret
      refine in_list_b (News.isList (by k_asm) (by k_mem)) (by assumption) hany ?_
      k_steps
      all_goals (try k_data)
      all_goals (have hyl := strsAre_len hys)
      all_goals (have hmax : (if (vs.length : Int) + 1 > dpt then (vs.length : Int) + 1 else dpt) = max dpt ((ys.length : Int) + 1) := by rw [hyl, Int.max_def]; split <;> split <;> omega)
      · rw [if_pos (.inl (by rw [← hyl]; assumption))] at ret
        dsimp only at ret
        rw [← hmax] at ret
        exact ret _ _ _ _ _ _ _ _ (.inr ⟨174, _, rfl, rfl, rfl⟩) (by assumption) (by assumption) (by assumption)
      · rw [if_pos (.inr (by assumption))] at ret
        dsimp only at ret
        rw [← hmax] at ret
        exact ret _ _ _ _ _ _ _ _ (.inr ⟨174, _, rfl, rfl, rfl⟩) (by assumption) (by assumption) (by assumption)
      · unfold WhileMark
        have c2 : ¬ (depth ≤ (ys.length : Int) ∨ most < sz + ((textOf qs).length : Int)) := by rw [← hyl]; exact fun h => h.elim (by assumption) (by assumption)
        have hfl := free_lt hg c1
        obtain ⟨k, rfl⟩ : ∃ k, f = k + 1 := ⟨f - 1, by omega⟩
        rw [if_neg c2] at ret
        dsimp only at ret
        rw [← hmax] at ret
        k_dflt (refine' (ih k rfl) w vw loose mean mg mb _ _ _ _ _ _ _ _ _ _ _ _ _ _ _ _ _ rest sd ol kd l _ us (vs ++ [Value.str nm _]) qs (ys ++ [nm]) nl _ _ _ t1 t2 _ _ fv ?B ?F ?X ?T ?hk ?N ?so low ⟨ko, kkvs, mk, isd, klow, get⟩ gl gp gu d1 d2 d3 (strsAre_snoc hys) ?h1 ?h2 ?h3 ?h4 ?rd ?ru ?ret)
        case B => k_asm
        case F => k_asm
        case X => k_asm
        case T => k_asm
        case hk => exact rfl
        case N => k_asm
        case so => assumption
        case h1 => simp only [List.length_append, List.length_singleton]; omega
        case h2 => omega
        case h3 => omega
        case h4 => omega
        case rd => (try simp only [depth_deeper, depth_in1, depth_mark]); (try dsimp only [ktrTop]); omega
        case ru => (try simp only [units_deeper, units_in1, Around.mark_units]); (try dsimp only [ktrTop]); omega
        case ret =>
          intro v so2 no2 t3b t4b fv2 h2 tk2 hLB F2 N2 hso2
          k_steps
          all_goals (try k_data)
          exact ret _ _ _ _ _ _ _ _ hLB (by assumption) (pickN (by assumption) (by kbd_text)) (by assumption)
end
end
section
section
variable {prog : Program} {w : World} {A : Around} {E : Value → Shared → Prop} {h₀ : Heap} {env : Env} {body : List Stmt} {x : Str} {Q : Flow → Shared → Prop} {s : Shared} {I : Addr} {lp : Addr × Obj}
theorem kw38 : True := by
  k_with_none
  k_with "k_all" => (first | with_reducible assumption | exact List.forall_mem_nil _ | exact allNe (by with_reducible assumption) | (refine' List.forall_mem_cons.mpr ⟨?q1a, ?q1b⟩; (case q1a => k_ne); (case q1b => k_all)) | exact subNe (by with_reducible assumption) (fun q hq => by kbo_some) | exact subNeT (by with_reducible assumption) (by with_reducible assumption) (fun q hq => by kbo_some) | exact subNeQ (by with_reducible assumption) (fun q hq => by kbo_some) | assumption)
  k_with "kbo_some" => (first | with_reducible assumption | exact List.Mem.head _ | (refine' List.mem_cons_of_mem _ ?_; kbo_some) | ((with_reducible refine List.mem_append.mpr (Or.inr ?_)); kbo_some))
  k_with "k_mem" => (first | kbo_some | assumption)
  k_with "k_upd" => (first | (refine' Upd.head ?q4a; (case q4a => k_all)) | (refine' Upd.tail ?q4a ?q4b; (case q4a => k_ne); (case q4b => k_upd)))
  k_with "k_updF" => (first | (refine' UpdF.head ?q5a; (case q5a => k_all)) | (refine' UpdF.tail ?q5a ?q5b; (case q5a => k_ne); (case q5b => k_updF)))
  k_with "k_ne" => (((try dsimp only); first | with_reducible assumption | (refine Ne.symm ?_; with_reducible assumption) | (refine Nat.ne_of_gt ?_; with_reducible assumption) | (refine Nat.ne_of_lt ?_; with_reducible assumption) | (refine neR (by with_reducible assumption) ?_; k_extra "has") | (refine neL (by with_reducible assumption) ?_; k_extra "has") | (refine neQ (by with_reducible assumption) ?_; k_extra "has") | (refine neP (by with_reducible assumption) ?_; k_extra "has") | (refine neT (by with_reducible assumption) (by with_reducible assumption) ?_; k_extra "has") | (refine neU (by with_reducible assumption) (by with_reducible assumption) ?_; k_extra "has") | exact Nat.ne_of_lt (Nat.lt_succ_self _) | exact Nat.ne_of_gt (Nat.lt_succ_self _) | omega))
  k_with "k_enter" => (first
  | (refine' code_def ?q7k1 ?q7k2 ?q7k3 ?q7k4 ?q7k5 ?q7kA ?q7kF ?q7kK ?q7k6 ?q7k7 ?q7k8 ?q7k9 ?q7kB ?_ ?q7c2 ?q7c3 ?q7c4 ?q7c5; (case q7kA => exact rfl); (case q7kF => exact rfl); (case q7kK => first | exact rfl | assumption); (case q7k1 => k_asm); (case q7k2 => k_asm); (case q7k3 => k_asm); (case q7k4 => k_asm); (case q7k5 => k_asm); (case q7k6 => k_is); (case q7k7 => k_is); (case q7k8 => ktr_room); (case q7k9 => first | exact BindsTo.of_eq rfl | exact binds_K (by k_in) rfl (by k_is) rfl rfl rfl); (case q7c5 => decide); (case q7kB => exact locs rfl); (case q7c2 => exact rfl); (case q7c3 => exact rfl); (case q7c4 => exact rfl); k_whole; intro g'z L'z h'z FG'z F'z N'z B'z X'z T'z; (try dsimp only); (try k_fold); (try (refine letA ?_; intro A9)))
  | (refine' code_defC ?q7k1 ?q7k2 ?q7k3 ?q7k4 ?q7k5 ?q7kA ?q7kF ?q7kK ?q7k6 ?q7k7 ?q7k8 ?q7k9 ?q7kB ?q7kD ?_ ?q7c2 ?q7c3 ?q7c4; (case q7kA => exact rfl); (case q7kF => exact rfl); (case q7kK => first | exact rfl | assumption); (case q7k1 => k_asm); (case q7k2 => k_asm); (case q7k3 => k_asm); (case q7k4 => k_asm); (case q7k5 => k_asm); (case q7k6 => k_is); (case q7k7 => k_is); (case q7k8 => ktr_room); (case q7k9 => first | exact BindsTo.of_eq rfl | exact binds_K (by k_in) rfl (by k_is) rfl rfl rfl); (case q7kB => exact rfl); (case q7kD => decide +kernel); (case q7c2 => exact rfl); (case q7c3 => exact rfl); (case q7c4 => exact rfl); k_whole; intro g'z L'z h'z tk'z cells'z FG'z F'z N'z Y'z B'z X'z T'z l1; (try k_lt l1); (try (have hR6 := restNe l1 (Nat.le_add_right _ 1); have hR5 := restNe l1 (Nat.le_add_right _ (1 + 1)))); (first   | (have hY := CellsAre.one Y'z; obtain ⟨o'z, hE'z, d1'z⟩ := hY; subst hE'z; clear Y'z; (first | (replace d1'z : o'z.data = .cell none := d1'z) | (replace d1'z : o'z.data = .cell (some _) := d1'z) | skip))   | (have hY := CellsAre.two Y'z; obtain ⟨o'z, o2'z, hE'z, d1'z, d2'z⟩ := hY; subst hE'z; clear Y'z; (first | (replace d1'z : o'z.data = .cell none := d1'z) | (replace d1'z : o'z.data = .cell (some _) := d1'z) | skip); (first | (replace d2'z : o2'z.data = .cell none := d2'z) | (replace d2'z : o2'z.data = .cell (some _) := d2'z) | skip))); (try simp only [List.cons_append, List.nil_append] at N'z); (try dsimp only); (try k_fold); (try (refine letA ?_; intro A9))))
  k_with "ktr_room" => (((try simp +zetaDelta only [depth_deeper, depth_in1, depth_mark, depth_under_make, depth_under_kw]); (try dsimp only [ktrTop]); (try simp only [Nat.add_assoc, Nat.reduceAdd]); refine Nat.lt_of_le_of_lt (Nat.add_le_add_left ?_ _) (by with_reducible assumption); decide))
  k_with "ktr_units" => (((try simp +zetaDelta only [units_deeper, units_in1, Around.mark_units]); (try dsimp only [ktrTop]); (try simp only [Nat.add_assoc, Nat.reduceAdd]); refine Nat.lt_of_le_of_lt (Nat.add_le_add_left ?_ _) (by with_reducible assumption); decide))
  k_with "kbd_text" => (first | exact Pick.head | (apply Pick.tail; kbd_text))
  k_with "hide" => ((refine hideG ?_; intro G9))
  k_with "has" => (first | with_reducible exact Has.head | (refine Has.tail ?_; k_extra "has"))
  k_with "lt" => (first | with_reducible assumption | (refine Has.lt (by with_reducible assumption) ?_; k_extra "has") | (refine ltT (by with_reducible assumption) (by with_reducible assumption) ?_; k_extra "has"))
  k_with "ltAll" => (first | with_reducible assumption | exact allLt_mem (by with_reducible assumption) | exact subLt (by with_reducible assumption) (fun q hq => by kbo_some))
  k_with "FinE" => (((unfold LCg.FinE); intro D'z h'z tk'z F'z N'z o1'z; (have hR8 := off1_ne o1'z); (try simp only [List.nil_append, List.cons_append] at N'z); (try dsimp only)))
  k_with "lcg_off" => (first | exact True.intro | with_reducible assumption | (refine And.intro ⟨by k_ne, by k_ne, by k_ne⟩ ?_; lcg_off))
  k_with "CompEnd" => ((k_here; k_dflt (refine' compEndP ?q17f ?q17n ?q17p1 ?q17p2 ?q17p3 ?q17o ?q17s ?_; (case q17f => k_asm); (case q17n => k_asm); (case q17p1 => kbd_text); (case q17p2 => kbd_text); (case q17p3 => kbd_text); (case q17o => lcg_off); (case q17s => lcg_src); k_whole)))
  k_with "kbd_text" => (((with_reducible show Split _ _ _); first | exact Split.nil | (apply Split.cons; kbd_text)))
  k_with "exec While BoolOp cons nil" => ((k_here; refine while_mark ?_))
  k_with "exec While Compare cons nil" => ((k_here; refine while_mark ?_))
  k_with "subscriptTail Attribute" => ((k_here; k_dflt (refine kba_turn (value' := PySem.Expr.Name (PySem.Str.ofString "_") ⟨0, 0, 0, 0⟩) (fun _ => rfl) ?_)))
  k_with "ite" => ((k_closed; k_dflt (first | rw [if_pos (by decide)] | rw [if_neg (by decide)])))
  k_with "k_in" => (first | with_reducible assumption | exact Frag.In.keeps (by with_reducible assumption) (Fr.keep (by with_reducible assumption)))
  k_with "execs nil" => ((k_here; refine wpAny_execs_nil ?_))
  k_with "execs cons" => ((k_here; refine wpAny_execs_cons ?_))
  k_with "exec If" => ((k_here; refine wpAny_If ?_))
  trivial
theorem listRest_inv (J : List Value → (Str → Option Value) → List (Addr × Obj) → Prop)
    (step : ∀ v r m news (it : Obj) h tk, J (v :: r) m news → it.cls = .type "list_iterator" → Fr h₀ env.locals h (fun y => if y = x then some v else m y) → News h₀ env.locals h ((I, it) :: news) →
      wpAny (model prog w) A (execs body env) (UnrPost h₀ env.locals { s with heap := h, toks := tk } I it (fun m' n' => lp ∈ n' ∧ J r m' n') Q) E { s with heap := h, toks := tk })
    (fin : ∀ m news h tk, J [] m news → Fr h₀ env.locals h m → News h₀ env.locals h news → Q .next { s with heap := h, toks := tk }) :
    ∀ vs m news, J vs m news → ListRest prog w A E h₀ env x body Q s I lp vs m news := by
  intro vs
  induction vs with
  | nil => intro m news hJ; exact ListRest.zero fun h tk F N => fin m news h tk hJ F N
  | cons v r ih =>
    intro m news hJ
    refine ListRest.succ fun it h tk hc F N => wpAny_mono (step v r m news it h tk hJ hc F N) (fun fl s₂ k => ?_) fun _ _ q => q
    exact unrPost_mono (fun m n ⟨a, b⟩ => ⟨a, ih m n b⟩) k
end
section
variable {prog : Program} {w : World} {A : Around} {E : Value → Shared → Prop} {s : Shared} {Q : Value → Shared → Prop}
theorem my_add {x y : Str} {t u : Tok} (hx : x.length ≤ 1000) (hy : y.length ≤ 1000) (h : ∀ t' k, Q (.str (x ++ y) t') { s with toks := k }) : wpAny (model prog w) A (binaryOp .Add (.str x t) (.str y u)) Q E s :=
  PyProof.Rows.add_str h (by rw [sizeLine_eq]; omega)
end
section
theorem kw39 : True := by
  k_with "binaryOp Add str str" => ((k_here; k_dflt (refine' my_add ?q141hx ?q141hy ?_; (case q141hx => first | assumption | decide +kernel); (case q141hy => first | assumption | decide +kernel); k_whole); intro t'z k'z))
  k_with "eval Name" => ((k_here; k_dflt (refine' PyProof.Rows.ld ?q142k1 ?q142k2 ?_; (case q142k1 => k_asm); (case q142k2 => first | with_reducible assumption | exact rfl | assumption); k_whole)))
  k_with "exec For Name Name cons nil" => ((k_here; (rename Fr _ _ _ _ => lF'z); (with_unfolding_all refine' For_invVF lF'z ?q143k1 ?q143k2 ?_; (case q143k1 => exact rfl); (case q143k2 => exact rfl); k_whole)))
  k_with "pyIter ref" => ((k_here; (with_reducible show wpAny _ _ (pyIter (Value.ref _)) (fun it s₂ => LoopAtV _ _ _ _ _ _ _ _ _ it s₂) _ _); k_dflt (refine' iter_listUnr ?q144hh ?q144F ?q144N ?q144hm ?q144hc ?q144hd ?_; (case q144hh => exact rfl); (case q144F => k_asm); (case q144N => k_asm); (case q144hm => k_mem); (case q144hc => exact rfl); (case q144hd => exact rfl)); refine while_mark ?_))
  k_with "UnrEnd" => ((k_here; refine while_mark ?_))
  k_with "call ref" => ((k_here; (with_reducible show wpAny _ _ (call (Value.ref 724) _) _ _ _); refine while_mark ?_))
  trivial
theorem drop3 {a b c : Addr × Obj} {X : List (Addr × Obj)} : ∀ q ∈ a :: b :: X, q ∈ a :: b :: c :: X := by
  intro q hq
  simp only [List.mem_cons] at hq ⊢
  rcases hq with h | h | h <;> simp only [h, true_or, or_true]
theorem app_arr (fd : List Nat) (x : Str) : (⟨fd.toArray⟩ : Str) ++ x = ⟨(fd ++ x.cps.toList).toArray⟩ := str_ext (by rw [app_list])
def KnLaw.mono {prog : Program} {w : World} {l l' : List (Addr × Obj)} {kd : Addr} {kn : Known} (k : KnLaw prog w l kd kn) (h : ∀ q ∈ l, q ∈ l') : KnLaw prog w l' kd kn :=
  { ko := k.ko, kkvs := k.kkvs, mko := h _ k.mko, isd := k.isd, low := k.low, get := fun n => by
      have g := k.get n
      cases hg : knGet kn n with
      | none => rw [hg] at g; exact g
      | some ps =>
        rw [hg] at g
        k_extra "hide"
        obtain ⟨l, us, nl, a, b, c, d⟩ := g
        unfold G9
        exact ⟨l, us, nl, a, h _ b, c.mono h, d⟩ }
inductive LedJ (w : World) (kn : Known) (depth most : Int) (f : Nat) (rest : List (Addr × Obj)) (sd ol kd : Addr) (vs : List Value) (t1 t2 : Tok) (fv : Value) (ys : List Str) (R : Led) (r : List Value) (m₁ : Str → Option Value) (news₁ : List (Addr × Obj)) : Prop
  | mk : (m₁ (Str.ofString "state") = some (.ref sd)) → ∀ (ps' : List Part) (fd : List Nat) (tf : Tok) (so' : Obj) (no' : Nat) (sz' dp' : Int) (t3' t4' : Tok), (m₁ (Str.ofString "found") = some (.str ⟨fd.toArray⟩ tf)) → (PartsAre rest r ps') → (news₁ = (sd, so') :: (ol, W.listOf vs.toArray no') :: rest) → (so'.IsDictOf (PySem.strKind PySem.Challenge.pw_sm0079_01 w) (stKvs kd ol depth most sz' dp' t1 t2 t3' t4' fv)) → (R = ledW (opened kn depth most f) ps' ys sz' dp' fd) → (0 ≤ sz') → (sz' ≤ 3000) → (fd.length + ps'.length * big f ≤ 300) → LedJ w kn depth most f rest sd ol kd vs t1 t2 fv ys R r m₁ news₁
theorem PartsAre.ok {news : List (Addr × Obj)} {us : List Value} {ps : List Part} (h : PartsAre news us ps) : PartsOk ps := by
  induction h with
  | nil => intro q hq; cases hq
  | cons _ b _ ih => exact List.forall_mem_cons.mpr ⟨b, ih⟩
theorem LedJ.text {w : World} {kn : Known} {depth most : Int} {f : Nat} {rest : List (Addr × Obj)} {sd ol kd : Addr} {vs : List Value} {t1 t2 : Tok} {fv : Value} {ys : List Str} {R : Led} {r : List Value} {m₁ : Str → Option Value}
    {x y : Str} {pr : List Part} {fd : List Nat} {tf : Tok} {so' : Obj} {no' : Nat} {sz' dp' : Int} {t3' t4' : Tok} (hy : wr1 (Str.ofString "%") (Str.ofString "A") (.s x) = y)
    {h₀ h : Heap} {L : Addr} (_F : Fr h₀ L h m₁) (e1 : m₁ (Str.ofString "state") = some (.ref sd)) (e2 : m₁ (Str.ofString "found") = some (.str (⟨fd.toArray⟩ ++ y) tf)) (hpr : PartsAre rest r pr)
    (hso : so'.IsDictOf (PySem.strKind PySem.Challenge.pw_sm0079_01 w) (stKvs kd ol depth most sz' dp' t1 t2 t3' t4' fv)) (hled : R = ledW (opened kn depth most f) (.s x :: pr) ys sz' dp' fd) (hz0 : 0 ≤ sz') (hz1 : sz' ≤ 3000) (hbd : fd.length + (Part.s x :: pr).length * big f ≤ 300) (hok : (Part.s x).Ok) :
    LedJ w kn depth most f rest sd ol kd vs t1 t2 fv ys R r m₁ ((sd, so') :: (ol, W.listOf vs.toArray no') :: rest) := by
  subst hy
  exact ⟨e1, pr, fd ++ _, tf, so', no', sz', dp', t3', t4', by rw [e2, app_arr], hpr, rfl, hso, hled.trans ledW_s, hz0, hz1, by
    have a := wr1_three hok x rfl
    have b := big_three f
    simp only [List.length_cons, Nat.add_mul, List.length_append] at hbd ⊢
    omega⟩
theorem kw40 : True := by
  k_with "call builtin:dict.get" => ((k_here; k_dflt (refine table_get (mark := Str.ofString "%") (by k_asm) (by k_mem) (by with_reducible assumption) (by with_reducible assumption) (by with_reducible assumption) (fun t'z k'z => ?_)); (try dsimp only)))
  trivial
theorem c_led {kn : Known} {depth most : Int} {f : Nat} (ih : ∀ k, f = k + 1 → LedSpec kn depth most k) (hkk : KnownOk kn) (hmo : most ≤ 3000) (hf : f ≤ 3) : LedSpec kn depth most f := by
  intro w vw loose mean mg mb dp un gd cn cs a ccd cl outer A₀ base h₀ L m s Q E rest sd ol kd pl so us vs ps ys npl no sz dpt t1 t2 t3 t4 fv B F X T hk N hso low kl hpl hps hus d1 d2 d3 hys hlen hfree hs0 hs1 hdp hu ret
  have hdp2 : dp + 14 < recursionLimit := by omega
  have hu2 : un + 560 < cLine := by omega
  refine wpAny_call ?_
  k_dflt k_enter
  k_steps
  unfold WhileMark
  intro I l1
  k_lt l1
  refine listRest_inv (J := LedJ w kn depth most f rest sd ol kd vs t1 t2 fv ys (ledW (opened kn depth most f) ps ys sz dpt [])) ?step ?fin us _ _ ?init
  case init => exact ⟨rfl, ps, [], _, so, no, sz, dpt, t3, t4, congrArg (fun z => some (Value.str z _)) (by decide +kernel : Str.ofString "" = ⟨([] : List Nat).toArray⟩), hps, rfl, hso, rfl, hs0, hs1, by
    have a := big_le hf
    have b : ps.length ≤ 3 := hps.length ▸ hus
    have c := Nat.mul_le_mul b a
    simp only [List.length_nil]
    omega⟩
  case fin =>
    intro m₁ news₁ h₁ tk₁ pz0 F₁ N₁
    k_extra "hide"
    obtain ⟨e1, ps', fd, tf, so', no', sz', dp', t3', t4', e2, hpr, rfl, hso', hled, hz0, hz1, -⟩ := pz0
    unfold G9
    cases hpr
    have e9 : ledW (opened kn depth most f) ps ys sz dpt [] = ⟨.ok fd, sz', dp'⟩ := hled
    rw [e9] at ret
    k_steps
    all_goals (try k_data)
    exact ret _ _ _ _ _ _ _ _ (.inl ⟨fd, _, rfl, rfl, rfl⟩) (by assumption) (by assumption) hso'
  case step =>
    intro v r m₁ news₁ it h₁ tk₁ pz0 hit F₁ N₁
    k_extra "hide"
    obtain ⟨e1, ps', fd, tf, so', no', sz', dp', t3', t4', e2, hpr, rfl, hso', hled, hz0, hz1, hbd⟩ := pz0
    unfold G9
    cases hpr with
    | @cons _ p _ pr hpi hpo hpr' =>
      have hfl : (⟨fd.toArray⟩ : Str).length ≤ 1000 := by
        have : (⟨fd.toArray⟩ : Str).length = fd.length := by simp [Str.length]
        omega
      cases p with
      | s x =>
        obtain ⟨t, rfl⟩ := hpi
        have hyl := wr1_len (mark := Str.ofString "%") (sign := Str.ofString "A") (by decide) (by decide) hpo
        have hyl2 : (wr1 (Str.ofString "%") (Str.ofString "A") (.s x)).length ≤ 1000 := by omega
        k_steps
        unfold WhileMark
        rename Fr _ _ _ _ => lF
        exact unrEndP lF (newsSub (by k_asm) (fun q hq => .tail _ hq)) Pick.head (by k_all) ⟨.tail _ (.tail _ hpl), LedJ.text rfl lF e1 rfl hpr' hso' hled hz0 hz1 hbd hpo⟩
      | r n =>
        k_extra "hide"
        obtain ⟨pa, t, rfl, hmt⟩ := hpi
        unfold G9
        have hn := ref_len hpo
        k_steps
        unfold WhileMark
        k_dflt (refine' c_opened (kn := kn) (f := f) ih hkk (ys := ys) (vs := vs) (N := pickN (pickN (by k_asm) (by kbd_text)) (Pick.tail (by kbd_text))) (hso := hso') (low := low) (kl := kl.mono (fun q hq => by k_mem)) (d1 := d1) (d2 := by k_all) (d3 := by k_all) (hys := hys) (hlen := hlen) (hfree := hfree) (hs0 := hz0) (hs1 := hz1) (hmo := hmo) (hdp := by (try simp only [depth_deeper, depth_in1, depth_mark]); (try dsimp only [ktrTop]); omega) (hu := by (try simp only [units_deeper, units_in1, Around.mark_units]); (try dsimp only [ktrTop]); omega) (ret := ?_))
        intro v so2 no2 t3b t4b fv2 h2 tk2 hLB F2 N2 hso2
        k_extra "hide"
        rcases hLB with ⟨tt, tkk, ho, rfl, rfl⟩ | ⟨C, tkk, ho, rfl, rfl⟩
        all_goals unfold G9
        · k_extra "hide"
          obtain ⟨q0, q1, q2⟩ := opened_ok hkk hmo hpo hz0 hz1 ho
          unfold G9
          have hbg := big_le hf
          have htl : (⟨tt.toArray⟩ : Str).length ≤ 1000 := by
            have : (⟨tt.toArray⟩ : Str).length = tt.length := by simp [Str.length]
            omega
          k_steps
          unfold WhileMark
          rename Fr _ _ _ _ => lF
          refine unrEndP lF (pickN (by k_asm) (by kbd_text)) Pick.head (by k_all) ⟨.tail _ (.tail _ hpl), e1, pr, fd ++ tt, _, so2, no2, _, _, t3b, t4b, congrArg (fun z => some (Value.str z _)) (app_arr fd ⟨tt.toArray⟩), hpr', rfl, hso2, hled.trans (ledW_ok ho), q0, q1, ?_⟩
          simp only [List.length_cons, Nat.add_mul, List.length_append] at hbd ⊢
          omega
        · rw [hled.trans (ledW_bad ho)] at ret
          k_steps
          all_goals (try k_data)
          exact ret _ _ _ _ _ _ _ _ (.inr ⟨C, _, ho, rfl, rfl⟩) (by assumption) (newsSub (by k_asm) drop3) hso2
end
theorem kw41 : True := by
  k_with_none
  k_with "k_all" => (first | with_reducible assumption | exact List.forall_mem_nil _ | exact allNe (by with_reducible assumption) | (refine' List.forall_mem_cons.mpr ⟨?q1a, ?q1b⟩; (case q1a => k_ne); (case q1b => k_all)) | exact subNe (by with_reducible assumption) (fun q hq => by kbo_some) | exact subNeT (by with_reducible assumption) (by with_reducible assumption) (fun q hq => by kbo_some) | exact subNeQ (by with_reducible assumption) (fun q hq => by kbo_some) | assumption)
  k_with "kbo_some" => (first | with_reducible assumption | exact List.Mem.head _ | (refine' List.mem_cons_of_mem _ ?_; kbo_some) | ((with_reducible refine List.mem_append.mpr (Or.inr ?_)); kbo_some))
  k_with "k_mem" => (first | kbo_some | assumption)
  k_with "k_upd" => (first | (refine' Upd.head ?q4a; (case q4a => k_all)) | (refine' Upd.tail ?q4a ?q4b; (case q4a => k_ne); (case q4b => k_upd)))
  k_with "k_updF" => (first | (refine' UpdF.head ?q5a; (case q5a => k_all)) | (refine' UpdF.tail ?q5a ?q5b; (case q5a => k_ne); (case q5b => k_updF)))
  k_with "k_ne" => (((try dsimp only); first | with_reducible assumption | (refine Ne.symm ?_; with_reducible assumption) | (refine Nat.ne_of_gt ?_; with_reducible assumption) | (refine Nat.ne_of_lt ?_; with_reducible assumption) | (refine neR (by with_reducible assumption) ?_; k_extra "has") | (refine neL (by with_reducible assumption) ?_; k_extra "has") | (refine neQ (by with_reducible assumption) ?_; k_extra "has") | (refine neP (by with_reducible assumption) ?_; k_extra "has") | (refine neT (by with_reducible assumption) (by with_reducible assumption) ?_; k_extra "has") | (refine neU (by with_reducible assumption) (by with_reducible assumption) ?_; k_extra "has") | exact Nat.ne_of_lt (Nat.lt_succ_self _) | exact Nat.ne_of_gt (Nat.lt_succ_self _) | omega))
  k_with "k_enter" => (first
  | (refine' code_def ?q7k1 ?q7k2 ?q7k3 ?q7k4 ?q7k5 ?q7kA ?q7kF ?q7kK ?q7k6 ?q7k7 ?q7k8 ?q7k9 ?q7kB ?_ ?q7c2 ?q7c3 ?q7c4 ?q7c5; (case q7kA => exact rfl); (case q7kF => exact rfl); (case q7kK => first | exact rfl | assumption); (case q7k1 => k_asm); (case q7k2 => k_asm); (case q7k3 => k_asm); (case q7k4 => k_asm); (case q7k5 => k_asm); (case q7k6 => k_is); (case q7k7 => k_is); (case q7k8 => ktr_room); (case q7k9 => first | exact BindsTo.of_eq rfl | exact binds_K (by k_in) rfl (by k_is) rfl rfl rfl); (case q7c5 => decide); (case q7kB => exact locs rfl); (case q7c2 => exact rfl); (case q7c3 => exact rfl); (case q7c4 => exact rfl); k_whole; intro g'z L'z h'z FG'z F'z N'z B'z X'z T'z; (try dsimp only); (try k_fold); (try (refine letA ?_; intro A9)))
  | (refine' code_defC ?q7k1 ?q7k2 ?q7k3 ?q7k4 ?q7k5 ?q7kA ?q7kF ?q7kK ?q7k6 ?q7k7 ?q7k8 ?q7k9 ?q7kB ?q7kD ?_ ?q7c2 ?q7c3 ?q7c4; (case q7kA => exact rfl); (case q7kF => exact rfl); (case q7kK => first | exact rfl | assumption); (case q7k1 => k_asm); (case q7k2 => k_asm); (case q7k3 => k_asm); (case q7k4 => k_asm); (case q7k5 => k_asm); (case q7k6 => k_is); (case q7k7 => k_is); (case q7k8 => ktr_room); (case q7k9 => first | exact BindsTo.of_eq rfl | exact binds_K (by k_in) rfl (by k_is) rfl rfl rfl); (case q7kB => exact rfl); (case q7kD => decide +kernel); (case q7c2 => exact rfl); (case q7c3 => exact rfl); (case q7c4 => exact rfl); k_whole; intro g'z L'z h'z tk'z cells'z FG'z F'z N'z Y'z B'z X'z T'z l1; (try k_lt l1); (try (have hR6 := restNe l1 (Nat.le_add_right _ 1); have hR5 := restNe l1 (Nat.le_add_right _ (1 + 1)))); (first   | (have hY := CellsAre.one Y'z; obtain ⟨o'z, hE'z, d1'z⟩ := hY; subst hE'z; clear Y'z; (first | (replace d1'z : o'z.data = .cell none := d1'z) | (replace d1'z : o'z.data = .cell (some _) := d1'z) | skip))   | (have hY := CellsAre.two Y'z; obtain ⟨o'z, o2'z, hE'z, d1'z, d2'z⟩ := hY; subst hE'z; clear Y'z; (first | (replace d1'z : o'z.data = .cell none := d1'z) | (replace d1'z : o'z.data = .cell (some _) := d1'z) | skip); (first | (replace d2'z : o2'z.data = .cell none := d2'z) | (replace d2'z : o2'z.data = .cell (some _) := d2'z) | skip))); (try simp only [List.cons_append, List.nil_append] at N'z); (try dsimp only); (try k_fold); (try (refine letA ?_; intro A9))))
  k_with "ktr_room" => (((try simp +zetaDelta only [depth_deeper, depth_in1, depth_mark, depth_under_make, depth_under_kw]); (try dsimp only [ktrTop]); (try simp only [Nat.add_assoc, Nat.reduceAdd]); refine Nat.lt_of_le_of_lt (Nat.add_le_add_left ?_ _) (by with_reducible assumption); decide))
  k_with "ktr_units" => (((try simp +zetaDelta only [units_deeper, units_in1, Around.mark_units]); (try dsimp only [ktrTop]); (try simp only [Nat.add_assoc, Nat.reduceAdd]); refine Nat.lt_of_le_of_lt (Nat.add_le_add_left ?_ _) (by with_reducible assumption); decide))
  k_with "kbd_text" => (first | exact Pick.head | (apply Pick.tail; kbd_text))
  k_with "hide" => ((refine hideG ?_; intro G9))
  k_with "has" => (first | with_reducible exact Has.head | (refine Has.tail ?_; k_extra "has"))
  k_with "lt" => (first | with_reducible assumption | (refine Has.lt (by with_reducible assumption) ?_; k_extra "has") | (refine ltT (by with_reducible assumption) (by with_reducible assumption) ?_; k_extra "has"))
  k_with "ltAll" => (first | with_reducible assumption | exact allLt_mem (by with_reducible assumption) | exact subLt (by with_reducible assumption) (fun q hq => by kbo_some))
  k_with "FinE" => (((unfold LCg.FinE); intro D'z h'z tk'z F'z N'z o1'z; (have hR8 := off1_ne o1'z); (try simp only [List.nil_append, List.cons_append] at N'z); (try dsimp only)))
  k_with "lcg_off" => (first | exact True.intro | with_reducible assumption | (refine And.intro ⟨by k_ne, by k_ne, by k_ne⟩ ?_; lcg_off))
  k_with "CompEnd" => ((k_here; k_dflt (refine' compEndP ?q17f ?q17n ?q17p1 ?q17p2 ?q17p3 ?q17o ?q17s ?_; (case q17f => k_asm); (case q17n => k_asm); (case q17p1 => kbd_text); (case q17p2 => kbd_text); (case q17p3 => kbd_text); (case q17o => lcg_off); (case q17s => lcg_src); k_whole)))
  k_with "kbd_text" => (((with_reducible show Split _ _ _); first | exact Split.nil | (apply Split.cons; kbd_text)))
  k_with "exec While BoolOp cons nil" => ((k_here; refine while_mark ?_))
  k_with "exec While Compare cons nil" => ((k_here; refine while_mark ?_))
  k_with "subscriptTail Attribute" => ((k_here; k_dflt (refine kba_turn (value' := PySem.Expr.Name (PySem.Str.ofString "_") ⟨0, 0, 0, 0⟩) (fun _ => rfl) ?_)))
  k_with "ite" => ((k_closed; k_dflt (first | rw [if_pos (by decide)] | rw [if_neg (by decide)])))
  k_with "k_in" => (first | with_reducible assumption | exact Frag.In.keeps (by with_reducible assumption) (Fr.keep (by with_reducible assumption)))
  k_with "execs nil" => ((k_here; refine wpAny_execs_nil ?_))
  k_with "execs cons" => ((k_here; refine wpAny_execs_cons ?_))
  k_with "exec If" => ((k_here; refine wpAny_If ?_))
  trivial
theorem led_all {kn : Known} {depth most : Int} (hkk : KnownOk kn) (hmo : most ≤ 3000) : ∀ f, f ≤ 3 → LedSpec kn depth most f
  | 0, h => c_led (fun k e => nomatch e) hkk hmo h
  | f + 1, h => c_led (fun k e => by cases e; exact led_all hkk hmo f (by omega)) hkk hmo h
end
section
theorem c_state {w : World} {vw : Program} {loose : List Str} {mean : ExcName → Option Value} {mg mb : Str → Option Value} {dp un : Nat} {gd : Option (List Code)} {cn : Str} {cs : Scope} {a : Addr} {ccd : Value} {cl : List (Str × Addr)} {outer : List Env} {A₀ : Around} {base h₀ : Heap} {L : Addr} {m : Str → Option Value} {s : Shared} {Q E : Value → Shared → Prop} {rest : List (Addr × Obj)} {kd : Addr} {depth most : Int} {t1 t2 : Tok}
   (B : Below A₀ base outer h₀ := by k_asm) (F : Fr h₀ L s.heap m := by k_asm) (X : (Mine.k0.heap_1 w.params).In h₀ := by k_asm) (T : Top vw loose mean mg mb h₀ := by k_asm) (hk : cs.kind = .function := by exact rfl) (N : News h₀ L s.heap rest) (hdp : dp + 2 < recursionLimit := by ktr_room) (hu : un + 80 < cLine := by ktr_units)
   (ret : ∀ (sd ol : Addr) so no t3 t4 h' tk', Fr h₀ L h' m → News h₀ L h' ((sd, so) :: (ol, W.listOf #[] no) :: rest) → so.IsDictOf (PySem.strKind PySem.Challenge.pw_sm0079_01 w) (stKvs kd ol depth most 0 0 t1 t2 t3 t4 .none) → (sd == sysModules) = false →
     (∀ q ∈ rest, q.1 < sd) → sd < ol → Q (.ref sd) { s with heap := h', toks := tk' }) :
   wpAny (model PySem.Challenge.pw_sm0079_01 w) (ktrTop dp un gd cn cs L a ccd cl outer) (call (.ref 731) [.ref kd, .int depth t1, .int most t2]) Q E s := by
  refine wpAny_call ?_
  k_dflt k_enter
  k_steps
  all_goals (try k_data)
  all_goals first | exact ret _ _ _ _ _ _ _ _ (by assumption) (pickN (by assumption) (Pick.tail Pick.head)) ‹Obj.IsDictOf _ _ _› (by assumption) (by k_extra "ltAll") (by k_extra "lt")
end
section
section
theorem kw42 : True := by
  k_with "compareOp In str ref" => ((k_here; (with_reducible show wpAny _ _ (compareOp CmpOp.In (Value.str _ _) (Value.ref _)) _ _ _); k_dflt (refine kda_in (knd := PySem.strKind _ _) (by k_asm) (by k_mem) (by with_reducible assumption) (by with_reducible assumption) (strKind_is _ _ _ _) false (by rw [‹valueAt _ _ = none›]; rfl) ?_)))
  k_with "setItem ref str" => ((k_here; k_dflt (refine' kda_set (knd := PySem.strKind _ _) ?q149F ?q149N ?q149U ?q149d (strKind_is _ _ _ _) ?q149z ?_; (case q149F => k_asm); (case q149N => k_asm); (case q149U => k_updF); (case q149d => with_reducible assumption); (case q149z => rw [sizeLine_eq]; exact Nat.le_trans (by assumption) (by decide))); intro h'z o'z F'z N'z hd'z; (try dsimp only at N'z)))
  trivial
theorem c_declare {w : World} {vw : Program} {loose : List Str} {mean : ExcName → Option Value} {mg mb : Str → Option Value} {dp un : Nat} {gd : Option (List Code)} {cn : Str} {cs : Scope} {a : Addr} {ccd : Value} {cl : List (Str × Addr)} {outer : List Env} {A₀ : Around} {base h₀ : Heap} {L : Addr} {m : Str → Option Value} {s : Shared} {Q E : Value → Shared → Prop} {rest : List (Addr × Obj)} {tb td pm : Addr} {po : Obj} {v1 v2 v3 : Value} {h1 h2 h3 h4 : Int} {k1 k2 k3 k4 tn tx : Tok} {kvs : List (Str × Value)} {nm x : Str}
   (B : Below A₀ base outer h₀ := by k_asm) (F : Fr h₀ L s.heap m := by k_asm) (X : (Mine.k0.heap_1 w.params).In h₀ := by k_asm) (T : Top vw loose mean mg mb h₀ := by k_asm) (hk : cs.kind = .function := by exact rfl) (N : News h₀ L s.heap ((pm, po) :: rest)) (mt : (tb, W.instObj 675 td) ∈ rest) (md : (td, W.dictOf [⟨h1, .str (Str.ofString "limits") k1, v1⟩, ⟨h2, .str (Str.ofString "outer") k2, v2⟩, ⟨h3, .str (Str.ofString "general") k3, v3⟩, ⟨h4, .str (Str.ofString "parameters") k4, .ref pm⟩] 4) ∈ rest)
   (hd : po.IsDictOf (PySem.strKind PySem.Challenge.pw_sm0079_01 w) kvs) (low : (pm == sysModules) = false) (hv : valueAt kvs nm = none) (hkl : kvs.length ≤ 100) (hr : ∀ q ∈ rest, q.1 ≠ pm) (hdp : dp + 8 < recursionLimit := by ktr_room) (hu : un + 320 < cLine := by ktr_units)
   (ret : ∀ (e ed : Addr) po' g1 g2 g3 g4 q1 q2 q3 q4 t1 t2 h' tk', Fr h₀ L h' m →
     News h₀ L h' ((e, W.instObj 568 ed) :: (ed, W.dictOf [⟨g1, .str (Str.ofString "name") q1, .str nm t1⟩, ⟨g2, .str (Str.ofString "value") q2, .str x t2⟩, ⟨g3, .str (Str.ofString "system") q3, .none⟩, ⟨g4, .str (Str.ofString "notation") q4, .none⟩] 4) :: (pm, po') :: rest) →
     po'.IsDictOf (PySem.strKind PySem.Challenge.pw_sm0079_01 w) (stored kvs nm (.ref e)) → (∀ q ∈ rest, q.1 < ed) → pm < ed → ed < e → Q (.bool true) { s with heap := h', toks := tk' }) :
   wpAny (model PySem.Challenge.pw_sm0079_01 w) (ktrTop dp un gd cn cs L a ccd cl outer) (call (.ref 616) [.ref tb, .bool true, .str nm tn, .str x tx]) Q E s := by
  refine wpAny_call ?_
  k_dflt k_enter
  k_steps
  all_goals (try k_data)
  all_goals first | exact ret _ _ _ _ _ _ _ _ _ _ _ _ _ _ _ (by assumption) (by assumption) (by assumption) (by k_extra "ltAll") (by k_extra "lt") (by k_extra "lt")
end
end
section
section
variable {M : Model} {A : Around} {E : Value → Shared → Prop}
variable {nm q nm' q' : Str} {C N D N' : Addr} {bs bm bs' bm' : List Value} {hdct hdct' : Bool} {sn sn' : List Str} {sub sub' : List Value} {ab ab' : Bool} {col col' : Option Bool} {dd dd' : Option Addr} {k0 k1 k2 k3 k5 k0' k1' k2' k3' k5' : Option Value} {newId newId' : String}
theorem kw43 : True := by
  k_with_none
  k_with "k_all" => (first | with_reducible assumption | exact List.forall_mem_nil _ | exact allNe (by with_reducible assumption) | (refine' List.forall_mem_cons.mpr ⟨?q1a, ?q1b⟩; (case q1a => k_ne); (case q1b => k_all)) | exact subNe (by with_reducible assumption) (fun q hq => by kbo_some) | exact subNeT (by with_reducible assumption) (by with_reducible assumption) (fun q hq => by kbo_some) | exact subNeQ (by with_reducible assumption) (fun q hq => by kbo_some) | assumption)
  k_with "kbo_some" => (first | with_reducible assumption | exact List.Mem.head _ | (refine' List.mem_cons_of_mem _ ?_; kbo_some) | ((with_reducible refine List.mem_append.mpr (Or.inr ?_)); kbo_some))
  k_with "k_mem" => (first | kbo_some | assumption)
  k_with "k_upd" => (first | (refine' Upd.head ?q4a; (case q4a => k_all)) | (refine' Upd.tail ?q4a ?q4b; (case q4a => k_ne); (case q4b => k_upd)))
  k_with "k_updF" => (first | (refine' UpdF.head ?q5a; (case q5a => k_all)) | (refine' UpdF.tail ?q5a ?q5b; (case q5a => k_ne); (case q5b => k_updF)))
  k_with "k_ne" => (((try dsimp only); first | with_reducible assumption | (refine Ne.symm ?_; with_reducible assumption) | (refine Nat.ne_of_gt ?_; with_reducible assumption) | (refine Nat.ne_of_lt ?_; with_reducible assumption) | (refine neR (by with_reducible assumption) ?_; k_extra "has") | (refine neL (by with_reducible assumption) ?_; k_extra "has") | (refine neQ (by with_reducible assumption) ?_; k_extra "has") | (refine neP (by with_reducible assumption) ?_; k_extra "has") | (refine neT (by with_reducible assumption) (by with_reducible assumption) ?_; k_extra "has") | (refine neU (by with_reducible assumption) (by with_reducible assumption) ?_; k_extra "has") | exact Nat.ne_of_lt (Nat.lt_succ_self _) | exact Nat.ne_of_gt (Nat.lt_succ_self _) | omega))
  k_with "k_enter" => (first
  | (refine' code_def ?q7k1 ?q7k2 ?q7k3 ?q7k4 ?q7k5 ?q7kA ?q7kF ?q7kK ?q7k6 ?q7k7 ?q7k8 ?q7k9 ?q7kB ?_ ?q7c2 ?q7c3 ?q7c4 ?q7c5; (case q7kA => exact rfl); (case q7kF => exact rfl); (case q7kK => first | exact rfl | assumption); (case q7k1 => k_asm); (case q7k2 => k_asm); (case q7k3 => k_asm); (case q7k4 => k_asm); (case q7k5 => k_asm); (case q7k6 => k_is); (case q7k7 => k_is); (case q7k8 => ktr_room); (case q7k9 => first | exact BindsTo.of_eq rfl | exact binds_K (by k_in) rfl (by k_is) rfl rfl rfl); (case q7c5 => decide); (case q7kB => exact locs rfl); (case q7c2 => exact rfl); (case q7c3 => exact rfl); (case q7c4 => exact rfl); k_whole; intro g'z L'z h'z FG'z F'z N'z B'z X'z T'z; (try dsimp only); (try k_fold); (try (refine letA ?_; intro A9)))
  | (refine' code_defC ?q7k1 ?q7k2 ?q7k3 ?q7k4 ?q7k5 ?q7kA ?q7kF ?q7kK ?q7k6 ?q7k7 ?q7k8 ?q7k9 ?q7kB ?q7kD ?_ ?q7c2 ?q7c3 ?q7c4; (case q7kA => exact rfl); (case q7kF => exact rfl); (case q7kK => first | exact rfl | assumption); (case q7k1 => k_asm); (case q7k2 => k_asm); (case q7k3 => k_asm); (case q7k4 => k_asm); (case q7k5 => k_asm); (case q7k6 => k_is); (case q7k7 => k_is); (case q7k8 => ktr_room); (case q7k9 => first | exact BindsTo.of_eq rfl | exact binds_K (by k_in) rfl (by k_is) rfl rfl rfl); (case q7kB => exact rfl); (case q7kD => decide +kernel); (case q7c2 => exact rfl); (case q7c3 => exact rfl); (case q7c4 => exact rfl); k_whole; intro g'z L'z h'z tk'z cells'z FG'z F'z N'z Y'z B'z X'z T'z l1; (try k_lt l1); (try (have hR6 := restNe l1 (Nat.le_add_right _ 1); have hR5 := restNe l1 (Nat.le_add_right _ (1 + 1)))); (first   | (have hY := CellsAre.one Y'z; obtain ⟨o'z, hE'z, d1'z⟩ := hY; subst hE'z; clear Y'z; (first | (replace d1'z : o'z.data = .cell none := d1'z) | (replace d1'z : o'z.data = .cell (some _) := d1'z) | skip))   | (have hY := CellsAre.two Y'z; obtain ⟨o'z, o2'z, hE'z, d1'z, d2'z⟩ := hY; subst hE'z; clear Y'z; (first | (replace d1'z : o'z.data = .cell none := d1'z) | (replace d1'z : o'z.data = .cell (some _) := d1'z) | skip); (first | (replace d2'z : o2'z.data = .cell none := d2'z) | (replace d2'z : o2'z.data = .cell (some _) := d2'z) | skip))); (try simp only [List.cons_append, List.nil_append] at N'z); (try dsimp only); (try k_fold); (try (refine letA ?_; intro A9))))
  k_with "ktr_room" => (((try simp +zetaDelta only [depth_deeper, depth_in1, depth_mark, depth_under_make, depth_under_kw]); (try dsimp only [ktrTop]); (try simp only [Nat.add_assoc, Nat.reduceAdd]); refine Nat.lt_of_le_of_lt (Nat.add_le_add_left ?_ _) (by with_reducible assumption); decide))
  k_with "ktr_units" => (((try simp +zetaDelta only [units_deeper, units_in1, Around.mark_units]); (try dsimp only [ktrTop]); (try simp only [Nat.add_assoc, Nat.reduceAdd]); refine Nat.lt_of_le_of_lt (Nat.add_le_add_left ?_ _) (by with_reducible assumption); decide))
  k_with "kbd_text" => (first | exact Pick.head | (apply Pick.tail; kbd_text))
  k_with "hide" => ((refine hideG ?_; intro G9))
  k_with "has" => (first | with_reducible exact Has.head | (refine Has.tail ?_; k_extra "has"))
  k_with "lt" => (first | with_reducible assumption | (refine Has.lt (by with_reducible assumption) ?_; k_extra "has") | (refine ltT (by with_reducible assumption) (by with_reducible assumption) ?_; k_extra "has"))
  k_with "ltAll" => (first | with_reducible assumption | exact allLt_mem (by with_reducible assumption) | exact subLt (by with_reducible assumption) (fun q hq => by kbo_some))
  k_with "FinE" => (((unfold LCg.FinE); intro D'z h'z tk'z F'z N'z o1'z; (have hR8 := off1_ne o1'z); (try simp only [List.nil_append, List.cons_append] at N'z); (try dsimp only)))
  k_with "lcg_off" => (first | exact True.intro | with_reducible assumption | (refine And.intro ⟨by k_ne, by k_ne, by k_ne⟩ ?_; lcg_off))
  k_with "CompEnd" => ((k_here; k_dflt (refine' compEndP ?q17f ?q17n ?q17p1 ?q17p2 ?q17p3 ?q17o ?q17s ?_; (case q17f => k_asm); (case q17n => k_asm); (case q17p1 => kbd_text); (case q17p2 => kbd_text); (case q17p3 => kbd_text); (case q17o => lcg_off); (case q17s => lcg_src); k_whole)))
  k_with "kbd_text" => (((with_reducible show Split _ _ _); first | exact Split.nil | (apply Split.cons; kbd_text)))
  k_with "exec While BoolOp cons nil" => ((k_here; refine while_mark ?_))
  k_with "exec While Compare cons nil" => ((k_here; refine while_mark ?_))
  k_with "subscriptTail Attribute" => ((k_here; k_dflt (refine kba_turn (value' := PySem.Expr.Name (PySem.Str.ofString "_") ⟨0, 0, 0, 0⟩) (fun _ => rfl) ?_)))
  k_with "ite" => ((k_closed; k_dflt (first | rw [if_pos (by decide)] | rw [if_neg (by decide)])))
  k_with "k_in" => (first | with_reducible assumption | exact Frag.In.keeps (by with_reducible assumption) (Fr.keep (by with_reducible assumption)))
  k_with "execs nil" => ((k_here; refine wpAny_execs_nil ?_))
  k_with "execs cons" => ((k_here; refine wpAny_execs_cons ?_))
  k_with "exec If" => ((k_here; refine wpAny_If ?_))
  trivial
theorem excMatches_own {h : Heap} {g : Array GenState} {d : Drawn} {t : Nat} {os : OsState} {e : Addr} {oe : Obj} {b : Bool} {Q : Bool → Shared → Prop}
    (hC : h.get? C = some (excClassObj nm q C N bs bm hdct sn sub ab col dd k0 k1 k2 k3 k5 newId)) (hD : h.get? D = some (excClassObj nm' q' D N' bs' bm' hdct' sn' sub' ab' col' dd' k0' k1' k2' k3' k5' newId')) (he : h.get? e = some oe) (hcls : oe.cls = .ref C)
    (hbase : (Value.ref D :: bm').contains (.type "BaseException") = true) (hb : (Value.ref C :: bm).contains (.ref D) = b)
    (hq : Q b ⟨h, g, d, t, os⟩) : wpAny M A (excMatches (.ref e) (.ref D)) Q E ⟨h, g, d, t, os⟩ := by
  have f := tc_notTuple
  unfold excMatches
  repeat (first | (with_reducible refine wpAny_loadPart_at he ?_; rw [hcls]) | with_reducible refine wpAny_loadPart_at hD ?_ | (with_reducible refine wpAny_isSubtype_exc hD ?_; rw [hbase]) | (with_reducible refine wpAny_isSubtype_exc hC ?_; rw [hb]) | wp_step)
  cases b <;> (wp_walk; exact hq)
end
def excD (K : Frag) (C : Addr) (D : Addr) (b : Bool) : Bool := match K.lookup C with
  | some ⟨.type "type", _, .cls cd, sl⟩ => (match cd.mro, sl.toList with
    | .ref C' :: bm, [_, _, _, _, some (.builtin _), _] => C' == C && !cd.hasDel && bm.contains (.type "BaseException") && (Value.ref C :: bm).contains (.ref D) == b
    | _, _ => false)
  | _ => false
theorem excD_cls {K : Frag} {h : Heap} {C D : Addr} {b : Bool} (X : K.In h) (q : excD K C D b = true) : ∃ nm qn N bs bm hdct sn sub ab col dd k0 k1 k2 k3 k5 newId,
    h.get? C = some (excClassObj nm qn C N bs bm hdct sn sub ab col dd k0 k1 k2 k3 k5 newId) ∧ bm.contains (.type "BaseException") = true ∧ (Value.ref C :: bm).contains (.ref D) = b := by
  unfold excD at q
  split at q
  · rename_i dd cd sl ho
    split at q
    · rename_i C' bm k0 k1 k2 k3 n k5 hm hs
      simp only [Bool.and_eq_true, beq_iff_eq, Bool.not_eq_true'] at q
      k_extra "hide"
      obtain ⟨⟨⟨rfl, hdel⟩, hb⟩, ht⟩ := q
      unfold G9
      k_extra "hide"
      obtain ⟨nm, bs, mro, ns, qn, hd, sn, sub, ab, col, del⟩ := cd
      unfold G9
      dsimp only at hm hdel
      subst hm hdel
      have hsl : sl = #[k0, k1, k2, k3, some (.builtin n), k5] := by
        obtain ⟨l⟩ := sl
        simp only at hs
        rw [hs]
      subst hsl
      exact ⟨nm, qn, ns, bs, bm, hd, sn, sub, ab, col, dd, k0, k1, k2, k3, k5, n, X _ _ ho, hb, ht⟩
    · cases q
  · cases q
section
variable {prog : Program} {w : World} {A₀ : Around} {E : Value → Shared → Prop} {s' : Shared} {base g G : Heap} {outer : List Env} {L a e t C D : Addr} {m : Str → Option Value} {name : Str} {scope : Scope} {cd : Value}
  {vs : List Value} {n : Str} {b₀ c₀ : Stmt} {suite suite' : List Stmt} {pos np pos' np' : Pos} {rest : List ExceptHandler} {Q : Flow → Shared → Prop} {news : List (Addr × Obj)} {KF : Frag}
  {p : Program} {loose : List Str} {mean : ExcName → Option Value} {mg mb : Str → Option Value} {x y : Str}
/-- the first handler's class is another, the second's is the exception's own -/
theorem caught_second (R : RaisedS base G (envOf name scope L a cd :: outer) e (.ref C) t vs news s'.heap) (F : Fr g L G m) (K : Below A₀ base outer g) (hsm : G.UpToSlots s'.heap) (XB : KF.In base) (TB : Top p loose mean mg mb base)
    (ex : nsIn KF mainGlobals x = some (some (.ref D))) (ey : nsIn KF mainGlobals y = some (some (.ref C))) (q1 : excD KF C D false = true) (q2 : excD KF C C true = true) (q3 : excD KF D D true = true)
    (k : ∀ h' g', KtsTurn (outer.filterMap (·.frame)) g g' → Fr g' L h' m → News g' L h' news → Below A₀ base outer g' → KF.In g' → Top p loose mean mg mb g' →
      wpAny (model prog w) ((A₀.deeper (envOf name scope L a cd)).mark (some (.ref e))) (execs (c₀ :: suite') (envOf name scope L a cd)) Q E { s' with heap := h' })
    (hk : scope.kind = .function := by rfl) (hx : (envOf name scope L a cd).kindOf x = some .globalImplicit := by rfl) (hd : (x == ("__debug__" : Str)) = false := by decide)
    (hy : (envOf name scope L a cd).kindOf y = some .globalImplicit := by rfl) (hdy : (y == ("__debug__" : Str)) = false := by decide)
    (hE : PassesOwnAt (model prog w) ((A₀.deeper (envOf name scope L a cd)).mark (some (.ref e))) (A₀.deeper (envOf name scope L a cd)) (envOf name scope L a cd) E := by passes_own) :
    wpAny (model prog w) (A₀.deeper (envOf name scope L a cd)) (noteFrame (.ref e) (envOf name scope L a cd))
      (fun _ s₂ => wpAny (model prog w) (A₀.deeper (envOf name scope L a cd)) (setFlight (.ref e) none) (fun _ s₃ =>
        wpAny (model prog w) (A₀.deeper (envOf name scope L a cd)) (handleBy (.ref e) (envOf name scope L a cd) (.ExceptHandler (some (.Name x np)) none (b₀ :: suite) pos :: .ExceptHandler (some (.Name y np')) none (c₀ :: suite') pos' :: rest)) Q E s₃) E s₂) E s' := by
  k_extra "hide"
  obtain ⟨⟨B, hB, hBG, hl, hfl, hnew⟩, htup⟩ := R
  unfold G9
  have hL : B.get? L = none := by
    k_extra "hide"
    obtain ⟨_, ⟨L', _, hf, hn', _⟩, _⟩ := hfl.2.2.1
    unfold G9
    obtain rfl : L = L' := Option.some.inj hf
    exact hn'
  refine wpAny_looks_onW (Around.frames_deeper K.stack) rfl hfl fun h₄ hheld₄ hsm₄ => ?_
  refine wpAny_landsW hheld₄ fun h₅ hheld hsm₅' => ?_
  have hsm₅ := hsm₄.trans hsm₅'
  k_extra "hide"
  obtain ⟨g₅, T₅, F₅, K₅⟩ := kts_ground K F hBG hheld.1 (hsm.trans hsm₅)
  unfold G9
  have X₅ : KF.In g₅ := XB.keeps K₅.stays
  have P₅ : TopRead p loose mg mb g₅ := topRead_of (TB.keeps K₅.stays)
  k_extra "hide"
  obtain ⟨ob, hob, hobc⟩ := hheld.there
  unfold G9
  k_extra "hide"
  obtain ⟨nm, q', N, bs, bm, hdct, sn, sub, ab, col, dd, k0, k1, k2, k3, k5, newId, hC, hbase, hCD⟩ := excD_cls X₅ q1
  unfold G9
  k_extra "hide"
  obtain ⟨nm2, q2', N2, bs2, bm2, hdct2, sn2, sub2, ab2, col2, dd2, l0, l1, l2, l3, l5, newId2, hD, hbase2, hDD⟩ := excD_cls X₅ q3
  unfold G9
  have hC₅ := F₅.keep _ _ hC
  have hD₅ := F₅.keep _ _ hD
  have hbD : (Value.ref D :: bm2).contains (.type "BaseException") = true := by rw [List.contains_cons, hbase2, Bool.or_true]
  refine wpAny_handleBy_cons (codeAny_handlers_test (name_K F₅ X₅ P₅ ex ?_ hk hx hd)) (by intro q; cases q)
  refine excMatches_own hC₅ hD₅ hob hobc hbD hCD ?_
  dsimp only
  refine wpAny_handleBy_cons (codeAny_handlers_test (name_K F₅ X₅ P₅ ey ?_ hk hy hdy)) (by intro q; cases q)
  refine wpAny_excMatches_sub_self hC₅ hob hobc hbase (codeAny_handlers_suite ?_)
  refine lands_againW hheld fun h₆ hfl₆ hsm₆ => ?_
  k_extra "hide"
  obtain ⟨g₆, T₆, F₆, K₆⟩ := kts_ground K F hBG hfl₆.1 ((hsm.trans hsm₅).trans hsm₆)
  unfold G9
  have Nl : News g₆ L h₆ news := fun q hq => ⟨hfl₆.1 _ _ (hl q hq).1, (fun z => by have := (hl q hq).1; rw [z, hL] at this; cases this), T₆.none_ _ (kts_none F.keep (hl q hq).2.1)⟩
  exact wpAny_passesOwnAt hE (k h₆ g₆ T₆ F₆ Nl K₆ (XB.keeps K₆.stays) (TB.keeps K₆.stays))
theorem caught_first (R : RaisedS base G (envOf name scope L a cd :: outer) e (.ref C) t vs news s'.heap) (F : Fr g L G m) (K : Below A₀ base outer g) (hsm : G.UpToSlots s'.heap) (XB : KF.In base) (TB : Top p loose mean mg mb base)
    (ex : nsIn KF mainGlobals x = some (some (.ref C))) (q2 : excD KF C C true = true)
    (k : ∀ h' g', KtsTurn (outer.filterMap (·.frame)) g g' → Fr g' L h' m → News g' L h' news → Below A₀ base outer g' → KF.In g' → Top p loose mean mg mb g' →
      wpAny (model prog w) ((A₀.deeper (envOf name scope L a cd)).mark (some (.ref e))) (execs (b₀ :: suite) (envOf name scope L a cd)) Q E { s' with heap := h' })
    (hk : scope.kind = .function := by rfl) (hx : (envOf name scope L a cd).kindOf x = some .globalImplicit := by rfl) (hd : (x == ("__debug__" : Str)) = false := by decide)
    (hE : PassesOwnAt (model prog w) ((A₀.deeper (envOf name scope L a cd)).mark (some (.ref e))) (A₀.deeper (envOf name scope L a cd)) (envOf name scope L a cd) E := by passes_own) :
    wpAny (model prog w) (A₀.deeper (envOf name scope L a cd)) (noteFrame (.ref e) (envOf name scope L a cd))
      (fun _ s₂ => wpAny (model prog w) (A₀.deeper (envOf name scope L a cd)) (setFlight (.ref e) none) (fun _ s₃ =>
        wpAny (model prog w) (A₀.deeper (envOf name scope L a cd)) (handleBy (.ref e) (envOf name scope L a cd) (.ExceptHandler (some (.Name x np)) none (b₀ :: suite) pos :: rest)) Q E s₃) E s₂) E s' := by
  k_extra "hide"
  obtain ⟨⟨B, hB, hBG, hl, hfl, hnew⟩, htup⟩ := R
  unfold G9
  have hL : B.get? L = none := by
    k_extra "hide"
    obtain ⟨_, ⟨L', _, hf, hn', _⟩, _⟩ := hfl.2.2.1
    unfold G9
    obtain rfl : L = L' := Option.some.inj hf
    exact hn'
  refine wpAny_looks_onW (Around.frames_deeper K.stack) rfl hfl fun h₄ hheld₄ hsm₄ => ?_
  refine wpAny_landsW hheld₄ fun h₅ hheld hsm₅' => ?_
  have hsm₅ := hsm₄.trans hsm₅'
  k_extra "hide"
  obtain ⟨g₅, T₅, F₅, K₅⟩ := kts_ground K F hBG hheld.1 (hsm.trans hsm₅)
  unfold G9
  have X₅ : KF.In g₅ := XB.keeps K₅.stays
  have P₅ : TopRead p loose mg mb g₅ := topRead_of (TB.keeps K₅.stays)
  k_extra "hide"
  obtain ⟨ob, hob, hobc⟩ := hheld.there
  unfold G9
  k_extra "hide"
  obtain ⟨nm, q', N, bs, bm, hdct, sn, sub, ab, col, dd, k0, k1, k2, k3, k5, newId, hC, hbase, hCD⟩ := excD_cls X₅ q2
  unfold G9
  have hC₅ := F₅.keep _ _ hC
  refine wpAny_handleBy_cons (codeAny_handlers_test (name_K F₅ X₅ P₅ ex ?_ hk hx hd)) (by intro q; cases q)
  refine wpAny_excMatches_sub_self hC₅ hob hobc hbase (codeAny_handlers_suite ?_)
  refine lands_againW hheld fun h₆ hfl₆ hsm₆ => ?_
  k_extra "hide"
  obtain ⟨g₆, T₆, F₆, K₆⟩ := kts_ground K F hBG hfl₆.1 ((hsm.trans hsm₅).trans hsm₆)
  unfold G9
  have Nl : News g₆ L h₆ news := fun q hq => ⟨hfl₆.1 _ _ (hl q hq).1, (fun z => by have := (hl q hq).1; rw [z, hL] at this; cases this), T₆.none_ _ (kts_none F.keep (hl q hq).2.1)⟩
  exact wpAny_passesOwnAt hE (k h₆ g₆ T₆ F₆ Nl K₆ (XB.keeps K₆.stays) (TB.keeps K₆.stays))
end
end
section
theorem c_limits {w : World} {vw : Program} {loose : List Str} {mean : ExcName → Option Value} {mg mb : Str → Option Value} {dp un : Nat} {gd : Option (List Code)} {cn : Str} {cs : Scope} {a : Addr} {ccd : Value} {cl : List (Str × Addr)} {outer : List Env} {A₀ : Around} {base h₀ : Heap} {L : Addr} {m : Str → Option Value} {s : Shared} {Q E : Value → Shared → Prop} {rest : List (Addr × Obj)} {depth most : Int} {t1 t2 : Tok}
   (B : Below A₀ base outer h₀ := by k_asm) (F : Fr h₀ L s.heap m := by k_asm) (X : (Mine.k0.heap_1 w.params).In h₀ := by k_asm) (T : Top vw loose mean mg mb h₀ := by k_asm) (hk : cs.kind = .function := by exact rfl) (N : News h₀ L s.heap rest) (hdp : dp + 6 < recursionLimit := by ktr_room) (hu : un + 240 < cLine := by ktr_units)
   (ret : ∀ (lm ld : Addr) g1 g2 q1 q2 h' tk', Fr h₀ L h' m → News h₀ L h' ((lm, W.instObj 533 ld) :: (ld, W.dictOf [⟨g1, .str (Str.ofString "most_depth") q1, .int depth t1⟩, ⟨g2, .str (Str.ofString "most_size") q2, .int most t2⟩] 2) :: rest) →
     (∀ q ∈ rest, q.1 < ld) → ld < lm → Q (.ref lm) { s with heap := h', toks := tk' }) :
   wpAny (model PySem.Challenge.pw_sm0079_01 w) (ktrTop dp un gd cn cs L a ccd cl outer) (call (.ref 533) [.int depth t1, .int most t2]) Q E s := by
  k_steps
  all_goals (try k_data)
  all_goals first | exact ret _ _ _ _ _ _ _ _ (by assumption) (by assumption) (by k_extra "ltAll") (by k_extra "lt")
theorem sub5 {a b c t d : Addr × Obj} {X : List (Addr × Obj)} : ∀ q ∈ a :: t :: d :: X, q ∈ a :: b :: c :: t :: d :: X := by
  intro q hq
  simp only [List.mem_cons] at hq ⊢
  rcases hq with h | h | h | h <;> simp only [h, true_or, or_true]
theorem c_table {w : World} {vw : Program} {loose : List Str} {mean : ExcName → Option Value} {mg mb : Str → Option Value} {dp un : Nat} {gd : Option (List Code)} {cn : Str} {cs : Scope} {a : Addr} {ccd : Value} {cl : List (Str × Addr)} {outer : List Env} {A₀ : Around} {base h₀ : Heap} {L : Addr} {m : Str → Option Value} {s : Shared} {Q E : Value → Shared → Prop} {rest : List (Addr × Obj)} {lm : Addr}
   (B : Below A₀ base outer h₀ := by k_asm) (F : Fr h₀ L s.heap m := by k_asm) (X : (Mine.k0.heap_1 w.params).In h₀ := by k_asm) (T : Top vw loose mean mg mb h₀ := by k_asm) (hk : cs.kind = .function := by exact rfl) (N : News h₀ L s.heap rest) (hdp : dp + 6 < recursionLimit := by ktr_room) (hu : un + 240 < cLine := by ktr_units)
   (ret : ∀ (tb td pm : Addr) po v2 v3 g1 g2 g3 g4 q1 q2 q3 q4 h' tk', Fr h₀ L h' m →
     News h₀ L h' ((pm, po) :: (tb, W.instObj 675 td) :: (td, W.dictOf [⟨g1, .str (Str.ofString "limits") q1, .ref lm⟩, ⟨g2, .str (Str.ofString "outer") q2, v2⟩, ⟨g3, .str (Str.ofString "general") q3, v3⟩, ⟨g4, .str (Str.ofString "parameters") q4, .ref pm⟩] 4) :: rest) →
     po.IsDictOf (PySem.strKind PySem.Challenge.pw_sm0079_01 w) [] → (pm == sysModules) = false → (∀ q ∈ rest, q.1 < td) → td < tb → tb < pm → Q (.ref tb) { s with heap := h', toks := tk' }) :
   wpAny (model PySem.Challenge.pw_sm0079_01 w) (ktrTop dp un gd cn cs L a ccd cl outer) (call (.ref 675) [.ref lm]) Q E s := by
  k_steps
  all_goals (try k_data)
  all_goals (have kN9 := ‹News h₀ L _ _›)
  all_goals exact ret _ _ _ _ _ _ _ _ _ _ _ _ _ _ _ _ (by assumption) (fun q hq => kN9 q (sub5 q hq)) (by assumption) (by assumption) (by k_extra "ltAll") (by k_extra "lt") (by k_extra "lt")
end
section
section
variable {prog : Program} {w : World} {A : Around} {E : Value → Shared → Prop} {h₀ : Heap} {env : Env} {body : List Stmt} {target : PySem.Expr} {Q : Flow → Shared → Prop} {s : Shared} {I : Addr} {keep : List (Addr × Obj)}
theorem unrPostW_mono {L : Addr} {s₁ : Shared} {its : List (Addr × Obj)} {r r' : (Str → Option Value) → List (Addr × Obj) → Prop} (h : ∀ m n, r m n → r' m n) {fl : Flow} {s₂ : Shared} (k : UnrPostW h₀ L s₁ its r Q fl s₂) : UnrPostW h₀ L s₁ its r' Q fl s₂ := by
  cases fl with
  | ret v => exact k
  | brk => exact k
  | cont => obtain ⟨a, b, c, d, e1, e2, e3, e4, e5⟩ := k; exact ⟨a, b, c, d, e1, e2, e3, e4, h _ _ e5⟩
  | next => obtain ⟨a, b, c, d, e1, e2, e3, e4, e5⟩ := k; exact ⟨a, b, c, d, e1, e2, e3, e4, h _ _ e5⟩
theorem keysRest_inv (J : List (Str × Value) → (Str → Option Value) → List (Addr × Obj) → Prop)
    (step : ∀ k v r m news (o : Obj) t h tk, J ((k, v) :: r) m news → o.cls = .type "dict_keyiterator" → Fr h₀ env.locals h m → News h₀ env.locals h ((I, o) :: news) →
      wpAny (model prog w) A (assign target env (.str k t)) (fun _ s₂ => wpAny (model prog w) A (execs body env) (UnrPostW h₀ env.locals { s with heap := h, toks := tk } [(I, o)] (fun m' n' => SubL keep n' ∧ J r m' n') Q) E s₂) E { s with heap := h, toks := tk })
    (fin : ∀ m news h tk, J [] m news → Fr h₀ env.locals h m → News h₀ env.locals h news → Q .next { s with heap := h, toks := tk }) :
    ∀ kvs m news, J kvs m news → ItemsRest prog w A E h₀ env target body Q s [(I, "dict_keyiterator")] keep (kvs.map fun p => Itm.tok (kyVal (PyData.str p.1))) m news := by
  intro kvs
  induction kvs with
  | nil => intro m news hJ; exact ItemsRest.zero fun h tk F N => fin m news h tk hJ F N
  | cons p r ih =>
    obtain ⟨k, v⟩ := p
    intro m news hJ
    refine ItemsRest.tok fun t h tk F => AllObj.cons fun o hc => AllObj.nil fun N => ?_
    refine wpAny_mono (step k v r m news o t h tk hJ hc F N) (fun _ s₂ k₂ => wpAny_mono k₂ (fun fl s₃ k₃ => ?_) fun _ _ q => q) fun _ _ q => q
    exact unrPostW_mono (fun m n ⟨a, b⟩ => ⟨a, ih m n b⟩) k₃
end
end
section
theorem KnIs.mono {l l' : List (Addr × Obj)} {kvs : List (Str × Value)} {kn : Known} (k : KnIs l kvs kn) (h : ∀ q ∈ l, q ∈ l') : KnIs l' kvs kn := by
  intro n
  have g := k n
  cases hg : knGet kn n with
  | none => rw [hg] at g; exact g
  | some ps =>
    rw [hg] at g
    obtain ⟨v, a, ⟨e⟩⟩ := g
    exact ⟨v, a, ⟨e.mono h⟩⟩
section
variable {prog : Program} {w : World} {A : Around} {E : Value → Shared → Prop} {s : Shared} {Q : Value → Shared → Prop}
theorem my_ne_same {x : Str} {t u : Tok} (h : Q (.bool false) s) : wpAny (model prog w) A (compareOp .NotEq (.str x t) (.str x u)) Q E s := by
  refine ne_str ?_
  simpa using h
end
def ToldV (R : Res) (v : Str) : Prop := (∃ x, R = .ok x ∧ v = ⟨x.toArray⟩) ∨ (R = .bad 162 ∧ v = Str.ofString "entity fault") ∨ (R = .bad 174 ∧ v = Str.ofString "limit fault")
structure ToldA where
  (tb td pm lm ld : Addr)
  (h1 h2 h3 h4 h5 h6 : Int)
  (k1 k2 k3 k4 k5 k6 td1 tz : Tok)
  (v2 v3 : Value)
abbrev ToldA.base (z : ToldA) (depth most : Int) (rest : List (Addr × Obj)) : List (Addr × Obj) :=
  (z.tb, W.instObj 675 z.td) :: (z.td, W.dictOf [⟨z.h1, .str (Str.ofString "limits") z.k1, .ref z.lm⟩, ⟨z.h2, .str (Str.ofString "outer") z.k2, z.v2⟩, ⟨z.h3, .str (Str.ofString "general") z.k3, z.v3⟩, ⟨z.h4, .str (Str.ofString "parameters") z.k4, .ref z.pm⟩] 4) :: (z.lm, W.instObj 533 z.ld) :: (z.ld, W.dictOf [⟨z.h5, .str (Str.ofString "most_depth") z.k5, .int depth z.td1⟩, ⟨z.h6, .str (Str.ofString "most_size") z.k6, .int most z.tz⟩] 2) :: rest
inductive ToldJ (w : World) (z : ToldA) (depth most : Int) (kd : Addr) (raw : Str) (tr : Tok) (kn : Known) (kkvs : List (Str × Value)) (rest : List (Addr × Obj)) (I : Addr) (r : List (Str × Value)) (m₁ : Str → Option Value) (news₁ : List (Addr × Obj)) : Prop
  | mk : (m₁ (Str.ofString "table") = some (.ref z.tb)) → (m₁ (Str.ofString "known") = some (.ref kd)) → (m₁ (Str.ofString "raw") = some (.str raw tr)) → ∀ (pre : List (Str × Value)) (knP : Known) (kvsT : List (Str × Value)) (po : Obj) (ents : List (Addr × Obj)), (pre ++ r = kkvs) → (news₁ = (z.pm, po) :: (ents ++ z.base depth most rest)) → (po.IsDictOf (PySem.strKind PySem.Challenge.pw_sm0079_01 w) kvsT) → (KnIs (ents ++ z.base depth most rest) kvsT knP) → (KnownOk knP) → ((∀ q ∈ ents ++ z.base depth most rest, q.1 ≠ z.pm)) → ((∀ q ∈ ents, q.1 ≠ I)) → ((∀ n, knGet knP n = if n ∈ pre.map (·.1) then knGet kn n else none)) → (kvsT.length = pre.length) → ToldJ w z depth most kd raw tr kn kkvs rest I r m₁ news₁
def TabOk.of {w : World} {z : ToldA} {depth most : Int} {rest l : List (Addr × Obj)} {po : Obj} {kvsT : List (Str × Value)} (hp : (z.pm, po) ∈ l) (hb : ∀ q ∈ z.base depth most rest, q ∈ l) (hd : po.IsDictOf (PySem.strKind PySem.Challenge.pw_sm0079_01 w) kvsT) (low : (z.pm == sysModules) = false) :
    TabOk PySem.Challenge.pw_sm0079_01 w l z.tb z.lm kvsT :=
  { td := z.td, pm := z.pm, po := po, h1 := z.h1, h2 := z.h2, h3 := z.h3, h4 := z.h4, k1 := z.k1, k2 := z.k2, k3 := z.k3, k4 := z.k4, v2 := z.v2, v3 := z.v3, mt := hb _ (.head _), md := hb _ (.tail _ (.head _)), mp := hp, isd := hd, low := low }
theorem lit_go {kn : Known} {depth most : Int} {ps : List Part} (ok : PartsOk ps) (hl : ps.length ≤ 3) : ∃ fuel, fuel ≤ 300 ∧ go kn depth most fuel [pcsLit ps] [] 0 [] = some (.ok (textOf ps).cps.toList) := by
  obtain ⟨k, h1, h2⟩ := run_lit (kn := kn) (depth := depth) (most := most) ps [] [] [] 0 [] ok
  refine ⟨2 + k, by omega, ?_⟩
  have := h2 2
  rw [List.append_nil] at this
  rw [this]
  rfl
end
section
theorem valueAt_snoc {kvs : List (Str × Value)} {k n : Str} {v : Value} (h : valueAt kvs k = none) : valueAt (kvs ++ [(k, v)]) n = if n = k then some v else valueAt kvs n := by
  by_cases e : n = k
  · subst e
    rw [if_pos rfl]
    unfold valueAt at h ⊢
    rw [List.find?_append]
    cases hf : kvs.find? (fun kv => kv.1 = n) with
    | none => simp
    | some x => rw [hf] at h; cases h
  · rw [if_neg e]
    unfold valueAt
    rw [List.find?_append]
    have : ¬ k = n := fun q => e q.symm
    cases hf : kvs.find? (fun kv => kv.1 = n) with
    | none => simp [this]
    | some x => simp
theorem knGet_cons {kn : Known} {k n : Str} {ps : List Part} : knGet ((k, ps) :: kn) n = if n = k then some ps else knGet kn n := by
  unfold knGet
  rw [List.find?_cons]
  by_cases e : n = k
  · subst e; simp
  · have : ¬ k = n := fun q => e q.symm
    simp [e, this]
theorem KnIs.step {l l' : List (Addr × Obj)} {kvs : List (Str × Value)} {kn : Known} {k : Str} {ps : List Part} {v : Value} (h : KnIs l kvs kn) (hl : ∀ q ∈ l, q ∈ l') (e : knGet kn k = Option.none) (ent : EntOk l' v (textOf ps)) : KnIs l' (stored kvs k v) ((k, ps) :: kn) := by
  have h0 := h.none e
  rw [stored_absent h0]
  intro n
  rw [knGet_cons, valueAt_snoc h0]
  by_cases q : n = k
  · rw [if_pos q, if_pos q]; exact ⟨_, rfl, ⟨ent⟩⟩
  · rw [if_neg q, if_neg q]; exact h.mono hl n
theorem valueAt_mid {pre r : List (Str × Value)} {k : Str} {v : Value} (nd : ((pre ++ (k, v) :: r).map (·.1)).Nodup) : valueAt (pre ++ (k, v) :: r) k = some v ∧ k ∉ pre.map (·.1) := by
  rw [List.map_append, List.map_cons, List.nodup_append] at nd
  have hn : k ∉ pre.map (·.1) := fun q => nd.2.2 k q k (.head _) rfl
  refine ⟨?_, hn⟩
  unfold valueAt
  rw [List.find?_append]
  have : pre.find? (fun kv => kv.1 = k) = none := List.find?_eq_none.mpr fun x hx q => hn (List.mem_map.mpr ⟨x, hx, by simpa using q⟩)
  rw [this]
  simp
theorem listNodup_of {prog : Program} {w : World} {o : Obj} {kvs : List (Str × Value)} (h : o.IsDictOf (PySem.strKind prog w) kvs) : (kvs.map (·.1)).Nodup := by
  obtain ⟨_, _, _, _, _, _, h⟩ := h
  exact h
theorem base_off {z : ToldA} {depth most : Int} {rest : List (Addr × Obj)} {P : Addr} (h1 : @LT.lt Nat instLTNat z.tb P) (h2 : @LT.lt Nat instLTNat z.td z.tb) (h3 : @LT.lt Nat instLTNat z.lm z.td) (h4 : @LT.lt Nat instLTNat z.ld z.lm) (h5 : ∀ q ∈ rest, @LT.lt Nat instLTNat q.1 z.ld) : ∀ q ∈ z.base depth most rest, q.1 ≠ P := by
  intro q hq e
  have e' : @Eq Nat q.1 P := e
  simp only [ToldA.base, List.mem_cons] at hq
  rcases hq with rfl | rfl | rfl | rfl | hq <;> (try dsimp only at e')
  · omega
  · omega
  · omega
  · omega
  · have := h5 q hq
    omega
theorem toldTurn {a b c d : Addr × Obj} {X : List (Addr × Obj)} : ∀ q ∈ d :: c :: (a :: b :: X), q ∈ a :: b :: c :: d :: X := by
  intro q hq
  simp only [List.mem_cons] at hq ⊢
  rcases hq with h | h | h | h | h <;> simp only [h, true_or, or_true]
theorem ToldJ.step {w : World} {z : ToldA} {depth most : Int} {kd : Addr} {raw : Str} {tr : Tok} {kn : Known} {kkvs : List (Str × Value)} {rest : List (Addr × Obj)} {I : Addr} {r : List (Str × Value)} {m₁ : Str → Option Value}
    {pre : List (Str × Value)} {k : Str} {v : Value} {knP : Known} {kvsT : List (Str × Value)} {po' : Obj} {ents : List (Addr × Obj)} {ps : List Part} {e ed : Addr} {g1 g2 g3 g4 : Int} {q1 q2 q3 q4 t1 t2 : Tok}
    (e1 : m₁ (Str.ofString "table") = some (.ref z.tb)) (e2 : m₁ (Str.ofString "known") = some (.ref kd)) (e3 : m₁ (Str.ofString "raw") = some (.str raw tr)) (hpre : pre ++ (k, v) :: r = kkvs) (nd : (kkvs.map (·.1)).Nodup)
    (hpo : po'.IsDictOf (PySem.strKind PySem.Challenge.pw_sm0079_01 w) (stored kvsT k (.ref e))) (hkn : KnIs (ents ++ z.base depth most rest) kvsT knP) (hok : KnownOk knP) (hne : ∀ q ∈ ents ++ z.base depth most rest, q.1 ≠ z.pm) (hnI : ∀ q ∈ ents, q.1 ≠ I)
    (hkp : ∀ n, knGet knP n = if n ∈ pre.map (·.1) then knGet kn n else none) (hlen : kvsT.length = pre.length) (hps : knGet kn k = some ps) (hpok : PartsOk ps ∧ ps.length ≤ 3)
    (a1 : e ≠ z.pm) (a2 : ed ≠ z.pm) (a3 : e ≠ I) (a4 : ed ≠ I) :
    ToldJ w z depth most kd raw tr kn kkvs rest I r m₁ ((z.pm, po') :: (((e, W.instObj 568 ed) :: (ed, W.dictOf [⟨g1, .str (Str.ofString "name") q1, .str k t1⟩, ⟨g2, .str (Str.ofString "value") q2, .str (textOf ps) t2⟩, ⟨g3, .str (Str.ofString "system") q3, .none⟩, ⟨g4, .str (Str.ofString "notation") q4, .none⟩] 4) :: ents) ++ z.base depth most rest)) := by
  subst hpre
  obtain ⟨hv, hn⟩ := valueAt_mid nd
  have hk0 : knGet knP k = none := by rw [hkp, if_neg hn]
  refine ⟨e1, e2, e3, pre ++ [(k, v)], (k, ps) :: knP, stored kvsT k (.ref e), po', _, by simp, rfl, hpo, ?_, ?_, ?_, ?_, ?_, ?_⟩
  · exact hkn.step (fun q hq => .tail _ (.tail _ hq)) hk0 ⟨e, ed, g1, g2, g3, g4, q1, q2, q3, q4, t2, _, rfl, .head _, .tail _ (.head _)⟩
  · exact List.forall_mem_cons.mpr ⟨hpok, hok⟩
  · exact List.forall_mem_cons.mpr ⟨a1, List.forall_mem_cons.mpr ⟨a2, hne⟩⟩
  · exact List.forall_mem_cons.mpr ⟨a3, List.forall_mem_cons.mpr ⟨a4, hnI⟩⟩
  · intro n
    rw [knGet_cons, hkp, List.map_append, List.map_cons, List.map_nil]
    by_cases q : n = k
    · subst q; simp [hps]
    · rw [if_neg q]
      by_cases c : n ∈ pre.map (·.1)
      · rw [if_pos c, if_pos (List.mem_append_left _ c)]
      · rw [if_neg c, if_neg (fun x => (List.mem_append.mp x).elim c (fun y => q (List.mem_singleton.mp y)))]
  · rw [stored_absent (hkn.none hk0)]; simp [hlen]
theorem lit_str (x : Str) : (⟨x.cps.toList.toArray⟩ : Str) = x := str_ext (by simp)
theorem swap2 {a b : Addr × Obj} {X : List (Addr × Obj)} : ∀ q ∈ b :: a :: X, q ∈ a :: b :: X := by
  intro q hq
  simp only [List.mem_cons] at hq ⊢
  rcases hq with h | h | h <;> simp only [h, true_or, or_true]
theorem KnIs.full {l : List (Addr × Obj)} {kvs : List (Str × Value)} {knP kn : Known} (h : KnIs l kvs knP) (e : ∀ n, knGet knP n = knGet kn n) : KnIs l kvs kn := by
  intro n
  rw [← e n]
  exact h n
theorem keys_none {kvs : List (Str × Value)} {n : Str} (h : n ∉ kvs.map (·.1)) : valueAt kvs n = none := by
  unfold valueAt
  rw [List.find?_eq_none.mpr fun x hx q => h (List.mem_map.mpr ⟨x, hx, by simpa using q⟩)]
  rfl
end
section
section
theorem kw44 : True := by
  k_with "eval Name" => ((k_here; k_dflt (refine' PyProof.Rows.ld ?q150k1 ?q150k2 ?_; (case q150k1 => k_asm); (case q150k2 => first | with_reducible assumption | exact rfl | assumption); k_whole)))
  k_with "call ref" => (((k_here; (with_reducible show wpAny _ _ (call (Value.ref 533) _) _ _ _); k_dflt (refine' c_limits (N := by k_asm) (ret := fun lm ld g1' g2' q1' q2' h' tk' F' N' l1 l2 => ?_); k_whole); k_lt l1); (try dsimp only)))
  k_with "call ref" => (((k_here; (with_reducible show wpAny _ _ (call (Value.ref 675) _) _ _ _); k_dflt (refine' c_table (N := by k_asm) (ret := fun tb td pm po v2 v3 g1 g2 g3 g4 q1 q2 q3 q4 h' tk' F' N' hpo hlow l1 l3 l4 => ?_); k_whole); k_lt l1); (try dsimp only)))
  k_with "exec For Name Name cons nil" => ((k_here; (rename Fr _ _ _ _ => lF'z); (rename News _ _ _ _ => lN'z); (with_unfolding_all refine' For_turns lF'z ?_); k_whole; k_dflt (refine PyProof.Rows.ld lF'z (by rfl) ?_); k_dflt (refine kta_keys (knd := PySem.strKind _ _) (enc := PyData.str) (by rfl) lF'z lN'z (by k_mem) (by with_reducible assumption) (by with_reducible assumption) (fun _ _ h => Value.isStrOf_shape h) rfl ?_); refine while_mark ?_))
  k_with "subscriptTail Name" => ((k_here; (with_reducible show wpAny _ _ (subscriptTail _ _ (Value.ref _) (Value.str _ _)) _ _ _); k_dflt (refine kda_item (knd := PySem.strKind _ _) (by k_asm) (by k_mem) (by with_reducible assumption) (strKind_is _ _ _ _) (by with_reducible assumption) ?_)))
  k_with "call ref" => (((k_here; (with_reducible show wpAny _ _ (call (Value.ref 710) _) _ _ _); k_dflt (refine' c_written (N := by k_asm) (hm := by k_mem) (hp := PartsUp.at (by assumption) (fun q hq => by k_mem)) (hlen := by assumption) (hmk := by decide) (hsg := by decide) (ret := fun t'z h'z tk'z F'z N'z => ?_); k_whole)); (try dsimp only)))
  k_with "call ref" => ((k_here; (with_reducible show wpAny _ _ (call (Value.ref 358) _) _ _ _); refine while_mark ?_))
  k_with "call ref" => ((k_here; (with_reducible show wpAny _ _ (call (Value.ref 616) _) _ _ _); refine while_mark ?_))
  k_with "compareOp NotEq str str" => ((k_here; refine while_mark ?_))
  k_with "UnrEndW" => ((k_here; refine while_mark ?_))
  trivial
theorem c_told {w : World} {vw : Program} {loose : List Str} {mean : ExcName → Option Value} {mg mb : Str → Option Value} {dp un : Nat} {gd : Option (List Code)} {cn : Str} {cs : Scope} {a : Addr} {ccd : Value} {cl : List (Str × Addr)} {outer : List Env} {A₀ : Around} {base h₀ : Heap} {L : Addr} {m : Str → Option Value} {s : Shared} {Q E : Value → Shared → Prop} {rest : List (Addr × Obj)} {kd : Addr} {depth most : Int} {t1 t2 tr : Tok} {kn : Known} {raw : Str} {pcs : List Pc} {R : Res} {fuel : Nat}
   (B : Below A₀ base outer h₀ := by k_asm) (F : Fr h₀ L s.heap m := by k_asm) (X : (Mine.k0.heap_1 w.params).In h₀ := by k_asm) (T : Top vw loose mean mg mb h₀ := by k_asm) (hk : cs.kind = .function := by exact rfl) (XB : (Mine.k0.heap_1 w.params).In base) (TB : Top vw loose mean mg mb base) (D : KtsDicts (outer.filterMap (·.frame)) h₀)
   (N : News h₀ L s.heap rest) (kl : KnLaw PySem.Challenge.pw_sm0079_01 w rest kd kn) (hkk : KnownOk kn) (hkl : kl.kkvs.length ≤ 50)
   (hraw : raw.length ≤ 1000) (hfl : raw.cps.toList = flat pcs) (hok : PcsOk pcs) (hm : most ≤ 3000) (hfuel : fuel ≤ 300) (hgo : go kn depth most fuel [pcs] [] 0 [] = some R) (hR : ∀ x, R = .ok x → x.length ≤ 1000) (hRC : ∀ C, R = .bad C → C = 162 ∨ C = 174) (hdp : dp + 40 < recursionLimit := by ktr_room) (hu : un + 1600 < cLine := by ktr_units)
   (ret : ∀ v t h' tk', ToldV R v → Fr h₀ L h' m → News h₀ L h' rest → Q (.str v t) { s with heap := h', toks := tk' })
   (ret2 : ∀ v t h₁ h' tk', ToldV R v → KtsTurn (outer.filterMap (·.frame)) h₀ h₁ → Fr h₁ L h' m → News h₁ L h' rest → Below A₀ base outer h₁ → (Mine.k0.heap_1 w.params).In h₁ → Top vw loose mean mg mb h₁ → KtsDicts (outer.filterMap (·.frame)) h₁ → Q (.str v t) { s with heap := h', toks := tk' }) :
   wpAny (model PySem.Challenge.pw_sm0079_01 w) (ktrTop dp un gd cn cs L a ccd [] outer) (call (.ref 738) [.str raw tr, .ref kd, .int depth t1, .int most t2]) Q E s := by
  k_extra "hide"
  obtain ⟨ko, kkvs, mko, kisd, klow, kget⟩ := kl
  unfold G9
  dsimp only at hkl
  refine wpAny_call ?_
  k_dflt (refine' code_defS (g₀ := h₀) (A₀ := A₀) (outer := outer) (base := base) ?B ?F ?X ?N ?T XB TB D KtsTurn.refl ?hA ?ho ?hcd ?hr ?hb ?hl ?h ?c1 ?c2 ?c3 ?c4 ?c5)
  case B => k_asm
  case F => k_asm
  case X => k_asm
  case N => k_asm
  case T => k_asm
  case hA => exact rfl
  case ho => k_is
  case hcd => k_is
  case hr => ktr_room
  case hb => first | exact BindsTo.of_eq rfl | exact binds_K (by k_in) rfl (by k_is) rfl rfl rfl
  case hl => exact locs rfl
  case c1 => exact hk
  case c2 => exact rfl
  case c3 => exact rfl
  case c4 => exact rfl
  case c5 => decide
  case h =>
    k_whole
    intro g' L' h' FG' F' N' B' X' T' D'
    (try dsimp only)
    (try k_fold)
    k_steps
    unfold WhileMark
    intro I l1
    k_dflt (refine keysRest_inv (keep := [(kd, ko)]) (J := ToldJ w ⟨tb, td, pm, lm, ld, g1, g2, g3, g4, g1', g2', q1, q2, q3, q4, q1', q2', t1, t2, v2, v3⟩ depth most kd raw tr kn kkvs rest I) ?step ?fin kkvs _ _ ?init)
    case init =>
      exact ⟨rfl, rfl, rfl, [], [], [], po, [], rfl, rfl, hpo, fun n => rfl, (fun _ q => nomatch q), base_off l4 l3 (by dsimp only; k_extra "lt") l2 (by k_extra "ltAll"), (fun _ q => nomatch q), fun n => rfl, rfl⟩
    case step =>
      intro k v r m₁ news₁ o t h₁ tk₁ pz0 ho F₁ N₁
      k_extra "hide"
      obtain ⟨e1, e2, e3, pre, knP, kvsT, po₁, ents, hpre, rfl, hpo₁, hkn, hok₁, hne, hnI, hkp, hlen⟩ := pz0
      unfold G9
      have nd := listNodup_of kisd
      have hv := hpre ▸ (valueAt_mid (hpre.symm ▸ nd)).1
      have kk := kget k
      cases hg : knGet kn k with
      | none => rw [hg] at kk; dsimp only at kk; rw [hv] at kk; cases kk
      | some ps =>
        rw [hg] at kk
        k_extra "hide"
        obtain ⟨l, us, nl, gv, gl, gp, gu⟩ := kk
        unfold G9
        have gup := gp.up
        have hpk : PartsOk ps ∧ ps.length ≤ 3 := hkk _ (knGet_mem hg)
        dsimp only [ToldA.base] at N₁ hkn hne e1
        k_steps
        unfold WhileMark
        k_extra "hide"
        obtain ⟨fu, hfu, hgo9⟩ := lit_go (kn := knP) (depth := depth) (most := most) hpk.1 hpk.2
        unfold G9
        have hwl := written_len (mark := Str.ofString "&#37;") (sign := Str.ofString "&#65;") (by decide) (by decide) hpk.1
        have hw3 : ps.length ≤ 3 := hpk.2
        have htl := textOf_len hpk.1 hpk.2
        have hk0 : knGet knP k = none := by rw [hkp, if_neg (valueAt_mid (hpre.symm ▸ nd)).2]
        have hpl : pre.length ≤ 50 := by
          have := congrArg List.length hpre
          rw [List.length_append] at this
          omega
        have hI : ∀ q ∈ ents ++ (ToldA.base ⟨tb, td, pm, lm, ld, g1, g2, g3, g4, g1', g2', q1, q2, q3, q4, q1', q2', t1, t2, v2, v3⟩ depth most rest), q.1 ≠ I := fun q hq => (List.mem_append.mp hq).elim (hnI q) (fun hq => Nat.ne_of_lt (l1 q (.tail _ hq)))
        have hpI : pm ≠ I := Nat.ne_of_lt (l1 (pm, po) (.head _))
        k_dflt (refine' c_lit (kvs := kvsT) (kn := knP) (pcs := pcsLit ps) (R := .ok (textOf ps).cps.toList) (fuel := fu) (rest := (I, o) :: (pm, po₁) :: (ents ++ (ToldA.base ⟨tb, td, pm, lm, ld, g1, g2, g3, g4, g1', g2', q1, q2, q3, q4, q1', q2', t1, t2, v2, v3⟩ depth most rest))) (N := by k_asm) (tab := TabOk.of (z := ⟨tb, td, pm, lm, ld, g1, g2, g3, g4, g1', g2', q1, q2, q3, q4, q1', q2', t1, t2, v2, v3⟩) (.tail _ (.head _)) (fun q hq => .tail _ (.tail _ (List.mem_append_right _ hq))) hpo₁ hlow) (hlm := .tail _ (.tail _ (List.mem_append_right _ (.tail _ (.tail _ (.head _)))))) (hld := .tail _ (.tail _ (List.mem_append_right _ (.tail _ (.tail _ (.tail _ (.head _))))))) (hkn := hkn.mono (fun q hq => .tail _ (.tail _ hq))) (hkk := hok₁) (hraw := by omega) (hfl := flat_pcsLit hpk.1) (hok := pcsLit_ok hpk.1) (hm := hm) (hfuel := hfu) (hgo := hgo9) (hR := fun x e => by cases e; rw [str_len]; omega) (ret := ?ret) (thr := fun _ _ _ _ _ _ _ e => nomatch e))
        intro x t9 h9 tk9 hx F9 N9
        obtain rfl : x = (textOf ps).cps.toList := by cases hx; rfl
        rw [lit_str]
        dsimp only [ToldA.base] at N9
        k_steps
        unfold WhileMark
        k_dflt (refine my_ne_same ?_)
        k_steps
        unfold WhileMark
        rename News _ _ _ _ => kN8
        k_dflt (refine' c_declare (kvs := kvsT) (rest := (I, o) :: (ents ++ (ToldA.base ⟨tb, td, pm, lm, ld, g1, g2, g3, g4, g1', g2', q1, q2, q3, q4, q1', q2', t1, t2, v2, v3⟩ depth most rest))) (N := newsSub kN8 swap2) (mt := .tail _ (List.mem_append_right _ (.head _))) (md := .tail _ (List.mem_append_right _ (.tail _ (.head _)))) (hd := hpo₁) (low := hlow) (hv := hkn.none hk0) (hkl := by omega) (hr := List.forall_mem_cons.mpr ⟨hpI.symm, hne⟩) (ret := ?retb))
        intro e ed po' f1 f2 f3 f4 p1 p2 p3 p4 t8 t7 h' tk' F' N' hpo' d1 d2 d3
        dsimp only [ToldA.base] at N'
        k_steps
        unfold WhileMark
        rename Fr _ _ _ _ => lF9
        rename News _ _ _ _ => kN7
        have d1' : @LT.lt Nat instLTNat I ed := d1 (I, o) (.head _)
        have d2' : @LT.lt Nat instLTNat pm ed := d2
        have d3' : @LT.lt Nat instLTNat ed e := d3
        have x1 : e ≠ pm := by intro q; have : @Eq Nat _ _ := q; omega
        have x2 : ed ≠ pm := by intro q; have : @Eq Nat _ _ := q; omega
        have x3 : e ≠ I := by intro q; have : @Eq Nat _ _ := q; omega
        have x4 : ed ≠ I := by intro q; have : @Eq Nat _ _ := q; omega
        refine ⟨_, _, _, _, rfl, lF9, newsSub (l := (I, o) :: (pm, po') :: (e, _) :: (ed, _) :: (ents ++ (ToldA.base ⟨tb, td, pm, lm, ld, g1, g2, g3, g4, g1', g2', q1, q2, q3, q4, q1', q2', t1, t2, v2, v3⟩ depth most rest))) kN7 toldTurn, ?off, ?sub, ToldJ.step (z := ⟨tb, td, pm, lm, ld, g1, g2, g3, g4, g1', g2', q1, q2, q3, q4, q1', q2', t1, t2, v2, v3⟩) e1 e2 e3 hpre nd hpo' hkn hok₁ hne hnI hkp hlen hg hpk x1 x2 x3 x4⟩
        case off =>
          intro p hp q hq
          rw [List.mem_singleton.mp hq]
          exact (List.forall_mem_cons.mpr ⟨hpI, List.forall_mem_cons.mpr ⟨x3, List.forall_mem_cons.mpr ⟨x4, hI⟩⟩⟩ : ∀ q ∈ (pm, po') :: (e, _) :: (ed, _) :: (ents ++ _), q.1 ≠ I) p hp
        case sub => exact ⟨.tail _ (.tail _ (.tail _ (List.mem_append_right _ (.tail _ (.tail _ (.tail _ (.tail _ mko))))))), trivial⟩
    case fin =>
      intro m₁ news₁ h₁ tk₁ pz0 F₁ N₁
      k_extra "hide"
      obtain ⟨e1, e2, e3, pre, knP, kvsT, po₁, ents, hpre, rfl, hpo₁, hknP, hok₁, hne, hnI, hkp, hlen⟩ := pz0
      unfold G9
      rw [List.append_nil] at hpre
      subst hpre
      have hkn := hknP.full (kn := kn) (fun n => by
        rw [hkp]
        by_cases c : n ∈ pre.map (·.1)
        · rw [if_pos c]
        · rw [if_neg c]
          have kk := kget n
          cases hg : knGet kn n with
          | none => rfl
          | some ps =>
            rw [hg] at kk
            k_extra "hide"
            obtain ⟨l, us, nl, gv, -⟩ := kk
            unfold G9
            rw [keys_none c] at gv
            cases gv)
      dsimp only [ToldA.base] at N₁ hkn hne e1
      k_steps
      unfold WhileMark
      k_dflt (refine' c_lit (kvs := kvsT) (kn := kn) (pcs := pcs) (R := R) (fuel := fuel) (rest := (pm, po₁) :: (ents ++ (ToldA.base ⟨tb, td, pm, lm, ld, g1, g2, g3, g4, g1', g2', q1, q2, q3, q4, q1', q2', t1, t2, v2, v3⟩ depth most rest))) (N := by k_asm) (tab := TabOk.of (z := ⟨tb, td, pm, lm, ld, g1, g2, g3, g4, g1', g2', q1, q2, q3, q4, q1', q2', t1, t2, v2, v3⟩) (.head _) (fun q hq => .tail _ (List.mem_append_right _ hq)) hpo₁ hlow) (hlm := .tail _ (List.mem_append_right _ (.tail _ (.tail _ (.head _))))) (hld := .tail _ (List.mem_append_right _ (.tail _ (.tail _ (.tail _ (.head _)))))) (hkn := hkn.mono (fun q hq => .tail _ hq)) (hkk := hkk) (hraw := hraw) (hfl := hfl) (hok := hok) (hm := hm) (hfuel := hfuel) (hgo := hgo) (hR := hR) (ret := ?retc) (thr := ?thr))
      case retc =>
        intro x t9 h9 tk9 hx F9 N9
        refine leaveS_l F9 N9 fun F8 N8 => ?_
        exact ret _ _ _ _ (.inl ⟨x, hx, rfl⟩) F8 (newsSub N8 (fun q hq => .tail _ (List.mem_append_right _ (.tail _ (.tail _ (.tail _ (.tail _ hq)))))))
      case thr =>
        intro e t9 us9 h9 tk9 gg C hC FG UU RR
        rcases hRC C hC with rfl | rfl
        · k_dflt (refine caught_first (C := 162) RR FG B' UU XB TB (by k_is) (by rfl) ?_)
          intro h7 g7 T7 F7 N7 B7 X7 P7
          k_steps
          rename KtsTurn _ _ _ => kT8
          rename Fr _ _ _ _ => kF8
          rename News _ _ _ _ => kN8
          exact ret2 _ _ _ _ _ (.inr (.inl ⟨hC, rfl⟩)) kT8 kF8 (newsSub kN8 (fun q hq => .tail _ (List.mem_append_right _ (.tail _ (.tail _ (.tail _ (.tail _ hq))))))) (by assumption) (by assumption) (by assumption) (by assumption)
        · k_dflt (refine caught_second (C := 174) (D := 162) RR FG B' UU XB TB (by k_is) (by k_is) (by rfl) (by rfl) (by rfl) ?_)
          intro h7 g7 T7 F7 N7 B7 X7 P7
          k_steps
          rename KtsTurn _ _ _ => kT8
          rename Fr _ _ _ _ => kF8
          rename News _ _ _ _ => kN8
          exact ret2 _ _ _ _ _ (.inr (.inr ⟨hC, rfl⟩)) kT8 kF8 (newsSub kN8 (fun q hq => .tail _ (List.mem_append_right _ (.tail _ (.tail _ (.tail _ (.tail _ hq))))))) (by assumption) (by assumption) (by assumption) (by assumption)
end
end
section
theorem kw45 : True := by
  k_with_none
  k_with "k_all" => (first | with_reducible assumption | exact List.forall_mem_nil _ | exact allNe (by with_reducible assumption) | (refine' List.forall_mem_cons.mpr ⟨?q1a, ?q1b⟩; (case q1a => k_ne); (case q1b => k_all)) | exact subNe (by with_reducible assumption) (fun q hq => by kbo_some) | exact subNeT (by with_reducible assumption) (by with_reducible assumption) (fun q hq => by kbo_some) | exact subNeQ (by with_reducible assumption) (fun q hq => by kbo_some) | assumption)
  k_with "kbo_some" => (first | with_reducible assumption | exact List.Mem.head _ | (refine' List.mem_cons_of_mem _ ?_; kbo_some) | ((with_reducible refine List.mem_append.mpr (Or.inr ?_)); kbo_some))
  k_with "k_mem" => (first | kbo_some | assumption)
  k_with "k_upd" => (first | (refine' Upd.head ?q4a; (case q4a => k_all)) | (refine' Upd.tail ?q4a ?q4b; (case q4a => k_ne); (case q4b => k_upd)))
  k_with "k_updF" => (first | (refine' UpdF.head ?q5a; (case q5a => k_all)) | (refine' UpdF.tail ?q5a ?q5b; (case q5a => k_ne); (case q5b => k_updF)))
  k_with "k_ne" => (((try dsimp only); first | with_reducible assumption | (refine Ne.symm ?_; with_reducible assumption) | (refine Nat.ne_of_gt ?_; with_reducible assumption) | (refine Nat.ne_of_lt ?_; with_reducible assumption) | (refine neR (by with_reducible assumption) ?_; k_extra "has") | (refine neL (by with_reducible assumption) ?_; k_extra "has") | (refine neQ (by with_reducible assumption) ?_; k_extra "has") | (refine neP (by with_reducible assumption) ?_; k_extra "has") | (refine neT (by with_reducible assumption) (by with_reducible assumption) ?_; k_extra "has") | (refine neU (by with_reducible assumption) (by with_reducible assumption) ?_; k_extra "has") | exact Nat.ne_of_lt (Nat.lt_succ_self _) | exact Nat.ne_of_gt (Nat.lt_succ_self _) | omega))
  k_with "k_enter" => (first
  | (refine' code_def ?q7k1 ?q7k2 ?q7k3 ?q7k4 ?q7k5 ?q7kA ?q7kF ?q7kK ?q7k6 ?q7k7 ?q7k8 ?q7k9 ?q7kB ?_ ?q7c2 ?q7c3 ?q7c4 ?q7c5; (case q7kA => exact rfl); (case q7kF => exact rfl); (case q7kK => first | exact rfl | assumption); (case q7k1 => k_asm); (case q7k2 => k_asm); (case q7k3 => k_asm); (case q7k4 => k_asm); (case q7k5 => k_asm); (case q7k6 => k_is); (case q7k7 => k_is); (case q7k8 => ktr_room); (case q7k9 => first | exact BindsTo.of_eq rfl | exact binds_K (by k_in) rfl (by k_is) rfl rfl rfl); (case q7c5 => decide); (case q7kB => exact locs rfl); (case q7c2 => exact rfl); (case q7c3 => exact rfl); (case q7c4 => exact rfl); k_whole; intro g'z L'z h'z FG'z F'z N'z B'z X'z T'z; (try dsimp only); (try k_fold); (try (refine letA ?_; intro A9)))
  | (refine' code_defC ?q7k1 ?q7k2 ?q7k3 ?q7k4 ?q7k5 ?q7kA ?q7kF ?q7kK ?q7k6 ?q7k7 ?q7k8 ?q7k9 ?q7kB ?q7kD ?_ ?q7c2 ?q7c3 ?q7c4; (case q7kA => exact rfl); (case q7kF => exact rfl); (case q7kK => first | exact rfl | assumption); (case q7k1 => k_asm); (case q7k2 => k_asm); (case q7k3 => k_asm); (case q7k4 => k_asm); (case q7k5 => k_asm); (case q7k6 => k_is); (case q7k7 => k_is); (case q7k8 => ktr_room); (case q7k9 => first | exact BindsTo.of_eq rfl | exact binds_K (by k_in) rfl (by k_is) rfl rfl rfl); (case q7kB => exact rfl); (case q7kD => decide +kernel); (case q7c2 => exact rfl); (case q7c3 => exact rfl); (case q7c4 => exact rfl); k_whole; intro g'z L'z h'z tk'z cells'z FG'z F'z N'z Y'z B'z X'z T'z l1; (try k_lt l1); (try (have hR6 := restNe l1 (Nat.le_add_right _ 1); have hR5 := restNe l1 (Nat.le_add_right _ (1 + 1)))); (first   | (have hY := CellsAre.one Y'z; obtain ⟨o'z, hE'z, d1'z⟩ := hY; subst hE'z; clear Y'z; (first | (replace d1'z : o'z.data = .cell none := d1'z) | (replace d1'z : o'z.data = .cell (some _) := d1'z) | skip))   | (have hY := CellsAre.two Y'z; obtain ⟨o'z, o2'z, hE'z, d1'z, d2'z⟩ := hY; subst hE'z; clear Y'z; (first | (replace d1'z : o'z.data = .cell none := d1'z) | (replace d1'z : o'z.data = .cell (some _) := d1'z) | skip); (first | (replace d2'z : o2'z.data = .cell none := d2'z) | (replace d2'z : o2'z.data = .cell (some _) := d2'z) | skip))); (try simp only [List.cons_append, List.nil_append] at N'z); (try dsimp only); (try k_fold); (try (refine letA ?_; intro A9))))
  k_with "ktr_room" => (((try simp +zetaDelta only [depth_deeper, depth_in1, depth_mark, depth_under_make, depth_under_kw]); (try dsimp only [ktrTop]); (try simp only [Nat.add_assoc, Nat.reduceAdd]); refine Nat.lt_of_le_of_lt (Nat.add_le_add_left ?_ _) (by with_reducible assumption); decide))
  k_with "ktr_units" => (((try simp +zetaDelta only [units_deeper, units_in1, Around.mark_units]); (try dsimp only [ktrTop]); (try simp only [Nat.add_assoc, Nat.reduceAdd]); refine Nat.lt_of_le_of_lt (Nat.add_le_add_left ?_ _) (by with_reducible assumption); decide))
  k_with "kbd_text" => (first | exact Pick.head | (apply Pick.tail; kbd_text))
  k_with "hide" => ((refine hideG ?_; intro G9))
  k_with "has" => (first | with_reducible exact Has.head | (refine Has.tail ?_; k_extra "has"))
  k_with "lt" => (first | with_reducible assumption | (refine Has.lt (by with_reducible assumption) ?_; k_extra "has") | (refine ltT (by with_reducible assumption) (by with_reducible assumption) ?_; k_extra "has"))
  k_with "ltAll" => (first | with_reducible assumption | exact allLt_mem (by with_reducible assumption) | exact subLt (by with_reducible assumption) (fun q hq => by kbo_some))
  k_with "FinE" => (((unfold LCg.FinE); intro D'z h'z tk'z F'z N'z o1'z; (have hR8 := off1_ne o1'z); (try simp only [List.nil_append, List.cons_append] at N'z); (try dsimp only)))
  k_with "lcg_off" => (first | exact True.intro | with_reducible assumption | (refine And.intro ⟨by k_ne, by k_ne, by k_ne⟩ ?_; lcg_off))
  k_with "CompEnd" => ((k_here; k_dflt (refine' compEndP ?q17f ?q17n ?q17p1 ?q17p2 ?q17p3 ?q17o ?q17s ?_; (case q17f => k_asm); (case q17n => k_asm); (case q17p1 => kbd_text); (case q17p2 => kbd_text); (case q17p3 => kbd_text); (case q17o => lcg_off); (case q17s => lcg_src); k_whole)))
  k_with "kbd_text" => (((with_reducible show Split _ _ _); first | exact Split.nil | (apply Split.cons; kbd_text)))
  k_with "exec While BoolOp cons nil" => ((k_here; refine while_mark ?_))
  k_with "exec While Compare cons nil" => ((k_here; refine while_mark ?_))
  k_with "subscriptTail Attribute" => ((k_here; k_dflt (refine kba_turn (value' := PySem.Expr.Name (PySem.Str.ofString "_") ⟨0, 0, 0, 0⟩) (fun _ => rfl) ?_)))
  k_with "ite" => ((k_closed; k_dflt (first | rw [if_pos (by decide)] | rw [if_neg (by decide)])))
  k_with "k_in" => (first | with_reducible assumption | exact Frag.In.keeps (by with_reducible assumption) (Fr.keep (by with_reducible assumption)))
  k_with "execs nil" => ((k_here; refine wpAny_execs_nil ?_))
  k_with "execs cons" => ((k_here; refine wpAny_execs_cons ?_))
  k_with "exec If" => ((k_here; refine wpAny_If ?_))
  trivial
theorem go_bad {kn : Known} {depth most : Int} {C : Addr} : ∀ {n : Nat} {rs : List (List Pc)} {ys : List Str} {sz : Int} {f : List Nat}, go kn depth most n rs ys sz f = some (.bad C) → C = 162 ∨ C = 174 := by
  intro n
  induction n with
  | zero => intro rs ys sz f h; cases h
  | succ n ih =>
    intro rs ys sz f h
    rcases rs with _ | ⟨_ | ⟨c, r⟩, rs⟩
    · cases h
    · exact ih h
    · cases c with
      | t x => exact ih h
      | k c w =>
        simp only [go] at h
        split at h
        · exact ih h
        · split at h
          · cases h; exact .inl rfl
          · split at h
            · cases h; exact .inl rfl
            · split at h
              · cases h; exact .inr rfl
              · exact ih h
theorem run_right {kn : Known} {depth most : Int} (hkk : KnownOk kn) (hm : most ≤ 3000) {ps : List Part} (ok : PartsOk ps) (hl : ps.length ≤ 3) (hf : free kn [] ≤ 3) :
    ∃ fuel R, fuel ≤ 300 ∧ go kn depth most fuel [pcsOf sg65 ps] [] 0 [] = some R ∧ (∀ t, (ledW (opened kn depth most 3) ps [] 0 0 []).out = .ok t → R = .ok t) ∧ (∀ C, (ledW (opened kn depth most 3) ps [] 0 0 []).out = .error C → R = .bad C) ∧
      (∀ x, R = .ok x → x.length ≤ 1000) ∧ (∀ C, R = .bad C → C = 162 ∨ C = 174) := by
  have hr := run_led (kn := kn) (depth := depth) (most := most) hkk 3 ps sg65 [] 0 0 [] [] [] [] (.inr rfl) ok hf rfl
  have hk := led_ok (kn := kn) (depth := depth) (most := most) hkk hm 3 ps [] 0 0 []
  have hc : ps.length * cost 3 ≤ 3 * cost 3 := Nat.mul_le_mul_right _ hl
  have hc3 : cost 3 = 53 := by decide
  have hb : ps.length * big 3 ≤ 3 * big 3 := Nat.mul_le_mul_right _ hl
  have hb3 : big 3 = 81 := by decide
  generalize ledW (opened kn depth most 3) ps [] 0 0 [] = r at hr hk
  obtain ⟨o, sz', dp'⟩ := r
  cases o with
  | ok t =>
    obtain ⟨k, t0, h1, h2, h3⟩ := hr
    have h4 := h3 2
    rw [List.append_nil, List.nil_append] at h4
    rw [List.nil_append] at h2
    subst h2
    have h5 : go kn depth most 2 [[]] [] sz' t = some (.ok t) := rfl
    refine ⟨2 + k, .ok t, by omega, h4.trans h5, ?_, ?_, ?_, ?_⟩
    · intro t' e; cases e; rfl
    · intro C e; cases e
    · intro x e
      cases e
      have := (hk t ok (by omega) (by omega) rfl).2.2
      simp only [List.length_nil] at this
      omega
    · intro C e; cases e
  | error C =>
    obtain ⟨k, h1, h3⟩ := hr
    have h4 := h3 2
    rw [List.append_nil] at h4
    refine ⟨2 + k, .bad C, by omega, h4, ?_, ?_, ?_, ?_⟩
    · intro t' e; cases e
    · intro C' e; cases e; rfl
    · intro x e; cases e
    · intro C' e; cases e; exact go_bad h4
theorem fault_162 : faultW 162 ++ Str.ofString " fault" = Str.ofString "entity fault" := by decide +kernel
theorem fault_174 : faultW 174 ++ Str.ofString " fault" = Str.ofString "limit fault" := by decide +kernel
theorem toldV_ok {R : Res} {v : Str} {t : List Nat} (h : ToldV R v) (e : R = .ok t) : v = ⟨t.toArray⟩ := by
  subst e
  rcases h with ⟨x, e, rfl⟩ | ⟨e, _⟩ | ⟨e, _⟩
  · cases e; rfl
  · cases e
  · cases e
theorem toldV_bad {R : Res} {v : Str} {C : Addr} (h : ToldV R v) (e : R = .bad C) : v = faultW C ++ Str.ofString " fault" := by
  subst e
  rcases h with ⟨x, e, _⟩ | ⟨e, rfl⟩ | ⟨e, rfl⟩
  · cases e
  · cases e; exact fault_162.symm
  · cases e; exact fault_174.symm
theorem faultW_len {C : Addr} : (faultW C).length ≤ 1000 := by unfold faultW; split <;> decide
section
variable {prog : Program} {w : World} {A : Around} {E : Value → Shared → Prop} {s : Shared} {Q : Value → Shared → Prop}
theorem my_eq_same {x y : Str} {t u : Tok} (e : x = y) (h : Q (.bool true) s) : wpAny (model prog w) A (compareOp .Eq (.str x t) (.str y u)) Q E s := by
  subst e
  refine PyProof.Rows.eq_str ?_
  simpa using h
end
end
section
section
variable {prog : Program} {w : World} {A₀ A : Around} {s : Shared} {base h₀ : Heap} {L : Addr} {m : Str → Option Value} {env : Env} {news : List (Addr × Obj)} {K : Frag} {p : Program} {loose : List Str} {mean : ExcName → Option Value} {mg mb : Str → Option Value}
  {R : Result → Shared → Prop} {name qual : Str} {params : Arguments} {body : List Stmt} {scope : Scope} {dV kV doc pm cdv ct oc : Value} {an od : Option Addr} {osl : Array (Option Value)} {f : Addr} {args : Args} {binds : List (Str × Value)}
/-- what is taken out of a heap is not met in the ground -/
theorem ground_apart (F : Fr h₀ L s.heap m) (N : News h₀ L s.heap news) {b : Addr} (h : (∃ o, h₀.get? b = some o) ∨ b = L) : b ∉ news.map (·.1) := by
  intro hb
  obtain ⟨q, hq, rfl⟩ := List.mem_map.mp hb
  rcases h with ⟨o, e⟩ | e
  · exact absurd ((N q hq).2.2.symm.trans e) (by intro h; cases h)
  · exact (N q hq).2.1 e
/-- a def called from the law's own frame (it may have cells), whose callee may catch: at its end the ground's frame has turned -/
theorem code_turn (B : Below A₀ base [] h₀) (F : Fr h₀ L s.heap m) (X₀ : K.In h₀) (N : News h₀ L s.heap news) (T : Top p loose mean mg mb h₀) (hA : A.frames = some [env]) (hf : env.frame = some L) (hke : env.scope.kind = .function)
    (ho : K.lookup f = some ⟨oc, od, .func (fnOf name qual params body scope dV kV doc pm an cdv ct), osl⟩) (hcd : codeIn K cdv qual = true) (hroom : A.depth < recursionLimit)
    (hbind : BindsTo s (fnOf name qual params body scope dV kV doc pm an cdv ct) args binds) (hloc : ∀ y ∈ binds, scope.names.lookup y.1 = some .local)
    (h : ∀ g L' h₁, Fr h₀ L g m → Fr g L' h₁ (fun y => binds.reverse.lookup y) → News g L' h₁ news → Below A base [env] g → K.In g → Top p loose mean mg mb g → KtsDicts ([env].filterMap (·.frame)) g →
      wpAny (model prog w) (A.deeper (envOf qual scope L' f cdv)) (execs body (envOf qual scope L' f cdv))
        (fun fl s' => LeaveS0 ([env].filterMap (·.frame)) h₀ L m g R (match fl with | .ret v => v | _ => .none) s')
        (fun e s' => wpAny (model prog w) (A.deeper (envOf qual scope L' f cdv)) (leaving (envOf qual scope L' f cdv) e) (fun _ s'' => R (.error e) s'') (fun e' s'' => R (.error e') s'') s')
        { s with heap := h₁, toks := s.toks + binds.length })
    (hco : scope.isCoroutine = false) (hgen : scope.isGenerator = false) (hk : scope.kind = .function)
    (hcell : ∀ x ∈ scope.names, x.2 ≠ .cell) : codeAny (model prog w) A (.call (.ref f) args) R s := by
  have hfs : [env].filterMap (·.frame) = [L] := by simp [hf]
  have nL : h₀.get? L = none := kts_self F
  obtain ⟨oL, es, ep, hL, hLd, hLk, hLf⟩ := F.ns
  have hLg : (hideAll s.heap (news.map (·.1))).get? L = some oL := hideAll_get _ hL (ground_apart F N (.inr rfl))
  have up : ∀ b o, h₀.get? b = some o → (hideAll s.heap (news.map (·.1))).get? b = some o := fun b o e => hideAll_get _ (F.keep b o e) (ground_apart F N (.inl ⟨o, e⟩))
  have nb : base.get? L = none := by
    cases q : base.get? L with
    | none => rfl
    | some o => have := B.stays L o q; rw [nL] at this; cases this
  have Bg : Below A base [env] (hideAll s.heap (news.map (·.1))) :=
    ⟨hA, fun b o e => up b o (B.stays b o e), by rw [hke]; decide, ⟨L, oL, hf, nb, hLg, fun vs e => by rw [hLd] at e; cases e⟩, trivial⟩
  refine codeAny_call_def (fd := fnOf name qual params body scope dV kV doc pm an cdv ct) (body := body) (binds := binds) hroom ((X₀.keeps F.keep) _ _ ho) rfl (T.nolimit.keeps F.keep) (codeRec_of (X₀.keeps F.keep) hcd) rfl hbind hcell hloc (fun h₁ hn hk₁ => ?_) hco hgen hk
  refine wpAny_mono (h _ s.heap.objs.size h₁ ⟨⟨oL, es, ep, hLg, hLd, hLk, hLf⟩, up, F.above⟩ ⟨hn, fun b o e => hk₁ b o (of_hideAll _ e), Nat.le_of_eq (hideAll_size _ _)⟩ ?_ Bg (X₀.keeps up) (T.keeps up) ?_) ?_ fun _ _ y => y
  · exact fun q hq => ⟨hk₁ _ _ (N q hq).1, Nat.ne_of_lt (Heap.lt_size (N q hq).1), hideAll_none _ (List.mem_map_of_mem hq)⟩
  · intro b hb
    rw [hfs, List.mem_singleton] at hb
    subst hb
    exact ⟨oL, es, ep, hLg, hLd⟩
  · rintro fl s' ⟨g', L', m', news', T', F', N', k⟩
    rw [hfs] at T'
    obtain ⟨sl, hsl⟩ := T'.up hLg
    have up' : ∀ b o, h₀.get? b = some o → g'.get? b = some o := fun b o e => T'.other b o (up b o e) fun q => by
      rw [List.mem_singleton.mp q, nL] at e; cases e
    refine k ⟨⟨_, es, ep, F'.keep _ _ hsl, hLd, hLk, hLf⟩, fun b o e => F'.keep b o (up' b o e), F.above⟩ fun q hq => ⟨(N' q hq).1, ?_, ?_⟩
    · intro e
      have := (N' q hq).2.2
      rw [e, hsl] at this
      cases this
    · cases e : h₀.get? q.1 with
      | none => rfl
      | some o =>
        have := (N' q hq).2.2
        rw [up' _ _ e] at this
        cases this
end
end
section
section
theorem kw46 : True := by
  k_with "call ref" => ((k_here; (with_reducible show wpAny _ _ (call (Value.ref 731) _) _ _ _); refine while_mark ?_))
  k_with "call ref" => ((k_here; (with_reducible show wpAny _ _ (call (Value.ref 717) _) _ _ _); refine while_mark ?_))
  k_with "call ref" => ((k_here; (with_reducible show wpAny _ _ (call (Value.ref 738) _) _ _ _); refine while_mark ?_))
  k_with "call ref" => (((k_here; (with_reducible show wpAny _ _ (call (Value.ref 710) _) _ _ _); k_dflt (refine' c_written (N := by k_asm) (hm := by k_mem) (hp := PartsUp.at (by assumption) (fun q hq => by k_mem)) (hlen := by assumption) (hmk := by decide) (hsg := by decide) (ret := fun t'z h'z tk'z F'z N'z => ?_); k_whole)); (try dsimp only)))
  k_with "compareOp Eq str str" => ((k_here; refine while_mark ?_))
  k_with "binaryOp Add str str" => ((k_here; k_dflt (refine' my_add ?q165hx ?q165hy ?_; (case q165hx => first | assumption | decide +kernel); (case q165hy => first | assumption | decide +kernel); k_whole); intro t'z k'z))
  k_with "subscriptTail Name" => ((k_here; (with_reducible show wpAny _ _ (subscriptTail _ _ (Value.ref _) (Value.str _ _)) _ _ _); k_dflt (refine kda_item (knd := PySem.strKind _ _) (by k_asm) (by k_mem) (by with_reducible assumption) (strKind_is _ _ _ _) (by rfl) ?_)))
  trivial
theorem c_right {w : World} {vw : Program} {loose : List Str} {mean : ExcName → Option Value} {mg mb : Str → Option Value} {dp un : Nat} {gd : Option (List Code)} {cn : Str} {cs : Scope} {a : Addr} {ccd : Value} {cl : List (Str × Addr)} {outer : List Env} {A₀ : Around} {base h₀ : Heap} {L : Addr} {m : Str → Option Value} {s : Shared} {Q E : Value → Shared → Prop} {rest : List (Addr × Obj)} {kd pl : Addr} {us : List Value} {ps : List Part} {npl : Nat} {depth most : Int} {t1 t2 : Tok} {kn : Known}
   (B : Below A₀ base [] h₀ := by k_asm) (F : Fr h₀ L s.heap m := by k_asm) (X : (Mine.k0.heap_1 w.params).In h₀ := by k_asm) (T : Top vw loose mean mg mb h₀ := by k_asm) (hk : cs.kind = .function := by exact rfl)
   (XB : (Mine.k0.heap_1 w.params).In base := by k_asm) (TB : Top vw loose mean mg mb base := by k_asm)
   (N : News h₀ L s.heap rest) (kl : KnLaw PySem.Challenge.pw_sm0079_01 w rest kd kn) (hkk : KnownOk kn) (hkl : kl.kkvs.length ≤ 50) (mpl : (pl, W.listOf us.toArray npl) ∈ rest) (hps : PartsAre rest us ps) (hus : us.length ≤ 3) (hm : most ≤ 3000) (hfree : free kn [] ≤ 3) (hdp : dp + 60 < recursionLimit := by ktr_room) (hu : un + 2400 < cLine := by ktr_units)
   (ret : ∀ h' tk', Fr h₀ L h' m → News h₀ L h' rest → Q (.bool true) { s with heap := h', toks := tk' }) :
   wpAny (model PySem.Challenge.pw_sm0079_01 w) (ktrTop dp un gd cn cs L a ccd cl []) (call (.ref 745) [.ref pl, .ref kd, .int depth t1, .int most t2]) Q E s := by
  have gup := hps.up
  k_extra "hide"
  obtain ⟨fuel, R, hfu, hgo, hRo, hRe, hR1, hR2⟩ := run_right (depth := depth) hkk hm hps.ok (hps.length ▸ hus) hfree
  unfold G9
  refine wpAny_call ?_
  k_dflt (refine' code_turn (A₀ := A₀) (base := base) ?B ?F ?X ?N ?T ?hA ?hf ?hke ?ho ?hcd ?hr ?hb ?hl ?h ?c2 ?c3 ?c4 ?c5)
  case B => k_asm
  case F => k_asm
  case X => k_asm
  case N => k_asm
  case T => k_asm
  case hA => exact rfl
  case hf => exact rfl
  case hke => exact hk
  case ho => k_is
  case hcd => k_is
  case hr => ktr_room
  case hb => first | exact BindsTo.of_eq rfl | exact binds_K (by k_in) rfl (by k_is) rfl rfl rfl
  case hl => exact locs rfl
  case c2 => exact rfl
  case c3 => exact rfl
  case c4 => exact rfl
  case c5 => decide
  case h =>
    k_whole
    intro g' L' h' FG' F' N' B' X' T' D'
    (try dsimp only)
    (try k_fold)
    k_steps
    unfold WhileMark
    k_dflt (refine' c_state (N := by k_asm) (ret := ?reta))
    intro sd ol so no t3 t4 h1 tk1 F1 N1 hso hlow hlt hso2
    k_steps
    unfold WhileMark
    have hd2 : ∀ q ∈ rest, @LT.lt Nat instLTNat q.1 sd := hlt
    have hd3 : @LT.lt Nat instLTNat sd ol := hso2
    rename News _ _ _ _ => kN9
    have hwl := written_len (mark := Str.ofString "%") (sign := Str.ofString "&#65;") (by decide) (by decide) hps.ok
    have hp3 : ps.length ≤ 3 := hps.length ▸ hus
    k_dflt (refine' (led_all hkk hm 3 (Nat.le_refl 3)) w vw loose mean mg mb _ _ _ _ _ _ _ _ _ _ _ _ _ _ _ _ _ rest sd ol kd pl _ us [] ps [] npl _ _ _ t1 t2 _ _ .none ?B ?F ?X ?T ?hk kN9 hso hlow kl mpl hps hus ?d1 ?d2 ?d3 .nil ?h1 hfree ?h3 ?h4 ?rd ?ru ?retb)
    case B => k_asm
    case F => k_asm
    case X => k_asm
    case T => k_asm
    case hk => exact rfl
    case d1 => exact Nat.ne_of_lt hd3
    case d2 => exact fun q hq => Nat.ne_of_lt (hd2 q hq)
    case d3 => exact fun q hq => Nat.ne_of_lt (Nat.lt_trans (hd2 q hq) hd3)
    case h1 => decide
    case h3 => decide
    case h4 => decide
    case rd => ktr_room
    case ru => ktr_units
    case retb =>
      intro v so2 no2 t3b t4b fv2 h2 tk2 hLB F2 N2 hso3
      k_extra "hide"
      rcases hLB with ⟨t, tk, ho, rfl, rfl⟩ | ⟨C, tk, ho, rfl, rfl⟩
      all_goals unfold G9
      · k_steps
        unfold WhileMark
        k_dflt (refine' c_told (cl := []) (kn := kn) (raw := written (Str.ofString "%") (Str.ofString "&#65;") ps) (pcs := pcsOf sg65 ps) (R := R) (fuel := fuel) (rest := (sd, so2) :: (ol, _) :: rest) (XB := XB) (TB := TB) (D := D') (N := by k_asm) (kl := kl.mono (fun q hq => .tail _ (.tail _ hq))) (hkk := hkk) (hkl := hkl) (hraw := by omega) (hfl := flat_pcsOf flat_sg65 hps.ok) (hok := pcsOf_ok (.inr rfl) hps.ok) (hm := hm) (hfuel := hfu) (hgo := hgo) (hR := hR1) (hRC := hR2) (ret := ?retc) (ret2 := ?retd))
        case retc =>
          intro v t9 h9 tk9 hv F9 N9
          k_steps
          unfold WhileMark
          k_dflt (refine my_eq_same (toldV_ok hv (hRo t ho)) ?_)
          k_steps
          rename Fr _ _ _ _ => kF8
          rename News _ _ _ _ => kN8
          exact ret _ _ kF8 (newsSub kN8 (fun q hq => .tail _ (.tail _ hq)))
        case retd =>
          intro v t9 g9 h9 tk9 hv T9 F9 N9 B9 X9 P9 D9
          k_steps
          unfold WhileMark
          k_dflt (refine my_eq_same (toldV_ok hv (hRo t ho)) ?_)
          k_steps
          rename Fr _ _ _ _ => kF8
          rename News _ _ _ _ => kN8
          exact ret _ _ kF8 (newsSub kN8 (fun q hq => .tail _ (.tail _ hq)))
      · have hfw := faultW_len (C := C)
        k_steps
        unfold WhileMark
        k_dflt (refine' c_told (cl := []) (kn := kn) (raw := written (Str.ofString "%") (Str.ofString "&#65;") ps) (pcs := pcsOf sg65 ps) (R := R) (fuel := fuel) (rest := (sd, so2) :: (ol, _) :: rest) (XB := XB) (TB := TB) (D := D') (N := by k_asm) (kl := kl.mono (fun q hq => .tail _ (.tail _ hq))) (hkk := hkk) (hkl := hkl) (hraw := by omega) (hfl := flat_pcsOf flat_sg65 hps.ok) (hok := pcsOf_ok (.inr rfl) hps.ok) (hm := hm) (hfuel := hfu) (hgo := hgo) (hR := hR1) (hRC := hR2) (ret := ?retc) (ret2 := ?retd))
        case retc =>
          intro v t9 h9 tk9 hv F9 N9
          k_steps
          unfold WhileMark
          k_dflt (refine my_eq_same (toldV_bad hv (hRe C ho)) ?_)
          k_steps
          rename Fr _ _ _ _ => kF8
          rename News _ _ _ _ => kN8
          exact ret _ _ kF8 (newsSub kN8 (fun q hq => .tail _ (.tail _ hq)))
        case retd =>
          intro v t9 g9 h9 tk9 hv T9 F9 N9 B9 X9 P9 D9
          k_steps
          unfold WhileMark
          k_dflt (refine my_eq_same (toldV_bad hv (hRe C ho)) ?_)
          k_steps
          rename Fr _ _ _ _ => kF8
          rename News _ _ _ _ => kN8
          exact ret _ _ kF8 (newsSub kN8 (fun q hq => .tail _ (.tail _ hq)))
end
end
section
section
variable {prog : Program} {w : World} {A : Around} {E : Value → Shared → Prop} {s : Shared} {h₀ g : Heap} {L L' : Addr} {m m' : Str → Option Value} {Q : Value → Shared → Prop} {scr : Addr}
theorem kw47 : True := by
  k_with_none
  k_with "k_all" => (first | with_reducible assumption | exact List.forall_mem_nil _ | exact allNe (by with_reducible assumption) | (refine' List.forall_mem_cons.mpr ⟨?q1a, ?q1b⟩; (case q1a => k_ne); (case q1b => k_all)) | exact subNe (by with_reducible assumption) (fun q hq => by kbo_some) | exact subNeT (by with_reducible assumption) (by with_reducible assumption) (fun q hq => by kbo_some) | exact subNeQ (by with_reducible assumption) (fun q hq => by kbo_some) | assumption)
  k_with "kbo_some" => (first | with_reducible assumption | exact List.Mem.head _ | (refine' List.mem_cons_of_mem _ ?_; kbo_some) | ((with_reducible refine List.mem_append.mpr (Or.inr ?_)); kbo_some))
  k_with "k_mem" => (first | kbo_some | assumption)
  k_with "k_upd" => (first | (refine' Upd.head ?q4a; (case q4a => k_all)) | (refine' Upd.tail ?q4a ?q4b; (case q4a => k_ne); (case q4b => k_upd)))
  k_with "k_updF" => (first | (refine' UpdF.head ?q5a; (case q5a => k_all)) | (refine' UpdF.tail ?q5a ?q5b; (case q5a => k_ne); (case q5b => k_updF)))
  k_with "k_ne" => (((try dsimp only); first | with_reducible assumption | (refine Ne.symm ?_; with_reducible assumption) | (refine Nat.ne_of_gt ?_; with_reducible assumption) | (refine Nat.ne_of_lt ?_; with_reducible assumption) | (refine neR (by with_reducible assumption) ?_; k_extra "has") | (refine neL (by with_reducible assumption) ?_; k_extra "has") | (refine neQ (by with_reducible assumption) ?_; k_extra "has") | (refine neP (by with_reducible assumption) ?_; k_extra "has") | (refine neT (by with_reducible assumption) (by with_reducible assumption) ?_; k_extra "has") | (refine neU (by with_reducible assumption) (by with_reducible assumption) ?_; k_extra "has") | exact Nat.ne_of_lt (Nat.lt_succ_self _) | exact Nat.ne_of_gt (Nat.lt_succ_self _) | omega))
  k_with "k_enter" => (first
  | (refine' code_def ?q7k1 ?q7k2 ?q7k3 ?q7k4 ?q7k5 ?q7kA ?q7kF ?q7kK ?q7k6 ?q7k7 ?q7k8 ?q7k9 ?q7kB ?_ ?q7c2 ?q7c3 ?q7c4 ?q7c5; (case q7kA => exact rfl); (case q7kF => exact rfl); (case q7kK => first | exact rfl | assumption); (case q7k1 => k_asm); (case q7k2 => k_asm); (case q7k3 => k_asm); (case q7k4 => k_asm); (case q7k5 => k_asm); (case q7k6 => k_is); (case q7k7 => k_is); (case q7k8 => ktr_room); (case q7k9 => first | exact BindsTo.of_eq rfl | exact binds_K (by k_in) rfl (by k_is) rfl rfl rfl); (case q7c5 => decide); (case q7kB => exact locs rfl); (case q7c2 => exact rfl); (case q7c3 => exact rfl); (case q7c4 => exact rfl); k_whole; intro g'z L'z h'z FG'z F'z N'z B'z X'z T'z; (try dsimp only); (try k_fold); (try (refine letA ?_; intro A9)))
  | (refine' code_defC ?q7k1 ?q7k2 ?q7k3 ?q7k4 ?q7k5 ?q7kA ?q7kF ?q7kK ?q7k6 ?q7k7 ?q7k8 ?q7k9 ?q7kB ?q7kD ?_ ?q7c2 ?q7c3 ?q7c4; (case q7kA => exact rfl); (case q7kF => exact rfl); (case q7kK => first | exact rfl | assumption); (case q7k1 => k_asm); (case q7k2 => k_asm); (case q7k3 => k_asm); (case q7k4 => k_asm); (case q7k5 => k_asm); (case q7k6 => k_is); (case q7k7 => k_is); (case q7k8 => ktr_room); (case q7k9 => first | exact BindsTo.of_eq rfl | exact binds_K (by k_in) rfl (by k_is) rfl rfl rfl); (case q7kB => exact rfl); (case q7kD => decide +kernel); (case q7c2 => exact rfl); (case q7c3 => exact rfl); (case q7c4 => exact rfl); k_whole; intro g'z L'z h'z tk'z cells'z FG'z F'z N'z Y'z B'z X'z T'z l1; (try k_lt l1); (try (have hR6 := restNe l1 (Nat.le_add_right _ 1); have hR5 := restNe l1 (Nat.le_add_right _ (1 + 1)))); (first   | (have hY := CellsAre.one Y'z; obtain ⟨o'z, hE'z, d1'z⟩ := hY; subst hE'z; clear Y'z; (first | (replace d1'z : o'z.data = .cell none := d1'z) | (replace d1'z : o'z.data = .cell (some _) := d1'z) | skip))   | (have hY := CellsAre.two Y'z; obtain ⟨o'z, o2'z, hE'z, d1'z, d2'z⟩ := hY; subst hE'z; clear Y'z; (first | (replace d1'z : o'z.data = .cell none := d1'z) | (replace d1'z : o'z.data = .cell (some _) := d1'z) | skip); (first | (replace d2'z : o2'z.data = .cell none := d2'z) | (replace d2'z : o2'z.data = .cell (some _) := d2'z) | skip))); (try simp only [List.cons_append, List.nil_append] at N'z); (try dsimp only); (try k_fold); (try (refine letA ?_; intro A9))))
  k_with "ktr_room" => (((try simp +zetaDelta only [depth_deeper, depth_in1, depth_mark, depth_under_make, depth_under_kw]); (try dsimp only [ktrTop]); (try simp only [Nat.add_assoc, Nat.reduceAdd]); refine Nat.lt_of_le_of_lt (Nat.add_le_add_left ?_ _) (by with_reducible assumption); decide))
  k_with "ktr_units" => (((try simp +zetaDelta only [units_deeper, units_in1, Around.mark_units]); (try dsimp only [ktrTop]); (try simp only [Nat.add_assoc, Nat.reduceAdd]); refine Nat.lt_of_le_of_lt (Nat.add_le_add_left ?_ _) (by with_reducible assumption); decide))
  k_with "kbd_text" => (first | exact Pick.head | (apply Pick.tail; kbd_text))
  k_with "hide" => ((refine hideG ?_; intro G9))
  k_with "has" => (first | with_reducible exact Has.head | (refine Has.tail ?_; k_extra "has"))
  k_with "lt" => (first | with_reducible assumption | (refine Has.lt (by with_reducible assumption) ?_; k_extra "has") | (refine ltT (by with_reducible assumption) (by with_reducible assumption) ?_; k_extra "has"))
  k_with "ltAll" => (first | with_reducible assumption | exact allLt_mem (by with_reducible assumption) | exact subLt (by with_reducible assumption) (fun q hq => by kbo_some))
  k_with "FinE" => (((unfold LCg.FinE); intro D'z h'z tk'z F'z N'z o1'z; (have hR8 := off1_ne o1'z); (try simp only [List.nil_append, List.cons_append] at N'z); (try dsimp only)))
  k_with "lcg_off" => (first | exact True.intro | with_reducible assumption | (refine And.intro ⟨by k_ne, by k_ne, by k_ne⟩ ?_; lcg_off))
  k_with "CompEnd" => ((k_here; k_dflt (refine' compEndP ?q17f ?q17n ?q17p1 ?q17p2 ?q17p3 ?q17o ?q17s ?_; (case q17f => k_asm); (case q17n => k_asm); (case q17p1 => kbd_text); (case q17p2 => kbd_text); (case q17p3 => kbd_text); (case q17o => lcg_off); (case q17s => lcg_src); k_whole)))
  k_with "kbd_text" => (((with_reducible show Split _ _ _); first | exact Split.nil | (apply Split.cons; kbd_text)))
  k_with "exec While BoolOp cons nil" => ((k_here; refine while_mark ?_))
  k_with "exec While Compare cons nil" => ((k_here; refine while_mark ?_))
  k_with "subscriptTail Attribute" => ((k_here; k_dflt (refine kba_turn (value' := PySem.Expr.Name (PySem.Str.ofString "_") ⟨0, 0, 0, 0⟩) (fun _ => rfl) ?_)))
  k_with "ite" => ((k_closed; k_dflt (first | rw [if_pos (by decide)] | rw [if_neg (by decide)])))
  k_with "k_in" => (first | with_reducible assumption | exact Frag.In.keeps (by with_reducible assumption) (Fr.keep (by with_reducible assumption)))
  k_with "execs nil" => ((k_here; refine wpAny_execs_nil ?_))
  k_with "execs cons" => ((k_here; refine wpAny_execs_cons ?_))
  k_with "exec If" => ((k_here; refine wpAny_If ?_))
  trivial
theorem isl_keep {h h' : Heap} {its : Array Value} (k : ∀ b o, h.get? b = some o → h'.get? b = some o) (hl : h.IsList scr its) : h'.IsList scr its := by
  k_extra "hide"
  obtain ⟨o, e, r⟩ := hl
  unfold G9
  exact ⟨o, k _ _ e, r⟩
def IntOut (h₀ : Heap) (L : Addr) (m : Str → Option Value) (news : List (Addr × Obj)) (s : Shared) (v : Value) (s' : Shared) : Prop := ∃ c u h tk, v = .int c u ∧ s' = { s with heap := h, toks := tk } ∧ Fr h₀ L h m ∧ News h₀ L h news
theorem IntOut.of {news : List (Addr × Obj)} {c : Int} {u : Tok} {h : Heap} {tk : Nat} (F : Fr h₀ L h m) (N : News h₀ L h news) : IntOut h₀ L m news s (.int c u) { s with heap := h, toks := tk } := ⟨c, u, h, tk, rfl, rfl, F, N⟩
theorem cutInt {news : List (Addr × Obj)} {t : Sem Value} (_F : Fr h₀ L s.heap m) (_N : News h₀ L s.heap news) (h1 : wpAny (model prog w) A t (IntOut h₀ L m news s) E s)
    (h2 : ∀ (c : Int) u h tk, Fr h₀ L h m → News h₀ L h news → Q (.int c u) { s with heap := h, toks := tk }) : wpAny (model prog w) A t Q E s :=
  wpAny_mono h1 (fun _ _ ⟨c, u, h, tk, e1, e2, F, N⟩ => e1 ▸ e2 ▸ h2 c u h tk F N) fun _ _ x => x
theorem len_scr0 (hl : h₀.IsList scr (#[] : Array Value)) (G : Fr h₀ L g m) (F : Fr g L' s.heap m') (h : ∀ t k, Q (.int 0 t) { s with toks := k }) :
    wpAny (model prog w) A (call (.builtin "len") [.ref scr]) Q E s :=
  len_list (isl_keep (fun b o e => F.keep b o (G.keep b o e)) hl) (by simp) (by simpa using h _ _)
theorem len_scr1 {vs : List Value} {v : Value} (hl : h₀.IsList scr (v :: vs).toArray) (G : Fr h₀ L g m) (F : Fr g L' s.heap m') (hsz : (v :: vs).length ≤ 1000) (h : ∀ (n : Int) t k, 0 < n → Q (.int n t) { s with toks := k }) :
    wpAny (model prog w) A (call (.builtin "len") [.ref scr]) Q E s :=
  len_list (isl_keep (fun b o e => F.keep b o (G.keep b o e)) hl) (by simp only [List.length_cons] at hsz; simp only [List.size_toArray, List.length_cons]; omega) (h _ _ _ (by simp only [List.size_toArray, List.length_cons]; omega))
theorem max_up {a b : Int} {t u : Tok} {news : List (Addr × Obj)} (hh : A.handled = none) (F : Fr h₀ L s.heap m) (N : News h₀ L s.heap news)
    (h : ∀ (c : Int) t' h' tk, a ≤ c → b ≤ c → (c = a ∨ c = b) → Fr h₀ L h' m → News h₀ L h' news → Q (.int c t') { s with heap := h', toks := tk }) : wpAny (model prog w) A (call (.builtin "max") [.int a t, .int b u]) Q E s :=
  max_two_N hh F N fun h' tk F' N' => h _ _ h' tk (by split <;> omega) (by split <;> omega) (by split <;> simp) F' N'
theorem mul_up {a b : Int} {t u : Tok} (hm : PySem.IntMulOk a b) (h : ∀ t' k, Q (.int (a * b) t') { s with toks := k }) : wpAny (model prog w) A (binaryOp .Mult (.int a t) (.int b u)) Q E s := PyProof.Rows.mul_int (h _ _) hm
theorem up_nn {a c : Int} (h1 : a ≤ c) (h2 : -1 - a ≤ c) : 0 ≤ c := by omega
theorem item_scr {value slice : PySem.Expr} {vs : List Value} {v : Value} {u : Tok} (hl : h₀.IsList scr (v :: vs).toArray) (G : Fr h₀ L g m) (F : Fr g L' s.heap m') (h : Q v s)
    (hs : subscripted slice false (.ref scr) (.int 0 u) = operate [.ref scr, .int 0 u] (getItem (.ref scr) (.int 0 u)) := by with_unfolding_all rfl) (hg : ∀ r, letTemporaryGo value (.ref scr) r = pure () := by intro _; with_unfolding_all rfl) :
    wpAny (model prog w) A (subscriptTail value slice (.ref scr) (.int 0 u)) Q E s :=
  item_list (isl_keep (fun b o e => F.keep b o (G.keep b o e)) hl) (by decide) (by decide) (by simp) h hs hg
end
section
theorem kw48 : True := by
  k_with "call builtin:len" => ((k_here; (with_reducible show wpAny _ _ (call (Value.builtin "len") [Value.ref _]) _ _ _); k_dflt (first
  | (refine' len_scr0 ?q167l ?q167g ?q167f ?_; (case q167l => with_reducible assumption); (case q167g => with_reducible assumption); (case q167f => with_reducible assumption); k_whole; intro t'z k'z; (try dsimp only))
  | (refine' len_scr1 ?q167l ?q167g ?q167f ?q167z ?_; (case q167l => with_reducible assumption); (case q167g => with_reducible assumption); (case q167f => with_reducible assumption); (case q167z => assumption); k_whole; intro n'z t'z k'z hn'z; (try dsimp only)))))
  k_with "subscriptTail" => ((k_here; (with_reducible show wpAny _ _ (subscriptTail _ _ (Value.ref _) (Value.int 0 _)) _ _ _); k_dflt (refine' item_scr ?q168l ?q168g ?q168f ?_; (case q168l => with_reducible assumption); (case q168g => with_reducible assumption); (case q168f => with_reducible assumption); k_whole)))
  k_with "call builtin:max" => ((k_here; k_dflt (refine' max_up ?q169k1 ?q169k2 ?q169k3 ?_; (case q169k1 => with_unfolding_all rfl); (case q169k2 => k_asm); (case q169k3 => k_asm); k_whole); intro c'z t'z h'z tk'z c1'z c2'z c3'z F'z N'z; clear c3'z; (have c4'z := up_nn c1'z c2'z); clear c1'z c2'z; (try dsimp only)))
  k_with "binaryOp Mult int int" => ((k_here; k_dflt (refine' mul_up ?q170m ?_; (case q170m => first | exact PySem.IntMulOk.of_left (PySem.intBits_le_64 (by omega) (by omega)) | exact PySem.IntMulOk.of_right (PySem.intBits_le_64 (by omega) (by omega)) | exact PySem.IntMulOk.of_right (by split <;> exact PySem.intBits_le_64 (by omega) (by omega))); k_whole); intro t'z k'z; (try dsimp only)))
  k_with "eval IfExp" => ((k_here; refine while_mark ?_))
  trivial
theorem c_pool {w : World} {vw : Program} {loose : List Str} {mean : ExcName → Option Value} {mg mb : Str → Option Value} {dp un : Nat} {gd : Option (List Code)} {cn : Str} {cs : Scope} {a : Addr} {ccd : Value} {cl : List (Str × Addr)} {outer : List Env} {A₀ : Around} {base h₀ : Heap} {L : Addr} {m : Str → Option Value} {s : Shared} {Q E : Value → Shared → Prop} {rest : List (Addr × Obj)}
   {scr : Addr} {vs : List Value} {ns : List Int} {tk0 : Tok}
   (B : Below A₀ base outer h₀ := by k_asm) (F : Fr h₀ L s.heap m := by k_asm) (X : (Mine.k0.heap_1 w.params).In h₀ := by k_asm) (T : Top vw loose mean mg mb h₀ := by k_asm) (hk : cs.kind = .function := by exact rfl)
   (N : News h₀ L s.heap rest) (hl : h₀.IsList scr vs.toArray) (hi : IntsAre vs ns) (hsz : vs.length ≤ 1000) (hdp : dp + 4 < recursionLimit := by ktr_room) (hu : un + 160 < cLine := by ktr_units)
   (ret : ∀ (l : Addr) (x y : Int) tx ty n h' tk', 0 ≤ x → 0 ≤ y → Fr h₀ L h' m → News h₀ L h' ((l, W.listOf #[.int x tx, .int y ty] n) :: rest) → (∀ p ∈ rest, p.1 < l) → Q (.ref l) { s with heap := h', toks := tk' }) :
   wpAny (model PySem.Challenge.pw_sm0079_01 w) (ktrTop dp un gd cn cs L a ccd cl outer) (call (.ref 686) [.ref scr, .int 0 tk0]) Q E s := by
  refine wpAny_call ?_
  k_dflt k_enter
  k_steps
  unfold WhileMark
  refine' cutInt (by k_asm) (by k_asm) ?_ ?_
  · cases hi with
    | nil => refine wpAny_IfExp ?_; k_steps; exact IntOut.of (by k_asm) (by k_asm)
    | cons n t hi => refine wpAny_IfExp ?_; k_steps; exact IntOut.of (by k_asm) (by k_asm)
  · intro c u h1 tk1 F1 N1
    k_steps
    all_goals (try k_data)
    all_goals (refine ret _ _ _ _ _ _ _ _ ?_ ?_ (by assumption) (by assumption) (by k_extra "ltAll"))
    · exact Int.mul_nonneg (by assumption) (by split <;> decide)
    · exact fmod_lo _ (by decide)
end
end
section
section
theorem kw49 : True := by
  k_with_none
  k_with "k_all" => (first | with_reducible assumption | exact List.forall_mem_nil _ | exact allNe (by with_reducible assumption) | (refine' List.forall_mem_cons.mpr ⟨?q1a, ?q1b⟩; (case q1a => k_ne); (case q1b => k_all)) | exact subNe (by with_reducible assumption) (fun q hq => by kbo_some) | exact subNeT (by with_reducible assumption) (by with_reducible assumption) (fun q hq => by kbo_some) | exact subNeQ (by with_reducible assumption) (fun q hq => by kbo_some) | assumption)
  k_with "kbo_some" => (first | with_reducible assumption | exact List.Mem.head _ | (refine' List.mem_cons_of_mem _ ?_; kbo_some) | ((with_reducible refine List.mem_append.mpr (Or.inr ?_)); kbo_some))
  k_with "k_mem" => (first | kbo_some | assumption)
  k_with "k_upd" => (first | (refine' Upd.head ?q4a; (case q4a => k_all)) | (refine' Upd.tail ?q4a ?q4b; (case q4a => k_ne); (case q4b => k_upd)))
  k_with "k_updF" => (first | (refine' UpdF.head ?q5a; (case q5a => k_all)) | (refine' UpdF.tail ?q5a ?q5b; (case q5a => k_ne); (case q5b => k_updF)))
  k_with "k_ne" => (((try dsimp only); first | with_reducible assumption | (refine Ne.symm ?_; with_reducible assumption) | (refine Nat.ne_of_gt ?_; with_reducible assumption) | (refine Nat.ne_of_lt ?_; with_reducible assumption) | (refine neR (by with_reducible assumption) ?_; k_extra "has") | (refine neL (by with_reducible assumption) ?_; k_extra "has") | (refine neQ (by with_reducible assumption) ?_; k_extra "has") | (refine neP (by with_reducible assumption) ?_; k_extra "has") | (refine neT (by with_reducible assumption) (by with_reducible assumption) ?_; k_extra "has") | (refine neU (by with_reducible assumption) (by with_reducible assumption) ?_; k_extra "has") | exact Nat.ne_of_lt (Nat.lt_succ_self _) | exact Nat.ne_of_gt (Nat.lt_succ_self _) | omega))
  k_with "k_enter" => (first
  | (refine' code_def ?q7k1 ?q7k2 ?q7k3 ?q7k4 ?q7k5 ?q7kA ?q7kF ?q7kK ?q7k6 ?q7k7 ?q7k8 ?q7k9 ?q7kB ?_ ?q7c2 ?q7c3 ?q7c4 ?q7c5; (case q7kA => exact rfl); (case q7kF => exact rfl); (case q7kK => first | exact rfl | assumption); (case q7k1 => k_asm); (case q7k2 => k_asm); (case q7k3 => k_asm); (case q7k4 => k_asm); (case q7k5 => k_asm); (case q7k6 => k_is); (case q7k7 => k_is); (case q7k8 => ktr_room); (case q7k9 => first | exact BindsTo.of_eq rfl | exact binds_K (by k_in) rfl (by k_is) rfl rfl rfl); (case q7c5 => decide); (case q7kB => exact locs rfl); (case q7c2 => exact rfl); (case q7c3 => exact rfl); (case q7c4 => exact rfl); k_whole; intro g'z L'z h'z FG'z F'z N'z B'z X'z T'z; (try dsimp only); (try k_fold); (try (refine letA ?_; intro A9)))
  | (refine' code_defC ?q7k1 ?q7k2 ?q7k3 ?q7k4 ?q7k5 ?q7kA ?q7kF ?q7kK ?q7k6 ?q7k7 ?q7k8 ?q7k9 ?q7kB ?q7kD ?_ ?q7c2 ?q7c3 ?q7c4; (case q7kA => exact rfl); (case q7kF => exact rfl); (case q7kK => first | exact rfl | assumption); (case q7k1 => k_asm); (case q7k2 => k_asm); (case q7k3 => k_asm); (case q7k4 => k_asm); (case q7k5 => k_asm); (case q7k6 => k_is); (case q7k7 => k_is); (case q7k8 => ktr_room); (case q7k9 => first | exact BindsTo.of_eq rfl | exact binds_K (by k_in) rfl (by k_is) rfl rfl rfl); (case q7kB => exact rfl); (case q7kD => decide +kernel); (case q7c2 => exact rfl); (case q7c3 => exact rfl); (case q7c4 => exact rfl); k_whole; intro g'z L'z h'z tk'z cells'z FG'z F'z N'z Y'z B'z X'z T'z l1; (try k_lt l1); (try (have hR6 := restNe l1 (Nat.le_add_right _ 1); have hR5 := restNe l1 (Nat.le_add_right _ (1 + 1)))); (first   | (have hY := CellsAre.one Y'z; obtain ⟨o'z, hE'z, d1'z⟩ := hY; subst hE'z; clear Y'z; (first | (replace d1'z : o'z.data = .cell none := d1'z) | (replace d1'z : o'z.data = .cell (some _) := d1'z) | skip))   | (have hY := CellsAre.two Y'z; obtain ⟨o'z, o2'z, hE'z, d1'z, d2'z⟩ := hY; subst hE'z; clear Y'z; (first | (replace d1'z : o'z.data = .cell none := d1'z) | (replace d1'z : o'z.data = .cell (some _) := d1'z) | skip); (first | (replace d2'z : o2'z.data = .cell none := d2'z) | (replace d2'z : o2'z.data = .cell (some _) := d2'z) | skip))); (try simp only [List.cons_append, List.nil_append] at N'z); (try dsimp only); (try k_fold); (try (refine letA ?_; intro A9))))
  k_with "ktr_room" => (((try simp +zetaDelta only [depth_deeper, depth_in1, depth_mark, depth_under_make, depth_under_kw]); (try dsimp only [ktrTop]); (try simp only [Nat.add_assoc, Nat.reduceAdd]); refine Nat.lt_of_le_of_lt (Nat.add_le_add_left ?_ _) (by with_reducible assumption); decide))
  k_with "ktr_units" => (((try simp +zetaDelta only [units_deeper, units_in1, Around.mark_units]); (try dsimp only [ktrTop]); (try simp only [Nat.add_assoc, Nat.reduceAdd]); refine Nat.lt_of_le_of_lt (Nat.add_le_add_left ?_ _) (by with_reducible assumption); decide))
  k_with "kbd_text" => (first | exact Pick.head | (apply Pick.tail; kbd_text))
  k_with "hide" => ((refine hideG ?_; intro G9))
  k_with "has" => (first | with_reducible exact Has.head | (refine Has.tail ?_; k_extra "has"))
  k_with "lt" => (first | with_reducible assumption | (refine Has.lt (by with_reducible assumption) ?_; k_extra "has") | (refine ltT (by with_reducible assumption) (by with_reducible assumption) ?_; k_extra "has"))
  k_with "ltAll" => (first | with_reducible assumption | exact allLt_mem (by with_reducible assumption) | exact subLt (by with_reducible assumption) (fun q hq => by kbo_some))
  k_with "FinE" => (((unfold LCg.FinE); intro D'z h'z tk'z F'z N'z o1'z; (have hR8 := off1_ne o1'z); (try simp only [List.nil_append, List.cons_append] at N'z); (try dsimp only)))
  k_with "lcg_off" => (first | exact True.intro | with_reducible assumption | (refine And.intro ⟨by k_ne, by k_ne, by k_ne⟩ ?_; lcg_off))
  k_with "CompEnd" => ((k_here; k_dflt (refine' compEndP ?q17f ?q17n ?q17p1 ?q17p2 ?q17p3 ?q17o ?q17s ?_; (case q17f => k_asm); (case q17n => k_asm); (case q17p1 => kbd_text); (case q17p2 => kbd_text); (case q17p3 => kbd_text); (case q17o => lcg_off); (case q17s => lcg_src); k_whole)))
  k_with "kbd_text" => (((with_reducible show Split _ _ _); first | exact Split.nil | (apply Split.cons; kbd_text)))
  k_with "exec While BoolOp cons nil" => ((k_here; refine while_mark ?_))
  k_with "exec While Compare cons nil" => ((k_here; refine while_mark ?_))
  k_with "subscriptTail Attribute" => ((k_here; k_dflt (refine kba_turn (value' := PySem.Expr.Name (PySem.Str.ofString "_") ⟨0, 0, 0, 0⟩) (fun _ => rfl) ?_)))
  k_with "ite" => ((k_closed; k_dflt (first | rw [if_pos (by decide)] | rw [if_neg (by decide)])))
  k_with "k_in" => (first | with_reducible assumption | exact Frag.In.keeps (by with_reducible assumption) (Fr.keep (by with_reducible assumption)))
  k_with "execs nil" => ((k_here; refine wpAny_execs_nil ?_))
  k_with "execs cons" => ((k_here; refine wpAny_execs_cons ?_))
  k_with "exec If" => ((k_here; refine wpAny_If ?_))
  trivial
theorem dp_keys_none : typeLookup (.type "list") "keys" = pure none := am_miss_of_fast (by decide +kernel)
section
variable {prog : Program} {w : World} {A : Around} {E : Value → Shared → Prop} {s : Shared}
/-- a list has no attribute «keys»: the error is made, and caught at once -/
theorem keys_missing {a : Addr} {xs : Array Value} {k : Nat} {Q : Option Value → Shared → Prop}
    (hx : s.heap.get? a = some { cls := .type "list", data := .seq xs k }) (hA : A.handled = none)
    (h : ∀ h' tk, (∀ b o, s.heap.get? b = some o → h'.get? b = some o) → Q none { s with heap := h', toks := tk }) :
    wpAny (model prog w) A (getAttr? (.ref a) "keys") Q E s := by
  obtain ⟨hp, g, d, tk, os⟩ := s
  have hT : ∀ tk', (⟨hp, g, d, tk', os⟩ : Shared).TypeIs (.ref a) "list" := fun _ => ⟨_, hx, rfl⟩
  have f1 := sub_AttributeError
  have f3 := F.slot_list_getattribute.lookup
  have f4 := F.slot_list_getattribute.bind (.ref a)
  have f5 := am_list_getattr_none
  unfold getAttr? getAttrBy? getAttrBy
  repeat (any_goals (first | assumption | exact hT _ | ((with_reducible show wpAny _ _ (call (Value.builtin "list.__getattribute__") _ _) _ _ _); refine call_meets F.slot_list_getattribute (hT _) am_entry_list_getattribute (F.args_list_getattribute_2 _ _) (meets_getattribute_miss_list a xs k #[] _ _ dp_keys_none (by decide +kernel) (by decide +kernel)) ⟨hx, hA, fun h' tk' e hx' => ?_⟩) | wp_step))
  obtain ⟨t', u', he⟩ := hx'.there
  show wpAny _ _ (getattributeRaised _ _ _ _ _ _ _) _ _ _
  unfold getattributeRaised
  repeat (any_goals (first | assumption | wp_step))
  exact h _ _ hx'.keeps
end
section
variable {prog : Program} {w : World} {A : Around} {E : Value → Shared → Prop} {s : Shared}
theorem dp_plain : plainId "dict.update.loop" = true := by decide +kernel
theorem dp_entry : entryFor table "dict.update.loop" = some Builtin.«dict.update.loop» := entryFor_of_tree (by kernel_rfl)
def dpFill (kvs : List (Str × Value)) (r : List (Str × Value)) : List (Str × Value) := r.foldl (fun acc p => stored acc p.1 p.2) kvs
/-- the i-th thing of the list is the pair p, a tuple that stands apart from the iterator and the dict -/
def DpAt (h : Heap) (I d : Addr) (vs : Array Value) (i : Nat) (p : Str × Value) : Prop :=
  ∃ a t n, vs[i]? = some (.ref a) ∧ h.get? a = some { cls := .type "tuple", data := .seq #[.str p.1 t, p.2] n } ∧ a ≠ I ∧ a ≠ d
theorem DpAt.but {h h' : Heap} {I d : Addr} {vs : Array Value} {i : Nat} {p : Str × Value} (k : ∀ b o, b ≠ I → b ≠ d → h.get? b = some o → h'.get? b = some o) (x : DpAt h I d vs i p) : DpAt h' I d vs i p := by
  obtain ⟨a, t, n, e1, e2, e3, e4⟩ := x
  exact ⟨a, t, n, e1, k _ _ e3 e4 e2, e3, e4⟩
theorem dp_dict {h h' : Heap} {d : Addr} {kvs : List (Str × Value)} (hd : h.DictOf (PySem.strKind prog w) d kvs) (k : ∀ o, h.get? d = some o → h'.get? d = some o) : h'.DictOf (PySem.strKind prog w) d kvs := by
  obtain ⟨o, es, ep, ho, r⟩ := hd
  exact ⟨o, es, ep, k _ ho, r⟩
theorem dp_len {kvs : List (Str × Value)} {k : Str} {v : Value} {i : Nat} (h : kvs.length ≤ i) : (stored kvs k v).length ≤ i + 1 := by
  unfold stored
  split
  · rw [List.length_map]; omega
  · rw [List.length_append, List.length_singleton]; omega
theorem dp_loop {R : Result → Shared → Prop} {I src d : Addr} {vs : Array Value} (hh : A.handled = none) (hsI : src ≠ I) (hdI : d ≠ I) (hsd : src ≠ d) (hv : vs.size ≤ 100) :
    ∀ (r : List (Str × Value)) (i : Nat) (kvs : List (Str × Value)) (ti : Tok) (s : Shared), i + r.length = vs.size → kvs.length ≤ i → s.heap.IsListIter I src i → s.heap.IsList src vs → s.heap.DictOf (PySem.strKind prog w) d kvs →
      (∀ j p, r[j]? = some p → DpAt s.heap I d vs (i + j) p) →
      (∀ h' tk, h'.DictOf (PySem.strKind prog w) d (dpFill kvs r) → (∀ b o, b ≠ I → b ≠ d → s.heap.get? b = some o → h'.get? b = some o) → R (.ok (.ret .none)) { s with heap := h', toks := tk }) →
      codeAny (model prog w) A (.builtin "dict.update.loop" ⟨[.ref d, .ref I, .int i ti, .none], []⟩) R s := by
  intro r
  induction r with
  | nil =>
    intro i kvs ti s hi hk hI hl hd hr hR
    simp only [List.length_nil, Nat.add_zero] at hi
    subst hi
    refine codeAny_builtin dp_entry ?_
    unfold Builtin.«dict.update.loop»
    have W := Walks.list (prog := prog) (w := w) (A := A.under (.builtin "dict.update.loop" ⟨[.ref d, .ref I, .int vs.size ti, .none], []⟩)) hh I src hsI vs
    refine wpAny_bind (W.done s _ _ ⟨hI, hl⟩ fun h' tk k => ?_)
    show wpAny _ _ (Builtin.Dict.addKeywords d [] >>= fun _ => _) _ _ _
    refine wpAny_bind (wpAny_pure (wpAny_pure ?_))
    exact hR h' tk (dp_dict hd fun o e => k d o (by simpa using hdI) e) fun b o hb _ e => k b o (by simpa using hb) e
  | cons p r ih =>
    intro i kvs ti s hi hk hI hl hd hr hR
    rw [List.length_cons] at hi
    refine codeAny_builtin dp_entry ?_
    unfold Builtin.«dict.update.loop»
    have W := Walks.list (prog := prog) (w := w) (A := A.under (.builtin "dict.update.loop" ⟨[.ref d, .ref I, .int i ti, .none], []⟩)) hh I src hsI vs
    refine wpAny_bind (W.item i s _ _ (by omega) ⟨hI, hl⟩ fun v h' tk hv' st' k => ?_)
    obtain ⟨a, t, n, e1, e2, e3, e4⟩ := hr 0 p rfl
    rw [Nat.add_zero, hv'] at e1
    cases e1
    have k1 : ∀ b o, b ≠ I → s.heap.get? b = some o → h'.get? b = some o := fun b o hb e => k b o (by simpa using hb) e
    have ha : h'.get? a = some _ := k1 _ _ e3 e2
    have hT : (⟨h', s.gens, s.drawn, tk, s.os⟩ : Shared).TypeIs (.ref a) "tuple" := ⟨_, ha, rfl⟩
    refine wpAny_bind (wpAny_holding ?_)
    refine wpAny_bind (wpAny_tryCatch ?_)
    unfold Builtin.Dict.pairItems
    refine wpAny_bind (wpAny_typeOf hT ?_)
    rw [if_pos (by decide)]
    refine wpAny_bind (wpAny_seqItems ha rfl ?_)
    refine wpAny_pure ?_
    show wpAny _ _ (holding [Value.str p.1 t, p.2] (dictSet d (.str p.1 t) p.2)) _ _ _
    refine wpAny_holding (wpAny_dictSet_pairs (knd := PySem.strKind prog w) (strKind_is _ _ _ _) (dp_dict hd fun o e => k1 _ o hdI e) (fun h₂ hd₂ hs₂ => ?_) (by rw [sizeLine_eq]; omega))
    have k2 : ∀ b o, b ≠ I → b ≠ d → s.heap.get? b = some o → h₂.get? b = some o := fun b o hb hb' e => hs₂.extBut b o hb' (k1 b o hb e)
    refine wpAny_pure ⟨plainId_quiet dp_plain _, ih (i + 1) (stored kvs p.1 p.2) _ _ (by omega) ?_ ?_ ?_ hd₂ ?_ fun h₃ tk₃ hd₃ k₃ => ?_⟩
    · exact dp_len hk
    · exact st'.1.at fun o e => hs₂.extBut I o (Ne.symm hdI) e
    · exact st'.2.at fun o e => hs₂.extBut src o hsd e
    · intro j q hq
      have := hr (j + 1) q hq
      rw [show i + (j + 1) = i + 1 + j by omega] at this
      exact this.but k2
    · exact hR h₃ tk₃ hd₃ fun b o hb hb' e => k₃ b o hb hb' (k2 b o hb hb' e)
end
section
variable {prog : Program} {w : World} {A : Around} {E : Value → Shared → Prop} {s : Shared}
/-- dict(list of pairs) -/
theorem dict_pairs {src : Addr} {vs : List Value} {k : Nat} {r : List (Str × Value)} {Q : Value → Shared → Prop} (hh : A.handled = none) (hx : s.heap.get? src = some { cls := .type "list", data := .seq vs.toArray k })
    (hr : ∀ (j : Nat) (p : Str × Value), r[j]? = some p → ∃ (a : Addr) (t : Tok) (n : Nat), vs[j]? = some (Value.ref a) ∧ s.heap.get? a = some { cls := .type "tuple", data := .seq #[.str p.1 t, p.2] n }) (hlen : r.length = vs.length) (hv : vs.length ≤ 100)
    (h : ∀ h' tk, h'.DictOf (PySem.strKind prog w) s.heap.objs.size (dpFill [] r) → (∀ b o, s.heap.get? b = some o → h'.get? b = some o) → Q (.ref s.heap.objs.size) { s with heap := h', toks := tk }) :
    wpAny (model prog w) A (call (.type "dict") [.ref src]) Q E s := by
  refine callType_codes (Q₁ := fun obj s₁ => obj = .ref s.heap.objs.size ∧ s₁ = { s with heap := s.heap.push { cls := .type "dict", data := .dict #[] } }) F.kt_called_dict (F.kt_typeCall_dict_1 _) F.entry_dict_init (kt_code_dict_new _ ⟨rfl, rfl⟩) ?_
  rintro obj s₁ ⟨rfl, rfl⟩
  have hnew : (s.heap.push { cls := .type "dict", data := .dict #[] }).DictOf (PySem.strKind prog w) s.heap.objs.size [] := Heap.DictOf.new s.heap
  have up : ∀ b o, s.heap.get? b = some o → (s.heap.push { cls := .type "dict", data := .dict #[] }).get? b = some o := fun b o e => Heap.get?_push_of_some _ e
  have hx' := up _ _ hx
  have hsd : src ≠ s.heap.objs.size := Nat.ne_of_lt (Heap.lt_size hx)
  refine ⟨hnew.typeIs, F.args_dict_init_2 _ _, ?_⟩
  unfold Builtin.«dict.__init__»
  refine wpAny_bind ?_
  unfold Builtin.Dict.selfAndRest
  refine wpAny_bind (wpAny_notOrdered_dict hnew.typeIs ?_)
  show wpAny _ _ (pure (s.heap.objs.size, [Value.ref src])) _ _ _
  refine wpAny_pure ?_
  show wpAny _ _ (Builtin.Dict.updateFrom "dict.__init__" s.heap.objs.size (.ref src) [] .none) _ _ _
  unfold Builtin.Dict.updateFrom
  refine wpAny_bind (wpAny_typeOf (T := "list") ⟨_, hx', rfl⟩ ?_)
  rw [if_pos (by decide)]
  refine wpAny_bind (keys_missing hx' hh fun h₁ tk₁ k₁ => ?_)
  rw [if_pos (by decide)]
  refine wpAny_bind (wpAny_rule ?_)
  have hl₁ : h₁.IsList src vs.toArray := ⟨_, k₁ _ _ hx', rfl, _, rfl⟩
  have hd₁ := dp_dict hnew fun o e => k₁ _ o e
  have hlt : ∀ b o, h₁.get? b = some o → b ≠ h₁.objs.size := fun b o e => Nat.ne_of_lt (Heap.lt_size e)
  refine wpAny_bind (wpAny_pyIter_list hl₁ ?_)
  have k₂ : ∀ b o, h₁.get? b = some o → (h₁.push { cls := .type "list_iterator", data := .fields #[.ref src, .int 0 0] }).get? b = some o := fun b o e => Heap.get?_push_of_some _ e
  have hdI : s.heap.objs.size ≠ h₁.objs.size := by
    obtain ⟨o, es, ep, ho, -⟩ := hd₁
    exact hlt _ _ ho
  refine wpAny_pure ⟨plainId_quiet dp_plain _, dp_loop (A := A.in1) (src := src) (vs := vs.toArray) (show A.in1.handled = none from hh) (hlt _ _ (k₁ _ _ hx')) hdI hsd (by simpa using hv) r 0 [] _ _ (by simpa using hlen) (Nat.le_refl _) ⟨_, Heap.get?_push_size _ rfl, rfl, rfl⟩ (hl₁.push _) ?_ ?_ fun h₃ tk₃ hd₃ k₃ => ?_⟩
  · exact dp_dict hd₁ fun o e => k₂ _ o e
  · intro j p hp
    obtain ⟨a, t, n, e1, e2⟩ := hr j p hp
    exact ⟨a, t, n, by rw [Nat.zero_add]; simpa using e1, k₂ _ _ (k₁ _ _ (up _ _ e2)), hlt _ _ (k₁ _ _ (up _ _ e2)), Nat.ne_of_lt (Heap.lt_size e2)⟩
  · exact ⟨rfl, h h₃ tk₃ hd₃ fun b o e => k₃ b o (hlt _ _ (k₁ _ _ (up _ _ e))) (Nat.ne_of_lt (Heap.lt_size e)) (k₂ _ _ (k₁ _ _ (up _ _ e)))⟩
/-- the same, on the ledger -/
theorem dict_pairsN {h₀ : Heap} {L : Addr} {m : Str → Option Value} {news : List (Addr × Obj)} {src : Addr} {vs : List Value} {k : Nat} {r : List (Str × Value)} {Q : Value → Shared → Prop} (hh : A.handled = none) (F : Fr h₀ L s.heap m) (N : News h₀ L s.heap news) (hbig : h₀.NoLimit)
    (hx : (src, ({ cls := .type "list", data := .seq vs.toArray k } : Obj)) ∈ news)
    (hr : ∀ (j : Nat) (p : Str × Value), r[j]? = some p → ∃ (a : Addr) (t : Tok) (n : Nat), vs[j]? = some (Value.ref a) ∧ (a, ({ cls := .type "tuple", data := .seq #[.str p.1 t, p.2] n } : Obj)) ∈ news) (hlen : r.length = vs.length) (hv : vs.length ≤ 100)
    (h : ∀ (d : Addr) o h' tk, Fr h₀ L h' m → News h₀ L h' ((d, o) :: news) → (∀ p ∈ news, p.1 < d) → (d == sysModules) = false → o.IsDictOf (PySem.strKind prog w) (dpFill [] r) → Q (.ref d) { s with heap := h', toks := tk }) :
    wpAny (model prog w) A (call (.type "dict") [.ref src]) Q E s := by
  refine dict_pairs hh (N _ hx).1 (fun j p hp => ?_) hlen hv fun h' tk hd k => ?_
  · obtain ⟨a, t, n, e1, e2⟩ := hr j p hp
    exact ⟨a, t, n, e1, (N _ e2).1⟩
  · obtain ⟨o, ho, hd'⟩ := Heap.dictOf_iff.mp hd
    refine h _ o h' tk (F.keeps k) (fun p hp => ?_) (fun p hp => Heap.lt_size (N p hp).1) (F.notModules (modules_low hbig)) hd'
    rcases List.mem_cons.mp hp with rfl | hp
    · exact ⟨ho, (Nat.ne_of_lt F.ns.lt).symm, next_is_new F⟩
    · exact ⟨k _ _ (N p hp).1, (N p hp).2⟩
end
end
end
section
/-- what is known, entry for entry -/
inductive KnAre (news : List (Addr × Obj)) : List (Str × Value) → Known → Prop
  | nil : KnAre news [] []
  | cons {n : Str} {l : Addr} {us : List Value} {nl : Nat} {ps : List Part} {kvs : List (Str × Value)} {kn : Known} : (l, W.listOf us.toArray nl) ∈ news → PartsAre news us ps → us.length ≤ 3 → KnAre news kvs kn → KnAre news ((n, .ref l) :: kvs) ((n, ps) :: kn)
theorem KnAre.get {news : List (Addr × Obj)} {kvs : List (Str × Value)} {kn : Known} (h : KnAre news kvs kn) (n : Str) :
    match knGet kn n with | none => valueAt kvs n = none | some ps => ∃ l us nl, valueAt kvs n = some (.ref l) ∧ (l, W.listOf us.toArray nl) ∈ news ∧ PartsAre news us ps ∧ us.length ≤ 3 := by
  induction h with
  | nil => rfl
  | @cons n' l us nl ps kvs kn a b c _ ih =>
    by_cases e : n' = n
    · have e1 : knGet ((n', ps) :: kn) n = some ps := by unfold knGet; simp [e]
      have e2 : valueAt ((n', Value.ref l) :: kvs) n = some (.ref l) := by unfold valueAt; simp [e]
      rw [e1]
      exact ⟨l, us, nl, e2, a, b, c⟩
    · have e1 : knGet ((n', ps) :: kn) n = knGet kn n := by unfold knGet; simp [e]
      have e2 : valueAt ((n', Value.ref l) :: kvs) n = valueAt kvs n := by unfold valueAt; simp [e]
      rw [e1, e2]
      exact ih
theorem KnAre.known {news : List (Addr × Obj)} {kvs : List (Str × Value)} {kn : Known} (h : KnAre news kvs kn) : KnownOk kn := by
  induction h with
  | nil => intro q hq; cases hq
  | cons a b c _ ih =>
    intro q hq
    rcases List.mem_cons.mp hq with rfl | hq
    · exact ⟨b.ok, b.length ▸ c⟩
    · exact ih q hq
theorem KnAre.length {news : List (Addr × Obj)} {kvs : List (Str × Value)} {kn : Known} (h : KnAre news kvs kn) : kn.length = kvs.length := by
  induction h with
  | nil => rfl
  | cons _ _ _ _ ih => simp [ih]
theorem KnAre.mono {news news' : List (Addr × Obj)} {kvs : List (Str × Value)} {kn : Known} (h : KnAre news kvs kn) (k : ∀ q ∈ news, q ∈ news') : KnAre news' kvs kn := by
  induction h with
  | nil => exact .nil
  | cons a b c _ ih => exact .cons (k _ a) (b.mono k) c ih
def KnLaw.of {prog : Program} {w : World} {news : List (Addr × Obj)} {kd : Addr} {ko : Obj} {kvs : List (Str × Value)} {kn : Known} (h : KnAre news kvs kn) (isd : ko.IsDictOf (PySem.strKind prog w) kvs) (low : (kd == sysModules) = false) (m : (kd, ko) ∈ news) : KnLaw prog w news kd kn :=
  { ko := ko, kkvs := kvs, mko := m, isd := isd, low := low, get := h.get }
theorem free_le (kn : Known) (ys : List Str) : free kn ys ≤ kn.length := by
  unfold free
  have := List.countP_le_length (p := fun n => decide (n ∉ ys)) (l := kn.map (·.1))
  rw [List.length_map] at this
  exact this
/-- how far one part may grow the size, with f names not yet open -/
def grow : Nat → Nat
  | 0 => 0
  | f + 1 => 30 + 3 * grow f
structure Grown (sz dp : Int) (n : Nat) (k : Nat) (r : Led) : Prop where
  lo : sz ≤ r.sz
  hi : r.sz ≤ sz + n
  dlo : dp ≤ r.dp
  dhi : r.dp ≤ max dp k
theorem Grown.same {sz dp : Int} {n k : Nat} {o : Except Addr (List Nat)} : Grown sz dp n k ⟨o, sz, dp⟩ := ⟨Int.le_refl _, by simp only; omega, Int.le_refl _, by simp only; omega⟩
theorem Grown.lim {sz dp : Int} {a y n k : Nat} {o : Except Addr (List Nat)} (ha : a ≤ n) (hk : y + 1 ≤ k) : Grown sz dp n k ⟨o, sz + a, max dp (y + 1)⟩ := ⟨by simp only; omega, by simp only; omega, by simp only; omega, by simp only; omega⟩
theorem Grown.wider {sz dp : Int} {n n' k : Nat} {r : Led} (h : Grown sz dp n k r) (hn : n ≤ n') : Grown sz dp n' k r := ⟨h.lo, Int.le_trans h.hi (by omega), h.dlo, h.dhi⟩
theorem Grown.after {sz dp : Int} {a b y n k : Nat} {r : Led} (h : Grown (sz + a) (max dp (y + 1)) b k r) (hn : a + b ≤ n) (hk : y + 1 ≤ k) : Grown sz dp n k r := by
  obtain ⟨h1, h2, h3, h4⟩ := h
  exact ⟨by omega, by omega, by omega, by omega⟩
theorem Grown.then {sz dp : Int} {a b n k : Nat} {r r' : Led} (h : Grown sz dp a k r) (h' : Grown r.sz r.dp b k r') (hn : b + a ≤ n) : Grown sz dp n k r' := by
  obtain ⟨h1, h2, h3, h4⟩ := h
  obtain ⟨g1, g2, g3, g4⟩ := h'
  exact ⟨by omega, by omega, by omega, by omega⟩
theorem Grown.led {O : Str → List Str → Int → Int → Led} {ys : List Str} {g k : Nat} (hO : ∀ n sz dp, (Part.r n).Ok → Grown sz dp g k (O n ys sz dp)) : ∀ (ps : List Part) (sz dp : Int) (f0 : List Nat), PartsOk ps → Grown sz dp (ps.length * g) k (ledW O ps ys sz dp f0) := by
  intro ps
  induction ps with
  | nil => intro sz dp f0 _; exact Grown.same
  | cons p ps ih =>
    intro sz dp f0 ok
    have ok' : PartsOk ps := fun q hq => ok q (.tail _ hq)
    have e : ps.length * g + g ≤ (p :: ps).length * g := Nat.le_of_eq (by rw [List.length_cons, Nat.succ_mul])
    cases p with
    | s x =>
      rw [ledW_s]
      exact (ih sz dp _ ok').wider (Nat.le_trans (Nat.le_add_right _ _) e)
    | r n =>
      have h1 := hO n sz dp (ok _ (.head _))
      cases ho : (O n ys sz dp).out with
      | error C =>
        rw [ledW_bad ho]
        exact Grown.wider (r := ⟨_, _, _⟩) ⟨h1.lo, h1.hi, h1.dlo, h1.dhi⟩ (Nat.le_trans (Nat.le_add_left _ _) e)
      | ok t =>
        rw [ledW_ok ho]
        exact h1.then (ih (O n ys sz dp).sz (O n ys sz dp).dp (f0 ++ t) ok') e
theorem opened_grown {kn : Known} {depth most : Int} (hk : KnownOk kn) : ∀ (f : Nat) (n : Str) (ys : List Str) (sz dp : Int), free kn ys ≤ f → Grown sz dp (grow f) (ys.length + f) (opened kn depth most f n ys sz dp) := by
  intro f
  induction f with
  | zero =>
    intro n ys sz dp hf
    unfold opened
    cases hg : knGet kn n with
    | none => exact Grown.same
    | some qs =>
      dsimp only
      by_cases c1 : n ∈ ys
      · rw [if_pos c1]; exact Grown.same
      · exact absurd (free_lt hg c1) (by omega)
  | succ f ih =>
    intro n ys sz dp hf
    have eo : opened kn depth most (f + 1) n ys sz dp = match knGet kn n with
      | none => ⟨.error 162, sz, dp⟩
      | some ps => if n ∈ ys then ⟨.error 162, sz, dp⟩
        else if depth ≤ ys.length ∨ most < sz + (textOf ps).length then ⟨.error 174, sz + (textOf ps).length, max dp (ys.length + 1)⟩
        else ledW (opened kn depth most f) ps (ys ++ [n]) (sz + (textOf ps).length) (max dp (ys.length + 1)) [] := by
      conv => lhs; unfold opened
      all_goals (cases knGet kn n <;> rfl)
    rw [eo]
    cases hg : knGet kn n with
    | none => exact Grown.same
    | some qs =>
      dsimp only
      have hq : PartsOk qs ∧ qs.length ≤ 3 := hk _ (knGet_mem hg)
      have hl := textOf_len hq.1 hq.2
      have hg' : grow (f + 1) = 30 + 3 * grow f := rfl
      by_cases c1 : n ∈ ys
      · rw [if_pos c1]; exact Grown.same
      · rw [if_neg c1]
        have hk1 : ys.length + 1 ≤ ys.length + (f + 1) := Nat.add_le_add_left (Nat.le_add_left _ _) _
        by_cases c2 : depth ≤ (ys.length : Int) ∨ most < sz + ((textOf qs).length : Int)
        · rw [if_pos c2]; exact Grown.lim (Nat.le_trans hl (hg' ▸ Nat.le_add_right _ _)) hk1
        · rw [if_neg c2]
          have hfl := free_lt hg c1
          have e5 : (ys ++ [n]).length + f = ys.length + (f + 1) := by rw [List.length_append, List.length_singleton, Nat.add_assoc, Nat.add_comm 1 f]
          have h := Grown.led (O := opened kn depth most f) (ys := ys ++ [n]) (g := grow f) (k := (ys ++ [n]).length + f) (fun m sz dp _ => ih m (ys ++ [n]) sz dp (by omega)) qs (sz + (textOf qs).length) (max dp (ys.length + 1)) [] hq.1
          rw [e5] at h
          exact h.after (Nat.add_le_add hl (Nat.mul_le_mul_right _ hq.2)) hk1
theorem led_grown {kn : Known} {depth most : Int} (hk : KnownOk kn) (hf : free kn [] ≤ 3) {ps : List Part} (ok : PartsOk ps) (hl : ps.length ≤ 3) :
    0 ≤ (ledW (opened kn depth most 3) ps [] 0 0 []).sz ∧ (ledW (opened kn depth most 3) ps [] 0 0 []).sz ≤ 3000 ∧ 0 ≤ (ledW (opened kn depth most 3) ps [] 0 0 []).dp ∧ (ledW (opened kn depth most 3) ps [] 0 0 []).dp ≤ 10 := by
  have h := Grown.led (O := opened kn depth most 3) (ys := []) (g := grow 3) (k := 3) (fun m sz dp _ => opened_grown hk 3 m [] sz dp hf) ps 0 0 [] ok
  have e : grow 3 = 390 := by decide
  have := Nat.mul_le_mul_right (grow 3) hl
  have a1 := h.lo; have a2 := h.hi; have a3 := h.dlo; have a4 := h.dhi
  exact ⟨by omega, by omega, by omega, by omega⟩
theorem four_int {a b c d : Int} {t1 t2 t3 t4 : Tok} {v : Value} (h : v ∈ [Value.int a t1, .int b t2, .int c t3, .int d t4]) : ∃ x t, v = .int x t ∧ (x = a ∨ x = b ∨ x = c ∨ x = d) := by
  simp only [List.mem_cons, List.not_mem_nil, or_false] at h
  rcases h with rfl | rfl | rfl | rfl
  · exact ⟨_, _, rfl, .inl rfl⟩
  · exact ⟨_, _, rfl, .inr (.inl rfl)⟩
  · exact ⟨_, _, rfl, .inr (.inr (.inl rfl))⟩
  · exact ⟨_, _, rfl, .inr (.inr (.inr rfl))⟩
end
section
theorem c_rightK {w : World} {vw : Program} {loose : List Str} {mean : ExcName → Option Value} {mg mb : Str → Option Value} {dp un : Nat} {gd : Option (List Code)} {cn : Str} {cs : Scope} {a : Addr} {ccd : Value} {cl : List (Str × Addr)} {outer : List Env} {A₀ : Around} {base h₀ : Heap} {L : Addr} {m : Str → Option Value} {s : Shared} {Q E : Value → Shared → Prop} {rest : List (Addr × Obj)} {kd pl : Addr} {ko : Obj} {kvs : List (Str × Value)} {us : List Value} {ps : List Part} {npl : Nat} {depth most : Int} {t1 t2 : Tok} {kn : Known}
   (B : Below A₀ base [] h₀ := by k_asm) (F : Fr h₀ L s.heap m := by k_asm) (X : (Mine.k0.heap_1 w.params).In h₀ := by k_asm) (T : Top vw loose mean mg mb h₀ := by k_asm) (hk : cs.kind = .function := by exact rfl)
   (XB : (Mine.k0.heap_1 w.params).In base := by k_asm) (TB : Top vw loose mean mg mb base := by k_asm)
   (N : News h₀ L s.heap rest) (mko : (kd, ko) ∈ rest) (isd : ko.IsDictOf (PySem.strKind PySem.Challenge.pw_sm0079_01 w) kvs) (low : (kd == sysModules) = false) (ka : KnAre rest kvs kn) (hkl : kvs.length ≤ 3)
   (mpl : (pl, W.listOf us.toArray npl) ∈ rest) (hps : PartsAre rest us ps) (hus : us.length ≤ 3) (hm : most ≤ 3000) (hdp : dp + 60 < recursionLimit := by ktr_room) (hu : un + 2400 < cLine := by ktr_units)
   (ret : ∀ h' tk', Fr h₀ L h' m → News h₀ L h' rest → Q (.bool true) { s with heap := h', toks := tk' }) :
   wpAny (model PySem.Challenge.pw_sm0079_01 w) (ktrTop dp un gd cn cs L a ccd cl []) (call (.ref 745) [.ref pl, .ref kd, .int depth t1, .int most t2]) Q E s :=
  c_right (outer := []) (A₀ := A₀) (base := base) (B := B) (F := F) (X := X) (T := T) (hk := hk) (XB := XB) (TB := TB) (N := N) (kl := KnLaw.of ka isd low mko) (hkk := ka.known) (hkl := by show kvs.length ≤ 50; omega) (mpl := mpl) (hps := hps) (hus := hus) (hm := hm)
    (hfree := Nat.le_trans (free_le _ _) (by rw [ka.length]; exact hkl)) (hdp := hdp) (hu := hu) (ret := ret)
end
section
section
variable {prog : Program} {w : World} {A : Around} {s : Shared} {h₀ : Heap} {L : Addr} {m : Str → Option Value} {env : Env} {ct elt : PySem.Expr} {x : Str} {scope : Scope} {cl : List (Str × Addr)} {S : List (Addr × Obj) → Prop} {P : Nat → Value → Prop} {Fin : List Value → List (Addr × Obj) → Prop} {n : Nat} {news : List (Addr × Obj)}
/-- the test says False, and nothing is changed -/
def KeptF (h₀ : Heap) (L : Addr) (m : Str → Option Value) (s : Shared) (keep : List (Addr × Obj)) (ok : Bool) (s' : Shared) : Prop := ok = false ∧ ∃ h' tk', s' = { s with heap := h', toks := tk' } ∧ Fr h₀ L h' m ∧ News h₀ L h' keep
theorem KeptF.of {h' : Heap} {tk' : Nat} {keep : List (Addr × Obj)} (F : Fr h₀ L h' m) (N : News h₀ L h' keep) : KeptF h₀ L m s keep false { s with heap := h', toks := tk' } := ⟨rfl, _, _, rfl, F, N⟩
theorem compRestT_none
    (step : ∀ i v I oI C oC D m₂ h tk (E' : Value → Shared → Prop), i < n → P i v → LCg.NsObj oC m₂ → m₂ x = some v → Fr h₀ L h m → News h₀ L h ((I, oI) :: (C, oC) :: (D, LCg.lst []) :: news) → LCg.Off3 I C D news → ((@Ne Nat I C) ∧ (@Ne Nat I D) ∧ (@Ne Nat C D)) →
      wpAny (model prog w) A (isTrue ct (compEnvC scope cl C env) (eval ct (compEnvC scope cl C env))) (KeptF h₀ L m { s with heap := h, toks := tk } ((I, oI) :: (C, oC) :: (D, LCg.lst []) :: news)) E' { s with heap := h, toks := tk })
    (hS : S news) (fin : Fin [] news) : LCt.CompRestT prog w A h₀ L m env ct elt x scope cl s S P Fin n 0 [] news := by
  have key : ∀ k i, i + k = n → LCt.CompRestT prog w A h₀ L m env ct elt x scope cl s S P Fin k i [] news := by
    intro k
    induction k with
    | zero => intro i e; exact LCt.CompRestT.zero fin
    | succ k ih =>
      intro i e
      refine LCt.CompRestT.succ fun v I oI C oC D m₂ h tk E' hP hC hx F N off ne => ?_
      refine wpAny_mono (step i v I oI C oC D m₂ h tk E' (by omega) hP hC hx F N off ne) (fun ok s₂ hE => ?_) fun _ _ q => q
      obtain ⟨rfl, h', tk', rfl, F', N'⟩ := hE
      rw [if_neg (by decide)]
      exact ⟨h', tk', news, rfl, F', N', off, hS, ih (i + 1) (by omega)⟩
  exact key n 0 (by omega)
end
theorem law_sz {vs : List Value} {ns : List Int} (h : IntsAre vs ns) (c : ¬ ((63 : Nat) : Int) < (ns.length : Int)) : vs.length ≤ 1000 := by have := h.length; omega
abbrev tup2 (nm : Str) (t : Tok) (l : Addr) : Obj := { cls := .type "tuple", data := .seq [Value.str nm t, Value.ref l].toArray }
/-- what the comprehension of the law's dict has made: one tuple (name, list) for each name -/
inductive Rows (ext : List (Addr × Obj)) : List Str → List Value → Prop
  | nil : Rows ext [] []
  | snoc {ns : List Str} {ys : List Value} {nm : Str} {a l : Addr} {t : Tok} {nl : Nat} {us : List Value} {ps : List Part} : Rows ext ns ys → (a, tup2 nm t l) ∈ ext → (l, W.listOf us.toArray nl) ∈ ext → PartsAre ext us ps → us.length ≤ 3 → Rows ext (ns ++ [nm]) (ys ++ [.ref a])
theorem Rows.mono {ext ext' : List (Addr × Obj)} (k : ∀ q ∈ ext, q ∈ ext') {ns : List Str} {ys : List Value} (h : Rows ext ns ys) : Rows ext' ns ys := by
  induction h with
  | nil => exact .nil
  | snoc _ a b c d ih => exact .snoc ih (k _ a) (k _ b) (c.mono k) d
abbrev lawNames : List Str := [Str.ofString "p", Str.ofString "q", Str.ofString "r"]
inductive DictJ (src : Addr) (n : Nat) (base : List (Addr × Obj)) (i : Nat) (ys : List Value) (news : List (Addr × Obj)) : Prop
  | mk : ∀ (x y : Int) (tx ty : Tok) (ext : List (Addr × Obj)), ((src, W.listOf #[.int x tx, .int y ty] n) ∈ news) → ((∀ q ∈ base, q ∈ news)) → ((∀ q ∈ ext, q ∈ news)) → (0 ≤ x) → (0 ≤ y) → ((∀ q ∈ base, q.1 ≠ src)) → ((∀ q ∈ ext, q.1 ≠ src)) → (Rows ext (lawNames.take i) ys) → DictJ src n base i ys news
theorem DictJ.start {h₀ h : Heap} {L : Addr} {src : Addr} {n : Nat} {base news : List (Addr × Obj)} {i : Nat} {ys : List Value} {I C D : Addr} {oI oC oD : Obj} (N : News h₀ L h ((I, oI) :: (C, oC) :: (D, oD) :: news)) (J : DictJ src n base i ys news) (off : LCg.Off3 I C D news) :
    ∃ (x y : Int) (tx ty : Tok) (ext : List (Addr × Obj)), News h₀ L h ((src, W.listOf #[.int x tx, .int y ty] n) :: ((I, oI) :: (C, oC) :: (D, oD) :: (base ++ ext))) ∧ 0 ≤ x ∧ 0 ≤ y ∧ (∀ q ∈ (I, oI) :: (C, oC) :: (D, oD) :: (base ++ ext), q.1 ≠ src) ∧
      (∀ q ∈ base ++ ext, q.1 ≠ I ∧ q.1 ≠ C ∧ q.1 ≠ D) ∧ Rows ext (lawNames.take i) ys := by
  obtain ⟨x, y, tx, ty, ext, e1, e2, e3, e4, e5, e6, e7, e8⟩ := J
  have o1 := off.mem _ e1
  have hbe : ∀ q ∈ base ++ ext, q ∈ news := fun q hq => (List.mem_append.mp hq).elim (e2 q) (e3 q)
  refine ⟨x, y, tx, ty, ext, ?_, e4, e5, ?_, fun q hq => off.mem q (hbe q hq), e8⟩
  · refine newsSub N (List.forall_mem_cons.mpr ⟨.tail _ (.tail _ (.tail _ e1)), List.forall_mem_cons.mpr ⟨.head _, List.forall_mem_cons.mpr ⟨.tail _ (.head _), List.forall_mem_cons.mpr ⟨.tail _ (.tail _ (.head _)), fun q hq => .tail _ (.tail _ (.tail _ (hbe q hq)))⟩⟩⟩⟩)
  · exact List.forall_mem_cons.mpr ⟨Ne.symm o1.1, List.forall_mem_cons.mpr ⟨Ne.symm o1.2.1, List.forall_mem_cons.mpr ⟨Ne.symm o1.2.2, fun q hq => (List.mem_append.mp hq).elim (e6 q) (e7 q)⟩⟩⟩
theorem DictJ.stop {h₀ h : Heap} {L : Addr} {m : Str → Option Value} {s : Shared} {tk : Nat} {S : List (Addr × Obj) → Prop} {src : Addr} {n : Nat} {base ext tl : List (Addr × Obj)} {i : Nat} {ys : List Value} {I C D : Addr} {oI oC oD : Obj} {x y : Int} {tx ty : Tok} {a l : Addr} {nm : Str} {t : Tok} {us : List Value} {ps : List Part} {nl : Nat}
    (F : Fr h₀ L h m) (N : News h₀ L h ((a, tup2 nm t l) :: (src, W.listOf #[.int x tx, .int y ty] n) :: (((I, oI) :: (C, oC) :: (D, oD) :: (base ++ ext)) ++ tl))) (la : ∀ p ∈ (src, W.listOf #[.int x tx, .int y ty] n) :: (((I, oI) :: (C, oC) :: (D, oD) :: (base ++ ext)) ++ tl), p.1 < a)
    (hx : 0 ≤ x) (hy : 0 ≤ y) (h1 : ∀ q ∈ (I, oI) :: (C, oC) :: (D, oD) :: (base ++ ext), q.1 ≠ src) (h2 : ∀ q ∈ base ++ ext, q.1 ≠ I ∧ q.1 ≠ C ∧ q.1 ≠ D) (hr : Rows ext (lawNames.take i) ys) (hn : lawNames.take (i + 1) = lawNames.take i ++ [nm])
    (q1 : ∀ p ∈ tl, p.1 ≠ src) (q2 : ∀ p ∈ tl, ∀ q ∈ (I, oI) :: (C, oC) :: (D, oD) :: (base ++ ext), q.1 ≠ p.1) (ml : (l, W.listOf us.toArray nl) ∈ tl) (hps : PartsAre tl us ps) (hus : us.length ≤ 3) (hS : ∀ nw, (∀ q ∈ base, q ∈ nw) → S nw) :
    LCg.CompEnd h₀ L m s I oI C oC D oD S (fun y news' => DictJ src n base (i + 1) (ys ++ [y]) news') (.ref a) { s with heap := h, toks := tk } := by
  have hsrc := h1 (I, oI) (.head _)
  have hsrc2 := h1 (C, oC) (.tail _ (.head _))
  have hsrc3 := h1 (D, oD) (.tail _ (.tail _ (.head _)))
  have lI := la (I, oI) (.tail _ (.head _))
  have lC := la (C, oC) (.tail _ (.tail _ (.head _)))
  have lD := la (D, oD) (.tail _ (.tail _ (.tail _ (.head _))))
  have ls := la (src, _) (.head _)
  refine LCg.CompEnd.intro F N ((a, tup2 nm t l) :: (src, W.listOf #[.int x tx, .int y ty] n) :: ((base ++ ext) ++ tl)) ?_ (LCg.Off3.of ?_) (hS _ ?_) ?_
  · intro q hq
    simp only [List.mem_cons, List.mem_append] at hq ⊢
    rcases hq with h | h | h | h | h | (h | h) | h <;> simp only [h, true_or, or_true]
  · refine List.forall_mem_cons.mpr ⟨⟨Nat.ne_of_gt lI, Nat.ne_of_gt lC, Nat.ne_of_gt lD⟩, List.forall_mem_cons.mpr ⟨⟨Ne.symm hsrc, Ne.symm hsrc2, Ne.symm hsrc3⟩, fun q hq => ?_⟩⟩
    rcases List.mem_append.mp hq with hq | hq
    · exact h2 q hq
    · exact ⟨Ne.symm (q2 q hq (I, oI) (.head _)), Ne.symm (q2 q hq (C, oC) (.tail _ (.head _))), Ne.symm (q2 q hq (D, oD) (.tail _ (.tail _ (.head _))))⟩
  · exact fun q hq => .tail _ (.tail _ (List.mem_append_left _ (List.mem_append_left _ hq)))
  · refine ⟨x, y, tx, ty, (a, tup2 nm t l) :: (ext ++ tl), .tail _ (.head _), fun q hq => .tail _ (.tail _ (List.mem_append_left _ (List.mem_append_left _ hq))), ?_, hx, hy, fun q hq => h1 q (.tail _ (.tail _ (.tail _ (List.mem_append_left _ hq)))), ?_, ?_⟩
    · refine List.forall_mem_cons.mpr ⟨.head _, fun q hq => .tail _ (.tail _ ?_)⟩
      rcases List.mem_append.mp hq with hq | hq
      · exact List.mem_append_left _ (List.mem_append_right _ hq)
      · exact List.mem_append_right _ hq
    · refine List.forall_mem_cons.mpr ⟨Nat.ne_of_gt ls, fun q hq => ?_⟩
      rcases List.mem_append.mp hq with hq | hq
      · exact h1 q (.tail _ (.tail _ (.tail _ (List.mem_append_right _ hq))))
      · exact q1 q hq
    · rw [hn]
      exact Rows.snoc (hr.mono fun q hq => .tail _ (List.mem_append_left _ hq)) (.head _) (.tail _ (List.mem_append_right _ ml)) (hps.mono fun q hq => .tail _ (List.mem_append_right _ hq)) hus
theorem dict_comp {prog : Program} {w : World} {A : Around} {s : Shared} {h₀ : Heap} {L : Addr} {m : Str → Option Value} {env : Env} {elt : PySem.Expr} {x : Str} {scope : Scope} {cl : List (Str × Addr)} {S : List (Addr × Obj) → Prop} {P : Nat → Value → Prop} {Fin : List Value → List (Addr × Obj) → Prop} {n : Nat} {news base : List (Addr × Obj)}
    {src : Addr} {x₀ y₀ : Int} {tx ty : Tok} {ns : Nat} (hp : Pick (src, W.listOf #[.int x₀ tx, .int y₀ ty] ns) news base) (h0 : 0 ≤ x₀) (h1 : 0 ≤ y₀) (hb : ∀ q ∈ base, q.1 ≠ src)
    (step : ∀ i ys news v I oI C oC D m₂ h tk (E' : Value → Shared → Prop), i < n → DictJ src ns base i ys news → P i v → LCg.NsObj oC m₂ → m₂ x = some v → Fr h₀ L h m → News h₀ L h ((I, oI) :: (C, oC) :: (D, LCg.lst ys) :: news) → LCg.Off3 I C D news → ((@Ne Nat I C) ∧ (@Ne Nat I D) ∧ (@Ne Nat C D)) →
      wpAny (model prog w) A (eval elt (compEnvC scope cl C env)) (LCg.CompEnd h₀ L m { s with heap := h, toks := tk } I oI C oC D (LCg.lst ys) S (fun y news' => DictJ src ns base (i + 1) (ys ++ [y]) news')) E' { s with heap := h, toks := tk })
    (fin : ∀ ys news, DictJ src ns base n ys news → Fin ys news) : LCg.CompRest prog w A h₀ L m env elt x scope cl s S P Fin n 0 [] news :=
  compRest_inv (DictJ src ns base) ⟨x₀, y₀, tx, ty, [], hp.mem _ (.head _), fun q hq => hp.mem _ (.tail _ hq), List.forall_mem_nil _, h0, h1, hb, List.forall_mem_nil _, Rows.nil⟩ step fin
theorem KnAre.snoc {news : List (Addr × Obj)} {kvs : List (Str × Value)} {kn : Known} (h : KnAre news kvs kn) {n : Str} {l : Addr} {us : List Value} {nl : Nat} {ps : List Part} (a : (l, W.listOf us.toArray nl) ∈ news) (b : PartsAre news us ps) (c : us.length ≤ 3) : KnAre news (kvs ++ [(n, .ref l)]) (kn ++ [(n, ps)]) := by
  induction h with
  | nil => exact .cons a b c .nil
  | cons x y z _ ih => exact .cons x y z ih
theorem Rows.all {ext : List (Addr × Obj)} {ns : List Str} {ys : List Value} (h : Rows ext ns ys) :
    ∃ (r : List (Str × Value)) (kn : Known), r.map (·.1) = ns ∧ KnAre ext r kn ∧ r.length = ys.length ∧ ∀ (j : Nat) (p : Str × Value), r[j]? = some p → ∃ (a : Addr) (t : Tok) (n : Nat), ys[j]? = some (Value.ref a) ∧ (a, ({ cls := .type "tuple", data := .seq #[.str p.1 t, p.2] n } : Obj)) ∈ ext := by
  induction h with
  | nil => exact ⟨[], [], rfl, .nil, rfl, fun j p e => by cases e⟩
  | @snoc ns ys nm a l t nl us ps _ m1 m2 m3 m4 ih =>
    obtain ⟨r, kn, e1, e2, e3, e4⟩ := ih
    refine ⟨r ++ [(nm, .ref l)], kn ++ [(nm, ps)], by simp [e1], e2.snoc m2 m3 m4, by simp [e3], fun j p hj => ?_⟩
    by_cases hlt : j < r.length
    · rw [List.getElem?_append_left hlt] at hj
      obtain ⟨a', t', n', f1, f2⟩ := e4 j p hj
      exact ⟨a', t', n', by rw [List.getElem?_append_left (by omega)]; exact f1, f2⟩
    · have hje : j = r.length := by
        have := (List.getElem?_eq_some_iff.mp hj).1
        rw [List.length_append, List.length_singleton] at this
        omega
      subst hje
      rw [List.getElem?_concat_length] at hj
      cases hj
      exact ⟨a, t, _, by rw [e3]; exact List.getElem?_concat_length, m1⟩
theorem dpFill_app : ∀ (r acc : List (Str × Value)), ((acc ++ r).map (·.1)).Nodup → dpFill acc r = acc ++ r := by
  intro r
  induction r with
  | nil => intro acc _; simp [dpFill]
  | cons p r ih =>
    intro acc h
    have hs : stored acc p.1 p.2 = acc ++ [p] := by
      unfold stored
      rw [if_neg]
      intro hc
      rw [List.any_eq_true] at hc
      obtain ⟨q, hq, e⟩ := hc
      have e : q.1 = p.1 := by simpa using e
      rw [List.map_append, List.nodup_append] at h
      exact h.2.2 q.1 (List.mem_map.mpr ⟨q, hq, rfl⟩) p.1 (List.mem_map.mpr ⟨p, .head _, rfl⟩) e
    show dpFill (stored acc p.1 p.2) r = _
    rw [hs, ih (acc ++ [p]) (by simpa using h)]
    simp
theorem DictJ.fin {h₀ h : Heap} {L : Addr} {src : Addr} {n : Nat} {base news : List (Addr × Obj)} {i : Nat} {ys : List Value} {D : Addr} {oD : Obj} (J : DictJ src n base i ys news) (N : News h₀ L h ((D, oD) :: news)) (off : ∀ q ∈ news, q.1 ≠ D) :
    ∃ (x y : Int) (tx ty : Tok) (ext : List (Addr × Obj)), News h₀ L h ((src, W.listOf #[.int x tx, .int y ty] n) :: ((D, oD) :: (base ++ ext))) ∧ 0 ≤ x ∧ 0 ≤ y ∧ (∀ q ∈ (D, oD) :: (base ++ ext), q.1 ≠ src) ∧ Rows ext (lawNames.take i) ys := by
  obtain ⟨x, y, tx, ty, ext, e1, e2, e3, e4, e5, e6, e7, e8⟩ := J
  have hbe : ∀ q ∈ base ++ ext, q ∈ news := fun q hq => (List.mem_append.mp hq).elim (e2 q) (e3 q)
  refine ⟨x, y, tx, ty, ext, newsSub N (List.forall_mem_cons.mpr ⟨.tail _ e1, List.forall_mem_cons.mpr ⟨.head _, fun q hq => .tail _ (hbe q hq)⟩⟩), e4, e5, ?_, e8⟩
  exact List.forall_mem_cons.mpr ⟨Ne.symm (off _ e1), fun q hq => (List.mem_append.mp hq).elim (e6 q) (e7 q)⟩
theorem appNe {x : Addr} {a b : List (Addr × Obj)} (h : ∀ q ∈ a, q.1 ≠ x) (k : ∀ q ∈ b, q.1 ≠ x) : ∀ q ∈ a ++ b, q.1 ≠ x := fun q hq => (List.mem_append.mp hq).elim (h q) (k q)
theorem comp_tup {h₀ h : Heap} {L : Addr} {all : List (Addr × Obj)} {G : Prop} {v : Value} (_N : News h₀ L h all) (hv : ∃ (a : Addr) (d m : Int) (t1 t2 : Tok), v = .ref a ∧ (a, tupObj [.int d t1, .int m t2]) ∈ all ∧ m ≤ 3000)
    (k : ∀ (a : Addr) (d m : Int) (t1 t2 : Tok), v = .ref a → (a, tupObj [.int d t1, .int m t2]) ∈ all → m ≤ 3000 → G) : G := by
  obtain ⟨a, d, m, t1, t2, e, h1, h2⟩ := hv
  exact k a d m t1 t2 e h1 h2
end
theorem hd.tw10012880186880212623 : True := True.intro
theorem hd.tw10024716035694756283 : True := True.intro
theorem hd.tw100483095206116625 : True := True.intro
theorem hd.tw1005483496087919985 : True := True.intro
theorem hd.tw10098268173465320503 : True := True.intro
theorem hd.tw10111801491309104144 : True := True.intro
theorem hd.tw10117440562283002822 : True := True.intro
theorem hd.tw10170382586518783626 : True := True.intro
theorem hd.tw10203026625882799534 : True := True.intro
theorem hd.tw10216474801634566288 : True := True.intro
theorem hd.tw10246146449241189800 : True := True.intro
theorem hd.tw10258999931320997221 : True := True.intro
theorem hd.tw10264135568141901301 : True := True.intro
theorem hd.tw1033889070964956483 : True := True.intro
theorem hd.tw10393663353328721598 : True := True.intro
theorem hd.tw10424393626065333798 : True := True.intro
theorem hd.tw1043307727769730188 : True := True.intro
theorem hd.tw10458740792067480800 : True := True.intro
theorem hd.tw10465514089279642386 : True := True.intro
theorem hd.tw10491609206876299696 : True := True.intro
theorem hd.tw10507497572311344420 : True := True.intro
theorem hd.tw10525666975642140466 : True := True.intro
theorem hd.tw10531373872144210542 : True := True.intro
theorem hd.tw10543509907540572799 : True := True.intro
theorem hd.tw10583446816852156582 : True := True.intro
theorem hd.tw10601615944963115059 : True := True.intro
theorem hd.tw10603584201595350602 : True := True.intro
theorem hd.tw10614716105012338702 : True := True.intro
theorem hd.tw10678649693572172417 : True := True.intro
theorem hd.tw10738003575532504788 : True := True.intro
theorem hd.tw10743916045514856203 : True := True.intro
theorem hd.tw10752148897807903841 : True := True.intro
theorem hd.tw10781468475247234061 : True := True.intro
theorem hd.tw10788059911547816233 : True := True.intro
theorem hd.tw10792051664901133789 : True := True.intro
theorem hd.tw10806950440038215891 : True := True.intro
theorem hd.tw10844753989422098599 : True := True.intro
theorem hd.tw10847404155465417027 : True := True.intro
theorem hd.tw10860895700388868024 : True := True.intro
theorem hd.tw10879034167726328663 : True := True.intro
theorem hd.tw1088296927520436173 : True := True.intro
theorem hd.tw10905682514733158466 : True := True.intro
theorem hd.tw10914352517091768544 : True := True.intro
theorem hd.tw10938747861014524180 : True := True.intro
theorem hd.tw10949625832625181284 : True := True.intro
theorem hd.tw11011131195910976488 : True := True.intro
theorem hd.tw11032806212648032379 : True := True.intro
theorem hd.tw11034497122203965937 : True := True.intro
theorem hd.tw11041590408114104254 : True := True.intro
theorem hd.tw11054480109507316185 : True := True.intro
theorem hd.tw11079593142295127227 : True := True.intro
theorem hd.tw11117797201346649052 : True := True.intro
theorem hd.tw11128854368766332075 : True := True.intro
theorem hd.tw11136197038861592535 : True := True.intro
theorem hd.tw11151547217846952531 : True := True.intro
theorem hd.tw11162318198679636149 : True := True.intro
theorem hd.tw1118553966540926140 : True := True.intro
theorem hd.tw11210553801493137410 : True := True.intro
theorem hd.tw11213053971927718326 : True := True.intro
theorem hd.tw11232374478483605306 : True := True.intro
theorem hd.tw11249132867342737325 : True := True.intro
theorem hd.tw11251137523995926341 : True := True.intro
theorem hd.tw11254508552101053245 : True := True.intro
theorem hd.tw11256106856564762260 : True := True.intro
theorem hd.tw1129884963351977449 : True := True.intro
theorem hd.tw11319097763535126812 : True := True.intro
theorem hd.tw11364443708160879001 : True := True.intro
theorem hd.tw11402939732021071671 : True := True.intro
theorem hd.tw11513968764499736323 : True := True.intro
theorem hd.tw11551083187376567056 : True := True.intro
theorem hd.tw11587034568685482758 : True := True.intro
theorem hd.tw11631869004601391166 : True := True.intro
theorem hd.tw11631947586910100387 : True := True.intro
theorem hd.tw11652457597714270106 : True := True.intro
theorem hd.tw11660266114150955751 : True := True.intro
theorem hd.tw11663481321943121269 : True := True.intro
theorem hd.tw11672842613191775419 : True := True.intro
theorem hd.tw11709330566771433103 : True := True.intro
theorem hd.tw11713075325732132258 : True := True.intro
theorem hd.tw11754176132448286083 : True := True.intro
theorem hd.tw11778180911958503814 : True := True.intro
theorem hd.tw11801993109049149486 : True := True.intro
theorem hd.tw11814627755841444246 : True := True.intro
theorem hd.tw11852641145169952659 : True := True.intro
theorem hd.tw11893437276241958245 : True := True.intro
theorem hd.tw11912922877643110818 : True := True.intro
theorem hd.tw11917015161858427179 : True := True.intro
theorem hd.tw11919178371003666071 : True := True.intro
theorem hd.tw1194904439430580092 : True := True.intro
theorem hd.tw11953376511379268794 : True := True.intro
theorem hd.tw1197925565968671727 : True := True.intro
theorem hd.tw12023040214023829324 : True := True.intro
theorem hd.tw12050417470231563642 : True := True.intro
theorem hd.tw12058812876911547015 : True := True.intro
theorem hd.tw12066061910607089961 : True := True.intro
theorem hd.tw12070051907170230399 : True := True.intro
theorem hd.tw12070654863422294720 : True := True.intro
theorem hd.tw1208734638264122097 : True := True.intro
theorem hd.tw12113243949977362033 : True := True.intro
theorem hd.tw1222794163293265305 : True := True.intro
theorem hd.tw12239354291974867115 : True := True.intro
theorem hd.tw12337632362937886050 : True := True.intro
theorem hd.tw12350410155528471161 : True := True.intro
theorem hd.tw12364972598781006883 : True := True.intro
theorem hd.tw12393119488966705847 : True := True.intro
theorem hd.tw12394076208661396346 : True := True.intro
theorem hd.tw12399718760709695909 : True := True.intro
theorem hd.tw1241404454085649124 : True := True.intro
theorem hd.tw12414669353804360901 : True := True.intro
theorem hd.tw12459740579856956213 : True := True.intro
theorem hd.tw12487502673411948298 : True := True.intro
theorem hd.tw12521463284412890351 : True := True.intro
theorem hd.tw12575139184659369484 : True := True.intro
theorem hd.tw12588582704262371052 : True := True.intro
theorem hd.tw12590977762386282803 : True := True.intro
theorem hd.tw12591134339009171964 : True := True.intro
theorem hd.tw12602439190401603521 : True := True.intro
theorem hd.tw12611767792052310623 : True := True.intro
theorem hd.tw12629568148972539762 : True := True.intro
theorem hd.tw12631932088317031055 : True := True.intro
theorem hd.tw12647368939536790636 : True := True.intro
theorem hd.tw12659318050587179527 : True := True.intro
theorem hd.tw12685813987229840507 : True := True.intro
theorem hd.tw12744807935193187038 : True := True.intro
theorem hd.tw12769127236821124696 : True := True.intro
theorem hd.tw12808940187153468413 : True := True.intro
theorem hd.tw12832683148521936107 : True := True.intro
theorem hd.tw12861998865439983172 : True := True.intro
theorem hd.tw12870888531099404533 : True := True.intro
theorem hd.tw12901994302517312135 : True := True.intro
theorem hd.tw12936449754285732098 : True := True.intro
theorem hd.tw12940713784782232206 : True := True.intro
theorem hd.tw12949589719889679912 : True := True.intro
theorem hd.tw12952509933414984302 : True := True.intro
theorem hd.tw1299046323782801668 : True := True.intro
theorem hd.tw12994019391074448376 : True := True.intro
theorem hd.tw13038990169509382042 : True := True.intro
theorem hd.tw13047593935725612058 : True := True.intro
theorem hd.tw13066319289922817542 : True := True.intro
theorem hd.tw13092906067662860646 : True := True.intro
theorem hd.tw13122850982685727845 : True := True.intro
theorem hd.tw13132618709999183898 : True := True.intro
theorem hd.tw13160604113216922460 : True := True.intro
theorem hd.tw13181700845877081190 : True := True.intro
theorem hd.tw13217225542625558698 : True := True.intro
theorem hd.tw13217827037086042188 : True := True.intro
theorem hd.tw13220430256171166289 : True := True.intro
theorem hd.tw13225837485096350037 : True := True.intro
theorem hd.tw1322998140766877354 : True := True.intro
theorem hd.tw13267510147771200024 : True := True.intro
theorem hd.tw13277076834127875243 : True := True.intro
theorem hd.tw13289513938125300765 : True := True.intro
theorem hd.tw13293453174229064190 : True := True.intro
theorem hd.tw1331086792558400476 : True := True.intro
theorem hd.tw13315533130655954831 : True := True.intro
theorem hd.tw13321331477185743149 : True := True.intro
theorem hd.tw13322179722446271537 : True := True.intro
theorem hd.tw13330244855972007585 : True := True.intro
theorem hd.tw13350186804988542658 : True := True.intro
theorem hd.tw13363553139645760527 : True := True.intro
theorem hd.tw13365295217650922812 : True := True.intro
theorem hd.tw13368278939475635651 : True := True.intro
theorem hd.tw13372043803930879067 : True := True.intro
theorem hd.tw13409441903868389331 : True := True.intro
theorem hd.tw13431754692932380062 : True := True.intro
theorem hd.tw13466754112058979494 : True := True.intro
theorem hd.tw13475242022060392486 : True := True.intro
theorem hd.tw13481084687333161198 : True := True.intro
theorem hd.tw13483081372092288885 : True := True.intro
theorem hd.tw13518370688599389936 : True := True.intro
theorem hd.tw13532847315355080253 : True := True.intro
theorem hd.tw13566260322249332789 : True := True.intro
theorem hd.tw1359830224848277088 : True := True.intro
theorem hd.tw13638418597567726942 : True := True.intro
theorem hd.tw13642289790063256904 : True := True.intro
theorem hd.tw1365801648042143879 : True := True.intro
theorem hd.tw13770079208771991547 : True := True.intro
theorem hd.tw13783031573616600631 : True := True.intro
theorem hd.tw13790719812936386609 : True := True.intro
theorem hd.tw1379335367625716243 : True := True.intro
theorem hd.tw13828106393651249627 : True := True.intro
theorem hd.tw1382963296337349011 : True := True.intro
theorem hd.tw13855881374063213867 : True := True.intro
theorem hd.tw13855946660403688772 : True := True.intro
theorem hd.tw13866372431405929976 : True := True.intro
theorem hd.tw13887252247202473659 : True := True.intro
theorem hd.tw13893168526513508166 : True := True.intro
theorem hd.tw13903934854276604550 : True := True.intro
theorem hd.tw13919464512627920130 : True := True.intro
theorem hd.tw13929354066492186541 : True := True.intro
theorem hd.tw13931416462566266981 : True := True.intro
theorem hd.tw14006173549557618073 : True := True.intro
theorem hd.tw14029546391885035639 : True := True.intro
theorem hd.tw14060154772996877548 : True := True.intro
theorem hd.tw14060237666301923597 : True := True.intro
theorem hd.tw1409312971732116557 : True := True.intro
theorem hd.tw14103535550066685397 : True := True.intro
theorem hd.tw14120982254508448379 : True := True.intro
theorem hd.tw1413172679324656950 : True := True.intro
theorem hd.tw14137390275340422267 : True := True.intro
theorem hd.tw14168552714766633299 : True := True.intro
theorem hd.tw14176624398918483544 : True := True.intro
theorem hd.tw14246236162039180721 : True := True.intro
theorem hd.tw14294001040229213422 : True := True.intro
theorem hd.tw14353793391729792155 : True := True.intro
theorem hd.tw1439246655266547700 : True := True.intro
theorem hd.tw14400467628812073631 : True := True.intro
theorem hd.tw14438451200097066615 : True := True.intro
theorem hd.tw14457593812595234344 : True := True.intro
theorem hd.tw14462709497994964445 : True := True.intro
theorem hd.tw14478148883734587675 : True := True.intro
theorem hd.tw14492701947808656938 : True := True.intro
theorem hd.tw1452849714261714991 : True := True.intro
theorem hd.tw14553816603554493358 : True := True.intro
theorem hd.tw14560493823538711346 : True := True.intro
theorem hd.tw14567429538950270057 : True := True.intro
theorem hd.tw14598272352848978880 : True := True.intro
theorem hd.tw14612060388864693735 : True := True.intro
theorem hd.tw14667805832236412624 : True := True.intro
theorem hd.tw14705683404202351889 : True := True.intro
theorem hd.tw14727110085682223627 : True := True.intro
theorem hd.tw14745743045033390146 : True := True.intro
theorem hd.tw14768889098011018680 : True := True.intro
theorem hd.tw14772383043592177042 : True := True.intro
theorem hd.tw14859038896228082724 : True := True.intro
theorem hd.tw14892549342360969540 : True := True.intro
theorem hd.tw14896477498954680388 : True := True.intro
theorem hd.tw14906377314874228009 : True := True.intro
theorem hd.tw14955159897011116063 : True := True.intro
theorem hd.tw14960593345356199642 : True := True.intro
theorem hd.tw14980023328507725902 : True := True.intro
theorem hd.tw14984183105004643987 : True := True.intro
theorem hd.tw14991384322417631237 : True := True.intro
theorem hd.tw15042006015671813226 : True := True.intro
theorem hd.tw15043168886218598503 : True := True.intro
theorem hd.tw15048261121198461528 : True := True.intro
theorem hd.tw15083628210047938546 : True := True.intro
theorem hd.tw15152743547302097792 : True := True.intro
theorem hd.tw15166520500009309586 : True := True.intro
theorem hd.tw15179676742415161110 : True := True.intro
theorem hd.tw15199589371867527261 : True := True.intro
theorem hd.tw15207398651663016943 : True := True.intro
theorem hd.tw15213948185873263833 : True := True.intro
theorem hd.tw15220180469806662145 : True := True.intro
theorem hd.tw15279998641719260112 : True := True.intro
theorem hd.tw15344866539931968096 : True := True.intro
theorem hd.tw15367242080415987702 : True := True.intro
theorem hd.tw15368132723985388332 : True := True.intro
theorem hd.tw15416985209724490359 : True := True.intro
theorem hd.tw15422856539912107476 : True := True.intro
theorem hd.tw15450751670939132454 : True := True.intro
theorem hd.tw15463257786427224491 : True := True.intro
theorem hd.tw15508949281206285077 : True := True.intro
theorem hd.tw15527848837575444561 : True := True.intro
theorem hd.tw15529170255622000948 : True := True.intro
theorem hd.tw15578025631644234493 : True := True.intro
theorem hd.tw15616948245753086127 : True := True.intro
theorem hd.tw1563692795949630186 : True := True.intro
theorem hd.tw15642763164714097627 : True := True.intro
theorem hd.tw15643275761693703936 : True := True.intro
theorem hd.tw15673258824015622330 : True := True.intro
theorem hd.tw15675198926951892251 : True := True.intro
theorem hd.tw15708541367759985602 : True := True.intro
theorem hd.tw15759970867653108152 : True := True.intro
theorem hd.tw15790720579355451973 : True := True.intro
theorem hd.tw15833661619300960221 : True := True.intro
theorem hd.tw15852365999677673905 : True := True.intro
theorem hd.tw1588505670450824345 : True := True.intro
theorem hd.tw1589133516308662214 : True := True.intro
theorem hd.tw15910714762333108613 : True := True.intro
theorem hd.tw15946388913382835224 : True := True.intro
theorem hd.tw15948780112781908787 : True := True.intro
theorem hd.tw15967140613478806237 : True := True.intro
theorem hd.tw15992342658441690333 : True := True.intro
theorem hd.tw16006246977917349235 : True := True.intro
theorem hd.tw16007149819294483003 : True := True.intro
theorem hd.tw16009884308244765898 : True := True.intro
theorem hd.tw16011055738799735888 : True := True.intro
theorem hd.tw16021584376213005207 : True := True.intro
theorem hd.tw16029623286316568529 : True := True.intro
theorem hd.tw1603739661141634737 : True := True.intro
theorem hd.tw16037735763661986305 : True := True.intro
theorem hd.tw16053994301053490033 : True := True.intro
theorem hd.tw16056359734778111409 : True := True.intro
theorem hd.tw1610171440888473627 : True := True.intro
theorem hd.tw16138627921320673191 : True := True.intro
theorem hd.tw16155205043701107222 : True := True.intro
theorem hd.tw16157073509204512506 : True := True.intro
theorem hd.tw16169374299450900766 : True := True.intro
theorem hd.tw16171809288044610508 : True := True.intro
theorem hd.tw16178712458983371728 : True := True.intro
theorem hd.tw16194383521188589630 : True := True.intro
theorem hd.tw16211521421427940678 : True := True.intro
theorem hd.tw16259696140248634718 : True := True.intro
theorem hd.tw162610821266807592 : True := True.intro
theorem hd.tw16299908979028503884 : True := True.intro
theorem hd.tw16302227732802510677 : True := True.intro
theorem hd.tw16332348944364537037 : True := True.intro
theorem hd.tw16345102440705955213 : True := True.intro
theorem hd.tw16357263729072622229 : True := True.intro
theorem hd.tw16376525773666504680 : True := True.intro
theorem hd.tw16393493315030741486 : True := True.intro
theorem hd.tw16412773359747925120 : True := True.intro
theorem hd.tw16487816990975572028 : True := True.intro
theorem hd.tw16502264421070913907 : True := True.intro
theorem hd.tw16622790232430140758 : True := True.intro
theorem hd.tw16640546478005224243 : True := True.intro
theorem hd.tw16649331688326792143 : True := True.intro
theorem hd.tw16684818696116721337 : True := True.intro
theorem hd.tw16694946328126371552 : True := True.intro
theorem hd.tw16713699803418581334 : True := True.intro
theorem hd.tw16722109127936396110 : True := True.intro
theorem hd.tw16772102934027710169 : True := True.intro
theorem hd.tw16794629799341752650 : True := True.intro
theorem hd.tw16828841361933241965 : True := True.intro
theorem hd.tw16853341256802265648 : True := True.intro
theorem hd.tw16868993833207775613 : True := True.intro
theorem hd.tw16904818350239718627 : True := True.intro
theorem hd.tw16919406825032445293 : True := True.intro
theorem hd.tw16920754564084929960 : True := True.intro
theorem hd.tw16945582573551092051 : True := True.intro
theorem hd.tw16970440968685349367 : True := True.intro
theorem hd.tw1699103778626983548 : True := True.intro
theorem hd.tw17001982702790524580 : True := True.intro
theorem hd.tw17054507655720011243 : True := True.intro
theorem hd.tw17062030032774818151 : True := True.intro
theorem hd.tw17070941380808615275 : True := True.intro
theorem hd.tw17076082267592564974 : True := True.intro
theorem hd.tw17087091549796120035 : True := True.intro
theorem hd.tw17088047866570459193 : True := True.intro
theorem hd.tw1712922718373300912 : True := True.intro
theorem hd.tw17130151131035750659 : True := True.intro
theorem hd.tw17157681369570327122 : True := True.intro
theorem hd.tw17177331786930743035 : True := True.intro
theorem hd.tw17213754286329925777 : True := True.intro
theorem hd.tw17234923516513369237 : True := True.intro
theorem hd.tw17252143746492648416 : True := True.intro
theorem hd.tw17258206423299326598 : True := True.intro
theorem hd.tw17312999752573914782 : True := True.intro
theorem hd.tw17325209927041812611 : True := True.intro
theorem hd.tw17330132731328240911 : True := True.intro
theorem hd.tw17330945745186091897 : True := True.intro
theorem hd.tw17336936450418997793 : True := True.intro
theorem hd.tw17377529257436501650 : True := True.intro
theorem hd.tw17387473266821786944 : True := True.intro
theorem hd.tw17420951861521290806 : True := True.intro
theorem hd.tw17429513623812275283 : True := True.intro
theorem hd.tw17447410573909459338 : True := True.intro
theorem hd.tw17470177872615007328 : True := True.intro
theorem hd.tw17471934795394947791 : True := True.intro
theorem hd.tw17491280204586788870 : True := True.intro
theorem hd.tw17491317419825422843 : True := True.intro
theorem hd.tw17542962492245011380 : True := True.intro
theorem hd.tw17562767543260142214 : True := True.intro
theorem hd.tw17574625026820762457 : True := True.intro
theorem hd.tw17577478241444706838 : True := True.intro
theorem hd.tw17583924267553061668 : True := True.intro
theorem hd.tw17588044629489971554 : True := True.intro
theorem hd.tw17599816209265215132 : True := True.intro
theorem hd.tw1760603350576429475 : True := True.intro
theorem hd.tw17606422857730326317 : True := True.intro
theorem hd.tw17628472586750557451 : True := True.intro
theorem hd.tw17650839729002327288 : True := True.intro
theorem hd.tw17696971302532935780 : True := True.intro
theorem hd.tw17711083657039698284 : True := True.intro
theorem hd.tw17714235663813219645 : True := True.intro
theorem hd.tw17772917993097084435 : True := True.intro
theorem hd.tw1781861727890032366 : True := True.intro
theorem hd.tw17843490464661113860 : True := True.intro
theorem hd.tw17893044597097874663 : True := True.intro
theorem hd.tw17895171251205151618 : True := True.intro
theorem hd.tw17901334829092211166 : True := True.intro
theorem hd.tw17919194246423945575 : True := True.intro
theorem hd.tw1792636949448641307 : True := True.intro
theorem hd.tw17948085552500728524 : True := True.intro
theorem hd.tw17950676927832955104 : True := True.intro
theorem hd.tw17975533764899295144 : True := True.intro
theorem hd.tw17989097746536338734 : True := True.intro
theorem hd.tw1800889605409440832 : True := True.intro
theorem hd.tw18093812233618175256 : True := True.intro
theorem hd.tw18103342009636024947 : True := True.intro
theorem hd.tw18166333605607142505 : True := True.intro
theorem hd.tw18185175575083235020 : True := True.intro
theorem hd.tw18219297243305740317 : True := True.intro
theorem hd.tw18264374347568628810 : True := True.intro
theorem hd.tw18268791191939849864 : True := True.intro
theorem hd.tw18291419657060728153 : True := True.intro
theorem hd.tw18293732401869909652 : True := True.intro
theorem hd.tw18293851220164018083 : True := True.intro
theorem hd.tw18300207936620678264 : True := True.intro
theorem hd.tw18322514126500204803 : True := True.intro
theorem hd.tw18358800413957953924 : True := True.intro
theorem hd.tw1836080755315867724 : True := True.intro
theorem hd.tw18385348092688986762 : True := True.intro
theorem hd.tw1847840615245081061 : True := True.intro
theorem hd.tw185848376630758926 : True := True.intro
theorem hd.tw1865391376527767206 : True := True.intro
theorem hd.tw1882180444382439491 : True := True.intro
theorem hd.tw189712035060473897 : True := True.intro
theorem hd.tw1997569388931296116 : True := True.intro
theorem hd.tw2000490053193787569 : True := True.intro
theorem hd.tw2001351230973187099 : True := True.intro
theorem hd.tw2040990291671593033 : True := True.intro
theorem hd.tw2068664650715991707 : True := True.intro
theorem hd.tw2101469004524951375 : True := True.intro
theorem hd.tw2114630138375439770 : True := True.intro
theorem hd.tw212345690472687942 : True := True.intro
theorem hd.tw2195365466389143174 : True := True.intro
theorem hd.tw2216850387143573719 : True := True.intro
theorem hd.tw226724450230711188 : True := True.intro
theorem hd.tw2274498078352570744 : True := True.intro
theorem hd.tw2304311442786299043 : True := True.intro
theorem hd.tw2315301623876862497 : True := True.intro
theorem hd.tw2323474266016966308 : True := True.intro
theorem hd.tw2327210489368252092 : True := True.intro
theorem hd.tw2329189449893159454 : True := True.intro
theorem hd.tw2386827423013361158 : True := True.intro
theorem hd.tw2391449824757734642 : True := True.intro
theorem hd.tw243823211424636713 : True := True.intro
theorem hd.tw2442259710966052079 : True := True.intro
theorem hd.tw2448417245163862455 : True := True.intro
theorem hd.tw2502866573005156581 : True := True.intro
theorem hd.tw250903467453971090 : True := True.intro
theorem hd.tw257007361410690125 : True := True.intro
theorem hd.tw2595994805191909183 : True := True.intro
theorem hd.tw2603259988358896889 : True := True.intro
theorem hd.tw2608437505485318709 : True := True.intro
theorem hd.tw262745018181394680 : True := True.intro
theorem hd.tw2658526732547218105 : True := True.intro
theorem hd.tw2708950531961675432 : True := True.intro
theorem hd.tw2739504486584576224 : True := True.intro
theorem hd.tw2781682124601125471 : True := True.intro
theorem hd.tw2783992281797965187 : True := True.intro
theorem hd.tw2788664435532181463 : True := True.intro
theorem hd.tw2799067240506288376 : True := True.intro
theorem hd.tw280609765759037681 : True := True.intro
theorem hd.tw2845679848157327705 : True := True.intro
theorem hd.tw2855845756224970109 : True := True.intro
theorem hd.tw2867327485932766208 : True := True.intro
theorem hd.tw2887051446865420828 : True := True.intro
theorem hd.tw2922222751358710265 : True := True.intro
theorem hd.tw2930668341846507884 : True := True.intro
theorem hd.tw2951005344575393816 : True := True.intro
theorem hd.tw2999033326186475339 : True := True.intro
theorem hd.tw3008623586974134963 : True := True.intro
theorem hd.tw3039998526598829958 : True := True.intro
theorem hd.tw307737655149646647 : True := True.intro
theorem hd.tw3085183777334472315 : True := True.intro
theorem hd.tw3109861748172591687 : True := True.intro
theorem hd.tw313027258313007627 : True := True.intro
theorem hd.tw3182187488490625086 : True := True.intro
theorem hd.tw3219085151875037572 : True := True.intro
theorem hd.tw3229955645248102723 : True := True.intro
theorem hd.tw3259873300814134281 : True := True.intro
theorem hd.tw3309697970292668127 : True := True.intro
theorem hd.tw3381375190539634487 : True := True.intro
theorem hd.tw3404104791013757517 : True := True.intro
theorem hd.tw3410444493855829464 : True := True.intro
theorem hd.tw3419581819265744254 : True := True.intro
theorem hd.tw3429492842335990350 : True := True.intro
theorem hd.tw3434918251397683217 : True := True.intro
theorem hd.tw3442329435671937591 : True := True.intro
theorem hd.tw3443669649825651883 : True := True.intro
theorem hd.tw3451239065008710300 : True := True.intro
theorem hd.tw3452082135128663414 : True := True.intro
theorem hd.tw3480954088277226078 : True := True.intro
theorem hd.tw3484992998616243462 : True := True.intro
theorem hd.tw3513125359445811510 : True := True.intro
theorem hd.tw3530705653197291679 : True := True.intro
theorem hd.tw3571134770919094901 : True := True.intro
theorem hd.tw3646829019195819677 : True := True.intro
theorem hd.tw3673089383077640791 : True := True.intro
theorem hd.tw3674477559718512709 : True := True.intro
theorem hd.tw368366308016060594 : True := True.intro
theorem hd.tw3704167492566942397 : True := True.intro
theorem hd.tw3759623122121258479 : True := True.intro
theorem hd.tw3789350110615891812 : True := True.intro
theorem hd.tw3795277891434052102 : True := True.intro
theorem hd.tw3828038474966422129 : True := True.intro
theorem hd.tw3880626646640942013 : True := True.intro
theorem hd.tw3915529967508079626 : True := True.intro
theorem hd.tw3922637787740509324 : True := True.intro
theorem hd.tw3941438180925939637 : True := True.intro
theorem hd.tw395138700845864316 : True := True.intro
theorem hd.tw3953601041324332601 : True := True.intro
theorem hd.tw4014540891139286612 : True := True.intro
theorem hd.tw4015398097383911347 : True := True.intro
theorem hd.tw4021928978595405253 : True := True.intro
theorem hd.tw4065347644161347641 : True := True.intro
theorem hd.tw4068527845204499245 : True := True.intro
theorem hd.tw4086058157674990017 : True := True.intro
theorem hd.tw4115565904173853331 : True := True.intro
theorem hd.tw4126306136578151734 : True := True.intro
theorem hd.tw4136554803537287180 : True := True.intro
theorem hd.tw4138081844389336918 : True := True.intro
theorem hd.tw4159134105002834734 : True := True.intro
theorem hd.tw4172343393113369950 : True := True.intro
theorem hd.tw4182648748547736412 : True := True.intro
theorem hd.tw4225703048834024713 : True := True.intro
theorem hd.tw4272726840584523970 : True := True.intro
theorem hd.tw4282304852377368616 : True := True.intro
theorem hd.tw4292457097857839397 : True := True.intro
theorem hd.tw4315991029959535628 : True := True.intro
theorem hd.tw432457690288141553 : True := True.intro
theorem hd.tw4360684699965382250 : True := True.intro
theorem hd.tw4363365295628954845 : True := True.intro
theorem hd.tw4367231431732253908 : True := True.intro
theorem hd.tw4383666589626881386 : True := True.intro
theorem hd.tw442638132926106271 : True := True.intro
theorem hd.tw4478166936697009375 : True := True.intro
theorem hd.tw4478177076189095293 : True := True.intro
theorem hd.tw4478964076566166474 : True := True.intro
theorem hd.tw4494801613693538912 : True := True.intro
theorem hd.tw4523669819894539328 : True := True.intro
theorem hd.tw461538923250603899 : True := True.intro
theorem hd.tw4643362625855044894 : True := True.intro
theorem hd.tw4654797750381630734 : True := True.intro
theorem hd.tw4702841417184801058 : True := True.intro
theorem hd.tw4788038989552484473 : True := True.intro
theorem hd.tw4817003022231809500 : True := True.intro
theorem hd.tw4819202231147424091 : True := True.intro
theorem hd.tw4851647983119433812 : True := True.intro
theorem hd.tw4870687313549177768 : True := True.intro
theorem hd.tw4971549296188076032 : True := True.intro
theorem hd.tw4990156530697904881 : True := True.intro
theorem hd.tw4993660671451451078 : True := True.intro
theorem hd.tw5002733208593748779 : True := True.intro
theorem hd.tw5009564483982726761 : True := True.intro
theorem hd.tw5010264101278932077 : True := True.intro
theorem hd.tw5036846961687405229 : True := True.intro
theorem hd.tw5054737718236178183 : True := True.intro
theorem hd.tw5130813555471234732 : True := True.intro
theorem hd.tw5138769234217329475 : True := True.intro
theorem hd.tw5148922909946612681 : True := True.intro
theorem hd.tw5167245352685981253 : True := True.intro
theorem hd.tw5174551420813472067 : True := True.intro
theorem hd.tw5190246844813560578 : True := True.intro
theorem hd.tw519851828213033955 : True := True.intro
theorem hd.tw5245234834050458271 : True := True.intro
theorem hd.tw5247051413645994129 : True := True.intro
theorem hd.tw526207354791536317 : True := True.intro
theorem hd.tw5278057926702712004 : True := True.intro
theorem hd.tw5282504435634884242 : True := True.intro
theorem hd.tw5283464899586487735 : True := True.intro
theorem hd.tw5318216170032084099 : True := True.intro
theorem hd.tw5362516397382645915 : True := True.intro
theorem hd.tw5363564295841288755 : True := True.intro
theorem hd.tw5373601922739893978 : True := True.intro
theorem hd.tw5388632664720090651 : True := True.intro
theorem hd.tw541196102884509978 : True := True.intro
theorem hd.tw5433107678231618845 : True := True.intro
theorem hd.tw5480042469492414594 : True := True.intro
theorem hd.tw5486487638281291605 : True := True.intro
theorem hd.tw5505005885091257285 : True := True.intro
theorem hd.tw5505332120971382143 : True := True.intro
theorem hd.tw5511420028821071320 : True := True.intro
theorem hd.tw5513025101015932971 : True := True.intro
theorem hd.tw5549315172176941698 : True := True.intro
theorem hd.tw5562173858411828344 : True := True.intro
theorem hd.tw5567388512258382067 : True := True.intro
theorem hd.tw5592360268479517082 : True := True.intro
theorem hd.tw561391293025646643 : True := True.intro
theorem hd.tw5629675986466331604 : True := True.intro
theorem hd.tw5657824000916062451 : True := True.intro
theorem hd.tw5716766192118558609 : True := True.intro
theorem hd.tw5732804406350252772 : True := True.intro
theorem hd.tw5781342201191254626 : True := True.intro
theorem hd.tw5873113503399164460 : True := True.intro
theorem hd.tw5899666649113621702 : True := True.intro
theorem hd.tw5902613922787404954 : True := True.intro
theorem hd.tw5976792059365374437 : True := True.intro
theorem hd.tw5978321128707920903 : True := True.intro
theorem hd.tw6019021122589006684 : True := True.intro
theorem hd.tw6046454685291232161 : True := True.intro
theorem hd.tw6060742912462422084 : True := True.intro
theorem hd.tw6079173187612997037 : True := True.intro
theorem hd.tw6082411064634330575 : True := True.intro
theorem hd.tw6123773746684550334 : True := True.intro
theorem hd.tw6136932545381038964 : True := True.intro
theorem hd.tw6140570298594658328 : True := True.intro
theorem hd.tw6164396464334811476 : True := True.intro
theorem hd.tw6184208073178115725 : True := True.intro
theorem hd.tw6184460063843016694 : True := True.intro
theorem hd.tw6186238094035137676 : True := True.intro
theorem hd.tw6196171512934965099 : True := True.intro
theorem hd.tw6276725880618359904 : True := True.intro
theorem hd.tw6278074695473865243 : True := True.intro
theorem hd.tw6291416237084387574 : True := True.intro
theorem hd.tw6293948785866598258 : True := True.intro
theorem hd.tw6305734824756694309 : True := True.intro
theorem hd.tw6308581086252854402 : True := True.intro
theorem hd.tw6320253292602491972 : True := True.intro
theorem hd.tw6394381022753523788 : True := True.intro
theorem hd.tw6407587892757256292 : True := True.intro
theorem hd.tw6411954120941647267 : True := True.intro
theorem hd.tw6428201937239042016 : True := True.intro
theorem hd.tw6442067068224118133 : True := True.intro
theorem hd.tw6449127861642672459 : True := True.intro
theorem hd.tw6482722132109649516 : True := True.intro
theorem hd.tw6528754448969337418 : True := True.intro
theorem hd.tw6545403380812914513 : True := True.intro
theorem hd.tw6547078798241139092 : True := True.intro
theorem hd.tw6555240042291301478 : True := True.intro
theorem hd.tw6578402527460240241 : True := True.intro
theorem hd.tw6598312636042714100 : True := True.intro
theorem hd.tw6615107907471364465 : True := True.intro
theorem hd.tw663384727985864361 : True := True.intro
theorem hd.tw6636792957720756321 : True := True.intro
theorem hd.tw6683769817339685419 : True := True.intro
theorem hd.tw6755925336976613232 : True := True.intro
theorem hd.tw6759412095888398321 : True := True.intro
theorem hd.tw6761669909254768831 : True := True.intro
theorem hd.tw6767318904944593275 : True := True.intro
theorem hd.tw678209747344391502 : True := True.intro
theorem hd.tw6804821044290156842 : True := True.intro
theorem hd.tw6818987989461384207 : True := True.intro
theorem hd.tw6820862383352777685 : True := True.intro
theorem hd.tw6830512106363814048 : True := True.intro
theorem hd.tw6868836192036940282 : True := True.intro
theorem hd.tw6882427118574961969 : True := True.intro
theorem hd.tw6898005170327248138 : True := True.intro
theorem hd.tw6906073325868019850 : True := True.intro
theorem hd.tw6931407450589930559 : True := True.intro
theorem hd.tw6957150274394394060 : True := True.intro
theorem hd.tw6965799899956892507 : True := True.intro
theorem hd.tw697623264460660564 : True := True.intro
theorem hd.tw6982297934935202809 : True := True.intro
theorem hd.tw6990203504111849199 : True := True.intro
theorem hd.tw701787995468756871 : True := True.intro
theorem hd.tw7023726343779634624 : True := True.intro
theorem hd.tw7028611270464810887 : True := True.intro
theorem hd.tw7031273417212677730 : True := True.intro
theorem hd.tw7080932558258925280 : True := True.intro
theorem hd.tw7082855905992002993 : True := True.intro
theorem hd.tw7120233287515763914 : True := True.intro
theorem hd.tw7152984921513172624 : True := True.intro
theorem hd.tw7153062008950511462 : True := True.intro
theorem hd.tw7191455744419660376 : True := True.intro
theorem hd.tw7261450039545342454 : True := True.intro
theorem hd.tw7270182246851987180 : True := True.intro
theorem hd.tw728884934406724761 : True := True.intro
theorem hd.tw7289634563603522867 : True := True.intro
theorem hd.tw7292484366425897655 : True := True.intro
theorem hd.tw7296583596125217682 : True := True.intro
theorem hd.tw7317836474542784337 : True := True.intro
theorem hd.tw7354087734392854552 : True := True.intro
theorem hd.tw7355570028127101125 : True := True.intro
theorem hd.tw7379015992945566340 : True := True.intro
theorem hd.tw7382370116671421104 : True := True.intro
theorem hd.tw7492773218913965947 : True := True.intro
theorem hd.tw7494724483528729301 : True := True.intro
theorem hd.tw7510230149288206974 : True := True.intro
theorem hd.tw7515886511687920896 : True := True.intro
theorem hd.tw7519716089354478335 : True := True.intro
theorem hd.tw7523672394736509286 : True := True.intro
theorem hd.tw7525542149764818722 : True := True.intro
theorem hd.tw7526368328331116154 : True := True.intro
theorem hd.tw7534799579077118603 : True := True.intro
theorem hd.tw7540741092611519060 : True := True.intro
theorem hd.tw7578210074245671484 : True := True.intro
theorem hd.tw7581914395401509321 : True := True.intro
theorem hd.tw758273949599710562 : True := True.intro
theorem hd.tw7598622570094877466 : True := True.intro
theorem hd.tw7610815399733428385 : True := True.intro
theorem hd.tw7628703163842673926 : True := True.intro
theorem hd.tw7654286748164834634 : True := True.intro
theorem hd.tw7676003278276379012 : True := True.intro
theorem hd.tw7698358502638924378 : True := True.intro
theorem hd.tw7721951785955056133 : True := True.intro
theorem hd.tw7746578258024575070 : True := True.intro
theorem hd.tw7752569895197466512 : True := True.intro
theorem hd.tw7752767780024739350 : True := True.intro
theorem hd.tw7763873220885509757 : True := True.intro
theorem hd.tw7792395482447073224 : True := True.intro
theorem hd.tw7854228177987924090 : True := True.intro
theorem hd.tw7865762390884039853 : True := True.intro
theorem hd.tw7880807054014371918 : True := True.intro
theorem hd.tw7891253978561527248 : True := True.intro
theorem hd.tw7914949630228597729 : True := True.intro
theorem hd.tw7927469264209771579 : True := True.intro
theorem hd.tw8004679753235328684 : True := True.intro
theorem hd.tw8015326511298524721 : True := True.intro
theorem hd.tw8025032847418708242 : True := True.intro
theorem hd.tw8044012406986999415 : True := True.intro
theorem hd.tw8047900516022102942 : True := True.intro
theorem hd.tw8053944837975664402 : True := True.intro
theorem hd.tw8068729725432388964 : True := True.intro
theorem hd.tw8081886968326746073 : True := True.intro
theorem hd.tw8112040973832200146 : True := True.intro
theorem hd.tw8117029840178788049 : True := True.intro
theorem hd.tw8134915037123179040 : True := True.intro
theorem hd.tw8184699220007379433 : True := True.intro
theorem hd.tw8191903926673212241 : True := True.intro
theorem hd.tw8210421348078903774 : True := True.intro
theorem hd.tw8226494294326810461 : True := True.intro
theorem hd.tw8228950375871286339 : True := True.intro
theorem hd.tw8242931771332617035 : True := True.intro
theorem hd.tw8244733829118024811 : True := True.intro
theorem hd.tw825126770350376351 : True := True.intro
theorem hd.tw8268277133935991078 : True := True.intro
theorem hd.tw8269573656231971908 : True := True.intro
theorem hd.tw8317466277049474617 : True := True.intro
theorem hd.tw8343274005884668182 : True := True.intro
theorem hd.tw8351282476255451920 : True := True.intro
theorem hd.tw8428860471423672150 : True := True.intro
theorem hd.tw845060206244984605 : True := True.intro
theorem hd.tw8457440626546761165 : True := True.intro
theorem hd.tw8458067239894703972 : True := True.intro
theorem hd.tw8479784124755550697 : True := True.intro
theorem hd.tw8493152586797012548 : True := True.intro
theorem hd.tw8516288146210602744 : True := True.intro
theorem hd.tw8545014587354053640 : True := True.intro
theorem hd.tw8585376936270615527 : True := True.intro
theorem hd.tw8587404781116728655 : True := True.intro
theorem hd.tw8609351116199087170 : True := True.intro
theorem hd.tw8650829950939358254 : True := True.intro
theorem hd.tw8664936974563722654 : True := True.intro
theorem hd.tw8671608845466749128 : True := True.intro
theorem hd.tw8683856772340465682 : True := True.intro
theorem hd.tw8684328023851190084 : True := True.intro
theorem hd.tw8727321023445011275 : True := True.intro
theorem hd.tw8735263284916673568 : True := True.intro
theorem hd.tw876933089483189297 : True := True.intro
theorem hd.tw8770659054964912022 : True := True.intro
theorem hd.tw8789358453043137523 : True := True.intro
theorem hd.tw8801323125487838256 : True := True.intro
theorem hd.tw881544763273948857 : True := True.intro
theorem hd.tw8879563391730754479 : True := True.intro
theorem hd.tw8934143017859847078 : True := True.intro
theorem hd.tw8959176491354863721 : True := True.intro
theorem hd.tw8960069828448710407 : True := True.intro
theorem hd.tw8965841893048198262 : True := True.intro
theorem hd.tw9013056391748086436 : True := True.intro
theorem hd.tw9077708301081682751 : True := True.intro
theorem hd.tw9087110039335098043 : True := True.intro
theorem hd.tw9105148058423970377 : True := True.intro
theorem hd.tw9132557439983319658 : True := True.intro
theorem hd.tw9153386212771759811 : True := True.intro
theorem hd.tw9155422001095189878 : True := True.intro
theorem hd.tw9170477692918782315 : True := True.intro
theorem hd.tw920214292312260371 : True := True.intro
theorem hd.tw922143313871775805 : True := True.intro
theorem hd.tw9228397985900620932 : True := True.intro
theorem hd.tw9244321171653502345 : True := True.intro
theorem hd.tw9271970288684553227 : True := True.intro
theorem hd.tw9277588360372424766 : True := True.intro
theorem hd.tw9292802415728713258 : True := True.intro
theorem hd.tw9298403506768410418 : True := True.intro
theorem hd.tw9325612240067072397 : True := True.intro
theorem hd.tw9330943631129107780 : True := True.intro
theorem hd.tw9345676750909349944 : True := True.intro
theorem hd.tw9345929723534960622 : True := True.intro
theorem hd.tw9386895884608548742 : True := True.intro
theorem hd.tw9398405308114057262 : True := True.intro
theorem hd.tw940617070666608080 : True := True.intro
theorem hd.tw9406673726873002282 : True := True.intro
theorem hd.tw9421340871869096474 : True := True.intro
theorem hd.tw9427301549700849589 : True := True.intro
theorem hd.tw9430268157657104642 : True := True.intro
theorem hd.tw9449672872311958731 : True := True.intro
theorem hd.tw9459050058782445324 : True := True.intro
theorem hd.tw9496365245306024149 : True := True.intro
theorem hd.tw9555612238305686254 : True := True.intro
theorem hd.tw9557236495431379559 : True := True.intro
theorem hd.tw9577689765879766989 : True := True.intro
theorem hd.tw960944832710211464 : True := True.intro
theorem hd.tw9617658007855726926 : True := True.intro
theorem hd.tw9641152695372364146 : True := True.intro
theorem hd.tw9657781627882305391 : True := True.intro
theorem hd.tw9673543361469618366 : True := True.intro
theorem hd.tw9719896912496429819 : True := True.intro
theorem hd.tw9763420282994701918 : True := True.intro
theorem hd.tw9783614193127449063 : True := True.intro
theorem hd.tw978945382295711627 : True := True.intro
theorem hd.tw9908193460736022307 : True := True.intro
theorem hd.tw991583007596301734 : True := True.intro
theorem hd.tw9960721518486171458 : True := True.intro
theorem hd.tw9983995961361265002 : True := True.intro
theorem hd.tw9990345226319884068 : True := True.intro
theorem hd.tw995775220138220913 : True := True.intro
section
abbrev lawKn1 : Known := [(Str.ofString "p", [.r (Str.ofString "p")])]
abbrev lawPs1 : List Part := [.s (Str.ofString "x"), .r (Str.ofString "p")]
abbrev lawKn2 : Known := [(Str.ofString "p", [.s (Str.ofString "x"), .r (Str.ofString "q"), .r (Str.ofString "q")]), (Str.ofString "q", [.s (Str.ofString "yz"), .s (Str.ofString "left")])]
abbrev lawPs2 : List Part := [.r (Str.ofString "p"), .s (Str.ofString "sign")]
theorem ok_x : (Part.s (Str.ofString "x")).Ok := .inl rfl
theorem ok_yz : (Part.s (Str.ofString "yz")).Ok := .inr (.inl rfl)
theorem ok_sign : (Part.s (Str.ofString "sign")).Ok := .inr (.inr (.inr (.inl rfl)))
theorem ok_left : (Part.s (Str.ofString "left")).Ok := .inr (.inr (.inr (.inr rfl)))
theorem ok_p : (Part.r (Str.ofString "p")).Ok := .inl rfl
theorem ok_q : (Part.r (Str.ofString "q")).Ok := .inr (.inl rfl)
local macro_rules | `(tactic| tb_lt) => `(tactic| k_extra "tb_lt")
local macro_rules | `(tactic| tb_start) => `(tactic| k_extra "tb_start")
theorem kw50 : True := by
  k_with "tb_lt" => (first | exact PartsAre.nil | (refine' PartsAre.cons ?q172a ?q172b ?q172c; (case q172a => first | exact ⟨_, rfl⟩ | exact ⟨_, _, rfl, by k_mem⟩); (case q172b => first | exact ok_x | exact ok_yz | exact ok_sign | exact ok_left | exact ok_p | exact ok_q); (case q172c => tb_lt)))
  k_with "tb_start" => (first | exact KnAre.nil | (refine' KnAre.cons ?q173a ?q173b ?q173c ?q173d; (case q173a => k_mem); (case q173b => tb_lt); (case q173c => exact Nat.le_of_ble_eq_true rfl); (case q173d => tb_start)))
  k_with "call ref" => ((k_here; (with_reducible show wpAny _ _ (call (Value.ref 745) _) _ _ _); refine while_mark ?_))
  k_with "call ref" => ((k_here; (with_reducible show wpAny _ _ (call (Value.ref 731) _) _ _ _); refine while_mark ?_))
  k_with "call ref" => ((k_here; (with_reducible show wpAny _ _ (call (Value.ref 717) _) _ _ _); refine while_mark ?_))
  k_with "call ref" => ((k_here; (with_reducible show wpAny _ _ (call (Value.ref 700) _) _ _ _); refine while_mark ?_))
  k_with "call builtin:max" => ((k_here; k_dflt (refine' max_up ?q178k1 ?q178k2 ?q178k3 ?_; (case q178k1 => with_unfolding_all rfl); (case q178k2 => k_asm); (case q178k3 => k_asm); k_whole); intro c'z t'z h'z tk'z c1'z c2'z c3'z F'z N'z; (try dsimp only)))
  k_with "subscriptTail Name" => ((k_here; (with_reducible show wpAny _ _ (subscriptTail _ _ (Value.ref _) (Value.str _ _)) _ _ _); k_dflt (refine kda_item (knd := PySem.strKind _ _) (by k_asm) (by k_mem) (by with_reducible assumption) (strKind_is _ _ _ _) (by rfl) ?_)))
  k_with "call ref" => ((k_here; (with_reducible show wpAny _ _ (call (Value.ref 745) _) _ _ _); k_dflt (refine' c_rightK (outer := []) (kn := lawKn1) (ps := lawPs1) (hdp := by ktr_room) (hu := by ktr_units) (N := by k_asm) (mko := by k_mem) (isd := by with_reducible assumption) (low := by with_reducible assumption) (ka := ?q180ka) (hkl := Nat.le_of_ble_eq_true rfl) (mpl := by k_mem) (hps := ?q180ps) (hus := Nat.le_of_ble_eq_true rfl) (hm := by first | assumption | decide) (ret := fun h'z tk'z F'z N'z => ?_); (case q180ka => tb_start); (case q180ps => tb_lt); k_whole); (rename News _ _ _ _ => kN9); (have kM9 := newsDrop (rest := [_, _]) kN9 (by kbd_text)); clear kN9; (try dsimp only)))
  k_with "call ref" => ((k_here; (with_reducible show wpAny _ _ (call (Value.ref 745) _) _ _ _); k_dflt (refine' c_rightK (outer := []) (kn := lawKn2) (ps := lawPs2) (hdp := by ktr_room) (hu := by ktr_units) (N := by k_asm) (mko := by k_mem) (isd := by with_reducible assumption) (low := by with_reducible assumption) (ka := ?q181ka) (hkl := Nat.le_of_ble_eq_true rfl) (mpl := by k_mem) (hps := ?q181ps) (hus := Nat.le_of_ble_eq_true rfl) (hm := by first | assumption | decide) (ret := fun h'z tk'z F'z N'z => ?_); (case q181ka => tb_start); (case q181ps => tb_lt); k_whole); (try dsimp only)))
  k_with "CompRestT" => ((refine while_mark ?_))
  k_with "subscriptTail Name Constant ref int" => ((k_here; k_dflt (refine' item_tupleT ?q183t ?q183a ?q183b ?q183c ?q183d ?_; (case q183t => exact News.isTup (by k_asm) (by k_mem)); (case q183a => decide); (case q183b => decide); (case q183c => rfl); (case q183d => rfl); k_whole)))
  k_with "call ref" => ((k_here; (with_reducible show wpAny _ _ (call (Value.ref 686) _) _ _ _); (rename News _ _ _ _ => kN9); (have kM9 := newsDrop (rest := [_, _]) kN9 (by kbd_text)); clear kN9; k_dflt (refine' c_pool (hdp := by ktr_room) (hu := by ktr_units) (N := by k_asm) (hl := by with_reducible assumption) (hi := by with_reducible assumption) (hsz := by with_reducible assumption) (ret := fun l'z x'z y'z tx'z ty'z n'z h'z tk'z i1'z i2'z F'z N'z l1'z => ?_); k_whole); (k_lt l1'z); (try dsimp only)))
  k_with "CompRest" => ((refine while_mark ?_))
  k_with "call ref" => ((k_here; (with_reducible show wpAny _ _ (call (Value.ref 705) _) _ _ _); refine while_mark ?_))
  k_with "CompEnd" => ((refine while_mark ?_))
  trivial
set_option maxHeartbeats 4000000
set_option Elab.async true
theorem hd : PySem.Challenge.rw_sm0079_01.Holds := by
  w_on
  o_law
  o_head (kHook Mine.k0.heap_1 [2, 3, 15, 17, 18, 20, 21, 22, 23, 24, 25, 26, 27, 28, 29, 30, 31, 32, 33, 34, 35, 36, 37, 38, 39, 40, 41, 42, 43, 45, 46, 48, 49, 50, 52, 53, 55, 56, 57, 59, 60, 62, 63, 64, 66, 67, 69, 70, 71, 73, 74, 76, 77, 78, 80, 81, 83, 84, 85, 87, 88, 90, 91, 92, 94, 95, 97, 98, 99, 101, 102, 104, 105, 106, 108, 109, 111, 112, 113, 120, 122, 123, 125, 126, 127, 128, 129, 130, 133, 140, 141, 143, 144, 146, 147, 148, 149, 150, 153, 160, 161, 162, 165, 172, 173, 174, 177, 179, 180, 182, 183, 184, 186, 187, 189, 190, 191, 194, 195, 196, 197, 199, 200, 202, 203, 204, 206, 207, 209, 210, 218, 220, 221, 223, 224, 225, 227, 228, 230, 231, 232, 234, 235, 237, 238, 239, 241, 242, 244, 245, 246, 248, 249, 251, 252, 253, 254, 255, 256, 257, 267, 269, 270, 272, 273, 274, 276, 277, 279, 280, 281, 283, 284, 286, 287, 288, 290, 291, 293, 294, 295, 296, 297, 298, 299, 309, 311, 312, 314, 315, 316, 318, 319, 321, 322, 323, 325, 326, 328, 329, 330, 332, 333, 335, 336, 337, 338, 339, 340, 341, 344, 346, 347, 349, 350, 351, 352, 354, 355, 357, 358, 359, 361, 362, 364, 365, 373, 374, 376, 377, 379, 380, 381, 383, 384, 386, 387, 388, 389, 391, 392, 394, 395, 396, 398, 399, 401, 402, 403, 405, 406, 408, 409, 410, 411, 413, 414, 416, 417, 418, 420, 421, 423, 424, 425, 427, 428, 430, 431, 432, 434, 435, 437, 438, 439, 441, 442, 444, 445, 446, 448, 449, 451, 452, 453, 455, 456, 458, 459, 460, 462, 463, 465, 466, 467, 469, 470, 472, 473, 474, 476, 477, 479, 480, 481, 482, 483, 484, 485, 488, 490, 491, 493, 494, 495, 497, 498, 500, 501, 502, 504, 505, 507, 508, 509, 511, 512, 514, 515, 523, 524, 526, 527, 529, 530, 531, 532, 533, 534, 535, 545, 547, 548, 550, 551, 552, 554, 555, 557, 558, 559, 561, 562, 564, 565, 566, 567, 568, 569, 570, 573, 575, 576, 578, 579, 580, 582, 583, 585, 586, 587, 589, 590, 592, 593, 601, 602, 604, 605, 607, 608, 609, 610, 612, 613, 615, 616, 617, 619, 620, 622, 623, 624, 626, 627, 629, 630, 631, 633, 634, 636, 637, 638, 640, 641, 643, 644, 645, 647, 648, 650, 651, 652, 654, 655, 657, 658, 659, 661, 662, 664, 665, 666, 668, 669, 671, 672, 673, 674, 675, 676, 677, 680, 682, 683, 685, 686, 687, 689, 690, 692, 693, 694, 696, 697, 699, 700, 701, 704, 705, 706, 709, 710, 711, 713, 714, 716, 717, 718, 720, 721, 723, 724, 725, 727, 728, 730, 731, 732, 734, 735, 737, 738, 739, 741, 742, 744, 745, 746, 749, 750] (fun _ => by kernel_rfl))
  (case hw => w_witness2)
  w_strict k_go0
  (try (rename Ground _ _ _ _ _ _ _ _ _ => kG; clear kG))
  (try (rename Glob _ _ _ _ _ _ _ _ => kG; clear kG))
  (try (rename Tables _ _ _ _ => kG; clear kG))
  (try (rename TopE _ _ _ _ => kG; clear kG))
  (try (rename TopW _ _ _ => kG; clear kG))
  (try (rename BMod _ _ _ _ _ => kG; clear kG))
  (try (rename Hook.says _ _ _ => kG; clear kG))
  (try (rename Well _ _ _ _ => kG; clear kG))
  (try (rename Reads _ _ _ _ => kG; clear kG))
  (try (rename ReadsAll _ _ _ _ => kG; clear kG))
  change wpAny (model PySem.Challenge.pw_sm0079_01 _) _ _ _ _ _
  (try k_fold)
  rename Below _ _ _ _ => kB
  dsimp only [Top.heap] at kB
  k_steps
  unfold WhileMark
  refine compRestT_none ?step ?S ?fin
  case S => exact Or.inr ⟨_, by k_mem, rfl, _, rfl⟩
  case step =>
    intro i v I oI C oC D m₂ h tk E' hi hP hC hx F' N' off' ne'
    refine comp_tup (v := v) N' ?_ ?_
    · rcases i with _ | _ | _ | i
      · lcg_open hP; exact ⟨_, _, _, _, _, rfl, by k_mem, by decide⟩
      · lcg_open hP; exact ⟨_, _, _, _, _, rfl, by k_mem, by decide⟩
      · lcg_open hP; exact ⟨_, _, _, _, _, rfl, by k_mem, by decide⟩
      · exact absurd hi (Nat.not_lt_of_le (Nat.le_add_left 3 i))
    · intro a d m t1 t2 e hm9 hle
      subst e
      k_steps
      exact KeptF.of (by assumption) (newsDrop (by k_asm) (by kbd_text))
  case fin =>
    rename IntsAre _ _ => hI
    have hsz9 := law_sz hI (by assumption)
    k_steps
    unfold WhileMark
    k_dflt (refine dict_comp (by kbd_text) (by assumption) (by assumption) (by k_all) ?_ ?_)
    · intro i ys news v I oI C oC D m₂ h tk E' hi hJ hP hC hx F' N' off' ne'
      have hv : ∃ nm tn, v = .str nm tn ∧ lawNames.take (i + 1) = lawNames.take i ++ [nm] := by
        rcases i with _ | _ | _ | i
        · lcg_open hP; exact ⟨_, _, rfl, rfl⟩
        · lcg_open hP; exact ⟨_, _, rfl, rfl⟩
        · lcg_open hP; exact ⟨_, _, rfl, rfl⟩
        · exact absurd hi (Nat.not_lt_of_le (Nat.le_add_left 3 i))
      k_extra "hide"
      obtain ⟨nm, tn, rfl, hnm⟩ := hv
      unfold G9
      k_extra "hide"
      obtain ⟨x1, y1, tx1, ty1, ext, N1, p1, p2, p3, p4, p5⟩ := hJ.start N' off'
      unfold G9
      k_steps
      unfold WhileMark
      k_dflt (refine' c_parts (hdp := by ktr_room) (hu := by ktr_units) (N := N1) (hrest := p3) (hx := p1) (hy := p2) (ret := fun l2 vs2 k2 tl2 x2 y2 t2 t3 h2 tk2 F2 N2 ml2 hp2 hl2 p6 p7 q1 q2 => ?_))
      (try dsimp only)
      obtain ⟨ps2, hps2⟩ := hp2
      k_steps
      unfold WhileMark
      rename Fr _ _ _ _ => kF9
      rename News _ _ _ _ => kN9
      exact DictJ.stop kF9 kN9 (by k_extra "ltAll") p6 p7 p3 p4 p5 hnm q1 q2 ml2 hps2 hl2 (fun nw hb => Or.inr ⟨_, hb _ (by k_mem), rfl, _, rfl⟩)
    · intro ys news hJ
      k_steps
      rename News _ _ _ _ => kN9
      k_extra "hide"
      obtain ⟨x1, y1, tx1, ty1, ext, N1, p1, p2, p3, p5⟩ := hJ.fin kN9 (by assumption)
      unfold G9
      k_extra "hide"
      obtain ⟨r, kn, r1, r2, r3, r4⟩ := p5.all
      unfold G9
      have hn3 : ys.length = 3 := by rw [← r3, ← List.length_map (f := (·.1)), r1]; rfl
      k_dflt (refine dict_pairsN (vs := ys) (r := r) (by rfl) (by k_asm) N1 (Top.nolimit (by k_asm)) (.tail _ (.head _)) (fun j p hj => (r4 j p hj).elim fun a h => h.elim fun t h => h.elim fun n h => ⟨a, t, n, h.1, .tail _ (.tail _ (List.mem_append_right _ h.2))⟩) r3 (by rw [hn3]; decide) (fun d2 o2 h2 tk2 F2 N2 l2 lo2 hd2 => ?_))
      rw [dpFill_app _ _ (by rw [List.nil_append, r1]; decide), List.nil_append] at hd2
      (try dsimp only)
      k_steps
      unfold WhileMark
      have hr3 : r.length ≤ 3 := by omega
      k_dflt (refine' c_parts (hdp := by ktr_room) (hu := by ktr_units) (N := pickN N2 (Pick.tail Pick.head)) (hrest := List.forall_mem_cons.mpr ⟨Nat.ne_of_gt (l2 _ (.head _)), p3⟩) (hx := p1) (hy := p2) (ret := fun l3 vs3 k3 tl3 x3 y3 t5 t6 h3 tk3 F3 N4 ml3 hp3 hl3 p6 p7 q1 q2 => ?_))
      obtain ⟨ps3, hps3⟩ := hp3
      have hs5 := appNe (x := l'z) (a := (d2, o2) :: _) (List.forall_mem_cons.mpr ⟨Nat.ne_of_gt (l2 (l'z, _) (.head _)), p3⟩) q1
      (try dsimp only)
      k_steps
      unfold WhileMark
      k_dflt (refine' c_state (outer := []) (hdp := by ktr_room) (hu := by ktr_units) (N := by k_asm) (ret := fun sd ol so no t3 t4 h4 tk4 F4 N5 hso hlow hlt hso2 => ?_))
      (try dsimp only)
      k_steps
      unfold WhileMark
      rename News _ _ _ _ => kN9
      have hkn := r2.known
      have hfr : free kn [] ≤ 3 := Nat.le_trans (free_le _ _) (by rw [r2.length]; exact hr3)
      k_extra "hide"
      obtain ⟨z0, z1, -, -⟩ := led_grown (depth := 30) (most := 3000) hkn hfr hps3.ok (hps3.length ▸ hl3)
      unfold G9
      k_dflt (refine' (led_all (kn := kn) (depth := 30) (most := 3000) hkn (by decide) 3 (Nat.le_refl 3)) _ _ _ _ _ _ _ _ _ _ _ _ _ _ [] _ _ _ _ _ _ _ _ _ sd ol d2 l3 _ vs3 [] ps3 [] k3 _ _ _ _ _ _ _ .none ?B ?F ?X ?T ?hk kN9 hso hlow (KnLaw.of (r2.mono fun q hq => .tail _ (.tail _ (List.mem_append_left _ (.tail _ (.tail _ (List.mem_append_right _ hq)))))) hd2 lo2 (.tail _ (.tail _ (List.mem_append_left _ (.head _))))) (.tail _ (.tail _ (List.mem_append_right _ ml3))) (hps3.mono fun q hq => .tail _ (.tail _ (List.mem_append_right _ hq))) hl3 (Nat.ne_of_lt hso2) (fun q hq => Nat.ne_of_lt (hlt q hq)) (fun q hq => Nat.ne_of_lt (Nat.lt_trans (hlt q hq) hso2)) .nil ?h1 hfr ?h3 ?h4 ?rd ?ru ?retb)
      case B => k_asm
      case F => k_asm
      case X => k_asm
      case T => k_asm
      case hk => exact rfl
      case h1 => decide
      case h3 => decide
      case h4 => decide
      case rd => ktr_room
      case ru => ktr_units
      case retb =>
      intro v so2 no2 t3b t4b fv2 h5 tk5 hLB F5 N6 hso3
      clear hLB kN9
      generalize (ledW (opened kn 30 3000 3) ps3 [] 0 0 []).sz = lsz at z0 z1 hso3
      generalize (ledW (opened kn 30 3000 3) ps3 [] 0 0 []).dp = ldp at hso3
      (try dsimp only)
      k_steps
      unfold WhileMark
      have hlt' := allLt_of hlt
      rename News _ _ _ _ => kN8
      k_dflt (refine' c_one (outer := []) (hdp := by ktr_room) (hu := by ktr_units) (N := pickN kN8 (by kbd_text)) (hrest := by k_all) (hm := by k_mem) (hx := p6) (hy := p7) (hlen := by simp) (hlen2 := by simp) (ret := fun v7 x7 y7 t71 t72 h7 tk7 iv7 i71 i72 F7 N7 => ?_))
      k_extra "hide"
      obtain ⟨dv, td, rfl, -⟩ := four_int iv7
      unfold G9
      clear kN8
      (try dsimp only)
      k_steps
      unfold WhileMark
      rename News _ _ _ _ => kN7
      k_dflt (refine' c_one (outer := []) (hdp := by ktr_room) (hu := by ktr_units) (N := pickN kN7 (by kbd_text)) (hrest := by k_all) (hm := by k_mem) (hx := i71) (hy := i72) (hlen := by simp) (hlen2 := by simp) (ret := fun v8 x8 y8 t81 t82 h8 tk8 iv8 i81 i82 F8 N8 => ?_))
      k_extra "hide"
      obtain ⟨mv, tm, rfl, hmv⟩ := four_int iv8
      unfold G9
      have hm8 : mv ≤ 3000 := by rcases hmv with rfl | rfl | rfl | rfl <;> omega
      clear kN7
      (try dsimp only)
      k_steps
      unfold WhileMark
      k_dflt (refine' c_rightK (outer := []) (kn := kn) (ps := ps3) (hdp := by ktr_room) (hu := by ktr_units) (N := by k_asm) (mko := by k_mem) (isd := hd2) (low := lo2) (ka := r2.mono fun q hq => .tail _ (.tail _ (.tail _ (.tail _ (.tail _ (.tail _ (List.mem_append_left _ (.tail _ (.tail _ (List.mem_append_right _ hq)))))))))) (hkl := hr3) (mpl := .tail _ (.tail _ (.tail _ (.tail _ (.tail _ (.tail _ (List.mem_append_right _ ml3))))))) (hps := hps3.mono fun q hq => .tail _ (.tail _ (.tail _ (.tail _ (.tail _ (.tail _ (List.mem_append_right _ hq))))))) (hus := hl3) (hm := hm8) (ret := fun h9 tk9 F9 N9 => ?_))
      (try dsimp only)
      k_steps
end
end Mine
theorem PySem.Challenge.cw_sm0079_01_holds : PySem.Challenge.rw_sm0079_01.Holds := by
  exact Mine.hd
