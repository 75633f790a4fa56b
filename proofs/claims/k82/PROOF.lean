import PyProof.Rows.All
import Wide.All
import OpenK.AllK
import Wide.FinOn
import PyProof.StrOps2
import HandS.ForMost
import HandS.IsInst
import HandS.Style
import HandS.Wide
import HandS.Lambda
import HandS.Walk
import KE.GoesEnum
import HandS.StrMore
import KE.SortKeyHeap
import KE.KLam
import KE.KNestM
import HandS.Nested
import HandS.EndTab
import HandS.Conv
import HandS.SortKw
import HandS.SortInts
import HandS.More
import HandS.SetFor
import HandS.WordsExc
import HandS.ExcOwn
import HandS.ExcIs
import HandS.TryOnly
import PyProof.ExcBaseAll.ValueError
import KE.KIsAll
import KE.DataMinMax
import HandS.Defaults
import PySem.Challenge.RW_backindex_k82_texts_unpacked
set_option Elab.async false
set_option linter.all false
set_option maxRecDepth 100000
set_option maxHeartbeats 4000000
namespace Bk
open PySem L2
/-! ## heaps: F what is frozen, H all -/
/-- not a table of code objects, not a code object: what our own objects are -/
def pO : HO → Bool
  | .tbl _ => false
  | .ext _ => false
  | _ => true
/-- all objects of ours stay, no address is given up, the tables of code objects stay sound -/
abbrev TbL := List (Addr × Str)
structure Ex (tb : TbL) (H H' : Hp) : Prop where
  k : ∀ a o, H a = some o → pO o = true → H' a = some o
  d : ∀ a, H' a = none → H a = none
  t : LamX.Tabs tb H → LamX.Tabs tb H'
theorem Ex.refl (H : Hp) : Ex tb H H := ⟨fun _ _ h _ => h, fun _ h => h, fun h => h⟩
theorem Ex.trans {H H1 H2 : Hp} (a : Ex tb H H1) (b : Ex tb H1 H2) : Ex tb H H2 := ⟨fun x o h n => b.k x o (a.k x o h n) n, fun x h => a.d x (b.d x h), fun h => b.t (a.t h)⟩
theorem Ex.at {H H' : Hp} {a : Addr} {o : HO} (e : Ex tb H H') (h : H a = some o) (n : pO o = true := by rfl) : H' a = some o := e.k a o h n
theorem Ex.free {H H' : Hp} {p : Addr} (e : Ex tb H H') (h : H' p = none) : H p = none := e.d p h
theorem tab_to {H : Hp} {p P : Addr} {o : HO} {q : Str} (t : LamX.TabS H P q) (hp : ∀ o', H p = some o' → pO o' = true) : LamX.TabS (upd H p o) P q := by
  obtain ⟨ps, h1, h2, h3⟩ := t
  refine ⟨ps, ?_, h2, fun pos cv hc => ?_⟩
  · rw [upd_ne fun z => by subst z; exact absurd (hp _ h1) Bool.false_ne_true]
    exact h1
  · obtain ⟨c, e1, e2⟩ := h3 pos cv hc
    refine ⟨c, e1, ?_⟩
    rw [upd_ne fun z => by subst z; exact absurd (hp _ e2) Bool.false_ne_true]
    exact e2
theorem tab_of {H : Hp} {p P : Addr} {o : HO} {q : Str} (t : LamX.TabS (upd H p o) P q) (n : pO o = true) : LamX.TabS H P q := by
  obtain ⟨ps, h1, h2, h3⟩ := t
  have hP : P ≠ p := fun z => by
    subst z
    rw [upd_same] at h1
    cases h1
    cases n
  rw [upd_ne hP] at h1
  refine ⟨ps, h1, h2, fun pos cv hc => ?_⟩
  obtain ⟨c, e1, e2⟩ := h3 pos cv hc
  have hcp : c ≠ p := fun z => by
    subst z
    rw [upd_same] at e2
    cases e2
    cases n
  rw [upd_ne hcp] at e2
  exact ⟨c, e1, e2⟩
theorem no_o {H : Hp} {p : Addr} (h : H p = none) : ∀ o', H p = some o' → pO o' = true := fun o' e => by
  rw [h] at e
  cases e
theorem Ex.new {H : Hp} {p : Addr} {o : HO} (h : H p = none) : Ex tb H (upd H p o) :=
  ⟨fun a u e _ => by
    rw [upd_ne (ne_of_none e h)]
    exact e, fun a e => by
    by_cases ha : a = p
    · subst ha
      exact h
    · rwa [upd_ne ha] at e, fun t p hp => tab_to (t p hp) (no_o h)⟩
theorem Ex.upd2 {F H : Hp} {p : Addr} {o : HO} (e : Ex tb F H) (h : H p = none) (n : pO o = true) : Ex tb (upd F p o) (upd H p o) :=
  ⟨fun a u h n => by
    by_cases ha : a = p
    · subst ha
      rw [upd_same] at h ⊢
      exact h
    · rw [upd_ne ha] at h ⊢
      exact e.k a u h n, fun a h => by
    by_cases ha : a = p
    · subst ha
      rw [upd_same] at h
      cases h
    · rw [upd_ne ha] at h ⊢
      exact e.d a h, fun t p hp => tab_to (e.t (fun p hp => tab_of (t p hp) n) p hp) (no_o h)⟩
theorem ex_rd {H H' : Hp} {a : Addr} {u : HO} (e : Ex tb H H') (h : Rd H a u) (n : pO u = true := by rfl) : Rd H' a u := by
  rcases h with h | ⟨o, h⟩
  · exact Or.inl (e.k a _ h n)
  · exact Or.inr ⟨o, e.k a _ h rfl⟩
theorem ex_l {K : PySem.W.Frag} {H H' : Hp} {a : Addr} {xs : List V} (e : Ex tb H H') (h : SqL K H a xs) : SqL K H' a xs := by
  rcases h with h | h
  · exact Or.inl (ex_rd e h)
  · exact Or.inr h
theorem sq_of {K : PySem.W.Frag} {H : Hp} {a : Addr} {xs : List V} (h : H a = some (.lst xs)) : SqL K H a xs := Or.inl (Or.inl h)
theorem st_of {K : PySem.W.Frag} {H : Hp} {a : Addr} {xs : List V} (h : H a = some (.tup xs)) : SqT K H a xs := Or.inl (Or.inl h)
structure Stp (tb : TbL) (F H F' H' : Hp) : Prop where
  f : Ex tb F F'
  h : Ex tb H H'
  s : Ex tb F' H'
  n : ∀ a o, F' a = some o → F a = some o ∨ H a = none
theorem Stp.refl {F H : Hp} (S : Ex tb F H) : Stp tb F H F H := ⟨.refl _, .refl _, S, fun _ _ h => .inl h⟩
theorem Stp.trans {F H F1 H1 F2 H2 : Hp} (a : Stp tb F H F1 H1) (b : Stp tb F1 H1 F2 H2) : Stp tb F H F2 H2 :=
  ⟨a.f.trans b.f, a.h.trans b.h, b.s, fun x o h => by
    rcases b.n x o h with h | h
    · exact a.n x o h
    · exact .inr (a.h.free h)⟩
/-- a new object, frozen at once; one that is still to be changed -/
theorem Stp.frz {F H : Hp} {p : Addr} {o : HO} (S : Ex tb F H) (h : H p = none) (n : pO o = true := by rfl) : Stp tb F H (upd F p o) (upd H p o) :=
  ⟨Ex.new (S.free h), Ex.new h, S.upd2 h n, fun a u e => by
    by_cases ha : a = p
    · subst ha
      exact .inr h
    · rw [upd_ne ha] at e
      exact .inl e⟩
theorem Stp.own {F H : Hp} {p : Addr} {o : HO} (S : Ex tb F H) (h : H p = none) : Stp tb F H F (upd H p o) :=
  ⟨.refl _, Ex.new h, S.trans (Ex.new h), fun _ _ e => .inl e⟩
theorem ex_mut {H H' : Hp} {p : Addr} {o o' : HO} (e : Ex tb H H') (h0 : H p = none) (hp : H' p = some o') (n : pO o' = true) : Ex tb H (upd H' p o) :=
  ⟨fun a u h n => by
    rw [upd_ne (ne_of_none h h0)]
    exact e.k a u h n, fun a h => by
    by_cases ha : a = p
    · subst ha
      exact h0
    · rw [upd_ne ha] at h
      exact e.d a h, fun t p hm => tab_to (e.t t p hm) fun u hu => by
    rw [hp] at hu
    cases hu
    exact n⟩
/-- an owned object is changed: from the entry's heaps -/
theorem Stp.mut {F H F' H' : Hp} {p : Addr} {o o' : HO} (T : Stp tb F H F' H') (h0 : H p = none) (hf : F' p = none) (hp : H' p = some o') (n : pO o' = true := by rfl) : Stp tb F H F' (upd H' p o) :=
  ⟨T.f, ex_mut T.h h0 hp n, ex_mut T.s hf hp n, T.n⟩
/-- an owned object is given up -/
theorem Stp.give {F H F' H' : Hp} {p : Addr} {o : HO} (T : Stp tb F H F' H') (h0 : H p = none) (hf : F' p = none) (ho : H' p = some o) (n : pO o = true) : Stp tb F H (upd F' p o) H' :=
  ⟨T.f.trans (Ex.new hf), T.h, ⟨fun a u e nu => by
    by_cases ha : a = p
    · subst ha
      rw [upd_same] at e
      rw [ho, e]
    · rw [upd_ne ha] at e
      exact T.s.k a u e nu, fun a e => by
    rw [upd_ne fun z => by subst z; rw [ho] at e; cases e]
    exact T.s.d a e, fun t => T.s.t fun p hp => tab_of (t p hp) n⟩, fun a u e => by
    by_cases ha : a = p
    · subst ha
      exact .inr h0
    · rw [upd_ne ha] at e
      exact T.n a u e⟩
/-- an owned object stays owned behind a step -/
theorem Stp.ow {F H F' H' : Hp} {p : Addr} {o : HO} (T : Stp tb F H F' H') (ho : H p = some o) (hf : F p = none) : F' p = none := by
  cases e : F' p with
  | none => rfl
  | some u =>
    rcases T.n p u e with h | h
    · rw [hf] at h
      cases h
    · rw [ho] at h
      cases h
theorem ne_new {H : Hp} {p q : Addr} {o : HO} (ho : H p = some o) (hq : H q = none) : p ≠ q := ne_of_none ho hq
/-! ## texts as lists of signs -/
def S (l : List Nat) : Str := ⟨l.toArray⟩
theorem S_toList (l : List Nat) : (S l).cps.toList = l := by simp [S]
theorem S_length (l : List Nat) : (S l).length = l.length := by simp [S, Str.length]
theorem S_inj {a b : List Nat} (h : S a = S b) : a = b := by
  have e : (S a).cps.toList = (S b).cps.toList := by rw [h]
  rwa [S_toList, S_toList] at e
theorem S_append (a b : List Nat) : S a ++ S b = S (a ++ b) := by
  show Str.append (S a) (S b) = S (a ++ b)
  simp [S, Str.append]
theorem S_nil : S [] = Str.empty := rfl
theorem S_one (c : Nat) : S [c] = ⟨#[c]⟩ := rfl
/-- the values of optional things -/
def oV {α : Type} (f : α → V) : Option α → V
  | none => .non
  | some x => f x
def sV (l : List Nat) : V := .str (S l)
def iV (i : Int) : V := .int i
def bV (b : Bool) : V := .bl b
/-! ## the mirrors' words -/
def chk {α : Type} (c : Prop) [Decidable c] (k : Option α) : Option α := if c then k else none
theorem chk_e {α : Type} {c : Prop} [Decidable c] {k : Option α} {r : α} (h : chk c k = some r) : c ∧ k = some r := by
  unfold chk at h
  split at h
  · exact ⟨‹c›, h⟩
  · cases h
theorem chk_i {α : Type} {c : Prop} [Decidable c] {k : Option α} (h : c) : chk c k = k := if_pos h
def bnd {α β : Type} (m : Option α) (k : α → Option β) : Option β := match m with
  | none => none
  | some x => k x
theorem bnd_e {α β : Type} {m : Option α} {k : α → Option β} {r : β} (h : bnd m k = some r) : ∃ x, m = some x ∧ k x = some r := by
  cases m with
  | none => cases h
  | some x => exact ⟨x, rfl, h⟩
theorem bnd_i {α β : Type} {m : Option α} {k : α → Option β} {x : α} (h : m = some x) : bnd m k = k x := by
  subst h
  rfl
def lt {α β : Type} (x : α) (k : α → β) : β := k x
theorem lt_e {α β : Type} {x : α} {k : α → Option β} {r : β} (h : lt x k = some r) : k x = some r := h
def it {α : Type} (b : Bool) (x y : α) : α := if b = true then x else y
theorem it_t {α : Type} {b : Bool} {x y : Option α} {r : α} (hb : b = true) (h : it b x y = some r) : x = some r := by
  subst hb
  exact h
theorem it_f {α : Type} {b : Bool} {x y : Option α} {r : α} (hb : b = false) (h : it b x y = some r) : y = some r := by
  subst hb
  exact h
/-- how a loop's turn ends -/
inductive Lp (ρ σ : Type) where
  | nx (s : σ)
  | bk (s : σ)
  | rt (r : ρ)
def forX {α ρ σ : Type} (step : σ → α → Option (Lp ρ σ)) : List α → σ → Option (Lp ρ σ)
  | [], s => some (.nx s)
  | x :: xs, s => match step s x with
    | none => none
    | some (.nx s') => forX step xs s'
    | some (.bk s') => some (.nx s')
    | some (.rt r) => some (.rt r)
/-- behind a loop -/
def lpk {ρ σ β : Type} (o : Lp ρ σ) (fr : ρ → Option β) (k : σ → Option β) : Option β := match o with
  | .nx s => k s
  | .bk s => k s
  | .rt r => fr r
def forS {α σ : Type} (step : σ → α → Option σ) : List α → σ → Option σ
  | [], s => some s
  | x :: xs, s => match step s x with
    | none => none
    | some s' => forS step xs s'
def whX {ρ σ : Type} (c : σ → Option Bool) (step : σ → Option (Lp ρ σ)) : Nat → σ → Option (Lp ρ σ)
  | 0, _ => none
  | n + 1, s => match c s with
    | none => none
    | some false => some (.nx s)
    | some true => match step s with
      | none => none
      | some (.nx s') => whX c step n s'
      | some (.bk s') => some (.nx s')
      | some (.rt r) => some (.rt r)
def whS {σ : Type} (c : σ → Option Bool) (step : σ → Option σ) : Nat → σ → Option σ
  | 0, _ => none
  | n + 1, s => match c s with
    | none => none
    | some false => some s
    | some true => match step s with
      | none => none
      | some s' => whS c step n s'
/-- a comprehension, what it has made so far in acc -/
def lcA {α β : Type} (f : α → Option (Option β)) : List α → List β → Option (List β)
  | [], acc => some acc
  | x :: xs, acc => match f x with
    | none => none
    | some none => lcA f xs acc
    | some (some y) => lcA f xs (acc ++ [y])
/-- lo, lo + 1, .. below hi -/
def rng (lo hi : Int) : List Int := (List.range (hi - lo).toNat).map fun (k : Nat) => lo + (k : Int)
theorem rng_len (lo hi : Int) : (rng lo hi).length = (hi - lo).toNat := by simp [rng]
theorem rng_get {lo hi : Int} {i : Nat} (h : i < (hi - lo).toNat) : (rng lo hi)[i]? = some (lo + (i : Int)) := by
  simp [rng, h]
/-- slices -/
def cut {α : Type} (l : List α) (lo hi : Option Int) : List α := (l.drop (HT.sIx l.length 0 lo)).take (HT.sIx l.length l.length hi - HT.sIx l.length 0 lo)
theorem cutV_map {α : Type} (f : α → V) (l : List α) (lo hi : Option Int) : cutV (l.map f) lo hi = (cut l lo hi).map f := by
  unfold cutV cut
  rw [List.length_map, List.map_take, List.map_drop]
theorem cutS_S (l : List Nat) (lo hi : Option Int) : cutS (S l) lo hi = S (cut l lo hi) := by
  unfold cutS cut
  rw [S_toList, S_length]
  rfl
theorem cut_len {α : Type} (l : List α) (lo hi : Option Int) : (cut l lo hi).length ≤ l.length := by
  unfold cut
  rw [List.length_take, List.length_drop]
  omega
/-- a text so many times -/
def tms {α : Type} (l : List α) (n : Int) : List α := (List.replicate n.toNat l).flatten
theorem atI_map {α β : Type} {f : α → β} {l : List α} {i : Int} {c : α} (h : atI l i = some c) : atI (l.map f) i = some (f c) := by
  unfold atI at h ⊢
  rw [List.length_map]
  cases e : ixN l.length i with
  | none =>
    rw [e] at h
    cases h
  | some j =>
    rw [e] at h
    show (l.map f)[j]? = some (f c)
    rw [List.getElem?_map]
    have h' : l[j]? = some c := h
    rw [h']
    rfl
/-- what stands at a place, for the keys of loops -/
theorem map_get {α β : Type} {f : α → β} {l : List α} {i : Nat} {x : β} (h : (l.map f)[i]? = some x) : ∃ c, l[i]? = some c ∧ x = f c := by
  rw [List.getElem?_map] at h
  cases e : l[i]? with
  | none =>
    rw [e] at h
    cases h
  | some c =>
    rw [e] at h
    exact ⟨c, rfl, (Option.some.inj h).symm⟩
theorem drop_cons {α : Type} {l : List α} {i : Nat} {c : α} (h : l[i]? = some c) : l.drop i = c :: l.drop (i + 1) := by
  obtain ⟨hi, e⟩ := List.getElem?_eq_some_iff.mp h
  rw [List.drop_eq_getElem_cons hi, e]
/-! ## the universal readings: what an expression, a test, arguments, a statement must have ahead -/
structure WE (X : Cx) (σ : L2.St) (H : Hp) (e : Expr) (Q : VK) : Prop where
  run : ∀ (pins : List (Addr × Obj)) (s : Shared), Inv X pins σ H s → wpAny (model X.prog X.w) X.A (eval e X.env) (EP X pins σ Q) X.xe s
structure WT (X : Cx) (σ : L2.St) (H : Hp) (e : Expr) (Q : Bool → Hp → Prop) : Prop where
  run : ∀ (pins : List (Addr × Obj)) (s : Shared), Inv X pins σ H s → wpAny (model X.prog X.w) X.A (isTrue e X.env (eval e X.env)) (TP X pins σ Q) X.xe s
/-- a test within and, or -/
structure WW (X : Cx) (σ : L2.St) (H : Hp) (e : Expr) (Q : Bool → Hp → Prop) : Prop where
  run : ∀ (whole : Sem Value) (pins : List (Addr × Obj)) (s : Shared), Inv X pins σ H s → wpAny (model X.prog X.w) X.A (isTrue e X.env whole) (TP X pins σ Q) X.xe s
structure WA (X : Cx) (σ : L2.St) (H : Hp) (es : List Expr) (Q : List V → Hp → Prop) : Prop where
  run : ∀ (pos : Pos) (pins : List (Addr × Obj)) (s : Shared), Inv X pins σ H s → wpAny (model X.prog X.w) X.A (spliced (backTo pos (starEach es X.env))) (AP X pins σ Q) X.xe s
structure WS (X : Cx) (σ : L2.St) (H : Hp) (st : Stmt) (D : Ends) : Prop where
  run : ∀ (pins : List (Addr × Obj)) (s : Shared), Inv X pins σ H s → wpAny (model X.prog X.w) X.A (exec st X.env) (SP X pins D) X.xe s
structure WSs (X : Cx) (σ : L2.St) (H : Hp) (st : List Stmt) (D : Ends) : Prop where
  run : ∀ (pins : List (Addr × Obj)) (s : Shared), Inv X pins σ H s → wpAny (model X.prog X.w) X.A (execs st X.env) (SP X pins D) X.xe s
abbrev uE (X : Cx) (e : Expr) : TE := fun σ H Q => WE X σ H e Q
abbrev uT (X : Cx) (e : Expr) : TT := fun σ H Q => WT X σ H e Q
abbrev uW (X : Cx) (e : Expr) : TT := fun σ H Q => WW X σ H e Q
abbrev uA (X : Cx) (es : List Expr) : TA := fun σ H Q => WA X σ H es Q
abbrev uS (X : Cx) (st : Stmt) : TS := fun D σ H => WS X σ H st D
abbrev uSs (X : Cx) (st : List Stmt) : TS := fun D σ H => WSs X σ H st D
section
variable {X : Cx} {σ : L2.St} {H : Hp}
theorem pe_u {e : Expr} : PE X e (uE X e) := ⟨fun pins s _ _ _ I h => h.run pins s I⟩
theorem pt_u {e : Expr} : PT X e (uT X e) := ⟨fun pins s _ _ _ I h => h.run pins s I⟩
theorem pw_u {e : Expr} : PW X e (uW X e) := ⟨fun whole pins s _ _ _ I h => h.run whole pins s I⟩
theorem pa_u {es : List Expr} : PA X es (uA X es) := ⟨fun pos pins s _ _ _ I h => h.run pos pins s I⟩
theorem ps_u {st : Stmt} : PS X st (uS X st) := ⟨fun pins s _ _ _ I h => h.run pins s I⟩
theorem pss_u {st : List Stmt} : PSs X st (uSs X st) := ⟨fun pins s _ _ _ I h => h.run pins s I⟩
theorem WE.of {e : Expr} {t : TE} {Q : VK} (h : PE X e t) (q : t σ H Q) : WE X σ H e Q := ⟨fun pins s I => h.run pins s σ H Q I q⟩
theorem WT.of {e : Expr} {t : TT} {Q : Bool → Hp → Prop} (h : PT X e t) (q : t σ H Q) : WT X σ H e Q := ⟨fun pins s I => h.run pins s σ H Q I q⟩
theorem WW.of {e : Expr} {t : TT} {Q : Bool → Hp → Prop} (h : PW X e t) (q : t σ H Q) : WW X σ H e Q := ⟨fun whole pins s I => h.run whole pins s σ H Q I q⟩
theorem WA.of {es : List Expr} {t : TA} {Q : List V → Hp → Prop} (h : PA X es t) (q : t σ H Q) : WA X σ H es Q := ⟨fun pos pins s I => h.run pos pins s σ H Q I q⟩
theorem WS.of {st : Stmt} {t : TS} {D : Ends} (h : PS X st t) (q : t D σ H) : WS X σ H st D := ⟨fun pins s I => h.run pins s σ H D I q⟩
theorem WSs.of {st : List Stmt} {t : TS} {D : Ends} (h : PSs X st t) (q : t D σ H) : WSs X σ H st D := ⟨fun pins s I => h.run pins s σ H D I q⟩
theorem WE.mono {e : Expr} {Q Q' : VK} (h : WE X σ H e Q) (k : ∀ v H', Q v H' → Q' v H') : WE X σ H e Q' := ⟨fun pins s I => thn (h.run pins s I) fun _ _ ⟨v, H', I', r, q⟩ => ⟨v, H', I', r, k v H' q⟩⟩
theorem WT.mono {e : Expr} {Q Q' : Bool → Hp → Prop} (h : WT X σ H e Q) (k : ∀ v H', Q v H' → Q' v H') : WT X σ H e Q' := ⟨fun pins s I => thn (h.run pins s I) fun _ _ ⟨H', I', q⟩ => ⟨H', I', k _ H' q⟩⟩
theorem WW.mono {e : Expr} {Q Q' : Bool → Hp → Prop} (h : WW X σ H e Q) (k : ∀ v H', Q v H' → Q' v H') : WW X σ H e Q' := ⟨fun whole pins s I => thn (h.run whole pins s I) fun _ _ ⟨H', I', q⟩ => ⟨H', I', k _ H' q⟩⟩
theorem WW.t {e : Expr} {Q : Bool → Hp → Prop} (h : WW X σ H e Q) : WT X σ H e Q := ⟨fun pins s I => h.run _ pins s I⟩
structure Imp (D D' : Ends) : Prop where
  nx : ∀ σ H, D.nx σ H → D'.nx σ H
  rt : ∀ v H, D.rt v H → D'.rt v H
  bk : ∀ σ H, D.bk σ H → D'.bk σ H
  ct : ∀ σ H, D.ct σ H → D'.ct σ H
theorem SP.imp {pins : List (Addr × Obj)} {D D' : Ends} (i : Imp D D') {f : Flow} {s : Shared} (h : SP X pins D f s) : SP X pins D' f s := by
  cases f with
  | next => obtain ⟨a, b, I, q⟩ := h; exact ⟨a, b, I, i.nx _ _ q⟩
  | brk => obtain ⟨a, b, I, q⟩ := h; exact ⟨a, b, I, i.bk _ _ q⟩
  | cont => obtain ⟨a, b, I, q⟩ := h; exact ⟨a, b, I, i.ct _ _ q⟩
  | ret u => obtain ⟨v, a, b, I, r, q⟩ := h; exact ⟨v, a, b, I, r, i.rt _ _ q⟩
theorem WS.imp {st : Stmt} {D D' : Ends} (h : WS X σ H st D) (i : Imp D D') : WS X σ H st D' := ⟨fun pins s I => thn (h.run pins s I) fun _ _ q => SP.imp i q⟩
theorem WSs.imp {st : List Stmt} {D D' : Ends} (h : WSs X σ H st D) (i : Imp D D') : WSs X σ H st D' := ⟨fun pins s I => thn (h.run pins s I) fun _ _ q => SP.imp i q⟩
/-! ### values that are told without a change of the heap -/
def EvV (X : Cx) (σ : L2.St) (H : Hp) (e : Expr) (v : V) : Prop := WE X σ H e fun v' H' => v' = v ∧ H' = H
def EvB (X : Cx) (σ : L2.St) (H : Hp) (e : Expr) (b : Bool) : Prop := WT X σ H e fun b' H' => b' = b ∧ H' = H
def EvW (X : Cx) (σ : L2.St) (H : Hp) (e : Expr) (b : Bool) : Prop := WW X σ H e fun b' H' => b' = b ∧ H' = H
def EvA (X : Cx) (σ : L2.St) (H : Hp) (es : List Expr) (vs : List V) : Prop := WA X σ H es fun vs' H' => vs' = vs ∧ H' = H
variable {e a b : Expr} {es : List Expr} {pos : Pos} {v x y z : V} {Q : VK} {z' : Bool}
theorem EvV.p (h : EvV X σ H e v) (q : Q v H) : WE X σ H e Q := WE.mono h fun _ _ ⟨h1, h2⟩ => by
  subst h1 h2
  exact q
theorem EvB.p {c : Bool} {Q : Bool → Hp → Prop} (h : EvB X σ H e c) (q : Q c H) : WT X σ H e Q := WT.mono h fun _ _ ⟨h1, h2⟩ => by
  subst h1 h2
  exact q
theorem EvW.p {c : Bool} {Q : Bool → Hp → Prop} (h : EvW X σ H e c) (q : Q c H) : WW X σ H e Q := WW.mono h fun _ _ ⟨h1, h2⟩ => by
  subst h1 h2
  exact q
theorem EvA.p {vs : List V} {Q : List V → Hp → Prop} (h : EvA X σ H es vs) (q : Q vs H) : WA X σ H es Q := ⟨fun pos pins s I => thn (h.run pos pins s I) fun _ _ ⟨vs', H', I', r, h1, h2⟩ => by
  subst h1 h2
  exact ⟨_, _, I', r, q⟩⟩
theorem EvV.is (h : EvV X σ H e v) (q : v = x) : EvV X σ H e x := q ▸ h
theorem EvB.is {c d : Bool} (h : EvB X σ H e c) (q : c = d) : EvB X σ H e d := q ▸ h
theorem EvW.is' {c d : Bool} (h : EvW X σ H e c) (q : c = d) : EvW X σ H e d := q ▸ h
theorem EvW.t {c : Bool} (h : EvW X σ H e c) : EvB X σ H e c := WW.t h
theorem ev_var {n : Str} (i : Nat) (hN : X.N[i]? = some n := by rfl) (hv : Vis X.env.scope n := by first | exact Or.inl rfl | exact Or.inr (Or.inl rfl) | exact Or.inr (Or.inr rfl)) (hσ : σ[i]? = some (some v) := by rfl)
    (hd : (n == ("__debug__" : Str)) = false := by decide) (hcd : (n == ("__classdict__" : Str)) = false := by decide) : EvV X σ H (.Name n pos) v := WE.of (pe_var hN hv hd hcd) ⟨v, hσ, rfl, rfl⟩
theorem ev_int {i : Int} {j} : EvV X σ H (.Constant (.int i) j pos) (.int i) := WE.of pe_int ⟨rfl, rfl⟩
theorem ev_bl {c : Bool} {j} : EvV X σ H (.Constant (.bool c) j pos) (.bl c) := WE.of pe_bl ⟨rfl, rfl⟩
theorem ev_non {j} : EvV X σ H (.Constant .none j pos) .non := WE.of pe_non ⟨rfl, rfl⟩
theorem ev_str {x : Str} {j} {l : List Nat} (h : x = S l) : EvV X σ H (.Constant (.str x) j pos) (.str (S l)) := WE.of pe_str ⟨by rw [h], rfl⟩
theorem ev_op {op : Operator} {r : R2} (ho : OpR X (binaryOp op) r) (ha : EvV X σ H a x) (hb : EvV X σ H b y) (hr : r x y H fun v' H' => v' = z ∧ H' = H) : EvV X σ H (.BinOp a op b pos) z :=
  WE.of (pe_op ho pe_u pe_u) (ha.p (hb.p hr))
theorem ev_un {op : UnaryOp} {r : V → Hp → VK → Prop} (ho : UnR X (unaryOp op) r) (ha : EvV X σ H a x) (hr : r x H fun v' H' => v' = z ∧ H' = H) : EvV X σ H (.UnaryOp op a pos) z :=
  WE.of (pe_un ho pe_u) (ha.p hr)
/-- a comparison as a value; as a test -/
theorem ev_cmp {op : CmpOp} {r : R2} {c : Bool} (ho : OpR X (compareOp op) r) (ha : EvV X σ H a x) (hb : EvV X σ H b y) (hr : ∀ Q : VK, Q (.bl c) H → r x y H Q) (hm : behindInMarks op b = false) : EvV X σ H (.Compare a [op] [b] pos) (.bl c) :=
  WE.of (pe_cmpR ho pe_u pe_u hm) (ha.p (hb.p (hr _ ⟨rfl, rfl⟩)))
theorem eb_cmp {op : CmpOp} {r : R2} {c : Bool} (ho : OpR X (compareOp op) r) (ha : EvV X σ H a x) (hb : EvV X σ H b y) (hr : ∀ Q : VK, Q (.bl c) H → r x y H Q) (hm : behindInMarks op b = false) : EvB X σ H (.Compare a [op] [b] pos) c :=
  WT.of (pt_cmpR ho pe_u pe_u hm) (ha.p (hb.p (hr _ ⟨c, rfl, rfl, rfl⟩)))
theorem eb_val {c : Bool} (h : EvV X σ H e (.bl c)) (he : ∀ whole, isTrue e X.env whole = (do let v ← whole; standAt e.pos; holding [v] (truthy v)) := by intro _; rfl) : EvB X σ H e c :=
  WT.of (pt_truth pe_u he) (h.p ⟨c, rfl, rfl, rfl⟩)
theorem ew_and1 (h : EvB X σ H a z') : EvW X σ H (.BoolOp .And [a] pos) z' := WW.of (pw_and1 pt_u) h
theorem ew_or1 (h : EvB X σ H a z') : EvW X σ H (.BoolOp .Or [a] pos) z' := WW.of (pw_or1 pt_u) h
theorem ew_and {r : List Expr} {c d : Bool} (h : EvB X σ H a c) (hr : c = true → EvW X σ H (.BoolOp .And (b :: r) pos) d) : EvW X σ H (.BoolOp .And (a :: b :: r) pos) (c && d) :=
  WW.of (pw_and pt_u pw_u) (h.p (by
    cases c with
    | true => exact hr rfl
    | false => exact ⟨rfl, rfl⟩))
theorem ew_or {r : List Expr} {c d : Bool} (h : EvB X σ H a c) (hr : c = false → EvW X σ H (.BoolOp .Or (b :: r) pos) d) : EvW X σ H (.BoolOp .Or (a :: b :: r) pos) (c || d) :=
  WW.of (pw_or pt_u pw_u) (h.p (by
    cases c with
    | true => exact ⟨rfl, rfl⟩
    | false => exact hr rfl))
theorem eb_not {c : Bool} (h : EvB X σ H a c) : EvB X σ H (.UnaryOp .Not a pos) (!c) := WT.of (pt_not pt_u) (h.p ⟨rfl, rfl⟩)
/-- and, or, not as values -/
theorem ev_and1 (h : EvV X σ H a z) : EvV X σ H (.BoolOp .And [a] pos) z := WE.of (pe_one pe_u) h
theorem ev_or1 (h : EvV X σ H a z) : EvV X σ H (.BoolOp .Or [a] pos) z := WE.of (pe_one pe_u) h
theorem ev_and {r : List Expr} {c d : Bool} (h : EvV X σ H a (.bl c)) (hr : c = true → EvV X σ H (.BoolOp .And (b :: r) pos) (.bl d)) : EvV X σ H (.BoolOp .And (a :: b :: r) pos) (.bl (c && d)) :=
  WE.of (pe_and pe_u pe_u) (h.p ⟨c, rfl, by
    cases c with
    | true => exact hr rfl
    | false => exact ⟨rfl, rfl⟩⟩)
theorem ev_or {r : List Expr} {c d : Bool} (h : EvV X σ H a (.bl c)) (hr : c = false → EvV X σ H (.BoolOp .Or (b :: r) pos) (.bl d)) : EvV X σ H (.BoolOp .Or (a :: b :: r) pos) (.bl (c || d)) :=
  WE.of (pe_or pe_u pe_u) (h.p ⟨c, rfl, by
    cases c with
    | true => exact ⟨rfl, rfl⟩
    | false => exact hr rfl⟩)
theorem ev_not {c : Bool} (h : EvV X σ H a (.bl c)) : EvV X σ H (.UnaryOp .Not a pos) (.bl (!c)) := WE.of (pe_not pe_u) (h.p ⟨c, rfl, rfl, rfl⟩)
/-! ### ints -/
theorem ev_add {i j : Int} (ha : EvV X σ H a (.int i)) (hb : EvV X σ H b (.int j)) : EvV X σ H (.BinOp a .Add b pos) (.int (i + j)) := ev_op op_add ha hb ⟨i, j, rfl, rfl, rfl, rfl⟩
theorem ev_sub {i j : Int} (ha : EvV X σ H a (.int i)) (hb : EvV X σ H b (.int j)) : EvV X σ H (.BinOp a .Sub b pos) (.int (i - j)) := ev_op op_sub ha hb ⟨i, j, rfl, rfl, rfl, rfl⟩
theorem ev_mul {i j : Int} (ha : EvV X σ H a (.int i)) (hb : EvV X σ H b (.int j)) (hc : CMul i j) : EvV X σ H (.BinOp a .Mult b pos) (.int (i * j)) := ev_op op_mul ha hb ⟨i, j, rfl, rfl, hc, rfl, rfl⟩
theorem ev_mod {i j : Int} (ha : EvV X σ H a (.int i)) (hb : EvV X σ H b (.int j)) (hc : 0 < j) : EvV X σ H (.BinOp a .Mod b pos) (.int (i % j)) := ev_op op_mod ha hb ⟨i, j, rfl, rfl, hc, rfl, rfl⟩
theorem ev_div {i j : Int} (ha : EvV X σ H a (.int i)) (hb : EvV X σ H b (.int j)) (hc : CDiv i j) : EvV X σ H (.BinOp a .FloorDiv b pos) (.int (i / j)) := ev_op op_fdiv ha hb ⟨i, j, rfl, rfl, hc, rfl, rfl⟩
theorem ev_pow {i j : Int} (ha : EvV X σ H a (.int i)) (hb : EvV X σ H b (.int j)) (hc : CPow i j) : EvV X σ H (.BinOp a .Pow b pos) (.int (i ^ j.toNat)) := ev_op op_pow ha hb ⟨i, j, rfl, rfl, hc, rfl, rfl⟩
theorem ev_neg {i : Int} (ha : EvV X σ H a (.int i)) : EvV X σ H (.UnaryOp .USub a pos) (.int (-i)) := ev_un un_neg ha ⟨i, rfl, rfl, rfl⟩
instance (i j : Int) : Decidable (CMul i j) := by unfold CMul; infer_instance
instance (i j : Int) : Decidable (CDiv i j) := by unfold CDiv; infer_instance
instance (i j : Int) : Decidable (CPow i j) := by unfold CPow; infer_instance
/-! ### texts -/
theorem ev_cat {i j : List Nat} (ha : EvV X σ H a (.str (S i))) (hb : EvV X σ H b (.str (S j))) (hc : i.length + j.length ≤ sizeLine) : EvV X σ H (.BinOp a .Add b pos) (.str (S (i ++ j))) :=
  ev_op op_add_str ha hb ⟨S i, S j, rfl, rfl, by rw [S_length, S_length]; exact hc, by rw [S_append], rfl⟩
/-- what str * int asks -/
def CTms {α : Type} (l : List α) (n : Int) : Prop := -(2 ^ 63) < n ∧ n < 2 ^ 63 ∧ l.length * n.toNat ≤ 16777216
instance {α : Type} (l : List α) (n : Int) : Decidable (CTms l n) := by unfold CTms; infer_instance
theorem foldl_app (n : Nat) (l : List Nat) : ∀ acc : Array Nat, ((List.replicate n l.toArray).foldl (· ++ ·) acc).toList = acc.toList ++ (List.replicate n l).flatten := by
  induction n with
  | zero => intro acc; simp
  | succ n ih =>
    intro acc
    rw [List.replicate_succ, List.foldl_cons, ih, List.replicate_succ, List.flatten_cons]
    simp
theorem op_tms : OpR X (binaryOp .Mult) (fun x y H Q => ∃ l n, x = .str (S l) ∧ y = .int n ∧ CTms l n ∧ Q (.str (S (tms l n))) H) := by
  intro pins s σ H x y v u Q I rx ry h
  obtain ⟨l, n, rfl, rfl, ⟨c1, c2, c3⟩, q⟩ := h
  obtain ⟨t, rfl⟩ := rx
  obtain ⟨t', rfl⟩ := ry
  have hlen : (S l).length = l.length := S_length l
  refine PySem.P.mul_str ?_ ?_ ?_ ?_
  · rw [decide_eq_false (by omega), decide_eq_false (by omega)]
    rfl
  · intro h1 h2
    rw [hlen]
    have hn : 0 < n := by omega
    intro h3
    have hl : l.length ≤ l.length * n.toNat := Nat.le_mul_of_pos_right _ (by omega)
    have h4 : (2 ^ 63 - 1) / n * n ≤ 2 ^ 63 - 1 := Int.ediv_mul_le _ (by omega)
    have h5 : ((2 ^ 63 - 1) / n + 1) * n ≤ (l.length : Int) * n := Int.mul_le_mul_of_nonneg_right (by omega) (by omega)
    have h6 : (l.length : Int) * n = ((l.length * n.toNat : Nat) : Int) := by
      rw [Int.natCast_mul, Int.toNat_of_nonneg (by omega)]
    have h7 : (2 ^ 63 - 1) < ((2 ^ 63 - 1) / n + 1) * n := Int.lt_mul_of_ediv_lt (by omega) (by omega)
    omega
  · intro h1 h2
    rw [hlen]
    show Builtin.Str.tooLong (l.length * n.toNat) = false
    unfold Builtin.Str.tooLong
    have hs : sizeLine = 16777216 := sizeLine_eq
    exact decide_eq_false (by omega)
  · by_cases h1 : n < 1
    · rw [if_pos h1]
      refine ⟨by decide, .str (S (tms l n)), H, I.tok _, ⟨s.toks, ?_⟩, q⟩
      have e : tms l n = [] := by
        unfold tms
        rw [show n.toNat = 0 by omega]
        rfl
      rw [e]
      rfl
    · rw [if_neg h1]
      by_cases h2 : (n == 1 || (S l).length == 0) = true
      · rw [if_pos h2]
        have e : tms l n = l := by
          rw [hlen] at h2
          rcases Bool.or_eq_true_iff.mp h2 with h3 | h3
          · have h3' : n = 1 := by simpa using h3
            subst h3'
            show (List.replicate 1 l).flatten = l
            simp
          · have h3' : l = [] := by simpa using h3
            subst h3'
            unfold tms
            simp
        rw [e] at q
        exact ⟨.str (S l), H, I, ⟨_, rfl⟩, q⟩
      · rw [if_neg h2]
        have e : (⟨(List.replicate n.toNat (S l).cps).foldl (· ++ ·) #[]⟩ : Str) = S (tms l n) := by
          have e2 := foldl_app n.toNat l #[]
          unfold S tms
          refine congrArg Str.mk ?_
          refine Array.toList_inj.mp ?_
          rw [e2]
          simp
        refine ⟨?_, .str (S (tms l n)), H, I.tok _, ⟨s.toks, ?_⟩, q⟩
        · rw [e, S_length]
          have e3 : (tms l n).length = n.toNat * l.length := by
            unfold tms
            simp
          rw [e3, sizeLine_eq, Nat.mul_comm]
          exact c3
        · rw [e]
end
end Bk
namespace Bk
open PySem L2
section
variable {X : Cx} {σ σ' : L2.St} {H : Hp} {e a b : Expr} {es : List Expr} {pos : Pos} {v x y z : V} {Q : VK} {D : Ends} {st : Stmt} {rest body orelse : List Stmt}
/-! ## what is read off the syntax -/
def nStar : Expr → Bool
  | .Starred .. => false
  | _ => true
def nComp : Expr → Bool
  | .ListComp .. => false
  | .SetComp .. => false
  | .DictComp .. => false
  | _ => true
def nSet : Expr → Bool
  | .Set .. => false
  | _ => true
def nCall : Expr → Bool
  | .Call .. => false
  | _ => true
def nSlice : Expr → Bool
  | .Slice .. => false
  | _ => true
theorem star_c {env : Env} (h : nStar e = true) : starEach (e :: es) env = (false, eval e env) :: starEach es env := by
  cases e <;> first
    | rfl
    | cases h
theorem star_1 {env : Env} (h : nStar e = true) : starEach [e] env = [(false, eval e env)] := star_c h
theorem star_2 {env : Env} (h : nStar a = true) (h2 : nStar b = true) : starEach [a, b] env = [(false, eval a env), (false, eval b env)] := by rw [star_c h, star_1 h2]
theorem star_n {env : Env} : ∀ {es : List Expr}, es.all nStar = true → (backTo pos (starEach es env)).any (·.1) = false
  | [], _ => rfl
  | e :: es, h => by
    rw [List.all_cons, Bool.and_eq_true] at h
    rw [star_c h.1]
    have ih : (backTo pos (starEach es env)).any (·.1) = false := star_n h.2
    show (false || (backTo pos (starEach es env)).any (·.1)) = false
    rw [ih]
    rfl
theorem sw_n {env : Env} {o : Option Expr} {l : Nat} (h : nComp e = true) : swapsWith e o l env = pure false := by
  cases e <;> first
    | rfl
    | cases h
theorem fs_n {env : Env} (h : nSet e = true) : ∀ x, foldedSetIterable e env x = pure x := by
  intro x
  cases e <;> first
    | rfl
    | cases h
theorem ab_n {env : Env} {nm : Str} {w : Sem Value} (h : nCall e = true) : attributeBase e nm env w = w := by
  cases e <;> first
    | rfl
    | cases h
theorem ix_n (h : nSlice e = true) : PlainIx e := by
  intro _ _
  cases e <;> first
    | rfl
    | cases h
/-! ## statements -/
theorem wss_nil (q : D.nx σ H) : WSs X σ H [] D := WSs.of pss_nil q
theorem wss_cons (h : WS X σ H st { D with nx := fun σ1 H1 => WSs X σ1 H1 rest D }) : WSs X σ H (st :: rest) D := WSs.of (pss_cons ps_u pss_u) h
/-- a statement, then the rest, with a word between them -/
theorem wss_cut (Mid : L2.St → Hp → Prop) (h : WS X σ H st { D with nx := Mid }) (k : ∀ σ1 H1, Mid σ1 H1 → WSs X σ1 H1 rest D) : WSs X σ H (st :: rest) D :=
  wss_cons (h.imp ⟨fun σ H q => k σ H q, fun _ _ q => q, fun _ _ q => q, fun _ _ q => q⟩)
theorem ws_asg {n : Str} {pos' : Pos} (i : Nat) (nd : X.N.Nodup) (h : WE X σ H e fun v H1 => D.nx (σ.set i (some v)) H1) (hi : X.N[i]? = some n := by rfl) (hx : Loc X.env.scope n := by first | exact Or.inl rfl | exact Or.inr rfl)
    (hs : nComp e = true := by rfl) (hf : X.fn n = true ∨ X.env.scope.names.lookup n = some .local := by first | exact .inl rfl | exact .inr rfl) :
    WS X σ H (.Assign [.Name n pos'] e pos) D := WS.of (ps_set nd hi hx pe_u (sw_n hs) hf) h
theorem ws_asgP {n : Str} {pos' : Pos} (i : Nat) (nd : X.N.Nodup) (h : EvV X σ H e v) (q : D.nx (σ.set i (some v)) H) (hi : X.N[i]? = some n := by rfl) (hx : Loc X.env.scope n := by first | exact Or.inl rfl | exact Or.inr rfl)
    (hs : nComp e = true := by rfl) (hf : X.fn n = true ∨ X.env.scope.names.lookup n = some .local := by first | exact .inl rfl | exact .inr rfl) :
    WS X σ H (.Assign [.Name n pos'] e pos) D := ws_asg i nd (h.p q) hi hx hs hf
theorem ws_augI {n : Str} {pos' : Pos} {i j : Int} (k : Nat) (nd : X.N.Nodup) (hσ : σ[k]? = some (some (.int i))) (h : EvV X σ H e (.int j)) (q : D.nx (σ.set k (some (.int (i + j)))) H) (hi : X.N[k]? = some n := by rfl) (hx : Loc X.env.scope n := by first | exact Or.inl rfl | exact Or.inr rfl)
    (hf : X.fn n = true ∨ X.env.scope.names.lookup n = some .local := by first | exact .inl rfl | exact .inr rfl) : WS X σ H (.AugAssign (.Name n pos') .Add e pos) D :=
  WS.of (ps_aug nd hi hx pe_u ip_add hf) ⟨_, hσ, h.p ⟨i, j, rfl, rfl, q⟩⟩
theorem ws_ausI {n : Str} {pos' : Pos} {i j : Int} (k : Nat) (nd : X.N.Nodup) (hσ : σ[k]? = some (some (.int i))) (h : EvV X σ H e (.int j)) (q : D.nx (σ.set k (some (.int (i - j)))) H) (hi : X.N[k]? = some n := by rfl) (hx : Loc X.env.scope n := by first | exact Or.inl rfl | exact Or.inr rfl)
    (hf : X.fn n = true ∨ X.env.scope.names.lookup n = some .local := by first | exact .inl rfl | exact .inr rfl) : WS X σ H (.AugAssign (.Name n pos') .Sub e pos) D :=
  WS.of (ps_aug nd hi hx pe_u ip_sub hf) ⟨_, hσ, h.p ⟨i, j, rfl, rfl, q⟩⟩
theorem ws_augE {n : Str} {pos' : Pos} {i : Int} (k : Nat) (nd : X.N.Nodup) (hσ : σ[k]? = some (some (.int i))) (h : WE X σ H e fun v H1 => ∃ j, v = .int j ∧ D.nx (σ.set k (some (.int (i + j)))) H1) (hi : X.N[k]? = some n := by rfl) (hx : Loc X.env.scope n := by first | exact Or.inl rfl | exact Or.inr rfl)
    (hf : X.fn n = true ∨ X.env.scope.names.lookup n = some .local := by first | exact .inl rfl | exact .inr rfl) : WS X σ H (.AugAssign (.Name n pos') .Add e pos) D :=
  WS.of (ps_aug nd hi hx pe_u ip_add hf) ⟨_, hσ, h.mono fun v H1 ⟨j, e1, q⟩ => ⟨i, j, rfl, e1, q⟩⟩
theorem ws_ret (h : WE X σ H e D.rt) : WS X σ H (.Return (some e) pos) D := WS.of (ps_ret pe_u) h
theorem ws_retP (h : EvV X σ H e v) (q : D.rt v H) : WS X σ H (.Return (some e) pos) D := ws_ret (h.p q)
theorem ws_retN (q : D.rt .non H) : WS X σ H (.Return none pos) D := WS.of ps_retN q
theorem ws_if {c : Expr} (h : WT X σ H c fun k H1 => if k = true then WSs X σ H1 body D else WSs X σ H1 orelse D) : WS X σ H (.If c body orelse pos) D := WS.of (ps_if pt_u pss_u pss_u) h
theorem ws_ifP {c : Expr} {k : Bool} (h : EvB X σ H c k) (h1 : k = true → WSs X σ H body D) (h2 : k = false → WSs X σ H orelse D) : WS X σ H (.If c body orelse pos) D := ws_if (h.p (by
  cases k with
  | true => exact h1 rfl
  | false => exact h2 rfl))
theorem ws_expr (h : WE X σ H e fun _ H1 => D.nx σ H1) (hs : nComp e = true := by rfl) : WS X σ H (.Expr e pos) D := WS.of (ps_expr pe_u (sw_n hs)) h
theorem ws_break (q : D.bk σ H) : WS X σ H (.Break pos) D := WS.of ps_break q
theorem ws_cont (q : D.ct σ H) : WS X σ H (.Continue pos) D := WS.of ps_continue q
theorem ws_pass (q : D.nx σ H) : WS X σ H (.Pass pos) D := WS.of ps_pass q
/-! ## arguments, calls -/
theorem wa_nil {Q : List V → Hp → Prop} (q : Q [] H) : WA X σ H [] Q := WA.of pa_nil q
theorem wa_cons {Q : List V → Hp → Prop} (h : WE X σ H e fun v H1 => WA X σ H1 es fun vs H2 => Q (v :: vs) H2) (hs : nStar e = true := by rfl) : WA X σ H (e :: es) Q := WA.of (pa_cons pe_u pa_u (star_c hs)) h
theorem wa_consP {Q : List V → Hp → Prop} (h : EvV X σ H e v) (q : WA X σ H es fun vs H2 => Q (v :: vs) H2) (hs : nStar e = true := by rfl) : WA X σ H (e :: es) Q := wa_cons (h.p q) hs
theorem ea_nil : EvA X σ H [] [] := wa_nil ⟨rfl, rfl⟩
theorem ea_cons {vs : List V} (h : EvV X σ H e v) (hr : EvA X σ H es vs) (hs : nStar e = true := by rfl) : EvA X σ H (e :: es) (v :: vs) := wa_consP h (hr.p ⟨rfl, rfl⟩) hs
section
variable {CX : CXT} {k : Nat} {f C : Addr} {fd : FuncData} {ps : List Str} {sp : Sp} {dvs : List V} {ds : List Value} {E : XK} {n m : Str} {p apos : Pos} {o : Expr}
theorem we_call (F : FnOk X.prog X.w X.K X.mg X.base CX k f fd ps sp) (hr : Room k X.A) (hm : X.mg n = some (.ref f)) (hk : PySem.W.keepIn X.K (.ref f) = true) (hb : Binds X.K fd ps ds) (hd : Vals dvs ds) (hx : Passes CX X E)
    (h : WA X σ H (e :: es) fun vs H1 => sp (vs ++ dvs) H1 Q E) (hg : Gl X n := by rfl) (hdb : (n == ("__debug__" : Str)) = false := by decide) (he : nStar e = true := by rfl) (hpl : es.all nStar = true := by rfl) :
    WE X σ H (.Call (.Name n p) (e :: es) [] pos) Q := WE.of (pe_call F hr hg hm hk hb hd hx pa_u hdb (star_c he) (star_n hpl)) h
theorem we_call0 (F : FnOk X.prog X.w X.K X.mg X.base CX k f fd ps sp) (hr : Room k X.A) (hm : X.mg n = some (.ref f)) (hk : PySem.W.keepIn X.K (.ref f) = true) (hb : Binds X.K fd ps ds) (hd : Vals dvs ds) (hx : Passes CX X E)
    (h : sp ([] ++ dvs) H Q E) (hg : Gl X n := by rfl) (hdb : (n == ("__debug__" : Str)) = false := by decide) :
    WE X σ H (.Call (.Name n p) [] [] pos) Q := WE.of (pe_call0 F hr hg hm hk hb hd hx hdb) h
theorem we_bi {id : String} {r : List V → Hp → VK → Prop} (hc : CallR X (.builtin id) r) (hm : X.mg n = none) (hv : bootBuiltins n = some (.builtin id)) (h : WA X σ H (e :: es) fun vs H1 => r vs H1 Q) (hg : Gl X n := by rfl)
    (hn : n ≠ "__name__" := by decide) (hdb : (n == ("__debug__" : Str)) = false := by decide) (he : nStar e = true := by rfl) (hpl : es.all nStar = true := by rfl) :
    WE X σ H (.Call (.Name n p) (e :: es) [] pos) Q := WE.of (pe_callB hc hg hm hv pa_u hn hdb (star_c he) (star_n hpl)) h
theorem we_ty {T : String} {r : List V → Hp → VK → Prop} (hc : CallR X (.type T) r) (hm : X.mg n = none) (hv : bootBuiltins n = some (.type T)) (h : WA X σ H (e :: es) fun vs H1 => r vs H1 Q) (hg : Gl X n := by rfl)
    (hn : n ≠ "__name__" := by decide) (hdb : (n == ("__debug__" : Str)) = false := by decide) (he : nStar e = true := by rfl) (hpl : es.all nStar = true := by rfl) :
    WE X σ H (.Call (.Name n p) (e :: es) [] pos) Q := WE.of (pe_callTy hc hg hm hv pa_u hn hdb (star_c he) (star_n hpl)) h
end
end
end Bk
namespace Bk
open PySem L2
section
variable {X : Cx} {σ σ' : L2.St} {H F Fe He : Hp} {e a b c : Expr} {es : List Expr} {pos : Pos} {v x y z : V} {Q : VK} {D : Ends} {st : Stmt} {rest body orelse : List Stmt}
/-! ## comparisons: as a value and as a test -/
def EvC (X : Cx) (σ : L2.St) (H : Hp) (op : CmpOp) (a b : Expr) (k : Bool) : Prop := ∀ pos, EvV X σ H (.Compare a [op] [b] pos) (.bl k) ∧ EvB X σ H (.Compare a [op] [b] pos) k
theorem EvC.va {op : CmpOp} {k : Bool} (h : EvC X σ H op a b k) : EvV X σ H (.Compare a [op] [b] pos) (.bl k) := (h pos).1
theorem EvC.te {op : CmpOp} {k : Bool} (h : EvC X σ H op a b k) : EvB X σ H (.Compare a [op] [b] pos) k := (h pos).2
theorem ec_of {op : CmpOp} {r : R2} {k : Bool} (ho : OpR X (compareOp op) r) (ha : EvV X σ H a x) (hb : EvV X σ H b y) (hr : ∀ Q : VK, Q (.bl k) H → r x y H Q) (hm : behindInMarks op b = false) : EvC X σ H op a b k := fun pos =>
  ⟨ev_cmp ho ha hb hr hm, eb_cmp ho ha hb hr hm⟩
theorem ec_lt {i j : Int} (ha : EvV X σ H a (.int i)) (hb : EvV X σ H b (.int j)) : EvC X σ H .Lt a b (decide (i < j)) := ec_of op_lt ha hb (fun _ q => ⟨i, j, rfl, rfl, q⟩) (nomark _)
theorem ec_le {i j : Int} (ha : EvV X σ H a (.int i)) (hb : EvV X σ H b (.int j)) : EvC X σ H .LtE a b (decide (i ≤ j)) := ec_of op_le ha hb (fun _ q => ⟨i, j, rfl, rfl, q⟩) (nomark _)
theorem ec_gt {i j : Int} (ha : EvV X σ H a (.int i)) (hb : EvV X σ H b (.int j)) : EvC X σ H .Gt a b (decide (j < i)) := ec_of op_gt ha hb (fun _ q => ⟨i, j, rfl, rfl, q⟩) (nomark _)
theorem ec_ge {i j : Int} (ha : EvV X σ H a (.int i)) (hb : EvV X σ H b (.int j)) : EvC X σ H .GtE a b (decide (j ≤ i)) := ec_of op_ge ha hb (fun _ q => ⟨i, j, rfl, rfl, q⟩) (nomark _)
theorem ec_eq {k : Bool} (ha : EvV X σ H a x) (hb : EvV X σ H b y) (hs : scal x y = true) (hk : decide (x = y) = k) : EvC X σ H .Eq a b k := ec_of op_eq ha hb (fun _ q => ⟨hs, hk ▸ q⟩) (nomark _)
theorem ec_ne {k : Bool} (ha : EvV X σ H a x) (hb : EvV X σ H b y) (hs : scal x y = true) (hk : decide (x = y) = k) : EvC X σ H .NotEq a b (!k) := ec_of op_ne ha hb (fun _ q => ⟨hs, hk ▸ q⟩) (nomark _)
theorem dI {i j : Int} : decide (V.int i = V.int j) = decide (i = j) := by simp
theorem dB {i j : Bool} : decide (V.bl i = V.bl j) = decide (i = j) := by simp
theorem dS {i j : List Nat} : decide (V.str (S i) = V.str (S j)) = decide (i = j) := by
  by_cases h : i = j
  · subst h
    simp
  · rw [decide_eq_false h, decide_eq_false]
    intro e
    exact h (S_inj (V.str.inj e))
theorem dSc {i j : Nat} : decide (V.str (S [i]) = V.str (S [j])) = decide (i = j) := by
  rw [dS]
  simp
theorem ec_eqI {i j : Int} (ha : EvV X σ H a (.int i)) (hb : EvV X σ H b (.int j)) : EvC X σ H .Eq a b (decide (i = j)) := ec_eq ha hb rfl dI
theorem ec_neI {i j : Int} (ha : EvV X σ H a (.int i)) (hb : EvV X σ H b (.int j)) : EvC X σ H .NotEq a b (!decide (i = j)) := ec_ne ha hb rfl dI
theorem ec_eqB {i j : Bool} (ha : EvV X σ H a (.bl i)) (hb : EvV X σ H b (.bl j)) : EvC X σ H .Eq a b (decide (i = j)) := ec_eq ha hb rfl dB
theorem ec_neB {i j : Bool} (ha : EvV X σ H a (.bl i)) (hb : EvV X σ H b (.bl j)) : EvC X σ H .NotEq a b (!decide (i = j)) := ec_ne ha hb rfl dB
theorem ec_eqS {i j : List Nat} (ha : EvV X σ H a (.str (S i))) (hb : EvV X σ H b (.str (S j))) : EvC X σ H .Eq a b (decide (i = j)) := ec_eq ha hb rfl dS
theorem ec_neS {i j : List Nat} (ha : EvV X σ H a (.str (S i))) (hb : EvV X σ H b (.str (S j))) : EvC X σ H .NotEq a b (!decide (i = j)) := ec_ne ha hb rfl dS
theorem ec_ltS {i j : List Nat} (ha : EvV X σ H a (.str (S i))) (hb : EvV X σ H b (.str (S j))) : EvC X σ H .Lt a b (decide (i < j)) := ec_of op_lt_str ha hb (fun _ q => ⟨S i, S j, rfl, rfl, by rw [S_toList, S_toList]; exact q⟩) (nomark _)
theorem ec_isB {i j : Bool} (ha : EvV X σ H a (.bl i)) (hb : EvV X σ H b (.bl j)) : EvC X σ H .Is a b (decide (i = j)) := ec_of op_isBl ha hb (fun _ q => ⟨i, j, rfl, rfl, q⟩) (nomark _)
theorem ec_isnB {i j : Bool} (ha : EvV X σ H a (.bl i)) (hb : EvV X σ H b (.bl j)) : EvC X σ H .IsNot a b (!decide (i = j)) := ec_of op_notBl ha hb (fun _ q => ⟨i, j, rfl, rfl, q⟩) (nomark _)
theorem ec_isN (ha : EvV X σ H a x) (hb : EvV X σ H b .non) : EvC X σ H .Is a b (decide (x = .non)) := ec_of op_isN ha hb (fun _ q => ⟨rfl, q⟩) (nomark _)
theorem ec_isnN (ha : EvV X σ H a x) (hb : EvV X σ H b .non) : EvC X σ H .IsNot a b (!decide (x = .non)) := ec_of op_notN ha hb (fun _ q => ⟨rfl, q⟩) (nomark _)
/-! ## subscripts and slices -/
theorem ev_ix {r : R2} (hr : IxR X r) (ha : EvV X σ H a x) (hb : EvV X σ H b y) (h : r x y H fun v' H' => v' = z ∧ H' = H) (hs : nSlice b = true := by rfl) : EvV X σ H (.Subscript a b pos) z := WE.of (pe_ix hr pe_u pe_u (ix_n hs)) (ha.p (hb.p h))
theorem ev_ixS {l : List Nat} {i : Int} {k : Nat} (ha : EvV X σ H a (.str (S l))) (hb : EvV X σ H b (.int i)) (hl : l.length ≤ sizeLine) (h : atI l i = some k) (hs : nSlice b = true := by rfl) : EvV X σ H (.Subscript a b pos) (.str (S [k])) :=
  ev_ix ix_str ha hb ⟨S l, i, k, rfl, rfl, by rw [S_length]; exact hl, by rw [S_toList]; exact h, rfl, rfl⟩ hs
theorem ev_ixL {p : Addr} {xs : List V} {i : Int} (ha : EvV X σ H a (.ref p)) (hb : EvV X σ H b (.int i)) (hp : SqL X.K H p xs) (h : atI xs i = some v) (hs : nSlice b = true := by rfl) : EvV X σ H (.Subscript a b pos) v :=
  ev_ix ix_list ha hb ⟨p, xs, i, v, rfl, rfl, hp, h, rfl, rfl⟩ hs
theorem ev_ixT {p : Addr} {xs : List V} {i : Int} (ha : EvV X σ H a (.ref p)) (hb : EvV X σ H b (.int i)) (hp : SqT X.K H p xs) (h : atI xs i = some v) (hs : nSlice b = true := by rfl) : EvV X σ H (.Subscript a b pos) v :=
  ev_ix ix_tup ha hb ⟨p, xs, i, v, rfl, rfl, hp, h, rfl, rfl⟩ hs
/-- the ends of a slice -/
structure WO (X : Cx) (σ : L2.St) (H : Hp) (o : Option Expr) (Q : Option Int → Hp → Prop) : Prop where
  run : ∀ (pins : List (Addr × Obj)) (s : Shared), Inv X pins σ H s →
  wpAny (model X.prog X.w) X.A (evalPart o X.env) (fun u s' => ∃ o H', Inv X pins σ H' s' ∧ IsPart u o ∧ Q o H') X.xe s
theorem po_u {o : Option Expr} : PO X o (fun σ H Q => WO X σ H o Q) := ⟨fun pins s _ _ _ I h => h.run pins s I⟩
theorem wo_n {Q : Option Int → Hp → Prop} (q : Q none H) : WO X σ H none Q := ⟨fun pins s I => po_none.run pins s σ H Q I q⟩
theorem wo_s {Q : Option Int → Hp → Prop} (h : WE X σ H e fun v H1 => ∃ i, v = .int i ∧ Q (some i) H1) : WO X σ H (some e) Q := ⟨fun pins s I => (po_some pe_u).run pins s σ H Q I h⟩
theorem wo_sP {Q : Option Int → Hp → Prop} {i : Int} (h : EvV X σ H e (.int i)) (q : Q (some i) H) : WO X σ H (some e) Q := wo_s (h.p ⟨i, rfl, q⟩)
def EvO (X : Cx) (σ : L2.St) (H : Hp) (o : Option Expr) (i : Option Int) : Prop := WO X σ H o fun j H' => j = i ∧ H' = H
theorem eo_n : EvO X σ H none none := wo_n ⟨rfl, rfl⟩
theorem eo_s {i : Int} (h : EvV X σ H e (.int i)) : EvO X σ H (some e) (some i) := wo_sP h ⟨rfl, rfl⟩
theorem EvO.p {o : Option Expr} {i : Option Int} {Q : Option Int → Hp → Prop} (h : EvO X σ H o i) (q : Q i H) : WO X σ H o Q := ⟨fun pins s I => thn (h.run pins s I) fun _ _ ⟨j, H', I', k, h1, h2⟩ => by
  subst h1 h2
  exact ⟨_, _, I', k, q⟩⟩
theorem we_sl {r : V → Option Int → Option Int → Hp → VK → Prop} {lo hi : Option Expr} {p2 : Pos} (hr : SlR X r) (h : WE X σ H a fun x H1 => WO X σ H1 lo fun l H2 => WO X σ H2 hi fun u H3 => r x l u H3 Q) : WE X σ H (.Subscript a (.Slice lo hi none p2) pos) Q :=
  WE.of (pe_slice hr pe_u po_u po_u) h
theorem ev_slS {l : List Nat} {lo hi : Option Expr} {i j : Option Int} {p2 : Pos} (ha : EvV X σ H a (.str (S l))) (h1 : EvO X σ H lo i) (h2 : EvO X σ H hi j) (hl : l.length ≤ sizeLine) : EvV X σ H (.Subscript a (.Slice lo hi none p2) pos) (.str (S (cut l i j))) :=
  we_sl sl_str (ha.p (h1.p (h2.p ⟨S l, rfl, by rw [S_length]; exact hl, by rw [cutS_S], rfl⟩)))
/-- a slice of a list: a new list -/
theorem we_slL {p : Addr} {xs : List V} {lo hi : Option Expr} {i j : Option Int} {p2 : Pos} (ha : EvV X σ H a (.ref p)) (h1 : EvO X σ H lo i) (h2 : EvO X σ H hi j) (hp : SqL X.K H p xs) (q : ∀ d, H d = none → Q (.ref d) (upd H d (.lst (cutV xs i j)))) :
    WE X σ H (.Subscript a (.Slice lo hi none p2) pos) Q := we_sl sl_list (ha.p (h1.p (h2.p ⟨p, xs, rfl, hp, q⟩)))
/-! ## new tuples, new lists -/
theorem we_tup {k} (h : WA X σ H es fun xs H1 => xs.length ≤ sizeLine ∧ ∀ p, H1 p = none → Q (.ref p) (upd H1 p (.tup xs))) : WE X σ H (.Tuple es k pos) Q := WE.of (pe_tup pa_u) h
theorem we_tupP {k} {xs : List V} (h : EvA X σ H es xs) (hl : xs.length ≤ sizeLine) (q : ∀ p, H p = none → Q (.ref p) (upd H p (.tup xs))) : WE X σ H (.Tuple es k pos) Q := we_tup (h.p ⟨hl, q⟩)
theorem we_lst (h : WA X σ H es fun xs H1 => xs.length ≤ sizeLine ∧ ∀ p, H1 p = none → Q (.ref p) (upd H1 p (.lst xs))) : WE X σ H (.List es pos) Q := WE.of (pe_lst pa_u) h
theorem we_lstP {xs : List V} (h : EvA X σ H es xs) (hl : xs.length ≤ sizeLine) (q : ∀ p, H p = none → Q (.ref p) (upd H p (.lst xs))) : WE X σ H (.List es pos) Q := we_lst (h.p ⟨hl, q⟩)
/-- written ints -/
def cInts : List Expr → Option (List Int)
  | [] => some []
  | .Constant (.int i) _ _ :: r => match cInts r with
    | some l => some (i :: l)
    | none => none
  | _ => none
theorem ea_ints : ∀ {es : List Expr} {is : List Int}, cInts es = some is → EvA X σ H es (is.map V.int)
  | [], is, h => by
    cases h
    exact ea_nil
  | .Constant (.int i) j pos :: r, is, h => by
    unfold cInts at h
    split at h
    · rename_i l hl
      cases h
      exact ea_cons ev_int (ea_ints hl)
    · cases h
/-- (a, b, ..)[i] of written parts: the tuple is laid on the way -/
theorem we_tupIx {k} {xs : List V} (h : EvA X σ H es xs) (hl : xs.length ≤ sizeLine) (q : ∀ p H1, Ex tb H H1 → H1 p = some (.tup xs) → WE X σ H1 b fun y H2 => ∃ i v, y = .int i ∧ Ex tb H1 H2 ∧ atI xs i = some v ∧ Q v H2) (hs : nSlice b = true := by rfl) :
    WE X σ H (.Subscript (.Tuple es k pos') b pos) Q := WE.of (pe_ix ix_tup pe_u pe_u (ix_n hs)) (we_tupP h hl fun p hp => (q p _ (Ex.new hp) upd_same).mono fun y H2 ⟨i, v, e1, e2, e3, q⟩ => ⟨p, xs, i, v, rfl, e1, st_of (e2.at upd_same), e3, q⟩)
/-! ## len, methods of texts -/
theorem ev_lenS {n : Str} {p : Pos} {l : List Nat} (ha : EvV X σ H a (.str (S l))) (hl : l.length ≤ sizeLine) (hm : X.mg n = none) (hn : n = "len" := by rfl) (hg : Gl X n := by rfl) (he : nStar a = true := by rfl) :
    EvV X σ H (.Call (.Name n p) [a] [] pos) (.int l.length) := by
  subst hn
  exact we_bi call_len hm PySem.boot_len (wa_consP ha (wa_nil ⟨_, l.length, rfl, ⟨by rw [S_length]; exact hl, by rw [S_length]⟩, rfl, rfl⟩) he) hg (by decide) (by decide) he rfl
theorem ev_lenL {n : Str} {p : Pos} {d : Addr} {xs : List V} (ha : EvV X σ H a (.ref d)) (hx : SqL X.K H d xs) (hm : X.mg n = none) (hn : n = "len" := by rfl) (hg : Gl X n := by rfl) (he : nStar a = true := by rfl) :
    EvV X σ H (.Call (.Name n p) [a] [] pos) (.int xs.length) := by
  subst hn
  exact we_bi call_len hm PySem.boot_len (wa_consP ha (wa_nil ⟨_, xs.length, rfl, .inl ⟨xs, hx, rfl⟩, rfl, rfl⟩) he) hg (by decide) (by decide) he rfl
/-- e.join(xs) -/
def joined (sep : List Nat) : List (List Nat) → List Nat
  | [] => []
  | [x] => x
  | x :: y :: r => x ++ (sep ++ joined sep (y :: r))
theorem join_S0 (sep : List Nat) : ∀ ys : List (List Nat), Str.join (S sep) (ys.map S) = S (joined sep ys)
  | [] => rfl
  | [x] => rfl
  | x :: y :: r => by
    have ih : Str.join (S sep) ((y :: r).map S) = S (joined sep (y :: r)) := join_S0 sep (y :: r)
    show Str.join (S sep) (S x :: S y :: r.map S) = S (x ++ (sep ++ joined sep (y :: r)))
    have e : Str.join (S sep) (S x :: S y :: r.map S) = S x ++ S sep ++ Str.join (S sep) ((y :: r).map S) := rfl
    rw [e, ih, S_append, S_append, List.append_assoc]
theorem join_S (sep : List Nat) (ys : List (List Nat)) : Txt.join (S sep) (ys.map S) = S (joined sep ys) := by
  rw [TL.join_eq, join_S0]
def CJoin (sep : List Nat) (ys : List (List Nat)) : Prop := (ys.map List.length).sum + ys.length * sep.length ≤ 16777216
instance (sep : List Nat) (ys : List (List Nat)) : Decidable (CJoin sep ys) := by unfold CJoin; infer_instance
theorem we_join {apos : Pos} {sep : List Nat} {o : Expr} (ho : EvV X σ H o (.str (S sep))) (h : WE X σ H e fun v H1 => ∃ p ys, v = .ref p ∧ SqL X.K H1 p (ys.map sV) ∧ CJoin sep ys ∧ Q (.str (S (joined sep ys))) H1)
    (hs : nStar e = true := by rfl) (hbase : nCall o = true := by rfl) (hline : (apos.endLine == pos.line) = true := by rfl) :
    WE X σ H (.Call (.Attribute o "join" apos) [e] [] pos) Q := WE.of (pe_join pe_u pe_u (star_1 hs) (ab_n hbase) hline) (ho.p ⟨⟨_, rfl⟩, h.mono fun v H1 ⟨p, ys, e1, e2, e3, q⟩ => ⟨S sep, p, ys.map S, rfl, by rw [e1], .inl (by rw [List.map_map]; exact e2), by
      have e4 : (ys.map S).map (fun z : Str => z.length) = ys.map List.length := by
        rw [List.map_map]
        exact List.map_congr_left fun l _ => S_length l
      rw [e4, List.length_map, S_length]
      exact e3, by rw [join_S]; exact q⟩⟩)
/-! ## isinstance of a known kind -/
theorem we_isi {n m : Str} {p pm : Pos} {T T' : String} {k : Bool} (ha : EvV X σ H a x) (ht : TyX X.K H x (.type T)) (hk : kitB T T' = some k) (hm : X.mg n = none) (hmT : X.mg m = none) (hT : bootBuiltins m = some (.type T')) (hn : n = "isinstance" := by rfl) (hg : Gl X n := by rfl) (hgm : Gl X m := by rfl)
    (hm1 : m ≠ "__name__" := by decide) (hm2 : (m == ("__debug__" : Str)) = false := by decide)
    (he : nStar a = true := by rfl) :
    EvV X σ H (.Call (.Name n p) [a, .Name m pm] [] pos) (.bl k) := by
  subst hn
  refine we_bi call_isi hm (by decide +kernel) (wa_consP ha (wa_cons (WE.of (pe_bltn hgm hmT hT (v := .ty T') rfl hm1 hm2) ?_) rfl) he) hg (by decide) (by decide) he rfl
  exact wa_nil ⟨x, .ty T', .type T, .type T', k, rfl, .ty T', ht, kit_ty hk, rfl, rfl⟩
/-! ## loops -/
/-- a for over anything that is walked: the mirror goes with it -/
theorem for_mir {α ρ S : Type} {J : It} {n : Nat} {G : Hp → Prop} {Y : Nat → Hp → V → Hp → Prop} (w : Walk J n G Y) {step : S → α → Option (Lp ρ S)} {xs : List α} (hn : xs.length = n) {s0 : S} {o : Lp ρ S} (ho : forX step xs s0 = some o) {g : TG}
    (Iv : S → L2.St → Hp → Prop) (h0 : Iv s0 σ H) (hG : ∀ s σ H, Iv s σ H → G H)
    (hs : ∀ i t s σ H x H' o', xs[i]? = some t → Iv s σ H → Y i H x H' → step s t = some o' → (∀ r, o' = .rt r → o = .rt r) →
      g x σ H' fun σ2 H2 => WSs X σ2 H2 body { nx := fun σ' H' => ∃ s', o' = .nx s' ∧ Iv s' σ' H', ct := fun σ' H' => ∃ s', o' = .nx s' ∧ Iv s' σ' H', bk := fun σ' H' => ∃ s', o' = .bk s' ∧ Iv s' σ' H', rt := D.rt })
    (gm : ∀ x σ H (R R' : L2.St → Hp → Prop), (∀ σ H, R σ H → R' σ H) → g x σ H R → g x σ H R')
    (hd : ∀ s σ' H', (o = .nx s) → Iv s σ' H' → D.nx σ' H') :
    ∃ W : Nat → Nat → L2.St → Hp → Prop, (∃ m, W 0 m σ H) ∧ ∀ i m σ H, W i m σ H →
      (J.stop i H ∧ D.nx σ H) ∨ (J.go i H ∧ ∃ N : L2.St → Hp → Prop, (∀ σ' H', N σ' H' → ∃ m', m' < m ∧ W (i + 1) m' σ' H') ∧ ∀ x H', J.yld i H x H' → g x σ H' fun σ2 H2 => uSs X body { D with nx := N, ct := N, bk := D.nx } σ2 H2) := by
  refine for_it w (tb := uSs X body) (fun i σ H => ∃ s, Iv s σ H ∧ forX step (xs.drop i) s = some o) ⟨s0, h0, ho⟩ (fun i σ H _ ⟨s, hi, _⟩ => hG s σ H hi) ?_ ?_
  · intro i x σ1 H1 H2 hi ⟨s, hI, hf⟩ hy
    have hx : i < xs.length := by omega
    have hc := List.getElem?_eq_getElem hx
    rw [drop_cons hc] at hf
    unfold forX at hf
    cases hst : step s xs[i] with
    | none =>
      rw [hst] at hf
      cases hf
    | some o' =>
      rw [hst] at hf
      refine gm x σ1 H2 _ _ (fun σ2 H3 q => ?_) (hs i xs[i] s σ1 H1 x H2 o' hc hI hy hst ?_)
      · refine WSs.imp q ⟨fun σ4 H4 h => ?_, fun _ _ h => h, fun σ4 H4 h => ?_, fun σ4 H4 h => ?_⟩
        · obtain ⟨s', e1, h⟩ := h
          subst e1
          exact ⟨s', h, hf⟩
        · obtain ⟨s', e1, h⟩ := h
          subst e1
          exact hd s' σ4 H4 (Option.some.inj hf).symm h
        · obtain ⟨s', e1, h⟩ := h
          subst e1
          exact ⟨s', h, hf⟩
      · intro r e1
        subst e1
        exact (Option.some.inj hf).symm
  · intro σ1 H1 ⟨s, hI, hf⟩
    rw [List.drop_eq_nil_of_le (by omega)] at hf
    exact hd s σ1 H1 (Option.some.inj hf).symm hI
theorem gname_mono {i : Nat} : ∀ (x : V) (σ : L2.St) (H : Hp) (R R' : L2.St → Hp → Prop), (∀ σ H, R σ H → R' σ H) → gName i x σ H R → gName i x σ H R' := fun _ _ _ _ _ k h => k _ _ h
/-- for x in range(a) | range(a, b) -/
theorem ws_forR1 {ρ S : Type} {n n2 : Str} {p p2 p3 : Pos} {hi : Int} (i : Nat) (nd : X.N.Nodup) (hp : PassesOwn (model X.prog X.w) X.A X.env X.xe) (hcalm : X.calm = true) (hm : X.mg n2 = none) (ha : EvV X σ H a (.int hi)) (hb : -(2 ^ 62) ≤ hi ∧ hi < 2 ^ 62)
    {step : S → Int → Option (Lp ρ S)} {s0 : S} {o : Lp ρ S} (ho : forX step (rng 0 hi) s0 = some o) (Iv : S → L2.St → Hp → Prop) (h0 : Iv s0 σ H)
    (hs : ∀ t s σ H o', Iv s σ H → step s t = some o' → 0 ≤ t → t < hi → (∀ r, o' = .rt r → o = .rt r) →
      WSs X (σ.set i (some (.int t))) H body { nx := fun σ' H' => ∃ s', o' = .nx s' ∧ Iv s' σ' H', ct := fun σ' H' => ∃ s', o' = .nx s' ∧ Iv s' σ' H', bk := fun σ' H' => ∃ s', o' = .bk s' ∧ Iv s' σ' H', rt := D.rt })
    (hd : ∀ s σ' H', o = .nx s → Iv s σ' H' → D.nx σ' H') (hn : n2 = "range" := by rfl) (hg : Gl X n2 := by rfl) (hN : X.N[i]? = some n := by rfl) (hx : Loc X.env.scope n := by first | exact Or.inl rfl | exact Or.inr rfl)
    (hf : X.fn n = true ∨ X.env.scope.names.lookup n = some .local := by first | exact .inl rfl | exact .inr rfl) (hst : nStar a = true := by rfl) :
    WS X σ H (.For (.Name n p) (.Call (.Name n2 p2) [a] [] p3) body [] pos) D := by
  subst hn
  refine WS.of (ps_for hp hcalm (pi_range1 hg hm pa_u (star_1 hst)) (pg_name nd hN hx hf) pss_u) ?_
  refine wa_consP ha (wa_nil ⟨hi, rfl, hb.1, hb.2, ?_⟩) hst
  have hl : (rng 0 hi).length = hi.toNat := by rw [rng_len, Int.sub_zero]
  refine for_mir (walk_range (lo := 0) (n := hi.toNat)) hl ho Iv h0 (fun _ _ _ _ => trivial) ?_ gname_mono hd
  intro k t s σ1 H1 x H2 o' ht hI hy hst' hr
  obtain ⟨rfl, rfl⟩ := hy
  have hk : k < hi.toNat := by
    have := (List.getElem?_eq_some_iff.mp ht).1
    omega
  have ht2 : t = 0 + (k : Int) := by
    rw [rng_get (by omega)] at ht
    exact (Option.some.inj ht).symm
  subst ht2
  exact hs _ s σ1 _ o' hI hst' (by omega) (by omega) hr
theorem ws_forR2 {ρ S : Type} {n n2 : Str} {p p2 p3 : Pos} {lo hi : Int} (i : Nat) (nd : X.N.Nodup) (hp : PassesOwn (model X.prog X.w) X.A X.env X.xe) (hcalm : X.calm = true) (hm : X.mg n2 = none) (ha : EvA X σ H [a, b] [.int lo, .int hi])
    (hb : -(2 ^ 62) ≤ lo ∧ lo < 2 ^ 62 ∧ -(2 ^ 62) ≤ hi ∧ hi < 2 ^ 62)
    {step : S → Int → Option (Lp ρ S)} {s0 : S} {o : Lp ρ S} (ho : forX step (rng lo hi) s0 = some o) (Iv : S → L2.St → Hp → Prop) (h0 : Iv s0 σ H)
    (hs : ∀ t s σ H o', Iv s σ H → step s t = some o' → lo ≤ t → t < hi → (∀ r, o' = .rt r → o = .rt r) →
      WSs X (σ.set i (some (.int t))) H body { nx := fun σ' H' => ∃ s', o' = .nx s' ∧ Iv s' σ' H', ct := fun σ' H' => ∃ s', o' = .nx s' ∧ Iv s' σ' H', bk := fun σ' H' => ∃ s', o' = .bk s' ∧ Iv s' σ' H', rt := D.rt })
    (hd : ∀ s σ' H', o = .nx s → Iv s σ' H' → D.nx σ' H') (hn : n2 = "range" := by rfl) (hg : Gl X n2 := by rfl) (hN : X.N[i]? = some n := by rfl) (hx : Loc X.env.scope n := by first | exact Or.inl rfl | exact Or.inr rfl)
    (hf : X.fn n = true ∨ X.env.scope.names.lookup n = some .local := by first | exact .inl rfl | exact .inr rfl) (hst : nStar a = true := by rfl) (hst2 : nStar b = true := by rfl) :
    WS X σ H (.For (.Name n p) (.Call (.Name n2 p2) [a, b] [] p3) body [] pos) D := by
  subst hn
  refine WS.of (ps_for hp hcalm (pi_range2 hg hm pa_u (star_2 hst hst2) (star_1 hst2)) (pg_name nd hN hx hf) pss_u) ?_
  refine ha.p ⟨lo, hi, rfl, hb, ?_⟩
  have hl : (rng lo hi).length = (hi - lo).toNat := rng_len lo hi
  refine for_mir (walk_range (lo := lo) (n := (hi - lo).toNat)) hl ho Iv h0 (fun _ _ _ _ => trivial) ?_ gname_mono hd
  intro k t s σ1 H1 x H2 o' ht hI hy hst' hr
  obtain ⟨rfl, rfl⟩ := hy
  have hk : k < (hi - lo).toNat := by
    have := (List.getElem?_eq_some_iff.mp ht).1
    omega
  have ht2 : t = lo + (k : Int) := by
    rw [rng_get (by omega)] at ht
    exact (Option.some.inj ht).symm
  subst ht2
  exact hs _ s σ1 _ o' hI hst' (by omega) (by omega) hr
/-- for x in xs, xs a list -/
theorem ws_forL {α ρ S : Type} {n : Str} {p : Pos} {d : Addr} {ws : List V} (i : Nat) (nd : X.N.Nodup) (hp : PassesOwn (model X.prog X.w) X.A X.env X.xe) (hcalm : X.calm = true) (hl : WE X σ H a fun v H1 => v = .ref d ∧ H1 = H) (hw : SqL X.K H d ws)
    {xs : List α} (hlen : xs.length = ws.length) {step : S → α → Option (Lp ρ S)} {s0 : S} {o : Lp ρ S} (ho : forX step xs s0 = some o) (Iv : S → L2.St → Hp → Prop) (h0 : Iv s0 σ H) (hG : ∀ s σ H, Iv s σ H → SqL X.K H d ws)
    (hs : ∀ (k : Nat) t x s σ H o', xs[k]? = some t → ws[k]? = some x → Iv s σ H → step s t = some o' → (∀ r, o' = .rt r → o = .rt r) →
      WSs X (σ.set i (some x)) H body { nx := fun σ' H' => ∃ s', o' = .nx s' ∧ Iv s' σ' H', ct := fun σ' H' => ∃ s', o' = .nx s' ∧ Iv s' σ' H', bk := fun σ' H' => ∃ s', o' = .bk s' ∧ Iv s' σ' H', rt := D.rt })
    (hd : ∀ s σ' H', o = .nx s → Iv s σ' H' → D.nx σ' H') (hN : X.N[i]? = some n := by rfl) (hx : Loc X.env.scope n := by first | exact Or.inl rfl | exact Or.inr rfl)
    (hf : X.fn n = true ∨ X.env.scope.names.lookup n = some .local := by first | exact .inl rfl | exact .inr rfl) (hst : nSet a = true := by rfl) :
    WS X σ H (.For (.Name n p) a body [] pos) D := by
  refine WS.of (ps_for hp hcalm (pi_list pe_u) (pg_name nd hN hx hf) pss_u (fs_n hst)) ?_
  refine hl.mono fun v H1 ⟨e1, e2⟩ => ?_
  subst e1 e2
  refine ⟨d, rfl, ⟨ws, hw⟩, ?_⟩
  refine for_mir (walk_list (xs := ws)) hlen ho Iv h0 hG ?_ gname_mono hd
  intro k t s σ1 H2 x H3 o' ht hI hy hst' hr
  obtain ⟨rfl, hx'⟩ := hy
  exact hs k t x s σ1 _ o' ht hx' hI hst' hr
/-- for c in a text -/
theorem ws_forS {ρ S : Type} {n : Str} {p : Pos} {l : List Nat} (i : Nat) (nd : X.N.Nodup) (hp : PassesOwn (model X.prog X.w) X.A X.env X.xe) (hcalm : X.calm = true) (hl : EvV X σ H a (.str (Bk.S l)))
    {step : S → Nat → Option (Lp ρ S)} {s0 : S} {o : Lp ρ S} (ho : forX step l s0 = some o) (Iv : S → L2.St → Hp → Prop) (h0 : Iv s0 σ H)
    (hs : ∀ t s σ H o', t ∈ l → Iv s σ H → step s t = some o' → (∀ r, o' = .rt r → o = .rt r) →
      WSs X (σ.set i (some (.str (Bk.S [t])))) H body { nx := fun σ' H' => ∃ s', o' = .nx s' ∧ Iv s' σ' H', ct := fun σ' H' => ∃ s', o' = .nx s' ∧ Iv s' σ' H', bk := fun σ' H' => ∃ s', o' = .bk s' ∧ Iv s' σ' H', rt := D.rt })
    (hd : ∀ s σ' H', o = .nx s → Iv s σ' H' → D.nx σ' H') (hN : X.N[i]? = some n := by rfl) (hx : Loc X.env.scope n := by first | exact Or.inl rfl | exact Or.inr rfl)
    (hf : X.fn n = true ∨ X.env.scope.names.lookup n = some .local := by first | exact .inl rfl | exact .inr rfl) (hst : nSet a = true := by rfl) :
    WS X σ H (.For (.Name n p) a body [] pos) D := by
  refine WS.of (ps_for hp hcalm (pi_str pe_u) (pg_name nd hN hx hf) pss_u (fs_n hst)) ?_
  refine hl.p ⟨_, rfl, ?_⟩
  have e0 : l.length = (Bk.S l).cps.size := by simp [Bk.S]
  refine for_mir (walk_str (z := Bk.S l)) e0 ho Iv h0 (fun _ _ _ _ => trivial) ?_ gname_mono hd
  intro k t s σ1 H2 x H3 o' ht hI hy hst' hr
  obtain ⟨rfl, c, hc, rfl⟩ := hy
  have ec : c = t := by
    have e2 : (Bk.S l).cps[k]? = l[k]? := by simp [Bk.S]
    rw [e2, ht] at hc
    exact (Option.some.inj hc).symm
  subst ec
  exact hs c s σ1 _ o' (List.mem_of_getElem? ht) hI hst' hr
/-- while -/
theorem ws_while {ρ S : Type} {c : S → Option Bool} {step : S → Option (Lp ρ S)} {fuel : Nat} {s0 : S} {o : Lp ρ S} (hp : PassesOwn (model X.prog X.w) X.A X.env X.xe) (ho : whX c step fuel s0 = some o) (Iv : S → L2.St → Hp → Prop) (h0 : Iv s0 σ H)
    (hs : ∀ s σ H k, Iv s σ H → c s = some k → WT X σ H e fun k' H1 => k' = k ∧ (k = true → ∀ o', step s = some o' → (∀ r, o' = .rt r → o = .rt r) →
      WSs X σ H1 body { nx := fun σ' H' => ∃ s', o' = .nx s' ∧ Iv s' σ' H', ct := fun σ' H' => ∃ s', o' = .nx s' ∧ Iv s' σ' H', bk := fun σ' H' => ∃ s', o' = .bk s' ∧ Iv s' σ' H', rt := D.rt }) ∧ (k = false → o = .nx s → D.nx σ H1))
    (hd : ∀ s σ' H', o = .nx s → Iv s σ' H' → D.nx σ' H') : WS X σ H (.While e body [] pos) D := by
  refine WS.of (ps_while hp pt_u pss_u) ?_
  refine ⟨fun m σ H => ∃ s, Iv s σ H ∧ whX c step m s = some o, ⟨fuel, s0, h0, ho⟩, ?_⟩
  rintro m σ1 H1 ⟨s, hI, hw⟩
  cases m with
  | zero => cases hw
  | succ m =>
    unfold whX at hw
    cases hc : c s with
    | none =>
      rw [hc] at hw
      cases hw
    | some k =>
      rw [hc] at hw
      refine (hs s σ1 H1 k hI hc).mono fun k' H2 ⟨ek, hb⟩ => ?_
      subst ek
      obtain ⟨h1, h2⟩ := hb
      cases k' with
      | false => exact h2 rfl (Option.some.inj hw).symm
      | true =>
        cases hst : step s with
        | none =>
          rw [hst] at hw
          cases hw
        | some o' =>
          rw [hst] at hw
          refine ⟨fun σ' H' => ∃ s', o' = .nx s' ∧ Iv s' σ' H', fun σ' H' ⟨s', e1, q⟩ => ?_, ?_⟩
          · subst e1
            exact ⟨m, Nat.lt_succ_self m, s', q, hw⟩
          · refine WSs.imp (h1 rfl o' hst ?_) ⟨fun _ _ q => q, fun _ _ q => q, fun σ4 H4 q => ?_, fun _ _ q => q⟩
            · intro r e1
              subst e1
              exact (Option.some.inj hw).symm
            · obtain ⟨s', e1, q⟩ := q
              subst e1
              exact hd s' σ4 H4 (Option.some.inj hw).symm q
end
end Bk
namespace Bk
open PySem L2
/-! ## comprehensions -/
theorem pd_flat {β : Type} {f : β → V} : ∀ {ws : List V} {ys : List β}, Paired (fun v y => v = f y) ws ys → ws = ys.map f
  | _, _, .nil => rfl
  | _, _, .cons h r => by rw [h, pd_flat r]; rfl
theorem pd_of {β : Type} {f : β → V} : ∀ ys : List β, Paired (fun v y => v = f y) (ys.map f) ys
  | [] => .nil
  | _ :: r => .cons rfl (pd_of r)
theorem pd_snoc {β : Type} {R : V → β → Prop} {v : V} {y : β} : ∀ {ws : List V} {ys : List β}, Paired R ws ys → R v y → Paired R (ws ++ [v]) (ys ++ [y])
  | _, _, .nil, h => .cons h .nil
  | _, _, .cons a r, h => .cons a (pd_snoc r h)
theorem pd_get {β : Type} {R : V → β → Prop} : ∀ {ws : List V} {ys : List β} {i : Nat} {v : V} {y : β}, Paired R ws ys → ws[i]? = some v → ys[i]? = some y → R v y
  | _, _, 0, _, _, .cons a _, h1, h2 => by
    cases h1
    cases h2
    exact a
  | _, _, i + 1, _, _, .cons _ r, h1, h2 => pd_get (i := i) r h1 h2
  | _, _, 0, _, _, .nil, h1, _ => nomatch h1
  | _, _, i + 1, _, _, .nil, h1, _ => nomatch h1
theorem pd_getL {β : Type} {R : V → β → Prop} : ∀ {ws : List V} {ys : List β} {i : Nat} {y : β}, Paired R ws ys → ys[i]? = some y → ∃ v, ws[i]? = some v ∧ R v y
  | _, _, 0, _, .cons a _, h2 => by
    cases h2
    exact ⟨_, rfl, a⟩
  | _, _, i + 1, _, .cons _ r, h2 => pd_getL (i := i) r h2
  | _, _, 0, _, .nil, h1 => nomatch h1
  | _, _, i + 1, _, .nil, h1 => nomatch h1
theorem pd_at {β : Type} {R : V → β → Prop} {ws : List V} {ys : List β} {i : Int} {y : β} (h : Paired R ws ys) (hi : atI ys i = some y) : ∃ v, atI ws i = some v ∧ R v y := by
  unfold atI at hi ⊢
  rw [h.length]
  cases e : ixN ys.length i with
  | none =>
    rw [e] at hi
    cases hi
  | some j =>
    rw [e] at hi
    exact pd_getL h hi
theorem pd_imp {β : Type} {R R' : V → β → Prop} (k : ∀ v y, R v y → R' v y) : ∀ {ws : List V} {ys : List β}, Paired R ws ys → Paired R' ws ys
  | _, _, .nil => .nil
  | _, _, .cons a r => .cons (k _ _ a) (pd_imp k r)
section
variable {X : Cx} {σ σ' : L2.St} {H F Fe He : Hp} {e a b c elt tg iter : Expr} {es : List Expr} {pos : Pos} {v x y z : V} {Q : VK} {D : Ends} {st : Stmt} {rest body orelse : List Stmt}
abbrev bE (X : Cx) (sc : Scope) (e : Expr) : TE := fun σ H Q => ∀ (s : Shared) (H0 : Hp) (C : Addr) (cl : List (Str × Addr)) (fp : List Addr), WE (X.blk s H0 sc (compEnvC sc cl C X.env) fp) σ H e Q
abbrev bT (X : Cx) (sc : Scope) (e : Expr) : TT := fun σ H Q => ∀ (s : Shared) (H0 : Hp) (C : Addr) (cl : List (Str × Addr)) (fp : List Addr), WT (X.blk s H0 sc (compEnvC sc cl C X.env) fp) σ H e Q
theorem bE_pe {sc : Scope} {e : Expr} : ∀ (s : Shared) (H0 : Hp) (C : Addr) (cl : List (Str × Addr)) (fp : List Addr), PE (X.blk s H0 sc (compEnvC sc cl C X.env) fp) e (bE X sc e) := fun s H0 C cl fp => ⟨fun pins s' _ _ _ I h => (h s H0 C cl fp).run pins s' I⟩
theorem bT_pt {sc : Scope} {e : Expr} : ∀ (s : Shared) (H0 : Hp) (C : Addr) (cl : List (Str × Addr)) (fp : List Addr), PTs (X.blk s H0 sc (compEnvC sc cl C X.env) fp) [e] (bT X sc e) := fun s H0 C cl fp => pts_one ⟨fun pins s' _ _ _ I h => (h s H0 C cl fp).run pins s' I⟩
theorem yes_pt {sc : Scope} : ∀ (s : Shared) (H0 : Hp) (C : Addr) (cl : List (Str × Addr)) (fp : List Addr), PTs (X.blk s H0 sc (compEnvC sc cl C X.env) fp) [] tYes := fun _ _ _ _ _ => pts_nil
/-- the loop of a comprehension: its mirror goes with it -/
theorem lc_mir {α β : Type} {J : It} {n : Nat} {G : Hp → Prop} {Y : Nat → Hp → V → Hp → Prop} (w : Walk J n G Y) {f : α → Option (Option β)} {xs : List α} (hn : xs.length = n) {res : List β} (ho : lcA f xs [] = some res) (hz : xs.length < 16777216)
    (R : Hp → V → β → Prop) (Rm : ∀ (tb : TbL) F F' v y, Ex tb F F' → R F v y → R F' v y) {g : TG} {tt : TT} {te : TE} {vs : List Nat} (Sx : Ex tb F H) (hG : ∀ H', Ex tb H H' → G H')
    (hs : ∀ i t x F1 H1 H2 o', xs[i]? = some t → Stp tb F H F1 H1 → Y i H1 x H2 → f t = some o' → g x (wipe σ vs) H2 fun σ2 H3 => wipe σ2 vs = wipe σ vs ∧ tt σ2 H3 fun k H4 =>
      if k = true then te σ2 H4 fun y H5 => ∃ F5 z, Stp tb F1 H1 F5 H5 ∧ o' = some z ∧ R F5 y z else o' = none ∧ ∃ F4, Stp tb F1 H1 F4 H4)
    (gm : ∀ x σ H (R R' : L2.St → Hp → Prop), (∀ σ H, R σ H → R' σ H) → g x σ H R → g x σ H R') (tm : ∀ σ H (R R' : Bool → Hp → Prop), (∀ k H, R k H → R' k H) → tt σ H R → tt σ H R') (em : ∀ σ H (R R' : VK), (∀ k H, R k H → R' k H) → te σ H R → te σ H R')
    (hd : ∀ p F' H' ws, Stp tb F H F' H' → H p = none → F' p = none → H' p = some (.lst ws) → Paired (R F') ws res → Q (.ref p) H') :
    ∀ d, H d = none → ∃ W : Nat → Nat → Hp → Prop, (∃ m, W 0 m (upd H d (.lst []))) ∧ ∀ i m H, W i m H →
      (J.stop i H ∧ Q (.ref d) H) ∨ (J.go i H ∧ ∃ Nx : Hp → Prop, (∀ H', Nx H' → ∃ m', m' < m ∧ W (i + 1) m' H') ∧ ∀ x H', J.yld i H x H' → g x (wipe σ vs) H' fun σ2 H2 => wipe σ2 vs = wipe σ vs ∧ tt σ2 H2 fun b H3 =>
        if b = true then te σ2 H3 fun y H4 => ∃ acc, H4 d = some (.lst acc) ∧ acc.length < sizeLine ∧ Nx (upd H4 d (.lst (acc ++ [y]))) else Nx H3) := by
  intro d hd0
  refine lc_it w (D := d) (Qd := fun H' => Q (.ref d) H') (fun i H' => ∃ F' ws acc, Stp tb F H F' H' ∧ F' d = none ∧ H' d = some (.lst ws) ∧ Paired (R F') ws acc ∧ acc.length ≤ i ∧ lcA f (xs.drop i) acc = some res) ?_ ?_ ?_ ?_
  · exact ⟨F, [], [], Stp.own Sx hd0, Sx.free hd0, upd_same, .nil, Nat.le_refl _, ho⟩
  · intro i H' _ ⟨F', ws, acc, T, _⟩
    exact hG H' T.h
  · intro i x H1 H2 hi ⟨F1, ws, acc, T, f0, hw, hp, hl, hf⟩ hy
    have hx : i < xs.length := by omega
    have hc := List.getElem?_eq_getElem hx
    rw [drop_cons hc] at hf
    unfold lcA at hf
    cases hst : f xs[i] with
    | none =>
      rw [hst] at hf
      cases hf
    | some o' =>
      rw [hst] at hf
      refine gm x _ H2 _ _ (fun σ2 H3 q => ⟨q.1, ?_⟩) (hs i xs[i] x F1 H1 H2 o' hc T hy hst)
      refine tm σ2 H3 _ _ (fun k H4 q => ?_) q.2
      cases k with
      | true =>
        refine em σ2 H4 _ _ (fun y H5 q => ?_) q
        obtain ⟨F5, z, T5, e1, r5⟩ := q
        subst e1
        have hw5 := T5.h.at hw
        have f5 : F5 d = none := T5.ow hw f0
        have T' := T.trans T5
        refine ⟨ws, hw5, by rw [hp.length, sizeLine_eq]; omega, F5, ws ++ [y], acc ++ [z], T'.mut hd0 f5 hw5, f5, upd_same, pd_snoc (pd_imp (fun v y h => Rm _ F1 F5 v y T5.f h) hp) r5, ?_, hf⟩
        rw [List.length_append, List.length_singleton]
        omega
      | false =>
        obtain ⟨e1, F4, T4⟩ := q
        subst e1
        exact ⟨F4, ws, acc, T.trans T4, T4.ow hw f0, T4.h.at hw, pd_imp (fun v y h => Rm _ F1 F4 v y T4.f h) hp, by omega, hf⟩
  · intro H' ⟨F', ws, acc, T, f0, hw, hp, _, hf⟩
    rw [List.drop_eq_nil_of_le (by omega)] at hf
    have e1 : acc = res := Option.some.inj hf
    subst e1
    exact hd d F' H' ws T hd0 f0 hw hp
theorem bE_mono {sc : Scope} {e : Expr} : ∀ σ H (R R' : VK), (∀ k H, R k H → R' k H) → bE X sc e σ H R → bE X sc e σ H R' := fun _ _ _ _ k h s H0 C cl fp => (h s H0 C cl fp).mono k
theorem bT_mono {sc : Scope} {e : Expr} : ∀ σ H (R R' : Bool → Hp → Prop), (∀ k H, R k H → R' k H) → bT X sc e σ H R → bT X sc e σ H R' := fun _ _ _ _ k h s H0 C cl fp => (h s H0 C cl fp).mono k
theorem yes_mono : ∀ (σ : L2.St) H (R R' : Bool → Hp → Prop), (∀ k H, R k H → R' k H) → tYes σ H R → tYes σ H R' := fun _ _ _ _ k h => k _ _ h
/-- [elt for n in xs], xs a list: as a value -/
theorem we_lcL {α β : Type} {n : Str} {p : Pos} {sc : Scope} {own : List (Str × Nat)} {d : Addr} {ws : List V} (i : Nat) (nd : X.N.Nodup) (hcalm : X.calm = true) (hw : WE X σ H iter fun v H1 => v = .ref d ∧ H1 = H) (hq : SqL X.K H d ws) (ok : BlkOk X.N X.env.scope sc own)
    {f : α → Option (Option β)} {xs : List α} (hn : xs.length = ws.length) {res : List β} (ho : lcA f xs [] = some res) (hz : xs.length < 16777216) (R : Hp → V → β → Prop) (Rm : ∀ (tb : TbL) F F' v y, Ex tb F F' → R F v y → R F' v y) (Sx : Ex tb F H)
    (hg : ∀ (s : Shared) (H0 : Hp) (C : Addr) (cl : List (Str × Addr)) (fp : List Addr), PG (X.blk s H0 sc (compEnvC sc cl C X.env) fp) (.Name n p) (gName i))
    (hwp : ∀ x, wipe ((wipe σ (own.map (·.2))).set i (some x)) (own.map (·.2)) = wipe σ (own.map (·.2)))
    (hs : ∀ (k : Nat) t x F1 H1 o', xs[k]? = some t → ws[k]? = some x → Stp tb F H F1 H1 → f t = some o' → bE X sc elt ((wipe σ (own.map (·.2))).set i (some x)) H1 fun y H5 => ∃ F5 z, Stp tb F1 H1 F5 H5 ∧ o' = some z ∧ R F5 y z)
    (hd : ∀ p F' H' ws, Stp tb F H F' H' → H p = none → F' p = none → H' p = some (.lst ws) → Paired (R F') ws res → Q (.ref p) H') (hst : nSet iter = true := by rfl) :
    WE X σ H (.ListComp elt [⟨.Name n p, iter, [], 0⟩] sc pos) Q := by
  refine WE.of (pe_lc hcalm nd (pi_list pe_u) ok hg yes_pt bE_pe (fs_n hst)) ?_
  refine hw.mono fun v H1 ⟨e1, e2⟩ => ?_
  subst e1 e2
  refine ⟨d, rfl, ⟨ws, hq⟩, lc_mir walk_list hn ho hz R Rm Sx (fun H' q => ex_l q hq) ?_ gname_mono yes_mono bE_mono hd⟩
  intro k t x F1 H1 H2 o' ht T hy hf
  obtain ⟨rfl, hx⟩ := hy
  exact ⟨hwp x, hs k t x F1 _ o' ht hx T hf⟩
/-- .. with a test -/
theorem we_lcLt {α β : Type} {n : Str} {p : Pos} {sc : Scope} {own : List (Str × Nat)} {d : Addr} {ws : List V} (i : Nat) (nd : X.N.Nodup) (hcalm : X.calm = true) (hw : WE X σ H iter fun v H1 => v = .ref d ∧ H1 = H) (hq : SqL X.K H d ws) (ok : BlkOk X.N X.env.scope sc own)
    {f : α → Option (Option β)} {xs : List α} (hn : xs.length = ws.length) {res : List β} (ho : lcA f xs [] = some res) (hz : xs.length < 16777216) (R : Hp → V → β → Prop) (Rm : ∀ (tb : TbL) F F' v y, Ex tb F F' → R F v y → R F' v y) (Sx : Ex tb F H)
    (hg : ∀ (s : Shared) (H0 : Hp) (C : Addr) (cl : List (Str × Addr)) (fp : List Addr), PG (X.blk s H0 sc (compEnvC sc cl C X.env) fp) (.Name n p) (gName i))
    (hwp : ∀ x, wipe ((wipe σ (own.map (·.2))).set i (some x)) (own.map (·.2)) = wipe σ (own.map (·.2)))
    (hs : ∀ (k : Nat) t x F1 H1 o', xs[k]? = some t → ws[k]? = some x → Stp tb F H F1 H1 → f t = some o' → bT X sc c ((wipe σ (own.map (·.2))).set i (some x)) H1 fun k H4 => if k = true then bE X sc elt ((wipe σ (own.map (·.2))).set i (some x)) H4 fun y H5 => ∃ F5 z, Stp tb F1 H1 F5 H5 ∧ o' = some z ∧ R F5 y z else o' = none ∧ ∃ F4, Stp tb F1 H1 F4 H4)
    (hd : ∀ p F' H' ws, Stp tb F H F' H' → H p = none → F' p = none → H' p = some (.lst ws) → Paired (R F') ws res → Q (.ref p) H') (hst : nSet iter = true := by rfl) :
    WE X σ H (.ListComp elt [⟨.Name n p, iter, [c], 0⟩] sc pos) Q := by
  refine WE.of (pe_lc hcalm nd (pi_list pe_u) ok hg bT_pt bE_pe (fs_n hst)) ?_
  refine hw.mono fun v H1 ⟨e1, e2⟩ => ?_
  subst e1 e2
  refine ⟨d, rfl, ⟨ws, hq⟩, lc_mir walk_list hn ho hz R Rm Sx (fun H' q => ex_l q hq) ?_ gname_mono bT_mono bE_mono hd⟩
  intro k t x F1 H1 H2 o' ht T hy hf
  obtain ⟨rfl, hx⟩ := hy
  exact ⟨hwp x, hs k t x F1 _ o' ht hx T hf⟩
/-! ## defs -/
end
section
variable {P : Program} {w : World} {K : PySem.W.Frag} {mg : Str → Option Value} {base : Heap}
open PyProof.Rows in
theorem okW {x qual : Str} {st : Stmt} {f : Addr} {fd : FuncData} {N ps : List Str} {k : Nat} {sp : Sp} (F : Fun K x qual st f fd) (Sc : FnScope N ps (defScope st)) (len : ∀ vs H Q E, sp vs H Q E → vs.length = ps.length)
    (h : ∀ (cdv : Value) (A : Around) (outer : List Env) (s : Shared) (H : Hp) (vs : List V) (Q : VK) (E : XK), Room k (A.deeper (envOfC qual (defScope st) s.heap.objs.size f cdv)) → sp vs H Q E →
      WSs (cxOf CX0 P w K mg base N qual (defScope st) f cdv A outer s H E).nox (start N vs) H (defBody st) { nx := fun _ H' => Q .non H', rt := Q }) : FnOk P w K mg base CX0 (k + 1) f fd ps sp :=
  F.ok Sc len fun cdv A outer s H vs Q E hr hsp => ⟨_, pss_u, h cdv A outer s H vs Q E hr hsp⟩
end
end Bk
namespace Bk
open PySem L2
/-! ## what stands for what -/
abbrev nV : Unit → V := fun _ => .non
abbrev fl {α : Type} (f : α → V) : Hp → V → α → Prop := fun _ v y => v = f y
def rLf {α : Type} (f : α → V) : Hp → V → List α → Prop := fun F v xs => ∃ d, v = .ref d ∧ F d = some (.lst (xs.map f))
def rL {α : Type} (R : Hp → V → α → Prop) : Hp → V → List α → Prop := fun F v xs => ∃ d ws, v = .ref d ∧ F d = some (.lst ws) ∧ Paired (R F) ws xs
def rScr (K : PySem.W.Frag) : Hp → V → List Int → Prop := fun F v xs => ∃ d, v = .ref d ∧ SqL K F d (xs.map V.int)
def rT2 {α β : Type} (R1 : Hp → V → α → Prop) (R2 : Hp → V → β → Prop) : Hp → V → α × β → Prop := fun F v x => ∃ d a b, v = .ref d ∧ F d = some (.tup [a, b]) ∧ R1 F a x.1 ∧ R2 F b x.2
def rT3 {α β γ : Type} (R1 : Hp → V → α → Prop) (R2 : Hp → V → β → Prop) (R3 : Hp → V → γ → Prop) : Hp → V → α × β × γ → Prop := fun F v x => ∃ d a b c, v = .ref d ∧ F d = some (.tup [a, b, c]) ∧ R1 F a x.1 ∧ R2 F b x.2.1 ∧ R3 F c x.2.2
def rO {α : Type} (R : Hp → V → α → Prop) : Hp → V → Option α → Prop := fun F v o => match o with
  | none => v = .non
  | some x => R F v x
def rDi {β : Type} (f : β → V) : Hp → V → List (Int × β) → Prop := fun F v kvs => ∃ d, v = .ref d ∧ F d = some (.dK (kvs.map fun p => (Sum.inl p.1, f p.2)))
def rDs {β : Type} (f : β → V) : Hp → V → List (List Nat × β) → Prop := fun F v kvs => ∃ d, v = .ref d ∧ F d = some (.dK (kvs.map fun p => (Sum.inr (S p.1), f p.2)))
abbrev Mn {α : Type} (R : Hp → V → α → Prop) : Prop := ∀ (tb : TbL) F F' v y, Ex tb F F' → R F v y → R F' v y
theorem mn_fl {α : Type} {f : α → V} : Mn (fl f) := fun _ _ _ _ _ _ h => h
theorem mn_rLf {α : Type} {f : α → V} : Mn (rLf f) := fun _ _ _ _ _ e ⟨d, h1, h2⟩ => ⟨d, h1, e.at h2⟩
theorem mn_rL {α : Type} {R : Hp → V → α → Prop} (m : Mn R) : Mn (rL R) := fun _ _ _ _ _ e ⟨d, ws, h1, h2, h3⟩ => ⟨d, ws, h1, e.at h2, pd_imp (fun v y h => m _ _ _ v y e h) h3⟩
theorem mn_rScr {K : PySem.W.Frag} : Mn (rScr K) := fun _ _ _ _ _ e ⟨d, h1, h2⟩ => ⟨d, h1, ex_l e h2⟩
theorem mn_rT2 {α β : Type} {R1 : Hp → V → α → Prop} {R2 : Hp → V → β → Prop} (m1 : Mn R1) (m2 : Mn R2) : Mn (rT2 R1 R2) := fun _ _ _ _ _ e ⟨d, a, b, h1, h2, h3, h4⟩ => ⟨d, a, b, h1, e.at h2, m1 _ _ _ _ _ e h3, m2 _ _ _ _ _ e h4⟩
theorem mn_rT3 {α β γ : Type} {R1 : Hp → V → α → Prop} {R2 : Hp → V → β → Prop} {R3 : Hp → V → γ → Prop} (m1 : Mn R1) (m2 : Mn R2) (m3 : Mn R3) : Mn (rT3 R1 R2 R3) :=
  fun _ _ _ _ _ e ⟨d, a, b, c, h1, h2, h3, h4, h5⟩ => ⟨d, a, b, c, h1, e.at h2, m1 _ _ _ _ _ e h3, m2 _ _ _ _ _ e h4, m3 _ _ _ _ _ e h5⟩
theorem mn_rO {α : Type} {R : Hp → V → α → Prop} (m : Mn R) : Mn (rO R) := fun _ _ _ _ o e h => match o, h with
  | none, h => h
  | some _, h => m _ _ _ _ _ e h
theorem mn_rDi {β : Type} {f : β → V} : Mn (rDi f) := fun _ _ _ _ _ e ⟨d, h1, h2⟩ => ⟨d, h1, e.at h2⟩
theorem mn_rDs {β : Type} {f : β → V} : Mn (rDs f) := fun _ _ _ _ _ e ⟨d, h1, h2⟩ => ⟨d, h1, e.at h2⟩
/-- a new list: its caller's own -/
def nLf {α : Type} (f : α → V) (H F' H' : Hp) (v : V) (xs : List α) : Prop := ∃ d, v = .ref d ∧ H d = none ∧ F' d = none ∧ H' d = some (.lst (xs.map f))
def nL {α : Type} (R : Hp → V → α → Prop) (H F' H' : Hp) (v : V) (xs : List α) : Prop := ∃ d ws, v = .ref d ∧ H d = none ∧ F' d = none ∧ H' d = some (.lst ws) ∧ Paired (R F') ws xs
theorem Stp.ofH {F H H' : Hp} (Sx : Ex tb F H) (e : Ex tb H H') : Stp tb F H F H' := ⟨.refl _, e, Sx.trans e, fun _ _ h => .inl h⟩
theorem Stp.fz {F H F' H' : Hp} {p : Addr} {o : HO} (s : Stp tb F H F' H') (hn : H p = none) (hf : F' p = none) (ho : H' p = some o) (n : pO o = true := by rfl) : ∃ F2, Stp tb F H F2 H' ∧ Ex tb F' F2 ∧ F2 p = some o := ⟨_, s.give hn hf ho n, Ex.new hf, upd_same⟩
theorem sz_le {n : Nat} (h : n ≤ 16777216) : n ≤ sizeLine := by rw [sizeLine_eq]; exact h
theorem sz_lt {n : Nat} (h : n < 16777216) : n < sizeLine := by rw [sizeLine_eq]; exact h
theorem fin1 {β : Type} {H H' : Hp} {Q : VK} {f : β → V} {r e : β} (k : ∀ H', Ex tb H H' → Q (f r) H') (h : e = r) (x : Ex tb H H') : Q (f e) H' := h ▸ k H' x
section
variable {X : Cx} {σ σ' : L2.St} {H F Fe He : Hp} {e a b c : Expr} {es : List Expr} {pos : Pos} {v x y z : V} {Q : VK} {D : Ends} {st : Stmt} {rest body orelse : List Stmt}
theorem ev_tms {l : List Nat} {n : Int} (ha : EvV X σ H a (.str (S l))) (hb : EvV X σ H b (.int n)) (hc : CTms l n) : EvV X σ H (.BinOp a .Mult b pos) (.str (S (tms l n))) := ev_op op_tms ha hb ⟨l, n, rfl, rfl, hc, rfl, rfl⟩
theorem q_tup {k} {xs : List V} (Sx : Ex tb F H) (h : EvA X σ H es xs) (hl : xs.length ≤ sizeLine) (q : ∀ p F' H', Stp tb F H F' H' → F' p = some (.tup xs) → Q (.ref p) H') : WE X σ H (.Tuple es k pos) Q :=
  we_tupP h hl fun p hp => q p _ _ (Stp.frz Sx hp) upd_same
theorem q_lsto {xs : List V} (Sx : Ex tb F H) (h : EvA X σ H es xs) (hl : xs.length ≤ sizeLine) (q : ∀ p H', Stp tb F H F H' → H p = none → H' p = some (.lst xs) → Q (.ref p) H') : WE X σ H (.List es pos) Q :=
  we_lstP h hl fun p hp => q p _ (Stp.own Sx hp) hp upd_same
theorem q_slLo {p : Addr} {xs : List V} {lo hi : Option Expr} {i j : Option Int} {p2 : Pos} (Sx : Ex tb F H) (ha : EvV X σ H a (.ref p)) (h1 : EvO X σ H lo i) (h2 : EvO X σ H hi j) (hp : SqL X.K H p xs) (q : ∀ d H', Stp tb F H F H' → H d = none → H' d = some (.lst (cutV xs i j)) → Q (.ref d) H') :
    WE X σ H (.Subscript a (.Slice lo hi none p2) pos) Q := we_slL ha h1 h2 hp fun d hd => q d _ (Stp.own Sx hd) hd upd_same
theorem q_tix {k} {xs : List V} {p2 : Pos} (Sx : Ex tb F H) (h : EvA X σ H es xs) (hl : xs.length ≤ sizeLine) (hs : nSlice b = true) (q : ∀ p F1 H1, Stp tb F H F1 H1 → F1 p = some (.tup xs) → WE X σ H1 b fun y H2 => ∃ i F2, y = .int i ∧ Stp tb F1 H1 F2 H2 ∧ ∃ v, atI xs i = some v ∧ Q v H2) :
    WE X σ H (.Subscript (.Tuple es k p2) b pos) Q := WE.of (pe_ix ix_tup pe_u pe_u (ix_n hs)) (q_tup Sx h hl fun p F1 H1 s1 hp => (q p F1 H1 s1 hp).mono fun y H2 ⟨i, F2, e1, s2, v, e2, q⟩ => ⟨p, xs, i, v, rfl, e1, st_of (s2.h.at (s1.s.at hp)), e2, q⟩)
/-- effectful operands -/
theorem we_op2 {op : Operator} {r : R2} (ho : OpR X (binaryOp op) r) (h : WE X σ H a fun x H1 => WE X σ H1 b fun y H2 => r x y H2 Q) : WE X σ H (.BinOp a op b pos) Q := WE.of (pe_op ho pe_u pe_u) h
theorem we_cmp2 {op : CmpOp} {r : R2} (ho : OpR X (compareOp op) r) (hm : behindInMarks op b = false) (h : WE X σ H a fun x H1 => WE X σ H1 b fun y H2 => r x y H2 Q) : WE X σ H (.Compare a [op] [b] pos) Q := WE.of (pe_cmpR ho pe_u pe_u hm) h
theorem wt_cmp2 {op : CmpOp} {r : R2} {Q : Bool → Hp → Prop} (ho : OpR X (compareOp op) r) (hm : behindInMarks op b = false) (h : WE X σ H a fun x H1 => WE X σ H1 b fun y H2 => r x y H2 fun z H3 => ∃ k, z = .bl k ∧ Q k H3) : WT X σ H (.Compare a [op] [b] pos) Q := WT.of (pt_cmpR ho pe_u pe_u hm) h
theorem wt_val {Q : Bool → Hp → Prop} (h : WE X σ H e fun v H1 => ∃ k, v = .bl k ∧ Q k H1) (he : ∀ whole, isTrue e X.env whole = (do let v ← whole; standAt e.pos; holding [v] (truthy v)) := by intro _; rfl) : WT X σ H e Q :=
  WT.of (pt_truth pe_u he) (h.mono fun v H1 ⟨k, e1, q⟩ => ⟨k, by subst e1; exact ⟨rfl, q⟩⟩)
theorem wt_not {Q : Bool → Hp → Prop} (h : WT X σ H a fun k H1 => Q (!k) H1) : WT X σ H (.UnaryOp .Not a pos) Q := WT.of (pt_not pt_u) h
theorem we_not (h : WE X σ H a fun v H1 => ∃ k, v = .bl k ∧ Q (.bl (!k)) H1) : WE X σ H (.UnaryOp .Not a pos) Q := WE.of (pe_not pe_u) h
theorem ww_and1 {Q : Bool → Hp → Prop} (h : WT X σ H a Q) : WW X σ H (.BoolOp .And [a] pos) Q := WW.of (pw_and1 pt_u) h
theorem ww_or1 {Q : Bool → Hp → Prop} (h : WT X σ H a Q) : WW X σ H (.BoolOp .Or [a] pos) Q := WW.of (pw_or1 pt_u) h
theorem ww_and {r : List Expr} {Q : Bool → Hp → Prop} (h : WT X σ H a fun k H1 => if k = true then WW X σ H1 (.BoolOp .And (b :: r) pos) Q else Q false H1) : WW X σ H (.BoolOp .And (a :: b :: r) pos) Q := WW.of (pw_and pt_u pw_u) h
theorem ww_or {r : List Expr} {Q : Bool → Hp → Prop} (h : WT X σ H a fun k H1 => if k = true then Q true H1 else WW X σ H1 (.BoolOp .Or (b :: r) pos) Q) : WW X σ H (.BoolOp .Or (a :: b :: r) pos) Q := WW.of (pw_or pt_u pw_u) h
theorem we_and1 (h : WE X σ H a Q) : WE X σ H (.BoolOp .And [a] pos) Q := WE.of (pe_one pe_u) h
theorem we_or1 (h : WE X σ H a Q) : WE X σ H (.BoolOp .Or [a] pos) Q := WE.of (pe_one pe_u) h
theorem we_and {r : List Expr} (h : WE X σ H a fun v H1 => ∃ k, v = .bl k ∧ if k = true then WE X σ H1 (.BoolOp .And (b :: r) pos) Q else Q (.bl false) H1) : WE X σ H (.BoolOp .And (a :: b :: r) pos) Q := WE.of (pe_and pe_u pe_u) h
theorem we_or {r : List Expr} (h : WE X σ H a fun v H1 => ∃ k, v = .bl k ∧ if k = true then Q (.bl true) H1 else WE X σ H1 (.BoolOp .Or (b :: r) pos) Q) : WE X σ H (.BoolOp .Or (a :: b :: r) pos) Q := WE.of (pe_or pe_u pe_u) h
theorem ite_of {k : Bool} {A B : Prop} (h1 : k = true → A) (h2 : k = false → B) : if k = true then A else B := by
  cases k with
  | true => exact h1 rfl
  | false => exact h2 rfl
/-- the mirror's and, or -/
theorem it_tt {α : Type} {x y : α} : it true x y = x := rfl
theorem it_ff {α : Type} {x y : α} : it false x y = y := rfl
theorem ew_andM {r : List Expr} {k d : Bool} {m : Option Bool} (hm : it k m (some false) = some d) (h : EvB X σ H a k) (hr : k = true → m = some d → EvW X σ H (.BoolOp .And (b :: r) pos) d) : EvW X σ H (.BoolOp .And (a :: b :: r) pos) d := by
  cases k with
  | true => exact (ew_and h fun _ => hr rfl hm).is' (Bool.true_and d)
  | false =>
    cases hm
    exact (ew_and (d := true) h fun z => nomatch z).is' rfl
theorem ew_orM {r : List Expr} {k d : Bool} {m : Option Bool} (hm : it k (some true) m = some d) (h : EvB X σ H a k) (hr : k = false → m = some d → EvW X σ H (.BoolOp .Or (b :: r) pos) d) : EvW X σ H (.BoolOp .Or (a :: b :: r) pos) d := by
  cases k with
  | true =>
    cases hm
    exact (ew_or (d := true) h fun z => nomatch z).is' rfl
  | false => exact (ew_or h fun _ => hr rfl hm).is' (Bool.false_or d)
end
end Bk
namespace Bk
open PySem L2
/-- what is walked: its items xs, what a turn yields (Yd), what must stay true of the heap meanwhile (Kp) -/
structure Src (X : Cx) (σ : L2.St) (H : Hp) (tg iter : Expr) {α : Type} (xs : List α) (Yd : α → Hp → V → Hp → Prop) (Kp : Hp → Prop) (H0 : Hp) : Prop where
  ex : ∃ (wi : TI) (J : It) (n : Nat) (G : Hp → Prop) (Y : Nat → Hp → V → Hp → Prop), PI X tg iter wi ∧ Walk J n G Y ∧ xs.length = n ∧ (∀ R, R J H0 → wi σ H R) ∧ (∀ H', Kp H' → G H') ∧ ∀ i t x H1 H2, xs[i]? = some t → Y i H1 x H2 → Yd t H1 x H2
abbrev Yf {α : Type} (f : α → V) : α → Hp → V → Hp → Prop := fun t H1 x H2 => H1 = H2 ∧ x = f t
abbrev Yr {α : Type} (R : Hp → V → α → Prop) (F : Hp) : α → Hp → V → Hp → Prop := fun t H1 x H2 => H1 = H2 ∧ R F x t
/-- a new tuple of two -/
abbrev Yp {α β : Type} (R1 : V → α → Prop) (R2 : V → β → Prop) : α × β → Hp → V → Hp → Prop := fun t H1 x H2 => ∃ d a b, x = .ref d ∧ H1 d = none ∧ H2 = upd H1 d (.tup [a, b]) ∧ R1 a t.1 ∧ R2 b t.2
abbrev Kt : Hp → Prop := fun _ => True
section
variable {X : Cx} {σ σ' : L2.St} {H H0 F Fe He : Hp} {e a b c elt tg iter : Expr} {es : List Expr} {pos : Pos} {v x y z : V} {Q : VK} {D : Ends} {st : Stmt} {rest body orelse : List Stmt}
theorem src_Lf {α : Type} {f : α → V} {d : Addr} {xs : List α} (h : EvV X σ H iter (.ref d)) (hw : SqL X.K H d (xs.map f)) : Src X σ H tg iter xs (Yf f) (fun H' => SqL X.K H' d (xs.map f)) H :=
  ⟨_, _, _, _, _, pi_list pe_u, walk_list, by simp, fun R q => h.p ⟨d, rfl, ⟨_, hw⟩, q⟩, fun _ k => k, fun i t x H1 H2 ht hy => ⟨hy.1.symm, by
    obtain ⟨c, h1, h2⟩ := map_get hy.2
    rw [ht] at h1
    cases h1
    exact h2⟩⟩
theorem src_Lr {α : Type} {R : Hp → V → α → Prop} {d : Addr} {ws : List V} {xs : List α} (h : EvV X σ H iter (.ref d)) (hw : SqL X.K H d ws) (hp : Paired (R F) ws xs) : Src X σ H tg iter xs (Yr R F) (fun H' => SqL X.K H' d ws) H :=
  ⟨_, _, _, _, _, pi_list pe_u, walk_list, hp.length.symm, fun R q => h.p ⟨d, rfl, ⟨_, hw⟩, q⟩, fun _ k => k, fun i t x H1 H2 ht hy => ⟨hy.1.symm, pd_get hp hy.2 ht⟩⟩
theorem src_S {l : List Nat} (h : EvV X σ H iter (.str (S l))) : Src X σ H tg iter l (Yf fun t => .str (S [t])) Kt H :=
  ⟨_, _, _, _, _, pi_str pe_u, walk_str, by simp [S], fun R q => h.p ⟨_, rfl, q⟩, fun _ _ => trivial, fun i t x H1 H2 ht hy => ⟨hy.1.symm, by
    obtain ⟨c, h1, h2⟩ := hy.2
    have e2 : (S l).cps[i]? = l[i]? := by simp [S]
    rw [e2, ht] at h1
    cases h1
    exact h2⟩⟩
def CRng (lo hi : Int) : Prop := -(2 ^ 62) ≤ lo ∧ lo < 2 ^ 62 ∧ -(2 ^ 62) ≤ hi ∧ hi < 2 ^ 62
instance (lo hi : Int) : Decidable (CRng lo hi) := by unfold CRng; infer_instance
theorem src_R1 {n : Str} {p p3 : Pos} {hi : Int} (h : EvV X σ H a (.int hi)) (hb : CRng 0 hi) (hm : X.mg n = none) (hn : n = "range" := by rfl) (hg : Gl X n := by rfl) (hs : nStar a = true := by rfl) : Src X σ H tg (.Call (.Name n p) [a] [] p3) (rng 0 hi) (Yf V.int) Kt H := by
  subst hn
  refine ⟨_, _, _, _, _, pi_range1 hg hm pa_u (star_1 hs), walk_range, ?_, fun R q => wa_consP h (wa_nil ⟨hi, rfl, hb.2.2.1, hb.2.2.2, q⟩) hs, fun _ _ => trivial, fun i t x H1 H2 ht hy => ⟨hy.1.symm, ?_⟩⟩
  · rw [rng_len, Int.sub_zero]
  · have hk := (List.getElem?_eq_some_iff.mp ht).1
    rw [rng_len] at hk
    rw [rng_get hk] at ht
    cases ht
    exact hy.2
theorem src_R2 {n : Str} {p p3 : Pos} {lo hi : Int} (h : EvA X σ H [a, b] [.int lo, .int hi]) (hb : CRng lo hi) (hm : X.mg n = none) (hn : n = "range" := by rfl) (hg : Gl X n := by rfl) (hs : nStar a = true := by rfl) (hs2 : nStar b = true := by rfl) :
    Src X σ H tg (.Call (.Name n p) [a, b] [] p3) (rng lo hi) (Yf V.int) Kt H := by
  subst hn
  refine ⟨_, _, _, _, _, pi_range2 hg hm pa_u (star_2 hs hs2) (star_1 hs2), walk_range, ?_, fun R q => h.p ⟨lo, hi, rfl, hb, q⟩, fun _ _ => trivial, fun i t x H1 H2 ht hy => ⟨hy.1.symm, ?_⟩⟩
  · rw [rng_len]
  · have hk := (List.getElem?_eq_some_iff.mp ht).1
    rw [rng_len] at hk
    rw [rng_get hk] at ht
    cases ht
    exact hy.2
/-- the numbers beside the items -/
def enumI {α : Type} (xs : List α) : List (Int × α) := ((List.range xs.length).map fun (i : Nat) => (i : Int)).zip xs
theorem enumI_len {α : Type} (xs : List α) : (enumI xs).length = xs.length := by simp [enumI]
theorem enumI_get {α : Type} {xs : List α} {i : Nat} {t : Int × α} (h : (enumI xs)[i]? = some t) : t.1 = (i : Int) ∧ xs[i]? = some t.2 := by
  unfold enumI at h
  rw [List.getElem?_zip_eq_some] at h
  obtain ⟨h1, h2⟩ := h
  rw [List.getElem?_map] at h1
  by_cases hi : i < xs.length
  · rw [List.getElem?_range hi] at h1
    exact ⟨(Option.some.inj h1).symm, h2⟩
  · rw [List.getElem?_eq_none (by omega)] at h2
    cases h2
theorem src_Ef {α : Type} {f : α → V} {n : Str} {p p3 tp : Pos} {d : Addr} {xs : List α} {elts : List Expr} {kk : Nat} (h : EvV X σ H a (.ref d)) (hw : SqL X.K H d (xs.map f)) (hm : X.mg n = none) (hn : n = "enumerate" := by rfl) (hg : Gl X n := by rfl) (hs : nStar a = true := by rfl) :
    Src X σ H (.Tuple elts kk tp) (.Call (.Name n p) [a] [] p3) (enumI xs) (Yp (fun v (t : Int) => v = .int t) (fun v y => v = f y)) (fun H' => SqL X.K H' d (xs.map f)) H := by
  subst hn
  refine ⟨_, _, _, _, _, pi_enum hg hm pa_u (star_1 hs), walk_enum, ?_, fun R q => wa_consP h (wa_nil ⟨d, _, rfl, hw, q⟩) hs, fun _ k => k, fun i t x H1 H2 ht hy => ?_⟩
  · rw [enumI_len]
    simp
  · obtain ⟨T, u, w, h1, h2, h3, h4, h5⟩ := hy
    obtain ⟨e1, e2⟩ := enumI_get ht
    obtain ⟨y, g1, g2⟩ := map_get h5
    rw [e2] at g1
    cases g1
    cases h4
    exact ⟨T, _, w, h1, h2, h3, by rw [e1], g2⟩
/-- a for -/
theorem ws_forG {α ρ S : Type} {xs : List α} {Yd : α → Hp → V → Hp → Prop} {Kp : Hp → Prop} (src : Src X σ H tg iter xs Yd Kp H0) {g : TG} (hg : PG X tg g) (gm : ∀ x σ H (R R' : L2.St → Hp → Prop), (∀ σ H, R σ H → R' σ H) → g x σ H R → g x σ H R')
    (hp : PassesOwn (model X.prog X.w) X.A X.env X.xe) (hcalm : X.calm = true) {step : S → α → Option (Lp ρ S)} {s0 : S} {o : Lp ρ S} (ho : forX step xs s0 = some o) (Iv : S → L2.St → Hp → Prop) (h0 : Iv s0 σ H0) (hG : ∀ s σ H, Iv s σ H → Kp H)
    (hs : ∀ t s σ H x H' o', t ∈ xs → Iv s σ H → Yd t H x H' → step s t = some o' → (∀ r, o' = .rt r → o = .rt r) →
      g x σ H' fun σ2 H2 => WSs X σ2 H2 body { nx := fun σ' H' => ∃ s', o' = .nx s' ∧ Iv s' σ' H', ct := fun σ' H' => ∃ s', o' = .nx s' ∧ Iv s' σ' H', bk := fun σ' H' => ∃ s', o' = .bk s' ∧ Iv s' σ' H', rt := D.rt })
    (hd : ∀ s σ' H', o = .nx s → Iv s σ' H' → D.nx σ' H') (hst : nSet iter = true := by rfl) : WS X σ H (.For tg iter body [] pos) D := by
  obtain ⟨wi, J, n, G, Y, hpi, w, hn, hwi, hk, hy⟩ := src.ex
  refine WS.of (ps_for hp hcalm hpi hg pss_u (fs_n hst)) (hwi _ (for_mir w hn ho Iv h0 (fun s σ H i => hk H (hG s σ H i)) ?_ gm hd))
  intro i t s σ1 H1 x H2 o' ht hI hyy hst' hr
  exact hs t s σ1 H1 x H2 o' (List.mem_of_getElem? ht) hI (hy i t x H1 H2 ht hyy) hst' hr
theorem forX_of {α ρ S : Type} {f : S → α → Option S} : ∀ {xs : List α} {s0 s1 : S}, forS f xs s0 = some s1 → forX (ρ := ρ) (fun s t => match f s t with | none => none | some s' => some (.nx s')) xs s0 = some (.nx s1)
  | [], s0, s1, h => by
    cases h
    rfl
  | x :: xs, s0, s1, h => by
    unfold forS at h
    unfold forX
    cases e : f s0 x with
    | none =>
      rw [e] at h
      cases h
    | some s' =>
      rw [e] at h
      exact forX_of h
/-- a for without return and break -/
theorem ws_forGS {α S : Type} {xs : List α} {Yd : α → Hp → V → Hp → Prop} {Kp : Hp → Prop} (src : Src X σ H tg iter xs Yd Kp H0) {g : TG} (hg : PG X tg g) (gm : ∀ x σ H (R R' : L2.St → Hp → Prop), (∀ σ H, R σ H → R' σ H) → g x σ H R → g x σ H R')
    (hp : PassesOwn (model X.prog X.w) X.A X.env X.xe) (hcalm : X.calm = true) {step : S → α → Option S} {s0 s1 : S} (ho : forS step xs s0 = some s1) (Iv : S → L2.St → Hp → Prop) (h0 : Iv s0 σ H0) (hG : ∀ s σ H, Iv s σ H → Kp H)
    (hs : ∀ t s σ H x H' s', t ∈ xs → Iv s σ H → Yd t H x H' → step s t = some s' →
      g x σ H' fun σ2 H2 => WSs X σ2 H2 body { nx := fun σ' H' => Iv s' σ' H', ct := fun σ' H' => Iv s' σ' H', rt := D.rt })
    (hd : ∀ σ' H', Iv s1 σ' H' → D.nx σ' H') (hst : nSet iter = true := by rfl) : WS X σ H (.For tg iter body [] pos) D := by
  refine ws_forG (ρ := Unit) src hg gm hp hcalm (forX_of ho) Iv h0 hG ?_ (fun s σ' H' e1 i => ?_) hst
  · intro t s σ1 H1 x H2 o' ht hI hy hst' _
    cases e1 : step s t with
    | none =>
      rw [e1] at hst'
      cases hst'
    | some s' =>
      rw [e1] at hst'
      cases hst'
      have q0 := hs t s σ1 H1 x H2 s' ht hI hy e1
      refine gm x σ1 H2 _ _ ?_ q0
      intro σ2 H3 q
      exact WSs.imp q ⟨fun _ _ q => ⟨s', rfl, q⟩, fun _ _ q => q, fun _ _ q => q.elim, fun _ _ q => ⟨s', rfl, q⟩⟩
  · cases e1
    exact hd σ' H' i
theorem ws_whileS {S : Type} {c : S → Option Bool} {step : S → Option S} {fuel : Nat} {s0 s1 : S} (hp : PassesOwn (model X.prog X.w) X.A X.env X.xe) (ho : whS c step fuel s0 = some s1) (Iv : S → L2.St → Hp → Prop) (h0 : Iv s0 σ H)
    (hs : ∀ s σ H k, Iv s σ H → c s = some k → WT X σ H e fun k' H1 => k' = k ∧ (k = true → ∀ s', step s = some s' → WSs X σ H1 body { nx := fun σ' H' => Iv s' σ' H', ct := fun σ' H' => Iv s' σ' H', rt := D.rt }) ∧ (k = false → s = s1 → D.nx σ H1)) : WS X σ H (.While e body [] pos) D := by
  refine WS.of (ps_while hp pt_u pss_u) ?_
  refine ⟨fun m σ H => ∃ s, Iv s σ H ∧ whS c step m s = some s1, ⟨fuel, s0, h0, ho⟩, ?_⟩
  rintro m σ1 H1 ⟨s, hI, hw⟩
  cases m with
  | zero => cases hw
  | succ m =>
    unfold whS at hw
    cases hc : c s with
    | none =>
      rw [hc] at hw
      cases hw
    | some k =>
      rw [hc] at hw
      refine (hs s σ1 H1 k hI hc).mono fun k' H2 ⟨ek, hb⟩ => ?_
      subst ek
      obtain ⟨h1, h2⟩ := hb
      cases k' with
      | false => exact h2 rfl (Option.some.inj hw)
      | true =>
        cases hst : step s with
        | none =>
          rw [hst] at hw
          cases hw
        | some s' =>
          rw [hst] at hw
          have q0 := h1 rfl s' hst
          exact ⟨fun σ' H' => Iv s' σ' H', fun σ' H' q => ⟨m, Nat.lt_succ_self m, s', q, hw⟩, WSs.imp q0 ⟨fun _ _ q => q, fun _ _ q => q, fun _ _ q => q.elim, fun _ _ q => q⟩⟩
/-- a comprehension -/
theorem we_lcG {α β : Type} {sc : Scope} {own : List (Str × Nat)} {xs : List α} {Yd : α → Hp → V → Hp → Prop} {Kp : Hp → Prop} (src : Src X σ H tg iter xs Yd Kp H0) {g : TG} (gm : ∀ x σ H (R R' : L2.St → Hp → Prop), (∀ σ H, R σ H → R' σ H) → g x σ H R → g x σ H R')
    (nd : X.N.Nodup) (hcalm : X.calm = true) (ok : BlkOk X.N X.env.scope sc own) {f : α → Option (Option β)} {res : List β} (ho : lcA f xs [] = some res) (hz : xs.length ≤ 16777215) (R : Hp → V → β → Prop) (Rm : Mn R) (Sx : Ex tb F H0) (hG : ∀ H', Ex tb H0 H' → Kp H')
    (hg : ∀ (s : Shared) (H0 : Hp) (C : Addr) (cl : List (Str × Addr)) (fp : List Addr), PG (X.blk s H0 sc (compEnvC sc cl C X.env) fp) tg g)
    (hs : ∀ t x F1 H1 H2 o', t ∈ xs → Stp tb F H0 F1 H1 → Yd t H1 x H2 → f t = some o' → g x (wipe σ (own.map (·.2))) H2 fun σ2 H3 => wipe σ2 (own.map (·.2)) = wipe σ (own.map (·.2)) ∧ bE X sc elt σ2 H3 fun y H5 => ∃ F5 z, Stp tb F1 H1 F5 H5 ∧ o' = some z ∧ R F5 y z)
    (hd : ∀ p F' H' ws, Stp tb F H0 F' H' → H0 p = none → F' p = none → H' p = some (.lst ws) → Paired (R F') ws res → Q (.ref p) H') (hst : nSet iter = true := by rfl) :
    WE X σ H (.ListComp elt [⟨tg, iter, [], 0⟩] sc pos) Q := by
  obtain ⟨wi, J, n, G, Y, hpi, w, hn, hwi, hk, hy⟩ := src.ex
  refine WE.of (pe_lc hcalm nd hpi ok hg yes_pt bE_pe (fs_n hst)) (hwi _ (lc_mir w hn ho (by omega) R Rm Sx (fun H' q => hk H' (hG H' q)) ?_ gm yes_mono bE_mono hd))
  intro i t x F1 H1 H2 o' ht T hyy hf
  exact hs t x F1 H1 H2 o' (List.mem_of_getElem? ht) T (hy i t x H1 H2 ht hyy) hf
theorem we_lcGt {α β : Type} {sc : Scope} {own : List (Str × Nat)} {xs : List α} {Yd : α → Hp → V → Hp → Prop} {Kp : Hp → Prop} (src : Src X σ H tg iter xs Yd Kp H0) {g : TG} (gm : ∀ x σ H (R R' : L2.St → Hp → Prop), (∀ σ H, R σ H → R' σ H) → g x σ H R → g x σ H R')
    (nd : X.N.Nodup) (hcalm : X.calm = true) (ok : BlkOk X.N X.env.scope sc own) {f : α → Option (Option β)} {res : List β} (ho : lcA f xs [] = some res) (hz : xs.length ≤ 16777215) (R : Hp → V → β → Prop) (Rm : Mn R) (Sx : Ex tb F H0) (hG : ∀ H', Ex tb H0 H' → Kp H')
    (hg : ∀ (s : Shared) (H0 : Hp) (C : Addr) (cl : List (Str × Addr)) (fp : List Addr), PG (X.blk s H0 sc (compEnvC sc cl C X.env) fp) tg g)
    (hs : ∀ t x F1 H1 H2 o', t ∈ xs → Stp tb F H0 F1 H1 → Yd t H1 x H2 → f t = some o' → g x (wipe σ (own.map (·.2))) H2 fun σ2 H3 => wipe σ2 (own.map (·.2)) = wipe σ (own.map (·.2)) ∧ bT X sc c σ2 H3 fun k H4 =>
      if k = true then bE X sc elt σ2 H4 fun y H5 => ∃ F5 z, Stp tb F1 H1 F5 H5 ∧ o' = some z ∧ R F5 y z else o' = none ∧ ∃ F4, Stp tb F1 H1 F4 H4)
    (hd : ∀ p F' H' ws, Stp tb F H0 F' H' → H0 p = none → F' p = none → H' p = some (.lst ws) → Paired (R F') ws res → Q (.ref p) H') (hst : nSet iter = true := by rfl) :
    WE X σ H (.ListComp elt [⟨tg, iter, [c], 0⟩] sc pos) Q := by
  obtain ⟨wi, J, n, G, Y, hpi, w, hn, hwi, hk, hy⟩ := src.ex
  refine WE.of (pe_lc hcalm nd hpi ok hg bT_pt bE_pe (fs_n hst)) (hwi _ (lc_mir w hn ho (by omega) R Rm Sx (fun H' q => hk H' (hG H' q)) ?_ gm bT_mono bE_mono hd))
  intro i t x F1 H1 H2 o' ht T hyy hf
  exact hs t x F1 H1 H2 o' (List.mem_of_getElem? ht) T (hy i t x H1 H2 ht hyy) hf
theorem gtup_mono {K : PySem.W.Frag} {n : Nat} {u : TGs} (hu : ∀ xs σ H (R R' : L2.St → Hp → Prop), (∀ σ H, R σ H → R' σ H) → u xs σ H R → u xs σ H R') : ∀ (x : V) (σ : L2.St) (H : Hp) (R R' : L2.St → Hp → Prop), (∀ σ H, R σ H → R' σ H) → gTup K n u x σ H R → gTup K n u x σ H R' :=
  fun _ _ _ _ _ k ⟨a, xs, h1, h2, h3, h⟩ => ⟨a, xs, h1, h2, h3, hu _ _ _ _ _ k h⟩
theorem gnil_mono : ∀ (xs : List V) (σ : L2.St) (H : Hp) (R R' : L2.St → Hp → Prop), (∀ σ H, R σ H → R' σ H) → gNil xs σ H R → gNil xs σ H R' := fun _ _ _ _ _ k ⟨h, q⟩ => ⟨h, k _ _ q⟩
theorem gcons_mono {g : TG} {u : TGs} (hg : ∀ x σ H (R R' : L2.St → Hp → Prop), (∀ σ H, R σ H → R' σ H) → g x σ H R → g x σ H R') (hu : ∀ xs σ H (R R' : L2.St → Hp → Prop), (∀ σ H, R σ H → R' σ H) → u xs σ H R → u xs σ H R') :
    ∀ (xs : List V) (σ : L2.St) (H : Hp) (R R' : L2.St → Hp → Prop), (∀ σ H, R σ H → R' σ H) → gCons g u xs σ H R → gCons g u xs σ H R' := fun _ _ _ _ _ k ⟨v, r, h1, h⟩ => ⟨v, r, h1, hg _ _ _ _ _ (fun _ _ q => hu _ _ _ _ _ k q) h⟩
end
end Bk
namespace Bk
open PySem L2
theorem lt_x {α β : Type} {x : α} {k : α → Option β} {r : β} (h : lt x k = some r) : ∃ y, y = x ∧ k y = some r := ⟨x, rfl, h⟩
theorem oV_some {α : Type} {f : α → V} {o : Option α} {x : α} (h : o = some x) : oV f o = f x := by rw [h]; rfl
theorem dNi {o : Option Int} : decide (oV V.int o = .non) = o.isNone := by cases o <;> simp [oV]
theorem dNs {o : Option (List Nat)} : decide (oV (fun l => V.str (S l)) o = .non) = o.isNone := by cases o <;> simp [oV]
theorem dNb {o : Option Bool} : decide (oV V.bl o = .non) = o.isNone := by cases o <;> simp [oV]
/-- an owned object is frozen: for all that is known -/
theorem fz_all {F H F' H' : Hp} {p : Addr} {o : HO} (s : Stp tb F H F' H') (hn : H p = none) (hf : F' p = none) (ho : H' p = some o) (n : pO o = true := by rfl) : ∃ F2, Stp tb F H F2 H' ∧ Ex tb F' F2 ∧ F2 p = some o ∧ ∀ q, q ≠ p → F' q = none → F2 q = none :=
  ⟨_, s.give hn hf ho n, Ex.new hf, upd_same, fun q h e => by rw [upd_ne h]; exact e⟩
theorem star_a {env : Env} {e : Expr} {es : List Expr} (h : nStar e = true) : assignEach (e :: es) env = (false, assign e env) :: assignEach es env := by
  cases e <;> first
    | rfl
    | cases h
section
variable {X : Cx} {σ σ' : L2.St} {H H0 F Fe He : Hp} {e a b c elt tg iter : Expr} {es : List Expr} {pos : Pos} {v x y z : V} {Q : VK} {D : Ends} {st : Stmt} {rest body orelse : List Stmt}
theorem ec_isNo {α : Type} {f : α → V} {o : Option α} (ha : EvV X σ H a (oV f o)) (hb : EvV X σ H b .non) (hk : decide (oV f o = .non) = o.isNone) : EvC X σ H .Is a b o.isNone := ec_of op_isN ha hb (fun _ q => ⟨rfl, hk ▸ q⟩) (nomark _)
/-- targets -/
theorem pgs_c {t : TG} {u : TGs} (h1 : PG X e t) (h2 : PGs X es u) (h : nStar e = true := by rfl) : PGs X (e :: es) (gCons t u) := pgs_cons h1 h2 (by rw [star_a h]; rfl)
theorem asg_len {env : Env} : ∀ {es : List Expr}, es.all nStar = true → (assignEach es env).length = es.length
  | [], _ => rfl
  | e :: es, h => by
    rw [List.all_cons, Bool.and_eq_true] at h
    rw [star_a h.1, List.length_cons, asg_len h.2, List.length_cons]
theorem asg_idx {env : Env} : ∀ {es : List Expr}, es.all nStar = true → (assignEach es env).findIdx? (·.1) = none
  | [], _ => rfl
  | e :: es, h => by
    rw [List.all_cons, Bool.and_eq_true] at h
    rw [star_a h.1, List.findIdx?_cons, asg_idx h.2]
    rfl
theorem pg_tp {k : Nat} {t : TGs} (hc : X.calm = true) (h : PGs X es t) (hs : es.all nStar = true := by rfl) : PG X (.Tuple es k pos) (gTup X.K es.length t) := pg_tup hc h (asg_len hs) (asg_idx hs)
/-! ### a for whose walked thing is told with effects: a list -/
def LG (X : Cx) (J : It) (g : TG) (body : List Stmt) (D : Ends) (σ : L2.St) (H : Hp) : Prop := ∃ W : Nat → Nat → L2.St → Hp → Prop, (∃ m, W 0 m σ H) ∧ ∀ i m σ H, W i m σ H →
  (J.stop i H ∧ D.nx σ H) ∨ (J.go i H ∧ ∃ N : L2.St → Hp → Prop, (∀ σ' H', N σ' H' → ∃ m', m' < m ∧ W (i + 1) m' σ' H') ∧ ∀ x H', J.yld i H x H' → g x σ H' fun σ2 H2 => uSs X body { D with nx := N, ct := N, bk := D.nx } σ2 H2)
structure Sv (J : It) {α : Type} (xs : List α) (Yd : α → Hp → V → Hp → Prop) (Kp : Hp → Prop) : Prop where
  ex : ∃ (n : Nat) (G : Hp → Prop) (Y : Nat → Hp → V → Hp → Prop), Walk J n G Y ∧ xs.length = n ∧ (∀ H', Kp H' → G H') ∧ ∀ i t x H1 H2, xs[i]? = some t → Y i H1 x H2 → Yd t H1 x H2
theorem sv_Lf {K : PySem.W.Frag} {α : Type} {f : α → V} {d : Addr} {xs : List α} : Sv (Itl K d) xs (Yf f) (fun H' => SqL K H' d (xs.map f)) :=
  ⟨_, _, _, walk_list, by simp, fun _ k => k, fun i t x H1 H2 ht hy => ⟨hy.1.symm, by
    obtain ⟨c, h1, h2⟩ := map_get hy.2
    rw [ht] at h1
    cases h1
    exact h2⟩⟩
theorem sv_Lr {K : PySem.W.Frag} {α : Type} {R : Hp → V → α → Prop} {d : Addr} {ws : List V} {xs : List α} (hp : Paired (R F) ws xs) : Sv (Itl K d) xs (Yr R F) (fun H' => SqL K H' d ws) :=
  ⟨_, _, _, walk_list, hp.length.symm, fun _ k => k, fun i t x H1 H2 ht hy => ⟨hy.1.symm, pd_get hp hy.2 ht⟩⟩
theorem ws_forE {g : TG} (hg : PG X tg g) (hp : PassesOwn (model X.prog X.w) X.A X.env X.xe) (hcalm : X.calm = true) (h : WE X σ H iter fun v H1 => ∃ d, v = .ref d ∧ (∃ ws, SqL X.K H1 d ws) ∧ LG X (Itl X.K d) g body D σ H1) (hst : nSet iter = true := by rfl) : WS X σ H (.For tg iter body [] pos) D :=
  WS.of (ps_for hp hcalm (pi_list pe_u) hg pss_u (fs_n hst)) (h.mono fun v H1 ⟨d, e1, e2, q⟩ => ⟨d, e1, e2, q⟩)
theorem lg_of {α ρ S : Type} {J : It} {xs : List α} {Yd : α → Hp → V → Hp → Prop} {Kp : Hp → Prop} (sv : Sv J xs Yd Kp) {g : TG} (gm : ∀ x σ H (R R' : L2.St → Hp → Prop), (∀ σ H, R σ H → R' σ H) → g x σ H R → g x σ H R')
    {step : S → α → Option (Lp ρ S)} {s0 : S} {o : Lp ρ S} (ho : forX step xs s0 = some o) (Iv : S → L2.St → Hp → Prop) (h0 : Iv s0 σ H) (hG : ∀ s σ H, Iv s σ H → Kp H)
    (hs : ∀ t s σ H x H' o', t ∈ xs → Iv s σ H → Yd t H x H' → step s t = some o' → (∀ r, o' = .rt r → o = .rt r) →
      g x σ H' fun σ2 H2 => WSs X σ2 H2 body { nx := fun σ' H' => ∃ s', o' = .nx s' ∧ Iv s' σ' H', ct := fun σ' H' => ∃ s', o' = .nx s' ∧ Iv s' σ' H', bk := fun σ' H' => ∃ s', o' = .bk s' ∧ Iv s' σ' H', rt := D.rt })
    (hd : ∀ s σ' H', o = .nx s → Iv s σ' H' → D.nx σ' H') : LG X J g body D σ H := by
  obtain ⟨n, G, Y, w, hn, hk, hy⟩ := sv.ex
  refine for_mir w hn ho Iv h0 (fun s σ H i => hk H (hG s σ H i)) ?_ gm hd
  intro i t s σ1 H1 x H2 o' ht hI hyy hst' hr
  exact hs t s σ1 H1 x H2 o' (List.mem_of_getElem? ht) hI (hy i t x H1 H2 ht hyy) hst' hr
theorem lg_ofS {α S : Type} {J : It} {xs : List α} {Yd : α → Hp → V → Hp → Prop} {Kp : Hp → Prop} (sv : Sv J xs Yd Kp) {g : TG} (gm : ∀ x σ H (R R' : L2.St → Hp → Prop), (∀ σ H, R σ H → R' σ H) → g x σ H R → g x σ H R')
    {step : S → α → Option S} {s0 s1 : S} (ho : forS step xs s0 = some s1) (Iv : S → L2.St → Hp → Prop) (h0 : Iv s0 σ H) (hG : ∀ s σ H, Iv s σ H → Kp H)
    (hs : ∀ t s σ H x H' s', t ∈ xs → Iv s σ H → Yd t H x H' → step s t = some s' →
      g x σ H' fun σ2 H2 => WSs X σ2 H2 body { nx := fun σ' H' => Iv s' σ' H', ct := fun σ' H' => Iv s' σ' H', rt := D.rt })
    (hd : ∀ σ' H', Iv s1 σ' H' → D.nx σ' H') : LG X J g body D σ H := by
  refine lg_of (ρ := Unit) sv gm (forX_of ho) Iv h0 hG ?_ (fun s σ' H' e1 i => ?_)
  · intro t s σ1 H1 x H2 o' ht hI hy hst' _
    cases e1 : step s t with
    | none =>
      rw [e1] at hst'
      cases hst'
    | some s' =>
      rw [e1] at hst'
      cases hst'
      have q0 := hs t s σ1 H1 x H2 s' ht hI hy e1
      refine gm x σ1 H2 _ _ ?_ q0
      intro σ2 H3 q
      exact WSs.imp q ⟨fun _ _ q => ⟨s', rfl, q⟩, fun _ _ q => q, fun _ _ q => q.elim, fun _ _ q => ⟨s', rfl, q⟩⟩
  · cases e1
    exact hd σ' H' i
/-- a comprehension over a list told with effects -/
def LCG (X : Cx) (J : It) (g : TG) (tt : TT) (te : TE) (vs : List Nat) (σ : L2.St) (H1 : Hp) (Q : VK) : Prop := ∀ D, H1 D = none → ∃ W : Nat → Nat → Hp → Prop, (∃ m, W 0 m (upd H1 D (.lst []))) ∧ ∀ i m H, W i m H →
  (J.stop i H ∧ Q (.ref D) H) ∨ (J.go i H ∧ ∃ Nx : Hp → Prop, (∀ H', Nx H' → ∃ m', m' < m ∧ W (i + 1) m' H') ∧ ∀ x H', J.yld i H x H' → g x (wipe σ vs) H' fun σ2 H2 => wipe σ2 vs = wipe σ vs ∧ tt σ2 H2 fun b H3 =>
    if b = true then te σ2 H3 fun y H4 => ∃ acc, H4 D = some (.lst acc) ∧ acc.length < sizeLine ∧ Nx (upd H4 D (.lst (acc ++ [y]))) else Nx H3)
theorem we_lcE {sc : Scope} {own : List (Str × Nat)} {g : TG} (nd : X.N.Nodup) (hcalm : X.calm = true) (ok : BlkOk X.N X.env.scope sc own) (hg : ∀ (s : Shared) (H0 : Hp) (C : Addr) (cl : List (Str × Addr)) (fp : List Addr), PG (X.blk s H0 sc (compEnvC sc cl C X.env) fp) tg g)
    (h : WE X σ H iter fun v H1 => ∃ d, v = .ref d ∧ (∃ ws, SqL X.K H1 d ws) ∧ LCG X (Itl X.K d) g tYes (bE X sc elt) (own.map (·.2)) σ H1 Q) (hst : nSet iter = true := by rfl) : WE X σ H (.ListComp elt [⟨tg, iter, [], 0⟩] sc pos) Q :=
  WE.of (pe_lc hcalm nd (pi_list pe_u) ok hg yes_pt bE_pe (fs_n hst)) (h.mono fun v H1 ⟨d, e1, e2, q⟩ => ⟨d, e1, e2, q⟩)
theorem we_lcEt {sc : Scope} {own : List (Str × Nat)} {g : TG} (nd : X.N.Nodup) (hcalm : X.calm = true) (ok : BlkOk X.N X.env.scope sc own) (hg : ∀ (s : Shared) (H0 : Hp) (C : Addr) (cl : List (Str × Addr)) (fp : List Addr), PG (X.blk s H0 sc (compEnvC sc cl C X.env) fp) tg g)
    (h : WE X σ H iter fun v H1 => ∃ d, v = .ref d ∧ (∃ ws, SqL X.K H1 d ws) ∧ LCG X (Itl X.K d) g (bT X sc c) (bE X sc elt) (own.map (·.2)) σ H1 Q) (hst : nSet iter = true := by rfl) : WE X σ H (.ListComp elt [⟨tg, iter, [c], 0⟩] sc pos) Q :=
  WE.of (pe_lc hcalm nd (pi_list pe_u) ok hg bT_pt bE_pe (fs_n hst)) (h.mono fun v H1 ⟨d, e1, e2, q⟩ => ⟨d, e1, e2, q⟩)
theorem lcg_of {α β : Type} {J : It} {sc : Scope} {own : List Nat} {xs : List α} {Yd : α → Hp → V → Hp → Prop} {Kp : Hp → Prop} (sv : Sv J xs Yd Kp) {g : TG} (gm : ∀ x σ H (R R' : L2.St → Hp → Prop), (∀ σ H, R σ H → R' σ H) → g x σ H R → g x σ H R')
    {f : α → Option (Option β)} {res : List β} (ho : lcA f xs [] = some res) (hz : xs.length ≤ 16777215) (R : Hp → V → β → Prop) (Rm : Mn R) (Sx : Ex tb F H) (hG : ∀ H', Ex tb H H' → Kp H')
    (hs : ∀ t x F1 H1 H2 o', t ∈ xs → Stp tb F H F1 H1 → Yd t H1 x H2 → f t = some o' → g x (wipe σ own) H2 fun σ2 H3 => wipe σ2 own = wipe σ own ∧ bE X sc elt σ2 H3 fun y H5 => ∃ F5 z, Stp tb F1 H1 F5 H5 ∧ o' = some z ∧ R F5 y z)
    (hd : ∀ p F' H' ws, Stp tb F H F' H' → H p = none → F' p = none → H' p = some (.lst ws) → Paired (R F') ws res → Q (.ref p) H') : LCG X J g tYes (bE X sc elt) own σ H Q := by
  obtain ⟨n, G, Y, w, hn, hk, hy⟩ := sv.ex
  refine lc_mir w hn ho (by omega) R Rm Sx (fun H' q => hk H' (hG H' q)) ?_ gm yes_mono bE_mono hd
  intro i t x F1 H1 H2 o' ht T hyy hf
  exact hs t x F1 H1 H2 o' (List.mem_of_getElem? ht) T (hy i t x H1 H2 ht hyy) hf
theorem lcg_oft {α β : Type} {J : It} {sc : Scope} {own : List Nat} {xs : List α} {Yd : α → Hp → V → Hp → Prop} {Kp : Hp → Prop} (sv : Sv J xs Yd Kp) {g : TG} (gm : ∀ x σ H (R R' : L2.St → Hp → Prop), (∀ σ H, R σ H → R' σ H) → g x σ H R → g x σ H R')
    {f : α → Option (Option β)} {res : List β} (ho : lcA f xs [] = some res) (hz : xs.length ≤ 16777215) (R : Hp → V → β → Prop) (Rm : Mn R) (Sx : Ex tb F H) (hG : ∀ H', Ex tb H H' → Kp H')
    (hs : ∀ t x F1 H1 H2 o', t ∈ xs → Stp tb F H F1 H1 → Yd t H1 x H2 → f t = some o' → g x (wipe σ own) H2 fun σ2 H3 => wipe σ2 own = wipe σ own ∧ bT X sc c σ2 H3 fun k H4 =>
      if k = true then bE X sc elt σ2 H4 fun y H5 => ∃ F5 z, Stp tb F1 H1 F5 H5 ∧ o' = some z ∧ R F5 y z else o' = none ∧ ∃ F4, Stp tb F1 H1 F4 H4)
    (hd : ∀ p F' H' ws, Stp tb F H F' H' → H p = none → F' p = none → H' p = some (.lst ws) → Paired (R F') ws res → Q (.ref p) H') : LCG X J g (bT X sc c) (bE X sc elt) own σ H Q := by
  obtain ⟨n, G, Y, w, hn, hk, hy⟩ := sv.ex
  refine lc_mir w hn ho (by omega) R Rm Sx (fun H' q => hk H' (hG H' q)) ?_ gm bT_mono bE_mono hd
  intro i t x F1 H1 H2 o' ht T hyy hf
  exact hs t x F1 H1 H2 o' (List.mem_of_getElem? ht) T (hy i t x H1 H2 ht hyy) hf
/-! ### the ends of operators with effects -/
theorem fin_eq {k : Bool} (hs : scal x y = true) (hk : decide (x = y) = k) (q : Q (.bl k) H) : rEq x y H Q := ⟨hs, hk ▸ q⟩
theorem fin_ne {k : Bool} (hs : scal x y = true) (hk : decide (x = y) = k) (q : Q (.bl (!k)) H) : rNe x y H Q := ⟨hs, hk ▸ q⟩
theorem fin_cI {g : Int → Int → V} {i j : Int} (q : Q (g i j) H) : rI0 g (.int i) (.int j) H Q := ⟨i, j, rfl, rfl, q⟩
theorem fin_cat {i j : List Nat} (hc : i.length + j.length ≤ sizeLine) (q : Q (.str (S (i ++ j))) H) : ∃ i' j', V.str (S i) = .str i' ∧ V.str (S j) = .str j' ∧ i'.length + j'.length ≤ sizeLine ∧ Q (.str (i' ++ j')) H :=
  ⟨S i, S j, rfl, rfl, by rw [S_length, S_length]; exact hc, by rw [S_append]; exact q⟩
theorem fin_slS {l : List Nat} {i j : Option Int} (hl : l.length ≤ sizeLine) (q : Q (.str (S (cut l i j))) H) : rSlS (.str (S l)) i j H Q := ⟨S l, rfl, by rw [S_length]; exact hl, by rw [cutS_S]; exact q⟩
theorem we_ix2 {r : R2} (hr : IxR X r) (hs : nSlice b = true) (h : WE X σ H a fun x H1 => WE X σ H1 b fun y H2 => r x y H2 Q) : WE X σ H (.Subscript a b pos) Q := WE.of (pe_ix hr pe_u pe_u (ix_n hs)) h
theorem fin_ixS {l : List Nat} {i : Int} {k : Nat} (hl : l.length ≤ sizeLine) (h : atI l i = some k) (q : Q (.str (S [k])) H) : rIxS (.str (S l)) (.int i) H Q := ⟨S l, i, k, rfl, rfl, by rw [S_length]; exact hl, by rw [S_toList]; exact h, q⟩
theorem wss_ifcut {c : Expr} (h : WT X σ H c fun k H1 => ∃ Mid : L2.St → Hp → Prop, (if k = true then WSs X σ H1 body { D with nx := Mid } else WSs X σ H1 orelse { D with nx := Mid }) ∧ ∀ σ' H', Mid σ' H' → WSs X σ' H' rest D) : WSs X σ H (.If c body orelse pos :: rest) D :=
  wss_cons (ws_if (h.mono fun k H1 ⟨Mid, h1, h2⟩ => by
    cases k with
    | true => exact WSs.imp h1 ⟨fun σ H q => h2 σ H q, fun _ _ q => q, fun _ _ q => q, fun _ _ q => q⟩
    | false => exact WSs.imp h1 ⟨fun σ H q => h2 σ H q, fun _ _ q => q, fun _ _ q => q, fun _ _ q => q⟩))
theorem ws_asgG {tg : Expr} {g : TG} (hg : PG X tg g) (h : WE X σ H e fun v H1 => g v σ H1 D.nx) (hs : nComp e = true := by rfl) (hn : swapsWithSole [tg] e pos.line X.env = pure false := by rfl) (hw : swappedStores [tg] e X.env = pure none := by rfl) (ht : nStar tg = true := by rfl) : WS X σ H (.Assign [tg] e pos) D :=
  WS.of (ps_asg pe_u hg hn hw (by rw [star_a ht]; rfl)) h
theorem frz_go {p : Addr} {o : HO} (Sx : Ex tb F H) (hp : H p = none) (n : pO o = true) (q : ∀ F' H', Stp tb F H F' H' → F' p = some o → Q (.ref p) H') : Q (.ref p) (upd H p o) := q _ _ (Stp.frz Sx hp n) upd_same
theorem fin_isB {i j : Bool} (q : Q (.bl (decide (i = j))) H) : rIsB (.bl i) (.bl j) H Q := ⟨i, j, rfl, rfl, q⟩
theorem fin_isnB {i j : Bool} (q : Q (.bl (!decide (i = j))) H) : rNotB (.bl i) (.bl j) H Q := ⟨i, j, rfl, rfl, q⟩
end
end Bk
namespace Bk
open PySem PySem.Spec PyProof.Rows L2
/-! ## zip of two texts -/
def ItzS (x y : Str) : It := ⟨fun i _ => i < min x.cps.size y.cps.size,
  fun i H v H' => ∃ T a b, v = .ref T ∧ H T = none ∧ H' = upd H T (.tup [.str ⟨#[a]⟩, .str ⟨#[b]⟩]) ∧ x.cps[i]? = some a ∧ y.cps[i]? = some b,
  fun i _ => i = min x.cps.size y.cps.size⟩
theorem wr_in {N c : Nat} (z : c ∈ [N + 4, N + 3, N, N + 1]) : c ∈ [N + 4, N + 2, N + 3, N, N + 1] := by
  simp only [List.mem_cons, List.mem_nil_iff, or_false] at z ⊢
  rcases z with h | h | h | h <;> simp [h]
theorem zsep (N : Nat) : ZipSep2 (N + 4) (N + 2) (N + 3) N (N + 1) [N] [N + 1] := zip_sep2 (fp1 := []) (fp2 := []) (by simp) (by simp)
theorem turn_zipS {P : Program} {w : World} {K : PySem.W.Frag} {elts : List Expr} {kk : Nat} {tpos : Pos} {x y : Str} {tx ty : Tok} {N : Nat} :
    Turn P w K (.Tuple elts kk tpos) (ItzS x y) [N + 4, N + 2, N + 3, N, N + 1] (N + 4) (fun i h => IsZip h (N + 4) (N + 2) (N + 3) .none ∧ IsTupOf2 h (N + 2) (.ref N) (.ref (N + 1)) ∧ (∃ a1 a2, IsTupOf2 h (N + 3) a1 a2) ∧
      h.IsStrIter N (strIterType x) x tx i ∧ h.IsStrIter (N + 1) (strIterType y) y ty i) where
  mem := by simp
  obj := fun i h st c hc => by
    obtain ⟨hz, hTI, ⟨a1, a2, hTO⟩, ⟨o1, e1, _, d1⟩, ⟨o2, e2, _, d2⟩⟩ := st
    have e' : c = N + 4 ∨ c = N + 2 ∨ c = N + 3 ∨ c = N ∨ c = N + 1 := by simpa using hc
    rcases e' with q | q | q | q | q
    · rw [q]; exact ⟨_, hz, fun v q => nomatch q⟩
    · rw [q]; exact ⟨_, hTI, fun v q => nomatch q⟩
    · rw [q]; exact ⟨_, hTO, fun v q => nomatch q⟩
    · rw [q]; exact ⟨o1, e1, fun v q => by rw [d1] at q; cases q⟩
    · rw [q]; exact ⟨o2, e2, fun v q => by rw [d2] at q; cases q⟩
  keep := fun i h h' st k => by
    obtain ⟨hz, hTI, ⟨a1, a2, hTO⟩, ⟨o1, e1, c1, d1⟩, ⟨o2, e2, c2, d2⟩⟩ := st
    exact ⟨k _ (by simp) _ hz, k _ (by simp) _ hTI, ⟨a1, a2, k _ (by simp) _ hTO⟩, ⟨o1, k _ (by simp) _ e1, c1, d1⟩, ⟨o2, k _ (by simp) _ e2, c2, d2⟩⟩
  item := by
    intro X hP hw hK hc i pins s σ H E I hf st hg
    subst hP hw hK
    have W := WalksT.zipD2 (prog := X.prog) (w := X.w) (A := X.A) (zsep N) (Draws.text (A := X.A.in1) (I.ok.hd hc) N x tx) (Draws.text (A := X.A.in1) (I.ok.hd hc) (N + 1) y ty)
    refine W.item i s _ _ hg st fun T vals h' tk hP hle hT hmid hk => ?_
    obtain ⟨x1, x2, ⟨c1, u1, hc1, e1⟩, ⟨c2, u2, hc2, e2⟩, ev⟩ := hP
    refine ⟨_, rfl, W.go elts kk tpos i T { s with heap := h', toks := tk } _ E hmid fun h'' st'' hk2 => ?_⟩
    subst e1 e2 ev
    obtain ⟨oT, hoT, hcT, hdT⟩ := hT
    have hT2 := hk2 T oT (W.apart i T _ hmid) hoT
    have new : ObjOk X.prog X.w (upd H T (.tup [.str ⟨#[c1]⟩, .str ⟨#[c2]⟩])) h'' T (.tup [.str ⟨#[c1]⟩, .str ⟨#[c2]⟩]) :=
      ⟨by show 2 ≤ sizeLine; decide, [.str ⟨#[c1]⟩ u1, .str ⟨#[c2]⟩ u2], .cons ⟨_, rfl⟩ (.cons ⟨_, rfl⟩ .nil), ⟨oT, hT2, hcT, hdT⟩⟩
    have I1 : Inv X pins σ (upd H T (.tup [.str ⟨#[c1]⟩, .str ⟨#[c2]⟩])) { s with heap := h'', toks := tk } :=
      I.turnedNew (t' := tk) (ch := [N + 4, N + 2, N + 3, N, N + 1]) (fun c o hb q => hk2 c o (fun z => hb (wr_in z)) (hk c o (fun z => hb (wr_in z)) q)) hf hle new
    refine ⟨.ref T, _, I1, rfl, ⟨T, c1, c2, rfl, I.hok.fresh hle, rfl, hc1, hc2⟩, st'', fun c hcm => ?_⟩
    obtain ⟨hz, hTI, ⟨_, _, hTO⟩, ⟨o1, e1, _⟩, ⟨o2, e2, _⟩⟩ := st
    have hlt : c < s.heap.objs.size := by
      have e' : c = N + 4 ∨ c = N + 2 ∨ c = N + 3 ∨ c = N ∨ c = N + 1 := by simpa using hcm
      rcases e' with q | q | q | q | q
      · rw [q]; exact Heap.lt_size hz
      · rw [q]; exact Heap.lt_size hTI
      · rw [q]; exact Heap.lt_size hTO
      · rw [q]; exact Heap.lt_size e1
      · rw [q]; exact Heap.lt_size e2
    rw [upd_ne (Nat.ne_of_lt (Nat.lt_of_lt_of_le hlt hle))]
    exact (hf c hcm).1
  done := by
    intro X hP hw hK hc i pins s σ H E I hf st hg
    subst hP hw hK
    have W := WalksT.zipD2 (prog := X.prog) (w := X.w) (A := X.A) (zsep N) (Draws.text (A := X.A.in1) (I.ok.hd hc) N x tx) (Draws.text (A := X.A.in1) (I.ok.hd hc) (N + 1) y ty)
    have hgi : i = min x.cps.size y.cps.size := hg
    subst hgi
    refine W.done s _ _ st fun h' tk hk => ⟨rfl, ?_⟩
    exact I.turnedL (t' := tk) (ch := [N + 4, N + 2, N + 3, N, N + 1]) (fun c o hb q => hk c o (fun z => hb (wr_in z)) q) hf
  self := fun A i s Q E st h => wpAny_pyIter_zip st.1 h
def iZipS (ta : TA) : TI := fun σ H R => ta σ H fun vs H1 => ∃ x y, vs = [.str x, .str y] ∧ R (ItzS x y) H1
theorem pi_zipS {X : Cx} {e e2 : Expr} {ta : TA} {p pos tpos : Pos} {elts : List Expr} {kk : Nat} (hg : Gl X "zip") (hm : X.mg "zip" = none) (ha : PA X [e, e2] ta)
    (hs : starEach [e, e2] X.env = (false, eval e X.env) :: starEach [e2] X.env := by rfl) (hpl : (backTo pos (starEach [e2] X.env)).any (·.1) = false := by rfl) :
    PI X (.Tuple elts kk tpos) (.Call (.Name "zip" p) [e, e2] [] pos) (iZipS ta) := by
  refine ⟨fun pins s σ H R I h => ?_⟩
  refine Call_ (ld_blt I hg hm PyProof.Rows.boot_zip (PyProof.Rows.callWith_type1 (thn (ha.run pos pins s σ H _ I h) fun us s1 ⟨vs, H1, I1, r1, q1⟩ => ?_) hs hpl))
  obtain ⟨x, y, ex, q⟩ := q1
  subst ex
  cases r1 with
  | cons r rr =>
    cases rr with
    | cons r' rr =>
      cases rr
      obtain ⟨tx, rfl⟩ := r
      obtain ⟨ty, rfl⟩ := r'
      refine zip_begins2 (begins_text x tx) (begins_text y ty) trivial trivial fun h' hz hTI hTO h1 h2 hsz hk => wpAny_pyIter_zip hz ?_
      have I2 : Inv X pins σ H1 { s1 with heap := h' } := I1.kept (t' := s1.toks) hk
      refine ⟨s1.heap.objs.size + 4, [s1.heap.objs.size + 4, s1.heap.objs.size + 2, s1.heap.objs.size + 3, s1.heap.objs.size, s1.heap.objs.size + 1], _, _, H1, rfl, I2, turn_zipS (N := s1.heap.objs.size), ⟨hz, hTI, ⟨_, _, hTO⟩, ⟨_, h1, rfl, rfl⟩, ⟨_, h2, rfl, rfl⟩⟩, fun c hcm => ?_, q⟩
      have e' : c = s1.heap.objs.size + 4 ∨ c = s1.heap.objs.size + 2 ∨ c = s1.heap.objs.size + 3 ∨ c = s1.heap.objs.size ∨ c = s1.heap.objs.size + 1 := by simpa using hcm
      have hle : s1.heap.objs.size ≤ c := by
        rcases e' with z | z | z | z | z
        · rw [z]; exact Nat.le_add_right _ _
        · rw [z]; exact Nat.le_add_right _ _
        · rw [z]; exact Nat.le_add_right _ _
        · rw [z]; exact Nat.le_refl _
        · rw [z]; exact Nat.le_add_right _ _
      exact I1.fpOk hle (I1.hok.fresh hle)
theorem walk_zipS {x y : Str} : Walk (ItzS x y) (min x.cps.size y.cps.size) (fun _ => True) (YPair (fun i => x.cps[i]?.map fun c => .str ⟨#[c]⟩) (fun i => y.cps[i]?.map fun c => .str ⟨#[c]⟩)) := by
  refine ⟨fun _ _ hi _ => hi, fun _ _ => rfl, fun i H v H' _ _ y => ?_⟩
  obtain ⟨T, a, b, h1, h2, h3, h4, h5⟩ := y
  exact ⟨T, _, _, h1, h2, h3, by show Option.map _ _ = _; rw [h4]; rfl, by show Option.map _ _ = _; rw [h5]; rfl⟩
section
variable {X : Cx} {σ σ' : L2.St} {H H0 F Fe He : Hp} {e a b c elt tg iter : Expr} {es : List Expr} {pos : Pos} {v x y z : V} {Q : VK} {D : Ends} {st : Stmt} {rest body orelse : List Stmt}
theorem src_ZS {n : Str} {p p3 tp : Pos} {l m : List Nat} {elts : List Expr} {kk : Nat} (ha : EvV X σ H a (.str (S l))) (hb : EvV X σ H b (.str (S m))) (hm : X.mg n = none) (hn : n = "zip" := by rfl) (hg : Gl X n := by rfl) (hs : nStar a = true := by rfl) (hs2 : nStar b = true := by rfl) :
    Src X σ H (.Tuple elts kk tp) (.Call (.Name n p) [a, b] [] p3) (l.zip m) (Yp (fun v (t : Nat) => v = .str (S [t])) (fun v (t : Nat) => v = .str (S [t]))) Kt H := by
  subst hn
  refine ⟨_, _, _, _, _, pi_zipS hg hm pa_u (star_c hs) (by rw [star_1 hs2]; rfl), walk_zipS, ?_, fun R q => wa_consP ha (wa_consP hb (wa_nil ⟨_, _, rfl, q⟩) hs2) hs, fun _ _ => trivial, fun i t x H1 H2 ht hy => ?_⟩
  · simp [S]
  · obtain ⟨T, u, w, h1, h2, h3, h4, h5⟩ := hy
    rw [List.getElem?_zip_eq_some] at ht
    have e1 : (S l).cps[i]? = some t.1 := by simpa [S] using ht.1
    have e2 : (S m).cps[i]? = some t.2 := by simpa [S] using ht.2
    have h4 : Option.map _ (S l).cps[i]? = some u := h4
    have h5 : Option.map _ (S m).cps[i]? = some w := h5
    rw [e1] at h4
    rw [e2] at h5
    exact ⟨T, _, _, h1, h2, h3, (Option.some.inj h4).symm, (Option.some.inj h5).symm⟩
theorem src_Rf {α : Type} {f : α → V} {n : Str} {p p3 : Pos} {d : Addr} {xs : List α} (h : EvV X σ H a (.ref d)) (hw : SqL X.K H d (xs.map f)) (hm : X.mg n = none) (hn : n = "reversed" := by rfl) (hg : Gl X n := by rfl) (hs : nStar a = true := by rfl) :
    Src X σ H tg (.Call (.Name n p) [a] [] p3) xs.reverse (Yf f) (fun H' => SqL X.K H' d (xs.map f)) H := by
  subst hn
  refine ⟨_, _, _, _, _, pi_reversed hg hm pa_u (star_1 hs), walk_rev, ?_, fun R q => wa_consP h (wa_nil ⟨d, _, rfl, hw, q⟩) hs, fun _ k => k, fun i t x H1 H2 ht hy => ⟨hy.1.symm, ?_⟩⟩
  · simp
  · obtain ⟨hi, _⟩ := List.getElem?_eq_some_iff.mp ht
    rw [List.length_reverse] at hi
    rw [List.getElem?_reverse hi] at ht
    have h2 := hy.2
    rw [List.length_map, List.getElem?_map, ht] at h2
    exact (Option.some.inj h2).symm
end
end Bk
namespace Bk
open PySem L2
def FUEL : Nat := 1000000
def b2I (b : Bool) : Int := if b = true then 1 else 0
def strI (i : Int) : List Nat := ((toString i : String) : Str).cps.toList
theorem S_of (x : Str) : S x.cps.toList = x := by
  unfold S
  simp
def intT (l : List Nat) : Option Int := PySem.intText? (S l)
section
variable {X : Cx} {σ σ' : L2.St} {H H0 F Fe He : Hp} {e a b c elt tg iter : Expr} {es : List Expr} {pos : Pos} {v x y z : V} {Q : VK} {D : Ends} {st : Stmt} {rest body orelse : List Stmt} {n m : Str} {p p2 p3 : Pos}
theorem ev_glob {u : Value} (hm : X.mg n = some u) (r : RelV v u) (hg : Gl X n := by rfl) (hd : (n == ("__debug__" : Str)) = false := by decide) : EvV X σ H (.Name n pos) v := WE.of (pe_glob hg hm r hd) ⟨rfl, rfl⟩
theorem ec_isnNo {α : Type} {f : α → V} {o : Option α} (ha : EvV X σ H a (oV f o)) (hb : EvV X σ H b .non) (hk : decide (oV f o = .non) = o.isNone) : EvC X σ H .IsNot a b (!o.isNone) := ec_of op_notN ha hb (fun _ q => ⟨rfl, hk ▸ q⟩) (nomark _)
theorem ec_isNf (ha : EvV X σ H a x) (hb : EvV X σ H b .non) (hx : x ≠ .non) : EvC X σ H .Is a b false := ec_of op_isN ha hb (fun _ q => ⟨rfl, decide_eq_false hx ▸ q⟩) (nomark _)
theorem ec_isnNf (ha : EvV X σ H a x) (hb : EvV X σ H b .non) (hx : x ≠ .non) : EvC X σ H .IsNot a b true := ec_of op_notN ha hb (fun _ q => ⟨rfl, by rw [decide_eq_false hx]; exact q⟩) (nomark _)
theorem ec_isNt (ha : EvV X σ H a .non) (hb : EvV X σ H b .non) : EvC X σ H .Is a b true := ec_of op_isN ha hb (fun _ q => ⟨rfl, by rw [decide_eq_true rfl]; exact q⟩) (nomark _)
theorem ec_isnNt (ha : EvV X σ H a .non) (hb : EvV X σ H b .non) : EvC X σ H .IsNot a b false := ec_of op_notN ha hb (fun _ q => ⟨rfl, by rw [decide_eq_true rfl]; exact q⟩) (nomark _)
theorem ev_lenT {d : Addr} {xs : List V} (ha : EvV X σ H a (.ref d)) (hx : SqT X.K H d xs) (hm : X.mg n = none) (hn : n = "len" := by rfl) (hg : Gl X n := by rfl) (he : nStar a = true := by rfl) :
    EvV X σ H (.Call (.Name n p) [a] [] pos) (.int xs.length) := by
  subst hn
  exact we_bi call_len hm PySem.boot_len (wa_consP ha (wa_nil ⟨_, xs.length, rfl, .inr ⟨xs, hx, rfl⟩, rfl, rfl⟩) he) hg (by decide) (by decide) he rfl
theorem ev_ord {l : List Nat} (ha : EvV X σ H a (.str (S l))) (h : l.length = 1) (hm : X.mg n = none) (hn : n = "ord" := by rfl) (hg : Gl X n := by rfl) (he : nStar a = true := by rfl) :
    EvV X σ H (.Call (.Name n p) [a] [] pos) (.int (l.getD 0 0 : Nat)) := by
  subst hn
  refine we_bi call_ord hm (by decide +kernel) (wa_consP ha (wa_nil ⟨_, rfl, by rw [S_length]; exact h, ?_, rfl⟩) he) hg (by decide) (by decide) he rfl
  have e : (S l).cps.getD 0 0 = l.getD 0 0 := by simp [S]
  rw [e]
theorem ev_intB {k : Bool} (ha : EvV X σ H a (.bl k)) (hm : X.mg n = none) (hn : n = "int" := by rfl) (hg : Gl X n := by rfl) (he : nStar a = true := by rfl) :
    EvV X σ H (.Call (.Name n p) [a] [] pos) (.int (b2I k)) := by
  subst hn
  exact we_ty call_int1 hm (by decide +kernel) (wa_consP ha (wa_nil (.inr ⟨k, rfl, rfl, rfl⟩)) he) hg (by decide) (by decide) he rfl
theorem ev_strI {i : Int} (ha : EvV X σ H a (.int i)) (h : i.natAbs.log2 < 1920) (hm : X.mg n = none) (hn : n = "str" := by rfl) (hg : Gl X n := by rfl) (he : nStar a = true := by rfl) :
    EvV X σ H (.Call (.Name n p) [a] [] pos) (.str (S (strI i))) := by
  subst hn
  exact we_ty call_str_int hm (by decide +kernel) (wa_consP ha (wa_nil ⟨i, rfl, h, by unfold strI; rw [S_of], rfl⟩) he) hg (by decide) (by decide) he rfl
theorem ev_intS {l : List Nat} {i : Int} (ha : EvV X σ H a (.str (S l))) (h : intT l = some i) (hl : l.length ≤ 640) (hm : X.mg n = none) (hn : n = "int" := by rfl) (hg : Gl X n := by rfl) (he : nStar a = true := by rfl) :
    EvV X σ H (.Call (.Name n p) [a] [] pos) (.int i) := by
  subst hn
  exact we_ty call_int_str hm (by decide +kernel) (wa_consP ha (wa_nil ⟨_, i, rfl, h, by rw [S_length]; exact hl, rfl, rfl⟩) he) hg (by decide) (by decide) he rfl
theorem ev_max {i j : Int} (ha : EvV X σ H a (.int i)) (hb : EvV X σ H b (.int j)) (hm : X.mg n = none) (hc : X.calm = true := by rfl) (hn : n = "max" := by rfl) (hg : Gl X n := by rfl) (he : nStar a = true := by rfl) (he2 : nStar b = true := by rfl) :
    EvV X σ H (.Call (.Name n p) [a, b] [] pos) (.int (max i j)) := by
  subst hn
  refine we_bi (call_max2 hc) hm (by decide +kernel) (wa_consP ha (wa_consP hb (wa_nil ⟨i, j, rfl, ?_, rfl⟩) he2) he) hg (by decide) (by decide) he (by simp [he2])
  refine congrArg V.int ?_
  split <;> omega
theorem ev_min {i j : Int} (ha : EvV X σ H a (.int i)) (hb : EvV X σ H b (.int j)) (hm : X.mg n = none) (hc : X.calm = true := by rfl) (hn : n = "min" := by rfl) (hg : Gl X n := by rfl) (he : nStar a = true := by rfl) (he2 : nStar b = true := by rfl) :
    EvV X σ H (.Call (.Name n p) [a, b] [] pos) (.int (min i j)) := by
  subst hn
  refine we_bi (call_min2 hc) hm (by decide +kernel) (wa_consP ha (wa_consP hb (wa_nil ⟨i, j, rfl, ?_, rfl⟩) he2) he) hg (by decide) (by decide) he (by simp [he2])
  refine congrArg V.int ?_
  split <;> omega
/-! isinstance of an optional thing -/
theorem ev_isiO {α : Type} {f : α → V} {o : Option α} {pm : Pos} {T T' : String} (ha : EvV X σ H a (oV f o)) (ht : ∀ x, TyX X.K H (f x) (.type T)) (hk : kitB T T' = some false) (hk0 : kitB "NoneType" T' = some false) (hm : X.mg n = none) (hmT : X.mg m = none) (hT : bootBuiltins m = some (.type T')) (hn : n = "isinstance" := by rfl) (hg : Gl X n := by rfl) (hgm : Gl X m := by rfl)
    (hm1 : m ≠ "__name__" := by decide) (hm2 : (m == ("__debug__" : Str)) = false := by decide) (he : nStar a = true := by rfl) :
    EvV X σ H (.Call (.Name n p) [a, .Name m pm] [] pos) (.bl false) := by
  cases o with
  | none => exact we_isi ha (.base .non) hk0 hm hmT hT hn hg hgm hm1 hm2 he
  | some x => exact we_isi ha (ht x) hk hm hmT hT hn hg hgm hm1 hm2 he
theorem ev_isiS {α : Type} {f : α → V} {o : Option α} {pm : Pos} {T T' : String} (ha : EvV X σ H a (oV f o)) (ht : ∀ x, TyX X.K H (f x) (.type T)) (hk : kitB T T' = some true) (hk0 : kitB "NoneType" T' = some false) (hm : X.mg n = none) (hmT : X.mg m = none) (hT : bootBuiltins m = some (.type T')) (hn : n = "isinstance" := by rfl) (hg : Gl X n := by rfl) (hgm : Gl X m := by rfl)
    (hm1 : m ≠ "__name__" := by decide) (hm2 : (m == ("__debug__" : Str)) = false := by decide) (he : nStar a = true := by rfl) :
    EvV X σ H (.Call (.Name n p) [a, .Name m pm] [] pos) (.bl (!o.isNone)) := by
  cases o with
  | none => exact we_isi ha (.base .non) hk0 hm hmT hT hn hg hgm hm1 hm2 he
  | some x => exact we_isi ha (ht x) hk hm hmT hT hn hg hgm hm1 hm2 he
/-! == of optional things -/
theorem scooI (o q : Option Int) : scal (oV V.int o) (oV V.int q) = true := by cases o <;> cases q <;> rfl
theorem dooI (o q : Option Int) : decide (oV V.int o = oV V.int q) = decide (o = q) := by cases o <;> cases q <;> simp [oV]
theorem scoxI (o : Option Int) (j : Int) : scal (oV V.int o) (.int j) = true := by cases o <;> rfl
theorem doxI (o : Option Int) (j : Int) : decide (oV V.int o = .int j) = decide (o = some j) := by cases o <;> simp [oV]
theorem scxoI (j : Int) (o : Option Int) : scal (.int j) (oV V.int o) = true := by cases o <;> rfl
theorem dxoI (j : Int) (o : Option Int) : decide (.int j = oV V.int o) = decide (some j = o) := by cases o <;> simp [oV]
theorem scooS (o q : Option (List Nat)) : scal (oV sV o) (oV sV q) = true := by cases o <;> cases q <;> rfl
theorem dooS (o q : Option (List Nat)) : decide (oV sV o = oV sV q) = decide (o = q) := by
  cases o with
  | none => cases q <;> simp [oV, sV]
  | some x => cases q with
    | none => simp [oV, sV]
    | some y => exact dS.trans (by simp)
theorem scoxS (o : Option (List Nat)) (j : List Nat) : scal (oV sV o) (.str (S j)) = true := by cases o <;> rfl
theorem doxS (o : Option (List Nat)) (j : List Nat) : decide (oV sV o = .str (S j)) = decide (o = some j) := by
  cases o with
  | none => simp [oV, sV]
  | some x => exact dS.trans (by simp)
theorem scxoS (j : List Nat) (o : Option (List Nat)) : scal (.str (S j)) (oV sV o) = true := by cases o <;> rfl
theorem dxoS (j : List Nat) (o : Option (List Nat)) : decide (.str (S j) = oV sV o) = decide (some j = o) := by
  cases o with
  | none => simp [oV, sV]
  | some x => exact dS.trans (by simp)
theorem ec_eqooI {o q : Option Int} (ha : EvV X σ H a (oV V.int o)) (hb : EvV X σ H b (oV V.int q)) : EvC X σ H .Eq a b (decide (o = q)) := ec_eq ha hb (scooI _ _) (dooI _ _)
theorem ec_neooI {o q : Option Int} (ha : EvV X σ H a (oV V.int o)) (hb : EvV X σ H b (oV V.int q)) : EvC X σ H .NotEq a b (!decide (o = q)) := ec_ne ha hb (scooI _ _) (dooI _ _)
theorem ec_eqoxI {o : Option Int} {j : Int} (ha : EvV X σ H a (oV V.int o)) (hb : EvV X σ H b (.int j)) : EvC X σ H .Eq a b (decide (o = some j)) := ec_eq ha hb (scoxI _ _) (doxI _ _)
theorem ec_neoxI {o : Option Int} {j : Int} (ha : EvV X σ H a (oV V.int o)) (hb : EvV X σ H b (.int j)) : EvC X σ H .NotEq a b (!decide (o = some j)) := ec_ne ha hb (scoxI _ _) (doxI _ _)
theorem ec_eqxoI {o : Option Int} {j : Int} (ha : EvV X σ H a (.int j)) (hb : EvV X σ H b (oV V.int o)) : EvC X σ H .Eq a b (decide (some j = o)) := ec_eq ha hb (scxoI _ _) (dxoI _ _)
theorem ec_nexoI {o : Option Int} {j : Int} (ha : EvV X σ H a (.int j)) (hb : EvV X σ H b (oV V.int o)) : EvC X σ H .NotEq a b (!decide (some j = o)) := ec_ne ha hb (scxoI _ _) (dxoI _ _)
theorem ec_eqooS {o q : Option (List Nat)} (ha : EvV X σ H a (oV sV o)) (hb : EvV X σ H b (oV sV q)) : EvC X σ H .Eq a b (decide (o = q)) := ec_eq ha hb (scooS _ _) (dooS _ _)
theorem ec_neooS {o q : Option (List Nat)} (ha : EvV X σ H a (oV sV o)) (hb : EvV X σ H b (oV sV q)) : EvC X σ H .NotEq a b (!decide (o = q)) := ec_ne ha hb (scooS _ _) (dooS _ _)
theorem ec_eqoxS {o : Option (List Nat)} {j : List Nat} (ha : EvV X σ H a (oV sV o)) (hb : EvV X σ H b (.str (S j))) : EvC X σ H .Eq a b (decide (o = some j)) := ec_eq ha hb (scoxS _ _) (doxS _ _)
theorem ec_neoxS {o : Option (List Nat)} {j : List Nat} (ha : EvV X σ H a (oV sV o)) (hb : EvV X σ H b (.str (S j))) : EvC X σ H .NotEq a b (!decide (o = some j)) := ec_ne ha hb (scoxS _ _) (doxS _ _)
theorem ec_eqxoS {o : Option (List Nat)} {j : List Nat} (ha : EvV X σ H a (.str (S j))) (hb : EvV X σ H b (oV sV o)) : EvC X σ H .Eq a b (decide (some j = o)) := ec_eq ha hb (scxoS _ _) (dxoS _ _)
theorem ec_nexoS {o : Option (List Nat)} {j : List Nat} (ha : EvV X σ H a (.str (S j))) (hb : EvV X σ H b (oV sV o)) : EvC X σ H .NotEq a b (!decide (some j = o)) := ec_ne ha hb (scxoS _ _) (dxoS _ _)
theorem fin_isN {α : Type} {f : α → V} {o : Option α} (hk : decide (oV f o = .non) = o.isNone) (q : Q (.bl o.isNone) H) : V.non = .non ∧ Q (.bl (decide (oV f o = .non))) H := ⟨rfl, by rw [hk]; exact q⟩
theorem fin_isnN {α : Type} {f : α → V} {o : Option α} (hk : decide (oV f o = .non) = o.isNone) (q : Q (.bl (!o.isNone)) H) : V.non = .non ∧ Q (.bl (!decide (oV f o = .non))) H := ⟨rfl, by rw [hk]; exact q⟩
/-- a list and a list -/
theorem fin_lcat {α : Type} {f : α → V} {d d2 : Addr} {xs ys : List α} (Sx : Ex tb F H) (h1 : H d = some (.lst (xs.map f))) (h2 : H d2 = some (.lst (ys.map f))) (hc : xs.length + ys.length ≤ 16777216)
    (q : ∀ p H', Stp tb F H F H' → H p = none → H' p = some (.lst ((xs ++ ys).map f)) → Q (.ref p) H') : rCat (.ref d) (.ref d2) H Q :=
  ⟨d, d2, _, _, rfl, rfl, h1, h2, by rw [List.length_map, List.length_map]; exact sz_le hc, fun p hp => q p _ (Stp.own Sx hp) hp (by rw [upd_same, List.map_append])⟩
/-- the value's and, or: their tails may lack -/
theorem ev_andM {r : List Expr} {k d : Bool} {m : Option Bool} (hm : it k m (some false) = some d) (h : EvV X σ H a (.bl k)) (hr : k = true → m = some d → EvV X σ H (.BoolOp .And (b :: r) pos) (.bl d)) : EvV X σ H (.BoolOp .And (a :: b :: r) pos) (.bl d) := by
  cases k with
  | true => exact (ev_and h fun _ => hr rfl hm).is (by rw [Bool.true_and])
  | false =>
    cases hm
    exact (ev_and (d := true) h fun z => nomatch z).is rfl
theorem ev_orM {r : List Expr} {k d : Bool} {m : Option Bool} (hm : it k (some true) m = some d) (h : EvV X σ H a (.bl k)) (hr : k = false → m = some d → EvV X σ H (.BoolOp .Or (b :: r) pos) (.bl d)) : EvV X σ H (.BoolOp .Or (a :: b :: r) pos) (.bl d) := by
  cases k with
  | true =>
    cases hm
    exact (ev_or (d := true) h fun z => nomatch z).is rfl
  | false => exact (ev_or h fun _ => hr rfl hm).is (by rw [Bool.false_or])
end
end Bk
namespace Bk
open PySem PySem.Spec PySem.W PyProof.Rows L2
section
variable {prog : Program} {w : World} {A : Around} {E : Value → Shared → Prop} {s : Shared}
/-! ## a range put in order by a key -/
theorem each_ints {acc : Array Value} {n : Nat} (h : ItemsOf (fun i v => ∃ t, v = .int (0 + (i : Int) * 1) t) acc n) : EachIs (fun v (x : Int) => ∃ t, v = .int x t) acc.toList ((List.range n).map fun (i : Nat) => (i : Int)) := by
  refine EachIs.of_zip (by rw [Array.length_toList, h.1]; simp) ?_
  rintro ⟨v, x⟩ hp
  obtain ⟨i, hi⟩ := List.mem_iff_getElem?.mp hp
  rw [List.getElem?_zip_eq_some] at hi
  obtain ⟨h1, h2⟩ := hi
  rw [Array.getElem?_toList] at h1
  obtain ⟨t, rfl⟩ := h.2 i v h1
  rw [List.getElem?_map] at h2
  by_cases hl : i < n
  · rw [List.getElem?_range hl] at h2
    have e : (i : Int) = x := Option.some.inj h2
    exact ⟨t, by show Value.int (0 + (i : Int) * 1) t = Value.int x t; rw [← e, Int.zero_add, Int.mul_one]⟩
  · rw [List.getElem?_eq_none (by simpa using hl)] at h2
    cases h2
theorem sorted_rngR {r : Addr} {a b c : Int} {t u v : Tok} {n : Nat} {kw : List (Str × Value)} {Q : Value → Shared → Prop} (hh : A.handled = none) (hr : IsRange s.heap r a b c t u v) (hsmall : Builtin.Range.small a b c = true) (hn : Builtin.Range.rangeSize a b c = n) (hlen : n ≤ 2 ^ 24)
    (ha1 : argsOk "sorted" ⟨[.ref r], kw⟩) (ha2 : ∀ x, argsOk "list.sort" ⟨[.ref x], kw⟩)
    (body : ∀ (E' : Value → Shared → Prop) (h' : Heap) (tk : Nat) (acc : Array Value), (∀ b o, s.heap.get? b = some o → h'.get? b = some o) → ItemsOf (fun i v => ∃ t, v = .int (a + i * c) t) acc n →
      wpAny (model prog w) A.in1.in1 (Builtin.«list.sort» ⟨[.ref h'.objs.size], kw⟩) (fun f s' => f = .done (.ret .none) ∧ Q (.ref h'.objs.size) s') E' { s with heap := h'.push (seqObj "list" acc 0), toks := tk }) :
    wpAny (model prog w) A (call (.builtin "sorted") [.ref r] kw) Q E s := by
  refine call_function_entry_kw kind_sorted plain_sorted entry_sorted ha1 ?_
  unfold Builtin.«sorted»
  refine wpAny_bind (m := checkCount "sorted" 1 1 _) (wpAny_pure ?_)
  refine wpAny_bind (collect_range hh hr hsmall hn hlen fun h' tk acc hk hi => ?_)
  refine wpAny_bind (wpAny_newList ?_ (by rw [Array.length_toList, hi.1, sizeLine_eq]; exact hlen))
  show wpAny (model prog w) A.in1 _ _ _ { s with heap := h'.push (seqObj "list" acc.toList.toArray 0), toks := tk }
  rw [Array.toArray_toList]
  have hob : (h'.push (seqObj "list" acc 0)).get? h'.objs.size = some (seqObj "list" acc 0) := Heap.get?_push_size _ rfl
  refine wpAny_bind (wpAny_holding (wpAny_call_entry_kw slot_list_sort ⟨_, hob, rfl⟩ entry_list_sort ?body (ha2 _)))
  case body =>
    show wpAny (model prog w) A.in1.in1 (Builtin.«list.sort» ⟨[.ref h'.objs.size], kw⟩) _ _ _
    refine wpAny_mono (body _ h' tk acc hk hi) (fun f s' hf => ?_) fun _ _ e => e
    obtain ⟨rfl, hq⟩ := hf
    exact ⟨_, rfl, wpAny_pure ⟨_, rfl, hq⟩⟩
theorem sorted_rngK {r : Addr} {t u v : Tok} {n : Nat} {f : Value} {kw : List (Str × Value)} {Q : Value → Shared → Prop} (k : Int → PyData) (hh : A.handled = none) (hr : IsRange s.heap r 0 (n : Int) 1 t u v) (hrs : ∃ (x : Addr) (o : Obj), s.heap.get? x = some o ∧ s.heap.objs.size = x + 1) (hsmall : Builtin.Range.small 0 (n : Int) 1 = true) (hn : Builtin.Range.rangeSize 0 (n : Int) 1 = n) (hlen : n ≤ 2 ^ 24)
    (hal : ∀ x y, alike (k x) (k y) = true) (hsk : ∀ x, k x ≠ .none ∧ ∀ xs, k x ≠ .tuple xs) (hu : ∀ x, A.units + 2 + (k x).depth < cLine) (ha1 : argsOk "sorted" ⟨[.ref r], kw⟩) (ha2 : ∀ x, argsOk "list.sort" ⟨[.ref x], kw⟩) (ht : ∀ x, Builtin.«list.sort» ⟨[.ref x], kw⟩ = ksk_tree x f false)
    (turn : ∀ (v : Value) (x : Int), (∃ t, v = .int x t) → 0 ≤ x → x < n → ∀ (h : Heap) (tk : Nat), (∀ b o, s.heap.get? b = some o → h.get? b = some o) →
      wpAny (model prog w) A.in1.in1 (call f [v]) (KeyPure (k x) { s with heap := h, toks := tk }) (fun _ _ => False) { s with heap := h, toks := tk })
    (h : ∀ out c p h' tk, (∀ b o, s.heap.get? b = some o → h'.get? b = some o) → s.heap.objs.size ≤ p → h'.get? p = some (seqObj "list" (List.toArray out) c) → EachIs (fun v (x : Int) => ∃ t, v = .int x t) out (((List.range n).map fun (i : Nat) => (i : Int)).mergeSort (dataLe false k)) →
      Q (.ref p) { s with heap := h', toks := tk }) :
    wpAny (model prog w) A (call (.builtin "sorted") [.ref r] kw) Q E s := by
  refine sorted_rngR hh hr hsmall hn hlen ha1 ha2 fun E' h1 tk1 acc hk1 hi => ?_
  rw [ht]
  have e := each_ints hi
  have hp1 : s.heap.objs.size ≤ h1.objs.size := by
    obtain ⟨x, o, e1, e2⟩ := hrs
    rw [e2]
    exact Nat.succ_le_of_lt (Heap.lt_size (hk1 _ _ e1))
  have nS : s.heap.get? h1.objs.size = none := Heap.get?_none_of_le hp1
  have up : ∀ {g : Heap}, KeepsBut h1.objs.size (h1.push (seqObj "list" acc 0)) g → ∀ b o, s.heap.get? b = some o → g.get? b = some o := fun {g} kp b o q =>
    kp b o (fun z => by rw [z, nS] at q; cases q) (Heap.get?_push_of_some _ (hk1 b o q))
  have hlen2 : acc.toList.length ≤ sizeLine := by rw [Array.length_toList, hi.1, sizeLine_eq]; exact hlen
  have hl3 : (((List.range n).map fun (i : Nat) => (i : Int)).map k).length = acc.toList.length := by rw [List.length_map]; exact e.length.symm
  refine keyH_tree (n := 0) (kz := ((List.range n).map fun (i : Nat) => (i : Int)).map k) (vs := acc.toList) (s := { s with heap := h1.push (seqObj "list" acc 0), toks := tk1 }) (by rw [Array.toArray_toList]; exact Heap.get?_push_size _ rfl) hl3 hlen2
    (AllAlike.of fun b b' => hal b b') (Sortable.others fun b => hsk b) (bound_map (A := A.in1.in1) fun x _ => hu x)
    (keyH_turns (s := { s with heap := h1.push (seqObj "list" acc 0), toks := tk1 }) e fun v x hR hx h tk kp => ?_) fun h' tk out c kp hD ko => ⟨rfl, ?_⟩
  · obtain ⟨i, hi2, rfl⟩ := List.mem_map.mp hx
    have := List.mem_range.mp hi2
    exact turn v i hR (Int.natCast_nonneg i) (by omega) h tk (up kp)
  · exact h out c _ h' tk (up kp) hp1 hD (keyedOut_each k ko e)
/-! ## a text's end as a key: text[place:] in a lambda -/
theorem slice_from {env : Env} {c : Addr} {z : Str} {tz ti : Tok} {i : Int} {tx pl : Str} {m : Str → Option Value} {p1 p2 p3 pos : Pos} {Q : Value → Shared → Prop} (hk : env.scope.kind = .function) (hf : env.kindOf tx = some .free) (hc : env.cells.lookup tx = some c) (hz : s.heap.IsCell c (some (.str z tz)))
    (hl : env.kindOf pl = some .local) (hn : s.heap.Ns env.locals m) (hm : m pl = some (.int i ti)) (hle : z.length ≤ sizeLine) (d1 : (tx == ("__debug__" : Str)) = false) (d2 : (pl == ("__debug__" : Str)) = false) (d3 : (tx == ("__classdict__" : Str)) = false)
    (q : ∀ t h' tk, (∀ b o, s.heap.get? b = some o → h'.get? b = some o) → Q (.str (cutS z (some i) none) t) { s with heap := h', toks := tk }) :
    wpAny (model prog w) A (eval (.Subscript (.Name tx p1) (.Slice (some (.Name pl p2)) none none p3) pos) env) Q E s := by
  refine wpAny_Subscript_str_slice (wpAny_Name (wpAny_loadName_free hk hf hc hz ?_ d3) d1)
  rw [evalPart_some]
  refine wpAny_Name (wpAny_loadName_local hk hl hn hm ?_) d2
  rw [evalPart_none]
  refine wpAny_pure ⟨z, tz, some (i, ti), none, rfl, rfl, rfl, ?_⟩
  have keep : ∀ b o, s.heap.get? b = some o → (s.heap.push { cls := .type "slice", data := .fields #[.int i ti, .none, .none] }).get? b = some o := fun b o e => Heap.get?_push_of_some _ e
  have hl : (PySem.StrLaws.sliceText z (some i) none).length ≤ sizeLine := by
    rw [sliceText_cut]
    exact Nat.le_trans (cutS_length z _ _) hle
  have q' := fun t h' tk k => q t h' tk k
  rw [← sliceText_cut] at q'
  unfold PySem.StrLaws.sliceText at q' hl
  show Made.post (if ((1 : Int) == 1 && (Builtin.Str.strSliceIndices (some i) none 1 z.length).length == z.length) = true then Made.val (.str z tz) else Made.str ⟨((Builtin.Str.strSliceIndices (some i) none 1 z.length).filterMap (z.cps[·]?)).toArray⟩) Q _
  by_cases cc : ((1 : Int) == 1 && (Builtin.Str.strSliceIndices (some i) none 1 z.length).length == z.length) = true
  · rw [if_pos cc] at q' ⊢
    exact q' tz _ _ keep
  · rw [if_neg cc] at q' hl ⊢
    exact ⟨hl, q' _ _ _ keep⟩
end
/-- the lambda, asked for one key -/
theorem lam_key {X : Cx} {pins : List (Addr × Obj)} {σ : L2.St} {H : Hp} {s : Shared} (I : Inv X pins σ H s) {f c' : Addr} {params : Arguments} {scope : Scope} {pm ctv : Value} {N : List Str} {pl tx : Str} {j : Nat} {l : Str} {i : Int} {ti : Tok} {p1 p2 p3 p4 : Pos}
    (S : NdefX.NScope N [pl] [tx] scope) (ho : s.heap.get? f = some (kla_obj "<lambda>" (X.env.qual ++ "<lambda>") params (.Subscript (.Name tx p1) (.Slice (some (.Name pl p2)) none none p3) p4) scope (cloFrom X.env.cells scope.names []) pm c' ctv)) (hc' : H c' = some (LamX.CodeO c' (X.env.qual ++ "<lambda>")))
    (hfree : ∀ y ∈ scope.names, y.2 = .free → X.env.scope.names.lookup y.1 = some .cell ∨ X.env.scope.names.lookup y.1 = some .free) (hfr : (tx, NameKind.free) ∈ scope.names) (hj : X.N[j]? = some tx) (hσ : σ[j]? = some (some (.str l))) (hle : l.length ≤ sizeLine)
    (hbind : ∀ (q : Str) (cl : List (Str × Addr)) (pm cv ctv v : Value), bindArgs (kla_fn "<lambda>" q params (.Subscript (.Name tx p1) (.Slice (some (.Name pl p2)) none none p3) p4) scope cl pm cv ctv) ⟨[v], []⟩ = pure [(pl, v)])
    (hroom : X.A.depth < recursionLimit) (d1 : (tx == ("__debug__" : Str)) = false) (d2 : (pl == ("__debug__" : Str)) = false) (d3 : (tx == ("__classdict__" : Str)) = false) :
    wpAny (model X.prog X.w) X.A.in1.in1 (call (.ref f) [.int i ti]) (KeyPure (.str (cutS l (some i) none)) s) (fun _ _ => False) s := by
  have C := NdefX.cells_of I (NdefX.Caps.made (js := [j]) (fr := [tx]) I.ok hfree (by simpa using hfr) (by simp [hj]))
  obtain ⟨c, hc, hcv⟩ := C.has 0 tx rfl
  obtain ⟨u, ru, hu⟩ := hcv (.str l) (by show some (NdefX.slotAt σ j) = _; rw [NdefX.slotAt_of hσ])
  obtain ⟨tz, rfl⟩ := ru
  refine wpAny_call (kla_callFunE hroom ho rfl S.co S.gen rfl (NdefX.codeO_at I.hok hc') ?_)
  rw [hbind]
  refine wpAny_pure (wpAny_newFunctionEnv (fun y hy => S.nocell y hy) (fun y hy => ?_) (fun h₁ hns hsb => ⟨I.nolimit.fresh _ hsb, ?_⟩) S.kind)
  · rw [List.mem_singleton] at hy
    subst hy
    exact S.par pl (by simp)
  have kp : ∀ b o, s.heap.get? b = some o → h₁.get? b = some o := fun b o e => hsb.extBut b o (Nat.ne_of_lt (Heap.lt_size e)) (Heap.get?_push_of_some _ e)
  obtain ⟨oc, hoc, hdc⟩ := hu
  refine kla_codeExpr (slice_from (s := { s with heap := h₁, toks := _ }) S.kind (S.frk tx (by simp)) hc ⟨oc, kp _ _ hoc, hdc⟩ (S.par pl (by simp)) hns (ti := ti) (i := i) (by show List.lookup pl ([(pl, Value.int i ti)] : List (Str × Value)).reverse = _; simp only [List.reverse_singleton, List.lookup_cons_self]) hle d1 d2 d3 fun t h' tk k => ?_)
  exact ⟨h', tk, rfl, fun b o e => k b o (kp b o e), .str _ _⟩
/-! ## sorted(range(n), key=lambda place: text[place:]) -/
/-- the places below n by the text's ends there -/
def byEnd (l : List Nat) (xs : List Int) : List Int := xs.mergeSort fun a b => decide (cut l (some a) none ≤ cut l (some b) none)
theorem byEnd_eq (l : List Nat) (xs : List Int) : xs.mergeSort (dataLe false fun i => PyData.str (cutS (S l) (some i) none)) = byEnd l xs := by
  unfold byEnd
  rw [dataLe_str]
  refine congrArg (fun r => xs.mergeSort r) ?_
  funext a b
  rw [cutS_S, cutS_S, S_toList, S_toList]
theorem vals_of_each : ∀ {out : List Value} {xs : List Int}, EachIs (fun v (x : Int) => ∃ t, v = .int x t) out xs → Vals (xs.map V.int) out
  | _, _, .nil => .nil
  | _, _, .cons h r => .cons h (vals_of_each r)
theorem byEnd_len (l : List Nat) (xs : List Int) : (byEnd l xs).length = xs.length := by
  unfold byEnd
  rw [List.length_mergeSort]
/-- what a def that makes such a lambda must know -/
structure LamOk (X : Cx) (T : List (Addr × Str)) (params : Arguments) (scope : Scope) (pl tx : Str) : Prop where
  ex : ∃ (c P : Addr) (N : List Str), LamX.TabB X.base X.mg c P ∧ X.env.code = .ref c ∧ (P, X.env.qual ++ "<lambda>") ∈ T ∧ (∀ p ∈ T, p.1 = P → p.2 = X.env.qual ++ "<lambda>") ∧ NdefX.NScope N [pl] [tx] scope
  df : defaultsOf params X.env = ([], [])
  fr : ∀ y ∈ scope.names, y.2 = .free → X.env.scope.names.lookup y.1 = some .cell ∨ X.env.scope.names.lookup y.1 = some .free
  hf : (tx, NameKind.free) ∈ scope.names
section
variable {X : Cx} {σ : L2.St} {F H : Hp} {Q : VK} {tb : TbL}
theorem tab_grow {P c' : Addr} {q : Str} {ps : Array Value} {pos : Pos} (hP : H P = some (.tbl ps)) (hc : H c' = none) (hu : ∀ p ∈ tb, p.1 = P → p.2 = q) : Ex tb H (upd (upd H P (.tbl (ps ++ #[rawInt pos.line, rawInt pos.col, .ref c']))) c' (LamX.CodeO c' q)) := by
  have keep : ∀ a o, H a = some o → (∀ zs, o ≠ .tbl zs) → upd (upd H P (.tbl (ps ++ #[rawInt pos.line, rawInt pos.col, .ref c']))) c' (LamX.CodeO c' q) a = some o := fun a o e n => by
    have h1 : a ≠ c' := ne_of_none e hc
    have h2 : a ≠ P := fun z => by
      subst z
      rw [hP] at e
      cases e
      exact n ps rfl
    rw [upd_ne h1, upd_ne h2, e]
  refine ⟨fun a o e n => keep a o e fun zs z => (by subst z; cases n), fun a e => ?_, fun t p hp => ?_⟩
  · by_cases h1 : a = c'
    · rw [h1]
      exact hc
    by_cases h2 : a = P
    · rw [h2, upd_ne (ne_of_none hP hc), upd_same] at e
      cases e
    · rwa [upd_ne h1, upd_ne h2] at e
  · obtain ⟨zs, g1, g2, g3⟩ := t p hp
    by_cases hq : p.1 = P
    · have eq := hu p hp hq
      rw [hq, hP] at g1
      cases g1
      have el : (ps ++ #[rawInt pos.line, rawInt pos.col, .ref c']).toList = ps.toList ++ [rawInt pos.line, rawInt pos.col, .ref c'] := by simp
      rw [hq, eq]
      refine ⟨_, by rw [upd_ne (ne_of_none hP hc)]; exact upd_same, by rw [el]; exact PySem.TriplesOk_snoc _ _ _ _ g2, fun p' cv hcv => ?_⟩
      rw [el] at hcv
      rcases LamX.among_app _ g2 hcv with z | z
      · obtain ⟨c0, k1, k2⟩ := g3 p' cv z
        rw [eq] at k2
        exact ⟨c0, k1, keep _ _ k2 LamX.codeO_ne⟩
      · exact ⟨c', z, upd_same⟩
    · refine ⟨zs, by rw [upd_ne (ne_of_none g1 hc), upd_ne hq]; exact g1, g2, fun p' cv hcv => ?_⟩
      obtain ⟨c0, k1, k2⟩ := g3 p' cv hcv
      exact ⟨c0, k1, keep _ _ k2 LamX.codeO_ne⟩
/-- the lambda is made -/
theorem lam_made {pins : List (Addr × Obj)} {s : Shared} {c P : Addr} {params : Arguments} {body : Expr} {scope : Scope} {pos : Pos} {E : Value → Shared → Prop} {R : Value → Shared → Prop} (I : Inv X pins σ H s) (TB : LamX.TabB X.base X.mg c P) (hcode : X.env.code = .ref c)
    (hm : (P, X.env.qual ++ "<lambda>") ∈ tb) (hu : ∀ p ∈ tb, p.1 = P → p.2 = X.env.qual ++ "<lambda>") (hT : LamX.Tabs tb H) (hdef : defaultsOf params X.env = ([], [])) (hfree : ∀ y ∈ scope.names, y.2 = .free → ∃ c, X.env.cells.lookup y.1 = some c)
    (h : ∀ (f c' : Addr) (pm ctv : Value) (H1 : Hp) (s' : Shared), Inv X pins σ H1 s' → Ex tb H H1 → (∀ b o, s.heap.get? b = some o → b ≠ P → s'.heap.get? b = some o) → s'.heap.objs.size = f + 1 → (∃ ps, s.heap.get? P = some { cls := .none, data := .fields ps }) →
      s'.heap.get? f = some (kla_obj "<lambda>" (X.env.qual ++ "<lambda>") params body scope (cloFrom X.env.cells scope.names []) pm c' ctv) → H1 c' = some (LamX.CodeO c' (X.env.qual ++ "<lambda>")) → R (.ref f) s') :
    wpAny (model X.prog X.w) X.A (eval (.Lambda params body scope pos) X.env) R E s := by
  obtain ⟨ps, hP, ht, ha⟩ := hT _ hm
  refine kla_eval hdef ?_
  have bP : s.heap.BuiltinsAt X.mg P := TB.bm.keeps I.bk
  have gP : s.heap.get? P = some { cls := .none, data := .fields ps } := I.hok P _ hP
  cases hc : codeAmong pos ps.toList with
  | some cv =>
    obtain ⟨c', rfl, hco⟩ := ha pos cv hc
    refine kla_makeFunctionHit (mg := X.mg) (c := c) (P := P) (ps := ps) (closure_ok hfree) I.ok.glob (I.mod.glob.keeps I.bk) hcode (TB.code.keeps I.bk) gP ht hc bP fun ctv h' tk hx hsz => ?_
    refine h h'.objs.size c' ((X.mg "__name__").getD .none) ctv H _ (I.kept fun b o e => Heap.get?_push_of_some _ (hx b o e)) (Ex.refl H) (fun b o e _ => Heap.get?_push_of_some _ (hx b o e)) (Heap.size_push _ _) ⟨_, gP⟩ (Heap.get?_push_size _ rfl) hco
  | none =>
    refine kla_makeFunction (mg := X.mg) (c := c) (P := P) (ps := ps) (closure_ok hfree) I.ok.glob (I.mod.glob.keeps I.bk) hcode (TB.code.keeps I.bk) gP ht hc TB.gP bP fun c' ctv h' tk hx hge hlt hrec htb => ?_
    obtain ⟨c2, oc, vs, t, e2, hoc, hd, hv⟩ := hrec
    cases e2
    have hsz : s.heap.objs.size ≤ h'.objs.size := Nat.le_trans hge (Nat.le_of_lt hlt)
    refine h h'.objs.size c' ((X.mg "__name__").getD .none) ctv _ _ (LamX.inv_table (t' := tk) (more := #[rawInt pos.line, rawInt pos.col, .ref c']) (h' := h'.push (kla_obj "<lambda>" (X.env.qual ++ "<lambda>") params body scope (cloFrom X.env.cells scope.names []) ((X.mg "__name__").getD .none) c' ctv)) I hP
      (fun b o hb e => Heap.get?_push_of_some _ (hx b o hb e)) (Heap.get?_push_of_some _ htb) hge ⟨oc, vs, t, Heap.get?_push_of_some _ hoc, hd, hv⟩) (tab_grow hP (I.hok.fresh hge) hu) (fun b o e hb => Heap.get?_push_of_some _ (hx b o hb e)) (Heap.size_push _ _) ⟨_, gP⟩ (Heap.get?_push_size _ rfl) upd_same
theorem rng_zero (n : Nat) : ((List.range n).map fun (i : Nat) => (i : Int)) = rng 0 (n : Int) := by
  unfold rng
  rw [Int.sub_zero, Int.toNat_natCast]
  refine List.map_congr_left fun i _ => ?_
  rw [Int.zero_add]
/-- f's answers put the places in order -/
theorem sort_end {pins : List (Addr × Obj)} {s : Shared} {H : Hp} {Q : VK} (I : Inv X pins σ H s) {out : List Value} {c : Nat} {p : Addr} {h' : Heap} {tk : Nat} {xs : List Int} (k : ∀ b o, s.heap.get? b = some o → h'.get? b = some o) (hp : s.heap.objs.size ≤ p)
    (ho : h'.get? p = some (seqObj "list" (List.toArray out) c)) (e : EachIs (fun v (x : Int) => ∃ t, v = .int x t) out xs) (hl : xs.length ≤ sizeLine) (q : H p = none → Q (.ref p) (upd H p (.lst (xs.map V.int)))) : EP X pins σ Q (.ref p) { s with heap := h', toks := tk } :=
  ⟨.ref p, upd H p (.lst (xs.map V.int)), I.laid (t' := tk) k hp ⟨by rw [List.length_map]; exact hl, out, c, vals_of_each e, ho⟩, rfl, q (I.hok.fresh hp)⟩
theorem we_sortR {n m pl tx : Str} {p p2 p3 pos kpos lpos q1 q2 q3 q4 : Pos} {e : Expr} {i : Int} {l : List Nat} {params : Arguments} {scope : Scope} {j : Nat} {c P : Addr} {N : List Str} (Sx : Ex tb F H) (he : EvV X σ H e (.int i)) (h0 : 0 ≤ i) (h1 : i ≤ 16777216) (hσ : σ[j]? = some (some (.str (S l)))) (hl : l.length ≤ sizeLine)
    (hm : X.mg n = none) (hm2 : X.mg m = none) (TB : LamX.TabB X.base X.mg c P) (hcode : X.env.code = .ref c) (hmT : (P, X.env.qual ++ "<lambda>") ∈ tb) (hu : ∀ p ∈ tb, p.1 = P → p.2 = X.env.qual ++ "<lambda>") (hT : LamX.Tabs tb H) (NS : NdefX.NScope N [pl] [tx] scope)
    (hr : Room 1 X.A) (hj : X.N[j]? = some tx) (hfb : NdefX.ndefB X.env.scope scope [tx] = true)
    (hbind : ∀ (q : Str) (cl : List (Str × Addr)) (pm cv ctv v : Value), bindArgs (kla_fn "<lambda>" q params (.Subscript (.Name tx q1) (.Slice (some (.Name pl q2)) none none q3) q4) scope cl pm cv ctv) ⟨[v], []⟩ = pure [(pl, v)])
    (q : ∀ p H', Stp tb F H F H' → H p = none → H' p = some (.lst ((byEnd l (rng 0 i)).map V.int)) → Q (.ref p) H')
    (hn : n = "sorted" := by rfl) (hn2 : m = "range" := by rfl) (hg : Gl X n := by rfl) (hg2 : Gl X m := by rfl) (hdef : defaultsOf params X.env = ([], []) := by rfl) (hs : nStar e = true := by rfl) (hc : X.calm = true := by rfl)
    (d1 : (tx == ("__debug__" : Str)) = false := by decide) (d2 : (pl == ("__debug__" : Str)) = false := by decide) (d3 : (tx == ("__classdict__" : Str)) = false := by decide) :
    WE X σ H (.Call (.Name n p) [.Call (.Name m p2) [e] [] p3] [⟨some "key", .Lambda params (.Subscript (.Name tx q1) (.Slice (some (.Name pl q2)) none none q3) q4) scope lpos, kpos⟩] pos) Q := by
  subst hn hn2
  refine ⟨fun pins s I => ?_⟩
  have hfree := NdefX.ndef_free hfb
  have hfr := NdefX.ndef_fr hfb
  refine wpAny_Call_Name_kw (ld_blt I hg hm (show bootBuiltins ("sorted" : Str) = some (.builtin "sorted") by decide +kernel) ?_)
  refine PyProof.Rows.callWith_kw ?_ (by rfl) (by rfl) (by rfl) (by rfl)
  show wpAny _ _ (spliced ((false, eval (.Call (.Name "range" p2) [e] [] p3) X.env) :: backTo pos (starEach [] X.env))) _ _ s
  refine Calls.spliced_cons (Call_ (ld_blt I hg2 hm2 boot_range (PyProof.Rows.callWith_type1 (thn ((WA.of pa_u (wa_consP he (wa_nil ⟨rfl, rfl⟩) hs : WA X σ H [e] fun vs H' => vs = [V.int i] ∧ H' = H)).run p3 pins s I) fun us s1 hh => ?_) (star_c hs) rfl)))
  obtain ⟨vs, H1, I1, r1, ev, eH⟩ := hh
  subst ev
  rw [eH] at I1
  cases r1 with
  | cons r rr =>
  cases rr
  obtain ⟨t, rfl⟩ := r
  refine call_range_1 ?_
  have I2 : L2.Inv X pins σ H { s1 with heap := s1.heap.push { cls := .type "range", data := .fields #[.int 0 s1.toks, .int i t, .int 1 (s1.toks + 1)] }, toks := s1.toks + 1 + 1 } := I1.kept fun b o e => Heap.get?_push_of_some _ e
  have rg : IsRange (s1.heap.push { cls := .type "range", data := .fields #[.int 0 s1.toks, .int i t, .int 1 (s1.toks + 1)] }) s1.heap.objs.size 0 i 1 s1.toks t (s1.toks + 1) := IsRange.new ..
  refine Calls.spliced_nil ?_
  show wpAny _ _ (evalAll ((do let v ← eval (.Lambda params (.Subscript (.Name tx q1) (.Slice (some (.Name pl q2)) none none q3) q4) scope lpos) X.env; standAt pos; pure v) :: (backToKw pos (keywordEach [] X.env)).map (·.2))) _ _ _
  refine wpAny_evalAll_cons (wpAny_bind (lam_made I2 TB hcode hmT hu hT hdef (fun y hy z => I2.ok.has _ (hfree y hy z)) fun f c' pm ctv H2 s2 I3 X3 k3 hsz hPs ho hco => wpAny_bind (wpAny_standAt (wpAny_pure ?_))))
  refine wpAny_evalAll_nil ?_
  have nrP : s1.heap.objs.size ≠ P := fun z => by
    obtain ⟨ps, hps⟩ := hPs
    rw [← z] at hps
    have z2 := rg.symm.trans hps
    cases z2
  have rg3 : IsRange s2.heap s1.heap.objs.size 0 i 1 s1.toks t (s1.toks + 1) := k3 _ _ rg nrP
  have ei : i = ((i.toNat : Nat) : Int) := by omega
  rw [ei] at rg3
  show wpAny _ _ (call (.builtin "sorted") [.ref s1.heap.objs.size] [(Str.ofString "key", .ref f)]) _ _ s2
  refine sorted_rngK (n := i.toNat) (fun x => PyData.str (cutS (S l) (some x) none)) (I3.ok.hd hc) rg3 ⟨f, _, ho, hsz⟩ (small_one (by decide) (by decide) (by omega) (by omega)) (by rw [rangeSize_one]; split <;> omega) (by omega) (fun _ _ => rfl) (fun _ => ⟨fun z => (by cases z), fun _ z => (by cases z)⟩) ?_ (ksk_s1 _ _) (fun _ => ksk_l1 _ _) (fun a => ksk_t1 f a) ?_ ?_
  · intro x
    have := hr.un
    show X.A.units + 2 + (PyData.str _).depth < cLine
    simp only [PyData.depth]
    omega
  · rintro v x ⟨t', rfl⟩ _ _ h tk kh
    refine lam_key (I3.kept (t' := tk) kh) NS (kh _ _ ho) hco hfree (hfr tx (by simp)) hj hσ (by rw [S_length]; exact hl) hbind ?_ d1 d2 d3
    have := hr.dp
    omega
  · intro out c2 p h' tk kh hp hob he2
    rw [byEnd_eq, rng_zero, ← ei] at he2
    have hxl : (byEnd l (rng 0 i)).length ≤ sizeLine := by
      rw [byEnd_len, rng_len, sizeLine_eq]
      omega
    exact sort_end I3 kh hp hob he2 hxl fun hn => q p _ ((Stp.ofH Sx X3).trans (Stp.own (Sx.trans X3) hn)) (X3.free hn) upd_same
end
end Bk
namespace Bk
open PySem PySem.Spec PySem.W PyProof.Rows L2
/-! ## sorted(xs) of numbers, texts, pairs -/
theorem each_pd {α : Type} {Rr : V → α → Prop} {G : Value → α → Prop} : ∀ {ws : List V} {us : List Value} {xs : List α}, Vals ws us → Paired Rr ws xs → (∀ w u x, w ∈ ws → RelV w u → Rr w x → G u x) → EachIs (fun u x => (∃ w, RelV w u ∧ Rr w x) ∧ G u x) us xs
  | _, _, _, .nil, .nil, _ => .nil
  | _, _, _, .cons r rs, .cons p ps, h => .cons ⟨⟨_, r, p⟩, h _ _ _ (by simp) r p⟩ (each_pd rs ps fun w u x hw => h w u x (by simp [hw]))
theorem pd_each {α : Type} {Rr : V → α → Prop} {G : Value → α → Prop} : ∀ {us : List Value} {xs : List α}, EachIs (fun u x => (∃ w, RelV w u ∧ Rr w x) ∧ G u x) us xs → ∃ ws, Vals ws us ∧ Paired Rr ws xs
  | _, _, .nil => ⟨[], .nil, .nil⟩
  | _, _, .cons ⟨⟨w, r, p⟩, _⟩ h => by
    obtain ⟨ws, a, b⟩ := pd_each h
    exact ⟨w :: ws, .cons r a, .cons p b⟩
theorem vals_len {ws : List V} {us : List Value} (h : Vals ws us) : ws.length = us.length := h.length
def rSortR (X : Cx) {α : Type} (Rr : Hp → V → α → Prop) (enc : α → PyData) : List V → Hp → VK → Prop := fun vs H Q => ∃ (a : Addr) (ws : List V) (xs : List α), vs = [V.ref a] ∧ SqL X.K H a ws ∧ Paired (Rr H) ws xs ∧ (∀ w x, w ∈ ws → Rr H w x → ∀ (P : Program) (w' : World) (h : Heap), HOk P w' H h → ∀ u, RelV w u → ∃ as, Reads h u (enc x) as) ∧
  ∀ p ws', H p = none → Paired (Rr H) ws' (xs.mergeSort (dataLe false enc)) → Q (.ref p) (upd H p (.lst ws'))
theorem cr_sortR {X : Cx} {α : Type} {Rr : Hp → V → α → Prop} {enc : α → PyData} (hal : ∀ x y, alike (enc x) (enc y) = true) (hsk : (∀ x, ∃ d r, enc x = .tuple (d :: r)) ∨ ∀ x, enc x ≠ .none ∧ ∀ xs, enc x ≠ .tuple xs) (hu : ∀ x, X.A.units + 2 + (enc x).depth < cLine) : CallR X (.builtin "sorted") (rSortR X Rr enc) := by
  intro pins s σ H vs us Q I r h
  obtain ⟨a, ws, xs, rfl, hs, hp, hre, q⟩ := h
  obtain ⟨its, rv, hl, hz⟩ := I.list hs
  rw [Vals.ref1 r]
  have e := each_pd (G := fun u x => ∃ as, Reads s.heap u (enc x) as) rv hp fun w u x hw hr hx => hre w x hw hx _ _ _ I.hok u hr
  have hlx : its.length = xs.length := e.length
  refine sorted_data (A := X.A) hl.isList e (e.mono fun u x h => h.2) (AllAlike.of hal) (by
    rcases hsk with h | h
    · exact Sortable.tuples h
    · exact Sortable.others h) (by rw [← hlx, ← vals_len rv]; exact hz) (fun x _ => hu x) fun out ho eo => ?_
  obtain ⟨ws', g1, g2⟩ := pd_each eo
  obtain ⟨ep, he'⟩ := PyProof.Rows.sortedAll_at s.heap its out.toArray
  have hlen : ws'.length ≤ sizeLine := by
    rw [vals_len g1, ho, ← hlx, ← vals_len rv]
    exact hz
  exact ⟨.ref _, upd H (s.heap.objs.size + 1) (.lst ws'), I.laid (t' := s.toks) (fun _ _ => PyProof.Rows.sortedAll_old) (Nat.le_succ _) ⟨hlen, out, ep, g1, by simpa using he'⟩, rfl, q _ _ (I.hok.fresh (Nat.le_succ _)) g2⟩
/-- in order: numbers, texts, pairs -/
def sortI (xs : List Int) : List Int := xs.mergeSort fun a b => decide (a ≤ b)
def sortS (xs : List (List Nat)) : List (List Nat) := xs.mergeSort fun a b => decide (a ≤ b)
def leSI (p q : List Nat × Int) : Bool := decide (p.1 < q.1 ∨ (p.1 = q.1 ∧ p.2 ≤ q.2))
def leII (p q : Int × Int) : Bool := decide (p.1 < q.1 ∨ (p.1 = q.1 ∧ p.2 ≤ q.2))
def sortSI (xs : List (List Nat × Int)) : List (List Nat × Int) := xs.mergeSort leSI
def sortII (xs : List (Int × Int)) : List (Int × Int) := xs.mergeSort leII
theorem dl_S : dataLe false (fun x : List Nat => PyData.str (S x)) = fun a b => decide (a ≤ b) := by
  rw [dataLe_str]
  funext a b
  rw [S_toList, S_toList]
theorem dl_SI : dataLe false (fun x : List Nat × Int => PyData.tuple [.str (S x.1), .int x.2]) = leSI := by
  funext p q
  show (!dataLt (.tuple [.str (S q.1), .int q.2]) (.tuple [.str (S p.1), .int p.2])) = _
  rw [dataLt_pair (by simp [alike]) (by simp [alike]), dataLt_str, dataLt_int]
  simp only [PyData.eqv, beq_iff_eq, S_toList]
  unfold leSI
  by_cases e : q.1 = p.1
  · rw [e]
    simp only [if_true, true_and, List.lt_irrefl, false_or]
    by_cases e2 : q.2 = p.2
    · rw [e2]
      simp
    · rw [if_neg e2]
      by_cases h : q.2 < p.2
      · simp [h]
      · have : p.2 ≤ q.2 := by omega
        simp [h, this]
  · have e' : ¬ S q.1 = S p.1 := fun z => e (S_inj z)
    have e3 : ¬ p.1 = q.1 := fun z => e z.symm
    rw [if_neg e']
    by_cases h : q.1 < p.1
    · have h2 : ¬ p.1 < q.1 := List.lt_asymm h
      simp [h, h2, e3]
    · have h2 : p.1 < q.1 := by
        rcases Std.lt_trichotomy p.1 q.1 with z | z | z
        · exact z
        · exact absurd z e3
        · exact absurd z h
      simp [h, h2]
theorem dl_II : dataLe false (fun x : Int × Int => PyData.tuple [.int x.1, .int x.2]) = leII := dataLe_ii _ _
end Bk
namespace Bk
open PySem PySem.Spec PySem.W PyProof.Rows L2
/-! ## == of nested data -/
/-- what stands for data: its words, told apart just where the data are -/
structure En {α : Type} [DecidableEq α] (enc : α → PyData) (ok : α → Bool) (n : Nat) : Prop where
  eq : ∀ x y, PyData.eqv (enc x) (enc y) = decide (x = y)
  cl : ∀ x, ok x = true → (enc x).canLay0 = true
  dp : ∀ x, (enc x).depth ≤ n
def eI : Int → PyData := .int
def eB : Bool → PyData := .bool
def eS (l : List Nat) : PyData := .str (S l)
def eO {α : Type} (e : α → PyData) : Option α → PyData
  | none => .none
  | some x => e x
def eL {α : Type} (e : α → PyData) (xs : List α) : PyData := .list (xs.map e)
def e2 {α β : Type} (e : α → PyData) (f : β → PyData) (x : α × β) : PyData := .tuple [e x.1, f x.2]
def e3 {α β γ : Type} (e : α → PyData) (f : β → PyData) (g : γ → PyData) (x : α × β × γ) : PyData := .tuple [e x.1, f x.2.1, g x.2.2]
def kT {α : Type} : α → Bool := fun _ => true
def kS (l : List Nat) : Bool := (eS l).canLay0
def kO {α : Type} (k : α → Bool) : Option α → Bool
  | none => true
  | some x => k x
def kL {α : Type} (k : α → Bool) (xs : List α) : Bool := xs.all k
def k2 {α β : Type} (k : α → Bool) (l : β → Bool) (x : α × β) : Bool := k x.1 && l x.2
def k3 {α β γ : Type} (k : α → Bool) (l : β → Bool) (m : γ → Bool) (x : α × β × γ) : Bool := k x.1 && (l x.2.1 && m x.2.2)
theorem en_I : En eI kT 0 := ⟨fun x y => by
  show (x == y) = _
  by_cases h : x = y <;> simp [h], fun _ _ => rfl, fun _ => Nat.le_refl _⟩
theorem en_B : En eB kT 0 := ⟨fun x y => by
  show (x == y) = _
  by_cases h : x = y <;> simp [h], fun _ _ => rfl, fun _ => Nat.le_refl _⟩
theorem en_S : En eS kS 0 := ⟨fun x y => by
  show (S x == S y) = _
  by_cases h : x = y
  · simp [h]
  · have h2 : S x ≠ S y := fun z => h (S_inj z)
    simp [h, h2], fun _ h => h, fun _ => Nat.le_refl _⟩
theorem en_OI : En (eO eI) kT 0 := ⟨fun x y => by
  cases x <;> cases y
  · rfl
  · rfl
  · rfl
  · rename_i a b
    exact (en_I.eq a b).trans (by simp), fun x _ => by cases x <;> rfl, fun x => by cases x <;> exact Nat.le_refl _⟩
theorem en_OS : En (eO eS) (kO kS) 0 := ⟨fun x y => by
  cases x <;> cases y
  · rfl
  · rfl
  · rfl
  · rename_i a b
    exact (en_S.eq a b).trans (by simp), fun x h => by
    cases x with
    | none => rfl
    | some x => exact h, fun x => by cases x <;> exact Nat.le_refl _⟩
section
variable {α β γ : Type} [DecidableEq α] [DecidableEq β] [DecidableEq γ] {e : α → PyData} {f : β → PyData} {g : γ → PyData} {k : α → Bool} {l : β → Bool} {m : γ → Bool} {n n1 n2 n3 : Nat}
theorem en_all (h : En e k n) : ∀ xs ys : List α, PyData.eqvAll (xs.map e) (ys.map e) = decide (xs = ys)
  | [], [] => rfl
  | [], y :: ys => rfl
  | x :: xs, [] => rfl
  | x :: xs, y :: ys => by
    show (PyData.eqv (e x) (e y) && PyData.eqvAll (xs.map e) (ys.map e)) = _
    rw [h.eq, en_all h xs ys]
    by_cases h1 : x = y
    · by_cases h2 : xs = ys <;> simp [h1, h2]
    · simp [h1]
theorem en_L (h : En e k n) : En (eL e) (kL k) (n + 1) := ⟨fun x y => en_all h x y, fun xs hk => by
  show PyData.canLayAll0 (xs.map e) = true
  unfold kL at hk
  induction xs with
  | nil => rfl
  | cons x xs ih =>
    rw [List.all_cons, Bool.and_eq_true] at hk
    show ((e x).canLay0 && PyData.canLayAll0 (xs.map e)) = true
    rw [h.cl x hk.1, ih hk.2]
    rfl, fun xs => by
  show PyData.depthAll (xs.map e) + 1 ≤ n + 1
  refine Nat.succ_le_succ ?_
  induction xs with
  | nil => exact Nat.zero_le _
  | cons x xs ih =>
    show max (e x).depth (PyData.depthAll (xs.map e)) ≤ n
    exact Nat.max_le.2 ⟨h.dp x, ih⟩⟩
theorem en_2 (h1 : En e k n1) (h2 : En f l n2) : En (e2 e f) (k2 k l) (max n1 n2 + 1) := ⟨fun x y => by
  show (PyData.eqv (e x.1) (e y.1) && (PyData.eqv (f x.2) (f y.2) && true)) = _
  rw [h1.eq, h2.eq, Bool.and_true]
  obtain ⟨a, b⟩ := x
  obtain ⟨c, d⟩ := y
  by_cases h1 : a = c <;> by_cases h2 : b = d <;> simp [h1, h2], fun x hk => by
  unfold k2 at hk
  rw [Bool.and_eq_true] at hk
  show ((e x.1).canLay0 && ((f x.2).canLay0 && true)) = true
  rw [h1.cl _ hk.1, h2.cl _ hk.2]
  rfl, fun x => by
  have a := h1.dp x.1
  have b := h2.dp x.2
  show max (e x.1).depth (max (f x.2).depth 0) + 1 ≤ _
  omega⟩
theorem en_3 (h1 : En e k n1) (h2 : En f l n2) (h3 : En g m n3) : En (e3 e f g) (k3 k l m) (max n1 (max n2 n3) + 1) := ⟨fun x y => by
  show (PyData.eqv (e x.1) (e y.1) && (PyData.eqv (f x.2.1) (f y.2.1) && (PyData.eqv (g x.2.2) (g y.2.2) && true))) = _
  rw [h1.eq, h2.eq, h3.eq, Bool.and_true]
  obtain ⟨a, b, c⟩ := x
  obtain ⟨a', b', c'⟩ := y
  by_cases h1 : a = a' <;> by_cases h2 : b = b' <;> by_cases h3 : c = c' <;> simp [h1, h2, h3], fun x hk => by
  unfold k3 at hk
  rw [Bool.and_eq_true, Bool.and_eq_true] at hk
  show ((e x.1).canLay0 && ((f x.2.1).canLay0 && ((g x.2.2).canLay0 && true))) = true
  rw [h1.cl _ hk.1, h2.cl _ hk.2.1, h3.cl _ hk.2.2]
  rfl, fun x => by
  have a := h1.dp x.1
  have b := h2.dp x.2.1
  have c := h3.dp x.2.2
  show max (e x.1).depth (max (f x.2.1).depth (max (g x.2.2).depth 0)) + 1 ≤ _
  omega⟩
end
/-- a value that stands for x is x's words -/
abbrev Rd' {α : Type} (R : Hp → V → α → Prop) (enc : α → PyData) : Prop := ∀ (K : PySem.W.Frag) (H : Hp) v x, R H v x → Dp K H v (enc x)
theorem dp_I : Rd' (fl V.int) eI := fun _ _ _ _ h => by subst h; exact .int _
theorem dp_B : Rd' (fl V.bl) eB := fun _ _ _ _ h => by subst h; exact .bl _
theorem dp_S : Rd' (fl sV) eS := fun _ _ _ _ h => by subst h; exact .str _
theorem dp_OI : Rd' (fl (oV V.int)) (eO eI) := fun _ _ _ x h => by
  subst h
  cases x
  · exact .non
  · exact .int _
theorem dp_OS : Rd' (fl (oV sV)) (eO eS) := fun _ _ _ x h => by
  subst h
  cases x
  · exact .non
  · exact .str _
theorem dp_allF {α : Type} {f : α → V} {e : α → PyData} (d : Rd' (fl f) e) {K : PySem.W.Frag} {H : Hp} : ∀ xs : List α, DpAll K H (xs.map f) (xs.map e)
  | [] => .nil
  | x :: xs => .cons (d K H _ x rfl) (dp_allF d xs)
theorem dp_allR {α : Type} {R : Hp → V → α → Prop} {e : α → PyData} (d : Rd' R e) {K : PySem.W.Frag} {H : Hp} : ∀ {ws : List V} {xs : List α}, Paired (R H) ws xs → DpAll K H ws (xs.map e)
  | _, _, .nil => .nil
  | _, _, .cons h r => .cons (d K H _ _ h) (dp_allR d r)
theorem dp_Lf {α : Type} {f : α → V} {e : α → PyData} (d : Rd' (fl f) e) : Rd' (rLf f) (eL e) := fun K H v x h => by
  obtain ⟨p, rfl, h⟩ := h
  exact .lst (sq_of h) (dp_allF d x)
theorem dp_L {α : Type} {R : Hp → V → α → Prop} {e : α → PyData} (d : Rd' R e) : Rd' (rL R) (eL e) := fun K H v x h => by
  obtain ⟨p, ws, rfl, h, hp⟩ := h
  exact .lst (sq_of h) (dp_allR d hp)
theorem dp_2 {α β : Type} {R : Hp → V → α → Prop} {R' : Hp → V → β → Prop} {e : α → PyData} {f : β → PyData} (d : Rd' R e) (d' : Rd' R' f) : Rd' (rT2 R R') (e2 e f) := fun K H v x h => by
  obtain ⟨p, a, b, rfl, h, h1, h2⟩ := h
  exact .tup (st_of h) (.cons (d K H _ _ h1) (.cons (d' K H _ _ h2) .nil))
theorem dp_3 {α β γ : Type} {R : Hp → V → α → Prop} {R' : Hp → V → β → Prop} {R'' : Hp → V → γ → Prop} {e : α → PyData} {f : β → PyData} {g : γ → PyData} (d : Rd' R e) (d' : Rd' R' f) (d'' : Rd' R'' g) : Rd' (rT3 R R' R'') (e3 e f g) := fun K H v x h => by
  obtain ⟨p, a, b, c, rfl, h, h1, h2, h3⟩ := h
  exact .tup (st_of h) (.cons (d K H _ _ h1) (.cons (d' K H _ _ h2) (.cons (d'' K H _ _ h3) .nil)))
section
variable {X : Cx} {σ : L2.St} {H : Hp} {a b : Expr} {v w : V} {Q : VK} {α : Type} [DecidableEq α] {R : Hp → V → α → Prop} {enc : α → PyData} {k : α → Bool} {n j : Nat} {x y : α}
theorem sh_of (en : En enc k n) (hn : n ≤ 64) (hx : k x = true) : SeqAt.shaped (enc x) = true := by
  unfold SeqAt.shaped
  rw [en.cl x hx, decide_eq_true (Nat.le_trans (en.dp x) hn)]
  rfl
theorem ec_eqD (hr : Room j X.A) (ha : EvV X σ H a v) (hb : EvV X σ H b w) (ra : R H v x) (rb : R H w y) (dp : Rd' R enc) (en : En enc k n) (hx : k x = true) (hy : k y = true) (hn : n ≤ 64 := by decide) : EvC X σ H .Eq a b (decide (x = y)) :=
  ec_of (op_eqD hr.units) ha hb (fun _ q => ⟨enc x, enc y, dp _ _ _ _ ra, dp _ _ _ _ rb, sh_of en hn hx, sh_of en hn hy, by rw [en.eq]; exact q⟩) (nomark _)
theorem ec_neD (hr : Room j X.A) (ha : EvV X σ H a v) (hb : EvV X σ H b w) (ra : R H v x) (rb : R H w y) (dp : Rd' R enc) (en : En enc k n) (hx : k x = true) (hy : k y = true) (hn : n ≤ 64 := by decide) : EvC X σ H .NotEq a b (!decide (x = y)) :=
  ec_of (op_neD hr.units) ha hb (fun _ q => ⟨enc x, enc y, dp _ _ _ _ ra, dp _ _ _ _ rb, sh_of en hn hx, sh_of en hn hy, by rw [en.eq]; exact q⟩) (nomark _)
theorem fin_eqD (ra : R H v x) (rb : R H w y) (dp : Rd' R enc) (en : En enc k n) (hx : k x = true) (hy : k y = true) (hn : n ≤ 64) (q : Q (.bl (decide (x = y))) H) : rEqD X.K v w H Q :=
  ⟨enc x, enc y, dp _ _ _ _ ra, dp _ _ _ _ rb, sh_of en hn hx, sh_of en hn hy, by rw [en.eq]; exact q⟩
theorem fin_neD (ra : R H v x) (rb : R H w y) (dp : Rd' R enc) (en : En enc k n) (hx : k x = true) (hy : k y = true) (hn : n ≤ 64) (q : Q (.bl (!decide (x = y))) H) : rNeD X.K v w H Q :=
  ⟨enc x, enc y, dp _ _ _ _ ra, dp _ _ _ _ rb, sh_of en hn hx, sh_of en hn hy, by rw [en.eq]; exact q⟩
end
end Bk
namespace Bk
open PySem PySem.Spec PyProof.Rows L2
/-! ## a list is changed -/
structure MutAt (H H' : Hp) (d : Addr) (o : HO) : Prop where
  at_ : H' d = some o
  ne : ∀ a, a ≠ d → H' a = H a
  eq : H' = upd H d o
theorem MutAt.mk' {H : Hp} {d : Addr} {o : HO} : MutAt H (upd H d o) d o := ⟨upd_same, fun _ h => upd_ne h, rfl⟩
theorem MutAt.up {H H' : Hp} {d a : Addr} {o u : HO} (m : MutAt H H' d o) (h : H a = some u) (n : a ≠ d) : H' a = some u := (m.ne a n).trans h
theorem Stp.muA {tb : TbL} {F H F' H1 H' : Hp} {d : Addr} {o o' : HO} (T : Stp tb F H F' H1) (h0 : H d = none) (hf : F' d = none) (hd : H1 d = some o') (m : MutAt H1 H' d o) (n : pO o' = true := by rfl) : Stp tb F H F' H' := by
  rw [m.eq]
  exact T.mut h0 hf hd n
section
variable {X : Cx} {σ : L2.St} {H H0 F : Hp} {e o a b : Expr} {es : List Expr} {pos apos cpos : Pos} {v x y z : V} {Q : VK} {D : Ends} {d : Addr} {n : Str} {p p3 : Pos}
theorem ty_l {ws : List V} (h : SqL X.K H d ws) : tyV X.K "list" (.ref d) H := Or.inl ⟨rfl, _, h⟩
theorem we_bm {T id : String} {name : Str} {r : V → List V → Hp → VK → Prop} (pa : PlainAttrs T) (slot : Slot T name id) (hty : typeOf (.builtin id) = pure (.type "method_descriptor")) (hm : MtR X id r) (ho : EvV X σ H o x) (ht : tyV X.K T x H) (h : WA X σ H (e :: es) fun vs H1 => r x vs H1 Q)
    (hn : nCall o = true := by rfl) (hfew : ((backTo cpos (starEach (e :: es) X.env)).all (fun x => !x.1) && (backToKw cpos (keywordEach [] X.env)).all (fun x => x.1.isSome) && decide ((e :: es).length + ([] : List Keyword).length + (if ([] : List Keyword).isEmpty then 0 else 1) < 30)) = true := by rfl)
    (hline : (apos.endLine == cpos.line) = true := by rfl) (he : nStar e = true := by rfl) (hpl : es.all nStar = true := by rfl) : WE X σ H (.Call (.Attribute o name apos) (e :: es) [] cpos) Q :=
  WE.of (pe_bm pa slot hty hm pe_u pa_u (ab_n hn) hfew hline (star_c he) (star_n hpl)) (ho.p ⟨ht, h⟩)
theorem we_bm0 {T id : String} {name : Str} {r : V → List V → Hp → VK → Prop} (pa : PlainAttrs T) (slot : Slot T name id) (hty : typeOf (.builtin id) = pure (.type "method_descriptor")) (hm : MtR X id r) (ho : EvV X σ H o x) (ht : tyV X.K T x H) (h : r x [] H Q)
    (hn : nCall o = true := by rfl) (hline : (apos.endLine == cpos.line) = true := by rfl) : WE X σ H (.Call (.Attribute o name apos) [] [] cpos) Q :=
  WE.of (pe_bm0 pa slot hty hm pe_u (ab_n hn) hline) (ho.p ⟨ht, h⟩)
theorem few1 (he : nStar e = true) {env : Env} : ((backTo cpos (starEach [e] env)).all (fun x => !x.1) && (backToKw cpos (keywordEach [] env)).all (fun x => x.1.isSome) && decide (([e] : List Expr).length + ([] : List Keyword).length + (if ([] : List Keyword).isEmpty then 0 else 1) < 30)) = true := by
  rw [star_1 he]
  rfl
theorem few2 (he : nStar a = true) (hb : nStar b = true) {env : Env} : ((backTo cpos (starEach [a, b] env)).all (fun x => !x.1) && (backToKw cpos (keywordEach [] env)).all (fun x => x.1.isSome) && decide (([a, b] : List Expr).length + ([] : List Keyword).length + (if ([] : List Keyword).isEmpty then 0 else 1) < 30)) = true := by
  rw [star_2 he hb]
  rfl
theorem we_appF {α : Type} {f : α → V} {ws : List V} (ho : EvV X σ H o (.ref d)) (hd : H d = some (.lst ws)) (h : WE X σ H e fun y H1 => ∃ (x : α) (xs : List α), y = f x ∧ H1 d = some (.lst (xs.map f)) ∧ xs.length < 16777216 ∧ ∀ H', MutAt H1 H' d (.lst ((xs ++ [x]).map f)) → Q .non H')
    (hn : nCall o = true := by rfl) (hline : (apos.endLine == cpos.line) = true := by rfl) (he : nStar e = true := by rfl) : WE X σ H (.Call (.Attribute o "append" apos) [e] [] cpos) Q :=
  we_bm PySem.F.plainAttrs_list PySem.F.slot_list_append PySem.F.type_list_append mt_append ho (ty_l (sq_of hd)) (wa_cons (h.mono fun y H1 ⟨x, xs, e1, e2, e3, q⟩ => wa_nil ⟨d, _, y, rfl, rfl, e2, by rw [List.length_map]; exact sz_lt e3, by
    subst e1
    have q' := q _ MutAt.mk'
    rwa [List.map_append] at q'⟩) he) hn (few1 he) hline he rfl
theorem we_appR {ws : List V} (ho : EvV X σ H o (.ref d)) (hd : H d = some (.lst ws)) (h : WE X σ H e fun y H1 => ∃ ws', H1 d = some (.lst ws') ∧ ws'.length < 16777216 ∧ ∀ H', MutAt H1 H' d (.lst (ws' ++ [y])) → Q .non H')
    (hn : nCall o = true := by rfl) (hline : (apos.endLine == cpos.line) = true := by rfl) (he : nStar e = true := by rfl) : WE X σ H (.Call (.Attribute o "append" apos) [e] [] cpos) Q :=
  we_bm PySem.F.plainAttrs_list PySem.F.slot_list_append PySem.F.type_list_append mt_append ho (ty_l (sq_of hd)) (wa_cons (h.mono fun y H1 ⟨ws', e2, e3, q⟩ => wa_nil ⟨d, _, y, rfl, rfl, e2, sz_lt e3, q _ MutAt.mk'⟩) he) hn (few1 he) hline he rfl
/-- xs.insert(i, y), 0 ≤ i -/
def insA {α : Type} (xs : List α) (i : Int) (y : α) : List α := xs.take i.toNat ++ [y] ++ xs.drop i.toNat
theorem we_insF {α : Type} {f : α → V} {ws : List V} (ho : EvV X σ H o (.ref d)) (hd : H d = some (.lst ws)) (h : WA X σ H [a, b] fun vs H1 => ∃ (i : Int) (x : α) (xs : List α), vs = [.int i, f x] ∧ H1 d = some (.lst (xs.map f)) ∧ xs.length < 16777216 ∧ 0 ≤ i ∧ i < 2 ^ 63 ∧ ∀ H', MutAt H1 H' d (.lst ((insA xs i x).map f)) → Q .non H')
    (hn : nCall o = true := by rfl) (hline : (apos.endLine == cpos.line) = true := by rfl) (he : nStar a = true := by rfl) (hb : nStar b = true := by rfl) : WE X σ H (.Call (.Attribute o "insert" apos) [a, b] [] cpos) Q :=
  we_bm PySem.F.plainAttrs_list PySem.F.slot_list_insert PySem.F.type_list_insert mt_insert ho (ty_l (sq_of hd)) ⟨fun pos pins s I => thn (h.run pos pins s I) fun us s1 ⟨vs, H1, I1, r1, i, x, xs, e1, e2, e3, e4, e5, q⟩ => ⟨vs, H1, I1, r1, d, _, i, f x, rfl, e1, e2, by rw [List.length_map]; exact sz_lt e3, e4, e5, by
    have q' := q _ MutAt.mk'
    unfold insA at q'
    rwa [List.map_append, List.map_append, List.map_take, List.map_drop] at q'⟩⟩ hn (few2 he hb) hline he (by simp [hb])
/-- xs.pop() -/
theorem we_popF {α : Type} {f : α → V} {xs : List α} {y : α} (ho : EvV X σ H o (.ref d)) (hd : H d = some (.lst (xs.map f))) (hy : xs.getLast? = some y) (q : ∀ H', MutAt H H' d (.lst (xs.dropLast.map f)) → Q (f y) H') (hn : nCall o = true := by rfl) (hline : (apos.endLine == cpos.line) = true := by rfl) :
    WE X σ H (.Call (.Attribute o "pop" apos) [] [] cpos) Q :=
  we_bm0 PySem.F.plainAttrs_list PySem.F.slot_list_pop PySem.F.type_list_pop mt_pop ho (ty_l (sq_of hd)) ⟨d, _, f y, rfl, rfl, hd, by
    rw [List.length_map, List.getElem?_map, ← List.getLast?_eq_getElem?, hy]
    rfl, by
    have q' := q _ MutAt.mk'
    rwa [List.map_dropLast] at q'⟩ hn hline
/-- xs.pop(i) -/
theorem we_popAtF {α : Type} {f : α → V} {ws : List V} (ho : EvV X σ H o (.ref d)) (hd : H d = some (.lst ws)) (h : WE X σ H e fun v H1 => ∃ (i : Int) (k : Nat) (xs : List α) (y : α), v = .int i ∧ H1 d = some (.lst (xs.map f)) ∧ xs.length ≤ 16777216 ∧ ixN xs.length i = some k ∧ xs[k]? = some y ∧ ∀ H', MutAt H1 H' d (.lst ((xs.eraseIdx k).map f)) → Q (f y) H')
    (hn : nCall o = true := by rfl) (hline : (apos.endLine == cpos.line) = true := by rfl) (he : nStar e = true := by rfl) : WE X σ H (.Call (.Attribute o "pop" apos) [e] [] cpos) Q :=
  we_bm PySem.F.plainAttrs_list PySem.F.slot_list_pop PySem.F.type_list_pop mt_popAt ho (ty_l (sq_of hd)) (wa_cons (h.mono fun v H1 ⟨i, k, xs, y, e1, e2, e3, e4, e5, q⟩ => wa_nil (by
    obtain ⟨h1, h2, h3, h4⟩ := ixN_seq e4
    refine ⟨d, _, i, k, f y, rfl, by rw [e1], e2, by omega, by omega, by rw [List.length_map]; exact h1, by rw [List.getElem?_map, e5]; rfl, ?_⟩
    have q' := q _ MutAt.mk'
    have el : (xs.eraseIdx k).map f = (xs.map f).eraseIdx k := by
      rw [List.eraseIdx_eq_take_drop_succ, List.eraseIdx_eq_take_drop_succ, List.map_append, List.map_take, List.map_drop]
    rwa [el] at q')) he) hn (few1 he) hline he rfl
theorem we_revF {α : Type} {f : α → V} {xs : List α} (ho : EvV X σ H o (.ref d)) (hd : H d = some (.lst (xs.map f))) (q : ∀ H', MutAt H H' d (.lst (xs.reverse.map f)) → Q .non H') (hn : nCall o = true := by rfl) (hline : (apos.endLine == cpos.line) = true := by rfl) :
    WE X σ H (.Call (.Attribute o "reverse" apos) [] [] cpos) Q :=
  we_bm0 PySem.F.plainAttrs_list PySem.F.slot_list_reverse PySem.F.type_list_reverse mt_reverse ho (ty_l (sq_of hd)) ⟨d, _, rfl, rfl, hd, by
    have q' := q _ MutAt.mk'
    rwa [List.map_reverse] at q'⟩ hn hline
theorem pd_rev {β : Type} {R : V → β → Prop} : ∀ {ws : List V} {xs : List β}, Paired R ws xs → Paired R ws.reverse xs.reverse
  | _, _, .nil => .nil
  | _, _, .cons h r => by
    rw [List.reverse_cons, List.reverse_cons]
    exact pd_snoc (pd_rev r) h
theorem we_revR {ws : List V} (ho : EvV X σ H o (.ref d)) (hd : H d = some (.lst ws)) (q : ∀ H', MutAt H H' d (.lst ws.reverse) → Q .non H') (hn : nCall o = true := by rfl) (hline : (apos.endLine == cpos.line) = true := by rfl) :
    WE X σ H (.Call (.Attribute o "reverse" apos) [] [] cpos) Q :=
  we_bm0 PySem.F.plainAttrs_list PySem.F.slot_list_reverse PySem.F.type_list_reverse mt_reverse ho (ty_l (sq_of hd)) ⟨d, _, rfl, rfl, hd, q _ MutAt.mk'⟩ hn hline
/-- xs[i] = y -/
theorem ws_setF {α : Type} {f : α → V} {i : Expr} (h : WE X σ H e fun y H1 => WE X σ H1 o fun u H2 => WE X σ H2 i fun k H3 => ∃ (x : α) (xs : List α) (m : Int) (j : Nat), y = f x ∧ u = .ref d ∧ k = .int m ∧ H3 d = some (.lst (xs.map f)) ∧ ixN xs.length m = some j ∧ ∀ H', MutAt H3 H' d (.lst ((xs.set j x).map f)) → D.nx σ H')
    (hgg : PG X (.Subscript o i p3) (gSub (uE X o) (uE X i) rSetL) := by exact pg_sub pe_u pe_u set_list) (hs : nComp e = true := by rfl) (hn : swapsWithSole [.Subscript o i p3] e pos.line X.env = pure false := by rfl) (hw : swappedStores [.Subscript o i p3] e X.env = pure none := by rfl) : WS X σ H (.Assign [.Subscript o i p3] e pos) D := by
  refine ws_asgG hgg (h.mono fun y H1 q1 => ?_) hs hn hw rfl
  refine WE.mono q1 fun u H2 q2 => ?_
  refine WE.mono q2 fun k H3 q3 => ?_
  obtain ⟨x, xs, m, j, e1, e2, e3, e4, e5, q4⟩ := q3
  refine ⟨d, _, m, j, e2, e3, e4, by rw [List.length_map]; exact e5, ?_⟩
  subst e1
  have q' := q4 _ MutAt.mk'
  rwa [List.map_set] at q'
theorem ws_setR {i : Expr} (h : WE X σ H e fun y H1 => WE X σ H1 o fun u H2 => WE X σ H2 i fun k H3 => ∃ (ws : List V) (m : Int) (j : Nat), u = .ref d ∧ k = .int m ∧ H3 d = some (.lst ws) ∧ ixN ws.length m = some j ∧ ∀ H', MutAt H3 H' d (.lst (ws.set j y)) → D.nx σ H')
    (hgg : PG X (.Subscript o i p3) (gSub (uE X o) (uE X i) rSetL) := by exact pg_sub pe_u pe_u set_list) (hs : nComp e = true := by rfl) (hn : swapsWithSole [.Subscript o i p3] e pos.line X.env = pure false := by rfl) (hw : swappedStores [.Subscript o i p3] e X.env = pure none := by rfl) : WS X σ H (.Assign [.Subscript o i p3] e pos) D := by
  refine ws_asgG hgg (h.mono fun y H1 q => ?_) hs hn hw rfl
  refine WE.mono q fun u H2 q => ?_
  refine WE.mono q fun k H3 q => ?_
  obtain ⟨ws, m, j, e2, e3, e4, e5, q⟩ := q
  exact ⟨d, _, m, j, e2, e3, e4, e5, q _ MutAt.mk'⟩
theorem pd_set {β : Type} {R : V → β → Prop} {v : V} {y : β} : ∀ {ws : List V} {xs : List β} {j : Nat}, Paired R ws xs → R v y → Paired R (ws.set j v) (xs.set j y)
  | _, _, _, .nil, _ => .nil
  | _, _, 0, .cons _ r, h => .cons h r
  | _, _, j + 1, .cons a r, h => .cons a (pd_set (j := j) r h)
/-! ## list(xs) -/
theorem we_copyF {α : Type} {f : α → V} {xs : List α} {tb : TbL} (Sx : Ex tb F H) (ho : EvV X σ H e (.ref d)) (hd : SqL X.K H d (xs.map f)) (hm : X.mg n = none) (q : ∀ p H', Stp tb F H F H' → H p = none → H' p = some (.lst (xs.map f)) → Q (.ref p) H') (hn : n = "list" := by rfl) (hg : Gl X n := by rfl) (he : nStar e = true := by rfl) :
    WE X σ H (.Call (.Name n p) [e] [] pos) Q := by
  subst hn
  exact we_ty call_list_of hm (by decide +kernel) (wa_consP ho (wa_nil ⟨d, _, rfl, .inl hd, fun l hl => q l _ (Stp.own Sx hl) hl upd_same⟩) he) hg (by decide) (by decide) he rfl
theorem we_copyR {ws : List V} {tb : TbL} (Sx : Ex tb F H) (ho : EvV X σ H e (.ref d)) (hd : SqL X.K H d ws) (hm : X.mg n = none) (q : ∀ p H', Stp tb F H F H' → H p = none → H' p = some (.lst ws) → Q (.ref p) H') (hn : n = "list" := by rfl) (hg : Gl X n := by rfl) (he : nStar e = true := by rfl) :
    WE X σ H (.Call (.Name n p) [e] [] pos) Q := by
  subst hn
  exact we_ty call_list_of hm (by decide +kernel) (wa_consP ho (wa_nil ⟨d, _, rfl, .inl hd, fun l hl => q l _ (Stp.own Sx hl) hl upd_same⟩) he) hg (by decide) (by decide) he rfl
/-! ## sorted(xs) -/
theorem hu_of {j : Nat} (hr : Room j X.A) {k : Nat} (h : k ≤ 100) : X.A.units + 2 + k < cLine := by
  have := hr.un
  omega
theorem we_sortI {j : Nat} {tb : TbL} (hr : Room j X.A) (hm : X.mg n = none) (h : WE X σ H e fun v H1 => ∃ F1 d xs, v = .ref d ∧ SqL X.K H1 d (xs.map V.int) ∧ Ex tb F1 H1 ∧ ∀ p H2, Stp tb F1 H1 F1 H2 → H1 p = none → H2 p = some (.lst ((sortI xs).map V.int)) → Q (.ref p) H2)
    (hn : n = "sorted" := by rfl) (hg : Gl X n := by rfl) (he : nStar e = true := by rfl) : WE X σ H (.Call (.Name n p) [e] [] pos) Q := by
  subst hn
  refine we_bi (cr_sortR (Rr := fl V.int) (enc := PyData.int) (fun _ _ => rfl) (.inr fun _ => ⟨fun z => (by cases z), fun _ z => (by cases z)⟩) (fun x => hu_of hr (Nat.zero_le _))) hm (by decide +kernel) (wa_cons (h.mono fun v H1 ⟨F1, d, xs, e1, e2, e3, q⟩ => wa_nil ?_) he) hg (by decide) (by decide) he rfl
  refine ⟨d, _, xs, by rw [e1], e2, pd_of xs, fun w x _ hw P w' h _ u hu => ?_, fun p ws' hp hpd => ?_⟩
  · subst hw
    obtain ⟨t, rfl⟩ := hu
    exact ⟨_, .int x t⟩
  · have e4 : xs.mergeSort (PySem.W.dataLe false PyData.int) = sortI xs := congrArg (fun r => xs.mergeSort r) (PySem.W.dataLe_int id)
    rw [e4] at hpd
    rw [pd_flat hpd]
    exact q p _ (Stp.own e3 hp) hp upd_same
theorem we_sortS {j : Nat} {tb : TbL} (hr : Room j X.A) (hm : X.mg n = none) (h : WE X σ H e fun v H1 => ∃ F1 d xs, v = .ref d ∧ SqL X.K H1 d (xs.map sV) ∧ Ex tb F1 H1 ∧ ∀ p H2, Stp tb F1 H1 F1 H2 → H1 p = none → H2 p = some (.lst ((sortS xs).map sV)) → Q (.ref p) H2)
    (hn : n = "sorted" := by rfl) (hg : Gl X n := by rfl) (he : nStar e = true := by rfl) : WE X σ H (.Call (.Name n p) [e] [] pos) Q := by
  subst hn
  refine we_bi (cr_sortR (Rr := fl sV) (enc := fun x => PyData.str (S x)) (fun _ _ => rfl) (.inr fun _ => ⟨fun z => (by cases z), fun _ z => (by cases z)⟩) (fun x => hu_of hr (Nat.zero_le _))) hm (by decide +kernel) (wa_cons (h.mono fun v H1 ⟨F1, d, xs, e1, e2, e3, q⟩ => wa_nil ?_) he) hg (by decide) (by decide) he rfl
  refine ⟨d, _, xs, by rw [e1], e2, pd_of xs, fun w x _ hw P w' h _ u hu => ?_, fun p ws' hp hpd => ?_⟩
  · subst hw
    obtain ⟨t, rfl⟩ := hu
    exact ⟨_, .str _ t⟩
  · rw [dl_S] at hpd
    rw [pd_flat (ys := sortS xs) hpd]
    exact q p _ (Stp.own e3 hp) hp upd_same
theorem rd_pair {F : Hp} {c d : PyData} {a b : V} {w : V} {A : Addr} {P : Program} {w' : World} {h : Heap} (hok : HOk P w' H h) (hA : H A = some (.tup [a, b])) {u : Value} (hu : RelV (.ref A) u) (ha : ∀ u, RelV a u → Reads h u c []) (hb : ∀ u, RelV b u → Reads h u d []) : ∃ as, Reads h u (.tuple [c, d]) as := by
  cases hu
  obtain ⟨_, its, rv, o, ho, hc, m, hd⟩ := hok A _ hA
  obtain ⟨u1, u2, rfl, r1, r2⟩ := vals2 rv
  exact ⟨_, .tuple ho hc hd (.cons (ha _ r1) (.cons (hb _ r2) .nil))⟩
theorem we_sortSI {j : Nat} {tb : TbL} (hr : Room j X.A) (hm : X.mg n = none) (h : WE X σ H e fun v H1 => ∃ F1 d ws xs, v = .ref d ∧ SqL X.K H1 d ws ∧ Paired (rT2 (fl sV) (fl V.int) F1) ws xs ∧ Ex tb F1 H1 ∧ ∀ p H2 ws', Stp tb F1 H1 F1 H2 → H1 p = none → H2 p = some (.lst ws') → Paired (rT2 (fl sV) (fl V.int) F1) ws' (sortSI xs) → Q (.ref p) H2)
    (hn : n = "sorted" := by rfl) (hg : Gl X n := by rfl) (he : nStar e = true := by rfl) : WE X σ H (.Call (.Name n p) [e] [] pos) Q := by
  subst hn
  refine WE.of (pe_callB (id := "sorted") (r := fun vs H Q => ∃ F1, rSortR X (fun _ => rT2 (fl sV) (fl V.int) F1) (fun x => PyData.tuple [.str (S x.1), .int x.2]) vs H Q) ?_ hg hm (by decide +kernel) pa_u (by decide) (by decide) (star_c he) (star_n rfl)) (wa_cons (h.mono fun v H1 ⟨F1, d, ws, xs, e1, e2, e3, e4, q⟩ => wa_nil ⟨F1, d, ws, xs, by rw [e1], e2, e3, fun w x _ hw P w' h hok u hu => ?_, fun p ws' hp hpd => ?_⟩) he)
  · intro pins s σ H xs us Q I r ⟨F1, h⟩
    exact cr_sortR (fun _ _ => rfl) (.inl fun x => ⟨_, _, rfl⟩) (fun x => hu_of hr (by show 1 ≤ 100; decide)) pins s σ H xs us Q I r h
  · obtain ⟨A, a, b, rfl, hA, ha, hb⟩ := hw
    subst ha hb
    exact rd_pair (F := F1) (w := .non) hok (e4.at hA) hu (fun u ⟨t, e⟩ => e ▸ .str _ t) (fun u ⟨t, e⟩ => e ▸ .int _ t)
  · rw [dl_SI] at hpd
    exact q p _ ws' (Stp.own e4 hp) hp upd_same hpd
theorem we_sortII {j : Nat} {tb : TbL} (hr : Room j X.A) (hm : X.mg n = none) (h : WE X σ H e fun v H1 => ∃ F1 d ws xs, v = .ref d ∧ SqL X.K H1 d ws ∧ Paired (rT2 (fl V.int) (fl V.int) F1) ws xs ∧ Ex tb F1 H1 ∧ ∀ p H2 ws', Stp tb F1 H1 F1 H2 → H1 p = none → H2 p = some (.lst ws') → Paired (rT2 (fl V.int) (fl V.int) F1) ws' (sortII xs) → Q (.ref p) H2)
    (hn : n = "sorted" := by rfl) (hg : Gl X n := by rfl) (he : nStar e = true := by rfl) : WE X σ H (.Call (.Name n p) [e] [] pos) Q := by
  subst hn
  refine WE.of (pe_callB (id := "sorted") (r := fun vs H Q => ∃ F1, rSortR X (fun _ => rT2 (fl V.int) (fl V.int) F1) (fun x => PyData.tuple [.int x.1, .int x.2]) vs H Q) ?_ hg hm (by decide +kernel) pa_u (by decide) (by decide) (star_c he) (star_n rfl)) (wa_cons (h.mono fun v H1 ⟨F1, d, ws, xs, e1, e2, e3, e4, q⟩ => wa_nil ⟨F1, d, ws, xs, by rw [e1], e2, e3, fun w x _ hw P w' h hok u hu => ?_, fun p ws' hp hpd => ?_⟩) he)
  · intro pins s σ H xs us Q I r ⟨F1, h⟩
    exact cr_sortR (fun _ _ => rfl) (.inl fun x => ⟨_, _, rfl⟩) (fun x => hu_of hr (by show 1 ≤ 100; decide)) pins s σ H xs us Q I r h
  · obtain ⟨A, a, b, rfl, hA, ha, hb⟩ := hw
    subst ha hb
    exact rd_pair (F := F1) (w := .non) hok (e4.at hA) hu (fun u ⟨t, e⟩ => e ▸ .int _ t) (fun u ⟨t, e⟩ => e ▸ .int _ t)
  · rw [dl_II] at hpd
    exact q p _ ws' (Stp.own e4 hp) hp upd_same hpd
end
end Bk
namespace Bk
open PySem PySem.Spec PyProof.Rows L2
/-! ## dicts: keys numbers or texts, values flat -/
def kyI : Int → Key := Sum.inl
def kyS (l : List Nat) : Key := Sum.inr (S l)
theorem kyI_inj {i j : Int} (h : kyI i = kyI j) : i = j := Sum.inl.inj h
theorem kyS_inj {i j : List Nat} (h : kyS i = kyS j) : i = j := S_inj (Sum.inr.inj h)
def dk {κ β : Type} (kf : κ → Key) (f : β → V) (m : List (κ × β)) : List (Key × V) := m.map fun p => (kf p.1, f p.2)
def dGet {κ β : Type} [DecidableEq κ] (m : List (κ × β)) (k : κ) : Option β := (m.find? fun p => decide (p.1 = k)).map (·.2)
def dPut {κ β : Type} [DecidableEq κ] (m : List (κ × β)) (k : κ) (v : β) : List (κ × β) := if (m.any fun p => decide (p.1 = k)) = true then m.map (fun p => if p.1 = k then (p.1, v) else p) else m ++ [(k, v)]
section
variable {κ β : Type} [DecidableEq κ] {kf : κ → Key} {f : β → V}
theorem dk_get (inj : ∀ {i j : κ}, kf i = kf j → i = j) (k : κ) : ∀ m : List (κ × β), valV (dk kf f m) (kf k) = (dGet m k).map f
  | [] => rfl
  | p :: r => by
    by_cases h : p.1 = k
    · have e1 : dk kf f (p :: r) = (kf p.1, f p.2) :: dk kf f r := rfl
      rw [e1, valV_pos (by rw [h])]
      unfold dGet
      rw [List.find?_cons, decide_eq_true h]
      rfl
    · have e1 : dk kf f (p :: r) = (kf p.1, f p.2) :: dk kf f r := rfl
      rw [e1, valV_neg (fun z => h (inj z)), dk_get inj k r]
      unfold dGet
      rw [List.find?_cons, decide_eq_false h]
theorem dk_any (inj : ∀ {i j : κ}, kf i = kf j → i = j) (k : κ) (m : List (κ × β)) : ((dk kf f m).any fun kv => decide (kv.1 = kf k)) = (m.any fun p => decide (p.1 = k)) := by
  unfold dk
  rw [List.any_map]
  refine congrArg (fun g => m.any g) ?_
  funext p
  show decide (kf p.1 = kf k) = decide (p.1 = k)
  exact decide_eq_decide.2 ⟨inj, fun h => by rw [h]⟩
theorem dk_put (inj : ∀ {i j : κ}, kf i = kf j → i = j) (m : List (κ × β)) (k : κ) (v : β) : putK (dk kf f m) (kf k) (f v) = dk kf f (dPut m k v) := by
  unfold putK dPut
  rw [dk_any inj]
  split
  · unfold dk
    rw [List.map_map, List.map_map]
    refine List.map_congr_left fun p _ => ?_
    show (if kf p.1 = kf k then (kf p.1, f v) else (kf p.1, f p.2)) = (kf (if p.1 = k then (p.1, v) else p).1, f (if p.1 = k then (p.1, v) else p).2)
    by_cases h : p.1 = k
    · rw [if_pos (by rw [h]), if_pos h]
    · rw [if_neg (fun z => h (inj z)), if_neg h]
  · unfold dk
    rw [List.map_append]
    rfl
end
section
variable {X : Cx} {σ : L2.St} {H H0 F : Hp} {e o a b : Expr} {es : List Expr} {pos apos cpos p3 : Pos} {v x y z : V} {Q : VK} {D : Ends} {d : Addr} {n : Str} {p : Pos} {κ β : Type} [DecidableEq κ] {kf : κ → Key} {f : β → V} {m : List (κ × β)} {k : κ} {j : Nat} {tb : TbL}
theorem u1 (hr : Room j X.A) : X.A.units + 1 < cLine := by
  have := hr.un
  omega
theorem we_dnew (Sx : Ex tb F H) (q : ∀ p H', Stp tb F H F H' → H p = none → H' p = some (.dK []) → Q (.ref p) H') : WE X σ H (.Dict [] [] pos) Q := WE.of pe_dnewK fun p hp => q p _ (Stp.own Sx hp) hp upd_same
theorem ec_pc {op : CmpOp} {t : TE} {c : Bool} (h : PC X op a b t) (hq : ∀ Q : VK, Q (.bl c) H → t σ H Q) (h1 : behindInMarks op b = false) : EvC X σ H op a b c := fun pos =>
  ⟨WE.of (pe_cmp h h1) (hq _ ⟨rfl, rfl⟩), WT.of (pt_cmp h h1) (hq _ ⟨c, rfl, rfl, rfl⟩)⟩
theorem ec_inD (inj : ∀ {i j : κ}, kf i = kf j → i = j) (hr : Room j X.A) (ha : EvV X σ H a (kV (kf k))) (hb : EvV X σ H b (.ref d)) (hd : Rd H d (.dK (dk kf f m))) (h1 : behindInMarks .In b = false := by rfl) : EvC X σ H .In a b (dGet m k).isSome :=
  ec_pc (pc_din (u1 hr) pe_u pe_u) (fun Q q => ha.p (hb.p ⟨d, _, rfl, .inl ⟨_, _, hd, rfl, rfl⟩, by rw [dk_get inj, Option.isSome_map]; exact q⟩)) h1
theorem ec_ninD (inj : ∀ {i j : κ}, kf i = kf j → i = j) (hr : Room j X.A) (ha : EvV X σ H a (kV (kf k))) (hb : EvV X σ H b (.ref d)) (hd : Rd H d (.dK (dk kf f m))) (h1 : behindInMarks .NotIn b = false := by rfl) : EvC X σ H .NotIn a b (!(dGet m k).isSome) :=
  ec_pc (pc_dnotin (u1 hr) pe_u pe_u) (fun Q q => ha.p (hb.p ⟨d, _, rfl, .inl ⟨_, _, hd, rfl, rfl⟩, by rw [dk_get inj, Option.isSome_map]; exact q⟩)) h1
theorem ev_dget {w : β} (inj : ∀ {i j : κ}, kf i = kf j → i = j) (hr : Room j X.A) (ha : EvV X σ H a (.ref d)) (hb : EvV X σ H b (kV (kf k))) (hd : Rd H d (.dK (dk kf f m))) (hw : dGet m k = some w) (hs : nSlice b = true := by rfl) : EvV X σ H (.Subscript a b pos) (f w) :=
  WE.of (pe_dget (u1 hr) pe_u pe_u (ix_n hs)) (ha.p (hb.p ⟨d, f w, rfl, .inl ⟨_, _, hd, rfl, by rw [dk_get inj, hw]; rfl⟩, rfl, rfl⟩))
theorem ev_lenD (ha : EvV X σ H a (.ref d)) (hd : H d = some (.dK (dk kf f m))) (hm : X.mg n = none) (hn : n = "len" := by rfl) (hg : Gl X n := by rfl) (he : nStar a = true := by rfl) : EvV X σ H (.Call (.Name n p) [a] [] pos) (.int m.length) := by
  subst hn
  exact we_bi call_lenD hm PySem.boot_len (wa_consP ha (wa_nil ⟨d, _, rfl, hd, by unfold dk; rw [List.length_map], rfl⟩) he) hg (by decide) (by decide) he rfl
/-- d[k] = v -/
theorem ws_dput {i : Expr} (inj : ∀ {i j : κ}, kf i = kf j → i = j) (hr : Room j X.A) (h : WE X σ H e fun y H1 => WE X σ H1 o fun u H2 => WE X σ H2 i fun q H3 => ∃ (w : β) (m : List (κ × β)) (k : κ), y = f w ∧ u = .ref d ∧ q = kV (kf k) ∧ H3 d = some (.dK (dk kf f m)) ∧ m.length < 16777216 ∧ ∀ H', MutAt H3 H' d (.dK (dk kf f (dPut m k w))) → D.nx σ H')
    (hs : nComp e = true := by rfl) : WS X σ H (.Assign [.Subscript o i p3] e pos) D := by
  refine WS.of (ps_dput (u1 hr) pe_u pe_u pe_u (sw_n hs)) (h.mono fun y H1 q1 => ?_)
  refine WE.mono q1 fun u H2 q2 => ?_
  refine WE.mono q2 fun q H3 q3 => ?_
  obtain ⟨w, m, k, e1, e2, e3, e4, e5, q4⟩ := q3
  refine ⟨d, _, e2, .inl ⟨_, _, e4, e3, by unfold dk; rw [List.length_map]; exact sz_lt e5, rfl⟩, ?_⟩
  subst e1
  have q' := q4 _ MutAt.mk'
  rwa [← dk_put inj] at q'
end
def rD {κ β : Type} (kf : κ → Key) (f : β → V) : Hp → V → List (κ × β) → Prop := fun F v m => ∃ d, v = .ref d ∧ F d = some (.dK (dk kf f m))
theorem mn_rD {κ β : Type} {kf : κ → Key} {f : β → V} : Mn (rD kf f) := fun _ _ _ _ _ e ⟨d, h1, h2⟩ => ⟨d, h1, e.at h2⟩
def nD {κ β : Type} (kf : κ → Key) (f : β → V) (H F' H' : Hp) (v : V) (m : List (κ × β)) : Prop := ∃ d, v = .ref d ∧ H d = none ∧ F' d = none ∧ H' d = some (.dK (dk kf f m))
end Bk
namespace Bk
open PySem PySem.Spec PySem.W PyProof.Rows L2
section
variable {X : Cx} {σ : L2.St} {F H : Hp} {Q : VK} {tb : TbL}
theorem each_map_ints {a : Int} {acc : Array Value} {n : Nat} (h : ItemsOf (fun i v => ∃ t, v = .int (a + (i : Int) * 1) t) acc n) : EachIs (fun v (x : Int) => ∃ t, v = .int x t) acc.toList (rng a (a + (n : Int))) := by
  refine EachIs.of_zip (by rw [Array.length_toList, h.1, rng_len]; omega) ?_
  rintro ⟨v, x⟩ hp
  obtain ⟨i, hi⟩ := List.mem_iff_getElem?.mp hp
  rw [List.getElem?_zip_eq_some] at hi
  obtain ⟨h1, h2⟩ := hi
  rw [Array.getElem?_toList] at h1
  obtain ⟨t, rfl⟩ := h.2 i v h1
  have hl := (List.getElem?_eq_some_iff.mp h2).1
  rw [rng_len] at hl
  rw [rng_get hl] at h2
  have e : a + (i : Int) = x := Option.some.inj h2
  exact ⟨t, by show Value.int (a + (i : Int) * 1) t = Value.int x t; rw [← e, Int.mul_one]⟩
/-- list(range(a, b)) as it is laid -/
theorem list_rng {pins : List (Addr × Obj)} {s : Shared} {r : Addr} {a b : Int} {t u v : Tok} (I : L2.Inv X pins σ H s) (hr : IsRange s.heap r a b 1 t u v) (h1 : -(2 ^ 62) ≤ a) (h2 : a < 2 ^ 62) (h3 : -(2 ^ 62) ≤ b) (h4 : b < 2 ^ 62) (hn : b - a ≤ 16777216) (hc : X.calm = true)
    (q : ∀ p, H p = none → Q (.ref p) (upd H p (.lst ((rng a b).map V.int)))) {E : Value → Shared → Prop} : wpAny (model X.prog X.w) X.A (call (.type "list") [.ref r]) (EP X pins σ Q) E s := by
  refine call_list_range (n := (b - a).toNat) (I.ok.hd hc) hr (small_one h1 h2 h3 h4) (by rw [rangeSize_one]; split <;> omega) (by omega) fun h' tk acc c hk hob hi => ?_
  have he := each_map_ints hi
  have e : rng a (a + (((b - a).toNat : Nat) : Int)) = rng a b := by
    unfold rng
    have : (a + (((b - a).toNat : Nat) : Int) - a).toNat = (b - a).toNat := by omega
    rw [this]
  rw [e] at he
  have hob2 : h'.get? s.heap.objs.size = some (seqObj "list" (List.toArray acc.toList) c) := by rw [Array.toArray_toList]; exact hob
  exact sort_end I hk (Nat.le_refl _) hob2 he (by rw [rng_len, sizeLine_eq]; omega) fun hp => q _ hp
theorem we_listR {n m : Str} {p p2 p3 pos : Pos} {e : Expr} {i : Int} (Sx : Ex tb F H) (he : EvV X σ H e (.int i)) (h0 : -(2 ^ 62) ≤ i) (h1 : i ≤ 16777216) (hm : X.mg n = none) (hm2 : X.mg m = none) (q : ∀ p H', Stp tb F H F H' → H p = none → H' p = some (.lst ((rng 0 i).map V.int)) → Q (.ref p) H')
    (hn : n = "list" := by rfl) (hn2 : m = "range" := by rfl) (hg : Gl X n := by rfl) (hg2 : Gl X m := by rfl) (hs : nStar e = true := by rfl) (hc : X.calm = true := by rfl) : WE X σ H (.Call (.Name n p) [.Call (.Name m p2) [e] [] p3] [] pos) Q := by
  subst hn hn2
  refine ⟨fun pins s I => ?_⟩
  refine Call_ (ld_blt I hg hm (show bootBuiltins ("list" : Str) = some (.type "list") by decide +kernel) (PyProof.Rows.callWith_type1 ?_ rfl rfl))
  show wpAny _ _ (spliced ((false, eval (.Call (.Name "range" p2) [e] [] p3) X.env) :: backTo pos (starEach [] X.env))) _ _ s
  refine Calls.spliced_cons (Call_ (ld_blt I hg2 hm2 boot_range (PyProof.Rows.callWith_type1 (thn ((WA.of pa_u (wa_consP he (wa_nil ⟨rfl, rfl⟩) hs : WA X σ H [e] fun vs H' => vs = [V.int i] ∧ H' = H)).run p3 pins s I) fun us s1 hh => ?_) (star_c hs) rfl)))
  obtain ⟨vs, H1, I1, r1, ev, eH⟩ := hh
  subst ev
  rw [eH] at I1
  cases r1 with
  | cons r rr =>
  cases rr
  obtain ⟨t, rfl⟩ := r
  refine call_range_1 (Calls.spliced_nil ?_)
  have I2 : L2.Inv X pins σ H { s1 with heap := s1.heap.push { cls := .type "range", data := .fields #[.int 0 s1.toks, .int i t, .int 1 (s1.toks + 1)] }, toks := s1.toks + 1 + 1 } := I1.kept fun b o e => Heap.get?_push_of_some _ e
  exact list_rng I2 (IsRange.new ..) (by decide) (by decide) h0 (by omega) (by omega) hc fun p hp => q p _ (Stp.own Sx hp) hp upd_same
/-- sorted(xs, key=lambda place: text[place:]), xs a list of numbers -/
theorem we_sortLK {n pl tx : Str} {p pos kpos lpos q1 q2 q3 q4 : Pos} {e : Expr} {l : List Nat} {params : Arguments} {scope : Scope} {j : Nat} {c P : Addr} {N : List Str}
    (h : WE X σ H e fun v H1 => ∃ F1 d xs, v = .ref d ∧ SqL X.K H1 d (xs.map V.int) ∧ Ex tb F1 H1 ∧ LamX.Tabs tb H1 ∧ ∀ p H2, Stp tb F1 H1 F1 H2 → H1 p = none → H2 p = some (.lst ((byEnd l xs).map V.int)) → Q (.ref p) H2) (hσ : σ[j]? = some (some (.str (S l)))) (hl : l.length ≤ sizeLine)
    (hm : X.mg n = none) (TB : LamX.TabB X.base X.mg c P) (hcode : X.env.code = .ref c) (hmT : (P, X.env.qual ++ "<lambda>") ∈ tb) (hu : ∀ p ∈ tb, p.1 = P → p.2 = X.env.qual ++ "<lambda>") (NS : NdefX.NScope N [pl] [tx] scope)
    (hr : Room 1 X.A) (hj : X.N[j]? = some tx) (hfb : NdefX.ndefB X.env.scope scope [tx] = true)
    (hbind : ∀ (q : Str) (cl : List (Str × Addr)) (pm cv ctv v : Value), bindArgs (kla_fn "<lambda>" q params (.Subscript (.Name tx q1) (.Slice (some (.Name pl q2)) none none q3) q4) scope cl pm cv ctv) ⟨[v], []⟩ = pure [(pl, v)])
    (hn : n = "sorted" := by rfl) (hg : Gl X n := by rfl) (hdef : defaultsOf params X.env = ([], []) := by rfl) (hs : nStar e = true := by rfl)
    (d1 : (tx == ("__debug__" : Str)) = false := by decide) (d2 : (pl == ("__debug__" : Str)) = false := by decide) (d3 : (tx == ("__classdict__" : Str)) = false := by decide) :
    WE X σ H (.Call (.Name n p) [e] [⟨some "key", .Lambda params (.Subscript (.Name tx q1) (.Slice (some (.Name pl q2)) none none q3) q4) scope lpos, kpos⟩] pos) Q := by
  subst hn
  refine ⟨fun pins s I => ?_⟩
  have hfree := NdefX.ndef_free hfb
  have hfr := NdefX.ndef_fr hfb
  refine wpAny_Call_Name_kw (ld_blt I hg hm (show bootBuiltins ("sorted" : Str) = some (.builtin "sorted") by decide +kernel) ?_)
  refine PyProof.Rows.callWith_kw ?_ (by rw [star_1 hs]; rfl) (by rw [star_1 hs]; rfl) (by rfl) (by rfl)
  rw [star_1 hs]
  refine Calls.spliced_cons (thn (h.run pins s I) fun u1 s1 hh => Calls.spliced_nil ?_)
  obtain ⟨v, H1, I1, r1, F1, d, xs, ev, hsq, e1, hT, q⟩ := hh
  subst ev
  obtain rfl : u1 = Value.ref d := r1
  show wpAny _ _ (evalAll ((do let v ← eval (.Lambda params (.Subscript (.Name tx q1) (.Slice (some (.Name pl q2)) none none q3) q4) scope lpos) X.env; standAt pos; pure v) :: (backToKw pos (keywordEach [] X.env)).map (·.2))) _ _ _
  refine wpAny_evalAll_cons (wpAny_bind (lam_made I1 TB hcode hmT hu hT hdef (fun y hy z => I1.ok.has _ (hfree y hy z)) fun f c' pm ctv H2 s2 I3 X3 k3 hsz hPs ho hco => wpAny_bind (wpAny_standAt (wpAny_pure ?_))))
  refine wpAny_evalAll_nil ?_
  show wpAny _ _ (call (.builtin "sorted") [.ref d] [(Str.ofString "key", .ref f)]) _ _ s2
  have hsq2 : SqL X.K H2 d (xs.map V.int) := ex_l X3 hsq
  obtain ⟨its, rv, hli, hz⟩ := I3.list hsq2
  have hee : EachIs (fun v (x : Int) => ∃ t, v = .int x t) its xs := by
    have := each_pd (G := fun v (x : Int) => ∃ t, v = .int x t) rv (pd_of (f := V.int) xs) fun w u x _ hr hw => by
      subst hw
      exact hr
    exact this.mono fun _ _ h => h.2
  have hlx : its.length = xs.length := hee.length
  refine sorted_key_data (A := X.A) (b := false) (fun x => PyData.str (cutS (S l) (some x) none)) hli.isList hee (AllAlike.of fun _ _ => rfl) (Sortable.others fun _ => ⟨fun z => (by cases z), fun _ z => (by cases z)⟩) (by rw [← hlx, ← vals_len rv]; exact hz) ?_ (ksk_s1 _ _) (fun _ => ksk_l1 _ _) (fun a => ksk_t1 f a) ?_ ?_
  · intro x _
    have := hr.un
    show X.A.units + 2 + (PyData.str _).depth < cLine
    simp only [PyData.depth]
    omega
  · rintro v x ⟨t', rfl⟩ _ h tk kh
    refine lam_key (I3.kept (t' := tk) kh) NS (kh _ _ ho) hco hfree (hfr tx (by simp)) hj hσ (by rw [S_length]; exact hl) hbind ?_ d1 d2 d3
    have := hr.dp
    omega
  · intro out c2 h' tk kh _ hob _ he2
    rw [byEnd_eq] at he2
    have hxl : (byEnd l xs).length ≤ sizeLine := by
      rw [byEnd_len, ← hlx, ← vals_len rv]
      exact hz
    exact sort_end I3 kh (Nat.le_succ _) hob he2 hxl fun hn => q _ _ ((Stp.ofH e1 X3).trans (Stp.own (e1.trans X3) hn)) (X3.free hn) upd_same
end
section
variable {P : Program} {w : World} {K : PySem.W.Frag} {mg : Str → Option Value} {base : Heap}
open PyProof.Rows in
theorem okWc {x qual : Str} {st : Stmt} {f : Addr} {fd : FuncData} {N ps : List Str} {k : Nat} {sp : Sp} {c : Addr} (F : Fun K x qual st f fd) (hc : fd.code = .ref c) (Sc : FnScope N ps (defScope st)) (len : ∀ vs H Q E, sp vs H Q E → vs.length = ps.length)
    (h : ∀ (A : Around) (outer : List Env) (s : Shared) (H : Hp) (vs : List V) (Q : VK) (E : XK), Room k (A.deeper (envOfC qual (defScope st) s.heap.objs.size f (.ref c))) → sp vs H Q E →
      WSs (cxOf CX0 P w K mg base N qual (defScope st) f (.ref c) A outer s H E).nox (start N vs) H (defBody st) { nx := fun _ H' => Q .non H', rt := Q }) : FnOk P w K mg base CX0 (k + 1) f fd ps sp := by
  obtain ⟨oc, od, kV, doc, pm, an, cdv, ct, osl, rfl, lk, hcd⟩ := F.ex
  have e : cdv = .ref c := hc
  subst e
  refine fn_of lk hcd Sc len fun A outer s H vs Q E hr hsp => ?_
  have q := h A outer s H vs Q E hr hsp
  exact ⟨uSs _ (defBody st), (pss_u (X := (cxOf CX0 P w K mg base N qual (defScope st) f (.ref c) A outer s H E).nox)).nox, q⟩
end
end Bk
namespace Bk
open PySem PySem.Spec PyProof.Rows L2
section
variable {X : Cx} {σ σ' : L2.St} {H H0 F : Hp} {e o a b c elt tg iter : Expr} {es : List Expr} {pos spos apos cpos py : Pos} {v x z : V} {Q : VK} {D : Ends} {d : Addr} {n y : Str} {p p3 tp : Pos} {tb : TbL} {body : List Stmt}
/-! ## x = [.. for ..] on one line: the comprehension's own store -/
theorem ws_lcG {α β : Type} {sc : Scope} {own : List (Str × Nat)} {xs : List α} {Yd : α → Hp → V → Hp → Prop} {Kp : Hp → Prop} (i : Nat) (src : Src X σ H tg iter xs Yd Kp H0) {g : TG} (gm : ∀ x σ H (R R' : L2.St → Hp → Prop), (∀ σ H, R σ H → R' σ H) → g x σ H R → g x σ H R')
    (nd : X.N.Nodup) (hcalm : X.calm = true) (ok : BlkOk X.N X.env.scope sc own) {f : α → Option (Option β)} {res : List β} (ho : lcA f xs [] = some res) (hz : xs.length ≤ 16777215) (R : Hp → V → β → Prop) (Rm : Mn R) (Sx : Ex tb F H0) (hG : ∀ H', Ex tb H0 H' → Kp H')
    (hg : ∀ (s : Shared) (H0 : Hp) (C : Addr) (cl : List (Str × Addr)) (fp : List Addr), PG (X.blk s H0 sc (compEnvC sc cl C X.env) fp) tg g)
    (hs : ∀ t x F1 H1 H2 o', t ∈ xs → Stp tb F H0 F1 H1 → Yd t H1 x H2 → f t = some o' → g x (wipe σ (own.map (·.2))) H2 fun σ2 H3 => wipe σ2 (own.map (·.2)) = wipe σ (own.map (·.2)) ∧ bE X sc elt σ2 H3 fun y H5 => ∃ F5 z, Stp tb F1 H1 F5 H5 ∧ o' = some z ∧ R F5 y z)
    (hd : ∀ p F' H' ws, Stp tb F H0 F' H' → H0 p = none → F' p = none → H' p = some (.lst ws) → Paired (R F') ws res → D.nx (σ.set i (some (.ref p))) H') (hst : nSet iter = true := by rfl)
    (hy : X.N[i]? = some y := by rfl) (hyl : X.env.scope.names.lookup y = some .local := by rfl) (hsw : swapsWith (.ListComp elt [⟨tg, iter, [], 0⟩] sc pos) (some (.Name y py)) spos.line X.env = pure true := by exact sw_true rfl rfl rfl (by decide +kernel)) :
    WS X σ H (.Assign [.Name y py] (.ListComp elt [⟨tg, iter, [], 0⟩] sc pos) spos) D := by
  obtain ⟨wi, J, n, G, Y, hpi, w, hn, hwi, hk, hy2⟩ := src.ex
  refine WS.of (ps_setLc hcalm nd hy hyl hsw hpi ok hg yes_pt bE_pe (fs_n hst)) (hwi _ (lc_mir (Q := fun x H1 => D.nx (σ.set i (some x)) H1) w hn ho (by omega) R Rm Sx (fun H' q => hk H' (hG H' q)) ?_ gm yes_mono bE_mono hd))
  intro i t x F1 H1 H2 o' ht T hyy hf
  exact hs t x F1 H1 H2 o' (List.mem_of_getElem? ht) T (hy2 i t x H1 H2 ht hyy) hf
theorem ws_lcGt {α β : Type} {sc : Scope} {own : List (Str × Nat)} {xs : List α} {Yd : α → Hp → V → Hp → Prop} {Kp : Hp → Prop} (i : Nat) (src : Src X σ H tg iter xs Yd Kp H0) {g : TG} (gm : ∀ x σ H (R R' : L2.St → Hp → Prop), (∀ σ H, R σ H → R' σ H) → g x σ H R → g x σ H R')
    (nd : X.N.Nodup) (hcalm : X.calm = true) (ok : BlkOk X.N X.env.scope sc own) {f : α → Option (Option β)} {res : List β} (ho : lcA f xs [] = some res) (hz : xs.length ≤ 16777215) (R : Hp → V → β → Prop) (Rm : Mn R) (Sx : Ex tb F H0) (hG : ∀ H', Ex tb H0 H' → Kp H')
    (hg : ∀ (s : Shared) (H0 : Hp) (C : Addr) (cl : List (Str × Addr)) (fp : List Addr), PG (X.blk s H0 sc (compEnvC sc cl C X.env) fp) tg g)
    (hs : ∀ t x F1 H1 H2 o', t ∈ xs → Stp tb F H0 F1 H1 → Yd t H1 x H2 → f t = some o' → g x (wipe σ (own.map (·.2))) H2 fun σ2 H3 => wipe σ2 (own.map (·.2)) = wipe σ (own.map (·.2)) ∧ bT X sc c σ2 H3 fun k H4 =>
      if k = true then bE X sc elt σ2 H4 fun y H5 => ∃ F5 z, Stp tb F1 H1 F5 H5 ∧ o' = some z ∧ R F5 y z else o' = none ∧ ∃ F4, Stp tb F1 H1 F4 H4)
    (hd : ∀ p F' H' ws, Stp tb F H0 F' H' → H0 p = none → F' p = none → H' p = some (.lst ws) → Paired (R F') ws res → D.nx (σ.set i (some (.ref p))) H') (hst : nSet iter = true := by rfl)
    (hy : X.N[i]? = some y := by rfl) (hyl : X.env.scope.names.lookup y = some .local := by rfl) (hsw : swapsWith (.ListComp elt [⟨tg, iter, [c], 0⟩] sc pos) (some (.Name y py)) spos.line X.env = pure true := by exact sw_true rfl rfl rfl (by decide +kernel)) :
    WS X σ H (.Assign [.Name y py] (.ListComp elt [⟨tg, iter, [c], 0⟩] sc pos) spos) D := by
  obtain ⟨wi, J, n, G, Y, hpi, w, hn, hwi, hk, hy2⟩ := src.ex
  refine WS.of (ps_setLc hcalm nd hy hyl hsw hpi ok hg bT_pt bE_pe (fs_n hst)) (hwi _ (lc_mir (Q := fun x H1 => D.nx (σ.set i (some x)) H1) w hn ho (by omega) R Rm Sx (fun H' q => hk H' (hG H' q)) ?_ gm bT_mono bE_mono hd))
  intro i t x F1 H1 H2 o' ht T hyy hf
  exact hs t x F1 H1 H2 o' (List.mem_of_getElem? ht) T (hy2 i t x H1 H2 ht hyy) hf
theorem ws_lcE {sc : Scope} {own : List (Str × Nat)} {g : TG} (i : Nat) (nd : X.N.Nodup) (hcalm : X.calm = true) (ok : BlkOk X.N X.env.scope sc own) (hg : ∀ (s : Shared) (H0 : Hp) (C : Addr) (cl : List (Str × Addr)) (fp : List Addr), PG (X.blk s H0 sc (compEnvC sc cl C X.env) fp) tg g)
    (h : WE X σ H iter fun v H1 => ∃ d, v = .ref d ∧ (∃ ws, SqL X.K H1 d ws) ∧ LCG X (Itl X.K d) g tYes (bE X sc elt) (own.map (·.2)) σ H1 fun x H1 => D.nx (σ.set i (some x)) H1) (hst : nSet iter = true := by rfl)
    (hy : X.N[i]? = some y := by rfl) (hyl : X.env.scope.names.lookup y = some .local := by rfl) (hsw : swapsWith (.ListComp elt [⟨tg, iter, [], 0⟩] sc pos) (some (.Name y py)) spos.line X.env = pure true := by exact sw_true rfl rfl rfl (by decide +kernel)) :
    WS X σ H (.Assign [.Name y py] (.ListComp elt [⟨tg, iter, [], 0⟩] sc pos) spos) D :=
  WS.of (ps_setLc hcalm nd hy hyl hsw (pi_list pe_u) ok hg yes_pt bE_pe (fs_n hst)) (h.mono fun v H1 ⟨d, e1, e2, q⟩ => ⟨d, e1, e2, q⟩)
theorem ws_lcEt {sc : Scope} {own : List (Str × Nat)} {g : TG} (i : Nat) (nd : X.N.Nodup) (hcalm : X.calm = true) (ok : BlkOk X.N X.env.scope sc own) (hg : ∀ (s : Shared) (H0 : Hp) (C : Addr) (cl : List (Str × Addr)) (fp : List Addr), PG (X.blk s H0 sc (compEnvC sc cl C X.env) fp) tg g)
    (h : WE X σ H iter fun v H1 => ∃ d, v = .ref d ∧ (∃ ws, SqL X.K H1 d ws) ∧ LCG X (Itl X.K d) g (bT X sc c) (bE X sc elt) (own.map (·.2)) σ H1 fun x H1 => D.nx (σ.set i (some x)) H1) (hst : nSet iter = true := by rfl)
    (hy : X.N[i]? = some y := by rfl) (hyl : X.env.scope.names.lookup y = some .local := by rfl) (hsw : swapsWith (.ListComp elt [⟨tg, iter, [c], 0⟩] sc pos) (some (.Name y py)) spos.line X.env = pure true := by exact sw_true rfl rfl rfl (by decide +kernel)) :
    WS X σ H (.Assign [.Name y py] (.ListComp elt [⟨tg, iter, [c], 0⟩] sc pos) spos) D :=
  WS.of (ps_setLc hcalm nd hy hyl hsw (pi_list pe_u) ok hg bT_pt bE_pe (fs_n hst)) (h.mono fun v H1 ⟨d, e1, e2, q⟩ => ⟨d, e1, e2, q⟩)
/-! ## enumerate of a list told with effects -/
theorem sv_Ef {K : PySem.W.Frag} {α : Type} {f : α → V} {d : Addr} {xs : List α} : Sv (Ite K d) (enumI xs) (Yp (fun v (t : Int) => v = .int t) (fun v y => v = f y)) (fun H' => SqL K H' d (xs.map f)) :=
  ⟨_, _, _, walk_enum, by rw [enumI_len]; simp, fun _ k => k, fun i t x H1 H2 ht hy => by
    obtain ⟨T, u, w, h1, h2, h3, h4, h5⟩ := hy
    obtain ⟨e1, e2⟩ := enumI_get ht
    obtain ⟨y, g1, g2⟩ := map_get h5
    rw [e2] at g1
    cases g1
    cases h4
    exact ⟨T, _, w, h1, h2, h3, by rw [e1], g2⟩⟩
theorem sv_Er {K : PySem.W.Frag} {α : Type} {R : Hp → V → α → Prop} {d : Addr} {ws : List V} {xs : List α} (hp : Paired (R F) ws xs) : Sv (Ite K d) (enumI xs) (Yp (fun v (t : Int) => v = .int t) (fun v y => R F v y)) (fun H' => SqL K H' d ws) :=
  ⟨_, _, _, walk_enum, by rw [enumI_len]; exact hp.length.symm, fun _ k => k, fun i t x H1 H2 ht hy => by
    obtain ⟨T, u, w, h1, h2, h3, h4, h5⟩ := hy
    obtain ⟨e1, e2⟩ := enumI_get ht
    cases h4
    exact ⟨T, _, w, h1, h2, h3, by rw [e1], pd_get hp h5 e2⟩⟩
theorem ws_forN {g : TG} {elts : List Expr} {kk : Nat} (hm : X.mg n = none) (hg : PG X (.Tuple elts kk tp) g) (hp : PassesOwn (model X.prog X.w) X.A X.env X.xe) (hcalm : X.calm = true) (h : WE X σ H a fun v H1 => ∃ d, v = .ref d ∧ (∃ ws, SqL X.K H1 d ws) ∧ LG X (Ite X.K d) g body D σ H1) (hn : n = "enumerate" := by rfl) (hgl : Gl X n := by rfl) (hs : nStar a = true := by rfl) : WS X σ H (.For (.Tuple elts kk tp) (.Call (.Name n p) [a] [] p3) body [] pos) D := by
  subst hn
  exact WS.of (ps_for hp hcalm (pi_enum hgl hm pa_u (star_1 hs)) hg pss_u (fs_n rfl)) (wa_cons (h.mono fun v H1 ⟨d, e1, ⟨ws, e2⟩, q⟩ => wa_nil ⟨d, ws, by rw [e1], e2, q⟩) hs)
/-! ## methods -/
theorem ev_bm {T id : String} {name : Str} {r : V → List V → Hp → VK → Prop} {vs : List V} (pa : PlainAttrs T) (slot : Slot T name id) (hty : typeOf (.builtin id) = pure (.type "method_descriptor")) (hm : MtR X id r) (ho : EvV X σ H o x) (ht : tyV X.K T x H) (ha : EvA X σ H (e :: es) vs) (hr : r x vs H fun v' H' => v' = z ∧ H' = H)
    (hn : nCall o = true := by rfl) (hfew : ((backTo cpos (starEach (e :: es) X.env)).all (fun x => !x.1) && (backToKw cpos (keywordEach [] X.env)).all (fun x => x.1.isSome) && decide ((e :: es).length + ([] : List Keyword).length + (if ([] : List Keyword).isEmpty then 0 else 1) < 30)) = true := by rfl)
    (hline : (apos.endLine == cpos.line) = true := by rfl) (he : nStar e = true := by rfl) (hpl : es.all nStar = true := by rfl) : EvV X σ H (.Call (.Attribute o name apos) (e :: es) [] cpos) z :=
  we_bm pa slot hty hm ho ht (ha.p hr) hn hfew hline he hpl
/-- xs.index(i) of a list of numbers -/
def ixOf (xs : List Int) (i : Int) : Option Nat := xs.findIdx? fun y => decide (y = i)
theorem flatV_ints (xs : List Int) : (xs.map V.int).all flatV = true := by
  rw [List.all_map, List.all_eq_true]
  intro x _
  rfl
theorem ev_indexI {xs : List Int} {i : Int} {j : Nat} (ho : EvV X σ H o (.ref d)) (hd : SqL X.K H d (xs.map V.int)) (ha : EvV X σ H e (.int i)) (hj : ixOf xs i = some j) (hn : nCall o = true := by rfl) (hline : (apos.endLine == cpos.line) = true := by rfl) (he : nStar e = true := by rfl) :
    EvV X σ H (.Call (.Attribute o "index" apos) [e] [] cpos) (.int (j : Int)) := by
  obtain ⟨hlt, h1, h2⟩ := List.findIdx?_eq_some_iff_getElem.mp hj
  refine ev_bm PySem.F.plainAttrs_list PySem.F.slot_list_index PySem.F.type_list_index mt_index ho (ty_l hd) (ea_cons ha ea_nil he) ?_ hn (few1 he) hline he rfl
  refine ⟨d, _, .int i, j, .int i, rfl, rfl, hd, rfl, flatV_ints xs, ?_, ?_, ?_, rfl, rfl⟩
  · rw [List.getElem?_map, List.getElem?_eq_getElem hlt]
    have := of_decide_eq_true h1
    simp [this]
  · show (decide (i = i)) = true
    simp
  · intro m z' hm hz
    rw [List.getElem?_map, List.getElem?_eq_getElem (by omega)] at hz
    cases hz
    have h3 := h2 m hm
    show decide (xs[m] = i) = false
    simpa using h3
/-- a sign in a text -/
theorem ec_inS {i j : List Nat} (ha : EvV X σ H a (.str (S i))) (hb : EvV X σ H b (.str (S j))) (h1 : i.length = 1) (hm : behindInMarks .In b = false := by rfl) : EvC X σ H .In a b (decide (i.getD 0 0 ∈ j)) :=
  ec_of op_in_sign ha hb (fun _ q => ⟨i.getD 0 0, S j, by
    match i, h1 with
    | [c], _ => rfl, rfl, by rw [S_toList]; exact q⟩) hm
theorem ws_whileR {ρ S : Type} {c : S → Option Bool} {step : S → Option (Lp ρ S)} {fuel : Nat} {s0 : S} {o : Lp ρ S} (hp : PassesOwn (model X.prog X.w) X.A X.env X.xe) (ho : whX c step fuel s0 = some o) (Iv : S → L2.St → Hp → Prop) (h0 : Iv s0 σ H)
    (hs : ∀ s σ H k, Iv s σ H → c s = some k → WT X σ H e fun k' H1 => k' = k ∧ (k = true → ∀ o', step s = some o' → (∀ r, o' = .rt r → o = .rt r) →
      WSs X σ H1 body { nx := fun σ' H' => ∃ s', o' = .nx s' ∧ Iv s' σ' H', ct := fun σ' H' => ∃ s', o' = .nx s' ∧ Iv s' σ' H', rt := D.rt }) ∧ (k = false → o = .nx s → D.nx σ H1)) : WS X σ H (.While e body [] pos) D := by
  refine WS.of (ps_while hp pt_u pss_u) ?_
  refine ⟨fun m σ H => ∃ s, Iv s σ H ∧ whX c step m s = some o, ⟨fuel, s0, h0, ho⟩, ?_⟩
  rintro m σ1 H1 ⟨s, hI, hw⟩
  cases m with
  | zero => cases hw
  | succ m =>
    unfold whX at hw
    cases hc : c s with
    | none =>
      rw [hc] at hw
      cases hw
    | some k =>
      rw [hc] at hw
      refine (hs s σ1 H1 k hI hc).mono fun k' H2 ⟨ek, hb⟩ => ?_
      subst ek
      obtain ⟨h1, h2⟩ := hb
      cases k' with
      | false => exact h2 rfl (Option.some.inj hw).symm
      | true =>
        cases hst : step s with
        | none =>
          rw [hst] at hw
          cases hw
        | some o' =>
          rw [hst] at hw
          refine ⟨fun σ' H' => ∃ s', o' = .nx s' ∧ Iv s' σ' H', fun σ' H' ⟨s', e1, q⟩ => ?_, ?_⟩
          · subst e1
            exact ⟨m, Nat.lt_succ_self m, s', q, hw⟩
          · refine WSs.imp (h1 rfl o' hst ?_) ⟨fun _ _ q => q, fun _ _ q => q, fun _ _ q => q.elim, fun _ _ q => q⟩
            intro r e1
            subst e1
            exact (Option.some.inj hw).symm
/-! ## isinstance, len of what is told with effects -/
theorem we_isiE {m : Str} {pm : Pos} {T T' : String} {k : Bool} (hk : kitB T T' = some k) (hm : X.mg n = none) (hmT : X.mg m = none) (hT : bootBuiltins m = some (.type T')) (h : WE X σ H a fun x H1 => TyX X.K H1 x (.type T) ∧ Q (.bl k) H1) (hn : n = "isinstance" := by rfl) (hg : Gl X n := by rfl) (hgm : Gl X m := by rfl)
    (hm1 : m ≠ "__name__" := by decide) (hm2 : (m == ("__debug__" : Str)) = false := by decide) (he : nStar a = true := by rfl) : WE X σ H (.Call (.Name n p) [a, .Name m pm] [] pos) Q := by
  subst hn
  exact we_bi call_isi hm (by decide +kernel) (wa_cons (h.mono fun x H1 ⟨ht, q⟩ => wa_cons (WE.of (pe_bltn hgm hmT hT (v := .ty T') rfl hm1 hm2) (wa_nil ⟨x, .ty T', .type T, .type T', k, rfl, .ty T', ht, kit_ty hk, q⟩)) rfl) he) hg (by decide) (by decide) he rfl
theorem we_lenLE (hm : X.mg n = none) (h : WE X σ H a fun v H1 => ∃ d xs, v = .ref d ∧ SqL X.K H1 d xs ∧ Q (.int xs.length) H1) (hn : n = "len" := by rfl) (hg : Gl X n := by rfl) (he : nStar a = true := by rfl) : WE X σ H (.Call (.Name n p) [a] [] pos) Q := by
  subst hn
  exact we_bi call_len hm PySem.boot_len (wa_cons (h.mono fun v H1 ⟨d, xs, e1, hx, q⟩ => wa_nil ⟨v, xs.length, rfl, by subst e1; exact .inl ⟨xs, hx, rfl⟩, q⟩) he) hg (by decide) (by decide) he rfl
theorem we_lenSE (hm : X.mg n = none) (h : WE X σ H a fun v H1 => ∃ l, v = .str (S l) ∧ l.length ≤ sizeLine ∧ Q (.int l.length) H1) (hn : n = "len" := by rfl) (hg : Gl X n := by rfl) (he : nStar a = true := by rfl) : WE X σ H (.Call (.Name n p) [a] [] pos) Q := by
  subst hn
  exact we_bi call_len hm PySem.boot_len (wa_cons (h.mono fun v H1 ⟨l, e1, hl, q⟩ => wa_nil ⟨v, l.length, rfl, by subst e1; exact ⟨by rw [S_length]; exact hl, by rw [S_length]⟩, q⟩) he) hg (by decide) (by decide) he rfl
/-! ## [x] * n -/
theorem fin_rep {α : Type} {f : α → V} {xs : List α} {k : Int} (Sx : Ex tb F H) (hl : H d = some (.lst (xs.map f))) (hc : CTms xs k) (q : ∀ p H', Stp tb F H F H' → H p = none → H' p = some (.lst ((tms xs k).map f)) → Q (.ref p) H') : rRep (.ref d) (.int k) H Q :=
  ⟨d, k, _, rfl, rfl, hl, Int.le_of_lt hc.1, hc.2.1, by rw [List.length_map]; exact sz_le hc.2.2, fun p hp => q p _ (Stp.own Sx hp) hp (by
    rw [upd_same]
    unfold tms
    rw [List.map_flatten, List.map_replicate])⟩
/-! ## text + text -/
def rCat : R2 := fun x y H Q => ∃ i j, x = .str i ∧ y = .str j ∧ i.length + j.length ≤ sizeLine ∧ Q (.str (i ++ j)) H
theorem op_catS : OpR X (binaryOp .Add) rCat := op_add_str
theorem fin_catS {i j : List Nat} (hc : i.length + j.length ≤ sizeLine) (q : Q (.str (S (i ++ j))) H) : rCat (.str (S i)) (.str (S j)) H Q := fin_cat hc q
theorem frz_ex {p : Addr} {o : HO} (Sx : Ex tb F H) (hp : H p = none) (n : pO o = true) : ∃ F', Stp tb F H F' (upd H p o) ∧ F' p = some o := ⟨_, Stp.frz Sx hp n, upd_same⟩
end
end Bk
namespace Bk
open PySem PySem.Spec PyProof.Rows L2
/-! ## words for what may be refused -/
def bndX {α β : Type} (m : Option (Except Nat α)) (f : Nat → Option β) (k : α → Option β) : Option β := match m with
  | none => none
  | some (.error i) => f i
  | some (.ok y) => k y
theorem bndX_c {α β : Type} {m : Option (Except Nat α)} {f : Nat → Option β} {k : α → Option β} {r : β} {P : Prop} (h : bndX m f k = some r) (he : ∀ i, m = some (.error i) → f i = some r → P) (ho : ∀ y, m = some (.ok y) → k y = some r → P) : P := by
  cases m with
  | none => cases h
  | some x =>
    cases x with
    | error i => exact he i rfl h
    | ok y => exact ho y rfl h
theorem bndX_o {α β : Type} {m : Option (Except Nat α)} {f : Nat → Option β} {k : α → Option β} {y : α} (h : m = some (.ok y)) : bndX m f k = k y := by subst h; rfl
theorem bndX_r {α β : Type} {m : Option (Except Nat α)} {f : Nat → Option β} {k : α → Option β} {i : Nat} (h : m = some (.error i)) : bndX m f k = f i := by subst h; rfl
def okO {α : Type} (m : Option (Except Nat α)) : Option α := match m with
  | some (.ok y) => some y
  | _ => none
theorem okO_e {α : Type} {m : Option (Except Nat α)} {y : α} (h : okO m = some y) : m = some (.ok y) := by
  cases m with
  | none => cases h
  | some x =>
    cases x with
    | error i => cases h
    | ok z => cases h; rfl
theorem okO_i {α : Type} {m : Option (Except Nat α)} {y : α} (h : m = some (.ok y)) : okO m = some y := by subst h; rfl
/-! ## a def that may raise -/
section
variable {P : Program} {w : World} {K : PySem.W.Frag} {mg : Str → Option Value} {base : Heap}
theorem okE {x qual : Str} {st : Stmt} {f : Addr} {fd : FuncData} {N ps : List Str} {k : Nat} {sp : Sp} (F : Fun K x qual st f fd) (Sc : FnScope N ps (defScope st)) (len : ∀ vs H Q E, sp vs H Q E → vs.length = ps.length)
    (h : ∀ (cdv : Value) (A : Around) (outer : List Env) (s : Shared) (H : Hp) (vs : List V) (Q : VK) (E : XK), Room k (A.deeper (envOfC qual (defScope st) s.heap.objs.size f cdv)) → sp vs H Q E →
      Takes (cxOf (L2.CX P w) P w K mg base N qual (defScope st) f cdv A outer s H E) (fun cls d _ H' => E cls d H') →
      PassesOwn (model P w) (cxOf (L2.CX P w) P w K mg base N qual (defScope st) f cdv A outer s H E).A (cxOf (L2.CX P w) P w K mg base N qual (defScope st) f cdv A outer s H E).env (cxOf (L2.CX P w) P w K mg base N qual (defScope st) f cdv A outer s H E).xe →
      WSs (cxOf (L2.CX P w) P w K mg base N qual (defScope st) f cdv A outer s H E) (start N vs) H (defBody st) { nx := fun _ H' => Q .non H', rt := Q }) : FnOk P w K mg base (L2.CX P w) (k + 1) f fd ps sp :=
  F.okX Sc len fun cdv A outer s H vs Q E hr hsp => ⟨_, pss_u, h cdv A outer s H vs Q E hr hsp (takes_of rfl rfl rfl rfl) (passes_of (X := cxOf (L2.CX P w) P w K mg base N qual (defScope st) f cdv A outer s H E) rfl)⟩
end
/-- an own class of exceptions -/
structure ExcK (K : PySem.W.Frag) (mg : Str → Option Value) (x : Str) (C : Addr) : Prop where
  q : PySem.W.excIn K C [.type "ValueError", .type "Exception", .type "BaseException", .type "object"] "ValueError.__new__" = true
  g : mg x = some (.ref C)
  k : PySem.W.keepIn K (.ref C) = true
  r1 : PySem.W.subIn K (.ref C) (.type "BaseException") = some true
  r2 : PySem.W.typeIn K (.ref C) = some (.type "type")
section
variable {X : Cx} {σ : L2.St} {F H : Hp} {Q : VK} {D : Ends} {W : WX} {tb : TbL} {C : Addr} {n x m : Str} {p p2 pos pos' cpos np : Pos} {e a : Expr} {es : List Expr} {k j i : Nat} {f : Addr} {fd : FuncData} {ps : List Str} {sp : Sp} {body suite : List Stmt} {b₀ : Stmt}
theorem we_callX (Fn : FnOk X.prog X.w X.K X.mg X.base (L2.CX X.prog X.w) k f fd ps sp) (hr : Room k X.A) (hm : X.mg n = some (.ref f)) (hk : PySem.W.keepIn X.K (.ref f) = true) (hb : Binds X.K fd ps []) (tk : Takes X W)
    (h : WA X σ H (e :: es) fun vs H1 => sp vs H1 Q (fun cls d H' => W cls d σ H')) (hg : Gl X n := by rfl) (hdb : (n == ("__debug__" : Str)) = false := by decide) (he : nStar e = true := by rfl) (hpl : es.all nStar = true := by rfl) : WE X σ H (.Call (.Name n p) (e :: es) [] pos) Q :=
  WE.of (pe_callS Fn hr hg hm hk hb (fun σ => passAt tk σ) pa_u hdb (star_c he) (star_n hpl)) h
theorem ws_raise (tk : Takes X W) (G : ExcK X.K X.mg x C) (h : W (.ref C) none σ H) (hc : X.calm = true := by rfl) (hg : Gl X x := by rfl) (hdb : (x == ("__debug__" : Str)) = false := by decide) : WS X σ H (.Raise (some (.Call (.Name x p) [.Constant (.str m) j p2] [] pos)) none pos') D :=
  WS.of (ps_raise hc tk (pmk_own PySem.F.excBase_ValueError G.q G.g G.k (raises_own G.r1 G.r2) hg hdb)) h
/-! ## try -/
abbrev tsU (X : Cx) (st : List Stmt) : Addr → Value → Option Addr → TS := fun a cls d D σ H => ∀ (oe : Obj) (pn : List (Addr × Obj)), Zc cls d oe → (∃ vs, oe.data = .fields vs) → WSs (X.suite a ((a, oe) :: pn)) σ H st D
theorem ws_try_as {c : Value} (i : Nat) (nd : X.N.Nodup) (hc : Names X x c) (h : ∀ (pn : List (Addr × Obj)) (xe : Value → Shared → Prop), Takes (X.tr pn xe) (wAs X.K c i (tsU X (b₀ :: suite)) W D) → PassesOwn (model X.prog X.w) X.A X.env xe → WSs (X.tr pn xe) σ H body D) (tk : Takes X W)
    (hs : X.stack = X.env :: X.outer := by rfl) (hf : X.env.frame = some X.env.locals := by rfl) (hi : X.N[i]? = some n := by rfl) (hln : X.env.kindOf n = some .local := by rfl) :
    WS X σ H (.Try body [.ExceptHandler (some (.Name x np)) (some n) (b₀ :: suite) pos'] [] [] pos) D :=
  WS.of (ps_try_as (tb := fun W D σ H => ∀ (pn : List (Addr × Obj)) (xe : Value → Shared → Prop), Takes (X.tr pn xe) W → PassesOwn (model X.prog X.w) X.A X.env xe → WSs (X.tr pn xe) σ H body D) (ts := tsU X (b₀ :: suite)) hs hf nd hi hln hc tk
    (fun W pn xe tk hp => ⟨fun pins s σ H D I h => (h pn xe tk hp).run pins s I⟩) (fun a oe cls d pn hz hv => ⟨fun pins s σ H D I h => (h oe pn hz hv).run pins s I⟩)) h
theorem ws_try_only {c : Value} (hc : Names X x c) (h : ∀ (pn : List (Addr × Obj)) (xe : Value → Shared → Prop), Takes (X.tr pn xe) (wOnly X.K c (tsU X (b₀ :: suite)) W D) → PassesOwn (model X.prog X.w) X.A X.env xe → WSs (X.tr pn xe) σ H body D) (tk : Takes X W)
    (hs : X.stack = X.env :: X.outer := by rfl) (hf : X.env.frame = some X.env.locals := by rfl) :
    WS X σ H (.Try body [.ExceptHandler (some (.Name x np)) none (b₀ :: suite) pos'] [] [] pos) D :=
  WS.of (ps_try_only (tb := fun W D σ H => ∀ (pn : List (Addr × Obj)) (xe : Value → Shared → Prop), Takes (X.tr pn xe) W → PassesOwn (model X.prog X.w) X.A X.env xe → WSs (X.tr pn xe) σ H body D) (ts := tsU X (b₀ :: suite)) hs hf hc tk
    (fun W pn xe tk hp => ⟨fun pins s σ H D I h => (h pn xe tk hp).run pins s I⟩) (fun a oe cls d pn hz hv => ⟨fun pins s σ H D I h => (h oe pn hz hv).run pins s I⟩)) h
theorem names_own {c : Value} (hm : X.mg x = some c) (hg : Gl X x := by rfl) (hd : (x == ("__debug__" : Str)) = false := by decide) : Names X x c := ⟨hg, hd, .inl hm⟩
/-! ## isinstance of the exception in a suite -/
theorem ev_isE {E : Addr} {a' : Addr} {oe : Obj} {pn : List (Addr × Obj)} {b : Bool} {m : Str} {pm : Pos} {Cc : Addr} (G : ExcC X.K E) (hz : Zc (.ref E) none oe) (hf : ∃ vs, oe.data = .fields vs) (ha : EvV (X.suite a' ((a', oe) :: pn)) σ H a (.ref a')) (hm : X.mg n = none) (hc : X.mg m = some (.ref Cc)) (hb : PySem.W.kitOne X.K (.ref E) (.ref Cc) = some b)
    (hn : n = "isinstance" := by rfl) (hg : Gl (X.suite a' ((a', oe) :: pn)) n := by rfl) (hgm : Gl (X.suite a' ((a', oe) :: pn)) m := by rfl) (hd : (m == ("__debug__" : Str)) = false := by decide) (he : nStar a = true := by rfl) : EvV (X.suite a' ((a', oe) :: pn)) σ H (.Call (.Name n p) [a, .Name m pm] [] pos) (.bl b) := by
  subst hn
  exact we_bi (call_isE G hz hf) hm (by decide +kernel) (wa_consP ha (wa_consP (ev_glob (v := .ref Cc) hc rfl hgm hd) (wa_nil ⟨.ref Cc, .ref Cc, b, rfl, fun u r => r, hb, rfl, rfl⟩)) he) hg (by decide) (by decide) he rfl
theorem ev_isEB {E : Addr} {a' : Addr} {oe : Obj} {pn : List (Addr × Obj)} {b : Bool} {m : Str} {pm : Pos} {T : String} (G : ExcC X.K E) (hz : Zc (.ref E) none oe) (hf : ∃ vs, oe.data = .fields vs) (ha : EvV (X.suite a' ((a', oe) :: pn)) σ H a (.ref a')) (hm : X.mg n = none) (hc : X.mg m = none) (hT : bootBuiltins m = some (.type T)) (hb : PySem.W.kitOne X.K (.ref E) (.type T) = some b)
    (hn : n = "isinstance" := by rfl) (hg : Gl (X.suite a' ((a', oe) :: pn)) n := by rfl) (hgm : Gl (X.suite a' ((a', oe) :: pn)) m := by rfl) (hm1 : m ≠ "__name__" := by decide) (hd : (m == ("__debug__" : Str)) = false := by decide) (he : nStar a = true := by rfl) : EvV (X.suite a' ((a', oe) :: pn)) σ H (.Call (.Name n p) [a, .Name m pm] [] pos) (.bl b) := by
  subst hn
  exact we_bi (call_isE G hz hf) hm (by decide +kernel) (wa_consP ha (wa_cons (WE.of (pe_bltn hgm hc hT (v := .ty T) rfl hm1 hd) (wa_nil ⟨.ty T, .type T, b, rfl, fun u r => r, hb, rfl, rfl⟩)) rfl) he) hg (by decide) (by decide) he rfl
/-- .. of a tuple of own classes -/
def rIsET (K : PySem.W.Frag) (D a : Addr) : List V → Hp → VK → Prop := fun xs H Q => ∃ (tp : Addr) (cs : List V) (b : Bool), xs = [.ref a, .ref tp] ∧ H tp = some (.tup cs) ∧ (∀ us, Vals cs us → PySem.W.kitAny K (.ref D) us = some b) ∧ Q (.bl b) H
theorem call_isET {a D : Addr} {oe : Obj} {pn : List (Addr × Obj)} (C : ExcC X.K D) (hz : Zc (.ref D) none oe) (hf : ∃ vs, oe.data = .fields vs) : CallR (X.suite a ((a, oe) :: pn)) (.builtin "isinstance") (rIsET X.K D a) := by
  intro pins s σ H xs us Q I r h
  obtain ⟨tp, cs, b, rfl, ht, e, q⟩ := h
  cases r with
  | cons rx rr =>
    cases rr with
    | cons rt rr =>
      cases rr
      cases rx
      cases rt
      obtain ⟨hget, _⟩ := I.pin (a, oe) (List.mem_append.mpr (.inl List.mem_cons_self))
      obtain ⟨vs, hv⟩ := hf
      have J : PySem.W.InstAt s.heap a oe D none := by
        obtain ⟨oc, od, oda, osl⟩ := oe
        obtain ⟨h1, h2⟩ := hz
        dsimp only at h1 h2 hv
        subst h1 h2 hv
        exact ⟨hget, rfl, rfl, trivial⟩
      obtain ⟨_, its, rv, o, ho, hc, nn, hd⟩ := I.hok tp _ ht
      obtain ⟨oc, od, oda, osl⟩ := o
      dsimp only at hc hd
      subst hc hd
      exact PySem.W.kia_tup (PySem.W.handS_kitx_exc C.hg C.hk C.hs C.hd C.ha C.hn C.ht C.hm) I.kIn J ho (e its rv) (fun z => nomatch z) fun tk => ⟨.bl b, H, I.kept (t' := tk) fun _ _ z => z, rfl, q⟩
theorem we_isET {E : Addr} {a' : Addr} {oe : Obj} {pn : List (Addr × Obj)} {b : Bool} {pt : Pos} {kk : Nat} {cs : List V} {ts : List Expr} (G : ExcC X.K E) (hz : Zc (.ref E) none oe) (hf : ∃ vs, oe.data = .fields vs) (Sx : Ex tb F H) (ha : EvV (X.suite a' ((a', oe) :: pn)) σ H a (.ref a')) (hm : X.mg n = none) (ht : EvA (X.suite a' ((a', oe) :: pn)) σ H ts cs) (hl : cs.length ≤ sizeLine)
    (hb : ∀ us, Vals cs us → PySem.W.kitAny X.K (.ref E) us = some b) (q : ∀ F' H', Stp tb F H F' H' → Q (.bl b) H') (hn : n = "isinstance" := by rfl) (hg : Gl (X.suite a' ((a', oe) :: pn)) n := by rfl) (he : nStar a = true := by rfl) : WE (X.suite a' ((a', oe) :: pn)) σ H (.Call (.Name n p) [a, .Tuple ts kk pt] [] pos) Q := by
  subst hn
  exact we_bi (call_isET G hz hf) hm (by decide +kernel) (wa_consP ha (wa_cons (q_tup Sx ht hl fun p F' H' s hp => wa_nil ⟨p, cs, b, rfl, s.s.at hp, hb, q F' H' s⟩) rfl) he) hg (by decide) (by decide) he rfl
theorem kit2 {K : PySem.W.Frag} {E A B : Addr} {x y : Bool} (h1 : PySem.W.kitOne K (.ref E) (.ref A) = some x) (h2 : PySem.W.kitOne K (.ref E) (.ref B) = some y) : ∀ us, Vals [.ref A, .ref B] us → PySem.W.kitAny K (.ref E) us = some (x || y) := fun us r => by
  cases r with
  | cons r1 r =>
    cases r with
    | cons r2 r =>
      cases r
      cases r1
      cases r2
      unfold PySem.W.kitAny PySem.W.kitAny PySem.W.kitAny
      rw [h1, h2]
      cases x <;> cases y <;> rfl
end
end Bk
namespace Bk
open PySem PySem.Spec PySem.W PyProof.Rows L2
section
variable {X : Cx} {σ σ' : L2.St} {H H0 F : Hp} {e o a b c elt tg iter : Expr} {es : List Expr} {pos spos apos cpos py : Pos} {v x z : V} {Q : VK} {D : Ends} {d : Addr} {n y : Str} {p p3 tp : Pos} {tb : TbL} {body : List Stmt}
/-! ## a for over a tuple told with effects -/
theorem sv_Tf {K : PySem.W.Frag} {α : Type} {f : α → V} {d : Addr} {xs : List α} : Sv (Itt K d) xs (Yf f) (fun H' => SqT K H' d (xs.map f)) :=
  ⟨_, _, _, walk_tup, by simp, fun _ k => k, fun i t x H1 H2 ht hy => ⟨hy.1.symm, by
    obtain ⟨c, h1, h2⟩ := map_get hy.2
    rw [ht] at h1
    cases h1
    exact h2⟩⟩
theorem ws_forT {g : TG} (hg : PG X tg g) (hp : PassesOwn (model X.prog X.w) X.A X.env X.xe) (hcalm : X.calm = true) (h : WE X σ H iter fun v H1 => ∃ d, v = .ref d ∧ (∃ ws, SqT X.K H1 d ws) ∧ LG X (Itt X.K d) g body D σ H1) (hst : nSet iter = true := by rfl) : WS X σ H (.For tg iter body [] pos) D :=
  WS.of (ps_for hp hcalm (pi_tup pe_u) hg pss_u (fs_n hst)) (h.mono fun v H1 ⟨d, e1, e2, q⟩ => ⟨d, e1, e2, q⟩)
/-! ## min, max of a list of numbers -/
theorem reads_ints {h : Heap} : ∀ {xs : List Int} {us : List Value}, Vals (xs.map V.int) us → ReadsAll h us (xs.map PyData.int) []
  | [], _, .nil => .nil
  | x :: xs, _, .cons r rs => by
    obtain ⟨t, rfl⟩ := r
    exact .cons (.int x t) (reads_ints rs)
theorem depth_ints : ∀ xs : List Int, PyData.depthAll (xs.map PyData.int) = 0
  | [] => rfl
  | x :: xs => by
    show max 0 (PyData.depthAll (xs.map PyData.int)) = 0
    rw [depth_ints xs]
    rfl
def rMinI (K : PySem.W.Frag) : List V → Hp → VK → Prop := fun vs H Q => ∃ (p : Addr) (x : Int) (xs : List Int), vs = [.ref p] ∧ SqL K H p ((x :: xs).map V.int) ∧ Q (.int (xs.foldl min x)) H
def rMaxI (K : PySem.W.Frag) : List V → Hp → VK → Prop := fun vs H Q => ∃ (p : Addr) (x : Int) (xs : List Int), vs = [.ref p] ∧ SqL K H p ((x :: xs).map V.int) ∧ Q (.int (xs.foldl max x)) H
theorem alike_ints (x : Int) (xs : List Int) : AlikeAll (PyData.int x :: xs.map PyData.int) := by
  have h : ∀ y ∈ PyData.int x :: xs.map PyData.int, ∃ i, y = PyData.int i := fun y hy => by
    rcases List.mem_cons.1 hy with z | z
    · exact ⟨x, z⟩
    · obtain ⟨i, _, e⟩ := List.mem_map.1 z
      exact ⟨i, e.symm⟩
  refine ⟨fun a ha b hb => ?_, fun a ha z => ?_⟩
  · obtain ⟨i, rfl⟩ := h a ha
    obtain ⟨j, rfl⟩ := h b hb
    rfl
  · obtain ⟨i, rfl⟩ := h a ha
    cases z
theorem cr_minI {j : Nat} (hr : Room j X.A) (hc : X.calm = true) : CallR X (.builtin "min") (rMinI X.K) := by
  intro pins s σ H vs us Q I r h
  obtain ⟨a, x, xs, rfl, hs, q⟩ := h
  obtain ⟨its, rv, hl, hz⟩ := I.list hs
  rw [Vals.ref1 r]
  refine min_list_data (A := X.A) (x := .int x) (xs := xs.map PyData.int) (I.ok.hd hc) hl.isList (reads_ints (xs := x :: xs) (by simpa using rv)) (alike_ints x xs) ?_ fun i v h' tk bs _ hv k => ?_
  · have := hr.un
    have e := depth_ints (x :: xs)
    rw [List.map_cons] at e
    rw [e]
    omega
  · rw [minD_ints] at hv
    cases hv with
    | int _ t => exact ⟨.int _, H, I.kept k, ⟨t, rfl⟩, q⟩
theorem cr_maxI {j : Nat} (hr : Room j X.A) (hc : X.calm = true) : CallR X (.builtin "max") (rMaxI X.K) := by
  intro pins s σ H vs us Q I r h
  obtain ⟨a, x, xs, rfl, hs, q⟩ := h
  obtain ⟨its, rv, hl, hz⟩ := I.list hs
  rw [Vals.ref1 r]
  refine max_list_data (A := X.A) (x := .int x) (xs := xs.map PyData.int) (I.ok.hd hc) hl.isList (reads_ints (xs := x :: xs) (by simpa using rv)) (alike_ints x xs) ?_ fun i v h' tk bs _ hv k => ?_
  · have := hr.un
    have e := depth_ints (x :: xs)
    rw [List.map_cons] at e
    rw [e]
    omega
  · rw [maxD_ints] at hv
    cases hv with
    | int _ t => exact ⟨.int _, H, I.kept k, ⟨t, rfl⟩, q⟩
/-- of a list that is not empty -/
def minI (xs : List Int) : Option Int := match xs with
  | [] => none
  | x :: r => some (r.foldl min x)
def maxI (xs : List Int) : Option Int := match xs with
  | [] => none
  | x :: r => some (r.foldl max x)
theorem we_minI {j : Nat} (hr : Room j X.A) (hm : X.mg n = none) (h : WE X σ H e fun v H1 => ∃ d xs y, v = .ref d ∧ SqL X.K H1 d (xs.map V.int) ∧ minI xs = some y ∧ Q (.int y) H1) (hn : n = "min" := by rfl) (hg : Gl X n := by rfl) (he : nStar e = true := by rfl) (hc : X.calm = true := by rfl) : WE X σ H (.Call (.Name n p) [e] [] pos) Q := by
  subst hn
  refine we_bi (cr_minI hr hc) hm (by decide +kernel) (wa_cons (h.mono fun v H1 ⟨d, xs, y, e1, hs, hy, q⟩ => wa_nil ?_) he) hg (by decide) (by decide) he rfl
  cases xs with
  | nil => cases hy
  | cons x r =>
    cases hy
    exact ⟨d, x, r, by rw [e1], hs, q⟩
theorem we_maxI {j : Nat} (hr : Room j X.A) (hm : X.mg n = none) (h : WE X σ H e fun v H1 => ∃ d xs y, v = .ref d ∧ SqL X.K H1 d (xs.map V.int) ∧ maxI xs = some y ∧ Q (.int y) H1) (hn : n = "max" := by rfl) (hg : Gl X n := by rfl) (he : nStar e = true := by rfl) (hc : X.calm = true := by rfl) : WE X σ H (.Call (.Name n p) [e] [] pos) Q := by
  subst hn
  refine we_bi (cr_maxI hr hc) hm (by decide +kernel) (wa_cons (h.mono fun v H1 ⟨d, xs, y, e1, hs, hy, q⟩ => wa_nil ?_) he) hg (by decide) (by decide) he rfl
  cases xs with
  | nil => cases hy
  | cons x r =>
    cases hy
    exact ⟨d, x, r, by rw [e1], hs, q⟩
/-- a slice of a list told with effects -/
theorem fin_slL {α : Type} {f : α → V} {xs : List α} {i j : Option Int} (Sx : Ex tb F H) (hs : SqL X.K H d (xs.map f)) (q : ∀ p H', Stp tb F H F H' → H p = none → H' p = some (.lst ((cut xs i j).map f)) → Q (.ref p) H') : rSlL X.K (.ref d) i j H Q :=
  ⟨d, _, rfl, hs, fun p hp => q p _ (Stp.own Sx hp) hp (by rw [upd_same, cutV_map])⟩
end
end Bk
namespace Bk
open PySem PySem.Spec PyProof.Rows L2
/-! ## a list lent to a def that changes it -/
def del (H : Hp) (d : Addr) : Hp := fun a => if a = d then none else H a
theorem del_ne {H : Hp} {d a : Addr} (h : a ≠ d) : del H d a = H a := if_neg h
theorem del_at {H : Hp} {d : Addr} : del H d d = none := if_pos rfl
theorem del_tabs {tb : TbL} {H : Hp} {d : Addr} {o : HO} (hd : H d = some o) (n : pO o = true) (t : LamX.Tabs tb H) : LamX.Tabs tb (del H d) := by
  intro p hp
  obtain ⟨ps, h1, h2, h3⟩ := t p hp
  have hP : p.1 ≠ d := fun z => by
    rw [z, hd] at h1
    cases h1
    cases n
  refine ⟨ps, by rw [del_ne hP]; exact h1, h2, fun pos cv hc => ?_⟩
  obtain ⟨c, e1, e2⟩ := h3 pos cv hc
  refine ⟨c, e1, ?_⟩
  rw [del_ne fun z => by rw [z, hd] at e2; cases e2; cases n]
  exact e2
theorem undel_tabs {tb : TbL} {H : Hp} {d : Addr} {o : HO} (hd : H d = some o) (n : pO o = true) (t : LamX.Tabs tb (del H d)) : LamX.Tabs tb H := by
  intro p hp
  obtain ⟨ps, h1, h2, h3⟩ := t p hp
  have hP : p.1 ≠ d := fun z => by
    rw [z, del_at] at h1
    cases h1
  rw [del_ne hP] at h1
  refine ⟨ps, h1, h2, fun pos cv hc => ?_⟩
  obtain ⟨c, e1, e2⟩ := h3 pos cv hc
  refine ⟨c, e1, ?_⟩
  rw [del_ne fun z => by rw [z, del_at] at e2; cases e2] at e2
  exact e2
theorem Stp.lent {tb : TbL} {F H : Hp} {d : Addr} {o : HO} (S : Ex tb F H) (hd : H d = some o) (n : pO o = true := by rfl) : Stp tb F (del H d) F H :=
  ⟨.refl _, ⟨fun a u e _ => by
    by_cases h : a = d
    · rw [h, del_at] at e; cases e
    · rw [del_ne h] at e; exact e, fun a e => by
    by_cases h : a = d
    · rw [h]; exact del_at
    · rw [del_ne h]; exact e, undel_tabs hd n⟩, S, fun _ _ e => .inl e⟩
theorem Stp.back {tb : TbL} {F H F1 H1 F' H' : Hp} {d : Addr} {o : HO} (T : Stp tb F H F1 H1) (hE : H d = none) (hd : H1 d = some o) (s : Stp tb F1 (del H1 d) F' H') (hN : F' d = none) (n : pO o = true := by rfl) : Stp tb F H F' H' :=
  ⟨T.f.trans s.f, ⟨fun a u e nu => s.h.k a u (by rw [del_ne fun z => by rw [z, hE] at e; cases e]; exact T.h.k a u e nu) nu, fun a e => by
    by_cases h : a = d
    · rw [h]; exact hE
    · have := s.h.d a e
      rw [del_ne h] at this
      exact T.h.d a this, fun t => s.h.t (del_tabs hd n (T.h.t t))⟩, s.s, fun a u e => by
    rcases s.n a u e with z | z
    · exact T.n a u z
    · by_cases h : a = d
      · rw [h, hN] at e; cases e
      · rw [del_ne h] at z
        exact .inr (T.h.free z)⟩
section
variable {X : Cx} {σ σ' : L2.St} {H H0 F : Hp} {e o a b : Expr} {pos apos cpos : Pos} {v x z : V} {Q : VK} {d : Addr}
/-- an optional list is None or not -/
theorem ec_isNR {α : Type} {f : α → V} {m : Option (List α)} (ha : EvV X σ H a v) (hv : rO (rLf f) F v m) (hb : EvV X σ H b .non) : EvC X σ H .Is a b m.isNone := by
  cases m with
  | none =>
    have e : v = .non := hv
    subst e
    exact ec_isNt ha hb
  | some xs =>
    obtain ⟨d, rfl, _⟩ := hv
    exact ec_isNf ha hb fun z => by cases z
theorem ec_isnNR {α : Type} {f : α → V} {m : Option (List α)} (ha : EvV X σ H a v) (hv : rO (rLf f) F v m) (hb : EvV X σ H b .non) : EvC X σ H .IsNot a b (!m.isNone) := by
  cases m with
  | none =>
    have e : v = .non := hv
    subst e
    exact ec_of op_notN ha hb (fun _ q => ⟨rfl, by rw [decide_eq_true rfl]; exact q⟩) (nomark _)
  | some xs =>
    obtain ⟨d, rfl, _⟩ := hv
    exact ec_isnNf ha hb fun z => by cases z
theorem rO_some {α : Type} {R : Hp → V → α → Prop} {m : Option α} {y : α} (h : rO R F v m) (e : m = some y) : R F v y := by
  subst e
  exact h
/-- xs.count(i) -/
def cntI (xs : List Int) (i : Int) : Nat := xs.count i
theorem ev_countI {xs : List Int} {i : Int} (ho : EvV X σ H o (.ref d)) (hd : SqL X.K H d (xs.map V.int)) (ha : EvV X σ H e (.int i)) (hn : nCall o = true := by rfl) (hline : (apos.endLine == cpos.line) = true := by rfl) (he : nStar e = true := by rfl) :
    EvV X σ H (.Call (.Attribute o "count" apos) [e] [] cpos) (.int ((cntI xs i : Nat) : Int)) :=
  ev_bm PySem.F.plainAttrs_list PySem.F.slot_list_count PySem.F.type_list_count mt_lcount ho (ty_l hd) (ea_cons ha ea_nil he) ⟨d, xs, i, rfl, rfl, hd, rfl, rfl⟩ hn (few1 he) hline he rfl
theorem rl_some (h : rLf V.int H v xs) : rLf (oV V.int) H v (xs.map some) := by
  obtain ⟨d, e, h⟩ := h
  refine ⟨d, e, ?_⟩
  rw [List.map_map]
  exact h
end
end Bk
namespace Bk
open PySem PySem.Spec PyProof.Rows L2
/-! ## a def with defaults; keywords -/
section
variable {P : Program} {w : World} {K : PySem.W.Frag} {mg : Str → Option Value} {base : Heap}
theorem okED {x qual : Str} {st : Stmt} {dvs : List V} {f : Addr} {fd : FuncData} {N ps : List Str} {k : Nat} {sp : Sp} (F : FunD K x qual (defArgs st) (defBody st) (defScope st) dvs [] f fd) (Sc : FnScope N ps (defScope st)) (len : ∀ vs H Q E, sp vs H Q E → vs.length = ps.length)
    (h : ∀ (cdv : Value) (A : Around) (outer : List Env) (s : Shared) (H : Hp) (vs : List V) (Q : VK) (E : XK), Room k (A.deeper (envOfC qual (defScope st) s.heap.objs.size f cdv)) → sp vs H Q E →
      Takes (cxOf (L2.CX P w) P w K mg base N qual (defScope st) f cdv A outer s H E) (fun cls d _ H' => E cls d H') →
      PassesOwn (model P w) (cxOf (L2.CX P w) P w K mg base N qual (defScope st) f cdv A outer s H E).A (cxOf (L2.CX P w) P w K mg base N qual (defScope st) f cdv A outer s H E).env (cxOf (L2.CX P w) P w K mg base N qual (defScope st) f cdv A outer s H E).xe →
      WSs (cxOf (L2.CX P w) P w K mg base N qual (defScope st) f cdv A outer s H E) (start N vs) H (defBody st) { nx := fun _ H' => Q .non H', rt := Q }) : FnOk P w K mg base (L2.CX P w) (k + 1) f fd ps sp :=
  F.ok Sc len fun cdv A outer s H vs Q E hr hsp => ⟨_, pss_u, h cdv A outer s H vs Q E hr hsp (takes_of rfl rfl rfl rfl) (passes_of (X := cxOf (L2.CX P w) P w K mg base N qual (defScope st) f cdv A outer s H E) rfl)⟩
/-- every parameter given by place -/
theorem fd_full {x qual : Str} {params : Arguments} {body : List Stmt} {scope : Scope} {dvs : List V} {f : Addr} {fd : FuncData} {ps : List Str} (F : FunD K x qual params body scope dvs [] f fd) (hd : dvs ≠ [])
    (h : ∀ (T : Addr) (kV doc pm : Value) (an : Option Addr) (cdv ct : Value) (us its : List Value), us.length = ps.length → its.length = dvs.length →
      ∃ k, bindArgs (PySem.W.fnOf x qual params body scope (.ref T) kV doc pm an cdv ct) ⟨us, []⟩ = seqItems? (.ref T) >>= k ∧ k (some its.toArray) = pure (ps.zip (us ++ its.drop dvs.length))) : Binds K fd ps [] := by
  obtain ⟨ds, h1, h2⟩ := F.binds1 ps.length dvs.length hd (by omega) h
  rw [List.drop_length] at h1
  cases h1
  exact h2
/-- two parameters, the second by its name -/
def kg2 {α : Type} (us ws : List α) : List α := match us, ws with
  | [a], [w] => [a, w]
  | _, _ => []
theorem kg2_len {α : Type} {us ws : List α} (h : (kg2 us ws).length = 2) : ∃ a w, us = [a] ∧ ws = [w] := by
  unfold kg2 at h
  split at h
  · exact ⟨_, _, rfl, rfl⟩
  · cases h
theorem fd_kw {x qual : Str} {params : Arguments} {body : List Stmt} {scope : Scope} {dvs : List V} {f : Addr} {fd : FuncData} {p1 p2 : Str} (F : FunD K x qual params body scope dvs [] f fd) (hd : dvs ≠ [])
    (h : ∀ (T : Addr) (kV doc pm : Value) (an : Option Addr) (cdv ct u w : Value) (its : List Value), its.length = dvs.length →
      ∃ k, bindArgs (PySem.W.fnOf x qual params body scope (.ref T) kV doc pm an cdv ct) ⟨[u], [(p2, w)]⟩ = seqItems? (.ref T) >>= k ∧ k (some its.toArray) = pure [(p1, u), (p2, w)]) : KBinds K fd [p1, p2] [p2] kg2 kg2 := by
  obtain ⟨oc, od, dV, kV, doc, pm, an, cdv, ct, osl, rfl, lk, hcd, hD, hK⟩ := F.ex
  rcases hD with ⟨e, _⟩ | ⟨_, T, o, its, m, rfl, lT, oT, rT⟩
  · exact absurd e hd
  · refine ⟨fun s us ws X hl => ?_, fun {vs us zs ws} r rz => ?_⟩
    · obtain ⟨a, w, rfl, rfl⟩ := kg2_len hl
      obtain ⟨k, e1, e2⟩ := h T kV doc pm an cdv ct a w its rT.length.symm
      refine BindsTo.of_looks fun M => ?_
      show PySem.W.Looks M s.heap (bindArgs _ ⟨[a], [(p2, w)]⟩) _
      rw [e1]
      exact looks_items X lT oT (.of_pure e2)
    · unfold kg2
      cases r with
      | nil => exact .nil
      | cons r1 r =>
        cases r with
        | cons _ _ => exact .nil
        | nil =>
          cases rz with
          | nil => exact .nil
          | cons z1 rz =>
            cases rz with
            | nil => exact .cons r1 (.cons z1 .nil)
            | cons _ _ => exact .nil
end
section
variable {X : Cx} {σ : L2.St} {H : Hp} {Q : VK} {CX : CXT} {k : Nat} {f : Addr} {fd : FuncData} {ps : List Str} {sp : Sp} {E : XK} {n nm : Str} {p pos kpos : Pos} {e kw : Expr} {es : List Expr} {g : List Value → List Value → List Value} {gV : List V → List V → List V}
theorem we_callK (F : FnOk X.prog X.w X.K X.mg X.base CX k f fd ps sp) (hr : Room k X.A) (hm : X.mg n = some (.ref f)) (hk : PySem.W.keepIn X.K (.ref f) = true) (hb : KBinds X.K fd ps [nm] g gV) (hx : Passes CX X E)
    (h : WA X σ H (e :: es) fun vs H1 => WE X σ H1 kw fun y H2 => sp (gV vs [y]) H2 Q E) (hg : Gl X n := by rfl) (hdb : (n == ("__debug__" : Str)) = false := by decide) (he : nStar e = true := by rfl)
    (hpl : ((backTo pos (starEach (e :: es) X.env)).any (·.1) || (backToKw pos (keywordEach [⟨some nm, kw, kpos⟩] X.env)).any (·.1.isNone)) = false := by rfl) : WE X σ H (.Call (.Name n p) (e :: es) [⟨some nm, kw, kpos⟩] pos) Q :=
  WE.of (pe_callK F hr hg hm hk hb hx pa_u (pk_cons pe_u pk_nil) rfl rfl hdb (star_c he) hpl) h
def rNo : R2 := fun x y H Q => y = .non ∧ Q (.bl (decide (x = .non))) H
def rNno : R2 := fun x y H Q => y = .non ∧ Q (.bl (!decide (x = .non))) H
theorem op_isNo : OpR X (compareOp .Is) rNo := op_isN
theorem op_notNo : OpR X (compareOp .IsNot) rNno := op_notN
theorem fin_isNo {x : V} {b : Bool} (hk : decide (x = .non) = b) (q : Q (.bl b) H) : rNo x .non H Q := ⟨rfl, hk ▸ q⟩
theorem fin_isnNo {x : V} {b : Bool} (hk : decide (x = .non) = b) (q : Q (.bl (!b)) H) : rNno x .non H Q := ⟨rfl, hk ▸ q⟩
end
end Bk
namespace Bk
open PySem PySem.Spec PyProof.Rows L2
/-! ## texts searched -/
/-- l.find(c, i), c one sign -/
def find1 (l : List Nat) (c : Nat) (i : Int) : Int := Txt.find3 (S l) ⟨#[c]⟩ i
/-- l.partition(c), c one sign -/
def part1 (l : List Nat) (c : Nat) : List Nat × List Nat × List Nat := ((Txt.partition (S l) ⟨#[c]⟩).1.cps.toList, (Txt.partition (S l) ⟨#[c]⟩).2.1.cps.toList, (Txt.partition (S l) ⟨#[c]⟩).2.2.cps.toList)
section
variable {X : Cx} {σ σ' : L2.St} {H H0 F : Hp} {e o a b : Expr} {pos apos cpos : Pos} {v x z : V} {Q : VK} {d : Addr} {tb : TbL} {l : List Nat} {c : Nat} {i : Int}
theorem ty_s {t : Str} : tyV X.K "str" (.str t) H := show "str" = "str" from rfl
theorem ev_find1 (ho : EvV X σ H o (.str (S l))) (ha : EvV X σ H a (.str (S [c]))) (hb : EvV X σ H b (.int i)) (hn : nCall o = true := by rfl) (hline : (apos.endLine == cpos.line) = true := by rfl) (h1 : nStar a = true := by rfl) (h2 : nStar b = true := by rfl) :
    EvV X σ H (.Call (.Attribute o "find" apos) [a, b] [] cpos) (.int (find1 l c i)) :=
  ev_bm PySem.F.plainAttrs_str PySem.F.slot_str_find PySem.F.type_str_find mt_find3 ho ty_s (ea_cons ha (ea_cons hb ea_nil h2) h1) ⟨S l, S [c], i, rfl, rfl, rfl, rfl⟩ hn (few2 h1 h2) hline h1 (by simp [h2])
theorem we_part (Sx : Ex tb F H) (ho : EvV X σ H o (.str (S l))) (ha : EvV X σ H a (.str (S [c]))) (hl : l.length ≤ sizeLine) (q : ∀ p F' H', Stp tb F H F' H' → F' p = some (.tup [.str (S (part1 l c).1), .str (S (part1 l c).2.1), .str (S (part1 l c).2.2)]) → Q (.ref p) H')
    (hn : nCall o = true := by rfl) (hline : (apos.endLine == cpos.line) = true := by rfl) (h1 : nStar a = true := by rfl) : WE X σ H (.Call (.Attribute o "partition" apos) [a] [] cpos) Q :=
  we_bm PySem.F.plainAttrs_str PySem.F.slot_str_partition PySem.F.type_str_partition mt_partition ho ty_s (wa_consP ha (wa_nil ⟨S l, S [c], rfl, rfl, rfl, by rw [S_length]; exact hl, fun p hp => by
    have e1 : S (part1 l c).1 = (Txt.partition (S l) (S [c])).1 := S_of _
    have e2 : S (part1 l c).2.1 = (Txt.partition (S l) (S [c])).2.1 := S_of _
    have e3 : S (part1 l c).2.2 = (Txt.partition (S l) (S [c])).2.2 := S_of _
    rw [e1, e2, e3] at q
    exact q p _ _ (Stp.frz Sx hp) upd_same⟩) h1) hn (few1 h1) hline h1 rfl
theorem ec_ninS {i j : List Nat} (ha : EvV X σ H a (.str (S i))) (hb : EvV X σ H b (.str (S j))) (h1 : i.length = 1) (hm : behindInMarks .NotIn b = false := by rfl) : EvC X σ H .NotIn a b (!decide (i.getD 0 0 ∈ j)) :=
  ec_of op_notIn_sign ha hb (fun _ q => ⟨i.getD 0 0, S j, by
    match i, h1 with
    | [c], _ => rfl, rfl, by rw [S_toList]; exact q⟩) hm
theorem ev_globE {n : Str} {v : V} (h : ∃ u, X.mg n = some u ∧ RelV v u) (hg : Gl X n := by rfl) (hd : (n == ("__debug__" : Str)) = false := by decide) : EvV X σ H (.Name n pos) v := by
  obtain ⟨u, h1, h2⟩ := h
  exact ev_glob h1 h2 hg hd
end
end Bk
namespace Bk
open PySem PySem.Spec PyProof.Rows L2
/-! ## sums -/
section
variable {X : Cx} {σ σ' : L2.St} {H H0 F : Hp} {e o a b : Expr} {n : Str} {p pos : Pos} {Q : VK} {d : Addr} {tb : TbL}
theorem we_sumI (hm : X.mg n = none) (h : WE X σ H e fun v H1 => ∃ d, ∃ xs : List Int, v = .ref d ∧ SqL X.K H1 d (xs.map V.int) ∧ Q (.int xs.sum) H1) (hn : n = "sum" := by rfl) (hg : Gl X n := by rfl) (he : nStar e = true := by rfl) (hc : X.calm = true := by rfl) : WE X σ H (.Call (.Name n p) [e] [] pos) Q := by
  subst hn
  exact we_bi (cr_sum hc) hm (by decide +kernel) (wa_cons (h.mono fun v H1 ⟨d, xs, e1, hs, q⟩ => wa_nil ⟨d, xs, by rw [e1], hs, q⟩) he) hg (by decide) (by decide) he rfl
theorem ec_isNG {α : Type} {R : Hp → V → α → Prop} {m : Option α} {v : V} (hR : ∀ F v y, R F v y → v ≠ .non) (ha : EvV X σ H a v) (hv : rO R F v m) (hb : EvV X σ H b .non) : EvC X σ H .Is a b m.isNone := by
  cases m with
  | none =>
    have e : v = .non := hv
    subst e
    exact ec_isNt ha hb
  | some y => exact ec_isNf ha hb (hR _ _ _ hv)
theorem ec_isnNG {α : Type} {R : Hp → V → α → Prop} {m : Option α} {v : V} (hR : ∀ F v y, R F v y → v ≠ .non) (ha : EvV X σ H a v) (hv : rO R F v m) (hb : EvV X σ H b .non) : EvC X σ H .IsNot a b (!m.isNone) := by
  cases m with
  | none =>
    have e : v = .non := hv
    subst e
    exact ec_of op_notN ha hb (fun _ q => ⟨rfl, by rw [decide_eq_true rfl]; exact q⟩) (nomark _)
  | some y => exact ec_isnNf ha hb (hR _ _ _ hv)
theorem we_strI (hm : X.mg n = none) (h : WE X σ H e fun v H1 => ∃ i : Int, v = .int i ∧ i.natAbs.log2 < 1920 ∧ Q (.str (S (strI i))) H1) (hn : n = "str" := by rfl) (hg : Gl X n := by rfl) (he : nStar e = true := by rfl) : WE X σ H (.Call (.Name n p) [e] [] pos) Q := by
  subst hn
  exact we_ty call_str_int hm (by decide +kernel) (wa_cons (h.mono fun v H1 ⟨i, e1, hi, q⟩ => wa_nil ⟨i, by rw [e1], hi, by unfold strI at q; rw [S_of] at q; exact q⟩) he) hg (by decide) (by decide) he rfl
theorem pd_app {β : Type} {R : V → β → Prop} : ∀ {ws ws2 : List V} {xs ys : List β}, Paired R ws xs → Paired R ws2 ys → Paired R (ws ++ ws2) (xs ++ ys)
  | [], _, [], _, .nil, h => h
  | _ :: _, _, _ :: _, _, .cons a t, h => .cons a (pd_app t h)
theorem pd_drop {β : Type} {R : V → β → Prop} : ∀ {ws : List V} {xs : List β} (n : Nat), Paired R ws xs → Paired R (ws.drop n) (xs.drop n)
  | _, _, 0, h => h
  | _, _, _ + 1, .nil => .nil
  | _, _, n + 1, .cons _ t => pd_drop n t
theorem pd_take {β : Type} {R : V → β → Prop} : ∀ {ws : List V} {xs : List β} (n : Nat), Paired R ws xs → Paired R (ws.take n) (xs.take n)
  | _, _, 0, _ => .nil
  | _, _, _ + 1, .nil => .nil
  | _, _, n + 1, .cons a t => .cons a (pd_take n t)
theorem pd_cut {β : Type} {R : V → β → Prop} {ws : List V} {xs : List β} {i j : Option Int} (h : Paired R ws xs) : Paired R (cutV ws i j) (cut xs i j) := by
  unfold cutV cut
  rw [h.length]
  exact pd_take _ (pd_drop _ h)
theorem fin_lcatR {β : Type} {R : V → β → Prop} {d d2 : Addr} {ws ws2 : List V} {xs ys : List β} (Sx : Ex tb F H) (h1 : H d = some (.lst ws)) (h2 : H d2 = some (.lst ws2)) (p1 : Paired R ws xs) (p2 : Paired R ws2 ys) (hc : xs.length + ys.length ≤ 16777216)
    (q : ∀ p H', Stp tb F H F H' → H p = none → H' p = some (.lst (ws ++ ws2)) → Q (.ref p) H') : L2.rCat (.ref d) (.ref d2) H Q :=
  ⟨d, d2, _, _, rfl, rfl, h1, h2, by rw [p1.length, p2.length]; exact sz_le hc, fun p hp => q p _ (Stp.own Sx hp) hp upd_same⟩
end
end Bk
namespace Bk
open PySem L2
/-! ## plain lemmas about the mirrors' words -/
theorem lt_i {α β : Type} {x : α} {k : α → β} : lt x k = k x := rfl
theorem it_i1 {α : Type} {b : Bool} {x y : α} (h : b = true) : it b x y = x := by subst h; rfl
theorem it_i0 {α : Type} {b : Bool} {x y : α} (h : b = false) : it b x y = y := by subst h; rfl
theorem atI_nat {α : Type} {l : List α} {i : Int} (h0 : 0 ≤ i) : atI l i = l[i.toNat]? := by
  unfold atI ixN
  rw [if_pos h0]
  by_cases h : i < l.length
  · rw [if_pos h]; rfl
  · rw [if_neg h, List.getElem?_eq_none (by omega)]; rfl
theorem atI_in {α : Type} {l : List α} {i : Int} (h0 : 0 ≤ i) (h1 : i < l.length) : ∃ x, atI l i = some x ∧ l[i.toNat]? = some x ∧ x ∈ l := by
  have h : i.toNat < l.length := by omega
  refine ⟨l[i.toNat], ?_, List.getElem?_eq_getElem h, List.getElem_mem h⟩
  rw [atI_nat h0, List.getElem?_eq_getElem h]
theorem atI_get {α : Type} {l : List α} {i : Int} (h0 : 0 ≤ i) {h1 : i.toNat < l.length} : atI l i = some l[i.toNat] := by
  rw [atI_nat h0, List.getElem?_eq_getElem h1]
theorem cut_nn {α : Type} (l : List α) (i j : Nat) : cut l (some (i : Int)) (some (j : Int)) = (l.drop i).take (j - i) := by
  unfold cut
  rw [HT.sIx_nat, HT.sIx_nat]
  by_cases h : i ≤ l.length
  · rw [Nat.min_eq_left h]
    by_cases h2 : j ≤ l.length
    · rw [Nat.min_eq_left h2]
    · rw [Nat.min_eq_right (by omega), List.take_of_length_le (by rw [List.length_drop]; omega), List.take_of_length_le (by rw [List.length_drop]; omega)]
  · rw [Nat.min_eq_right (by omega : l.length ≤ i), List.drop_of_length_le (Nat.le_refl _), List.drop_of_length_le (by omega : l.length ≤ i)]
    simp
theorem cut_ii {α : Type} (l : List α) {i j : Int} (h0 : 0 ≤ i) (h1 : 0 ≤ j) : cut l (some i) (some j) = (l.drop i.toNat).take (j.toNat - i.toNat) := by
  obtain ⟨a, rfl⟩ := Int.eq_ofNat_of_zero_le h0
  obtain ⟨b, rfl⟩ := Int.eq_ofNat_of_zero_le h1
  exact cut_nn l a b
theorem cut_in {α : Type} (l : List α) {i : Int} (h0 : 0 ≤ i) : cut l (some i) none = l.drop i.toNat := by
  obtain ⟨a, rfl⟩ := Int.eq_ofNat_of_zero_le h0
  unfold cut
  rw [HT.sIx_nat, HT.sIx_none]
  show _ = l.drop a
  by_cases h : a ≤ l.length
  · rw [Nat.min_eq_left h, List.take_of_length_le (by rw [List.length_drop]; omega)]
  · rw [Nat.min_eq_right (by omega), List.drop_of_length_le (Nat.le_refl _), List.drop_of_length_le (by omega)]
    simp
theorem cut_ni {α : Type} (l : List α) {j : Int} (h0 : 0 ≤ j) : cut l none (some j) = l.take j.toNat := by
  obtain ⟨a, rfl⟩ := Int.eq_ofNat_of_zero_le h0
  unfold cut
  rw [HT.sIx_nat, HT.sIx_none, Nat.sub_zero, List.drop_zero]
  show _ = l.take a
  by_cases h : a ≤ l.length
  · rw [Nat.min_eq_left h]
  · rw [Nat.min_eq_right (by omega), List.take_of_length_le (Nat.le_refl _), List.take_of_length_le (by omega)]
theorem cut_nne {α : Type} (l : List α) : cut l none (some (-(1 : Int))) = l.dropLast := by
  unfold cut
  rw [HT.sIx_none, Nat.sub_zero, List.drop_zero, List.dropLast_eq_take]
  congr 1
  show (if (-(1:Int)) < 0 then (-(1:Int) + (l.length : Int)).toNat else min (-(1:Int)).toNat l.length) = _
  rw [if_pos (by decide)]
  omega
theorem cut_in_hi {α : Type} (l : List α) {i j : Int} (h0 : 0 ≤ i) (h1 : 0 ≤ j) : (cut l (some i) (some j)).length ≤ j.toNat - i.toNat := by
  rw [cut_ii l h0 h1, List.length_take]
  omega
theorem tms_len {α : Type} (l : List α) (n : Int) : (tms l n).length = n.toNat * l.length := by
  unfold tms
  induction n.toNat with
  | zero => simp
  | succ k ih => rw [List.replicate_succ, List.flatten_cons, List.length_append, ih, Nat.succ_mul]; omega
theorem joined_nil : ∀ ys : List (List Nat), joined [] ys = ys.flatten
  | [] => rfl
  | [x] => by simp [joined]
  | x :: y :: r => by
    have ih := joined_nil (y :: r)
    show x ++ ([] ++ joined [] (y :: r)) = _
    rw [ih]
    rfl
theorem sum_le {ys : List (List Nat)} {c : Nat} (h : ∀ y ∈ ys, y.length ≤ c) : (ys.map List.length).sum ≤ ys.length * c := by
  induction ys with
  | nil => simp
  | cons y r ih =>
    rw [List.map_cons, List.sum_cons, List.length_cons, Nat.succ_mul]
    have h1 := h y (List.mem_cons_self ..)
    have h2 := ih fun z hz => h z (List.mem_cons_of_mem _ hz)
    omega
theorem flat_len {α : Type} {ys : List (List α)} {c : Nat} (h : ∀ y ∈ ys, y.length = c) : ys.flatten.length = ys.length * c := by
  induction ys with
  | nil => simp
  | cons y r ih =>
    rw [List.flatten_cons, List.length_append, h y (List.mem_cons_self ..), ih fun z hz => h z (List.mem_cons_of_mem _ hz), List.length_cons, Nat.succ_mul]
    omega
theorem rng_mem {lo hi x : Int} (h : x ∈ rng lo hi) : lo ≤ x ∧ x < hi := by
  unfold rng at h
  rw [List.mem_map] at h
  obtain ⟨k, hk, rfl⟩ := h
  rw [List.mem_range] at hk
  omega
theorem mem_rng {lo hi x : Int} (h0 : lo ≤ x) (h1 : x < hi) : x ∈ rng lo hi := by
  unfold rng
  rw [List.mem_map]
  exact ⟨(x - lo).toNat, List.mem_range.2 (by omega), by omega⟩
theorem rng_nil {lo hi : Int} (h : hi ≤ lo) : rng lo hi = [] := by
  unfold rng
  rw [show (hi - lo).toNat = 0 by omega]
  rfl
theorem rng_cons {lo hi : Int} (h : lo < hi) : rng lo hi = lo :: rng (lo + 1) hi := by
  unfold rng
  rw [show (hi - lo).toNat = (hi - (lo + 1)).toNat + 1 by omega, List.range_succ_eq_map, List.map_cons, List.map_map]
  congr 1
  · simp
  · apply List.map_congr_left
    intro k _
    show lo + ((k + 1 : Nat) : Int) = lo + 1 + (k : Int)
    omega
theorem rng_snoc {lo hi : Int} (h : lo ≤ hi) : rng lo (hi + 1) = rng lo hi ++ [hi] := by
  unfold rng
  rw [show (hi + 1 - lo).toNat = (hi - lo).toNat + 1 by omega, List.range_succ, List.map_append]
  congr 1
  simp
  omega
/-- a loop whose every turn goes on -/
theorem forX_go {α ρ σ : Type} {step : σ → α → Option (Lp ρ σ)} {xs : List α} {s : σ} (h : ∀ x ∈ xs, step s x = some (.nx s)) : forX step xs s = some (.nx s) := by
  induction xs with
  | nil => rfl
  | cons x r ih =>
    unfold forX
    rw [h x (List.mem_cons_self ..)]
    exact ih fun z hz => h z (List.mem_cons_of_mem _ hz)
theorem forX_inv {α ρ σ : Type} {step : σ → α → Option (Lp ρ σ)} (I : σ → Prop) {xs : List α} (h : ∀ s x, I s → x ∈ xs → ∃ s', step s x = some (.nx s') ∧ I s') {s : σ} (h0 : I s) : ∃ s', forX step xs s = some (.nx s') ∧ I s' := by
  induction xs generalizing s with
  | nil => exact ⟨s, rfl, h0⟩
  | cons x r ih =>
    obtain ⟨s1, e, i1⟩ := h s x h0 (List.mem_cons_self ..)
    unfold forX
    rw [e]
    exact ih (fun s z i hz => h s z i (List.mem_cons_of_mem _ hz)) i1
/-- a loop that looks for the first x with p -/
theorem forX_any {α ρ : Type} {step : Unit → α → Option (Lp ρ Unit)} {xs : List α} {p : α → Bool} {r : ρ} (h : ∀ x ∈ xs, step () x = some (if p x then .rt r else .nx ())) : forX step xs () = some (if xs.any p then .rt r else .nx ()) := by
  induction xs with
  | nil => rfl
  | cons x q ih =>
    unfold forX
    rw [h x (List.mem_cons_self ..)]
    cases e : p x with
    | true => simp [e]
    | false =>
      simp only [e, List.any_cons, Bool.false_or, if_false]
      exact ih fun z hz => h z (List.mem_cons_of_mem _ hz)
/-- the same, told up to a first exit: the turns behind an exit need not be told -/
theorem forX_first {α ρ σ : Type} {step : σ → α → Option (Lp ρ σ)} {s : σ} {r : ρ} : ∀ {pre : List α} {x : α} {post : List α}, (∀ y ∈ pre, step s y = some (.nx s)) → step s x = some (.rt r) → forX step (pre ++ x :: post) s = some (.rt r)
  | [], x, post, _, hx => by
    show forX step (x :: post) s = _
    unfold forX
    rw [hx]
  | y :: pre, x, post, h, hx => by
    show forX step (y :: (pre ++ x :: post)) s = _
    unfold forX
    rw [h y (List.mem_cons_self ..)]
    exact forX_first (fun z hz => h z (List.mem_cons_of_mem _ hz)) hx
theorem forS_inv {α σ : Type} {step : σ → α → Option σ} (I : σ → Prop) {xs : List α} (h : ∀ s x, I s → x ∈ xs → ∃ s', step s x = some s' ∧ I s') {s : σ} (h0 : I s) : ∃ s', forS step xs s = some s' ∧ I s' := by
  induction xs generalizing s with
  | nil => exact ⟨s, rfl, h0⟩
  | cons x r ih =>
    obtain ⟨s1, e, i1⟩ := h s x h0 (List.mem_cons_self ..)
    unfold forS
    rw [e]
    exact ih (fun s z i hz => h s z i (List.mem_cons_of_mem _ hz)) i1
/-- invariants that know what has been walked -/
theorem forX_pre {α ρ σ : Type} {step : σ → α → Option (Lp ρ σ)} (I : List α → σ → Prop) : ∀ {xs pre : List α}, (∀ p s x, I p s → (p <+: pre ++ xs) → x ∈ xs → (p ++ [x] <+: pre ++ xs) → ∃ s', step s x = some (.nx s') ∧ I (p ++ [x]) s') → ∀ {s : σ}, I pre s → ∃ s', forX step xs s = some (.nx s') ∧ I (pre ++ xs) s'
  | [], pre, _, s, h0 => ⟨s, rfl, by rw [List.append_nil]; exact h0⟩
  | x :: r, pre, h, s, h0 => by
    have e0 : pre ++ x :: r = (pre ++ [x]) ++ r := by rw [List.append_assoc]; rfl
    obtain ⟨s1, e, i1⟩ := h pre s x h0 ⟨x :: r, rfl⟩ (List.mem_cons_self ..) ⟨r, e0.symm⟩
    unfold forX
    rw [e, e0]
    exact forX_pre I (fun p s z i hp hz hq => h p s z i (e0 ▸ hp) (List.mem_cons_of_mem _ hz) (e0 ▸ hq)) i1
theorem forS_pre {α σ : Type} {step : σ → α → Option σ} (I : List α → σ → Prop) : ∀ {xs pre : List α}, (∀ p s x, I p s → (p <+: pre ++ xs) → x ∈ xs → (p ++ [x] <+: pre ++ xs) → ∃ s', step s x = some s' ∧ I (p ++ [x]) s') → ∀ {s : σ}, I pre s → ∃ s', forS step xs s = some s' ∧ I (pre ++ xs) s'
  | [], pre, _, s, h0 => ⟨s, rfl, by rw [List.append_nil]; exact h0⟩
  | x :: r, pre, h, s, h0 => by
    have e0 : pre ++ x :: r = (pre ++ [x]) ++ r := by rw [List.append_assoc]; rfl
    obtain ⟨s1, e, i1⟩ := h pre s x h0 ⟨x :: r, rfl⟩ (List.mem_cons_self ..) ⟨r, e0.symm⟩
    unfold forS
    rw [e, e0]
    exact forS_pre I (fun p s z i hp hz hq => h p s z i (e0 ▸ hp) (List.mem_cons_of_mem _ hz) (e0 ▸ hq)) i1
theorem forS_foldl {α σ : Type} {step : σ → α → Option σ} {f : σ → α → σ} : ∀ {xs : List α} {s : σ}, (∀ s, ∀ x ∈ xs, step s x = some (f s x)) → forS step xs s = some (xs.foldl f s)
  | [], s, _ => rfl
  | x :: r, s, h => by
    unfold forS
    rw [h s x (List.mem_cons_self ..)]
    exact forS_foldl fun s z hz => h s z (List.mem_cons_of_mem _ hz)
/-- comprehensions -/
theorem lcA_map {α β : Type} {f : α → Option (Option β)} {g : α → β} : ∀ {xs : List α} {acc : List β}, (∀ x ∈ xs, f x = some (some (g x))) → lcA f xs acc = some (acc ++ xs.map g)
  | [], acc, _ => by simp [lcA]
  | x :: r, acc, h => by
    unfold lcA
    rw [h x (List.mem_cons_self ..)]
    show lcA f r (acc ++ [g x]) = _
    rw [lcA_map fun z hz => h z (List.mem_cons_of_mem _ hz)]
    simp
theorem lcA_filter {α β : Type} {f : α → Option (Option β)} {g : α → β} {p : α → Bool} : ∀ {xs : List α} {acc : List β}, (∀ x ∈ xs, f x = some (if p x then some (g x) else none)) → lcA f xs acc = some (acc ++ (xs.filter p).map g)
  | [], acc, _ => by simp [lcA]
  | x :: r, acc, h => by
    unfold lcA
    rw [h x (List.mem_cons_self ..)]
    cases e : p x with
    | true =>
      simp only [e, if_true]
      rw [lcA_filter fun z hz => h z (List.mem_cons_of_mem _ hz)]
      simp [e]
    | false =>
      rw [if_neg (by simp)]
      show lcA f r acc = _
      rw [lcA_filter fun z hz => h z (List.mem_cons_of_mem _ hz)]
      simp [e]
theorem lcA_ex {α β : Type} {f : α → Option (Option β)} (P : α → β → Prop) : ∀ {xs : List α} {acc : List β}, (∀ x ∈ xs, ∃ y, f x = some (some y) ∧ P x y) → ∃ ys, lcA f xs acc = some (acc ++ ys) ∧ ys.length = xs.length ∧ (∀ y ∈ ys, ∃ x ∈ xs, P x y) ∧ ∀ (i : Nat) x y, xs[i]? = some x → (ys : List β)[i]? = some y → P x y
  | [], acc, _ => ⟨[], by simp [lcA], rfl, fun _ h => by simp at h, fun _ _ _ h => by simp at h⟩
  | x :: r, acc, h => by
    obtain ⟨y, e, py⟩ := h x (List.mem_cons_self ..)
    obtain ⟨ys, e2, l2, p2, q2⟩ := lcA_ex P (xs := r) (acc := acc ++ [y]) fun z hz => h z (List.mem_cons_of_mem _ hz)
    refine ⟨y :: ys, ?_, by simp [l2], ?_, ?_⟩
    · unfold lcA
      rw [e]
      show lcA f r (acc ++ [y]) = _
      rw [e2]
      simp
    · intro z hz
      rcases List.mem_cons.1 hz with rfl | hz
      · exact ⟨x, List.mem_cons_self .., py⟩
      · obtain ⟨w, hw, pw⟩ := p2 z hz
        exact ⟨w, List.mem_cons_of_mem _ hw, pw⟩
    · intro i a b ha hb
      cases i with
      | zero =>
        simp at ha hb
        subst ha hb
        exact py
      | succ i =>
        simp at ha hb
        exact q2 i a b ha hb
/-- what stands at a place -/
theorem stands_pre {α : Type} (t p : List α) (k : Nat) : (t.drop k).take p.length = p ↔ ∃ pre post, t = pre ++ (p ++ post) ∧ pre.length = k ∨ p = [] := by
  constructor
  · intro h
    by_cases hp : p = []
    · exact ⟨[], [], .inr hp⟩
    · refine ⟨t.take k, (t.drop k).drop p.length, .inl ⟨?_, ?_⟩⟩
      · have e : (t.drop k) = (t.drop k).take p.length ++ (t.drop k).drop p.length := (List.take_append_drop ..).symm
        rw [h] at e
        rw [← e, List.take_append_drop]
      · rw [List.length_take]
        have : p.length ≠ 0 := fun e => hp (List.length_eq_zero_iff.1 e)
        have h2 : ((t.drop k).take p.length).length = p.length := by rw [h]
        rw [List.length_take, List.length_drop] at h2
        omega
  · rintro ⟨pre, post, ⟨rfl, rfl⟩ | rfl⟩
    · simp
    · simp
end Bk
namespace Bk
open PySem L2
theorem bS {α β : Type} (x : α) (k : α → Option β) : bnd (some x) k = k x := rfl
theorem iT {α : Type} (x y : α) : it true x y = x := rfl
theorem iF {α : Type} (x y : α) : it false x y = y := rfl
/-! ## loops with a measure -/
theorem whS_inv {σ : Type} {c : σ → Option Bool} {step : σ → Option σ} (I : σ → Prop) (μ : σ → Nat) (h : ∀ s, I s → c s = some false ∨ (c s = some true ∧ ∃ s', step s = some s' ∧ I s' ∧ μ s' < μ s)) :
    ∀ {n : Nat} {s : σ}, I s → μ s < n → ∃ s', whS c step n s = some s' ∧ I s' ∧ c s' = some false
  | 0, s, _, hn => absurd hn (Nat.not_lt_zero _)
  | n + 1, s, h0, hn => by
    unfold whS
    rcases h s h0 with e | ⟨e, s', e2, i2, m2⟩
    · rw [e]
      exact ⟨s, rfl, h0, e⟩
    · rw [e]
      show ∃ s'', (match step s with | none => none | some s' => whS c step n s') = some s'' ∧ I s'' ∧ c s'' = some false
      rw [e2]
      exact whS_inv I μ h i2 (by omega)
theorem whX_inv {ρ σ : Type} {c : σ → Option Bool} {step : σ → Option (Lp ρ σ)} (I : σ → Prop) (R : ρ → Prop) (μ : σ → Nat) (h : ∀ s, I s → c s = some false ∨ (c s = some true ∧ ((∃ s', step s = some (.nx s') ∧ I s' ∧ μ s' < μ s) ∨ ∃ r, step s = some (.rt r) ∧ R r))) :
    ∀ {n : Nat} {s : σ}, I s → μ s < n → (∃ s', whX c step n s = some (.nx s') ∧ I s' ∧ c s' = some false) ∨ ∃ r, whX c step n s = some (.rt r) ∧ R r
  | 0, s, _, hn => absurd hn (Nat.not_lt_zero _)
  | n + 1, s, h0, hn => by
    unfold whX
    rcases h s h0 with e | ⟨e, ⟨s', e2, i2, m2⟩ | ⟨r, e2, hr⟩⟩
    · rw [e]
      exact .inl ⟨s, rfl, h0, e⟩
    · rw [e]
      have ih := whX_inv I R μ h i2 (show μ s' < n by omega)
      rcases ih with ⟨s'', e3, q⟩ | ⟨r, e3, q⟩
      · refine .inl ⟨s'', ?_, q⟩
        show (match step s with | none => none | some (.nx s') => whX c step n s' | some (.bk s') => some (.nx s') | some (.rt r) => some (.rt r)) = _
        rw [e2]
        exact e3
      · refine .inr ⟨r, ?_, q⟩
        show (match step s with | none => none | some (.nx s') => whX c step n s' | some (.bk s') => some (.nx s') | some (.rt r) => some (.rt r)) = _
        rw [e2]
        exact e3
    · rw [e]
      refine .inr ⟨r, ?_, hr⟩
      show (match step s with | none => none | some (.nx s') => whX c step n s' | some (.bk s') => some (.nx s') | some (.rt r) => some (.rt r)) = _
      rw [e2]
theorem bnd_s {α β : Type} {m : Option α} {k : α → Option β} {x : α} {P : β → Prop} (h : m = some x) (q : ∃ r, k x = some r ∧ P r) : ∃ r, bnd m k = some r ∧ P r := by rw [bnd_i h]; exact q
/-! ## how many signs two texts share ahead -/
def cp : List Nat → List Nat → Nat
  | a :: l, b :: m => if a = b then cp l m + 1 else 0
  | _, _ => 0
theorem cp_nil (l : List Nat) : cp l [] = 0 := by cases l <;> rfl
theorem cp_comm : ∀ l m : List Nat, cp l m = cp m l
  | [], m => (cp_nil m).symm
  | a :: l, [] => rfl
  | a :: l, b :: m => by
    unfold cp
    rw [cp_comm l m]
    by_cases h : a = b
    · subst h
      rfl
    · rw [if_neg h, if_neg (Ne.symm h)]
theorem cp_le : ∀ l m : List Nat, cp l m ≤ l.length ∧ cp l m ≤ m.length
  | [], m => ⟨Nat.zero_le _, Nat.zero_le _⟩
  | a :: l, [] => ⟨Nat.zero_le _, Nat.zero_le _⟩
  | a :: l, b :: m => by
    have ih := cp_le l m
    unfold cp
    split
    · simp only [List.length_cons]
      omega
    · exact ⟨Nat.zero_le _, Nat.zero_le _⟩
theorem cp_get : ∀ (l m : List Nat) (i : Nat), i < cp l m → l[i]? = m[i]?
  | [], m, i, h => absurd h (Nat.not_lt_zero _)
  | a :: l, [], i, h => absurd h (Nat.not_lt_zero _)
  | a :: l, b :: m, i, h => by
    unfold cp at h
    split at h
    · rename_i e
      cases i with
      | zero => simp [e]
      | succ i =>
        rw [List.getElem?_cons_succ, List.getElem?_cons_succ]
        exact cp_get l m i (by omega)
    · exact absurd h (Nat.not_lt_zero _)
theorem cp_ne : ∀ (l m : List Nat), cp l m < l.length → cp l m < m.length → l[cp l m]? ≠ m[cp l m]?
  | [], m, h, _ => absurd h (Nat.not_lt_zero _)
  | a :: l, [], _, h => absurd h (Nat.not_lt_zero _)
  | a :: l, b :: m, h1, h2 => by
    unfold cp at h1 h2 ⊢
    split at h1
    · rename_i e
      rw [if_pos e] at h2 ⊢
      rw [List.getElem?_cons_succ, List.getElem?_cons_succ]
      exact cp_ne l m (by simpa using h1) (by simpa using h2)
    · rename_i e
      rw [if_neg e]
      simpa using e
theorem cp_self : ∀ l : List Nat, cp l l = l.length
  | [] => rfl
  | a :: l => by
    unfold cp
    rw [if_pos rfl, cp_self l]
    rfl
/-- the order of two texts by the first unlike sign -/
theorem cp_lt : ∀ (l m : List Nat), (l < m) ↔ (if h : cp l m < l.length ∧ cp l m < m.length then l[cp l m]'h.1 < m[cp l m]'h.2 else l.length < m.length)
  | [], [] => by simp [cp]
  | [], b :: m => by simp [cp]
  | a :: l, [] => by simp [cp]
  | a :: l, b :: m => by
    rw [List.cons_lt_cons_iff]
    by_cases e : a = b
    · subst e
      have ih := cp_lt l m
      have ec : cp (a :: l) (a :: m) = cp l m + 1 := by
        show (if a = a then cp l m + 1 else 0) = _
        rw [if_pos rfl]
      simp only [ec, List.length_cons, Nat.add_lt_add_iff_right, List.getElem_cons_succ, Nat.lt_irrefl, false_or, true_and]
      exact ih
    · have ec : cp (a :: l) (b :: m) = 0 := by
        show (if a = b then cp l m + 1 else 0) = 0
        rw [if_neg e]
      have hp : (0 : Nat) < (a :: l).length ∧ (0 : Nat) < (b :: m).length := ⟨Nat.succ_pos _, Nat.succ_pos _⟩
      simp only [ec, e, false_and, or_false]
      rw [dif_pos hp]
      simp
end Bk
namespace Bk
open PySem L2
/-! ## loops over lo, lo + 1, .. -/
theorem forX_rng {ρ σ : Type} {step : σ → Int → Option (Lp ρ σ)} (I : Nat → σ → Prop) : ∀ (m : Nat) (k : Nat) {hi : Int}, hi - (k : Int) = (m : Int) → (∀ (j : Nat) s, k ≤ j → (j : Int) < hi → I j s → ∃ s', step s (j : Int) = some (.nx s') ∧ I (j + 1) s') → ∀ {s : σ}, I k s → ∃ s', forX step (rng (k : Int) hi) s = some (.nx s') ∧ I hi.toNat s'
  | 0, k, hi, e, _, s, h0 => by
    rw [rng_nil (by omega)]
    have : hi.toNat = k := by omega
    exact ⟨s, rfl, this ▸ h0⟩
  | m + 1, k, hi, e, h, s, h0 => by
    rw [rng_cons (by omega)]
    obtain ⟨s1, e1, i1⟩ := h k s (Nat.le_refl _) (by omega) h0
    unfold forX
    rw [e1]
    exact forX_rng I m (k + 1) (by omega) (fun j s hj => h j s (by omega)) i1
theorem forS_rng {σ : Type} {step : σ → Int → Option σ} (I : Nat → σ → Prop) : ∀ (m : Nat) (k : Nat) {hi : Int}, hi - (k : Int) = (m : Int) → (∀ (j : Nat) s, k ≤ j → (j : Int) < hi → I j s → ∃ s', step s (j : Int) = some s' ∧ I (j + 1) s') → ∀ {s : σ}, I k s → ∃ s', forS step (rng (k : Int) hi) s = some s' ∧ I hi.toNat s'
  | 0, k, hi, e, _, s, h0 => by
    rw [rng_nil (by omega)]
    have : hi.toNat = k := by omega
    exact ⟨s, rfl, this ▸ h0⟩
  | m + 1, k, hi, e, h, s, h0 => by
    rw [rng_cons (by omega)]
    obtain ⟨s1, e1, i1⟩ := h k s (Nat.le_refl _) (by omega) h0
    unfold forS
    rw [e1]
    exact forS_rng I m (k + 1) (by omega) (fun j s hj => h j s (by omega)) i1
theorem forX_go' {ρ σ : Type} {step : σ → Int → Option (Lp ρ σ)} {n : Nat} {hi : Int} (I : Nat → σ → Prop) (e : hi = (n : Int)) (h : ∀ (j : Nat) s, j < n → I j s → ∃ s', step s (j : Int) = some (.nx s') ∧ I (j + 1) s') {s : σ} (h0 : I 0 s) : ∃ s', forX step (rng 0 hi) s = some (.nx s') ∧ I n s' := by
  subst e
  obtain ⟨s', e1, i⟩ := forX_rng I n 0 (hi := (n : Int)) (by omega) (fun j s _ hj => h j s (by omega)) h0
  exact ⟨s', e1, by rwa [Int.toNat_natCast] at i⟩
theorem forS_go' {σ : Type} {step : σ → Int → Option σ} {n : Nat} {hi : Int} (I : Nat → σ → Prop) (e : hi = (n : Int)) (h : ∀ (j : Nat) s, j < n → I j s → ∃ s', step s (j : Int) = some s' ∧ I (j + 1) s') {s : σ} (h0 : I 0 s) : ∃ s', forS step (rng 0 hi) s = some s' ∧ I n s' := by
  subst e
  obtain ⟨s', e1, i⟩ := forS_rng I n 0 (hi := (n : Int)) (by omega) (fun j s _ hj => h j s (by omega)) h0
  exact ⟨s', e1, by rwa [Int.toNat_natCast] at i⟩
/-! ## the order of a text's endings -/
theorem get_in {α : Type} {l : List α} {i : Nat} (h : i < l.length) : atI l (i : Int) = some l[i] := by
  rw [atI_nat (Int.natCast_nonneg i), Int.toNat_natCast, List.getElem?_eq_getElem h]
theorem byEnd_perm (l : List Nat) (xs : List Int) : (byEnd l xs).Perm xs := List.mergeSort_perm xs _
theorem byEnd_pw (l : List Nat) (xs : List Int) : (byEnd l xs).Pairwise fun a b => cut l (some a) none ≤ cut l (some b) none := by
  have h := List.pairwise_mergeSort (le := fun (a b : Int) => decide (cut l (some a) none ≤ cut l (some b) none)) (fun a b c h1 h2 => decide_eq_true (List.le_trans (of_decide_eq_true h1) (of_decide_eq_true h2))) (fun a b => by
    rcases List.le_total (cut l (some a) none) (cut l (some b) none) with h | h
    · simp [h]
    · simp [h]) xs
  exact h.imp fun h => of_decide_eq_true h
theorem rng_pw (lo hi : Int) : (rng lo hi).Pairwise (· < ·) := by
  unfold rng
  rw [List.pairwise_map]
  exact List.pairwise_lt_range.imp fun h => by omega
theorem rng_nodup (lo hi : Int) : (rng lo hi).Nodup := (rng_pw lo hi).imp fun h => by omega
def ordE (l : List Nat) : List Int := byEnd l (rng 0 ((l.length : Int) + 1))
theorem ordE_perm (l : List Nat) : (ordE l).Perm (rng 0 ((l.length : Int) + 1)) := byEnd_perm _ _
theorem ordE_len (l : List Nat) : (ordE l).length = l.length + 1 := by
  rw [(ordE_perm l).length_eq, rng_len]
  omega
theorem ordE_nodup (l : List Nat) : (ordE l).Nodup := (ordE_perm l).nodup_iff.2 (rng_nodup _ _)
theorem ordE_mem (l : List Nat) (x : Int) : x ∈ ordE l ↔ 0 ≤ x ∧ x ≤ l.length := by
  rw [(ordE_perm l).mem_iff]
  constructor
  · intro h
    have := rng_mem h
    omega
  · intro h
    exact mem_rng h.1 (by omega)
theorem ordE_le {l : List Nat} {i j : Nat} (hi : i < j) (hj : j < (ordE l).length) : l.drop ((ordE l)[i]'(by omega)).toNat ≤ l.drop ((ordE l)[j]).toNat := by
  have h : cut l (some ((ordE l)[i]'(by omega))) none ≤ cut l (some (ordE l)[j]) none := List.pairwise_iff_getElem.1 (byEnd_pw l (rng 0 ((l.length : Int) + 1))) i j (show i < (ordE l).length by omega) hj hi
  have h1 := ((ordE_mem l _).1 (List.getElem_mem (show i < (ordE l).length by omega))).1
  have h2 := ((ordE_mem l _).1 (List.getElem_mem hj)).1
  rw [cut_in l h1, cut_in l h2] at h
  exact h
theorem drop_ne {l : List Nat} {a b : Nat} (ha : a ≤ l.length) (hb : b ≤ l.length) (h : a ≠ b) : l.drop a ≠ l.drop b := fun z => by
  have := congrArg List.length z
  rw [List.length_drop, List.length_drop] at this
  omega
theorem lt_of_le_ne {a b : List Nat} (h : a ≤ b) (n : a ≠ b) : a < b := by
  rcases Std.lt_trichotomy a b with z | z | z
  · exact z
  · exact absurd z n
  · exact absurd (List.le_antisymm h (List.le_of_lt z)) n
theorem ordE_lt {l : List Nat} {i j : Nat} (hi : i < j) (hj : j < (ordE l).length) : l.drop ((ordE l)[i]'(by omega)).toNat < l.drop ((ordE l)[j]).toNat := by
  refine lt_of_le_ne (ordE_le hi hj) ?_
  have h1 := (ordE_mem l _).1 (List.getElem_mem (show i < (ordE l).length by omega))
  have h2 := (ordE_mem l _).1 (List.getElem_mem hj)
  refine drop_ne (by omega) (by omega) fun z => ?_
  have : (ordE l)[i]'(by omega) = (ordE l)[j] := by omega
  have := (List.getElem_inj (ordE_nodup l)).1 this
  omega
theorem sortI_pw (xs : List Int) : (sortI xs).Pairwise (· ≤ ·) := by
  have h := List.pairwise_mergeSort (le := fun (a b : Int) => decide (a ≤ b)) (fun a b c h1 h2 => decide_eq_true (Int.le_trans (of_decide_eq_true h1) (of_decide_eq_true h2))) (fun a b => by
    rcases Int.le_total a b with h | h
    · simp [h]
    · simp [h]) xs
  exact h.imp fun h => of_decide_eq_true h
theorem sortI_eq {xs ys : List Int} (h : xs.Perm ys) (hs : ys.Pairwise (· ≤ ·)) : sortI xs = ys :=
  List.Perm.eq_of_pairwise (fun a b _ _ h1 h2 => Int.le_antisymm h1 h2) (sortI_pw xs) hs ((List.mergeSort_perm xs _).trans h)
theorem sortI_ordE (l : List Nat) : sortI (ordE l) = rng 0 ((l.length : Int) + 1) := sortI_eq (ordE_perm l) ((rng_pw _ _).imp fun h => Int.le_of_lt h)
/-! ## a dict of what was met -/
theorem dGet_put {κ β : Type} [DecidableEq κ] (m : List (κ × β)) (k x : κ) (v : β) : dGet (dPut m k v) x = if x = k then some v else dGet m x := by
  unfold dPut
  split
  · rename_i h
    unfold dGet
    induction m with
    | nil => simp at h
    | cons p r ih =>
      rw [List.map_cons, List.find?_cons, List.find?_cons]
      by_cases hp : p.1 = k
      · rw [if_pos hp]
        by_cases hx : x = k
        · subst hx
          simp [hp]
        · have h1 : ¬ p.1 = x := fun z => hx (z.symm.trans hp)
          rw [if_neg hx, decide_eq_false h1]
          by_cases hr : (r.any fun p => decide (p.1 = k)) = true
          · have := ih hr
            rw [if_neg hx] at this
            exact this
          · have e : r.map (fun p => if p.1 = k then (p.1, v) else p) = r := by
              conv => rhs; rw [← List.map_id r]
              refine List.map_congr_left fun q hq => ?_
              rw [if_neg fun z => hr (List.any_eq_true.2 ⟨q, hq, decide_eq_true z⟩)]
              rfl
            rw [e]
      · rw [if_neg hp]
        have hr : (r.any fun p => decide (p.1 = k)) = true := by
          rw [List.any_cons, decide_eq_false hp, Bool.false_or] at h
          exact h
        by_cases h1 : p.1 = x
        · have : ¬ x = k := fun z => hp (h1.trans z)
          rw [decide_eq_true h1, if_neg this]
        · rw [decide_eq_false h1]
          exact ih hr
  · rename_i h
    unfold dGet
    rw [List.find?_append]
    by_cases hx : x = k
    · subst hx
      rw [if_pos rfl]
      have : m.find? (fun p => decide (p.1 = x)) = none := by
        rw [List.find?_eq_none]
        intro p hp z
        exact h (List.any_eq_true.2 ⟨p, hp, z⟩)
      rw [this]
      simp
    · rw [if_neg hx]
      have h1 : ¬ k = x := fun z => hx z.symm
      have : ([(k, v)] : List (κ × β)).find? (fun p => decide (p.1 = x)) = none := by simp [h1]
      rw [this, Option.or_none]
theorem dPut_len {κ β : Type} [DecidableEq κ] (m : List (κ × β)) (k : κ) (v : β) : (dPut m k v).length ≤ m.length + 1 := by
  unfold dPut
  split
  · rw [List.length_map]
    omega
  · rw [List.length_append]
    exact Nat.le_refl _
theorem ixN_neg {n k : Nat} (h0 : 0 < k) (h : k ≤ n) : ixN n (-(k : Int)) = some (n - k) := by
  unfold ixN
  rw [if_neg (by omega), if_pos (by omega)]
  exact congrArg some (by omega)
theorem ixN_nat {n k : Nat} (h : k < n) : ixN n (k : Int) = some k := by
  unfold ixN
  rw [if_pos (by omega), if_pos (by omega)]
  rfl
theorem atI_neg {α : Type} {l : List α} {k : Nat} (h0 : 0 < k) (h : k ≤ l.length) : atI l (-(k : Int)) = l[l.length - k]? := by
  unfold atI
  rw [ixN_neg h0 h]
  rfl
theorem atI_last {α : Type} (a : List α) (r : α) : atI (a ++ [r]) (-(1 : Int)) = some r := by
  have := atI_neg (l := a ++ [r]) (k := 1) (by decide) (by rw [List.length_append]; exact Nat.le_add_left _ _)
  rw [show (-(1 : Int)) = -((1 : Nat) : Int) from rfl, this, List.length_append, List.length_singleton, Nat.add_sub_cancel, List.getElem?_append_right (Nat.le_refl _), Nat.sub_self]
  rfl
theorem set_last {α : Type} (a : List α) (r q : α) : (a ++ [r]).set a.length q = a ++ [q] := by
  rw [List.set_append_right _ _ (Nat.le_refl _), Nat.sub_self]
  rfl
/-! ## the endings in order, and how many signs neighbours share -/
def endAt (l : List Nat) (k : Nat) : List Nat := l.drop ((ordE l).getD k 0).toNat
def comE (l : List Nat) : List Int := (0 : Int) :: (List.range l.length).map fun k => (cp (endAt l k) (endAt l (k + 1)) : Int)
theorem comE_len (l : List Nat) : (comE l).length = l.length + 1 := by simp [comE]
theorem ordE_at (l : List Nat) {k : Nat} (h : k < l.length + 1) : atI (ordE l) (k : Int) = some ((ordE l).getD k 0) ∧ 0 ≤ (ordE l).getD k 0 ∧ (ordE l).getD k 0 ≤ l.length := by
  have hk : k < (ordE l).length := by rw [ordE_len]; exact h
  have e : (ordE l).getD k 0 = (ordE l)[k] := by rw [List.getD_eq_getElem?_getD, List.getElem?_eq_getElem hk]; rfl
  have hm := (ordE_mem l _).1 (List.getElem_mem hk)
  rw [e]
  exact ⟨get_in hk, hm⟩
theorem endAt_lt (l : List Nat) {i j : Nat} (h : i < j) (hj : j < l.length + 1) : endAt l i < endAt l j := by
  have hj' : j < (ordE l).length := by rw [ordE_len]; exact hj
  have := ordE_lt (l := l) h hj'
  unfold endAt
  rw [List.getD_eq_getElem?_getD, List.getD_eq_getElem?_getD, List.getElem?_eq_getElem hj', List.getElem?_eq_getElem (by omega)]
  exact this
theorem endAt_all (l : List Nat) : (ordE l).map (fun x => l.drop x.toNat) = (List.range (l.length + 1)).map (endAt l) := by
  refine List.ext_getElem (by rw [List.length_map, List.length_map, List.length_range, ordE_len]) fun i h1 h2 => ?_
  rw [List.getElem_map, List.getElem_map, List.getElem_range]
  rw [List.length_map] at h1
  unfold endAt
  rw [List.getD_eq_getElem?_getD, List.getElem?_eq_getElem h1]
  rfl
theorem sortS_pw (xs : List (List Nat)) : (sortS xs).Pairwise (· ≤ ·) := by
  have h := List.pairwise_mergeSort (le := fun (a b : List Nat) => decide (a ≤ b)) (fun a b c h1 h2 => decide_eq_true (List.le_trans (of_decide_eq_true h1) (of_decide_eq_true h2))) (fun a b => by
    rcases List.le_total a b with h | h
    · simp [h]
    · simp [h]) xs
  exact h.imp fun h => of_decide_eq_true h
theorem sortS_eq {xs ys : List (List Nat)} (h : xs.Perm ys) (hs : ys.Pairwise (· ≤ ·)) : sortS xs = ys :=
  List.Perm.eq_of_pairwise (fun a b _ _ h1 h2 => List.le_antisymm h1 h2) (sortS_pw xs) hs ((List.mergeSort_perm xs _).trans h)
theorem sortS_ends (l : List Nat) : sortS ((rng 0 ((l.length : Int) + 1)).map fun i => cut l (some i) none) = (List.range (l.length + 1)).map (endAt l) := by
  refine sortS_eq ?_ ?_
  · rw [← endAt_all]
    have e : (rng 0 ((l.length : Int) + 1)).map (fun i => cut l (some i) none) = (rng 0 ((l.length : Int) + 1)).map fun x => l.drop x.toNat := List.map_congr_left fun x hx => cut_in l (rng_mem hx).1
    rw [e]
    exact ((ordE_perm l).map _).symm
  · rw [List.pairwise_map]
    refine List.pairwise_lt_range.imp_of_mem fun {a b} ha hb h => ?_
    exact List.le_of_lt (endAt_lt l h (by rw [List.mem_range] at hb; exact hb))
end Bk
namespace Bk
open PySem L2
/-! ## what neighbours in order share -/
theorem cp_mid : ∀ a b c : List Nat, a ≤ b → b ≤ c → cp a c ≤ cp a b ∧ cp a c ≤ cp b c
  | [], b, c, _, _ => ⟨Nat.zero_le _, Nat.zero_le _⟩
  | x :: a, [], c, h, _ => absurd h (by simp)
  | x :: a, y :: b, [], _, h => absurd h (by simp)
  | x :: a, y :: b, z :: c, h1, h2 => by
    rw [List.cons_le_cons_iff] at h1 h2
    unfold cp
    by_cases e : x = z
    · subst e
      have exy : x = y := by omega
      subst exy
      rw [if_pos rfl, if_pos rfl, if_pos rfl]
      have := cp_mid a b c (h1.resolve_left (by omega)).2 (h2.resolve_left (by omega)).2
      omega
    · rw [if_neg e]
      exact ⟨Nat.zero_le _, Nat.zero_le _⟩
theorem cp_take {a b : List Nat} {m : Nat} (h : m ≤ cp a b) : a.take m = b.take m := by
  refine List.ext_getElem? fun i => ?_
  rw [List.getElem?_take, List.getElem?_take]
  split
  · exact cp_get a b i (by omega)
  · rfl
theorem cp_ge {a b : List Nat} {m : Nat} (h1 : m ≤ a.length) (h2 : m ≤ b.length) (e : a.take m = b.take m) : m ≤ cp a b := by
  refine Nat.le_of_not_lt fun h => cp_ne a b (by omega) (by omega) ?_
  have := congrArg (fun q => q[cp a b]?) e
  simp only [List.getElem?_take, if_pos h] at this
  exact this
theorem endAt_le (l : List Nat) {i j : Nat} (h : i ≤ j) (hj : j < l.length + 1) : endAt l i ≤ endAt l j := by
  rcases Nat.lt_or_ge i j with h' | h'
  · exact List.le_of_lt (endAt_lt l h' hj)
  · rw [show i = j by omega]
    exact List.le_refl _
theorem endAt_cover (l : List Nat) {a : Nat} (h : a ≤ l.length) : ∃ j, j < l.length + 1 ∧ endAt l j = l.drop a ∧ (ordE l).getD j 0 = (a : Int) := by
  obtain ⟨j, hj, e⟩ := List.mem_iff_getElem.1 ((ordE_mem l (a : Int)).2 ⟨Int.natCast_nonneg a, by omega⟩)
  have e2 : (ordE l).getD j 0 = (a : Int) := by rw [List.getD_eq_getElem?_getD, List.getElem?_eq_getElem hj, e]; rfl
  refine ⟨j, by rw [ordE_len] at hj; exact hj, ?_, e2⟩
  unfold endAt
  rw [e2, Int.toNat_natCast]
theorem endAt_suf (l : List Nat) {j : Nat} (h : j < l.length + 1) : ∃ a, a ≤ l.length ∧ endAt l j = l.drop a ∧ (ordE l).getD j 0 = (a : Int) := by
  obtain ⟨_, h1, h2⟩ := ordE_at l h
  exact ⟨((ordE l).getD j 0).toNat, by omega, rfl, by omega⟩
def comN (l : List Nat) (k : Nat) : Nat := if k = 0 then 0 else cp (endAt l (k - 1)) (endAt l k)
theorem comN_le (l : List Nat) (k : Nat) : comN l k ≤ (endAt l k).length := by
  unfold comN
  split
  · exact Nat.zero_le _
  · exact (cp_le _ _).2
theorem comN_max (l : List Nat) {j k : Nat} (h : j < k) (hk : k < l.length + 1) : cp (endAt l j) (endAt l k) ≤ comN l k := by
  unfold comN
  rw [if_neg (by omega)]
  exact (cp_mid _ _ _ (endAt_le l (show j ≤ k - 1 by omega) (by omega)) (endAt_le l (show k - 1 ≤ k by omega) hk)).2
theorem comE_at (l : List Nat) {k : Nat} (h : k < l.length + 1) : atI (comE l) (k : Int) = some (comN l k : Int) := by
  rw [get_in (by rw [comE_len]; exact h)]
  unfold comE comN
  cases k with
  | zero => rfl
  | succ k => simp
/-- all pieces, once each, by the endings in order -/
def newP (l : List Nat) (k : Nat) : List (List Nat) := (List.range ((endAt l k).length - comN l k)).map fun j => (endAt l k).take (comN l k + 1 + j)
def kD (l : List Nat) : Nat → List (List Nat)
  | 0 => [[]]
  | r + 1 => kD l r ++ newP l r
theorem newP_mem {l : List Nat} {k : Nat} {x : List Nat} : x ∈ newP l k ↔ comN l k < x.length ∧ x <+: endAt l k := by
  unfold newP
  rw [List.mem_map]
  constructor
  · rintro ⟨j, hj, rfl⟩
    rw [List.mem_range] at hj
    exact ⟨by rw [List.length_take]; omega, List.take_prefix _ _⟩
  · rintro ⟨h1, h2⟩
    have h3 := h2.length_le
    refine ⟨x.length - comN l k - 1, by rw [List.mem_range]; omega, ?_⟩
    rw [show comN l k + 1 + (x.length - comN l k - 1) = x.length by omega]
    exact (List.prefix_iff_eq_take.1 h2).symm
theorem kD_mem (l : List Nat) : ∀ r, r ≤ l.length + 1 → ∀ x, x ∈ kD l r ↔ x = [] ∨ ∃ j, j < r ∧ x <+: endAt l j
  | 0, _, x => by simp [kD]
  | r + 1, h, x => by
    show x ∈ kD l r ++ newP l r ↔ _
    rw [List.mem_append, kD_mem l r (by omega) x, newP_mem]
    constructor
    · rintro ((e | ⟨j, hj, p⟩) | ⟨_, p⟩)
      · exact .inl e
      · exact .inr ⟨j, by omega, p⟩
      · exact .inr ⟨r, by omega, p⟩
    · rintro (e | ⟨j, hj, p⟩)
      · exact .inl (.inl e)
      · by_cases hjr : j < r
        · exact .inl (.inr ⟨j, hjr, p⟩)
        · have : j = r := by omega
          subst this
          by_cases hx : comN l j < x.length
          · exact .inr ⟨hx, p⟩
          · unfold comN at hx
            by_cases h0 : j = 0
            · rw [if_pos h0] at hx
              exact .inl (.inl (List.eq_nil_of_length_eq_zero (by omega)))
            · rw [if_neg h0] at hx
              refine .inl (.inr ⟨j - 1, by omega, ?_⟩)
              rw [List.prefix_iff_eq_take] at p ⊢
              exact p.trans (cp_take (a := endAt l (j - 1)) (b := endAt l j) (by omega)).symm
theorem kD_nodup (l : List Nat) : ∀ r, r ≤ l.length + 1 → (kD l r).Nodup
  | 0, _ => by simp [kD]
  | r + 1, h => by
    show (kD l r ++ newP l r).Nodup
    rw [List.nodup_append]
    refine ⟨kD_nodup l r (by omega), ?_, ?_⟩
    · unfold newP
      rw [List.Nodup, List.pairwise_map]
      refine List.pairwise_lt_range.imp_of_mem fun {a b} ha hb hab e => ?_
      rw [List.mem_range] at ha hb
      have := congrArg List.length e
      rw [List.length_take, List.length_take] at this
      omega
    · intro x hx y hy e
      subst e
      obtain ⟨h1, p⟩ := newP_mem.1 hy
      rcases (kD_mem l r (by omega) x).1 hx with z | ⟨j, hj, p2⟩
      · subst z
        simp at h1
      · have := comN_max l hj (by omega)
        have h3 := cp_ge (m := x.length) p2.length_le p.length_le ((List.prefix_iff_eq_take.1 p2).symm.trans (List.prefix_iff_eq_take.1 p))
        omega
def isP (l x : List Nat) : Prop := ∃ a, a ≤ l.length ∧ x <+: l.drop a
theorem kD_all (l x : List Nat) : x ∈ kD l (l.length + 1) ↔ isP l x := by
  rw [kD_mem l _ (Nat.le_refl _)]
  constructor
  · rintro (e | ⟨j, hj, p⟩)
    · exact ⟨0, Nat.zero_le _, e ▸ List.nil_prefix⟩
    · obtain ⟨a, h1, h2, _⟩ := endAt_suf l hj
      exact ⟨a, h1, h2 ▸ p⟩
  · rintro ⟨a, h, p⟩
    obtain ⟨j, h1, h2, _⟩ := endAt_cover l h
    exact .inr ⟨j, h1, h2 ▸ p⟩
theorem same_len {α : Type} {a b : List α} (ha : a.Nodup) (hb : b.Nodup) (h : ∀ x, x ∈ a ↔ x ∈ b) : a.length = b.length :=
  Nat.le_antisymm (ha.length_le_of_subset fun x hx => (h x).1 hx) (hb.length_le_of_subset fun x hx => (h x).2 hx)
/-! ## keys -/
theorem dGet_some {κ β : Type} [DecidableEq κ] (m : List (κ × β)) (k : κ) : (dGet m k).isSome = true ↔ k ∈ m.map (·.1) := by
  unfold dGet
  rw [Option.isSome_map, List.find?_isSome, List.mem_map]
  constructor
  · rintro ⟨p, h1, h2⟩
    exact ⟨p, h1, of_decide_eq_true h2⟩
  · rintro ⟨p, h1, h2⟩
    exact ⟨p, h1, decide_eq_true h2⟩
theorem dPut_keys {κ β : Type} [DecidableEq κ] (m : List (κ × β)) (k : κ) (v : β) : (dPut m k v).map (·.1) = if k ∈ m.map (·.1) then m.map (·.1) else m.map (·.1) ++ [k] := by
  unfold dPut
  have e : ((m.any fun p => decide (p.1 = k)) = true) ↔ k ∈ m.map (·.1) := by
    rw [List.any_eq_true, List.mem_map]
    constructor
    · rintro ⟨p, h1, h2⟩
      exact ⟨p, h1, of_decide_eq_true h2⟩
    · rintro ⟨p, h1, h2⟩
      exact ⟨p, h1, decide_eq_true h2⟩
  by_cases h : k ∈ m.map (·.1)
  · rw [if_pos (e.2 h), if_pos h, List.map_map]
    refine List.map_congr_left fun p _ => ?_
    show (if p.1 = k then (p.1, v) else p).1 = p.1
    split <;> rfl
  · rw [if_neg (fun z => h (e.1 z)), if_neg h, List.map_append]
    rfl
theorem dPut_nodup {κ β : Type} [DecidableEq κ] {m : List (κ × β)} {k : κ} {v : β} (h : (m.map (·.1)).Nodup) : ((dPut m k v).map (·.1)).Nodup := by
  rw [dPut_keys]
  split
  · exact h
  · rename_i hk
    rw [List.nodup_append]
    refine ⟨h, by simp, fun a ha b hb e => ?_⟩
    rw [List.mem_singleton] at hb
    exact hk (hb ▸ e ▸ ha)
theorem dPut_mem {κ β : Type} [DecidableEq κ] {m : List (κ × β)} {k x : κ} {v : β} : x ∈ (dPut m k v).map (·.1) ↔ x ∈ m.map (·.1) ∨ x = k := by
  rw [dPut_keys]
  split
  · rename_i h
    constructor
    · exact .inl
    · rintro (h1 | h1)
      · exact h1
      · exact h1 ▸ h
  · rw [List.mem_append, List.mem_singleton]
end Bk
namespace Bk
open PySem L2
def subB (i c : Nat) : Bool := ((([[true, false, false, false], [true, true, false, false], [true, false, true, false], [true, false, false, true]] : List (List Bool)).getD i []).getD c false)
def m_L_cell_at (script_ : (List Int)) (k_ : Int) : Option (Int) :=
it (decide (k_ < ((script_).length : Int)))
 (bnd (atI (script_) (k_)) fun t5 =>
some t5)
 (some (0 : Int))
def m_L_number_b1 (i3 : Nat) : Option (Lp Int (Unit)) :=
chk (([i3]).length = 1) (it (!(decide (([i3]).getD 0 0 ∈ ([48, 49, 50, 51, 52, 53, 54, 55, 56, 57] : List Nat))))
 (some (.rt (-(1 : Int))))
 (some (.nx ())))
def m_L_number_k2 (figures_ : (List Nat)) : Option (Int) :=
bnd ((it (decide (figures_ = ([] : List Nat))) (some true) (chk ((figures_).length ≤ 16777216) ((it (decide ((3 : Int) < ((figures_).length : Int))) (some true) (chk ((figures_).length ≤ 16777216) (bnd ((it (decide ((1 : Int) < ((figures_).length : Int))) (chk ((figures_).length ≤ 16777216) (bnd (atI (figures_) ((0 : Int))) fun t29 =>
some (decide ([t29] = ([48] : List Nat))))) (some false))) fun t34 =>
some t34))))))) fun t40 =>
it t40
 (some (-(1 : Int)))
 (chk ((figures_).length ≤ 640) (bnd (intT (figures_)) fun t43 =>
some t43))
def m_L_number (figures_ : (List Nat)) : Option (Int) :=
bnd (forX (fun (s : Unit) t => m_L_number_b1  t) figures_ ()) fun t1 =>
lpk t1 (fun r => some r) fun s => m_L_number_k2 figures_ 
def m_L_due_c1 (rest_ : (List Nat)) (letters_1 : (List Nat)) : Option Bool :=
some (!decide (rest_ = ([] : List Nat)))
def m_L_due_b2 (rest_ : (List Nat)) (letters_1 : (List Nat)) : Option (Lp (Option ((List Nat) × Int)) ((List Nat) × (List Nat))) :=
chk ((rest_).length ≤ 16777216) (chk (((cut rest_ (some (1 : Int)) none)).length ≤ 16777216) (bnd (m_L_number ((part1 ((cut rest_ (some (1 : Int)) none)) 59).1)) fun t32 =>
bnd ((it (decide ((part1 ((cut rest_ (some (1 : Int)) none)) 59).2.1 = ([] : List Nat))) (some true) ((it (decide (t32 < (1 : Int))) (some true) (chk ((rest_).length ≤ 16777216) (bnd (atI (rest_) ((0 : Int))) fun t37 =>
chk ((letters_1).length ≤ 16777216) ((it (decide ([t37] = (cut letters_1 (some (-(1 : Int))) none))) (some true) (chk ((letters_1).length ≤ 16777216) (some (decide ((300 : Int) < (((letters_1).length : Int) + t32))))))))))))) fun t48 =>
it t48
 (some (.rt none))
 (chk ((rest_).length ≤ 16777216) (bnd (atI (rest_) ((0 : Int))) fun t51 =>
chk (CTms ([t51]) (t32)) (chk ((letters_1).length + ((tms [t51] t32)).length ≤ 16777216) (lt ((letters_1 ++ (tms [t51] t32))) fun letters_2 =>
lt ((part1 ((cut rest_ (some (1 : Int)) none)) 59).2.2) fun rest_1 =>
some (.nx (rest_1, letters_2))))))))
def m_L_due_k3 (text_ : (List Nat)) (rest_2 : (List Nat)) (letters_3 : (List Nat)) : Option ((Option ((List Nat) × Int))) :=
bnd (it (decide ((part1 (text_) 32).2.1 = ([] : List Nat))) (some true) (bnd (m_L_number ((part1 (text_) 32).1)) fun t61 =>
it (decide (t61 < (0 : Int))) (some true) (bnd (m_L_number ((part1 (text_) 32).1)) fun t66 =>
chk ((letters_3).length ≤ 16777216) (some (decide (((letters_3).length : Int) < t66)))))) fun t58 =>
it t58
 (some none)
 (bnd (m_L_number ((part1 (text_) 32).1)) fun t78 =>
some (some (letters_3, t78)))
def m_L_due (text_ : (List Nat)) : Option ((Option ((List Nat) × Int))) :=
chk ((text_).length ≤ 16777216) (lt (([] : List Nat)) fun letters_ =>
bnd (whX (fun (s : (List Nat) × (List Nat)) => m_L_due_c1 (s.1) (s.2)) (fun (s : (List Nat) × (List Nat)) => m_L_due_b2 (s.1) (s.2)) FUEL ((part1 (text_) 32).2.2, letters_)) fun t8 =>
lpk t8 (fun r => some r) fun s => m_L_due_k3 text_ (s.1) (s.2))
def m_L_fitted_k1 (left_1 : Int) (i15 : ((List Nat) × Int)) (kept_1 : (List ((List Nat) × Int))) : Option (Int × (List ((List Nat) × Int))) :=
lt ((left_1 - i15.2)) fun left_2 =>
some (left_2, kept_1)
def m_L_fitted_b2 (left_1 : Int) (kept_ : (List ((List Nat) × Int))) (i15 : ((List Nat) × Int)) : Option (Int × (List ((List Nat) × Int))) :=
bnd ((it (decide ((0 : Int) < left_1))
 (chk ((kept_).length < 16777216) (some ((kept_ ++ [(i15.1, (min i15.2 left_1))]))))
 (some (kept_)) : Option ((List ((List Nat) × Int))))) fun kept_1 =>
m_L_fitted_k1 left_1 i15 (kept_1)
def m_L_fitted_k3 (left_3 : Int) (kept_2 : (List ((List Nat) × Int))) : Option ((List ((List Nat) × Int))) :=
some kept_2
def m_L_fitted (runs_ : (List ((List Nat) × Int))) (most_ : Int) : Option ((List ((List Nat) × Int))) :=
lt (most_) fun left_ =>
bnd (forS (fun (s : Int × (List ((List Nat) × Int))) t => m_L_fitted_b2 (s.1) (s.2) t) runs_ (left_, ([] : List ((List Nat) × Int)))) fun t13 =>
m_L_fitted_k3 (t13.1) (t13.2)
def m_read_number_b1 (i9 : Nat) : Option (Lp (Except Nat Int) (Unit)) :=
chk (([i9]).length = 1) (it (!(decide (([i9]).getD 0 0 ∈ ([48, 49, 50, 51, 52, 53, 54, 55, 56, 57] : List Nat))))
 (some (.rt (.error 3)))
 (some (.nx ())))
def m_read_number_k2 (figures_ : (List Nat)) : Option ((Except Nat Int)) :=
chk ((figures_).length ≤ 16777216) (bnd (atI (figures_) ((0 : Int))) fun t33 =>
it ((decide ([t33] = ([48] : List Nat))) && (!decide (figures_ = ([48] : List Nat))))
 (some (.error 3))
 (chk ((figures_).length ≤ 640) (bnd (intT (figures_)) fun t37 =>
some (.ok t37))))
def m_read_number (figures_ : (List Nat)) : Option ((Except Nat Int)) :=
bnd ((it (decide (figures_ = ([] : List Nat))) (some true) (chk ((figures_).length ≤ 16777216) (some (decide ((3 : Int) < ((figures_).length : Int))))))) fun t4 =>
it t4
 (some (.error 3))
 (bnd (forX (fun (s : Unit) t => m_read_number_b1  t) figures_ ()) fun t7 =>
lpk t7 (fun r => some r) fun s => m_read_number_k2 figures_ )
def m_unpacked_c1 (text_ : (List Nat)) (letters_1 : (List Nat)) (place_1 : Int) : Option Bool :=
chk (((part1 (text_) 32).2.2).length ≤ 16777216) (some (decide (place_1 < (((part1 (text_) 32).2.2).length : Int))))
def m_unpacked_b2 (text_ : (List Nat)) (letters_1 : (List Nat)) (place_1 : Int) : Option (Lp (Except Nat ((List Nat) × Int)) ((List Nat) × Int)) :=
chk (((part1 (text_) 32).2.2).length ≤ 16777216) (bnd (atI ((part1 (text_) 32).2.2) (place_1)) fun t38 =>
lt ([t38]) fun sign_ =>
lt ((find1 ((part1 (text_) 32).2.2) 59 ((place_1 + (1 : Int))))) fun end_ =>
bnd ((it (decide (end_ < (0 : Int))) (some true) (chk ((letters_1).length ≤ 16777216) (some (decide (sign_ = (cut letters_1 (some (-(1 : Int))) none))))))) fun t46 =>
it t46
 (some (.rt (.error 3)))
 (chk (((part1 (text_) 32).2.2).length ≤ 16777216) (bndX (m_read_number ((cut (part1 (text_) 32).2.2 (some (place_1 + (1 : Int))) (some end_)))) (fun ix57 => some (.rt (.error ix57))) fun t50 =>
bnd ((it (decide (t50 = (0 : Int))) (some true) (chk ((letters_1).length ≤ 16777216) (some (decide ((300 : Int) < (((letters_1).length : Int) + t50))))))) fun t64 =>
it t64
 (some (.rt (.error 3)))
 (chk (CTms (sign_) (t50)) (chk ((letters_1).length + ((tms sign_ t50)).length ≤ 16777216) (lt ((letters_1 ++ (tms sign_ t50))) fun letters_2 =>
lt ((end_ + (1 : Int))) fun place_2 =>
some (.nx (letters_2, place_2))))))))
def m_unpacked_k3 (t8 : Int) (letters_3 : (List Nat)) (place_3 : Int) : Option ((Except Nat ((List Nat) × Int))) :=
chk ((letters_3).length ≤ 16777216) (it (decide (((letters_3).length : Int) < t8))
 (some (.error 3))
 (some (.ok (letters_3, t8))))
def m_unpacked (text_ : (List Nat)) : Option ((Except Nat ((List Nat) × Int))) :=
chk ((text_).length ≤ 16777216) (it (decide ((part1 (text_) 32).2.1 = ([] : List Nat)))
 (some (.error 3))
 (bndX (m_read_number ((part1 (text_) 32).1)) (fun ix15 => some (.error ix15)) fun t8 =>
lt (([] : List Nat)) fun letters_ =>
lt ((0 : Int)) fun place_ =>
bnd (whX (fun (s : (List Nat) × Int) => m_unpacked_c1 text_ (s.1) (s.2)) (fun (s : (List Nat) × Int) => m_unpacked_b2 text_ (s.1) (s.2)) FUEL (letters_, place_)) fun t21 =>
lpk t21 (fun r => some r) fun s => m_unpacked_k3 t8 (s.1) (s.2)))
def m_L_refused (text_ : (List Nat)) : Option (Bool) :=
bndX (m_unpacked (text_)) (fun ix12 => chk (ix12 < 4) (it (subB ix12 0)
 (bnd (it (subB ix12 3) (it true (some (!((subB ix12 1) || (subB ix12 2)))) (some false)) (some false)) fun t24 =>
some t24)
 (none))) fun t5 =>
some false
def m_L_sign (number_here_ : Int) : Option ((List Nat)) :=
lt (([32, 33, 34, 35, 36, 38, 39, 40, 41, 42, 43, 44, 45, 46, 47, 48, 49, 50, 51, 52, 53, 54, 55, 56, 57, 58, 59, 60, 61, 62, 63, 64, 65, 66, 67, 68, 69, 70, 71, 72, 73, 74, 75, 76, 77, 78, 79, 80, 81, 82, 83, 84, 85, 86, 87, 88, 89, 90, 91, 92, 93, 94, 95, 96] : List Nat)) fun some_ =>
chk ((some_).length + (([97, 98, 99, 100, 101, 102, 103, 104, 105, 106, 107, 108, 109, 110, 111, 112, 113, 114, 115, 116, 117, 118, 119, 120, 121, 122, 123, 124, 125, 126] : List Nat)).length ≤ 16777216) (lt ((some_ ++ ([97, 98, 99, 100, 101, 102, 103, 104, 105, 106, 107, 108, 109, 110, 111, 112, 113, 114, 115, 116, 117, 118, 119, 120, 121, 122, 123, 124, 125, 126] : List Nat))) fun some_1 =>
chk ((some_1).length ≤ 16777216) (bnd (atI (some_1) ((number_here_ % (94 : Int)))) fun t4 =>
some [t4]))
def m_L_stream_b1 (number_here_1 : Int) (some_ : (List Int)) (i12 : Int) : Option (Int × (List Int)) :=
lt (((number_here_1 * (48271 : Int)) % (2147483647 : Int))) fun number_here_2 =>
chk ((some_).length < 16777216) (some (number_here_2, (some_ ++ [(number_here_2 / (16 : Int))])))
def m_L_stream_k2 (number_here_3 : Int) (some_1 : (List Int)) : Option ((List Int)) :=
some (cut some_1 (some (2 : Int)) none)
def m_L_stream (seed_ : Int) (many_ : Int) : Option ((List Int)) :=
lt (((1 : Int) + (seed_ % (2147483629 : Int)))) fun number_here_ =>
chk (CRng 0 ((many_ + (2 : Int)))) (bnd (forS (fun (s : Int × (List Int)) t => m_L_stream_b1 (s.1) (s.2) t) (rng 0 (many_ + (2 : Int))) (number_here_, ([] : List Int))) fun t10 =>
m_L_stream_k2 (t10.1) (t10.2))
def m_L_runs_by_k1 (runs_ : (List ((List Nat) × Int))) (t135 : (List Nat)) (many_2 : Int) : Option ((List ((List Nat) × Int))) :=
bnd (chk ((kL (k2 kS kT)) runs_ = true) (chk ((kL (k2 kS kT)) ([] : List ((List Nat) × Int)) = true) (it (decide (runs_ = ([] : List ((List Nat) × Int)))) (some true) (bnd (atI (runs_) ((-(1 : Int)))) fun t218 =>
some (!decide (t218.1 = t135)))))) fun t185 =>
it t185
 (chk ((runs_).length < 16777216) (some ((runs_ ++ [(t135, many_2)]))))
 (some (runs_))
def m_L_runs_by_b2 (script_ : (List Int)) (t4 : (List Int)) (t38 : Int) (t40 : Int) (t55 : (List Int)) (runs_ : (List ((List Nat) × Int))) (i101 : Int) : Option ((List ((List Nat) × Int))) :=
bnd (atI (t4) ((2 : Int))) fun t130 =>
bnd (atI (((cut script_ (some (6 : Int)) (some ((6 : Int) + (t40 % (25 : Int))))) ++ t55)) (i101)) fun t132 =>
chk (0 < t38) (bnd (m_L_sign ((t130 + (t132 % t38)))) fun t135 =>
bnd (atI (((cut script_ (some (6 : Int)) (some ((6 : Int) + (t40 % (25 : Int))))) ++ t55)) (i101)) fun t150 =>
lt (((1 : Int) + ((t150 / (94 : Int)) % (9 : Int)))) fun many_ =>
bnd (atI (t4) ((3 : Int))) fun t153 =>
bnd ((it (decide ((t153 % (6 : Int)) = (0 : Int))) (bnd (atI (t4) (((4 : Int) + i101))) fun t155 =>
some (decide ((t155 % (5 : Int)) = (0 : Int)))) (some false))) fun t159 =>
bnd ((it t159
 (bnd (atI (t4) (((4 : Int) + i101))) fun t166 =>
lt (((10 : Int) + ((t166 / (5 : Int)) % (290 : Int)))) fun many_1 =>
some (many_1))
 (some (many_)) : Option (Int))) fun many_2 =>
m_L_runs_by_k1 runs_ t135 (many_2))
def m_L_runs_by_k3 (runs_1 : (List ((List Nat) × Int))) : Option ((List ((List Nat) × Int))) :=
some runs_1
def m_L_runs_by (script_ : (List Int)) (cell_ : Int) : Option ((List ((List Nat) × Int))) :=
bnd (m_L_stream (cell_) ((30 : Int))) fun t4 =>
bnd (atI (t4) ((0 : Int))) fun t36 =>
bnd (atI ([(2 : Int), (3 : Int), (94 : Int), (20 : Int)] : List Int) ((t36 % (4 : Int)))) fun t38 =>
bnd (atI (t4) ((1 : Int))) fun t40 =>
bnd (m_L_stream ((cell_ + (3 : Int))) ((24 : Int))) fun t55 =>
chk (((cut script_ (some (6 : Int)) (some ((6 : Int) + (t40 % (25 : Int)))))).length + (t55).length ≤ 16777216) (bnd (atI (t4) ((1 : Int))) fun t96 =>
chk (CRng 0 ((t96 % (25 : Int)))) (bnd (forS (fun (s : (List ((List Nat) × Int))) t => m_L_runs_by_b2 script_ t4 t38 t40 t55 (s) t) (rng 0 (t96 % (25 : Int))) (([] : List ((List Nat) × Int)))) fun runs_1 =>
m_L_runs_by_k3 (runs_1)))
def m_L_written (home_ : (List Nat)) (runs_ : (List ((List Nat) × (List Nat)))) : Option ((List Nat)) :=
chk ((home_).length + (([32] : List Nat)).length ≤ 16777216) (chk ((runs_).length ≤ 16777215) (bnd (lcA (fun (i9 : ((List Nat) × (List Nat))) => (chk ((i9.1).length + (i9.2).length ≤ 16777216) (chk (((i9.1 ++ i9.2)).length + (([59] : List Nat)).length ≤ 16777216) (some (some ((i9.1 ++ i9.2) ++ ([59] : List Nat))))) : Option (Option (List Nat)))) runs_ []) fun t25 =>
chk (CJoin (([] : List Nat)) (t25)) (chk (((home_ ++ ([32] : List Nat))).length + ((joined ([] : List Nat) t25)).length ≤ 16777216) (some ((home_ ++ ([32] : List Nat)) ++ (joined ([] : List Nat) t25))))))
def m_L_spoilt (home_ : (List Nat)) (runs_ : (List ((List Nat) × Int))) (kind_ : Int) (some_ : (List Int)) (cell_ : Int) : Option ((List Nat)) :=
chk ((runs_).length ≤ 16777215) (bnd (lcA (fun (i9 : ((List Nat) × Int)) => (some (some i9.2) : Option (Option Int))) runs_ []) fun t23 =>
lt (((t23).sum : Int)) fun many_ =>
chk ((runs_).length ≤ 16777215) (bnd (lcA (fun (i39 : ((List Nat) × Int)) => (chk ((i39.2).natAbs.log2 < 1920) (some (some (i39.1, (strI (i39.2))))) : Option (Option ((List Nat) × (List Nat))))) runs_ []) fun t63 =>
bnd (atI (some_) ((0 : Int))) fun t79 =>
chk (0 < (max (1 : Int) ((t63).length : Int))) (lt ((t79 % (max (1 : Int) ((t63).length : Int)))) fun at_ =>
it (decide (kind_ = (1 : Int)))
 (chk (((many_ + (1 : Int))).natAbs.log2 < 1920) (chk ((((many_ + (1 : Int)) + (cell_ % (1000000000000000000000000000000 : Int)))).natAbs.log2 < 1920) (chk ((([48] : List Nat)).length + (home_).length ≤ 16777216) (bnd (atI (some_) ((1 : Int))) fun t97 =>
bnd (atI ([(strI ((many_ + (1 : Int)))), (strI (((many_ + (1 : Int)) + (cell_ % (1000000000000000000000000000000 : Int))))), ([45, 49] : List Nat), (([48] : List Nat) ++ home_)] : List (List Nat)) ((t97 % (4 : Int)))) fun t99 =>
bnd (m_L_written (t99) (t63)) fun t101 =>
some t101))))
 (it (decide (kind_ = (2 : Int)))
 (bnd (atI (some_) ((1 : Int))) fun t111 =>
chk (CTms (([48] : List Nat)) (((3 : Int) + (t111 % (290 : Int))))) (chk ((([49] : List Nat)).length + ((tms ([48] : List Nat) ((3 : Int) + (t111 % (290 : Int))))).length ≤ 16777216) (chk (((cell_ % (100 : Int))).natAbs.log2 < 1920) (chk (((([49] : List Nat) ++ (tms ([48] : List Nat) ((3 : Int) + (t111 % (290 : Int)))))).length + ((strI ((cell_ % (100 : Int))))).length ≤ 16777216) (bnd (m_L_written (((([49] : List Nat) ++ (tms ([48] : List Nat) ((3 : Int) + (t111 % (290 : Int))))) ++ (strI ((cell_ % (100 : Int)))))) (t63)) fun t117 =>
some t117)))))
 (bnd (it (decide (kind_ = (3 : Int))) (chk ((kL (k2 kS kS)) t63 = true) (chk ((kL (k2 kS kS)) ([] : List ((List Nat) × (List Nat))) = true) (some (!decide (t63 = ([] : List ((List Nat) × (List Nat)))))))) (some false)) fun t126 =>
it t126
 (bnd (atI (t63) (at_)) fun t163 =>
chk ((([48] : List Nat)).length + (t163.2).length ≤ 16777216) (chk ((((1000 : Int) + (cell_ % (1000000000000000000000000000000 : Int)))).natAbs.log2 < 1920) (bnd (atI (some_) ((1 : Int))) fun t183 =>
bnd (atI ([([48] : List Nat), (([48] : List Nat) ++ t163.2), ([49, 48, 48, 48] : List Nat), (strI (((1000 : Int) + (cell_ % (1000000000000000000000000000000 : Int))))), ([] : List Nat), ([49, 32] : List Nat), ([97] : List Nat)] : List (List Nat)) ((t183 % (7 : Int)))) fun t185 =>
bnd (atI (t63) (at_)) fun t197 =>
bnd (ixN (t63).length (at_)) fun t215 =>
bnd (m_L_written (home_) ((List.set t63 t215 (t197.1, t185)))) fun t220 =>
some t220)))
 (bnd (it (decide (kind_ = (4 : Int))) (chk ((kL (k2 kS kS)) t63 = true) (chk ((kL (k2 kS kS)) ([] : List ((List Nat) × (List Nat))) = true) (some (!decide (t63 = ([] : List ((List Nat) × (List Nat)))))))) (some false)) fun t229 =>
it t229
 (bnd (atI (t63) (at_)) fun t278 =>
chk (((cut t63 none (some (at_ + (1 : Int))))).length + (([(t278.1, ([49] : List Nat))] : List ((List Nat) × (List Nat)))).length ≤ 16777216) (chk ((((cut t63 none (some (at_ + (1 : Int)))) ++ ([(t278.1, ([49] : List Nat))] : List ((List Nat) × (List Nat))))).length + ((cut t63 (some (at_ + (1 : Int))) none)).length ≤ 16777216) (bnd (m_L_written (home_) ((((cut t63 none (some (at_ + (1 : Int)))) ++ ([(t278.1, ([49] : List Nat))] : List ((List Nat) × (List Nat)))) ++ (cut t63 (some (at_ + (1 : Int))) none)))) fun t393 =>
some t393)))
 (bnd (m_L_written (home_) (t63)) fun t412 =>
bnd (atI (some_) ((2 : Int))) fun t421 =>
chk ((t412).length ≤ 16777216) (chk (0 < (((t412).length : Int) + (1 : Int))) (lt ((t421 % (((t412).length : Int) + (1 : Int)))) fun place_ =>
it (decide (kind_ = (5 : Int)))
 (chk ((t412).length ≤ 16777216) (chk ((t412).length ≤ 16777216) (chk (((cut t412 none (some place_))).length + ((cut t412 (some (place_ + (1 : Int))) none)).length ≤ 16777216) (some ((cut t412 none (some place_)) ++ (cut t412 (some (place_ + (1 : Int))) none))))))
 (it (decide (kind_ = (6 : Int)))
 (chk ((t412).length ≤ 16777216) (bnd (m_L_sign (cell_)) fun t434 =>
chk (((cut t412 none (some place_))).length + (t434).length ≤ 16777216) (chk ((t412).length ≤ 16777216) (chk ((((cut t412 none (some place_)) ++ t434)).length + ((cut t412 (some place_) none)).length ≤ 16777216) (some (((cut t412 none (some place_)) ++ t434) ++ (cut t412 (some place_) none)))))))
 (it (decide (kind_ = (7 : Int)))
 (chk ((t412).length ≤ 16777216) (bnd (m_L_sign (cell_)) fun t450 =>
chk (((cut t412 none (some place_))).length + (t450).length ≤ 16777216) (chk ((t412).length ≤ 16777216) (chk ((((cut t412 none (some place_)) ++ t450)).length + ((cut t412 (some (place_ + (1 : Int))) none)).length ≤ 16777216) (some (((cut t412 none (some place_)) ++ t450) ++ (cut t412 (some (place_ + (1 : Int))) none)))))))
 (it (decide (kind_ = (8 : Int)))
 (chk ((t412).length ≤ 16777216) (chk ((home_).length ≤ 16777216) (chk ((t412).length ≤ 16777216) (chk ((home_).length + ((cut t412 (some (((home_).length : Int) + (1 : Int))) none)).length ≤ 16777216) (chk ((t412).length + (([97] : List Nat)).length ≤ 16777216) (chk ((t412).length + (([59] : List Nat)).length ≤ 16777216) (bnd (atI (some_) ((3 : Int))) fun t479 =>
bnd (atI ([(cut t412 none (some (-(1 : Int)))), (home_ ++ (cut t412 (some (((home_).length : Int) + (1 : Int))) none)), (t412 ++ ([97] : List Nat)), (t412 ++ ([59] : List Nat)), ([] : List Nat)] : List (List Nat)) ((t479 % (5 : Int)))) fun t481 =>
some t481)))))))
 (some t412)))))))))))))
def m_L_whole (found_ : Int) : Option (Bool) :=
some (true && (!false))
def m_law_k1 (script_ : (List Int)) (t4 : Int) (t14 : (List Int)) (runs_ : (List ((List Nat) × Int))) : Option (Bool) :=
chk ((runs_).length ≤ 16777215) (bnd (lcA (fun (i98 : ((List Nat) × Int)) => (some (some i98.2) : Option (Option Int))) runs_ []) fun t116 =>
lt (((t116).sum : Int)) fun many_ =>
bnd (m_L_cell_at (script_) ((3 : Int))) fun t136 =>
chk (0 < (many_ + (1 : Int))) (chk (((t136 % (many_ + (1 : Int)))).natAbs.log2 < 1920) (lt ((strI ((t136 % (many_ + (1 : Int)))))) fun home_ =>
bnd (atI (t14) ((5 : Int))) fun t150 =>
bnd (m_L_spoilt (home_) (runs_) ((t150 % (10 : Int))) (t14) (t4)) fun t152 =>
bnd (m_L_due (t152)) fun t163 =>
it (t163).isNone
 (bnd (m_L_refused (t152)) fun t178 =>
some t178)
 (bnd (t163) fun t189 =>
bnd (okO (m_unpacked (t152))) fun t196 =>
bnd (it (!true) (some true) (it (!decide ((2 : Int) = (2 : Int))) (some true) (it (!true) (some true) (bnd (m_L_whole (t196.2)) fun t216 =>
some (!t216))))) fun t213 =>
it t213
 (some false)
 (some ((decide (t196.1 = t189.1)) && (decide (t196.2 = t189.2))))))))
def m_law (script_ : (List Int)) : Option (Bool) :=
bnd (m_L_cell_at (script_) ((1 : Int))) fun t4 =>
bnd (m_L_cell_at (script_) ((2 : Int))) fun t9 =>
bnd (m_L_stream (t9) ((6 : Int))) fun t14 =>
bnd (m_L_cell_at (script_) ((0 : Int))) fun t26 =>
bnd (m_L_runs_by (script_) (t26)) fun t33 =>
bnd (atI (t14) ((4 : Int))) fun t50 =>
bnd ((it (decide ((0 : Int) < (t50 % (4 : Int))))
 (bnd (atI (t14) ((4 : Int))) fun t57 =>
bnd (m_L_fitted (t33) (((300 : Int) + (b2I (decide ((t57 % (16 : Int)) = (1 : Int))))))) fun t64 =>
some (t64))
 (some (t33)) : Option ((List ((List Nat) × Int))))) fun runs_ =>
m_law_k1 script_ t4 t14 (runs_)
end Bk
namespace Bk
open PySem L2
def topS (i : Nat) : Stmt := PySem.Challenge.pw_backindex_k82_texts_unpacked.main.body.getD i (.Pass ⟨0, 0, 0, 0⟩)
abbrev s_L_cell_at : Stmt := topS 12
abbrev N_L_cell_at : List Str := ["_law_script", "_law_k"]
theorem sc_L_cell_at : FnScope N_L_cell_at ["_law_script", "_law_k"] (defScope s_L_cell_at) := ⟨rfl, rfl, rfl, by decide +kernel, rfl, by decide +kernel, by decide +kernel⟩
abbrev s_L_number : Stmt := topS 20
abbrev N_L_number : List Str := ["_law_figures", "_law_sign_here"]
theorem sc_L_number : FnScope N_L_number ["_law_figures"] (defScope s_L_number) := ⟨rfl, rfl, rfl, by decide +kernel, rfl, by decide +kernel, by decide +kernel⟩
abbrev s_L_due : Stmt := topS 21
abbrev N_L_due : List Str := ["_law_text", "_law_home", "_law_blank", "_law_rest", "_law_letters", "_law_figures", "_law_end", "_law_behind", "_law_many"]
theorem sc_L_due : FnScope N_L_due ["_law_text"] (defScope s_L_due) := ⟨rfl, rfl, rfl, by decide +kernel, rfl, by decide +kernel, by decide +kernel⟩
abbrev s_L_fitted : Stmt := topS 17
abbrev N_L_fitted : List Str := ["_law_runs", "_law_most", "_law_left", "_law_kept", "_law_sign_here", "_law_many"]
theorem sc_L_fitted : FnScope N_L_fitted ["_law_runs", "_law_most"] (defScope s_L_fitted) := ⟨rfl, rfl, rfl, by decide +kernel, rfl, by decide +kernel, by decide +kernel⟩
abbrev s_read_number : Stmt := topS 9
abbrev N_read_number : List Str := ["figures", "sign"]
theorem sc_read_number : FnScope N_read_number ["figures"] (defScope s_read_number) := ⟨rfl, rfl, rfl, by decide +kernel, rfl, by decide +kernel, by decide +kernel⟩
abbrev s_unpacked : Stmt := topS 10
abbrev N_unpacked : List Str := ["text", "front", "blank", "rest", "home", "letters", "place", "sign", "end", "many"]
theorem sc_unpacked : FnScope N_unpacked ["text"] (defScope s_unpacked) := ⟨rfl, rfl, rfl, by decide +kernel, rfl, by decide +kernel, by decide +kernel⟩
abbrev s_L_refused : Stmt := topS 22
abbrev N_L_refused : List Str := ["_law_text", "e"]
theorem sc_L_refused : FnScope N_L_refused ["_law_text"] (defScope s_L_refused) := ⟨rfl, rfl, rfl, by decide +kernel, rfl, by decide +kernel, by decide +kernel⟩
abbrev s_L_sign : Stmt := topS 14
abbrev N_L_sign : List Str := ["_law_number_here", "_law_some"]
theorem sc_L_sign : FnScope N_L_sign ["_law_number_here"] (defScope s_L_sign) := ⟨rfl, rfl, rfl, by decide +kernel, rfl, by decide +kernel, by decide +kernel⟩
abbrev s_L_stream : Stmt := topS 13
abbrev N_L_stream : List Str := ["_law_seed", "_law_many", "_law_number_here", "_law_some", "_law_k"]
theorem sc_L_stream : FnScope N_L_stream ["_law_seed", "_law_many"] (defScope s_L_stream) := ⟨rfl, rfl, rfl, by decide +kernel, rfl, by decide +kernel, by decide +kernel⟩
abbrev s_L_runs_by : Stmt := topS 16
abbrev N_L_runs_by : List Str := ["_law_script", "_law_cell", "_law_some", "_law_runs", "_law_wide", "_law_numbers", "_law_k", "_law_sign_here", "_law_many"]
theorem sc_L_runs_by : FnScope N_L_runs_by ["_law_script", "_law_cell"] (defScope s_L_runs_by) := ⟨rfl, rfl, rfl, by decide +kernel, rfl, by decide +kernel, by decide +kernel⟩
abbrev s_L_written : Stmt := topS 18
abbrev N_L_written : List Str := ["_law_home", "_law_runs", "_law_sign_here", "_law_many"]
theorem sc_L_written : FnScope N_L_written ["_law_home", "_law_runs"] (defScope s_L_written) := ⟨rfl, rfl, rfl, by decide +kernel, rfl, by decide +kernel, by decide +kernel⟩
abbrev s_L_spoilt : Stmt := topS 19
abbrev N_L_spoilt : List Str := ["_law_home", "_law_runs", "_law_kind", "_law_some", "_law_cell", "_law_many", "_law_told", "_law_at", "_law_wrong", "_law_text", "_law_place", "_law_run", "_law_sign_here", "_law_number_here"]
theorem sc_L_spoilt : FnScope N_L_spoilt ["_law_home", "_law_runs", "_law_kind", "_law_some", "_law_cell"] (defScope s_L_spoilt) := ⟨rfl, rfl, rfl, by decide +kernel, rfl, by decide +kernel, by decide +kernel⟩
abbrev s_L_whole : Stmt := topS 15
abbrev N_L_whole : List Str := ["_law_found"]
theorem sc_L_whole : FnScope N_L_whole ["_law_found"] (defScope s_L_whole) := ⟨rfl, rfl, rfl, by decide +kernel, rfl, by decide +kernel, by decide +kernel⟩
abbrev s_law : Stmt := topS 23
abbrev N_law : List Str := ["_law_script", "_law_cell", "_law_some", "_law_runs", "_law_many", "_law_home", "_law_text", "_law_due_here", "_law_found", "_law_run"]
theorem sc_law : FnScope N_law ["_law_script"] (defScope s_law) := ⟨rfl, rfl, rfl, by decide +kernel, rfl, by decide +kernel, by decide +kernel⟩
theorem lit_0 : ("0123456789" : Str) = S [48, 49, 50, 51, 52, 53, 54, 55, 56, 57] := by decide +kernel
theorem lit_1 : ("" : Str) = S [] := by decide +kernel
theorem lit_2 : ("0" : Str) = S [48] := by decide +kernel
theorem lit_3 : (" " : Str) = S [32] := by decide +kernel
theorem lit_4 : (";" : Str) = S [59] := by decide +kernel
theorem lit_5 : (" !\"#$&'()*+,-./0123456789:;<=>?@ABCDEFGHIJKLMNOPQRSTUVWXYZ[\\]^_`" : Str) = S [32, 33, 34, 35, 36, 38, 39, 40, 41, 42, 43, 44, 45, 46, 47, 48, 49, 50, 51, 52, 53, 54, 55, 56, 57, 58, 59, 60, 61, 62, 63, 64, 65, 66, 67, 68, 69, 70, 71, 72, 73, 74, 75, 76, 77, 78, 79, 80, 81, 82, 83, 84, 85, 86, 87, 88, 89, 90, 91, 92, 93, 94, 95, 96] := by decide +kernel
theorem lit_6 : ("abcdefghijklmnopqrstuvwxyz{|}~" : Str) = S [97, 98, 99, 100, 101, 102, 103, 104, 105, 106, 107, 108, 109, 110, 111, 112, 113, 114, 115, 116, 117, 118, 119, 120, 121, 122, 123, 124, 125, 126] := by decide +kernel
theorem lit_7 : ("-1" : Str) = S [45, 49] := by decide +kernel
theorem lit_8 : ("1" : Str) = S [49] := by decide +kernel
theorem lit_9 : ("1000" : Str) = S [49, 48, 48, 48] := by decide +kernel
theorem lit_10 : ("1 " : Str) = S [49, 32] := by decide +kernel
theorem lit_11 : ("a" : Str) = S [97] := by decide +kernel
structure Txt (K : PySem.W.Frag) (mg : Str → Option Value) (base : Heap) where
  tb : TbL
  f_L_cell_at : Addr
  d_L_cell_at : FuncData
  F_L_cell_at : Fun K "_law_cell_at" "_law_cell_at" s_L_cell_at f_L_cell_at d_L_cell_at
  m_L_cell_at : mg "_law_cell_at" = some (.ref f_L_cell_at)
  b_L_cell_at : Binds K d_L_cell_at ["_law_script", "_law_k"] []
  f_L_number : Addr
  d_L_number : FuncData
  F_L_number : Fun K "_law_number" "_law_number" s_L_number f_L_number d_L_number
  m_L_number : mg "_law_number" = some (.ref f_L_number)
  b_L_number : Binds K d_L_number ["_law_figures"] []
  f_L_due : Addr
  d_L_due : FuncData
  F_L_due : Fun K "_law_due" "_law_due" s_L_due f_L_due d_L_due
  m_L_due : mg "_law_due" = some (.ref f_L_due)
  b_L_due : Binds K d_L_due ["_law_text"] []
  f_L_fitted : Addr
  d_L_fitted : FuncData
  F_L_fitted : Fun K "_law_fitted" "_law_fitted" s_L_fitted f_L_fitted d_L_fitted
  m_L_fitted : mg "_law_fitted" = some (.ref f_L_fitted)
  b_L_fitted : Binds K d_L_fitted ["_law_runs", "_law_most"] []
  f_read_number : Addr
  d_read_number : FuncData
  F_read_number : Fun K "read_number" "read_number" s_read_number f_read_number d_read_number
  m_read_number : mg "read_number" = some (.ref f_read_number)
  b_read_number : Binds K d_read_number ["figures"] []
  f_unpacked : Addr
  d_unpacked : FuncData
  F_unpacked : Fun K "unpacked" "unpacked" s_unpacked f_unpacked d_unpacked
  m_unpacked : mg "unpacked" = some (.ref f_unpacked)
  b_unpacked : Binds K d_unpacked ["text"] []
  f_L_refused : Addr
  d_L_refused : FuncData
  F_L_refused : Fun K "_law_refused" "_law_refused" s_L_refused f_L_refused d_L_refused
  m_L_refused : mg "_law_refused" = some (.ref f_L_refused)
  b_L_refused : Binds K d_L_refused ["_law_text"] []
  f_L_sign : Addr
  d_L_sign : FuncData
  F_L_sign : Fun K "_law_sign" "_law_sign" s_L_sign f_L_sign d_L_sign
  m_L_sign : mg "_law_sign" = some (.ref f_L_sign)
  b_L_sign : Binds K d_L_sign ["_law_number_here"] []
  f_L_stream : Addr
  d_L_stream : FuncData
  F_L_stream : Fun K "_law_stream" "_law_stream" s_L_stream f_L_stream d_L_stream
  m_L_stream : mg "_law_stream" = some (.ref f_L_stream)
  b_L_stream : Binds K d_L_stream ["_law_seed", "_law_many"] []
  f_L_runs_by : Addr
  d_L_runs_by : FuncData
  F_L_runs_by : Fun K "_law_runs_by" "_law_runs_by" s_L_runs_by f_L_runs_by d_L_runs_by
  m_L_runs_by : mg "_law_runs_by" = some (.ref f_L_runs_by)
  b_L_runs_by : Binds K d_L_runs_by ["_law_script", "_law_cell"] []
  f_L_written : Addr
  d_L_written : FuncData
  F_L_written : Fun K "_law_written" "_law_written" s_L_written f_L_written d_L_written
  m_L_written : mg "_law_written" = some (.ref f_L_written)
  b_L_written : Binds K d_L_written ["_law_home", "_law_runs"] []
  f_L_spoilt : Addr
  d_L_spoilt : FuncData
  F_L_spoilt : Fun K "_law_spoilt" "_law_spoilt" s_L_spoilt f_L_spoilt d_L_spoilt
  m_L_spoilt : mg "_law_spoilt" = some (.ref f_L_spoilt)
  b_L_spoilt : Binds K d_L_spoilt ["_law_home", "_law_runs", "_law_kind", "_law_some", "_law_cell"] []
  f_L_whole : Addr
  d_L_whole : FuncData
  F_L_whole : Fun K "_law_whole" "_law_whole" s_L_whole f_L_whole d_L_whole
  m_L_whole : mg "_law_whole" = some (.ref f_L_whole)
  b_L_whole : Binds K d_L_whole ["_law_found"] []
  f_law : Addr
  d_law : FuncData
  F_law : Fun K "law" "law" s_law f_law d_law
  m_law : mg "law" = some (.ref f_law)
  b_law : Binds K d_law ["_law_script"] []
  z_ValueError : mg "ValueError" = none
  z_bool : mg "bool" = none
  z_int : mg "int" = none
  z_isinstance : mg "isinstance" = none
  z_len : mg "len" = none
  z_max : mg "max" = none
  z_min : mg "min" = none
  z_range : mg "range" = none
  z_str : mg "str" = none
  z_sum : mg "sum" = none
  z_tuple : mg "tuple" = none
  g_FIGURES : ∃ u, mg "FIGURES" = some u ∧ RelV (V.str (S [48, 49, 50, 51, 52, 53, 54, 55, 56, 57])) u
  g_MOST_FIGURES : ∃ u, mg "MOST_FIGURES" = some u ∧ RelV (V.int (3)) u
  g_MOST_LETTERS : ∃ u, mg "MOST_LETTERS" = some u ∧ RelV (V.int (300)) u
  C : Nat → Addr
  x_BackError : ExcK K mg "BackError" (C 0)
  x_NoName : ExcK K mg "NoName" (C 2)
  x_NoRow : ExcK K mg "NoRow" (C 3)
  x_NoText : ExcK K mg "NoText" (C 1)
  xc : ∀ i, i < 4 → ExcC K (C i)
  exm_0 : ∀ i, i < 4 → PySem.W.exmOne K (.ref (C i)) (.ref (C 0)) = some (subB i 0)
  kit_1 : ∀ i, i < 4 → PySem.W.kitOne K (.ref (C i)) (.ref (C 1)) = some (subB i 1)
  kit_2 : ∀ i, i < 4 → PySem.W.kitOne K (.ref (C i)) (.ref (C 2)) = some (subB i 2)
  kit_3 : ∀ i, i < 4 → PySem.W.kitOne K (.ref (C i)) (.ref (C 3)) = some (subB i 3)
  kitV : ∀ i, i < 4 → PySem.W.kitOne K (.ref (C i)) (.type "ValueError") = some true
section
variable {P : Program} {w : World} {K : PySem.W.Frag} {mg : Str → Option Value} {base : Heap}
def sp_L_cell_at {K : PySem.W.Frag} {mg : Str → Option Value} {base : Heap} (T : Txt K mg base) : Sp := fun vs H Q _ => ∃ (w0 : V) (script_ : (List Int)) (k_ : Int) (rr : Int), vs = [w0, (V.int k_)] ∧ (rScr K) H w0 script_ ∧ m_L_cell_at script_ k_ = some rr ∧ ∀ H', Ex T.tb H H' → Q (V.int rr) H'
theorem ok_L_cell_at (T : Txt K mg base) : FnOk P w K mg base CX0 1 T.f_L_cell_at T.d_L_cell_at ["_law_script", "_law_k"] (sp_L_cell_at T) := by
  refine okW T.F_L_cell_at sc_L_cell_at (fun vs H Q E h => ?_) (fun cdv A outer s H vs Q E hr h => ?_)
  · obtain ⟨_, _, _, _, rfl, _⟩ := h
    rfl
  · obtain ⟨w0, script_, k_, rr, rfl, ⟨d2, rfl, h3⟩, hm, kk⟩ := h
    have nd := sc_L_cell_at.nd
    have Wt := Stp.refl (Ex.refl (tb := T.tb) H)
    unfold m_L_cell_at at hm
    show WSs _ [some (V.ref d2), some (V.int k_)] H _ _
    refine wss_cons (ws_if ?_)
    refine EvB.p (ec_lt (ev_var 1) ((ev_lenL (ev_var 0) (ex_l Wt.s h3) T.z_len).is (by rw [List.length_map]))).te ?_
    refine ite_of (fun b4 => ?_) (fun b4 => ?_)
    · replace hm := it_t b4 hm
      refine wss_cons (ws_ret ?_)
      obtain ⟨t5, e6, hm⟩ := bnd_e hm
      refine EvV.p (ev_ixL (ev_var 0) (ev_var 1) (ex_l Wt.s h3) (atI_map e6)) ?_
      have HR := Option.some.inj hm
      exact fin1 (f := V.int) kk HR Wt.h
    · replace hm := it_f b4 hm
      refine wss_nil ?_
      show WSs _ [some (V.ref d2), some (V.int k_)] H _ _
      refine wss_cons (ws_ret ?_)
      refine EvV.p ev_int ?_
      have HR := Option.some.inj hm
      exact fin1 (f := V.int) kk HR Wt.h
def sp_L_number {K : PySem.W.Frag} {mg : Str → Option Value} {base : Heap} (T : Txt K mg base) : Sp := fun vs H Q _ => ∃ (figures_ : (List Nat)) (rr : Int), vs = [(V.str (S figures_))] ∧ m_L_number figures_ = some rr ∧ ∀ H', Ex T.tb H H' → Q (V.int rr) H'
theorem ok_L_number (T : Txt K mg base) : FnOk P w K mg base CX0 1 T.f_L_number T.d_L_number ["_law_figures"] (sp_L_number T) := by
  refine okW T.F_L_number sc_L_number (fun vs H Q E h => ?_) (fun cdv A outer s H vs Q E hr h => ?_)
  · obtain ⟨_, _, rfl, _⟩ := h
    rfl
  · obtain ⟨figures_, rr, rfl, hm, kk⟩ := h
    have nd := sc_L_number.nd
    have Wt := Stp.refl (Ex.refl (tb := T.tb) H)
    unfold m_L_number at hm
    show WSs _ [some (V.str (S figures_)), none] H _ _
    obtain ⟨t1, e2, hm⟩ := bnd_e hm
    have r14 : ∀ r, t1 = .rt r → r = rr := fun r h => by
      subst h
      exact Option.some.inj hm
    refine wss_cons (ws_forG (src_S (ev_var 0)) (pg_name (i := 1) nd rfl (by first | exact Or.inl rfl | exact Or.inr rfl)) gname_mono PassesOwn.never rfl e2 (fun (s : Unit) σx Hx => ∃ Fx qx0, Stp T.tb H H Fx Hx ∧ Ex T.tb H Fx ∧ σx = [some (V.str (S figures_)), qx0]) ?_ ?_ ?_ ?_)
    · exact ⟨H, _, Wt, (Ex.refl _), rfl⟩
    · exact fun _ _ _ _ => trivial
    · rintro i3 ⟨⟩ w10 H11 v4 H12 o9 m13 h5 y6 g7 r8
      obtain ⟨F15, q17, Wt, x16, rfl⟩ := h5
      obtain ⟨rfl, rfl⟩ := y6
      replace g7 : m_L_number_b1  i3 = some _ := g7
      unfold m_L_number_b1 at g7
      show WSs _ [some (V.str (S figures_)), some (V.str (S [i3]))] H11 _ _
      refine wss_cons (ws_if ?_)
      obtain ⟨c18, g7⟩ := chk_e g7
      refine EvB.p (ec_ninS (ev_var 1) (ev_str lit_0) c18).te ?_
      refine ite_of (fun b19 => ?_) (fun b19 => ?_)
      · replace g7 := it_t b19 g7
        refine wss_cons (ws_ret ?_)
        refine EvV.p (ev_neg ev_int) ?_
        have HR := r14 _ (r8 _ (Option.some.inj g7).symm)
        exact fin1 (f := V.int) kk HR Wt.h
      · replace g7 := it_f b19 g7
        refine wss_nil ?_
        show WSs _ [some (V.str (S figures_)), some (V.str (S [i3]))] H11 _ _
        refine wss_nil ?_
        refine ⟨_, (Option.some.inj g7).symm, ?_⟩
        exact ⟨F15, _, Wt, x16, rfl⟩
    · rintro ⟨⟩ w20 H21 e23 h22
      obtain ⟨F24, q26, Wt, x25, rfl⟩ := h22
      rw [e23] at hm
      have hm : m_L_number_k2 figures_  = some _ := hm
      unfold m_L_number_k2 at hm
      show WSs _ [some (V.str (S figures_)), q26] H21 _ _
      refine wss_cons (ws_if ?_)
      obtain ⟨t40, e41, hm⟩ := bnd_e hm
      refine EvB.p (EvW.t (ew_orM e41 (ec_eqS (ev_var 0) (ev_str lit_1)).te fun b38 g39 => by
          obtain ⟨c27, g39⟩ := chk_e g39
          exact (ew_orM g39 (ec_gt (ev_lenS (ev_var 0) (sz_le c27) T.z_len) ev_int).te fun b36 g37 => by
              obtain ⟨c28, g37⟩ := chk_e g37
              obtain ⟨t34, e35, g37⟩ := bnd_e g37
              cases g37
              exact (ew_or1 (EvW.t (ew_andM e35 (ec_gt (ev_lenS (ev_var 0) (sz_le c28) T.z_len) ev_int).te fun b32 g33 => by
                  obtain ⟨c31, g33⟩ := chk_e g33
                  obtain ⟨t29, e30, g33⟩ := bnd_e g33
                  cases g33
                  exact (ew_and1 (ec_eqS (ev_ixS (ev_var 0) ev_int (sz_le c31) e30) (ev_str lit_2)).te))))))) ?_
      refine ite_of (fun b42 => ?_) (fun b42 => ?_)
      · replace hm := it_t b42 hm
        refine wss_cons (ws_ret ?_)
        refine EvV.p (ev_neg ev_int) ?_
        have HR := Option.some.inj hm
        exact fin1 (f := V.int) kk HR Wt.h
      · replace hm := it_f b42 hm
        refine wss_nil ?_
        show WSs _ [some (V.str (S figures_)), q26] H21 _ _
        refine wss_cons (ws_ret ?_)
        obtain ⟨c45, hm⟩ := chk_e hm
        obtain ⟨t43, e44, hm⟩ := bnd_e hm
        refine EvV.p (ev_intS (ev_var 0) e44 c45 T.z_int) ?_
        have HR := Option.some.inj hm
        exact fin1 (f := V.int) kk HR Wt.h
def sp_L_due {K : PySem.W.Frag} {mg : Str → Option Value} {base : Heap} (T : Txt K mg base) : Sp := fun vs H Q _ => ∃ (F : Hp) (text_ : (List Nat)) (rr : (Option ((List Nat) × Int))), vs = [(V.str (S text_))] ∧ Ex T.tb F H ∧ m_L_due text_ = some rr ∧ ∀ v F' H', Stp T.tb F H F' H' → (rO (rT2 (fl sV) (fl V.int))) F' v rr → Q v H'
theorem ok_L_due (T : Txt K mg base) : FnOk P w K mg base CX0 2 T.f_L_due T.d_L_due ["_law_text"] (sp_L_due T) := by
  refine okW T.F_L_due sc_L_due (fun vs H Q E h => ?_) (fun cdv A outer s H vs Q E hr h => ?_)
  · obtain ⟨_, _, _, rfl, _⟩ := h
    rfl
  · obtain ⟨F, text_, rr, rfl, Sx, hm, kk⟩ := h
    have nd := sc_L_due.nd
    have Wt := Stp.refl Sx
    unfold m_L_due at hm
    show WSs _ [some (V.str (S text_)), none, none, none, none, none, none, none, none] H _ _
    refine wss_cons (ws_asgG (pg_tp rfl (pgs_c (pg_name (i := 1) nd rfl (by first | exact Or.inl rfl | exact Or.inr rfl)) (pgs_c (pg_name (i := 2) nd rfl (by first | exact Or.inl rfl | exact Or.inr rfl)) (pgs_c (pg_name (i := 3) nd rfl (by first | exact Or.inl rfl | exact Or.inr rfl)) pgs_nil)))) ?_)
    obtain ⟨c1, hm⟩ := chk_e hm
    refine we_part Wt.s (ev_var 0) (ev_str lit_3) (sz_le c1) fun d2 F3 H4 s5 h6 => ?_
    have Wt := Wt.trans s5
    refine ⟨_, _, rfl, (st_of (Wt.s.at h6)), rfl, ?_⟩
    refine ⟨_, _, rfl, ?_⟩
    refine ⟨_, _, rfl, ?_⟩
    refine ⟨_, _, rfl, ?_⟩
    refine ⟨rfl, ?_⟩
    show WSs _ [some (V.str (S text_)), some (V.str (S (part1 (text_) 32).1)), some (V.str (S (part1 (text_) 32).2.1)), some (V.str (S (part1 (text_) 32).2.2)), none, none, none, none, none] H4 _ _
    obtain ⟨letters_, q7, hm⟩ := lt_x hm
    refine wss_cons (ws_asgP (v := (V.str (S letters_))) 4 nd (EvV.is (ev_str lit_1) (congrArg sV q7.symm)) ?_)
    show WSs _ [some (V.str (S text_)), some (V.str (S (part1 (text_) 32).1)), some (V.str (S (part1 (text_) 32).2.1)), some (V.str (S (part1 (text_) 32).2.2)), some (V.str (S letters_)), none, none, none, none] H4 _ _
    obtain ⟨t8, e9, hm⟩ := bnd_e hm
    have r17 : ∀ r, t8 = .rt r → r = rr := fun r h => by
      subst h
      exact Option.some.inj hm
    refine wss_cons (ws_whileR PassesOwn.never e9 (fun (s : (List Nat) × (List Nat)) σx Hx => ∃ Fx qx0 qx1 qx2 qx3, Stp T.tb F H Fx Hx ∧ Ex T.tb F3 Fx ∧ σx = [some (V.str (S text_)), some (V.str (S (part1 (text_) 32).1)), some (V.str (S (part1 (text_) 32).2.1)), some (V.str (S (s.1))), some (V.str (S (s.2))), qx0, qx1, qx2, qx3]) ?_ ?_)
    · exact ⟨F3, _, _, _, _, Wt, (Ex.refl _), rfl⟩
    · rintro ⟨rest_, letters_1⟩ w15 H16 k18 h10 c11
      obtain ⟨F19, q21, q22, q23, q24, Wt, x20, rfl⟩ := h10
      replace c11 : m_L_due_c1 rest_ letters_1 = some _ := c11
      unfold m_L_due_c1 at c11
      refine EvB.p (ec_neS (ev_var 3) (ev_str lit_1)).te ?_
      refine ⟨Option.some.inj c11, ?_, ?_⟩
      · intro b88 o14 g12 r13
        replace g12 : m_L_due_b2 rest_ letters_1 = some _ := g12
        unfold m_L_due_b2 at g12
        show WSs _ [some (V.str (S text_)), some (V.str (S (part1 (text_) 32).1)), some (V.str (S (part1 (text_) 32).2.1)), some (V.str (S rest_)), some (V.str (S letters_1)), q21, q22, q23, q24] H16 _ _
        refine wss_cons (ws_asgG (pg_tp rfl (pgs_c (pg_name (i := 5) nd rfl (by first | exact Or.inl rfl | exact Or.inr rfl)) (pgs_c (pg_name (i := 6) nd rfl (by first | exact Or.inl rfl | exact Or.inr rfl)) (pgs_c (pg_name (i := 7) nd rfl (by first | exact Or.inl rfl | exact Or.inr rfl)) pgs_nil)))) ?_)
        obtain ⟨c25, g12⟩ := chk_e g12
        obtain ⟨c26, g12⟩ := chk_e g12
        refine we_part Wt.s (ev_slS (ev_var 3) (eo_s ev_int) eo_n (sz_le c25)) (ev_str lit_4) (sz_le c26) fun d27 F28 H29 s30 h31 => ?_
        have Wt := Wt.trans s30
        refine ⟨_, _, rfl, (st_of (Wt.s.at h31)), rfl, ?_⟩
        refine ⟨_, _, rfl, ?_⟩
        refine ⟨_, _, rfl, ?_⟩
        refine ⟨_, _, rfl, ?_⟩
        refine ⟨rfl, ?_⟩
        show WSs _ [some (V.str (S text_)), some (V.str (S (part1 (text_) 32).1)), some (V.str (S (part1 (text_) 32).2.1)), some (V.str (S rest_)), some (V.str (S letters_1)), some (V.str (S (part1 ((cut rest_ (some (1 : Int)) none)) 59).1)), some (V.str (S (part1 ((cut rest_ (some (1 : Int)) none)) 59).2.1)), some (V.str (S (part1 ((cut rest_ (some (1 : Int)) none)) 59).2.2)), q24] H29 _ _
        refine wss_cons (ws_asg 8 nd ?_)
        refine we_call (ok_L_number T) (hr.mono (by decide)) T.m_L_number T.F_L_number.kp T.b_L_number .nil pass0 ?_
        refine EvA.p (ea_cons (ev_var 5) ea_nil) ?_
        obtain ⟨t32, e33, g12⟩ := bnd_e g12
        refine ⟨(part1 ((cut rest_ (some (1 : Int)) none)) 59).1, t32, rfl, e33, fun H34 x36 => ?_⟩
        have s35 := Stp.ofH Wt.s x36
        have Wt := Wt.trans s35
        show WSs _ [some (V.str (S text_)), some (V.str (S (part1 (text_) 32).1)), some (V.str (S (part1 (text_) 32).2.1)), some (V.str (S rest_)), some (V.str (S letters_1)), some (V.str (S (part1 ((cut rest_ (some (1 : Int)) none)) 59).1)), some (V.str (S (part1 ((cut rest_ (some (1 : Int)) none)) 59).2.1)), some (V.str (S (part1 ((cut rest_ (some (1 : Int)) none)) 59).2.2)), some (V.int t32)] H34 _ _
        refine wss_cons (ws_if ?_)
        obtain ⟨t48, e49, g12⟩ := bnd_e g12
        refine EvB.p (EvW.t (ew_orM e49 (ec_eqS (ev_var 6) (ev_str lit_1)).te fun b46 g47 => by
            exact (ew_orM g47 (ec_lt (ev_var 8) ev_int).te fun b44 g45 => by
                obtain ⟨c39, g45⟩ := chk_e g45
                obtain ⟨t37, e38, g45⟩ := bnd_e g45
                obtain ⟨c40, g45⟩ := chk_e g45
                exact (ew_orM g45 (ec_eqS (ev_ixS (ev_var 3) ev_int (sz_le c39) e38) (ev_slS (ev_var 4) (eo_s (ev_neg ev_int)) eo_n (sz_le c40))).te fun b42 g43 => by
                    obtain ⟨c41, g43⟩ := chk_e g43
                    cases g43
                    exact (ew_or1 (ec_gt (ev_add (ev_lenS (ev_var 4) (sz_le c41) T.z_len) (ev_var 8)) ev_int).te))))) ?_
        refine ite_of (fun b50 => ?_) (fun b50 => ?_)
        · replace g12 := it_t b50 g12
          refine wss_cons (ws_ret ?_)
          refine EvV.p ev_non ?_
          have HR := r17 _ (r13 _ (Option.some.inj g12).symm)
          subst HR
          exact kk _ _ _ Wt rfl
        · replace g12 := it_f b50 g12
          refine wss_nil ?_
          show WSs _ [some (V.str (S text_)), some (V.str (S (part1 (text_) 32).1)), some (V.str (S (part1 (text_) 32).2.1)), some (V.str (S rest_)), some (V.str (S letters_1)), some (V.str (S (part1 ((cut rest_ (some (1 : Int)) none)) 59).1)), some (V.str (S (part1 ((cut rest_ (some (1 : Int)) none)) 59).2.1)), some (V.str (S (part1 ((cut rest_ (some (1 : Int)) none)) 59).2.2)), some (V.int t32)] H34 _ _
          obtain ⟨c53, g12⟩ := chk_e g12
          obtain ⟨t51, e52, g12⟩ := bnd_e g12
          obtain ⟨c54, g12⟩ := chk_e g12
          obtain ⟨c55, g12⟩ := chk_e g12
          obtain ⟨letters_2, q56, g12⟩ := lt_x g12
          refine wss_cons (ws_asgP (v := (V.str (S letters_2))) 4 nd (EvV.is (ev_cat (ev_var 4) (ev_tms (ev_ixS (ev_var 3) ev_int (sz_le c53) e52) (ev_var 8) c54) (sz_le c55)) (congrArg sV q56.symm)) ?_)
          show WSs _ [some (V.str (S text_)), some (V.str (S (part1 (text_) 32).1)), some (V.str (S (part1 (text_) 32).2.1)), some (V.str (S rest_)), some (V.str (S letters_2)), some (V.str (S (part1 ((cut rest_ (some (1 : Int)) none)) 59).1)), some (V.str (S (part1 ((cut rest_ (some (1 : Int)) none)) 59).2.1)), some (V.str (S (part1 ((cut rest_ (some (1 : Int)) none)) 59).2.2)), some (V.int t32)] H34 _ _
          obtain ⟨rest_1, q57, g12⟩ := lt_x g12
          refine wss_cons (ws_asgP (v := (V.str (S rest_1))) 3 nd (EvV.is (ev_var 7) (congrArg sV q57.symm)) ?_)
          show WSs _ [some (V.str (S text_)), some (V.str (S (part1 (text_) 32).1)), some (V.str (S (part1 (text_) 32).2.1)), some (V.str (S rest_1)), some (V.str (S letters_2)), some (V.str (S (part1 ((cut rest_ (some (1 : Int)) none)) 59).1)), some (V.str (S (part1 ((cut rest_ (some (1 : Int)) none)) 59).2.1)), some (V.str (S (part1 ((cut rest_ (some (1 : Int)) none)) 59).2.2)), some (V.int t32)] H34 _ _
          refine wss_nil ?_
          refine ⟨_, (Option.some.inj g12).symm, ?_⟩
          exact ⟨F28, _, _, _, _, Wt, (x20.trans s30.f), rfl⟩
      · intro b88 e90
        rw [e90] at hm
        have hm : m_L_due_k3 text_ rest_ letters_1 = some _ := hm
        unfold m_L_due_k3 at hm
        show WSs _ [some (V.str (S text_)), some (V.str (S (part1 (text_) 32).1)), some (V.str (S (part1 (text_) 32).2.1)), some (V.str (S rest_)), some (V.str (S letters_1)), q21, q22, q23, q24] H16 _ _
        refine wss_cons (ws_if ?_)
        obtain ⟨t58, e59, hm⟩ := bnd_e hm
        refine WT.mono (Q := fun k H1 => k = t58 ∧ ∃ F1, Stp T.tb F19 H16 F1 H1) (WW.t ?_) ?_
        · have U60 := Stp.refl Wt.s
          refine ww_or ?_
          refine EvB.p (ec_eqS (ev_var 2) (ev_str lit_1)).te ?_
          refine ite_of (fun b73 => ?_) (fun b73 => ?_)
          · replace e59 := it_t b73 e59
            cases e59
            exact ⟨rfl, _, U60⟩
          · replace e59 := it_f b73 e59
            refine ww_or ?_
            refine wt_cmp2 op_lt (nomark _) ?_
            refine we_call (ok_L_number T) (hr.mono (by decide)) T.m_L_number T.F_L_number.kp T.b_L_number .nil pass0 ?_
            refine EvA.p (ea_cons (ev_var 1) ea_nil) ?_
            obtain ⟨t61, e62, e59⟩ := bnd_e e59
            refine ⟨(part1 (text_) 32).1, t61, rfl, e62, fun H63 x65 => ?_⟩
            have s64 := Stp.ofH Wt.s x65
            have Wt := Wt.trans s64
            have U60 := U60.trans s64
            refine EvV.p ev_int ?_
            refine fin_cI ?_
            refine ⟨_, rfl, ?_⟩
            refine ite_of (fun b72 => ?_) (fun b72 => ?_)
            · replace e59 := it_t b72 e59
              cases e59
              exact ⟨rfl, _, U60⟩
            · replace e59 := it_f b72 e59
              refine ww_or1 ?_
              refine wt_cmp2 op_gt (nomark _) ?_
              refine we_call (ok_L_number T) (hr.mono (by decide)) T.m_L_number T.F_L_number.kp T.b_L_number .nil pass0 ?_
              refine EvA.p (ea_cons (ev_var 1) ea_nil) ?_
              obtain ⟨t66, e67, e59⟩ := bnd_e e59
              refine ⟨(part1 (text_) 32).1, t66, rfl, e67, fun H68 x70 => ?_⟩
              have s69 := Stp.ofH Wt.s x70
              have Wt := Wt.trans s69
              have U60 := U60.trans s69
              obtain ⟨c71, e59⟩ := chk_e e59
              refine EvV.p (ev_lenS (ev_var 4) (sz_le c71) T.z_len) ?_
              refine fin_cI ?_
              refine ⟨_, rfl, ?_⟩
              cases e59
              exact ⟨rfl, _, U60⟩
        rintro _ H75 ⟨rfl, F74, s76⟩
        have Wt := Wt.trans s76
        refine ite_of (fun b77 => ?_) (fun b77 => ?_)
        · replace hm := it_t b77 hm
          refine wss_cons (ws_ret ?_)
          refine EvV.p ev_non ?_
          have HR := Option.some.inj hm
          subst HR
          exact kk _ _ _ Wt rfl
        · replace hm := it_f b77 hm
          refine wss_nil ?_
          show WSs _ [some (V.str (S text_)), some (V.str (S (part1 (text_) 32).1)), some (V.str (S (part1 (text_) 32).2.1)), some (V.str (S rest_)), some (V.str (S letters_1)), q21, q22, q23, q24] H75 _ _
          refine wss_cons (ws_ret ?_)
          refine we_tup ?_
          refine wa_consP (ev_var 4) ?_
          refine wa_cons ?_
          refine we_call (ok_L_number T) (hr.mono (by decide)) T.m_L_number T.F_L_number.kp T.b_L_number .nil pass0 ?_
          refine EvA.p (ea_cons (ev_var 1) ea_nil) ?_
          obtain ⟨t78, e79, hm⟩ := bnd_e hm
          refine ⟨(part1 (text_) 32).1, t78, rfl, e79, fun H80 x82 => ?_⟩
          have s81 := Stp.ofH Wt.s x82
          have Wt := Wt.trans s81
          refine wa_nil ?_
          refine ⟨sz_le (by simp), fun d83 s86n => ?_⟩
          obtain ⟨F84, s86, h87⟩ := frz_ex (p := d83) (o := .tup [(V.str (S letters_1)), (V.int t78)]) Wt.s s86n rfl
          have Wt := Wt.trans s86
          have HR := Option.some.inj hm
          subst HR
          exact kk _ _ _ Wt ⟨_, _, _, rfl, h87, rfl, rfl⟩
def sp_L_fitted {K : PySem.W.Frag} {mg : Str → Option Value} {base : Heap} (T : Txt K mg base) : Sp := fun vs H Q _ => ∃ (F : Hp) (w0 : V) (runs_ : (List ((List Nat) × Int))) (most_ : Int) (rr : (List ((List Nat) × Int))), vs = [w0, (V.int most_)] ∧ Ex T.tb F H ∧ (rL (rT2 (fl sV) (fl V.int))) F w0 runs_ ∧ m_L_fitted runs_ most_ = some rr ∧ ∀ v F' H', Stp T.tb F H F' H' → (nL (rT2 (fl sV) (fl V.int))) H F' H' v rr → Q v H'
theorem ok_L_fitted (T : Txt K mg base) : FnOk P w K mg base CX0 1 T.f_L_fitted T.d_L_fitted ["_law_runs", "_law_most"] (sp_L_fitted T) := by
  refine okW T.F_L_fitted sc_L_fitted (fun vs H Q E h => ?_) (fun cdv A outer s H vs Q E hr h => ?_)
  · obtain ⟨_, _, _, _, _, rfl, _⟩ := h
    rfl
  · obtain ⟨F, w0, runs_, most_, rr, rfl, Sx, ⟨d1, ws3, rfl, h2, p4⟩, hm, kk⟩ := h
    have nd := sc_L_fitted.nd
    have Wt := Stp.refl Sx
    unfold m_L_fitted at hm
    show WSs _ [some (V.ref d1), some (V.int most_), none, none, none, none] H _ _
    obtain ⟨left_, q5, hm⟩ := lt_x hm
    refine wss_cons (ws_asgP (v := (V.int left_)) 2 nd (EvV.is (ev_var 1) (congrArg V.int q5.symm)) ?_)
    show WSs _ [some (V.ref d1), some (V.int most_), some (V.int left_), none, none, none] H _ _
    refine wss_cons (ws_asg 3 nd ?_)
    refine q_lsto Wt.s (xs := []) ea_nil (sz_le (by decide)) fun d6 H7 s8 n9 o10 => ?_
    have z11 := Wt.h.free n9
    have n12 := Wt.s.free n9
    have Wt := Wt.trans s8
    show WSs _ [some (V.ref d1), some (V.int most_), some (V.int left_), some (V.ref d6), none, none] H7 _ _
    refine wss_cons (ws_forE (pg_tp rfl (pgs_c (pg_name (i := 4) nd rfl (by first | exact Or.inl rfl | exact Or.inr rfl)) (pgs_c (pg_name (i := 5) nd rfl (by first | exact Or.inl rfl | exact Or.inr rfl)) pgs_nil))) PassesOwn.never rfl ?_)
    refine EvV.p (ev_var 0) ?_
    obtain ⟨t13, e14, hm⟩ := bnd_e hm
    refine ⟨_, rfl, ⟨_, (sq_of (Wt.s.at h2))⟩, lg_ofS (sv_Lr p4) (gtup_mono (gcons_mono gname_mono (gcons_mono gname_mono gnil_mono))) e14 (fun (s : Int × (List ((List Nat) × Int))) σx Hx => ∃ Fx qx0 qx1 wy2, Stp T.tb F H Fx Hx ∧ Ex T.tb F Fx ∧ σx = [some (V.ref d1), some (V.int most_), some (V.int (s.1)), some (V.ref d6), qx0, qx1] ∧ Hx d6 = some (.lst wy2) ∧ Paired ((rT2 (fl sV) (fl V.int)) Fx) wy2 (s.2) ∧ Fx d6 = none) ?_ ?_ ?_ ?_⟩
    · exact ⟨F, _, _, _, Wt, (Ex.refl _), rfl, o10, (Paired.nil : Paired ((rT2 (fl sV) (fl V.int)) F) [] ([] : List ((List Nat) × Int))), n12⟩
    · rintro ⟨left_1, kept_⟩ w22 H23 h17
      obtain ⟨F80, q82, q83, ws86, Wt, x81, rfl, o84, p87, n85⟩ := h17
      exact (sq_of (Wt.s.at (Ex.at x81 h2)))
    · rintro i15 ⟨left_1, kept_⟩ w22 H23 v16 H24 o21 m25 h17 y18 g19
      obtain ⟨F27, q29, q30, ws33, Wt, x28, rfl, o31, p34, n32⟩ := h17
      obtain ⟨rfl, r35⟩ := y18
      obtain ⟨d36, v38, v39, rfl, h37, rfl, rfl⟩ := r35
      refine ⟨_, _, rfl, (st_of (Wt.s.at (Ex.at x28 h37))), rfl, ?_⟩
      refine ⟨_, _, rfl, ?_⟩
      refine ⟨_, _, rfl, ?_⟩
      refine ⟨rfl, ?_⟩
      replace g19 : m_L_fitted_b2 left_1 kept_ i15 = some _ := g19
      unfold m_L_fitted_b2 at g19
      show WSs _ [some (V.ref d1), some (V.int most_), some (V.int left_1), some (V.ref d6), some (V.str (S i15.1)), some (V.int i15.2)] H23 _ _
      refine wss_ifcut ?_
      refine EvB.p (ec_gt (ev_var 2) ev_int).te ?_
      obtain ⟨kept_1, e42, g19⟩ := bnd_e g19
      refine ⟨fun σx Hx => ∃ Fx wy0, Stp T.tb F H Fx Hx ∧ Ex T.tb F27 Fx ∧ σx = [some (V.ref d1), some (V.int most_), some (V.int left_1), some (V.ref d6), some (V.str (S i15.1)), some (V.int i15.2)] ∧ Hx d6 = some (.lst wy0) ∧ Paired ((rT2 (fl sV) (fl V.int)) Fx) wy0 (kept_1) ∧ Fx d6 = none, ?_, ?_⟩
      · refine ite_of (fun b40 => ?_) (fun b40 => ?_)
        · have g43 := it_t b40 e42
          refine wss_cons (ws_expr (we_appR (ev_var 3) o31 ?_))
          refine q_tup Wt.s (ea_cons (ev_var 4) (ea_cons (ev_min (ev_var 5) (ev_var 2) T.z_min) ea_nil)) (sz_le (by simp)) fun d47 F48 H49 s50 h51 => ?_
          have n52 := s50.ow o31 n32
          have o53 := s50.h.at o31
          have Wt := Wt.trans s50
          obtain ⟨c54, g43⟩ := chk_e g43
          have p55 := pd_snoc (pd_imp (fun v y h => (mn_rT2 mn_fl mn_fl) _ _ _ v y s50.f h) p34) (show (rT2 (fl sV) (fl V.int)) F48 (V.ref d47) (i15.1, (min i15.2 left_1)) from ⟨_, _, _, rfl, h51, rfl, rfl⟩)
          refine ⟨_, o53, (by rw [p34.length]; exact c54), fun H45 u46 => ?_⟩
          have Wt := Wt.muA z11 n52 o53 u46
          have o56 := u46.at_
          show WSs _ [some (V.ref d1), some (V.int most_), some (V.int left_1), some (V.ref d6), some (V.str (S i15.1)), some (V.int i15.2)] H45 _ _
          refine wss_nil ?_
          cases g43
          exact ⟨F48, _, Wt, s50.f, rfl, o56, p55, n52⟩
        · have g43 := it_f b40 e42
          refine wss_nil ?_
          cases g43
          exact ⟨F27, _, Wt, (Ex.refl _), rfl, o31, p34, n32⟩
      · intro w57 H58 h59
        obtain ⟨F61, ws65, Wt, x62, rfl, o63, p66, n64⟩ := h59
        have g19 : m_L_fitted_k1 left_1 i15 kept_1 = some _ := g19
        unfold m_L_fitted_k1 at g19
        show WSs _ [some (V.ref d1), some (V.int most_), some (V.int left_1), some (V.ref d6), some (V.str (S i15.1)), some (V.int i15.2)] H58 _ _
        obtain ⟨left_2, q67, g19⟩ := lt_x g19
        refine wss_cons (ws_asgP (v := (V.int left_2)) 2 nd (EvV.is (ev_sub (ev_var 2) (ev_var 5)) (congrArg V.int q67.symm)) ?_)
        show WSs _ [some (V.ref d1), some (V.int most_), some (V.int left_2), some (V.ref d6), some (V.str (S i15.1)), some (V.int i15.2)] H58 _ _
        refine wss_nil ?_
        cases g19
        exact ⟨F61, _, _, _, Wt, (x28.trans x62), rfl, o63, p66, n64⟩
    · obtain ⟨left_3, kept_2⟩ := t13
      intro w68 H69 h70
      obtain ⟨F72, q74, q75, ws78, Wt, x73, rfl, o76, p79, n77⟩ := h70
      have hm : m_L_fitted_k3 left_3 kept_2 = some _ := hm
      unfold m_L_fitted_k3 at hm
      show WSs _ [some (V.ref d1), some (V.int most_), some (V.int left_3), some (V.ref d6), q74, q75] H69 _ _
      refine wss_cons (ws_ret ?_)
      refine EvV.p (ev_var 3) ?_
      have HR := Option.some.inj hm
      subst HR
      exact kk _ _ _ Wt ⟨_, _, rfl, z11, n77, o76, p79⟩
def sp_read_number {K : PySem.W.Frag} {mg : Str → Option Value} {base : Heap} (T : Txt K mg base) : Sp := fun vs H Q E => ∃ (F : Hp) (figures_ : (List Nat)) (rr : (Except Nat Int)), vs = [(V.str (S figures_))] ∧ Ex T.tb F H ∧ m_read_number figures_ = some rr ∧ (∀ y, rr = .ok y → ∀ v F' H', Stp T.tb F H F' H' → (fl V.int) F' v y → Q v H') ∧ ∀ i, rr = .error i → ∀ F' H', Stp T.tb F H F' H' → E (.ref (T.C i)) none H'
theorem ok_read_number (T : Txt K mg base) : FnOk P w K mg base (L2.CX P w) 1 T.f_read_number T.d_read_number ["figures"] (sp_read_number T) := by
  refine okE T.F_read_number sc_read_number (fun vs H Q E h => ?_) (fun cdv A outer s H vs Q E hr h tk0 hpo => ?_)
  · obtain ⟨_, _, _, rfl, _⟩ := h
    rfl
  · obtain ⟨F, figures_, rr, rfl, Sx, hm, kk, ke⟩ := h
    have nd := sc_read_number.nd
    have Wt := Stp.refl Sx
    unfold m_read_number at hm
    show WSs _ [some (V.str (S figures_)), none] H _ _
    refine wss_cons (ws_if ?_)
    obtain ⟨t4, e5, hm⟩ := bnd_e hm
    refine EvB.p (EvW.t (ew_orM e5 (ec_eqS (ev_var 0) (ev_str lit_1)).te fun b2 g3 => by
        obtain ⟨c1, g3⟩ := chk_e g3
        cases g3
        exact (ew_or1 (ec_gt (ev_lenS (ev_var 0) (sz_le c1) T.z_len) (ev_globE T.g_MOST_FIGURES)).te))) ?_
    refine ite_of (fun b6 => ?_) (fun b6 => ?_)
    · replace hm := it_t b6 hm
      refine wss_cons (ws_raise tk0 T.x_NoRow ?_)
      have HR := Option.some.inj hm
      exact ke _ HR.symm _ _ Wt
    · replace hm := it_f b6 hm
      refine wss_nil ?_
      show WSs _ [some (V.str (S figures_)), none] H _ _
      obtain ⟨t7, e8, hm⟩ := bnd_e hm
      have r20 : ∀ r, t7 = .rt r → r = rr := fun r h => by
        subst h
        exact Option.some.inj hm
      refine wss_cons (ws_forG (src_S (ev_var 0)) (pg_name (i := 1) nd rfl (by first | exact Or.inl rfl | exact Or.inr rfl)) gname_mono hpo rfl e8 (fun (s : Unit) σx Hx => ∃ Fx qx0, Stp T.tb F H Fx Hx ∧ Ex T.tb F Fx ∧ σx = [some (V.str (S figures_)), qx0]) ?_ ?_ ?_ ?_)
      · exact ⟨F, _, Wt, (Ex.refl _), rfl⟩
      · exact fun _ _ _ _ => trivial
      · rintro i9 ⟨⟩ w16 H17 v10 H18 o15 m19 h11 y12 g13 r14
        obtain ⟨F21, q23, Wt, x22, rfl⟩ := h11
        obtain ⟨rfl, rfl⟩ := y12
        replace g13 : m_read_number_b1  i9 = some _ := g13
        unfold m_read_number_b1 at g13
        show WSs _ [some (V.str (S figures_)), some (V.str (S [i9]))] H17 _ _
        refine wss_cons (ws_if ?_)
        obtain ⟨c24, g13⟩ := chk_e g13
        refine EvB.p (ec_ninS (ev_var 1) (ev_globE T.g_FIGURES) c24).te ?_
        refine ite_of (fun b25 => ?_) (fun b25 => ?_)
        · replace g13 := it_t b25 g13
          refine wss_cons (ws_raise tk0 T.x_NoRow ?_)
          have HR := r20 _ (r14 _ (Option.some.inj g13).symm)
          exact ke _ HR.symm _ _ Wt
        · replace g13 := it_f b25 g13
          refine wss_nil ?_
          show WSs _ [some (V.str (S figures_)), some (V.str (S [i9]))] H17 _ _
          refine wss_nil ?_
          refine ⟨_, (Option.some.inj g13).symm, ?_⟩
          exact ⟨F21, _, Wt, x22, rfl⟩
      · rintro ⟨⟩ w26 H27 e29 h28
        obtain ⟨F30, q32, Wt, x31, rfl⟩ := h28
        rw [e29] at hm
        have hm : m_read_number_k2 figures_  = some _ := hm
        unfold m_read_number_k2 at hm
        show WSs _ [some (V.str (S figures_)), q32] H27 _ _
        refine wss_cons (ws_if ?_)
        obtain ⟨c35, hm⟩ := chk_e hm
        obtain ⟨t33, e34, hm⟩ := bnd_e hm
        refine EvB.p (EvW.t (ew_and (ec_eqS (ev_ixS (ev_var 0) ev_int (sz_le c35) e34) (ev_str lit_2)).te fun _ => (ew_and1 (ec_neS (ev_var 0) (ev_str lit_2)).te))) ?_
        refine ite_of (fun b36 => ?_) (fun b36 => ?_)
        · replace hm := it_t b36 hm
          refine wss_cons (ws_raise tk0 T.x_NoRow ?_)
          have HR := Option.some.inj hm
          exact ke _ HR.symm _ _ Wt
        · replace hm := it_f b36 hm
          refine wss_nil ?_
          show WSs _ [some (V.str (S figures_)), q32] H27 _ _
          refine wss_cons (ws_ret ?_)
          obtain ⟨c39, hm⟩ := chk_e hm
          obtain ⟨t37, e38, hm⟩ := bnd_e hm
          refine EvV.p (ev_intS (ev_var 0) e38 c39 T.z_int) ?_
          have HR := Option.some.inj hm
          exact kk _ HR.symm _ _ _ Wt rfl
def sp_unpacked {K : PySem.W.Frag} {mg : Str → Option Value} {base : Heap} (T : Txt K mg base) : Sp := fun vs H Q E => ∃ (F : Hp) (text_ : (List Nat)) (rr : (Except Nat ((List Nat) × Int))), vs = [(V.str (S text_))] ∧ Ex T.tb F H ∧ m_unpacked text_ = some rr ∧ (∀ y, rr = .ok y → ∀ v F' H', Stp T.tb F H F' H' → (rT2 (fl sV) (fl V.int)) F' v y → Q v H') ∧ ∀ i, rr = .error i → ∀ F' H', Stp T.tb F H F' H' → E (.ref (T.C i)) none H'
theorem ok_unpacked (T : Txt K mg base) : FnOk P w K mg base (L2.CX P w) 2 T.f_unpacked T.d_unpacked ["text"] (sp_unpacked T) := by
  refine okE T.F_unpacked sc_unpacked (fun vs H Q E h => ?_) (fun cdv A outer s H vs Q E hr h tk0 hpo => ?_)
  · obtain ⟨_, _, _, rfl, _⟩ := h
    rfl
  · obtain ⟨F, text_, rr, rfl, Sx, hm, kk, ke⟩ := h
    have nd := sc_unpacked.nd
    have Wt := Stp.refl Sx
    unfold m_unpacked at hm
    show WSs _ [some (V.str (S text_)), none, none, none, none, none, none, none, none, none] H _ _
    refine wss_cons (ws_asgG (pg_tp rfl (pgs_c (pg_name (i := 1) nd rfl (by first | exact Or.inl rfl | exact Or.inr rfl)) (pgs_c (pg_name (i := 2) nd rfl (by first | exact Or.inl rfl | exact Or.inr rfl)) (pgs_c (pg_name (i := 3) nd rfl (by first | exact Or.inl rfl | exact Or.inr rfl)) pgs_nil)))) ?_)
    obtain ⟨c1, hm⟩ := chk_e hm
    refine we_part Wt.s (ev_var 0) (ev_str lit_3) (sz_le c1) fun d2 F3 H4 s5 h6 => ?_
    have Wt := Wt.trans s5
    refine ⟨_, _, rfl, (st_of (Wt.s.at h6)), rfl, ?_⟩
    refine ⟨_, _, rfl, ?_⟩
    refine ⟨_, _, rfl, ?_⟩
    refine ⟨_, _, rfl, ?_⟩
    refine ⟨rfl, ?_⟩
    show WSs _ [some (V.str (S text_)), some (V.str (S (part1 (text_) 32).1)), some (V.str (S (part1 (text_) 32).2.1)), some (V.str (S (part1 (text_) 32).2.2)), none, none, none, none, none, none] H4 _ _
    refine wss_cons (ws_if ?_)
    refine EvB.p (ec_eqS (ev_var 2) (ev_str lit_1)).te ?_
    refine ite_of (fun b7 => ?_) (fun b7 => ?_)
    · replace hm := it_t b7 hm
      refine wss_cons (ws_raise tk0 T.x_NoRow ?_)
      have HR := Option.some.inj hm
      exact ke _ HR.symm _ _ Wt
    · replace hm := it_f b7 hm
      refine wss_nil ?_
      show WSs _ [some (V.str (S text_)), some (V.str (S (part1 (text_) 32).1)), some (V.str (S (part1 (text_) 32).2.1)), some (V.str (S (part1 (text_) 32).2.2)), none, none, none, none, none, none] H4 _ _
      refine wss_cons (ws_asg 4 nd ?_)
      refine we_callX (ok_read_number T) (hr.mono (by decide)) T.m_read_number T.F_read_number.kp T.b_read_number tk0 ?_
      refine EvA.p (ea_cons (ev_var 1) ea_nil) ?_
      refine bndX_c hm (fun ix15 e9 hm => ?_) (fun t8 e9 hm => ?_)
      · refine ⟨_, (part1 (text_) 32).1, .error ix15, rfl, Ex.refl _, e9, fun _ z => (by cases z), fun _ z F16 H17 s18 => ?_⟩
        cases z
        have s18 := Stp.ofH Wt.s s18.h
        have Wt := Wt.trans s18
        have HR := Option.some.inj hm
        exact ke _ HR.symm _ _ Wt
      refine ⟨_, (part1 (text_) 32).1, .ok t8, rfl, Ex.refl _, e9, fun _ z v13 F10 H11 s12 g14 => ?_, fun _ z => (by cases z)⟩
      cases z
      obtain rfl := g14
      have s12 := Stp.ofH Wt.s s12.h
      have Wt := Wt.trans s12
      show WSs _ [some (V.str (S text_)), some (V.str (S (part1 (text_) 32).1)), some (V.str (S (part1 (text_) 32).2.1)), some (V.str (S (part1 (text_) 32).2.2)), some (V.int t8), none, none, none, none, none] H11 _ _
      obtain ⟨letters_, q19, hm⟩ := lt_x hm
      refine wss_cons (ws_asgP (v := (V.str (S letters_))) 5 nd (EvV.is (ev_str lit_1) (congrArg sV q19.symm)) ?_)
      show WSs _ [some (V.str (S text_)), some (V.str (S (part1 (text_) 32).1)), some (V.str (S (part1 (text_) 32).2.1)), some (V.str (S (part1 (text_) 32).2.2)), some (V.int t8), some (V.str (S letters_)), none, none, none, none] H11 _ _
      obtain ⟨place_, q20, hm⟩ := lt_x hm
      refine wss_cons (ws_asgP (v := (V.int place_)) 6 nd (EvV.is ev_int (congrArg V.int q20.symm)) ?_)
      show WSs _ [some (V.str (S text_)), some (V.str (S (part1 (text_) 32).1)), some (V.str (S (part1 (text_) 32).2.1)), some (V.str (S (part1 (text_) 32).2.2)), some (V.int t8), some (V.str (S letters_)), some (V.int place_), none, none, none] H11 _ _
      obtain ⟨t21, e22, hm⟩ := bnd_e hm
      have r30 : ∀ r, t21 = .rt r → r = rr := fun r h => by
        subst h
        exact Option.some.inj hm
      refine wss_cons (ws_whileR hpo e22 (fun (s : (List Nat) × Int) σx Hx => ∃ Fx qx0 qx1 qx2, Stp T.tb F H Fx Hx ∧ Ex T.tb F3 Fx ∧ σx = [some (V.str (S text_)), some (V.str (S (part1 (text_) 32).1)), some (V.str (S (part1 (text_) 32).2.1)), some (V.str (S (part1 (text_) 32).2.2)), some (V.int t8), some (V.str (S (s.1))), some (V.int (s.2)), qx0, qx1, qx2]) ?_ ?_)
      · exact ⟨F3, _, _, _, Wt, (Ex.refl _), rfl⟩
      · rintro ⟨letters_1, place_1⟩ w28 H29 k31 h23 c24
        obtain ⟨F32, q34, q35, q36, Wt, x33, rfl⟩ := h23
        replace c24 : m_unpacked_c1 text_ letters_1 place_1 = some _ := c24
        unfold m_unpacked_c1 at c24
        obtain ⟨c37, c24⟩ := chk_e c24
        refine EvB.p (ec_lt (ev_var 6) (ev_lenS (ev_var 3) (sz_le c37) T.z_len)).te ?_
        refine ⟨Option.some.inj c24, ?_, ?_⟩
        · intro b78 o27 g25 r26
          replace g25 : m_unpacked_b2 text_ letters_1 place_1 = some _ := g25
          unfold m_unpacked_b2 at g25
          show WSs _ [some (V.str (S text_)), some (V.str (S (part1 (text_) 32).1)), some (V.str (S (part1 (text_) 32).2.1)), some (V.str (S (part1 (text_) 32).2.2)), some (V.int t8), some (V.str (S letters_1)), some (V.int place_1), q34, q35, q36] H29 _ _
          obtain ⟨c40, g25⟩ := chk_e g25
          obtain ⟨t38, e39, g25⟩ := bnd_e g25
          obtain ⟨sign_, q41, g25⟩ := lt_x g25
          refine wss_cons (ws_asgP (v := (V.str (S sign_))) 7 nd (EvV.is (ev_ixS (ev_var 3) (ev_var 6) (sz_le c40) e39) (congrArg sV q41.symm)) ?_)
          show WSs _ [some (V.str (S text_)), some (V.str (S (part1 (text_) 32).1)), some (V.str (S (part1 (text_) 32).2.1)), some (V.str (S (part1 (text_) 32).2.2)), some (V.int t8), some (V.str (S letters_1)), some (V.int place_1), some (V.str (S sign_)), q35, q36] H29 _ _
          obtain ⟨end_, q42, g25⟩ := lt_x g25
          refine wss_cons (ws_asgP (v := (V.int end_)) 8 nd (EvV.is (ev_find1 (ev_var 3) (ev_str lit_4) (ev_add (ev_var 6) ev_int)) (congrArg V.int q42.symm)) ?_)
          show WSs _ [some (V.str (S text_)), some (V.str (S (part1 (text_) 32).1)), some (V.str (S (part1 (text_) 32).2.1)), some (V.str (S (part1 (text_) 32).2.2)), some (V.int t8), some (V.str (S letters_1)), some (V.int place_1), some (V.str (S sign_)), some (V.int end_), q36] H29 _ _
          refine wss_cons (ws_if ?_)
          obtain ⟨t46, e47, g25⟩ := bnd_e g25
          refine EvB.p (EvW.t (ew_orM e47 (ec_lt (ev_var 8) ev_int).te fun b44 g45 => by
              obtain ⟨c43, g45⟩ := chk_e g45
              cases g45
              exact (ew_or1 (ec_eqS (ev_var 7) (ev_slS (ev_var 5) (eo_s (ev_neg ev_int)) eo_n (sz_le c43))).te))) ?_
          refine ite_of (fun b48 => ?_) (fun b48 => ?_)
          · replace g25 := it_t b48 g25
            refine wss_cons (ws_raise tk0 T.x_NoRow ?_)
            have HR := r30 _ (r26 _ (Option.some.inj g25).symm)
            exact ke _ HR.symm _ _ Wt
          · replace g25 := it_f b48 g25
            refine wss_nil ?_
            show WSs _ [some (V.str (S text_)), some (V.str (S (part1 (text_) 32).1)), some (V.str (S (part1 (text_) 32).2.1)), some (V.str (S (part1 (text_) 32).2.2)), some (V.int t8), some (V.str (S letters_1)), some (V.int place_1), some (V.str (S sign_)), some (V.int end_), q36] H29 _ _
            refine wss_cons (ws_asg 9 nd ?_)
            refine we_callX (ok_read_number T) (hr.mono (by decide)) T.m_read_number T.F_read_number.kp T.b_read_number tk0 ?_
            obtain ⟨c49, g25⟩ := chk_e g25
            refine EvA.p (ea_cons (ev_slS (ev_var 3) (eo_s (ev_add (ev_var 6) ev_int)) (eo_s (ev_var 8)) (sz_le c49)) ea_nil) ?_
            refine bndX_c g25 (fun ix57 e51 g25 => ?_) (fun t50 e51 g25 => ?_)
            · refine ⟨_, (cut (part1 (text_) 32).2.2 (some (place_1 + (1 : Int))) (some end_)), .error ix57, rfl, Ex.refl _, e51, fun _ z => (by cases z), fun _ z F58 H59 s60 => ?_⟩
              cases z
              have s60 := Stp.ofH Wt.s s60.h
              have Wt := Wt.trans s60
              have HR := r30 _ (r26 _ (Option.some.inj g25).symm)
              exact ke _ HR.symm _ _ Wt
            refine ⟨_, (cut (part1 (text_) 32).2.2 (some (place_1 + (1 : Int))) (some end_)), .ok t50, rfl, Ex.refl _, e51, fun _ z v55 F52 H53 s54 g56 => ?_, fun _ z => (by cases z)⟩
            cases z
            obtain rfl := g56
            have s54 := Stp.ofH Wt.s s54.h
            have Wt := Wt.trans s54
            show WSs _ [some (V.str (S text_)), some (V.str (S (part1 (text_) 32).1)), some (V.str (S (part1 (text_) 32).2.1)), some (V.str (S (part1 (text_) 32).2.2)), some (V.int t8), some (V.str (S letters_1)), some (V.int place_1), some (V.str (S sign_)), some (V.int end_), some (V.int t50)] H53 _ _
            refine wss_cons (ws_if ?_)
            obtain ⟨t64, e65, g25⟩ := bnd_e g25
            refine EvB.p (EvW.t (ew_orM e65 (ec_eqI (ev_var 9) ev_int).te fun b62 g63 => by
                obtain ⟨c61, g63⟩ := chk_e g63
                cases g63
                exact (ew_or1 (ec_gt (ev_add (ev_lenS (ev_var 5) (sz_le c61) T.z_len) (ev_var 9)) (ev_globE T.g_MOST_LETTERS)).te))) ?_
            refine ite_of (fun b66 => ?_) (fun b66 => ?_)
            · replace g25 := it_t b66 g25
              refine wss_cons (ws_raise tk0 T.x_NoRow ?_)
              have HR := r30 _ (r26 _ (Option.some.inj g25).symm)
              exact ke _ HR.symm _ _ Wt
            · replace g25 := it_f b66 g25
              refine wss_nil ?_
              show WSs _ [some (V.str (S text_)), some (V.str (S (part1 (text_) 32).1)), some (V.str (S (part1 (text_) 32).2.1)), some (V.str (S (part1 (text_) 32).2.2)), some (V.int t8), some (V.str (S letters_1)), some (V.int place_1), some (V.str (S sign_)), some (V.int end_), some (V.int t50)] H53 _ _
              obtain ⟨c67, g25⟩ := chk_e g25
              obtain ⟨c68, g25⟩ := chk_e g25
              obtain ⟨letters_2, q69, g25⟩ := lt_x g25
              refine wss_cons (ws_asgP (v := (V.str (S letters_2))) 5 nd (EvV.is (ev_cat (ev_var 5) (ev_tms (ev_var 7) (ev_var 9) c67) (sz_le c68)) (congrArg sV q69.symm)) ?_)
              show WSs _ [some (V.str (S text_)), some (V.str (S (part1 (text_) 32).1)), some (V.str (S (part1 (text_) 32).2.1)), some (V.str (S (part1 (text_) 32).2.2)), some (V.int t8), some (V.str (S letters_2)), some (V.int place_1), some (V.str (S sign_)), some (V.int end_), some (V.int t50)] H53 _ _
              obtain ⟨place_2, q70, g25⟩ := lt_x g25
              refine wss_cons (ws_asgP (v := (V.int place_2)) 6 nd (EvV.is (ev_add (ev_var 8) ev_int) (congrArg V.int q70.symm)) ?_)
              show WSs _ [some (V.str (S text_)), some (V.str (S (part1 (text_) 32).1)), some (V.str (S (part1 (text_) 32).2.1)), some (V.str (S (part1 (text_) 32).2.2)), some (V.int t8), some (V.str (S letters_2)), some (V.int place_2), some (V.str (S sign_)), some (V.int end_), some (V.int t50)] H53 _ _
              refine wss_nil ?_
              refine ⟨_, (Option.some.inj g25).symm, ?_⟩
              exact ⟨F32, _, _, _, Wt, x33, rfl⟩
        · intro b78 e80
          rw [e80] at hm
          have hm : m_unpacked_k3 t8 letters_1 place_1 = some _ := hm
          unfold m_unpacked_k3 at hm
          show WSs _ [some (V.str (S text_)), some (V.str (S (part1 (text_) 32).1)), some (V.str (S (part1 (text_) 32).2.1)), some (V.str (S (part1 (text_) 32).2.2)), some (V.int t8), some (V.str (S letters_1)), some (V.int place_1), q34, q35, q36] H29 _ _
          refine wss_cons (ws_if ?_)
          obtain ⟨c71, hm⟩ := chk_e hm
          refine EvB.p (ec_gt (ev_var 4) (ev_lenS (ev_var 5) (sz_le c71) T.z_len)).te ?_
          refine ite_of (fun b72 => ?_) (fun b72 => ?_)
          · replace hm := it_t b72 hm
            refine wss_cons (ws_raise tk0 T.x_NoRow ?_)
            have HR := Option.some.inj hm
            exact ke _ HR.symm _ _ Wt
          · replace hm := it_f b72 hm
            refine wss_nil ?_
            show WSs _ [some (V.str (S text_)), some (V.str (S (part1 (text_) 32).1)), some (V.str (S (part1 (text_) 32).2.1)), some (V.str (S (part1 (text_) 32).2.2)), some (V.int t8), some (V.str (S letters_1)), some (V.int place_1), q34, q35, q36] H29 _ _
            refine wss_cons (ws_ret ?_)
            refine q_tup Wt.s (ea_cons (ev_var 5) (ea_cons (ev_var 4) ea_nil)) (sz_le (by simp)) fun d73 F74 H75 s76 h77 => ?_
            have Wt := Wt.trans s76
            have HR := Option.some.inj hm
            exact kk _ HR.symm _ _ _ Wt ⟨_, _, _, rfl, h77, rfl, rfl⟩
def sp_L_refused {K : PySem.W.Frag} {mg : Str → Option Value} {base : Heap} (T : Txt K mg base) : Sp := fun vs H Q _ => ∃ (text_ : (List Nat)) (rr : Bool), vs = [(V.str (S text_))] ∧ m_L_refused text_ = some rr ∧ ∀ H', Ex T.tb H H' → Q (V.bl rr) H'
theorem ok_L_refused (T : Txt K mg base) : FnOk P w K mg base CX0 3 T.f_L_refused T.d_L_refused ["_law_text"] (sp_L_refused T) := by
  refine okW T.F_L_refused sc_L_refused (fun vs H Q E h => ?_) (fun cdv A outer s H vs Q E hr h => ?_)
  · obtain ⟨_, _, rfl, _⟩ := h
    rfl
  · obtain ⟨text_, rr, rfl, hm, kk⟩ := h
    have nd := sc_L_refused.nd
    have Wt := Stp.refl (Ex.refl (tb := T.tb) H)
    unfold m_L_refused at hm
    show WSs _ [some (V.str (S text_)), none] H _ _
    refine wss_cons (ws_try_as 1 nd (names_own T.x_BackError.g) ?_ takes0)
    intro pn3 xe4 k1 p2
    refine wss_cons (ws_expr ?_)
    refine we_callX (ok_unpacked T) (hr.mono (by decide)) T.m_unpacked T.F_unpacked.kp T.b_unpacked k1 ?_
    refine EvA.p (ea_cons (ev_var 0) ea_nil) ?_
    refine bndX_c hm (fun ix12 e6 hm => ?_) (fun t5 e6 hm => ?_)
    · refine ⟨_, text_, .error ix12, rfl, Wt.s, e6, fun _ z => (by cases z), fun _ z F13 H14 s15 => ?_⟩
      cases z
      have Wt := Wt.trans s15
      obtain ⟨hx16, hm⟩ := chk_e hm
      refine ⟨_, T.exm_0 _ hx16, fun b17 a18 na19 oe20 pn21 hz22 hf23 => ?_, fun b17 => ?_⟩
      · replace hm := it_t b17 hm
        show WSs _ [some (V.str (S text_)), some (V.ref a18)] H14 _ _
        refine wss_cons (ws_ret ?_)
        obtain ⟨t24, e25, hm⟩ := bnd_e hm
        refine WE.mono (Q := fun k H1 => k = .bl t24 ∧ ∃ F1, Stp T.tb F13 H14 F1 H1) ?_ ?_
        · have U26 := Stp.refl Wt.s
          refine we_and ?_
          refine EvV.p (ev_isE (T.xc _ hx16) hz22 hf23 (ev_var 1) T.z_isinstance T.x_NoRow.g (T.kit_3 _ hx16)) ?_
          refine ⟨_, rfl, ?_⟩
          refine ite_of (fun b31 => ?_) (fun b31 => ?_)
          · replace e25 := it_t b31 e25
            refine we_and ?_
            refine EvV.p (ev_isEB (T.xc _ hx16) hz22 hf23 (ev_var 1) T.z_isinstance T.z_ValueError (by decide +kernel) (T.kitV _ hx16)) ?_
            refine ⟨_, rfl, ?_⟩
            refine ite_of (fun b30 => ?_) (fun b30 => ?_)
            · replace e25 := it_t b30 e25
              refine we_and1 ?_
              refine we_not ?_
              refine we_isET (T.xc _ hx16) hz22 hf23 Wt.s (ev_var 1) T.z_isinstance (ea_cons (ev_glob (v := .ref (T.C 1)) T.x_NoText.g rfl) (ea_cons (ev_glob (v := .ref (T.C 2)) T.x_NoName.g rfl) ea_nil)) (sz_le (by simp)) (kit2 (T.kit_1 _ hx16) (T.kit_2 _ hx16)) fun F27 H28 s29 => ?_
              have Wt := Wt.trans s29
              have U26 := U26.trans s29
              refine ⟨_, rfl, ?_⟩
              cases e25
              exact ⟨rfl, _, U26⟩
            · replace e25 := it_f b30 e25
              cases e25
              exact ⟨rfl, _, U26⟩
          · replace e25 := it_f b31 e25
            cases e25
            exact ⟨rfl, _, U26⟩
        rintro _ H33 ⟨rfl, F32, s34⟩
        have Wt := Wt.trans s34
        have HR := Option.some.inj hm
        exact fin1 (f := V.bl) kk HR Wt.h
      · replace hm := it_f b17 hm
        cases hm
    refine ⟨_, text_, .ok t5, rfl, Wt.s, e6, fun _ z v10 F7 H8 s9 g11 => ?_, fun _ z => (by cases z)⟩
    cases z
    obtain ⟨d35, v37, v38, rfl, h36, rfl, rfl⟩ := g11
    have Wt := Wt.trans s9
    show WSs _ [some (V.str (S text_)), none] H8 _ _
    refine wss_nil ?_
    show WSs _ [some (V.str (S text_)), none] H8 _ _
    refine wss_cons (ws_ret ?_)
    refine EvV.p ev_bl ?_
    have HR := Option.some.inj hm
    exact fin1 (f := V.bl) kk HR Wt.h
def sp_L_sign {K : PySem.W.Frag} {mg : Str → Option Value} {base : Heap} (T : Txt K mg base) : Sp := fun vs H Q _ => ∃ (number_here_ : Int) (rr : (List Nat)), vs = [(V.int number_here_)] ∧ m_L_sign number_here_ = some rr ∧ ∀ H', Ex T.tb H H' → Q (sV rr) H'
theorem ok_L_sign (T : Txt K mg base) : FnOk P w K mg base CX0 1 T.f_L_sign T.d_L_sign ["_law_number_here"] (sp_L_sign T) := by
  refine okW T.F_L_sign sc_L_sign (fun vs H Q E h => ?_) (fun cdv A outer s H vs Q E hr h => ?_)
  · obtain ⟨_, _, rfl, _⟩ := h
    rfl
  · obtain ⟨number_here_, rr, rfl, hm, kk⟩ := h
    have nd := sc_L_sign.nd
    have Wt := Stp.refl (Ex.refl (tb := T.tb) H)
    unfold m_L_sign at hm
    show WSs _ [some (V.int number_here_), none] H _ _
    obtain ⟨some_, q1, hm⟩ := lt_x hm
    refine wss_cons (ws_asgP (v := (V.str (S some_))) 1 nd (EvV.is (ev_str lit_5) (congrArg sV q1.symm)) ?_)
    show WSs _ [some (V.int number_here_), some (V.str (S some_))] H _ _
    obtain ⟨c2, hm⟩ := chk_e hm
    obtain ⟨some_1, q3, hm⟩ := lt_x hm
    refine wss_cons (ws_asgP (v := (V.str (S some_1))) 1 nd (EvV.is (ev_cat (ev_var 1) (ev_str lit_6) (sz_le c2)) (congrArg sV q3.symm)) ?_)
    show WSs _ [some (V.int number_here_), some (V.str (S some_1))] H _ _
    refine wss_cons (ws_ret ?_)
    obtain ⟨c6, hm⟩ := chk_e hm
    obtain ⟨t4, e5, hm⟩ := bnd_e hm
    refine EvV.p (ev_ixS (ev_var 1) (ev_mod (ev_var 0) ev_int (by decide)) (sz_le c6) e5) ?_
    have HR := Option.some.inj hm
    exact fin1 (f := sV) kk HR Wt.h
def sp_L_stream {K : PySem.W.Frag} {mg : Str → Option Value} {base : Heap} (T : Txt K mg base) : Sp := fun vs H Q _ => ∃ (F : Hp) (seed_ : Int) (many_ : Int) (rr : (List Int)), vs = [(V.int seed_), (V.int many_)] ∧ Ex T.tb F H ∧ m_L_stream seed_ many_ = some rr ∧ ∀ v F' H', Stp T.tb F H F' H' → (nLf V.int) H F' H' v rr → Q v H'
theorem ok_L_stream (T : Txt K mg base) : FnOk P w K mg base CX0 1 T.f_L_stream T.d_L_stream ["_law_seed", "_law_many"] (sp_L_stream T) := by
  refine okW T.F_L_stream sc_L_stream (fun vs H Q E h => ?_) (fun cdv A outer s H vs Q E hr h => ?_)
  · obtain ⟨_, _, _, _, rfl, _⟩ := h
    rfl
  · obtain ⟨F, seed_, many_, rr, rfl, Sx, hm, kk⟩ := h
    have nd := sc_L_stream.nd
    have Wt := Stp.refl Sx
    unfold m_L_stream at hm
    show WSs _ [some (V.int seed_), some (V.int many_), none, none, none] H _ _
    obtain ⟨number_here_, q1, hm⟩ := lt_x hm
    refine wss_cons (ws_asgP (v := (V.int number_here_)) 2 nd (EvV.is (ev_add ev_int (ev_mod (ev_var 0) ev_int (by decide))) (congrArg V.int q1.symm)) ?_)
    show WSs _ [some (V.int seed_), some (V.int many_), some (V.int number_here_), none, none] H _ _
    refine wss_cons (ws_asg 3 nd ?_)
    refine q_lsto (xs := List.map V.int ([] : List Int)) Wt.s ea_nil (sz_le (by simp)) fun d2 H3 s4 n5 o6 => ?_
    have z7 := Wt.h.free n5
    have n8 := Wt.s.free n5
    have Wt := Wt.trans s4
    show WSs _ [some (V.int seed_), some (V.int many_), some (V.int number_here_), some (V.ref d2), none] H3 _ _
    obtain ⟨c9, hm⟩ := chk_e hm
    obtain ⟨t10, e11, hm⟩ := bnd_e hm
    refine wss_cons (ws_forGS (src_R1 (ev_add (ev_var 1) ev_int) c9 T.z_range) (pg_name (i := 4) nd rfl (by first | exact Or.inl rfl | exact Or.inr rfl)) gname_mono PassesOwn.never rfl e11 (fun (s : Int × (List Int)) σx Hx => ∃ Fx qx0, Stp T.tb F H Fx Hx ∧ Ex T.tb F Fx ∧ σx = [some (V.int seed_), some (V.int many_), some (V.int (s.1)), some (V.ref d2), qx0] ∧ Hx d2 = some (.lst (List.map V.int (s.2))) ∧ Fx d2 = none) ?_ ?_ ?_ ?_)
    · exact ⟨F, _, Wt, (Ex.refl _), rfl, o6, n8⟩
    · exact fun _ _ _ _ => trivial
    · rintro i12 ⟨number_here_1, some_⟩ w19 H20 v13 H21 o18 m22 h14 y15 g16
      obtain ⟨F24, q26, Wt, x25, rfl, o27, n28⟩ := h14
      obtain ⟨rfl, rfl⟩ := y15
      replace g16 : m_L_stream_b1 number_here_1 some_ i12 = some _ := g16
      unfold m_L_stream_b1 at g16
      show WSs _ [some (V.int seed_), some (V.int many_), some (V.int number_here_1), some (V.ref d2), some (V.int i12)] H20 _ _
      obtain ⟨number_here_2, q29, g16⟩ := lt_x g16
      refine wss_cons (ws_asgP (v := (V.int number_here_2)) 2 nd (EvV.is (ev_mod (ev_mul (ev_var 2) ev_int (.inr (by decide))) ev_int (by decide)) (congrArg V.int q29.symm)) ?_)
      show WSs _ [some (V.int seed_), some (V.int many_), some (V.int number_here_2), some (V.ref d2), some (V.int i12)] H20 _ _
      refine wss_cons (ws_expr (we_appF (f := V.int) (ev_var 3) o27 ?_))
      refine EvV.p (ev_div (ev_var 2) ev_int (show CDiv _ (16) from ⟨by decide, by decide⟩)) ?_
      obtain ⟨c32, g16⟩ := chk_e g16
      refine ⟨(number_here_2 / (16 : Int)), _, rfl, o27, c32, fun H30 u31 => ?_⟩
      have Wt := Wt.muA z7 n28 o27 u31
      have o33 := u31.at_
      show WSs _ [some (V.int seed_), some (V.int many_), some (V.int number_here_2), some (V.ref d2), some (V.int i12)] H30 _ _
      refine wss_nil ?_
      cases g16
      exact ⟨F24, _, Wt, x25, rfl, o33, n28⟩
    · obtain ⟨number_here_3, some_1⟩ := t10
      intro w34 H35 h36
      obtain ⟨F38, q40, Wt, x39, rfl, o41, n42⟩ := h36
      have hm : m_L_stream_k2 number_here_3 some_1 = some _ := hm
      unfold m_L_stream_k2 at hm
      show WSs _ [some (V.int seed_), some (V.int many_), some (V.int number_here_3), some (V.ref d2), q40] H35 _ _
      refine wss_cons (ws_ret ?_)
      refine q_slLo Wt.s (ev_var 3) (eo_s ev_int) eo_n (sq_of o41) fun d43 H44 s45 n46 o47 => ?_
      rw [cutV_map] at o47
      have z48 := Wt.h.free n46
      have n49 := Wt.s.free n46
      have n50 := s45.ow o41 n42
      have o51 := s45.h.at o41
      have Wt := Wt.trans s45
      have d52 := ne_new o41 n46
      have HR := Option.some.inj hm
      subst HR
      exact kk _ _ _ Wt ⟨_, rfl, z48, n49, o47⟩
def sp_L_runs_by {K : PySem.W.Frag} {mg : Str → Option Value} {base : Heap} (T : Txt K mg base) : Sp := fun vs H Q _ => ∃ (F : Hp) (w0 : V) (script_ : (List Int)) (cell_ : Int) (rr : (List ((List Nat) × Int))), vs = [w0, (V.int cell_)] ∧ Ex T.tb F H ∧ (rScr K) F w0 script_ ∧ m_L_runs_by script_ cell_ = some rr ∧ ∀ v F' H', Stp T.tb F H F' H' → (nL (rT2 (fl sV) (fl V.int))) H F' H' v rr → Q v H'
theorem ok_L_runs_by (T : Txt K mg base) : FnOk P w K mg base CX0 2 T.f_L_runs_by T.d_L_runs_by ["_law_script", "_law_cell"] (sp_L_runs_by T) := by
  refine okW T.F_L_runs_by sc_L_runs_by (fun vs H Q E h => ?_) (fun cdv A outer s H vs Q E hr h => ?_)
  · obtain ⟨_, _, _, _, _, rfl, _⟩ := h
    rfl
  · obtain ⟨F, w0, script_, cell_, rr, rfl, Sx, ⟨d2, rfl, h3⟩, hm, kk⟩ := h
    have nd := sc_L_runs_by.nd
    have Wt := Stp.refl Sx
    unfold m_L_runs_by at hm
    show WSs _ [some (V.ref d2), some (V.int cell_), none, none, none, none, none, none, none] H _ _
    refine wss_cons (ws_asg 2 nd ?_)
    refine we_call (ok_L_stream T) (hr.mono (by decide)) T.m_L_stream T.F_L_stream.kp T.b_L_stream .nil pass0 ?_
    refine EvA.p (ea_cons (ev_var 1) (ea_cons ev_int ea_nil)) ?_
    obtain ⟨t4, e5, hm⟩ := bnd_e hm
    refine ⟨_, cell_, (30 : Int), t4, rfl, Ex.refl _, e5, fun v9 F8 H6 s7 g10 => ?_⟩
    obtain ⟨d11, rfl, n12, _, o14⟩ := g10
    have z15 := Wt.h.free n12
    have n13 := Wt.s.free n12
    have s7 := Stp.ofH Wt.s s7.h
    have Wt := Wt.trans s7
    show WSs _ [some (V.ref d2), some (V.int cell_), some (V.ref d11), none, none, none, none, none, none] H6 _ _
    refine wss_cons (ws_asg 3 nd ?_)
    refine q_lsto Wt.s (xs := []) ea_nil (sz_le (by decide)) fun d16 H17 s18 n19 o20 => ?_
    have z21 := Wt.h.free n19
    have n22 := Wt.s.free n19
    have n23 := s18.ow o14 n13
    have o24 := s18.h.at o14
    have Wt := Wt.trans s18
    have d25 := ne_new o14 n19
    show WSs _ [some (V.ref d2), some (V.int cell_), some (V.ref d11), some (V.ref d16), none, none, none, none, none] H17 _ _
    refine wss_cons (ws_asg 4 nd ?_)
    refine q_tix Wt.s (ea_ints (is := [2, 3, 94, 20]) rfl) (sz_le (by decide)) rfl fun d26 F27 H28 s29 h30 => ?_
    have n31 := s29.ow o24 n23
    have o32 := s29.h.at o24
    have n33 := s29.ow o20 n22
    have o34 := s29.h.at o20
    have Wt := Wt.trans s29
    have U35 := Stp.refl Wt.s
    obtain ⟨t36, e37, hm⟩ := bnd_e hm
    refine EvV.p (ev_mod (ev_ixL (ev_var 2) ev_int (sq_of o32) (atI_map e37)) ev_int (by decide)) ?_
    obtain ⟨t38, e39, hm⟩ := bnd_e hm
    refine ⟨_, _, rfl, U35, _, atI_map (f := V.int) e39, ?_⟩
    show WSs _ [some (V.ref d2), some (V.int cell_), some (V.ref d11), some (V.ref d16), some (V.int t38), none, none, none, none] H28 _ _
    refine wss_cons (ws_asg 5 nd ?_)
    refine we_op2 op_cat ?_
    obtain ⟨t40, e41, hm⟩ := bnd_e hm
    refine q_slLo Wt.s (ev_var 0) (eo_s ev_int) (eo_s (ev_add ev_int (ev_mod (ev_ixL (ev_var 2) ev_int (sq_of o32) (atI_map e41)) ev_int (by decide)))) (ex_l Wt.s (ex_l s29.f h3)) fun d42 H43 s44 n45 o46 => ?_
    rw [cutV_map] at o46
    have z47 := Wt.h.free n45
    have n48 := Wt.s.free n45
    have n49 := s44.ow o32 n31
    have o50 := s44.h.at o32
    have n51 := s44.ow o34 n33
    have o52 := s44.h.at o34
    have Wt := Wt.trans s44
    have d53 := ne_new o32 n45
    have d54 := ne_new o34 n45
    refine we_call (ok_L_stream T) (hr.mono (by decide)) T.m_L_stream T.F_L_stream.kp T.b_L_stream .nil pass0 ?_
    refine EvA.p (ea_cons (ev_add (ev_var 1) ev_int) (ea_cons ev_int ea_nil)) ?_
    obtain ⟨t55, e56, hm⟩ := bnd_e hm
    refine ⟨_, (cell_ + (3 : Int)), (24 : Int), t55, rfl, Ex.refl _, e56, fun v60 F59 H57 s58 g61 => ?_⟩
    obtain ⟨d62, rfl, n63, _, o65⟩ := g61
    have z66 := Wt.h.free n63
    have n64 := Wt.s.free n63
    have s58 := Stp.ofH Wt.s s58.h
    have n67 := s58.ow o50 n49
    have o68 := s58.h.at o50
    have n69 := s58.ow o52 n51
    have o70 := s58.h.at o52
    have n71 := s58.ow o46 n48
    have o72 := s58.h.at o46
    have Wt := Wt.trans s58
    have d73 := ne_new o50 n63
    have d74 := ne_new o52 n63
    have d75 := ne_new o46 n63
    obtain ⟨c76, hm⟩ := chk_e hm
    refine fin_lcat (f := V.int) Wt.s o72 o65 c76 fun d77 H78 s79 n80 o81 => ?_
    have z82 := Wt.h.free n80
    have n83 := Wt.s.free n80
    have n84 := s79.ow o68 n67
    have o85 := s79.h.at o68
    have n86 := s79.ow o70 n69
    have o87 := s79.h.at o70
    have n88 := s79.ow o72 n71
    have o89 := s79.h.at o72
    have n90 := s79.ow o65 n64
    have o91 := s79.h.at o65
    have Wt := Wt.trans s79
    have d92 := ne_new o68 n80
    have d93 := ne_new o70 n80
    have d94 := ne_new o72 n80
    have d95 := ne_new o65 n80
    show WSs _ [some (V.ref d2), some (V.int cell_), some (V.ref d11), some (V.ref d16), some (V.int t38), some (V.ref d77), none, none, none] H78 _ _
    obtain ⟨t96, e97, hm⟩ := bnd_e hm
    obtain ⟨c98, hm⟩ := chk_e hm
    obtain ⟨runs_1, e100, hm⟩ := bnd_e hm
    refine wss_cons (ws_forGS (src_R1 (ev_mod (ev_ixL (ev_var 2) ev_int (sq_of o85) (atI_map e97)) ev_int (by decide)) c98 T.z_range) (pg_name (i := 6) nd rfl (by first | exact Or.inl rfl | exact Or.inr rfl)) gname_mono PassesOwn.never rfl e100 (fun (s : (List ((List Nat) × Int))) σx Hx => ∃ Fx qx0 qx1 qx2 wy3, Stp T.tb F H Fx Hx ∧ Ex T.tb F27 Fx ∧ σx = [some (V.ref d2), some (V.int cell_), some (V.ref d11), some (V.ref d16), some (V.int t38), some (V.ref d77), qx0, qx1, qx2] ∧ Hx d11 = some (.lst (List.map V.int t4)) ∧ Fx d11 = none ∧ Hx d16 = some (.lst wy3) ∧ Paired ((rT2 (fl sV) (fl V.int)) Fx) wy3 (s) ∧ Fx d16 = none ∧ Hx d42 = some (.lst (List.map V.int (cut script_ (some (6 : Int)) (some ((6 : Int) + (t40 % (25 : Int))))))) ∧ Fx d42 = none ∧ Hx d62 = some (.lst (List.map V.int t55)) ∧ Fx d62 = none ∧ Hx d77 = some (.lst (List.map V.int ((cut script_ (some (6 : Int)) (some ((6 : Int) + (t40 % (25 : Int))))) ++ t55))) ∧ Fx d77 = none) ?_ ?_ ?_ ?_)
    · exact ⟨F27, _, _, _, _, Wt, (Ex.refl _), rfl, o85, n84, o87, (pd_imp (fun v y h => (mn_rT2 mn_fl mn_fl) _ _ _ v y s29.f h) (Paired.nil : Paired ((rT2 (fl sV) (fl V.int)) F) [] ([] : List ((List Nat) × Int)))), n86, o89, n88, o91, n90, o81, n83⟩
    · exact fun _ _ _ _ => trivial
    · rintro i101 runs_ w108 H109 v102 H110 o107 m111 h103 y104 g105
      obtain ⟨F113, q115, q116, q117, ws122, Wt, x114, rfl, o118, n119, o120, p123, n121, o124, n125, o126, n127, o128, n129⟩ := h103
      obtain ⟨rfl, rfl⟩ := y104
      replace g105 : m_L_runs_by_b2 script_ t4 t38 t40 t55 runs_ i101 = some _ := g105
      unfold m_L_runs_by_b2 at g105
      show WSs _ [some (V.ref d2), some (V.int cell_), some (V.ref d11), some (V.ref d16), some (V.int t38), some (V.ref d77), some (V.int i101), q116, q117] H109 _ _
      refine wss_cons (ws_asg 7 nd ?_)
      refine we_call (ok_L_sign T) (hr.mono (by decide)) T.m_L_sign T.F_L_sign.kp T.b_L_sign .nil pass0 ?_
      obtain ⟨t130, e131, g105⟩ := bnd_e g105
      obtain ⟨t132, e133, g105⟩ := bnd_e g105
      obtain ⟨c134, g105⟩ := chk_e g105
      refine EvA.p (ea_cons (ev_add (ev_ixL (ev_var 2) ev_int (sq_of o118) (atI_map e131)) (ev_mod (ev_ixL (ev_var 5) (ev_var 6) (sq_of o128) (atI_map e133)) (ev_var 4) c134)) ea_nil) ?_
      obtain ⟨t135, e136, g105⟩ := bnd_e g105
      refine ⟨(t130 + (t132 % t38)), t135, rfl, e136, fun H137 x139 => ?_⟩
      have s138 := Stp.ofH Wt.s x139
      have n140 := s138.ow o118 n119
      have o141 := s138.h.at o118
      have n142 := s138.ow o120 n121
      have o143 := s138.h.at o120
      have n144 := s138.ow o124 n125
      have o145 := s138.h.at o124
      have n146 := s138.ow o126 n127
      have o147 := s138.h.at o126
      have n148 := s138.ow o128 n129
      have o149 := s138.h.at o128
      have Wt := Wt.trans s138
      show WSs _ [some (V.ref d2), some (V.int cell_), some (V.ref d11), some (V.ref d16), some (V.int t38), some (V.ref d77), some (V.int i101), some (V.str (S t135)), q117] H137 _ _
      obtain ⟨t150, e151, g105⟩ := bnd_e g105
      obtain ⟨many_, q152, g105⟩ := lt_x g105
      refine wss_cons (ws_asgP (v := (V.int many_)) 8 nd (EvV.is (ev_add ev_int (ev_mod (ev_div (ev_ixL (ev_var 5) (ev_var 6) (sq_of o149) (atI_map e151)) ev_int (show CDiv _ (94) from ⟨by decide, by decide⟩)) ev_int (by decide))) (congrArg V.int q152.symm)) ?_)
      show WSs _ [some (V.ref d2), some (V.int cell_), some (V.ref d11), some (V.ref d16), some (V.int t38), some (V.ref d77), some (V.int i101), some (V.str (S t135)), some (V.int many_)] H137 _ _
      refine wss_ifcut ?_
      obtain ⟨t153, e154, g105⟩ := bnd_e g105
      obtain ⟨t159, e160, g105⟩ := bnd_e g105
      refine EvB.p (EvW.t (ew_andM e160 (ec_eqI (ev_mod (ev_ixL (ev_var 2) ev_int (sq_of o141) (atI_map e154)) ev_int (by decide)) ev_int).te fun b157 g158 => by
          obtain ⟨t155, e156, g158⟩ := bnd_e g158
          cases g158
          exact (ew_and1 (ec_eqI (ev_mod (ev_ixL (ev_var 2) (ev_add ev_int (ev_var 6)) (sq_of o141) (atI_map e156)) ev_int (by decide)) ev_int).te))) ?_
      obtain ⟨many_2, e163, g105⟩ := bnd_e g105
      refine ⟨fun σx Hx => ∃ Fx, Stp T.tb F H Fx Hx ∧ Ex T.tb F113 Fx ∧ σx = [some (V.ref d2), some (V.int cell_), some (V.ref d11), some (V.ref d16), some (V.int t38), some (V.ref d77), some (V.int i101), some (V.str (S t135)), some (V.int (many_2))] ∧ Hx d11 = some (.lst (List.map V.int t4)) ∧ Fx d11 = none ∧ Hx d16 = some (.lst ws122) ∧ Fx d16 = none ∧ Hx d42 = some (.lst (List.map V.int (cut script_ (some (6 : Int)) (some ((6 : Int) + (t40 % (25 : Int))))))) ∧ Fx d42 = none ∧ Hx d62 = some (.lst (List.map V.int t55)) ∧ Fx d62 = none ∧ Hx d77 = some (.lst (List.map V.int ((cut script_ (some (6 : Int)) (some ((6 : Int) + (t40 % (25 : Int))))) ++ t55))) ∧ Fx d77 = none, ?_, ?_⟩
      · refine ite_of (fun b161 => ?_) (fun b161 => ?_)
        · have g164 := it_t b161 e163
          obtain ⟨t166, e167, g164⟩ := bnd_e g164
          obtain ⟨many_1, q168, g164⟩ := lt_x g164
          refine wss_cons (ws_asgP (v := (V.int many_1)) 8 nd (EvV.is (ev_add ev_int (ev_mod (ev_div (ev_ixL (ev_var 2) (ev_add ev_int (ev_var 6)) (sq_of o141) (atI_map e167)) ev_int (show CDiv _ (5) from ⟨by decide, by decide⟩)) ev_int (by decide))) (congrArg V.int q168.symm)) ?_)
          show WSs _ [some (V.ref d2), some (V.int cell_), some (V.ref d11), some (V.ref d16), some (V.int t38), some (V.ref d77), some (V.int i101), some (V.str (S t135)), some (V.int many_1)] H137 _ _
          refine wss_nil ?_
          cases g164
          exact ⟨F113, Wt, (Ex.refl _), rfl, o141, n140, o143, n142, o145, n144, o147, n146, o149, n148⟩
        · have g164 := it_f b161 e163
          refine wss_nil ?_
          cases g164
          exact ⟨F113, Wt, (Ex.refl _), rfl, o141, n140, o143, n142, o145, n144, o147, n146, o149, n148⟩
      · intro w169 H170 h171
        obtain ⟨F173, Wt, x174, rfl, o175, n176, o177, n178, o179, n180, o181, n182, o183, n184⟩ := h171
        have g105 : m_L_runs_by_k1 runs_ t135 many_2 = some _ := g105
        unfold m_L_runs_by_k1 at g105
        show WSs _ [some (V.ref d2), some (V.int cell_), some (V.ref d11), some (V.ref d16), some (V.int t38), some (V.ref d77), some (V.int i101), some (V.str (S t135)), some (V.int many_2)] H170 _ _
        refine wss_cons (ws_if ?_)
        obtain ⟨t185, e186, g105⟩ := bnd_e g105
        refine WT.mono (Q := fun k H1 => k = t185 ∧ ∃ F1, Stp T.tb F173 H170 F1 H1) (WW.t ?_) ?_
        · have U187 := Stp.refl Wt.s
          refine ww_or ?_
          refine wt_cmp2 (op_eqD hr.units) (nomark _) ?_
          refine EvV.p (ev_var 3) ?_
          refine q_lsto Wt.s (xs := []) ea_nil (sz_le (by decide)) fun d188 H189 s190 n191 o192 => ?_
          have z193 := Wt.h.free n191
          have n194 := Wt.s.free n191
          have n195 := s190.ow o175 n176
          have o196 := s190.h.at o175
          have n197 := s190.ow o177 n178
          have o198 := s190.h.at o177
          have n199 := s190.ow o179 n180
          have o200 := s190.h.at o179
          have n201 := s190.ow o181 n182
          have o202 := s190.h.at o181
          have n203 := s190.ow o183 n184
          have o204 := s190.h.at o183
          have Wt := Wt.trans s190
          have U187 := U187.trans s190
          have d205 := ne_new o175 n191
          have d206 := ne_new o177 n191
          have d207 := ne_new o179 n191
          have d208 := ne_new o181 n191
          have d209 := ne_new o183 n191
          obtain ⟨c210, e186⟩ := chk_e e186
          obtain ⟨c211, e186⟩ := chk_e e186
          refine fin_eqD ⟨_, _, rfl, o198, (pd_imp (fun v y h => (mn_rT2 mn_fl mn_fl) _ _ _ v y Wt.s h) (pd_imp (fun v y h => (mn_rT2 mn_fl mn_fl) _ _ _ v y x174 h) p123))⟩ ⟨_, _, rfl, o192, (pd_imp (fun v y h => (mn_rT2 mn_fl mn_fl) _ _ _ v y Wt.s h) (Paired.nil : Paired ((rT2 (fl sV) (fl V.int)) F173) [] ([] : List ((List Nat) × Int))))⟩ (dp_L (dp_2 dp_S dp_I)) (en_L (en_2 en_S en_I)) c210 c211 (by decide) ?_
          refine ⟨_, rfl, ?_⟩
          refine ite_of (fun b227 => ?_) (fun b227 => ?_)
          · replace e186 := it_t b227 e186
            cases e186
            exact ⟨rfl, _, U187⟩
          · replace e186 := it_f b227 e186
            refine ww_or1 ?_
            refine wt_cmp2 op_ne (nomark _) ?_
            refine we_ix2 ix_tup rfl ?_
            refine we_ix2 ix_list rfl ?_
            refine EvV.p (ev_var 3) ?_
            refine EvV.p (ev_neg ev_int) ?_
            obtain ⟨t218, e219, e186⟩ := bnd_e e186
            obtain ⟨v220, h221, r222⟩ := pd_at p123 e219
            obtain ⟨d223, v225, v226, rfl, h224, rfl, rfl⟩ := r222
            refine ⟨_, _, _, _, rfl, rfl, (sq_of o198), h221, ?_⟩
            refine EvV.p ev_int ?_
            refine ⟨_, _, _, _, rfl, rfl, (st_of (Wt.s.at (Ex.at x174 h224))), rfl, ?_⟩
            refine EvV.p (ev_var 7) ?_
            refine fin_ne rfl dS ?_
            refine ⟨_, rfl, ?_⟩
            cases e186
            exact ⟨rfl, _, U187⟩
        rintro _ H229 ⟨rfl, F228, s230⟩
        have n231 := s230.ow o175 n176
        have o232 := s230.h.at o175
        have n233 := s230.ow o177 n178
        have o234 := s230.h.at o177
        have n235 := s230.ow o179 n180
        have o236 := s230.h.at o179
        have n237 := s230.ow o181 n182
        have o238 := s230.h.at o181
        have n239 := s230.ow o183 n184
        have o240 := s230.h.at o183
        have Wt := Wt.trans s230
        refine ite_of (fun b241 => ?_) (fun b241 => ?_)
        · replace g105 := it_t b241 g105
          refine wss_cons (ws_expr (we_appR (ev_var 3) o234 ?_))
          refine q_tup Wt.s (ea_cons (ev_var 7) (ea_cons (ev_var 8) ea_nil)) (sz_le (by simp)) fun d244 F245 H246 s247 h248 => ?_
          have n249 := s247.ow o232 n231
          have o250 := s247.h.at o232
          have n251 := s247.ow o234 n233
          have o252 := s247.h.at o234
          have n253 := s247.ow o236 n235
          have o254 := s247.h.at o236
          have n255 := s247.ow o238 n237
          have o256 := s247.h.at o238
          have n257 := s247.ow o240 n239
          have o258 := s247.h.at o240
          have Wt := Wt.trans s247
          obtain ⟨c259, g105⟩ := chk_e g105
          have p260 := pd_snoc (pd_imp (fun v y h => (mn_rT2 mn_fl mn_fl) _ _ _ v y ((x174.trans s230.f).trans s247.f) h) p123) (show (rT2 (fl sV) (fl V.int)) F245 (V.ref d244) (t135, many_2) from ⟨_, _, _, rfl, h248, rfl, rfl⟩)
          refine ⟨_, o252, (by rw [p123.length]; exact c259), fun H242 u243 => ?_⟩
          have Wt := Wt.muA z21 n251 o252 u243
          have o261 := u243.up o250 d25
          have o262 := u243.up o254 (Ne.symm d54)
          have o263 := u243.up o256 (Ne.symm d74)
          have o264 := u243.up o258 (Ne.symm d93)
          have o265 := u243.at_
          show WSs _ [some (V.ref d2), some (V.int cell_), some (V.ref d11), some (V.ref d16), some (V.int t38), some (V.ref d77), some (V.int i101), some (V.str (S t135)), some (V.int many_2)] H242 _ _
          refine wss_nil ?_
          show WSs _ [some (V.ref d2), some (V.int cell_), some (V.ref d11), some (V.ref d16), some (V.int t38), some (V.ref d77), some (V.int i101), some (V.str (S t135)), some (V.int many_2)] H242 _ _
          refine wss_nil ?_
          cases g105
          exact ⟨F245, _, _, _, _, Wt, (((x114.trans x174).trans s230.f).trans s247.f), rfl, o261, n249, o265, p260, n251, o262, n253, o263, n255, o264, n257⟩
        · replace g105 := it_f b241 g105
          refine wss_nil ?_
          show WSs _ [some (V.ref d2), some (V.int cell_), some (V.ref d11), some (V.ref d16), some (V.int t38), some (V.ref d77), some (V.int i101), some (V.str (S t135)), some (V.int many_2)] H229 _ _
          refine wss_nil ?_
          cases g105
          exact ⟨F228, _, _, _, _, Wt, ((x114.trans x174).trans s230.f), rfl, o232, n231, o234, (pd_imp (fun v y h => (mn_rT2 mn_fl mn_fl) _ _ _ v y (x174.trans s230.f) h) p123), n233, o236, n235, o238, n237, o240, n239⟩
    · intro w266 H267 h268
      obtain ⟨F270, q272, q273, q274, ws279, Wt, x271, rfl, o275, n276, o277, p280, n278, o281, n282, o283, n284, o285, n286⟩ := h268
      have hm : m_L_runs_by_k3 runs_1 = some _ := hm
      unfold m_L_runs_by_k3 at hm
      show WSs _ [some (V.ref d2), some (V.int cell_), some (V.ref d11), some (V.ref d16), some (V.int t38), some (V.ref d77), q272, q273, q274] H267 _ _
      refine wss_cons (ws_ret ?_)
      refine EvV.p (ev_var 3) ?_
      have HR := Option.some.inj hm
      subst HR
      exact kk _ _ _ Wt ⟨_, _, rfl, z21, n278, o277, p280⟩
def sp_L_written {K : PySem.W.Frag} {mg : Str → Option Value} {base : Heap} (T : Txt K mg base) : Sp := fun vs H Q _ => ∃ (home_ : (List Nat)) (w1 : V) (runs_ : (List ((List Nat) × (List Nat)))) (rr : (List Nat)), vs = [(V.str (S home_)), w1] ∧ (rL (rT2 (fl sV) (fl sV))) H w1 runs_ ∧ m_L_written home_ runs_ = some rr ∧ ∀ H', Ex T.tb H H' → Q (sV rr) H'
theorem ok_L_written (T : Txt K mg base) : FnOk P w K mg base CX0 1 T.f_L_written T.d_L_written ["_law_home", "_law_runs"] (sp_L_written T) := by
  refine okW T.F_L_written sc_L_written (fun vs H Q E h => ?_) (fun cdv A outer s H vs Q E hr h => ?_)
  · obtain ⟨_, _, _, _, rfl, _⟩ := h
    rfl
  · obtain ⟨home_, w1, runs_, rr, rfl, ⟨d1, ws3, rfl, h2, p4⟩, hm, kk⟩ := h
    have nd := sc_L_written.nd
    have Wt := Stp.refl (Ex.refl (tb := T.tb) H)
    unfold m_L_written at hm
    show WSs _ [some (V.str (S home_)), some (V.ref d1), none, none] H _ _
    refine wss_cons (ws_ret ?_)
    refine we_op2 op_catS ?_
    obtain ⟨c6, hm⟩ := chk_e hm
    refine EvV.p (ev_cat (ev_var 0) (ev_str lit_3) (sz_le c6)) ?_
    refine we_join (ev_str lit_1) ?_
    refine we_lcE (own := [("_law_many", 3), ("_law_sign_here", 2)]) (g := (gTup K 2 (gCons (gName 2) (gCons (gName 3) gNil)))) nd rfl (blkOk_by (own := [("_law_many", 3), ("_law_sign_here", 2)]) (N := N_L_written) (sc := defScope s_L_written) (by decide +kernel)) (by intro _ _ _ _ _; exact (pg_tp rfl (pgs_c (pg_name (i := 2) nd rfl (by first | exact Or.inl rfl | exact Or.inr rfl)) (pgs_c (pg_name (i := 3) nd rfl (by first | exact Or.inl rfl | exact Or.inr rfl)) pgs_nil)))) ?_
    refine EvV.p (ev_var 1) ?_
    obtain ⟨c27, hm⟩ := chk_e hm
    obtain ⟨t25, e26, hm⟩ := bnd_e hm
    refine ⟨_, rfl, ⟨_, (sq_of (Wt.s.at h2))⟩, lcg_of (sv_Lr p4) (gtup_mono (gcons_mono gname_mono (gcons_mono gname_mono gnil_mono))) e26 c27 (fl sV) mn_fl Wt.s (fun H5 q => ex_l q (sq_of (Wt.s.at h2))) ?_ ?_⟩
    · intro i9 v10 F11 H12 H13 o14 h15 s16 y17 g7
      have Wt := Wt.trans s16
      have U8 := Stp.refl Wt.s
      obtain ⟨rfl, r18⟩ := y17
      obtain ⟨d19, v21, v22, rfl, h20, rfl, rfl⟩ := r18
      refine ⟨_, _, rfl, (st_of (Wt.s.at (Ex.at s16.f h20))), rfl, ?_⟩
      refine ⟨_, _, rfl, ?_⟩
      refine ⟨_, _, rfl, ?_⟩
      refine ⟨rfl, ?_⟩
      refine ⟨rfl, ?_⟩
      intro s0 H00 C0 cl0 fp0
      obtain ⟨c23, g7⟩ := chk_e g7
      obtain ⟨c24, g7⟩ := chk_e g7
      refine EvV.p (ev_cat (ev_cat (ev_var 2) (ev_var 3) (sz_le c23)) (ev_str lit_4) (sz_le c24)) ?_
      exact ⟨_, _, U8, (Option.some.inj g7).symm, rfl⟩
    intro d28 F29 H30 ws31 s32 n33 n34 o35 p36
    rw [pd_flat p36] at o35
    have z37 := Wt.h.free n33
    have Wt := Wt.trans s32
    obtain ⟨c38, hm⟩ := chk_e hm
    refine ⟨_, _, rfl, (sq_of o35), c38, ?_⟩
    obtain ⟨c39, hm⟩ := chk_e hm
    refine fin_catS (sz_le c39) ?_
    have HR := Option.some.inj hm
    exact fin1 (f := sV) kk HR Wt.h
def sp_L_spoilt {K : PySem.W.Frag} {mg : Str → Option Value} {base : Heap} (T : Txt K mg base) : Sp := fun vs H Q _ => ∃ (home_ : (List Nat)) (w1 : V) (runs_ : (List ((List Nat) × Int))) (kind_ : Int) (w3 : V) (some_ : (List Int)) (cell_ : Int) (rr : (List Nat)), vs = [(V.str (S home_)), w1, (V.int kind_), w3, (V.int cell_)] ∧ (rL (rT2 (fl sV) (fl V.int))) H w1 runs_ ∧ (rLf V.int) H w3 some_ ∧ m_L_spoilt home_ runs_ kind_ some_ cell_ = some rr ∧ ∀ H', Ex T.tb H H' → Q (sV rr) H'
theorem ok_L_spoilt (T : Txt K mg base) : FnOk P w K mg base CX0 2 T.f_L_spoilt T.d_L_spoilt ["_law_home", "_law_runs", "_law_kind", "_law_some", "_law_cell"] (sp_L_spoilt T) := by
  refine okW T.F_L_spoilt sc_L_spoilt (fun vs H Q E h => ?_) (fun cdv A outer s H vs Q E hr h => ?_)
  · obtain ⟨_, _, _, _, _, _, _, _, rfl, _⟩ := h
    rfl
  · obtain ⟨home_, w1, runs_, kind_, w3, some_, cell_, rr, rfl, ⟨d1, ws3, rfl, h2, p4⟩, ⟨d5, rfl, h6⟩, hm, kk⟩ := h
    have nd := sc_L_spoilt.nd
    have Wt := Stp.refl (Ex.refl (tb := T.tb) H)
    unfold m_L_spoilt at hm
    show WSs _ [some (V.str (S home_)), some (V.ref d1), some (V.int kind_), some (V.ref d5), some (V.int cell_), none, none, none, none, none, none, none, none, none] H _ _
    refine wss_cons (ws_asg 5 nd ?_)
    refine we_sumI T.z_sum ?_
    refine we_lcE (own := [("_law_run", 11)]) (g := (gName 11)) nd rfl (blkOk_by (own := [("_law_run", 11)]) (N := N_L_spoilt) (sc := defScope s_L_spoilt) (by decide +kernel)) (fun _ _ _ _ _ => (pg_name (i := 11) nd rfl (by first | exact Or.inl rfl | exact Or.inr rfl))) ?_
    refine EvV.p (ev_var 1) ?_
    obtain ⟨c25, hm⟩ := chk_e hm
    obtain ⟨t23, e24, hm⟩ := bnd_e hm
    refine ⟨_, rfl, ⟨_, (sq_of (Wt.s.at h2))⟩, lcg_of (sv_Lr p4) gname_mono e24 c25 (fl V.int) mn_fl Wt.s (fun H5 q => ex_l q (sq_of (Wt.s.at h2))) ?_ ?_⟩
    · intro i9 v10 F11 H12 H13 o14 h15 s16 y17 g7
      have Wt := Wt.trans s16
      have U8 := Stp.refl Wt.s
      obtain ⟨rfl, r18⟩ := y17
      obtain ⟨d19, v21, v22, rfl, h20, rfl, rfl⟩ := r18
      refine ⟨rfl, ?_⟩
      intro s0 H00 C0 cl0 fp0
      refine EvV.p (ev_ixT (ev_var 11) ev_int (st_of (Wt.s.at (Ex.at s16.f h20))) rfl) ?_
      exact ⟨_, _, U8, (Option.some.inj g7).symm, rfl⟩
    intro d26 F27 H28 ws29 s30 n31 n32 o33 p34
    rw [pd_flat p34] at o33
    have z35 := Wt.h.free n31
    have Wt := Wt.trans s30
    refine ⟨_, _, rfl, (sq_of o33), ?_⟩
    show WSs _ [some (V.str (S home_)), some (V.ref d1), some (V.int kind_), some (V.ref d5), some (V.int cell_), some (V.int ((t23).sum : Int)), none, none, none, none, none, none, none, none] H28 _ _
    obtain ⟨many_, q36, hm⟩ := lt_x hm
    rw [show (V.int (((t23).sum : Int))) = (V.int many_) from congrArg V.int q36.symm]
    show WSs _ [some (V.str (S home_)), some (V.ref d1), some (V.int kind_), some (V.ref d5), some (V.int cell_), some (V.int many_), none, none, none, none, none, none, none, none] H28 _ _
    refine wss_cons (ws_lcE (i := 6) (own := [("_law_number_here", 13), ("_law_sign_here", 12)]) (g := (gTup K 2 (gCons (gName 12) (gCons (gName 13) gNil)))) nd rfl (blkOk_by (own := [("_law_number_here", 13), ("_law_sign_here", 12)]) (N := N_L_spoilt) (sc := defScope s_L_spoilt) (by decide +kernel)) (by intro _ _ _ _ _; exact (pg_tp rfl (pgs_c (pg_name (i := 12) nd rfl (by first | exact Or.inl rfl | exact Or.inr rfl)) (pgs_c (pg_name (i := 13) nd rfl (by first | exact Or.inl rfl | exact Or.inr rfl)) pgs_nil)))) ?_)
    refine EvV.p (ev_var 1) ?_
    obtain ⟨c65, hm⟩ := chk_e hm
    obtain ⟨t63, e64, hm⟩ := bnd_e hm
    refine ⟨_, rfl, ⟨_, (sq_of (Wt.s.at (Ex.at s30.f h2)))⟩, lcg_of (sv_Lr p4) (gtup_mono (gcons_mono gname_mono (gcons_mono gname_mono gnil_mono))) e64 c65 (rT2 (fl sV) (fl sV)) (mn_rT2 mn_fl mn_fl) Wt.s (fun H5 q => ex_l q (sq_of (Wt.s.at (Ex.at s30.f h2)))) ?_ ?_⟩
    · intro i39 v40 F41 H42 H43 o44 h45 s46 y47 g37
      have n48 := s46.ow o33 n32
      have o49 := s46.h.at o33
      have Wt := Wt.trans s46
      have U38 := Stp.refl Wt.s
      obtain ⟨rfl, r50⟩ := y47
      obtain ⟨d51, v53, v54, rfl, h52, rfl, rfl⟩ := r50
      refine ⟨_, _, rfl, (st_of (Wt.s.at (Ex.at (s30.f.trans s46.f) h52))), rfl, ?_⟩
      refine ⟨_, _, rfl, ?_⟩
      refine ⟨_, _, rfl, ?_⟩
      refine ⟨rfl, ?_⟩
      refine ⟨rfl, ?_⟩
      intro s0 H00 C0 cl0 fp0
      obtain ⟨c55, g37⟩ := chk_e g37
      refine q_tup Wt.s (ea_cons (ev_var 12) (ea_cons (ev_strI (ev_var 13) c55 T.z_str) ea_nil)) (sz_le (by simp)) fun d56 F57 H58 s59 h60 => ?_
      have n61 := s59.ow o49 n48
      have o62 := s59.h.at o49
      have Wt := Wt.trans s59
      have U38 := U38.trans s59
      exact ⟨_, _, U38, (Option.some.inj g37).symm, ⟨_, _, _, rfl, h60, rfl, rfl⟩⟩
    intro d66 F67 H68 ws69 s70 n71 n72 o73 p74
    have z75 := Wt.h.free n71
    have n76 := s70.ow o33 n32
    have o77 := s70.h.at o33
    have Wt := Wt.trans s70
    have d78 := ne_new o33 n71
    show WSs _ [some (V.str (S home_)), some (V.ref d1), some (V.int kind_), some (V.ref d5), some (V.int cell_), some (V.int many_), some (V.ref d66), none, none, none, none, none, none, none] H68 _ _
    obtain ⟨t79, e80, hm⟩ := bnd_e hm
    obtain ⟨c81, hm⟩ := chk_e hm
    obtain ⟨at_, q82, hm⟩ := lt_x hm
    refine wss_cons (ws_asgP (v := (V.int at_)) 7 nd (EvV.is (ev_mod (ev_ixL (ev_var 3) ev_int (sq_of (Wt.s.at (Ex.at (s30.f.trans s70.f) h6))) (atI_map e80)) (ev_max ev_int ((ev_lenL (ev_var 6) (sq_of o73) T.z_len).is (by rw [p74.length])) T.z_max) c81) (congrArg V.int q82.symm)) ?_)
    show WSs _ [some (V.str (S home_)), some (V.ref d1), some (V.int kind_), some (V.ref d5), some (V.int cell_), some (V.int many_), some (V.ref d66), some (V.int at_), none, none, none, none, none, none] H68 _ _
    refine wss_cons (ws_if ?_)
    refine EvB.p (ec_eqI (ev_var 2) ev_int).te ?_
    refine ite_of (fun b83 => ?_) (fun b83 => ?_)
    · replace hm := it_t b83 hm
      refine wss_cons (ws_ret ?_)
      refine we_call (ok_L_written T) (hr.mono (by decide)) T.m_L_written T.F_L_written.kp T.b_L_written .nil pass0 ?_
      refine wa_cons ?_
      obtain ⟨c84, hm⟩ := chk_e hm
      obtain ⟨c85, hm⟩ := chk_e hm
      obtain ⟨c86, hm⟩ := chk_e hm
      refine q_tix Wt.s (ea_cons (ev_strI (ev_add (ev_var 5) ev_int) c84 T.z_str) (ea_cons (ev_strI (ev_add (ev_add (ev_var 5) ev_int) (ev_mod (ev_var 4) (EvV.is (x := V.int (1000000000000000000000000000000)) (ev_pow ev_int ev_int (by decide +kernel)) (congrArg V.int (by decide +kernel))) (by decide))) c85 T.z_str) (ea_cons (ev_str lit_7) (ea_cons (ev_cat (ev_str lit_2) (ev_var 0) (sz_le c86)) ea_nil)))) (sz_le (by simp)) rfl fun d87 F88 H89 s90 h91 => ?_
      have n92 := s90.ow o77 n76
      have o93 := s90.h.at o77
      have n94 := s90.ow o73 n72
      have o95 := s90.h.at o73
      have Wt := Wt.trans s90
      have U96 := Stp.refl Wt.s
      obtain ⟨t97, e98, hm⟩ := bnd_e hm
      refine EvV.p (ev_mod (ev_ixL (ev_var 3) ev_int (sq_of (Wt.s.at (Ex.at ((s30.f.trans s70.f).trans s90.f) h6))) (atI_map e98)) ev_int (by decide)) ?_
      obtain ⟨t99, e100, hm⟩ := bnd_e hm
      refine ⟨_, _, rfl, U96, _, atI_map (f := sV) e100, ?_⟩
      refine wa_consP (ev_var 6) ?_
      refine wa_nil ?_
      obtain ⟨t101, e102, hm⟩ := bnd_e hm
      refine ⟨t99, _, t63, t101, rfl, ⟨_, _, rfl, o95, (pd_imp (fun v y h => (mn_rT2 mn_fl mn_fl) _ _ _ v y Wt.s h) (pd_imp (fun v y h => (mn_rT2 mn_fl mn_fl) _ _ _ v y s90.f h) p74))⟩, e102, fun H103 x105 => ?_⟩
      have s104 := Stp.ofH Wt.s x105
      have n106 := s104.ow o93 n92
      have o107 := s104.h.at o93
      have n108 := s104.ow o95 n94
      have o109 := s104.h.at o95
      have Wt := Wt.trans s104
      have HR := Option.some.inj hm
      exact fin1 (f := sV) kk HR Wt.h
    · replace hm := it_f b83 hm
      refine wss_nil ?_
      show WSs _ [some (V.str (S home_)), some (V.ref d1), some (V.int kind_), some (V.ref d5), some (V.int cell_), some (V.int many_), some (V.ref d66), some (V.int at_), none, none, none, none, none, none] H68 _ _
      refine wss_cons (ws_if ?_)
      refine EvB.p (ec_eqI (ev_var 2) ev_int).te ?_
      refine ite_of (fun b110 => ?_) (fun b110 => ?_)
      · replace hm := it_t b110 hm
        refine wss_cons (ws_ret ?_)
        refine we_call (ok_L_written T) (hr.mono (by decide)) T.m_L_written T.F_L_written.kp T.b_L_written .nil pass0 ?_
        obtain ⟨t111, e112, hm⟩ := bnd_e hm
        obtain ⟨c113, hm⟩ := chk_e hm
        obtain ⟨c114, hm⟩ := chk_e hm
        obtain ⟨c115, hm⟩ := chk_e hm
        obtain ⟨c116, hm⟩ := chk_e hm
        refine EvA.p (ea_cons (ev_cat (ev_cat (ev_str lit_8) (ev_tms (ev_str lit_2) (ev_add ev_int (ev_mod (ev_ixL (ev_var 3) ev_int (sq_of (Wt.s.at (Ex.at (s30.f.trans s70.f) h6))) (atI_map e112)) ev_int (by decide))) c113) (sz_le c114)) (ev_strI (ev_mod (ev_var 4) ev_int (by decide)) c115 T.z_str) (sz_le c116)) (ea_cons (ev_var 6) ea_nil)) ?_
        obtain ⟨t117, e118, hm⟩ := bnd_e hm
        refine ⟨((([49] : List Nat) ++ (tms ([48] : List Nat) ((3 : Int) + (t111 % (290 : Int))))) ++ (strI ((cell_ % (100 : Int))))), _, t63, t117, rfl, ⟨_, _, rfl, o73, (pd_imp (fun v y h => (mn_rT2 mn_fl mn_fl) _ _ _ v y Wt.s h) p74)⟩, e118, fun H119 x121 => ?_⟩
        have s120 := Stp.ofH Wt.s x121
        have n122 := s120.ow o77 n76
        have o123 := s120.h.at o77
        have n124 := s120.ow o73 n72
        have o125 := s120.h.at o73
        have Wt := Wt.trans s120
        have HR := Option.some.inj hm
        exact fin1 (f := sV) kk HR Wt.h
      · replace hm := it_f b110 hm
        refine wss_nil ?_
        show WSs _ [some (V.str (S home_)), some (V.ref d1), some (V.int kind_), some (V.ref d5), some (V.int cell_), some (V.int many_), some (V.ref d66), some (V.int at_), none, none, none, none, none, none] H68 _ _
        refine wss_cons (ws_if ?_)
        obtain ⟨t126, e127, hm⟩ := bnd_e hm
        refine WT.mono (Q := fun k H1 => k = t126 ∧ ∃ F1, Stp T.tb F67 H68 F1 H1) (WW.t ?_) ?_
        · have U128 := Stp.refl Wt.s
          refine ww_and ?_
          refine EvB.p (ec_eqI (ev_var 2) ev_int).te ?_
          refine ite_of (fun b144 => ?_) (fun b144 => ?_)
          · replace e127 := it_t b144 e127
            refine ww_and1 ?_
            refine wt_cmp2 (op_neD hr.units) (nomark _) ?_
            refine EvV.p (ev_var 6) ?_
            refine q_lsto Wt.s (xs := []) ea_nil (sz_le (by decide)) fun d129 H130 s131 n132 o133 => ?_
            have z134 := Wt.h.free n132
            have n135 := Wt.s.free n132
            have n136 := s131.ow o77 n76
            have o137 := s131.h.at o77
            have n138 := s131.ow o73 n72
            have o139 := s131.h.at o73
            have Wt := Wt.trans s131
            have U128 := U128.trans s131
            have d140 := ne_new o77 n132
            have d141 := ne_new o73 n132
            obtain ⟨c142, e127⟩ := chk_e e127
            obtain ⟨c143, e127⟩ := chk_e e127
            refine fin_neD ⟨_, _, rfl, o139, (pd_imp (fun v y h => (mn_rT2 mn_fl mn_fl) _ _ _ v y Wt.s h) p74)⟩ ⟨_, _, rfl, o133, (pd_imp (fun v y h => (mn_rT2 mn_fl mn_fl) _ _ _ v y Wt.s h) (Paired.nil : Paired ((rT2 (fl sV) (fl sV)) F67) [] ([] : List ((List Nat) × (List Nat)))))⟩ (dp_L (dp_2 dp_S dp_S)) (en_L (en_2 en_S en_S)) c142 c143 (by decide) ?_
            refine ⟨_, rfl, ?_⟩
            cases e127
            exact ⟨rfl, _, U128⟩
          · replace e127 := it_f b144 e127
            cases e127
            exact ⟨rfl, _, U128⟩
        rintro _ H146 ⟨rfl, F145, s147⟩
        have n148 := s147.ow o77 n76
        have o149 := s147.h.at o77
        have n150 := s147.ow o73 n72
        have o151 := s147.h.at o73
        have Wt := Wt.trans s147
        refine ite_of (fun b152 => ?_) (fun b152 => ?_)
        · replace hm := it_t b152 hm
          refine wss_cons (ws_asg 8 nd ?_)
          refine we_ix2 ix_tup rfl ?_
          refine we_tup ?_
          refine wa_consP (ev_str lit_2) ?_
          refine wa_cons ?_
          refine we_op2 op_catS ?_
          refine EvV.p (ev_str lit_2) ?_
          refine we_ix2 ix_tup rfl ?_
          refine we_ix2 ix_list rfl ?_
          refine EvV.p (ev_var 6) ?_
          refine EvV.p (ev_var 7) ?_
          obtain ⟨t163, e164, hm⟩ := bnd_e hm
          obtain ⟨v165, h166, r167⟩ := pd_at p74 e164
          obtain ⟨d168, v170, v171, rfl, h169, rfl, rfl⟩ := r167
          refine ⟨_, _, _, _, rfl, rfl, (sq_of o151), h166, ?_⟩
          refine EvV.p ev_int ?_
          refine ⟨_, _, _, _, rfl, rfl, (st_of (Wt.s.at (Ex.at s147.f h169))), rfl, ?_⟩
          obtain ⟨c172, hm⟩ := chk_e hm
          refine fin_catS (sz_le c172) ?_
          refine wa_consP (ev_str lit_9) ?_
          obtain ⟨c173, hm⟩ := chk_e hm
          refine wa_consP (ev_strI (ev_add ev_int (ev_mod (ev_var 4) (EvV.is (x := V.int (1000000000000000000000000000000)) (ev_pow ev_int ev_int (by decide +kernel)) (congrArg V.int (by decide +kernel))) (by decide))) c173 T.z_str) ?_
          refine wa_consP (ev_str lit_1) ?_
          refine wa_consP (ev_str lit_10) ?_
          refine wa_consP (ev_str lit_11) ?_
          refine wa_nil ?_
          refine ⟨sz_le (by simp), fun d174 s177n => ?_⟩
          obtain ⟨F175, s177, h178⟩ := frz_ex (p := d174) (o := .tup [(V.str (S ([48] : List Nat))), (V.str (S (([48] : List Nat) ++ t163.2))), (V.str (S ([49, 48, 48, 48] : List Nat))), (V.str (S (strI (((1000 : Int) + (cell_ % (1000000000000000000000000000000 : Int))))))), (V.str (S ([] : List Nat))), (V.str (S ([49, 32] : List Nat))), (V.str (S ([97] : List Nat)))]) Wt.s s177n rfl
          have n179 := s177.ow o149 n148
          have o180 := s177.h.at o149
          have n181 := s177.ow o151 n150
          have o182 := s177.h.at o151
          have Wt := Wt.trans s177
          obtain ⟨t183, e184, hm⟩ := bnd_e hm
          refine EvV.p (ev_mod (ev_ixL (ev_var 3) ev_int (sq_of (Wt.s.at (Ex.at (((s30.f.trans s70.f).trans s147.f).trans s177.f) h6))) (atI_map e184)) ev_int (by decide)) ?_
          obtain ⟨t185, e186, hm⟩ := bnd_e hm
          refine ⟨_, _, _, _, rfl, rfl, (st_of (Wt.s.at h178)), atI_map (f := sV) e186, ?_⟩
          show WSs _ [some (V.str (S home_)), some (V.ref d1), some (V.int kind_), some (V.ref d5), some (V.int cell_), some (V.int many_), some (V.ref d66), some (V.int at_), some (V.str (S t185)), none, none, none, none, none] (upd H146 d174 (.tup [(V.str (S ([48] : List Nat))), (V.str (S (([48] : List Nat) ++ t163.2))), (V.str (S ([49, 48, 48, 48] : List Nat))), (V.str (S (strI (((1000 : Int) + (cell_ % (1000000000000000000000000000000 : Int))))))), (V.str (S ([] : List Nat))), (V.str (S ([49, 32] : List Nat))), (V.str (S ([97] : List Nat)))])) _ _
          refine wss_cons (ws_setR (d := d66) ?_)
          refine we_tup ?_
          refine wa_cons ?_
          refine we_ix2 ix_tup rfl ?_
          refine we_ix2 ix_list rfl ?_
          refine EvV.p (ev_var 6) ?_
          refine EvV.p (ev_var 7) ?_
          obtain ⟨t197, e198, hm⟩ := bnd_e hm
          obtain ⟨v199, h200, r201⟩ := pd_at p74 e198
          obtain ⟨d202, v204, v205, rfl, h203, rfl, rfl⟩ := r201
          refine ⟨_, _, _, _, rfl, rfl, (sq_of o182), h200, ?_⟩
          refine EvV.p ev_int ?_
          refine ⟨_, _, _, _, rfl, rfl, (st_of (Wt.s.at (Ex.at (s147.f.trans s177.f) h203))), rfl, ?_⟩
          refine wa_consP (ev_var 8) ?_
          refine wa_nil ?_
          refine ⟨sz_le (by simp), fun d206 s209n => ?_⟩
          obtain ⟨F207, s209, h210⟩ := frz_ex (p := d206) (o := .tup [(V.str (S t197.1)), (V.str (S t185))]) Wt.s s209n rfl
          have n211 := s209.ow o180 n179
          have o212 := s209.h.at o180
          have n213 := s209.ow o182 n181
          have o214 := s209.h.at o182
          have Wt := Wt.trans s209
          refine EvV.p (ev_var 6) ?_
          refine EvV.p (ev_var 7) ?_
          obtain ⟨t215, e216, hm⟩ := bnd_e hm
          have p217 := pd_set (j := t215) (pd_imp (fun v y h => (mn_rT2 mn_fl mn_fl) _ _ _ v y ((s147.f.trans s177.f).trans s209.f) h) p74) (show (rT2 (fl sV) (fl sV)) F207 (V.ref d206) (t197.1, t185) from ⟨_, _, _, rfl, h210, rfl, rfl⟩)
          refine ⟨_, _, _, rfl, rfl, o214, (by rw [p74.length]; exact e216), fun H187 u188 => ?_⟩
          have Wt := Wt.muA z75 n213 o214 u188
          have o218 := u188.up o212 d78
          have o219 := u188.at_
          show WSs _ [some (V.str (S home_)), some (V.ref d1), some (V.int kind_), some (V.ref d5), some (V.int cell_), some (V.int many_), some (V.ref d66), some (V.int at_), some (V.str (S t185)), none, none, none, none, none] H187 _ _
          refine wss_cons (ws_ret ?_)
          refine we_call (ok_L_written T) (hr.mono (by decide)) T.m_L_written T.F_L_written.kp T.b_L_written .nil pass0 ?_
          refine EvA.p (ea_cons (ev_var 0) (ea_cons (ev_var 6) ea_nil)) ?_
          obtain ⟨t220, e221, hm⟩ := bnd_e hm
          refine ⟨home_, _, (List.set t63 t215 (t197.1, t185)), t220, rfl, ⟨_, _, rfl, o219, (pd_imp (fun v y h => (mn_rT2 mn_fl mn_fl) _ _ _ v y Wt.s h) p217)⟩, e221, fun H222 x224 => ?_⟩
          have s223 := Stp.ofH Wt.s x224
          have n225 := s223.ow o218 n211
          have o226 := s223.h.at o218
          have n227 := s223.ow o219 n213
          have o228 := s223.h.at o219
          have Wt := Wt.trans s223
          have HR := Option.some.inj hm
          exact fin1 (f := sV) kk HR Wt.h
        · replace hm := it_f b152 hm
          refine wss_nil ?_
          show WSs _ [some (V.str (S home_)), some (V.ref d1), some (V.int kind_), some (V.ref d5), some (V.int cell_), some (V.int many_), some (V.ref d66), some (V.int at_), none, none, none, none, none, none] H146 _ _
          refine wss_cons (ws_if ?_)
          obtain ⟨t229, e230, hm⟩ := bnd_e hm
          refine WT.mono (Q := fun k H1 => k = t229 ∧ ∃ F1, Stp T.tb F145 H146 F1 H1) (WW.t ?_) ?_
          · have U231 := Stp.refl Wt.s
            refine ww_and ?_
            refine EvB.p (ec_eqI (ev_var 2) ev_int).te ?_
            refine ite_of (fun b247 => ?_) (fun b247 => ?_)
            · replace e230 := it_t b247 e230
              refine ww_and1 ?_
              refine wt_cmp2 (op_neD hr.units) (nomark _) ?_
              refine EvV.p (ev_var 6) ?_
              refine q_lsto Wt.s (xs := []) ea_nil (sz_le (by decide)) fun d232 H233 s234 n235 o236 => ?_
              have z237 := Wt.h.free n235
              have n238 := Wt.s.free n235
              have n239 := s234.ow o149 n148
              have o240 := s234.h.at o149
              have n241 := s234.ow o151 n150
              have o242 := s234.h.at o151
              have Wt := Wt.trans s234
              have U231 := U231.trans s234
              have d243 := ne_new o149 n235
              have d244 := ne_new o151 n235
              obtain ⟨c245, e230⟩ := chk_e e230
              obtain ⟨c246, e230⟩ := chk_e e230
              refine fin_neD ⟨_, _, rfl, o242, (pd_imp (fun v y h => (mn_rT2 mn_fl mn_fl) _ _ _ v y Wt.s h) (pd_imp (fun v y h => (mn_rT2 mn_fl mn_fl) _ _ _ v y s147.f h) p74))⟩ ⟨_, _, rfl, o236, (pd_imp (fun v y h => (mn_rT2 mn_fl mn_fl) _ _ _ v y Wt.s h) (Paired.nil : Paired ((rT2 (fl sV) (fl sV)) F145) [] ([] : List ((List Nat) × (List Nat)))))⟩ (dp_L (dp_2 dp_S dp_S)) (en_L (en_2 en_S en_S)) c245 c246 (by decide) ?_
              refine ⟨_, rfl, ?_⟩
              cases e230
              exact ⟨rfl, _, U231⟩
            · replace e230 := it_f b247 e230
              cases e230
              exact ⟨rfl, _, U231⟩
          rintro _ H249 ⟨rfl, F248, s250⟩
          have n251 := s250.ow o149 n148
          have o252 := s250.h.at o149
          have n253 := s250.ow o151 n150
          have o254 := s250.h.at o151
          have Wt := Wt.trans s250
          refine ite_of (fun b255 => ?_) (fun b255 => ?_)
          · replace hm := it_t b255 hm
            refine wss_cons (ws_ret ?_)
            refine we_call (ok_L_written T) (hr.mono (by decide)) T.m_L_written T.F_L_written.kp T.b_L_written .nil pass0 ?_
            refine wa_consP (ev_var 0) ?_
            refine wa_cons ?_
            refine we_op2 op_cat ?_
            refine we_op2 op_cat ?_
            have p256 : Paired ((rT2 (fl sV) (fl sV)) F248) ws69 t63 := (pd_imp (fun v y h => (mn_rT2 mn_fl mn_fl) _ _ _ v y (s147.f.trans s250.f) h) p74)
            refine q_slLo Wt.s (ev_var 6) eo_n (eo_s (ev_add (ev_var 7) ev_int)) (sq_of o254) fun d257 H258 s259 n260 o261 => ?_
            have z262 := Wt.h.free n260
            have n263 := Wt.s.free n260
            have n264 := s259.ow o252 n251
            have o265 := s259.h.at o252
            have n266 := s259.ow o254 n253
            have o267 := s259.h.at o254
            have Wt := Wt.trans s259
            have d268 := ne_new o252 n260
            have d269 := ne_new o254 n260
            refine we_lst ?_
            refine wa_cons ?_
            refine we_tup ?_
            refine wa_cons ?_
            refine we_ix2 ix_tup rfl ?_
            refine we_ix2 ix_list rfl ?_
            refine EvV.p (ev_var 6) ?_
            refine EvV.p (ev_var 7) ?_
            obtain ⟨t278, e279, hm⟩ := bnd_e hm
            obtain ⟨v280, h281, r282⟩ := pd_at p74 e279
            obtain ⟨d283, v285, v286, rfl, h284, rfl, rfl⟩ := r282
            refine ⟨_, _, _, _, rfl, rfl, (sq_of o267), h281, ?_⟩
            refine EvV.p ev_int ?_
            refine ⟨_, _, _, _, rfl, rfl, (st_of (Wt.s.at (Ex.at (s147.f.trans s250.f) h284))), rfl, ?_⟩
            refine wa_consP (ev_str lit_8) ?_
            refine wa_nil ?_
            refine ⟨sz_le (by simp), fun d287 s290n => ?_⟩
            obtain ⟨F288, s290, h291⟩ := frz_ex (p := d287) (o := .tup [(V.str (S t278.1)), (V.str (S ([49] : List Nat)))]) Wt.s s290n rfl
            have n292 := s290.ow o265 n264
            have o293 := s290.h.at o265
            have n294 := s290.ow o267 n266
            have o295 := s290.h.at o267
            have n296 := s290.ow o261 n263
            have o297 := s290.h.at o261
            have Wt := Wt.trans s290
            refine wa_nil ?_
            have p310 : Paired ((rT2 (fl sV) (fl sV)) F288) [(V.ref d287)] ([(t278.1, ([49] : List Nat))] : List ((List Nat) × (List Nat))) := (.cons ⟨_, _, _, rfl, h291, rfl, rfl⟩ .nil)
            refine ⟨sz_le (by simp), fun d304 n305 => ?_⟩
            have s306 := Stp.own (o := .lst [(V.ref d287)]) Wt.s n305
            have o307 : (upd (upd H258 d287 (.tup [(V.str (S t278.1)), (V.str (S ([49] : List Nat)))])) d304 (.lst [(V.ref d287)])) d304 = some _ := upd_same
            have z308 := Wt.h.free n305
            have n309 := Wt.s.free n305
            have n311 := s306.ow o293 n292
            have o312 := s306.h.at o293
            have n313 := s306.ow o295 n294
            have o314 := s306.h.at o295
            have n315 := s306.ow o297 n296
            have o316 := s306.h.at o297
            have Wt := Wt.trans s306
            have d317 := ne_new o293 n305
            have d318 := ne_new o295 n305
            have d319 := ne_new o297 n305
            obtain ⟨c320, hm⟩ := chk_e hm
            have p321 : Paired ((rT2 (fl sV) (fl sV)) F288) (cutV ws69 none (some (at_ + (1 : Int)))) (cut t63 none (some (at_ + (1 : Int)))) := (pd_imp (fun v y h => (mn_rT2 mn_fl mn_fl) _ _ _ v y s290.f h) (pd_cut p256))
            have p322 : Paired ((rT2 (fl sV) (fl sV)) F288) [(V.ref d287)] ([(t278.1, ([49] : List Nat))] : List ((List Nat) × (List Nat))) := p310
            refine fin_lcatR (R := ((rT2 (fl sV) (fl sV)) F288)) Wt.s o316 o307 p321 p322 c320 fun d323 H324 s325 n326 o327 => ?_
            have z328 := Wt.h.free n326
            have n329 := Wt.s.free n326
            have n330 := s325.ow o312 n311
            have o331 := s325.h.at o312
            have n332 := s325.ow o314 n313
            have o333 := s325.h.at o314
            have n334 := s325.ow o316 n315
            have o335 := s325.h.at o316
            have n336 := s325.ow o307 n309
            have o337 := s325.h.at o307
            have Wt := Wt.trans s325
            have d338 := ne_new o312 n326
            have d339 := ne_new o314 n326
            have d340 := ne_new o316 n326
            have d341 := ne_new o307 n326
            have p342 : Paired ((rT2 (fl sV) (fl sV)) F288) ws69 t63 := (pd_imp (fun v y h => (mn_rT2 mn_fl mn_fl) _ _ _ v y ((s147.f.trans s250.f).trans s290.f) h) p74)
            refine q_slLo Wt.s (ev_var 6) (eo_s (ev_add (ev_var 7) ev_int)) eo_n (sq_of o333) fun d343 H344 s345 n346 o347 => ?_
            have z348 := Wt.h.free n346
            have n349 := Wt.s.free n346
            have n350 := s345.ow o331 n330
            have o351 := s345.h.at o331
            have n352 := s345.ow o333 n332
            have o353 := s345.h.at o333
            have n354 := s345.ow o335 n334
            have o355 := s345.h.at o335
            have n356 := s345.ow o337 n336
            have o357 := s345.h.at o337
            have n358 := s345.ow o327 n329
            have o359 := s345.h.at o327
            have Wt := Wt.trans s345
            have d360 := ne_new o331 n346
            have d361 := ne_new o333 n346
            have d362 := ne_new o335 n346
            have d363 := ne_new o337 n346
            have d364 := ne_new o327 n346
            obtain ⟨c365, hm⟩ := chk_e hm
            have p366 : Paired ((rT2 (fl sV) (fl sV)) F288) ((cutV ws69 none (some (at_ + (1 : Int)))) ++ [(V.ref d287)]) ((cut t63 none (some (at_ + (1 : Int)))) ++ ([(t278.1, ([49] : List Nat))] : List ((List Nat) × (List Nat)))) := (pd_app p321 p322)
            have p367 : Paired ((rT2 (fl sV) (fl sV)) F288) (cutV ws69 (some (at_ + (1 : Int))) none) (cut t63 (some (at_ + (1 : Int))) none) := (pd_cut p342)
            refine fin_lcatR (R := ((rT2 (fl sV) (fl sV)) F288)) Wt.s o359 o347 p366 p367 c365 fun d368 H369 s370 n371 o372 => ?_
            have z373 := Wt.h.free n371
            have n374 := Wt.s.free n371
            have n375 := s370.ow o351 n350
            have o376 := s370.h.at o351
            have n377 := s370.ow o353 n352
            have o378 := s370.h.at o353
            have n379 := s370.ow o355 n354
            have o380 := s370.h.at o355
            have n381 := s370.ow o357 n356
            have o382 := s370.h.at o357
            have n383 := s370.ow o359 n358
            have o384 := s370.h.at o359
            have n385 := s370.ow o347 n349
            have o386 := s370.h.at o347
            have Wt := Wt.trans s370
            have d387 := ne_new o351 n371
            have d388 := ne_new o353 n371
            have d389 := ne_new o355 n371
            have d390 := ne_new o357 n371
            have d391 := ne_new o359 n371
            have d392 := ne_new o347 n371
            refine wa_nil ?_
            obtain ⟨t393, e394, hm⟩ := bnd_e hm
            refine ⟨home_, _, (((cut t63 none (some (at_ + (1 : Int)))) ++ ([(t278.1, ([49] : List Nat))] : List ((List Nat) × (List Nat)))) ++ (cut t63 (some (at_ + (1 : Int))) none)), t393, rfl, ⟨_, _, rfl, o372, (pd_imp (fun v y h => (mn_rT2 mn_fl mn_fl) _ _ _ v y Wt.s h) (pd_app p366 p367))⟩, e394, fun H395 x397 => ?_⟩
            have s396 := Stp.ofH Wt.s x397
            have n398 := s396.ow o376 n375
            have o399 := s396.h.at o376
            have n400 := s396.ow o378 n377
            have o401 := s396.h.at o378
            have n402 := s396.ow o380 n379
            have o403 := s396.h.at o380
            have n404 := s396.ow o382 n381
            have o405 := s396.h.at o382
            have n406 := s396.ow o384 n383
            have o407 := s396.h.at o384
            have n408 := s396.ow o386 n385
            have o409 := s396.h.at o386
            have n410 := s396.ow o372 n374
            have o411 := s396.h.at o372
            have Wt := Wt.trans s396
            have HR := Option.some.inj hm
            exact fin1 (f := sV) kk HR Wt.h
          · replace hm := it_f b255 hm
            refine wss_nil ?_
            show WSs _ [some (V.str (S home_)), some (V.ref d1), some (V.int kind_), some (V.ref d5), some (V.int cell_), some (V.int many_), some (V.ref d66), some (V.int at_), none, none, none, none, none, none] H249 _ _
            refine wss_cons (ws_asg 9 nd ?_)
            refine we_call (ok_L_written T) (hr.mono (by decide)) T.m_L_written T.F_L_written.kp T.b_L_written .nil pass0 ?_
            refine EvA.p (ea_cons (ev_var 0) (ea_cons (ev_var 6) ea_nil)) ?_
            obtain ⟨t412, e413, hm⟩ := bnd_e hm
            refine ⟨home_, _, t63, t412, rfl, ⟨_, _, rfl, o254, (pd_imp (fun v y h => (mn_rT2 mn_fl mn_fl) _ _ _ v y Wt.s h) (pd_imp (fun v y h => (mn_rT2 mn_fl mn_fl) _ _ _ v y (s147.f.trans s250.f) h) p74))⟩, e413, fun H414 x416 => ?_⟩
            have s415 := Stp.ofH Wt.s x416
            have n417 := s415.ow o252 n251
            have o418 := s415.h.at o252
            have n419 := s415.ow o254 n253
            have o420 := s415.h.at o254
            have Wt := Wt.trans s415
            show WSs _ [some (V.str (S home_)), some (V.ref d1), some (V.int kind_), some (V.ref d5), some (V.int cell_), some (V.int many_), some (V.ref d66), some (V.int at_), none, some (V.str (S t412)), none, none, none, none] H414 _ _
            obtain ⟨t421, e422, hm⟩ := bnd_e hm
            obtain ⟨c423, hm⟩ := chk_e hm
            obtain ⟨c424, hm⟩ := chk_e hm
            obtain ⟨place_, q425, hm⟩ := lt_x hm
            refine wss_cons (ws_asgP (v := (V.int place_)) 10 nd (EvV.is (ev_mod (ev_ixL (ev_var 3) ev_int (sq_of (Wt.s.at (Ex.at (((s30.f.trans s70.f).trans s147.f).trans s250.f) h6))) (atI_map e422)) (ev_add (ev_lenS (ev_var 9) (sz_le c423) T.z_len) ev_int) c424) (congrArg V.int q425.symm)) ?_)
            show WSs _ [some (V.str (S home_)), some (V.ref d1), some (V.int kind_), some (V.ref d5), some (V.int cell_), some (V.int many_), some (V.ref d66), some (V.int at_), none, some (V.str (S t412)), some (V.int place_), none, none, none] H414 _ _
            refine wss_cons (ws_if ?_)
            refine EvB.p (ec_eqI (ev_var 2) ev_int).te ?_
            refine ite_of (fun b426 => ?_) (fun b426 => ?_)
            · replace hm := it_t b426 hm
              refine wss_cons (ws_ret ?_)
              obtain ⟨c427, hm⟩ := chk_e hm
              obtain ⟨c428, hm⟩ := chk_e hm
              obtain ⟨c429, hm⟩ := chk_e hm
              refine EvV.p (ev_cat (ev_slS (ev_var 9) eo_n (eo_s (ev_var 10)) (sz_le c427)) (ev_slS (ev_var 9) (eo_s (ev_add (ev_var 10) ev_int)) eo_n (sz_le c428)) (sz_le c429)) ?_
              have HR := Option.some.inj hm
              exact fin1 (f := sV) kk HR Wt.h
            · replace hm := it_f b426 hm
              refine wss_nil ?_
              show WSs _ [some (V.str (S home_)), some (V.ref d1), some (V.int kind_), some (V.ref d5), some (V.int cell_), some (V.int many_), some (V.ref d66), some (V.int at_), none, some (V.str (S t412)), some (V.int place_), none, none, none] H414 _ _
              refine wss_cons (ws_if ?_)
              refine EvB.p (ec_eqI (ev_var 2) ev_int).te ?_
              refine ite_of (fun b430 => ?_) (fun b430 => ?_)
              · replace hm := it_t b430 hm
                refine wss_cons (ws_ret ?_)
                refine we_op2 op_catS ?_
                refine we_op2 op_catS ?_
                obtain ⟨c433, hm⟩ := chk_e hm
                refine EvV.p (ev_slS (ev_var 9) eo_n (eo_s (ev_var 10)) (sz_le c433)) ?_
                refine we_call (ok_L_sign T) (hr.mono (by decide)) T.m_L_sign T.F_L_sign.kp T.b_L_sign .nil pass0 ?_
                refine EvA.p (ea_cons (ev_var 4) ea_nil) ?_
                obtain ⟨t434, e435, hm⟩ := bnd_e hm
                refine ⟨cell_, t434, rfl, e435, fun H436 x438 => ?_⟩
                have s437 := Stp.ofH Wt.s x438
                have n439 := s437.ow o418 n417
                have o440 := s437.h.at o418
                have n441 := s437.ow o420 n419
                have o442 := s437.h.at o420
                have Wt := Wt.trans s437
                obtain ⟨c443, hm⟩ := chk_e hm
                refine fin_catS (sz_le c443) ?_
                obtain ⟨c444, hm⟩ := chk_e hm
                refine EvV.p (ev_slS (ev_var 9) (eo_s (ev_var 10)) eo_n (sz_le c444)) ?_
                obtain ⟨c445, hm⟩ := chk_e hm
                refine fin_catS (sz_le c445) ?_
                have HR := Option.some.inj hm
                exact fin1 (f := sV) kk HR Wt.h
              · replace hm := it_f b430 hm
                refine wss_nil ?_
                show WSs _ [some (V.str (S home_)), some (V.ref d1), some (V.int kind_), some (V.ref d5), some (V.int cell_), some (V.int many_), some (V.ref d66), some (V.int at_), none, some (V.str (S t412)), some (V.int place_), none, none, none] H414 _ _
                refine wss_cons (ws_if ?_)
                refine EvB.p (ec_eqI (ev_var 2) ev_int).te ?_
                refine ite_of (fun b446 => ?_) (fun b446 => ?_)
                · replace hm := it_t b446 hm
                  refine wss_cons (ws_ret ?_)
                  refine we_op2 op_catS ?_
                  refine we_op2 op_catS ?_
                  obtain ⟨c449, hm⟩ := chk_e hm
                  refine EvV.p (ev_slS (ev_var 9) eo_n (eo_s (ev_var 10)) (sz_le c449)) ?_
                  refine we_call (ok_L_sign T) (hr.mono (by decide)) T.m_L_sign T.F_L_sign.kp T.b_L_sign .nil pass0 ?_
                  refine EvA.p (ea_cons (ev_var 4) ea_nil) ?_
                  obtain ⟨t450, e451, hm⟩ := bnd_e hm
                  refine ⟨cell_, t450, rfl, e451, fun H452 x454 => ?_⟩
                  have s453 := Stp.ofH Wt.s x454
                  have n455 := s453.ow o418 n417
                  have o456 := s453.h.at o418
                  have n457 := s453.ow o420 n419
                  have o458 := s453.h.at o420
                  have Wt := Wt.trans s453
                  obtain ⟨c459, hm⟩ := chk_e hm
                  refine fin_catS (sz_le c459) ?_
                  obtain ⟨c460, hm⟩ := chk_e hm
                  refine EvV.p (ev_slS (ev_var 9) (eo_s (ev_add (ev_var 10) ev_int)) eo_n (sz_le c460)) ?_
                  obtain ⟨c461, hm⟩ := chk_e hm
                  refine fin_catS (sz_le c461) ?_
                  have HR := Option.some.inj hm
                  exact fin1 (f := sV) kk HR Wt.h
                · replace hm := it_f b446 hm
                  refine wss_nil ?_
                  show WSs _ [some (V.str (S home_)), some (V.ref d1), some (V.int kind_), some (V.ref d5), some (V.int cell_), some (V.int many_), some (V.ref d66), some (V.int at_), none, some (V.str (S t412)), some (V.int place_), none, none, none] H414 _ _
                  refine wss_cons (ws_if ?_)
                  refine EvB.p (ec_eqI (ev_var 2) ev_int).te ?_
                  refine ite_of (fun b462 => ?_) (fun b462 => ?_)
                  · replace hm := it_t b462 hm
                    refine wss_cons (ws_ret ?_)
                    obtain ⟨c463, hm⟩ := chk_e hm
                    obtain ⟨c464, hm⟩ := chk_e hm
                    obtain ⟨c465, hm⟩ := chk_e hm
                    obtain ⟨c466, hm⟩ := chk_e hm
                    obtain ⟨c467, hm⟩ := chk_e hm
                    obtain ⟨c468, hm⟩ := chk_e hm
                    refine q_tix Wt.s (ea_cons (ev_slS (ev_var 9) eo_n (eo_s (ev_neg ev_int)) (sz_le c463)) (ea_cons (ev_cat (ev_var 0) (ev_slS (ev_var 9) (eo_s (ev_add (ev_lenS (ev_var 0) (sz_le c464) T.z_len) ev_int)) eo_n (sz_le c465)) (sz_le c466)) (ea_cons (ev_cat (ev_var 9) (ev_str lit_11) (sz_le c467)) (ea_cons (ev_cat (ev_var 9) (ev_str lit_4) (sz_le c468)) (ea_cons (ev_str lit_1) ea_nil))))) (sz_le (by simp)) rfl fun d469 F470 H471 s472 h473 => ?_
                    have n474 := s472.ow o418 n417
                    have o475 := s472.h.at o418
                    have n476 := s472.ow o420 n419
                    have o477 := s472.h.at o420
                    have Wt := Wt.trans s472
                    have U478 := Stp.refl Wt.s
                    obtain ⟨t479, e480, hm⟩ := bnd_e hm
                    refine EvV.p (ev_mod (ev_ixL (ev_var 3) ev_int (sq_of (Wt.s.at (Ex.at ((((s30.f.trans s70.f).trans s147.f).trans s250.f).trans s472.f) h6))) (atI_map e480)) ev_int (by decide)) ?_
                    obtain ⟨t481, e482, hm⟩ := bnd_e hm
                    refine ⟨_, _, rfl, U478, _, atI_map (f := sV) e482, ?_⟩
                    have HR := Option.some.inj hm
                    exact fin1 (f := sV) kk HR Wt.h
                  · replace hm := it_f b462 hm
                    refine wss_nil ?_
                    show WSs _ [some (V.str (S home_)), some (V.ref d1), some (V.int kind_), some (V.ref d5), some (V.int cell_), some (V.int many_), some (V.ref d66), some (V.int at_), none, some (V.str (S t412)), some (V.int place_), none, none, none] H414 _ _
                    refine wss_cons (ws_ret ?_)
                    refine EvV.p (ev_var 9) ?_
                    have HR := Option.some.inj hm
                    exact fin1 (f := sV) kk HR Wt.h
def sp_L_whole {K : PySem.W.Frag} {mg : Str → Option Value} {base : Heap} (T : Txt K mg base) : Sp := fun vs H Q _ => ∃ (found_ : Int) (rr : Bool), vs = [(V.int found_)] ∧ m_L_whole found_ = some rr ∧ ∀ H', Ex T.tb H H' → Q (V.bl rr) H'
theorem ok_L_whole (T : Txt K mg base) : FnOk P w K mg base CX0 1 T.f_L_whole T.d_L_whole ["_law_found"] (sp_L_whole T) := by
  refine okW T.F_L_whole sc_L_whole (fun vs H Q E h => ?_) (fun cdv A outer s H vs Q E hr h => ?_)
  · obtain ⟨_, _, rfl, _⟩ := h
    rfl
  · obtain ⟨found_, rr, rfl, hm, kk⟩ := h
    have nd := sc_L_whole.nd
    have Wt := Stp.refl (Ex.refl (tb := T.tb) H)
    unfold m_L_whole at hm
    show WSs _ [some (V.int found_)] H _ _
    refine wss_cons (ws_ret ?_)
    refine EvV.p (ev_and (we_isi (T := "int") (T' := "int") (k := true) (ev_var 0) (.base (.int _)) (by decide +kernel) T.z_isinstance T.z_int (by decide +kernel)) fun _ => (ev_and1 (ev_not (we_isi (T := "int") (T' := "bool") (k := false) (ev_var 0) (.base (.int _)) (by decide +kernel) T.z_isinstance T.z_bool (by decide +kernel))))) ?_
    have HR := Option.some.inj hm
    exact fin1 (f := V.bl) kk HR Wt.h
def sp_law {K : PySem.W.Frag} {mg : Str → Option Value} {base : Heap} (T : Txt K mg base) : Sp := fun vs H Q _ => ∃ (w0 : V) (script_ : (List Int)) (rr : Bool), vs = [w0] ∧ (rScr K) H w0 script_ ∧ m_law script_ = some rr ∧ ∀ H', Ex T.tb H H' → Q (V.bl rr) H'
theorem ok_law (T : Txt K mg base) : FnOk P w K mg base CX0 4 T.f_law T.d_law ["_law_script"] (sp_law T) := by
  refine okW T.F_law sc_law (fun vs H Q E h => ?_) (fun cdv A outer s H vs Q E hr h => ?_)
  · obtain ⟨_, _, _, rfl, _⟩ := h
    rfl
  · obtain ⟨w0, script_, rr, rfl, ⟨d2, rfl, h3⟩, hm, kk⟩ := h
    have nd := sc_law.nd
    have Wt := Stp.refl (Ex.refl (tb := T.tb) H)
    unfold m_law at hm
    show WSs _ [some (V.ref d2), none, none, none, none, none, none, none, none, none] H _ _
    refine wss_cons (ws_asg 1 nd ?_)
    refine we_call (ok_L_cell_at T) (hr.mono (by decide)) T.m_L_cell_at T.F_L_cell_at.kp T.b_L_cell_at .nil pass0 ?_
    refine EvA.p (ea_cons (ev_var 0) (ea_cons ev_int ea_nil)) ?_
    obtain ⟨t4, e5, hm⟩ := bnd_e hm
    refine ⟨_, script_, (1 : Int), t4, rfl, ⟨_, rfl, (ex_l Wt.s h3)⟩, e5, fun H6 x8 => ?_⟩
    have s7 := Stp.ofH Wt.s x8
    have Wt := Wt.trans s7
    show WSs _ [some (V.ref d2), some (V.int t4), none, none, none, none, none, none, none, none] H6 _ _
    refine wss_cons (ws_asg 2 nd ?_)
    refine we_call (ok_L_stream T) (hr.mono (by decide)) T.m_L_stream T.F_L_stream.kp T.b_L_stream .nil pass0 ?_
    refine wa_cons ?_
    refine we_call (ok_L_cell_at T) (hr.mono (by decide)) T.m_L_cell_at T.F_L_cell_at.kp T.b_L_cell_at .nil pass0 ?_
    refine EvA.p (ea_cons (ev_var 0) (ea_cons ev_int ea_nil)) ?_
    obtain ⟨t9, e10, hm⟩ := bnd_e hm
    refine ⟨_, script_, (2 : Int), t9, rfl, ⟨_, rfl, (ex_l Wt.s h3)⟩, e10, fun H11 x13 => ?_⟩
    have s12 := Stp.ofH Wt.s x13
    have Wt := Wt.trans s12
    refine wa_consP ev_int ?_
    refine wa_nil ?_
    obtain ⟨t14, e15, hm⟩ := bnd_e hm
    refine ⟨_, t9, (6 : Int), t14, rfl, Ex.refl _, e15, fun v19 F18 H16 s17 g20 => ?_⟩
    obtain ⟨d21, rfl, n22, _, o24⟩ := g20
    have z25 := Wt.h.free n22
    have n23 := Wt.s.free n22
    have s17 := Stp.ofH Wt.s s17.h
    have Wt := Wt.trans s17
    show WSs _ [some (V.ref d2), some (V.int t4), some (V.ref d21), none, none, none, none, none, none, none] H16 _ _
    refine wss_cons (ws_asg 3 nd ?_)
    refine we_call (ok_L_runs_by T) (hr.mono (by decide)) T.m_L_runs_by T.F_L_runs_by.kp T.b_L_runs_by .nil pass0 ?_
    refine wa_consP (ev_var 0) ?_
    refine wa_cons ?_
    refine we_call (ok_L_cell_at T) (hr.mono (by decide)) T.m_L_cell_at T.F_L_cell_at.kp T.b_L_cell_at .nil pass0 ?_
    refine EvA.p (ea_cons (ev_var 0) (ea_cons ev_int ea_nil)) ?_
    obtain ⟨t26, e27, hm⟩ := bnd_e hm
    refine ⟨_, script_, (0 : Int), t26, rfl, ⟨_, rfl, (ex_l Wt.s h3)⟩, e27, fun H28 x30 => ?_⟩
    have s29 := Stp.ofH Wt.s x30
    have n31 := s29.ow o24 n23
    have o32 := s29.h.at o24
    have Wt := Wt.trans s29
    refine wa_nil ?_
    obtain ⟨t33, e34, hm⟩ := bnd_e hm
    refine ⟨_, _, script_, t26, t33, rfl, Wt.s, ⟨_, rfl, h3⟩, e34, fun v38 F37 H35 s36 g39 => ?_⟩
    obtain ⟨d40, ws45, rfl, n41, n42, o43, p46⟩ := g39
    have z44 := Wt.h.free n41
    have n47 := s36.ow o32 n31
    have o48 := s36.h.at o32
    have Wt := Wt.trans s36
    have d49 := ne_new o32 n41
    show WSs _ [some (V.ref d2), some (V.int t4), some (V.ref d21), some (V.ref d40), none, none, none, none, none, none] H35 _ _
    refine wss_ifcut ?_
    obtain ⟨t50, e51, hm⟩ := bnd_e hm
    refine EvB.p (ec_gt (ev_mod (ev_ixL (ev_var 2) ev_int (sq_of o48) (atI_map e51)) ev_int (by decide)) ev_int).te ?_
    obtain ⟨runs_, e54, hm⟩ := bnd_e hm
    refine ⟨fun σx Hx => ∃ Fx dx0 wx1, Stp T.tb H H Fx Hx ∧ Ex T.tb F37 Fx ∧ σx = [some (V.ref d2), some (V.int t4), some (V.ref d21), some (.ref dx0), none, none, none, none, none, none] ∧ Hx dx0 = some (.lst wx1) ∧ Paired ((rT2 (fl sV) (fl V.int)) Fx) wx1 runs_ ∧ Fx dx0 = none ∧ H dx0 = none ∧ dx0 ≠ d21 ∧ Hx d21 = some (.lst (List.map V.int t14)) ∧ Fx d21 = none, ?_, ?_⟩
    · refine ite_of (fun b52 => ?_) (fun b52 => ?_)
      · have g55 := it_t b52 e54
        refine wss_cons (ws_asg 3 nd ?_)
        refine we_call (ok_L_fitted T) (hr.mono (by decide)) T.m_L_fitted T.F_L_fitted.kp T.b_L_fitted .nil pass0 ?_
        obtain ⟨t57, e58, g55⟩ := bnd_e g55
        refine EvA.p (ea_cons (ev_var 3) (ea_cons (ev_add ev_int (ev_intB (ec_eqI (ev_mod (ev_ixL (ev_var 2) ev_int (sq_of o48) (atI_map e58)) ev_int (by decide)) ev_int).va T.z_int)) ea_nil)) ?_
        obtain ⟨F60, s59, x62, h61, s59n⟩ := fz_all Wt z44 n42 o43
        have n63 := s59n _ d49 n47
        have Wt := s59
        obtain ⟨t64, e65, g55⟩ := bnd_e g55
        refine ⟨_, _, t33, ((300 : Int) + (b2I (decide ((t57 % (16 : Int)) = (1 : Int))))), t64, rfl, Wt.s, ⟨_, _, rfl, h61, (pd_imp (fun v y h => (mn_rT2 mn_fl mn_fl) _ _ _ v y x62 h) p46)⟩, e65, fun v69 F68 H66 s67 g70 => ?_⟩
        obtain ⟨d71, ws76, rfl, n72, n73, o74, p77⟩ := g70
        have z75 := Wt.h.free n72
        have n78 := s67.ow o48 n63
        have o79 := s67.h.at o48
        have Wt := Wt.trans s67
        have d80 := ne_new o48 n72
        show WSs _ [some (V.ref d2), some (V.int t4), some (V.ref d21), some (V.ref d71), none, none, none, none, none, none] H66 _ _
        refine wss_nil ?_
        cases g55
        exact ⟨F68, d71, _, Wt, (x62.trans s67.f), rfl, o74, p77, n73, z75, (Ne.symm d80), o79, n78⟩
      · have g55 := it_f b52 e54
        refine wss_nil ?_
        cases g55
        exact ⟨F37, d40, _, Wt, (Ex.refl _), rfl, o43, p46, n42, z44, (Ne.symm d49), o48, n47⟩
    · intro w81 H82 h83
      obtain ⟨F85, d87, ws91, Wt, x86, rfl, o88, p92, n89, z90, d93, o94, n95⟩ := h83
      have hm : m_law_k1 script_ t4 t14 runs_ = some _ := hm
      unfold m_law_k1 at hm
      show WSs _ [some (V.ref d2), some (V.int t4), some (V.ref d21), some (V.ref d87), none, none, none, none, none, none] H82 _ _
      refine wss_cons (ws_asg 4 nd ?_)
      refine we_sumI T.z_sum ?_
      refine we_lcE (own := [("_law_run", 9)]) (g := (gName 9)) nd rfl (blkOk_by (own := [("_law_run", 9)]) (N := N_law) (sc := defScope s_law) (by decide +kernel)) (fun _ _ _ _ _ => (pg_name (i := 9) nd rfl (by first | exact Or.inl rfl | exact Or.inr rfl))) ?_
      refine EvV.p (ev_var 3) ?_
      obtain ⟨c118, hm⟩ := chk_e hm
      obtain ⟨t116, e117, hm⟩ := bnd_e hm
      refine ⟨_, rfl, ⟨_, (sq_of o88)⟩, lcg_of (sv_Lr p92) gname_mono e117 c118 (fl V.int) mn_fl Wt.s (fun H5 q => ex_l q (sq_of o88)) ?_ ?_⟩
      · intro i98 v99 F100 H101 H102 o103 h104 s105 y106 g96
        have n107 := s105.ow o94 n95
        have o108 := s105.h.at o94
        have n109 := s105.ow o88 n89
        have o110 := s105.h.at o88
        have Wt := Wt.trans s105
        have U97 := Stp.refl Wt.s
        obtain ⟨rfl, r111⟩ := y106
        obtain ⟨d112, v114, v115, rfl, h113, rfl, rfl⟩ := r111
        refine ⟨rfl, ?_⟩
        intro s0 H00 C0 cl0 fp0
        refine EvV.p (ev_ixT (ev_var 9) ev_int (st_of (Wt.s.at (Ex.at s105.f h113))) rfl) ?_
        exact ⟨_, _, U97, (Option.some.inj g96).symm, rfl⟩
      intro d119 F120 H121 ws122 s123 n124 n125 o126 p127
      rw [pd_flat p127] at o126
      have z128 := Wt.h.free n124
      have n129 := s123.ow o94 n95
      have o130 := s123.h.at o94
      have n131 := s123.ow o88 n89
      have o132 := s123.h.at o88
      have Wt := Wt.trans s123
      have d133 := ne_new o94 n124
      have d134 := ne_new o88 n124
      refine ⟨_, _, rfl, (sq_of o126), ?_⟩
      show WSs _ [some (V.ref d2), some (V.int t4), some (V.ref d21), some (V.ref d87), some (V.int ((t116).sum : Int)), none, none, none, none, none] H121 _ _
      obtain ⟨many_, q135, hm⟩ := lt_x hm
      rw [show (V.int (((t116).sum : Int))) = (V.int many_) from congrArg V.int q135.symm]
      show WSs _ [some (V.ref d2), some (V.int t4), some (V.ref d21), some (V.ref d87), some (V.int many_), none, none, none, none, none] H121 _ _
      refine wss_cons (ws_asg 5 nd ?_)
      refine we_strI T.z_str ?_
      refine we_op2 op_mod ?_
      refine we_call (ok_L_cell_at T) (hr.mono (by decide)) T.m_L_cell_at T.F_L_cell_at.kp T.b_L_cell_at .nil pass0 ?_
      refine EvA.p (ea_cons (ev_var 0) (ea_cons ev_int ea_nil)) ?_
      obtain ⟨t136, e137, hm⟩ := bnd_e hm
      refine ⟨_, script_, (3 : Int), t136, rfl, ⟨_, rfl, (ex_l Wt.s (ex_l ((s36.f.trans x86).trans s123.f) h3))⟩, e137, fun H138 x140 => ?_⟩
      have s139 := Stp.ofH Wt.s x140
      have n141 := s139.ow o130 n129
      have o142 := s139.h.at o130
      have n143 := s139.ow o132 n131
      have o144 := s139.h.at o132
      have n145 := s139.ow o126 n125
      have o146 := s139.h.at o126
      have Wt := Wt.trans s139
      refine EvV.p (ev_add (ev_var 4) ev_int) ?_
      obtain ⟨c147, hm⟩ := chk_e hm
      refine ⟨_, _, rfl, rfl, c147, ?_⟩
      obtain ⟨c148, hm⟩ := chk_e hm
      refine ⟨_, rfl, c148, ?_⟩
      show WSs _ [some (V.ref d2), some (V.int t4), some (V.ref d21), some (V.ref d87), some (V.int many_), some (V.str (S (strI ((t136 % (many_ + (1 : Int))))))), none, none, none, none] H138 _ _
      obtain ⟨home_, q149, hm⟩ := lt_x hm
      rw [show (V.str (S ((strI ((t136 % (many_ + (1 : Int)))))))) = (V.str (S home_)) from congrArg sV q149.symm]
      show WSs _ [some (V.ref d2), some (V.int t4), some (V.ref d21), some (V.ref d87), some (V.int many_), some (V.str (S home_)), none, none, none, none] H138 _ _
      refine wss_cons (ws_asg 6 nd ?_)
      refine we_call (ok_L_spoilt T) (hr.mono (by decide)) T.m_L_spoilt T.F_L_spoilt.kp T.b_L_spoilt .nil pass0 ?_
      obtain ⟨t150, e151, hm⟩ := bnd_e hm
      refine EvA.p (ea_cons (ev_var 5) (ea_cons (ev_var 3) (ea_cons (ev_mod (ev_ixL (ev_var 2) ev_int (sq_of o142) (atI_map e151)) ev_int (by decide)) (ea_cons (ev_var 2) (ea_cons (ev_var 1) ea_nil))))) ?_
      obtain ⟨t152, e153, hm⟩ := bnd_e hm
      refine ⟨home_, _, runs_, (t150 % (10 : Int)), _, t14, t4, t152, rfl, ⟨_, _, rfl, o144, (pd_imp (fun v y h => (mn_rT2 mn_fl mn_fl) _ _ _ v y Wt.s h) (pd_imp (fun v y h => (mn_rT2 mn_fl mn_fl) _ _ _ v y s123.f h) p92))⟩, ⟨_, rfl, o142⟩, e153, fun H154 x156 => ?_⟩
      have s155 := Stp.ofH Wt.s x156
      have n157 := s155.ow o142 n141
      have o158 := s155.h.at o142
      have n159 := s155.ow o144 n143
      have o160 := s155.h.at o144
      have n161 := s155.ow o146 n145
      have o162 := s155.h.at o146
      have Wt := Wt.trans s155
      show WSs _ [some (V.ref d2), some (V.int t4), some (V.ref d21), some (V.ref d87), some (V.int many_), some (V.str (S home_)), some (V.str (S t152)), none, none, none] H154 _ _
      refine wss_cons (ws_asg 7 nd ?_)
      refine we_call (ok_L_due T) (hr.mono (by decide)) T.m_L_due T.F_L_due.kp T.b_L_due .nil pass0 ?_
      refine EvA.p (ea_cons (ev_var 6) ea_nil) ?_
      obtain ⟨t163, e164, hm⟩ := bnd_e hm
      refine ⟨_, t152, t163, rfl, Wt.s, e164, fun v168 F167 H165 s166 g169 => ?_⟩
      have h170 := g169
      have n171 := s166.ow o158 n157
      have o172 := s166.h.at o158
      have n173 := s166.ow o160 n159
      have o174 := s166.h.at o160
      have n175 := s166.ow o162 n161
      have o176 := s166.h.at o162
      have Wt := Wt.trans s166
      show WSs _ [some (V.ref d2), some (V.int t4), some (V.ref d21), some (V.ref d87), some (V.int many_), some (V.str (S home_)), some (V.str (S t152)), some v168, none, none] H165 _ _
      refine wss_cons (ws_if ?_)
      refine EvB.p (ec_isNG (fun _ _ _ ⟨_, _, _, e, _⟩ z => nomatch (e.symm.trans z)) (ev_var 7) h170 ev_non).te ?_
      refine ite_of (fun b177 => ?_) (fun b177 => ?_)
      · replace hm := it_t b177 hm
        refine wss_cons (ws_ret ?_)
        refine we_call (ok_L_refused T) (hr.mono (by decide)) T.m_L_refused T.F_L_refused.kp T.b_L_refused .nil pass0 ?_
        refine EvA.p (ea_cons (ev_var 6) ea_nil) ?_
        obtain ⟨t178, e179, hm⟩ := bnd_e hm
        refine ⟨t152, t178, rfl, e179, fun H180 x182 => ?_⟩
        have s181 := Stp.ofH Wt.s x182
        have n183 := s181.ow o172 n171
        have o184 := s181.h.at o172
        have n185 := s181.ow o174 n173
        have o186 := s181.h.at o174
        have n187 := s181.ow o176 n175
        have o188 := s181.h.at o176
        have Wt := Wt.trans s181
        have HR := Option.some.inj hm
        exact fin1 (f := V.bl) kk HR Wt.h
      · replace hm := it_f b177 hm
        obtain ⟨t189, e190, hm⟩ := bnd_e hm
        obtain ⟨d192, v194, v195, rfl, h193, rfl, rfl⟩ := rO_some h170 e190
        show WSs _ [some (V.ref d2), some (V.int t4), some (V.ref d21), some (V.ref d87), some (V.int many_), some (V.str (S home_)), some (V.str (S t152)), some (V.ref d192), none, none] H165 _ _
        refine wss_nil ?_
        show WSs _ [some (V.ref d2), some (V.int t4), some (V.ref d21), some (V.ref d87), some (V.int many_), some (V.str (S home_)), some (V.str (S t152)), some (V.ref d192), none, none] H165 _ _
        refine wss_cons (ws_asg 8 nd ?_)
        refine we_call (ok_unpacked T) (hr.mono (by decide)) T.m_unpacked T.F_unpacked.kp T.b_unpacked .nil passL ?_
        refine EvA.p (ea_cons (ev_var 6) ea_nil) ?_
        obtain ⟨t196, e197, hm⟩ := bnd_e hm
        refine ⟨_, t152, .ok t196, rfl, Wt.s, (okO_e e197), fun _ z v201 F198 H199 s200 g202 => ?_, fun _ z => (by cases z)⟩
        cases z
        obtain ⟨d203, v205, v206, rfl, h204, rfl, rfl⟩ := g202
        have n207 := s200.ow o172 n171
        have o208 := s200.h.at o172
        have n209 := s200.ow o174 n173
        have o210 := s200.h.at o174
        have n211 := s200.ow o176 n175
        have o212 := s200.h.at o176
        have Wt := Wt.trans s200
        show WSs _ [some (V.ref d2), some (V.int t4), some (V.ref d21), some (V.ref d87), some (V.int many_), some (V.str (S home_)), some (V.str (S t152)), some (V.ref d192), some (V.ref d203), none] H199 _ _
        refine wss_cons (ws_if ?_)
        obtain ⟨t213, e214, hm⟩ := bnd_e hm
        refine WT.mono (Q := fun k H1 => k = t213 ∧ ∃ F1, Stp T.tb F198 H199 F1 H1) (WW.t ?_) ?_
        · have U215 := Stp.refl Wt.s
          refine ww_or ?_
          refine EvB.p (eb_not (eb_val (we_isi (T := "tuple") (T' := "tuple") (k := true) (ev_var 8) (.base (.tup (Wt.s.at h204))) (by decide +kernel) T.z_isinstance T.z_tuple (by decide +kernel)))) ?_
          refine ite_of (fun b229 => ?_) (fun b229 => ?_)
          · replace e214 := it_t b229 e214
            cases e214
            exact ⟨rfl, _, U215⟩
          · replace e214 := it_f b229 e214
            refine ww_or ?_
            refine EvB.p (ec_neI (ev_lenT (ev_var 8) (st_of (Wt.s.at h204)) T.z_len) ev_int).te ?_
            refine ite_of (fun b228 => ?_) (fun b228 => ?_)
            · replace e214 := it_t b228 e214
              cases e214
              exact ⟨rfl, _, U215⟩
            · replace e214 := it_f b228 e214
              refine ww_or ?_
              refine EvB.p (eb_not (eb_val (we_isi (T := "str") (T' := "str") (k := true) (ev_ixT (ev_var 8) ev_int (st_of (Wt.s.at h204)) rfl) (.base (.str _)) (by decide +kernel) T.z_isinstance T.z_str (by decide +kernel)))) ?_
              refine ite_of (fun b227 => ?_) (fun b227 => ?_)
              · replace e214 := it_t b227 e214
                cases e214
                exact ⟨rfl, _, U215⟩
              · replace e214 := it_f b227 e214
                refine ww_or1 ?_
                refine wt_not ?_
                refine wt_val ?_
                refine we_call (ok_L_whole T) (hr.mono (by decide)) T.m_L_whole T.F_L_whole.kp T.b_L_whole .nil pass0 ?_
                refine EvA.p (ea_cons (ev_ixT (ev_var 8) ev_int (st_of (Wt.s.at h204)) rfl) ea_nil) ?_
                obtain ⟨t216, e217, e214⟩ := bnd_e e214
                refine ⟨t196.2, t216, rfl, e217, fun H218 x220 => ?_⟩
                have s219 := Stp.ofH Wt.s x220
                have n221 := s219.ow o208 n207
                have o222 := s219.h.at o208
                have n223 := s219.ow o210 n209
                have o224 := s219.h.at o210
                have n225 := s219.ow o212 n211
                have o226 := s219.h.at o212
                have Wt := Wt.trans s219
                have U215 := U215.trans s219
                refine ⟨_, rfl, ?_⟩
                cases e214
                exact ⟨rfl, _, U215⟩
        rintro _ H231 ⟨rfl, F230, s232⟩
        have n233 := s232.ow o208 n207
        have o234 := s232.h.at o208
        have n235 := s232.ow o210 n209
        have o236 := s232.h.at o210
        have n237 := s232.ow o212 n211
        have o238 := s232.h.at o212
        have Wt := Wt.trans s232
        refine ite_of (fun b239 => ?_) (fun b239 => ?_)
        · replace hm := it_t b239 hm
          refine wss_cons (ws_ret ?_)
          refine EvV.p ev_bl ?_
          have HR := Option.some.inj hm
          exact fin1 (f := V.bl) kk HR Wt.h
        · replace hm := it_f b239 hm
          refine wss_nil ?_
          show WSs _ [some (V.ref d2), some (V.int t4), some (V.ref d21), some (V.ref d87), some (V.int many_), some (V.str (S home_)), some (V.str (S t152)), some (V.ref d192), some (V.ref d203), none] H231 _ _
          refine wss_cons (ws_ret ?_)
          refine EvV.p (ev_and (ec_eqS (ev_ixT (ev_var 8) ev_int (st_of (Wt.s.at (Ex.at s232.f h204))) rfl) (ev_ixT (ev_var 7) ev_int (st_of (Wt.s.at (Ex.at (s200.f.trans s232.f) h193))) rfl)).va fun _ => (ev_and1 (ec_eqI (ev_ixT (ev_var 8) ev_int (st_of (Wt.s.at (Ex.at s232.f h204))) rfl) (ev_ixT (ev_var 7) ev_int (st_of (Wt.s.at (Ex.at (s200.f.trans s232.f) h193))) rfl)).va)) ?_
          have HR := Option.some.inj hm
          exact fin1 (f := V.bl) kk HR Wt.h
end
end Bk
namespace Bk
open PySem L2
theorem cell_ok (s : List Int) (k : Int) (hk : 0 ≤ k) : ∃ v, m_L_cell_at s k = some v := by
  unfold m_L_cell_at it
  split
  · rename_i h
    obtain ⟨x, e, _, _⟩ := atI_in hk (of_decide_eq_true h)
    exact ⟨x, by rw [bnd_i e]⟩
  · exact ⟨_, rfl⟩
theorem kS_ok {l : List Nat} (h : ∀ c ∈ l, 32 ≤ c ∧ c < 127) : kS l = true := by
  show PySem.PyData.strOk (S l) = true
  unfold PySem.PyData.strOk
  rw [Array.all_eq_true']
  intro x hx
  have : x ∈ l := by simpa [S] using hx
  have := h x this
  exact decide_eq_true (by omega)
abbrev Ok (l : List Nat) : Prop := ∀ c ∈ l, 32 ≤ c ∧ c < 127
/-! texts cut at a sign -/
open TL (tl ext_tl tl_append partition_app partition_none numL tl_num numL_lt numL_step numL_digits numL_ne numL_free numL_val numL_len)
def spl1 (c : Nat) : List Nat → Option (List Nat × List Nat)
  | [] => none
  | x :: r => if x = c then some ([], r) else match spl1 c r with
    | none => none
    | some p => some (x :: p.1, p.2)
theorem spl1_app {c : Nat} {b : List Nat} : ∀ {a : List Nat}, c ∉ a → spl1 c (a ++ c :: b) = some (a, b)
  | [], _ => by
    show (if c = c then _ else _) = _
    rw [if_pos rfl]
  | x :: a, h => by
    have hx : x ≠ c := fun z => h (z ▸ List.mem_cons_self ..)
    show (if x = c then _ else _) = _
    rw [if_neg hx]
    show (match spl1 c (a ++ c :: b) with | none => none | some p => some (x :: p.1, p.2)) = _
    rw [spl1_app fun z => h (List.mem_cons_of_mem _ z)]
theorem spl1_no {c : Nat} : ∀ {a : List Nat}, c ∉ a → spl1 c a = none
  | [], _ => rfl
  | x :: a, h => by
    have hx : x ≠ c := fun z => h (z ▸ List.mem_cons_self ..)
    show (if x = c then _ else _) = _
    rw [if_neg hx, spl1_no fun z => h (List.mem_cons_of_mem _ z)]
theorem spl1_some {c : Nat} : ∀ {l a b : List Nat}, spl1 c l = some (a, b) → l = a ++ c :: b ∧ c ∉ a
  | [], a, b, h => by cases h
  | x :: r, a, b, h => by
    unfold spl1 at h
    split at h
    · rename_i e
      cases h
      exact ⟨by rw [e]; rfl, by simp⟩
    · rename_i hx
      split at h
      · cases h
      · rename_i p e
        cases h
        obtain ⟨e1, e2⟩ := spl1_some (a := p.1) (b := p.2) e
        refine ⟨by rw [e1]; rfl, fun z => ?_⟩
        rcases List.mem_cons.1 z with z | z
        · exact hx z.symm
        · exact e2 z
theorem spl1_none {c : Nat} : ∀ {l : List Nat}, spl1 c l = none → c ∉ l
  | [], _ => by simp
  | x :: r, h => by
    unfold spl1 at h
    split at h
    · cases h
    · rename_i hx
      split at h
      · rename_i e
        intro z
        rcases List.mem_cons.1 z with z | z
        · exact hx z.symm
        · exact spl1_none e z
      · cases h
theorem tl_S (l : List Nat) : tl (S l) = l := S_toList l
theorem part1_eq (l : List Nat) (c : Nat) : part1 l c = match spl1 c l with
    | some p => (p.1, [c], p.2)
    | none => (l, [], []) := by
  unfold part1
  cases h : spl1 c l with
  | none =>
    have e := partition_none (y := S [c]) (s := c) (S := []) rfl (a := S l) (by rw [tl_S]; exact spl1_none h)
    rw [← S_one, e]
    show (tl (S l), tl (Str.empty), tl (Str.empty)) = _
    rw [tl_S]
    rfl
  | some p =>
    obtain ⟨e1, e2⟩ := spl1_some (a := p.1) (b := p.2) h
    have es : S l = S p.1 ++ S [c] ++ S p.2 := ext_tl (by
      rw [tl_append, tl_append, tl_S, tl_S, tl_S, tl_S, e1, List.append_assoc]
      rfl)
    have e := partition_app (y := S [c]) (s := c) (S := []) rfl (a := S p.1) (b := S p.2) (by rw [tl_S]; exact e2)
    rw [← S_one, es, e]
    show (tl (S p.1), tl (S [c]), tl (S p.2)) = _
    rw [tl_S, tl_S, tl_S]
theorem find1_eq (l : List Nat) (c : Nat) {i : Nat} (hi : i ≤ l.length) : find1 l c (i : Int) = match spl1 c (l.drop i) with
    | some p => ((i + p.1.length : Nat) : Int)
    | none => -1 := by
  unfold find1
  have hf : fromIndex (S l).length (i : Int) = i := by
    unfold fromIndex
    omega
  have hg : ∀ v, (S l).cps.getD v 0 = l.getD v 0 := fun v => by
    unfold S
    simp
  have hl : (S l).length = l.length := S_length l
  have sp := StrLaws.find3_spec (S l) c i
  rw [hf, hl] at sp
  cases h : spl1 c (l.drop i) with
  | none =>
    have hn := spl1_none h
    rcases sp with ⟨e, _⟩ | ⟨k, e, k1, k2, k3, _⟩
    · exact e
    · refine absurd ?_ hn
      rw [hg, List.getD_eq_getElem?_getD, List.getElem?_eq_getElem k2] at k3
      have : (l.drop i)[k - i]? = some c := by
        rw [List.getElem?_drop, show i + (k - i) = k by omega, List.getElem?_eq_getElem k2]
        exact congrArg some k3
      exact List.mem_of_getElem? this
  | some p =>
    obtain ⟨e1, e2⟩ := spl1_some (a := p.1) (b := p.2) h
    have hlen : l.length - i = p.1.length + (p.2.length + 1) := by
      have := congrArg List.length e1
      rw [List.length_drop, List.length_append, List.length_cons] at this
      exact this
    have hd : ∀ v, l.getD (i + v) 0 = (l.drop i).getD v 0 := fun v => by
      rw [List.getD_eq_getElem?_getD, List.getD_eq_getElem?_getD, List.getElem?_drop]
    rcases sp with ⟨_, n⟩ | ⟨k, e, k1, k2, k3, k4⟩
    · refine absurd ?_ (n (i + p.1.length) (by omega) (by omega))
      rw [hg, hd, e1, List.getD_eq_getElem?_getD, List.getElem?_append_right (Nat.le_refl _), Nat.sub_self]
      rfl
    · rw [e]
      show (k : Int) = ((i + p.1.length : Nat) : Int)
      rcases Nat.lt_trichotomy k (i + p.1.length) with z | z | z
      · exfalso
        rw [hg, show k = i + (k - i) by omega, hd, e1, List.getD_eq_getElem?_getD, List.getElem?_append_left (by omega), List.getElem?_eq_getElem (by omega)] at k3
        exact e2 (k3 ▸ List.getElem_mem (by omega))
      · rw [z]
      · refine absurd ?_ (k4 (i + p.1.length) (by omega) z)
        rw [hg, hd, e1, List.getD_eq_getElem?_getD, List.getElem?_append_right (Nat.le_refl _), Nat.sub_self]
        rfl
theorem cut_last {α : Type} (b : List α) (d : α) : cut (b ++ [d]) (some (-(1 : Int))) none = [d] := by
  unfold cut
  have e0 : HT.sIx (b ++ [d]).length (b ++ [d]).length none = (b ++ [d]).length := HT.sIx_none _ _
  have e : HT.sIx (b ++ [d]).length 0 (some (-(1 : Int))) = b.length := by
    unfold HT.sIx
    simp only []
    rw [if_pos (by decide), List.length_append, List.length_singleton]
    omega
  rw [e, e0, List.drop_left' rfl, List.length_append, List.length_singleton, show b.length + 1 - b.length = 1 by omega]
  rfl
theorem whX_t {ρ σ : Type} {c : σ → Option Bool} {step : σ → Option (Lp ρ σ)} {n : Nat} {s : σ} (h : c s = some true) : whX c step (n + 1) s = bnd (step s) fun o => match o with
    | .nx s' => whX c step n s'
    | .bk s' => some (.nx s')
    | .rt r => some (.rt r) := by
  conv => lhs; unfold whX
  rw [h]
  simp only []
  unfold bnd
  cases step s with
  | none => rfl
  | some o => cases o <;> rfl
theorem whX_f {ρ σ : Type} {c : σ → Option Bool} {step : σ → Option (Lp ρ σ)} {n : Nat} {s : σ} (h : c s = some false) : whX c step (n + 1) s = some (.nx s) := by
  unfold whX
  rw [h]
theorem whS_t {σ : Type} {c : σ → Option Bool} {step : σ → Option σ} {n : Nat} {s s' : σ} (h : c s = some true) (hs : step s = some s') : whS c step (n + 1) s = whS c step n s' := by
  conv => lhs; unfold whS
  rw [h]
  simp only []
  rw [hs]
theorem whS_f {σ : Type} {c : σ → Option Bool} {step : σ → Option σ} {n : Nat} {s : σ} (h : c s = some false) : whS c step (n + 1) s = some s := by
  unfold whS
  rw [h]
/-! what a packed text tells -/
def isNum (f : List Nat) : Prop := f ≠ [] ∧ f.length ≤ 3 ∧ (∀ c ∈ f, 48 ≤ c ∧ c ≤ 57) ∧ (f.head? = some 48 → f = [48])
instance (f : List Nat) : Decidable (isNum f) := by unfold isNum; infer_instance
def numQ (f : List Nat) : Option Nat := if isNum f then some (NumText.digitsVal f) else none
theorem intT_digits {f : List Nat} (h : ∀ c ∈ f, 48 ≤ c ∧ c ≤ 57) (h1 : f ≠ []) (h2 : f.length ≤ 4300) : intT f = some (NumText.digitsVal f : Int) := by
  have e := intText_digits (x := S f) (by rw [S_toList]; exact h) (by rw [S_toList]; exact h1) (by rw [S_length]; exact h2)
  rw [S_toList] at e
  exact e
theorem numQ_lt {f : List Nat} {n : Nat} (h : numQ f = some n) : n < 1000 := by
  unfold numQ at h
  split at h
  · rename_i hn
    cases h
    obtain ⟨h1, h2, h3, _⟩ := hn
    match f, h1, h2, h3 with
    | [a], _, _, h3 =>
      have := h3 a (by simp)
      show 0 * 10 + (a - 48) < 1000
      omega
    | [a, b], _, _, h3 =>
      have := h3 a (by simp)
      have := h3 b (by simp)
      show (0 * 10 + (a - 48)) * 10 + (b - 48) < 1000
      omega
    | [a, b, c], _, _, h3 =>
      have := h3 a (by simp)
      have := h3 b (by simp)
      have := h3 c (by simp)
      show ((0 * 10 + (a - 48)) * 10 + (b - 48)) * 10 + (c - 48) < 1000
      omega
    | a :: b :: c :: d :: r, _, h2, _ => simp at h2
  · cases h
theorem digit_mem {c : Nat} : c ∈ ([48, 49, 50, 51, 52, 53, 54, 55, 56, 57] : List Nat) ↔ 48 ≤ c ∧ c ≤ 57 := by
  simp only [List.mem_cons, List.not_mem_nil, or_false]
  omega
def prs : Nat → List Nat → List Nat → Option (List Nat)
  | 0, _, _ => none
  | _ + 1, acc, [] => some acc
  | n + 1, acc, c :: r => match spl1 59 r with
    | none => none
    | some p => match numQ p.1 with
      | none => none
      | some k => if k = 0 ∨ acc.getLast? = some c ∨ 300 < acc.length + k then none else prs n (acc ++ tms [c] (k : Int)) p.2
def pkSpec (text : List Nat) : Option (List Nat × Nat) := match spl1 32 text with
  | none => none
  | some p => match numQ p.1, prs FUEL [] p.2 with
    | some h, some a => if h ≤ a.length then some (a, h) else none
    | _, _ => none
theorem read_number_ok {f : List Nat} (hf : f.length ≤ 16777216) : m_read_number f = some (match numQ f with
    | some n => .ok (n : Int)
    | none => .error 3) := by
  unfold m_read_number numQ
  by_cases h1 : f = []
  · rw [it_i1 (decide_eq_true h1), bnd_i rfl, it_i1 rfl, if_neg (fun z => z.1 h1)]
  rw [it_i0 (decide_eq_false h1), chk_i hf, bnd_i rfl]
  by_cases h2 : 3 < f.length
  · rw [it_i1 (decide_eq_true (by omega)), if_neg (fun z => absurd z.2.1 (by omega))]
  rw [it_i0 (decide_eq_false (by omega))]
  by_cases h3 : ∀ c ∈ f, 48 ≤ c ∧ c ≤ 57
  · rw [bnd_i (forX_go (s := ()) fun x hx => by
      show m_read_number_b1 x = _
      unfold m_read_number_b1
      rw [chk_i (show [x].length = 1 from rfl)]
      show it (!decide (x ∈ ([48, 49, 50, 51, 52, 53, 54, 55, 56, 57] : List Nat))) _ _ = _
      rw [it_i0 (by rw [decide_eq_true (digit_mem.2 (h3 x hx))]; rfl)])]
    show m_read_number_k2 f = _
    unfold m_read_number_k2
    obtain ⟨c, r, rfl⟩ : ∃ c r, f = c :: r := by
      cases f with
      | nil => exact absurd rfl h1
      | cons c r => exact ⟨c, r, rfl⟩
    rw [chk_i hf, bnd_i (show atI (c :: r) (0 : Int) = some c from get_in (l := c :: r) (i := 0) (by simp))]
    by_cases h4 : c = 48 ∧ c :: r ≠ [48]
    · rw [it_i1 (by
        rw [h4.1, decide_eq_true rfl, decide_eq_false (fun z => h4.2 (by rw [h4.1]; exact z))]
        rfl), if_neg (fun z => h4.2 (z.2.2.2 (by rw [h4.1]; rfl)))]
    · rw [it_i0 (by
        by_cases hc : c = 48
        · have : c :: r = [48] := Classical.byContradiction fun z => h4 ⟨hc, z⟩
          rw [(List.cons.inj this).2, hc]
          rfl
        · rw [decide_eq_false (fun z => hc (List.cons.inj z).1)]
          rfl), chk_i (by omega), bnd_i (intT_digits h3 h1 (by omega)), if_pos ⟨h1, by omega, h3, fun z => by
        have hc : c = 48 := Option.some.inj z
        exact Classical.byContradiction fun w => h4 ⟨hc, w⟩⟩]
  · rw [if_neg (fun z => h3 z.2.2.1)]
    have hb : ∀ x, m_read_number_b1 x = some (if (!decide (48 ≤ x ∧ x ≤ 57)) = true then .rt (.error 3) else .nx ()) := fun x => by
      unfold m_read_number_b1
      rw [chk_i (show [x].length = 1 from rfl)]
      show it (!decide (x ∈ ([48, 49, 50, 51, 52, 53, 54, 55, 56, 57] : List Nat))) _ _ = _
      by_cases hx : 48 ≤ x ∧ x ≤ 57
      · rw [it_i0 (by rw [decide_eq_true (digit_mem.2 hx)]; rfl), decide_eq_true hx]
        rfl
      · rw [it_i1 (by rw [decide_eq_false (fun z => hx (digit_mem.1 z))]; rfl), decide_eq_false hx]
        rfl
    have ha : (f.any fun x => !decide (48 ≤ x ∧ x ≤ 57)) = true := by
      rw [List.any_eq_true]
      apply Classical.byContradiction
      intro z
      refine h3 fun c hc => Classical.byContradiction fun w => z ⟨c, hc, ?_⟩
      rw [decide_eq_false w]
      rfl
    rw [bnd_i (forX_any (fun x _ => hb x)), ha, if_pos rfl]
    rfl
theorem cutlast (a : List Nat) (c : Nat) : decide ([c] = cut a (some (-(1 : Int))) none) = decide (a.getLast? = some c) := by
  rcases List.eq_nil_or_concat a with e | ⟨b, d, e'⟩
  · subst e
    rfl
  · have e : a = b ++ [d] := e'.trans (List.concat_eq_append ..)
    rw [e, cut_last, List.getLast?_append]
    simp [eq_comm]
theorem loop_ok {text : List Nat} (ht : text.length ≤ 10000) : ∀ (n : Nat) (acc : List Nat) (k : Nat), acc.length ≤ 300 → k ≤ (part1 text 32).2.2.length → (part1 text 32).2.2.length - k < n → whX (fun (s : (List Nat) × Int) => m_unpacked_c1 text (s.1) (s.2)) (fun (s : (List Nat) × Int) => m_unpacked_b2 text (s.1) (s.2)) n (acc, (k : Int)) = some (match prs n acc ((part1 text 32).2.2.drop k) with
    | none => .rt (.error 3)
    | some a => .nx (a, ((part1 text 32).2.2.length : Int))) := by
  have hr : (part1 text 32).2.2.length ≤ text.length := by
    rw [part1_eq]
    cases h : spl1 32 text with
    | none => exact Nat.zero_le _
    | some p =>
      have := congrArg List.length (spl1_some (a := p.1) (b := p.2) h).1
      rw [List.length_append, List.length_cons] at this
      show p.2.length ≤ _
      omega
  intro n
  induction n with
  | zero => exact fun acc k _ _ h => absurd h (Nat.not_lt_zero _)
  | succ n ih =>
    intro acc k ha hk hn
    have hc : m_unpacked_c1 text acc (k : Int) = some (decide (k < (part1 text 32).2.2.length)) := by
      unfold m_unpacked_c1
      rw [chk_i (by omega)]
      exact congrArg some (decide_eq_decide.2 (by omega))
    by_cases hkl : k < (part1 text 32).2.2.length
    · rw [decide_eq_true hkl] at hc
      rw [whX_t (s := (acc, (k : Int))) hc]
      have hb : m_unpacked_b2 text acc (k : Int) = some (match spl1 59 ((part1 text 32).2.2.drop (k + 1)) with
          | none => .rt (.error 3)
          | some p => match numQ p.1 with
            | none => .rt (.error 3)
            | some m => if m = 0 ∨ acc.getLast? = some (part1 text 32).2.2[k] ∨ 300 < acc.length + m then .rt (.error 3) else .nx (acc ++ tms [(part1 text 32).2.2[k]] (m : Int), ((k + 1 + p.1.length + 1 : Nat) : Int))) := by
        unfold m_unpacked_b2
        generalize (part1 text 32).2.2 = rest at hr hk hkl
        have ef : find1 rest 59 ((k : Int) + 1) = _ := find1_eq rest 59 (i := k + 1) hkl
        rw [chk_i (by omega), bnd_i (get_in hkl), lt_i, lt_i, ef]
        cases hs : spl1 59 (rest.drop (k + 1)) with
        | none =>
          rw [bnd_i (x := true) (by rw [it_i1]; rfl), it_i1 rfl]
        | some p =>
          obtain ⟨e1, e2⟩ := spl1_some (a := p.1) (b := p.2) hs
          have hlen : rest.length - (k + 1) = p.1.length + (p.2.length + 1) := by
            have := congrArg List.length e1
            rw [List.length_drop, List.length_append, List.length_cons] at this
            exact this
          rw [bnd_i (x := decide (acc.getLast? = some rest[k])) (by
            rw [it_i0 (decide_eq_false (by simp only []; omega)), chk_i (by omega), cutlast])]
          have ec : cut rest (some ((k : Int) + 1)) (some ((k + 1 + p.1.length : Nat) : Int)) = p.1 := by
            have := cut_nn rest (k + 1) (k + 1 + p.1.length)
            rw [e1, show k + 1 + p.1.length - (k + 1) = p.1.length by omega, List.take_left'] at this
            · exact this
            · rfl
          by_cases hl : acc.getLast? = some rest[k]
          · rw [it_i1 (decide_eq_true hl)]
            show _ = some (match numQ p.1 with
              | none => _
              | some m => _)
            cases numQ p.1 with
            | none => rfl
            | some m =>
              show _ = some (if _ then _ else _)
              rw [if_pos (.inr (.inl hl))]
          · rw [it_i0 (decide_eq_false hl), chk_i (by omega)]
            have er := read_number_ok (f := p.1) (by omega)
            show bndX (m_read_number (cut rest (some ((k : Int) + 1)) (some ((k + 1 + p.1.length : Nat) : Int)))) _ _ = _
            rw [ec]
            cases hm : numQ p.1 with
            | none =>
              rw [hm] at er
              rw [bndX_r er]
              show _ = some (match numQ p.1 with | none => _ | some m => _)
              rw [hm]
            | some m =>
              rw [hm] at er
              rw [bndX_o er]
              show _ = some (match numQ p.1 with | none => _ | some m => _)
              rw [hm]
              show _ = some (if _ then _ else _)
              have hml := numQ_lt hm
              by_cases hz : m = 0 ∨ 300 < acc.length + m
              · rw [bnd_i (x := true) (by
                  by_cases h0 : m = 0
                  · rw [it_i1 (decide_eq_true (by omega))]
                  · rw [it_i0 (decide_eq_false (by omega)), chk_i (by omega), decide_eq_true (by omega)]), it_i1 rfl, if_pos (by
                  rcases hz with z | z
                  · exact .inl z
                  · exact .inr (.inr z))]
              · rw [bnd_i (x := false) (by
                  rw [it_i0 (decide_eq_false (by omega)), chk_i (by omega), decide_eq_false (by omega)]), it_i0 rfl, if_neg (fun z => by
                  rcases z with z | z | z
                  · exact hz (.inl z)
                  · exact hl z
                  · exact hz (.inr z)), chk_i (by
                  unfold CTms
                  rw [List.length_singleton]
                  omega), chk_i (by rw [tms_len, List.length_singleton]; omega), lt_i, lt_i]
                rfl
      show bnd (m_unpacked_b2 text acc (k : Int)) _ = _
      rw [hb]
      have ed : (part1 text 32).2.2.drop k = (part1 text 32).2.2[k] :: (part1 text 32).2.2.drop (k + 1) := List.drop_eq_getElem_cons hkl
      rw [ed]
      show _ = some (match (match spl1 59 ((part1 text 32).2.2.drop (k + 1)) with
        | none => none
        | some p => match numQ p.1 with
          | none => none
          | some m => if m = 0 ∨ acc.getLast? = some (part1 text 32).2.2[k] ∨ 300 < acc.length + m then none else prs n (acc ++ tms [(part1 text 32).2.2[k]] (m : Int)) p.2) with
        | none => _
        | some a => _)
      cases hs : spl1 59 ((part1 text 32).2.2.drop (k + 1)) with
      | none => rfl
      | some p =>
        obtain ⟨e1, e2⟩ := spl1_some (a := p.1) (b := p.2) hs
        have hlen : (part1 text 32).2.2.length - (k + 1) = p.1.length + (p.2.length + 1) := by
          have := congrArg List.length e1
          rw [List.length_drop, List.length_append, List.length_cons] at this
          exact this
        simp only []
        cases hm : numQ p.1 with
        | none => rfl
        | some m =>
          simp only []
          by_cases hz : m = 0 ∨ acc.getLast? = some (part1 text 32).2.2[k] ∨ 300 < acc.length + m
          · rw [if_pos hz, if_pos hz]
            rfl
          · rw [if_neg hz, if_neg hz]
            have hml := numQ_lt hm
            have e3 : p.2 = (part1 text 32).2.2.drop (k + 1 + p.1.length + 1) := by
              have : (part1 text 32).2.2.drop (k + 1 + (p.1.length + 1)) = ((part1 text 32).2.2.drop (k + 1)).drop (p.1.length + 1) := by rw [List.drop_drop]
              rw [Nat.add_assoc, this, e1, List.drop_append, List.drop_of_length_le (by omega)]
              rw [show p.1.length + 1 - p.1.length = 1 by omega]
              rfl
            have := ih (acc ++ tms [(part1 text 32).2.2[k]] (m : Int)) (k + 1 + p.1.length + 1) (by
              rw [List.length_append, tms_len, List.length_singleton]
              have : ¬ 300 < acc.length + m := fun z => hz (.inr (.inr z))
              omega) (by omega) (by omega)
            rw [← e3] at this
            exact this
    · rw [decide_eq_false hkl] at hc
      rw [whX_f (s := (acc, (k : Int))) hc]
      have : (part1 text 32).2.2.drop k = [] := List.drop_of_length_le (by omega)
      rw [this, show k = (part1 text 32).2.2.length by omega]
      rfl
theorem prs_len : ∀ (n : Nat) (acc r a : List Nat), acc.length ≤ 300 → prs n acc r = some a → a.length ≤ 300
  | 0, _, _, _, _, h => by cases h
  | n + 1, acc, [], a, ha, h => by cases h; exact ha
  | n + 1, acc, c :: r, a, ha, h => by
    unfold prs at h
    split at h
    · cases h
    · split at h
      · cases h
      · rename_i k _
        split at h
        · cases h
        · rename_i hz
          refine prs_len n _ _ a ?_ h
          rw [List.length_append, tms_len, List.length_singleton]
          have : ¬ 300 < acc.length + k := fun z => hz (.inr (.inr z))
          omega
theorem unpacked_ok {text : List Nat} (ht : text.length ≤ 10000) : m_unpacked text = some (match pkSpec text with
    | some p => .ok (p.1, (p.2 : Int))
    | none => .error 3) := by
  have hl := loop_ok ht FUEL [] 0 (by simp) (Nat.zero_le _)
  unfold m_unpacked pkSpec
  rw [chk_i (by omega)]
  rw [List.drop_zero] at hl
  have hp := part1_eq text 32
  cases h : spl1 32 text with
  | none =>
    rw [h] at hp
    have h21 : (part1 text 32).2.1 = [] := by rw [hp]
    rw [it_i1 (decide_eq_true h21)]
  | some p =>
    have hlen := congrArg List.length (spl1_some (a := p.1) (b := p.2) h).1
    rw [List.length_append, List.length_cons] at hlen
    rw [h] at hp
    have hp' : part1 text 32 = (p.1, [32], p.2) := hp
    rw [hp'] at hl ⊢
    have hl' := hl (by
      show p.2.length - 0 < FUEL
      unfold FUEL
      omega)
    have er := read_number_ok (f := p.1) (by omega)
    rw [it_i0 (b := decide ([32] = ([] : List Nat))) (by decide)]
    show bndX (m_read_number p.1) _ _ = some (match (match numQ p.1, prs FUEL [] p.2 with
      | some h, some a => if h ≤ a.length then some (a, h) else none
      | _, _ => none) with
      | some p => _
      | none => _)
    cases hm : numQ p.1 with
    | none =>
      rw [hm] at er
      rw [bndX_r er]
    | some m =>
      rw [hm] at er
      rw [bndX_o er, lt_i, lt_i, bnd_i (show whX _ _ FUEL (([] : List Nat), (0 : Int)) = _ from hl')]
      cases hq : prs FUEL [] p.2 with
      | none => rfl
      | some a =>
        have := prs_len _ _ _ _ (by simp) hq
        show m_unpacked_k3 (m : Int) a (p.2.length : Int) = some (match (if m ≤ a.length then some (a, m) else none : Option (List Nat × Nat)) with
          | some p => _
          | none => _)
        unfold m_unpacked_k3
        rw [chk_i (by omega)]
        by_cases hz : m ≤ a.length
        · rw [it_i0 (decide_eq_false (by omega)), if_pos hz]
        · rw [it_i1 (decide_eq_true (by omega)), if_neg hz]
theorem strI_nat (n : Nat) : strI (n : Int) = numL n := tl_num n
theorem numL_head : ∀ {n : Nat}, 0 < n → (numL n).head? ≠ some 48 := by
  intro n
  induction n using Nat.strongRecOn with
  | _ n ih =>
    intro h
    by_cases h10 : n < 10
    · rw [numL_lt h10]
      show some (48 + n) ≠ some 48
      intro z
      have := Option.some.inj z
      omega
    · rw [numL_step (by omega), List.head?_append]
      have := ih (n / 10) (by omega) (by omega)
      cases hh : (numL (n / 10)).head? with
      | none => exact absurd (List.head?_eq_none_iff.1 hh) (numL_ne _)
      | some c =>
        rw [hh] at this
        exact this
theorem numQ_num {n : Nat} (h : n < 1000) : numQ (numL n) = some n := by
  unfold numQ
  rw [if_pos, numL_val]
  refine ⟨numL_ne n, numL_len (by decide) (by omega), fun c hc => numL_digits n c hc, fun z => ?_⟩
  by_cases h0 : n = 0
  · subst h0
    rfl
  · exact absurd z (numL_head (by omega))
theorem stream_ok (c m : Int) (h0 : 0 ≤ m) (h1 : m ≤ 100000) : ∃ xs, m_L_stream c m = some xs ∧ (xs.length : Int) = m := by
  unfold m_L_stream
  rw [lt_i, chk_i (by unfold CRng; omega)]
  obtain ⟨s', e, i⟩ := forS_go' (step := fun (s : Int × List Int) t => m_L_stream_b1 s.1 s.2 t) (n := (m + 2).toNat) (hi := m + 2) (fun k s => s.2.length = k) (by omega) (by
    intro j s hj i
    show ∃ s', m_L_stream_b1 s.1 s.2 (j : Int) = some s' ∧ _
    unfold m_L_stream_b1
    rw [lt_i, chk_i (by omega)]
    exact ⟨_, rfl, by show (s.2 ++ [_]).length = _; rw [List.length_append, i]; rfl⟩) (s := (1 + c % 2147483629, ([] : List Int))) rfl
  rw [bnd_i e]
  refine ⟨_, rfl, ?_⟩
  rw [cut_in _ (by decide), List.length_drop, i]
  show (((m + 2).toNat - 2 : Nat) : Int) = m
  omega
theorem sign_ok (n : Int) : ∃ c, m_L_sign n = some [c] ∧ 32 ≤ c ∧ c < 127 := by
  unfold m_L_sign
  have h1 := Int.emod_nonneg n (by decide : (94 : Int) ≠ 0)
  have h2 := Int.emod_lt_of_pos n (by decide : (0 : Int) < 94)
  rw [lt_i, chk_i (by decide), lt_i, chk_i (by decide)]
  generalize hg : (([32, 33, 34, 35, 36, 38, 39, 40, 41, 42, 43, 44, 45, 46, 47, 48, 49, 50, 51, 52, 53, 54, 55, 56, 57, 58, 59, 60, 61, 62, 63, 64, 65, 66, 67, 68, 69, 70, 71, 72, 73, 74, 75, 76, 77, 78, 79, 80, 81, 82, 83, 84, 85, 86, 87, 88, 89, 90, 91, 92, 93, 94, 95, 96] : List Nat) ++ ([97, 98, 99, 100, 101, 102, 103, 104, 105, 106, 107, 108, 109, 110, 111, 112, 113, 114, 115, 116, 117, 118, 119, 120, 121, 122, 123, 124, 125, 126] : List Nat)) = sg
  have hl : sg.length = 94 := by rw [← hg]; decide +kernel
  have hm : ∀ c ∈ sg, 32 ≤ c ∧ c < 127 := by rw [← hg]; decide +kernel
  obtain ⟨z, e, _, mz⟩ := atI_in (l := sg) h1 (by omega)
  rw [bnd_i e]
  exact ⟨z, rfl, hm z mz⟩
/-! the law's own reading -/
theorem L_number_ok {f : List Nat} (hf : f.length ≤ 16777216) : m_L_number f = some (match numQ f with
    | some n => (n : Int)
    | none => -1) := by
  unfold m_L_number numQ
  by_cases h3 : ∀ c ∈ f, 48 ≤ c ∧ c ≤ 57
  · rw [bnd_i (forX_go (s := ()) fun x hx => by
      show m_L_number_b1 x = _
      unfold m_L_number_b1
      rw [chk_i (show [x].length = 1 from rfl)]
      show it (!decide (x ∈ ([48, 49, 50, 51, 52, 53, 54, 55, 56, 57] : List Nat))) _ _ = _
      rw [it_i0 (by rw [decide_eq_true (digit_mem.2 (h3 x hx))]; rfl)])]
    show m_L_number_k2 f = _
    unfold m_L_number_k2
    by_cases h1 : f = []
    · rw [it_i1 (decide_eq_true h1), bnd_i rfl, it_i1 rfl, if_neg (fun z => z.1 h1)]
    rw [it_i0 (decide_eq_false h1), chk_i hf]
    by_cases h2 : 3 < f.length
    · rw [it_i1 (decide_eq_true (by omega)), bnd_i rfl, it_i1 rfl, if_neg (fun z => absurd z.2.1 (by omega))]
    rw [it_i0 (decide_eq_false (by omega)), chk_i hf]
    obtain ⟨c, r, rfl⟩ : ∃ c r, f = c :: r := by
      cases f with
      | nil => exact absurd rfl h1
      | cons c r => exact ⟨c, r, rfl⟩
    have hat : atI (c :: r) (0 : Int) = some c := get_in (l := c :: r) (i := 0) (by simp)
    by_cases h4 : c = 48 ∧ c :: r ≠ [48]
    · have hr : r ≠ [] := fun z => h4.2 (by rw [z, h4.1])
      have hr2 : 0 < r.length := List.length_pos_iff.2 hr
      rw [bnd_i (x := true) (by
        rw [it_i1 (decide_eq_true (by rw [List.length_cons]; omega)), chk_i hf, bnd_i hat, h4.1]
        rfl), it_i1 rfl, if_neg (fun z => h4.2 (z.2.2.2 (by rw [h4.1]; rfl)))]
    · rw [bnd_i (x := false) (by
        by_cases h5 : (1 : Int) < ((c :: r).length : Int)
        · rw [it_i1 (decide_eq_true h5), chk_i hf, bnd_i hat]
          refine congrArg (fun b => bnd (some b) fun t34 => some t34) (decide_eq_false fun z => h4 ⟨(List.cons.inj z).1, fun w => ?_⟩)
          rw [w] at h5
          exact absurd h5 (by decide)
        · rw [it_i0 (decide_eq_false h5)]
          rfl), it_i0 rfl, chk_i (by omega), bnd_i (intT_digits h3 h1 (by omega)), if_pos ⟨h1, by omega, h3, fun z => by
        have hc : c = 48 := Option.some.inj z
        exact Classical.byContradiction fun w => h4 ⟨hc, w⟩⟩]
  · rw [if_neg (fun z => h3 z.2.2.1)]
    have hb : ∀ x, m_L_number_b1 x = some (if (!decide (48 ≤ x ∧ x ≤ 57)) = true then .rt (-(1 : Int)) else .nx ()) := fun x => by
      unfold m_L_number_b1
      rw [chk_i (show [x].length = 1 from rfl)]
      show it (!decide (x ∈ ([48, 49, 50, 51, 52, 53, 54, 55, 56, 57] : List Nat))) _ _ = _
      by_cases hx : 48 ≤ x ∧ x ≤ 57
      · rw [it_i0 (by rw [decide_eq_true (digit_mem.2 hx)]; rfl), decide_eq_true hx]
        rfl
      · rw [it_i1 (by rw [decide_eq_false (fun z => hx (digit_mem.1 z))]; rfl), decide_eq_false hx]
        rfl
    have ha : (f.any fun x => !decide (48 ≤ x ∧ x ≤ 57)) = true := by
      rw [List.any_eq_true]
      apply Classical.byContradiction
      intro z
      refine h3 fun c hc => Classical.byContradiction fun w => z ⟨c, hc, ?_⟩
      rw [decide_eq_false w]
      rfl
    rw [bnd_i (forX_any (fun x _ => hb x)), ha, if_pos rfl]
    rfl
theorem due_loop : ∀ (n : Nat) (acc rest : List Nat), acc.length ≤ 300 → rest.length ≤ 10000 → rest.length < n → whX (fun (s : (List Nat) × (List Nat)) => m_L_due_c1 (s.1) (s.2)) (fun (s : (List Nat) × (List Nat)) => m_L_due_b2 (s.1) (s.2)) n (rest, acc) = some (match prs n acc rest with
    | none => .rt none
    | some a => .nx ([], a))
  | 0, _, _, _, _, h => absurd h (Nat.not_lt_zero _)
  | n + 1, acc, [], _, _, _ => by
    rw [whX_f (s := (([] : List Nat), acc)) (show m_L_due_c1 [] acc = some false from rfl)]
    rfl
  | n + 1, acc, c :: r, ha, hr, hn => by
    rw [List.length_cons] at hr hn
    rw [whX_t (s := (c :: r, acc)) (show m_L_due_c1 (c :: r) acc = some true by
      unfold m_L_due_c1
      simp)]
    have hb : m_L_due_b2 (c :: r) acc = some (match spl1 59 r with
        | none => .rt none
        | some p => match numQ p.1 with
          | none => .rt none
          | some m => if m = 0 ∨ acc.getLast? = some c ∨ 300 < acc.length + m then .rt none else .nx (p.2, acc ++ tms [c] (m : Int))) := by
      unfold m_L_due_b2
      have ec : cut (c :: r) (some (1 : Int)) none = r := by
        rw [cut_in _ (by decide)]
        rfl
      have hat : atI (c :: r) (0 : Int) = some c := get_in (l := c :: r) (i := 0) (by simp)
      rw [ec, chk_i (by rw [List.length_cons]; omega), chk_i (by omega)]
      have hp := part1_eq r 59
      cases hs : spl1 59 r with
      | none =>
        rw [hs] at hp
        have hp' : part1 r 59 = (r, [], []) := hp
        rw [hp', bnd_i (L_number_ok (by show r.length ≤ _; omega)), bnd_i (x := true) (by rw [it_i1 (decide_eq_true rfl)]), it_i1 rfl]
      | some p =>
        have hlen := congrArg List.length (spl1_some (a := p.1) (b := p.2) hs).1
        rw [List.length_append, List.length_cons] at hlen
        rw [hs] at hp
        have hp' : part1 r 59 = (p.1, [59], p.2) := hp
        have en := L_number_ok (f := p.1) (by omega)
        rw [hp']
        show bnd (m_L_number p.1) _ = some (match numQ p.1 with
          | none => _
          | some m => _)
        cases hm : numQ p.1 with
        | none =>
          rw [hm] at en
          rw [bnd_i en, bnd_i (x := true) (by rw [it_i0 (b := decide ([59] = ([] : List Nat))) (by decide), it_i1 (by decide)]), it_i1 rfl]
        | some m =>
          rw [hm] at en
          have hml := numQ_lt hm
          have en' : m_L_number p.1 = some (m : Int) := en
          rw [bnd_i en']
          show _ = some (if _ then _ else _)
          by_cases hz : m = 0 ∨ acc.getLast? = some c ∨ 300 < acc.length + m
          · rw [bnd_i (x := true) (by
              rw [it_i0 (b := decide ([59] = ([] : List Nat))) (by decide)]
              by_cases h0 : m = 0
              · rw [it_i1 (decide_eq_true (by omega))]
              · rw [it_i0 (decide_eq_false (by omega)), chk_i (by rw [List.length_cons]; omega), bnd_i hat, chk_i (by omega), cutlast]
                by_cases hl : acc.getLast? = some c
                · rw [it_i1 (decide_eq_true hl)]
                · rw [it_i0 (decide_eq_false hl), chk_i (by omega), decide_eq_true (by
                    rcases hz with z | z | z
                    · exact absurd z h0
                    · exact absurd z hl
                    · omega)]), it_i1 rfl, if_pos hz]
          · rw [bnd_i (x := false) (by
              rw [it_i0 (b := decide ([59] = ([] : List Nat))) (by decide), it_i0 (decide_eq_false (by omega)), chk_i (by rw [List.length_cons]; omega), bnd_i hat, chk_i (by omega), cutlast, it_i0 (decide_eq_false fun z => hz (.inr (.inl z))), chk_i (by omega), decide_eq_false (by omega)]), it_i0 rfl, if_neg hz, chk_i (by rw [List.length_cons]; omega), bnd_i hat, chk_i (by
              unfold CTms
              rw [List.length_singleton]
              omega), chk_i (by rw [tms_len, List.length_singleton]; omega), lt_i, lt_i]
    show bnd (m_L_due_b2 (c :: r) acc) _ = some (match (match spl1 59 r with
        | none => none
        | some p => match numQ p.1 with
          | none => none
          | some m => if m = 0 ∨ acc.getLast? = some c ∨ 300 < acc.length + m then none else prs n (acc ++ tms [c] (m : Int)) p.2) with
        | none => _
        | some a => _)
    rw [hb]
    cases hs : spl1 59 r with
    | none => rfl
    | some p =>
      have hlen := congrArg List.length (spl1_some (a := p.1) (b := p.2) hs).1
      rw [List.length_append, List.length_cons] at hlen
      simp only []
      cases hm : numQ p.1 with
      | none => rfl
      | some m =>
        simp only []
        by_cases hz : m = 0 ∨ acc.getLast? = some c ∨ 300 < acc.length + m
        · rw [if_pos hz, if_pos hz]
          rfl
        · rw [if_neg hz, if_neg hz]
          exact due_loop n (acc ++ tms [c] (m : Int)) p.2 (by
            rw [List.length_append, tms_len, List.length_singleton]
            omega) (by omega) (by omega)
theorem due_ok {text : List Nat} (ht : text.length ≤ 10000) : m_L_due text = some (match pkSpec text with
    | some p => some (p.1, (p.2 : Int))
    | none => none) := by
  unfold m_L_due pkSpec
  have hp := part1_eq text 32
  rw [chk_i (by omega), lt_i]
  cases h : spl1 32 text with
  | none =>
    rw [h] at hp
    have hp' : part1 text 32 = (text, [], []) := hp
    rw [bnd_i (due_loop FUEL [] (part1 text 32).2.2 (by simp) (by rw [hp']; exact Nat.zero_le _) (by rw [hp']; show 0 < FUEL; decide))]
    rw [hp']
    show m_L_due_k3 text [] [] = _
    unfold m_L_due_k3
    rw [hp', bnd_i (x := true) (by rw [it_i1 (decide_eq_true rfl)]), it_i1 rfl]
  | some p =>
    have hlen := congrArg List.length (spl1_some (a := p.1) (b := p.2) h).1
    rw [List.length_append, List.length_cons] at hlen
    rw [h] at hp
    have hp' : part1 text 32 = (p.1, [32], p.2) := hp
    rw [bnd_i (due_loop FUEL [] (part1 text 32).2.2 (by simp) (by rw [hp']; show p.2.length ≤ _; omega) (by rw [hp']; show p.2.length < _; unfold FUEL; omega))]
    rw [hp']
    show lpk (match prs FUEL [] p.2 with
      | none => (Lp.rt none : Lp (Option (List Nat × Int)) (List Nat × List Nat))
      | some a => .nx ([], a)) _ _ = some (match (match numQ p.1, prs FUEL [] p.2 with
      | some h, some a => if h ≤ a.length then some (a, h) else none
      | _, _ => none) with
      | some p => _
      | none => _)
    cases hq : prs FUEL [] p.2 with
    | none =>
      cases numQ p.1 <;> rfl
    | some a =>
      have hal := prs_len _ _ _ _ (by simp) hq
      show m_L_due_k3 text [] a = _
      unfold m_L_due_k3
      have en := L_number_ok (f := p.1) (by omega)
      rw [hp']
      show bnd (it (decide ([32] = ([] : List Nat))) _ _) _ = _
      cases hm : numQ p.1 with
      | none =>
        rw [hm] at en
        rw [bnd_i (x := true) (by rw [it_i0 (by decide), bnd_i en, it_i1 (by decide)]), it_i1 rfl]
      | some m =>
        rw [hm] at en
        have en' : m_L_number p.1 = some (m : Int) := en
        show _ = some (match (if m ≤ a.length then some (a, m) else none : Option (List Nat × Nat)) with
          | some p => _
          | none => _)
        by_cases hz : m ≤ a.length
        · rw [bnd_i (x := false) (by rw [it_i0 (by decide), bnd_i en', it_i0 (decide_eq_false (by omega)), bnd_i en', chk_i (by omega), decide_eq_false (by omega)]), it_i0 rfl, bnd_i en', if_pos hz]
        · rw [bnd_i (x := true) (by rw [it_i0 (by decide), bnd_i en', it_i0 (decide_eq_false (by omega)), bnd_i en', chk_i (by omega), decide_eq_true (by omega)]), it_i1 rfl, if_neg hz]
theorem refused_ok {text : List Nat} (ht : text.length ≤ 10000) (h : pkSpec text = none) : m_L_refused text = some true := by
  unfold m_L_refused
  have e := unpacked_ok ht
  rw [h] at e
  rw [bndX_r e]
  rfl
/-! what is told -/
theorem lg2 {i : Int} (h : i.natAbs ≤ 10 ^ 100) : i.natAbs.log2 < 1920 := by
  by_cases h0 : i.natAbs = 0
  · rw [h0]
    decide
  · refine (Nat.log2_lt h0).2 (Nat.lt_of_le_of_lt h ?_)
    decide +kernel
theorem strI_ok {i : Int} {k : Nat} (h0 : 0 ≤ i) (hk : 0 < k) (h : i.toNat < 10 ^ k) : (strI i).length ≤ k ∧ Ok (strI i) := by
  obtain ⟨n, rfl⟩ := Int.eq_ofNat_of_zero_le h0
  have e : strI (n : Int) = numL n := strI_nat n
  rw [show ((n : Int)).toNat = n from rfl] at h
  rw [e]
  exact ⟨numL_len hk h, fun c hc => by
    have := numL_digits n c hc
    omega⟩
structure Rn (rs : List (List Nat × Int)) : Prop where
  len : rs.length ≤ 24
  e : ∀ r ∈ rs, ∃ c, r.1 = [c] ∧ 32 ≤ c ∧ c < 127 ∧ 1 ≤ r.2 ∧ r.2 ≤ 299
theorem Rn.ks {rs} (g : Rn rs) : kL (k2 kS kT) rs = true := by
  unfold kL
  rw [List.all_eq_true]
  intro r hr
  obtain ⟨c, e, h1, h2, _⟩ := g.e r hr
  unfold k2 kT
  rw [e, kS_ok (l := [c]) (fun x hx => by rw [List.mem_singleton] at hx; subst hx; exact ⟨h1, h2⟩)]
  rfl
theorem sum_bound : ∀ {rs : List (List Nat × Int)}, (∀ r ∈ rs, ∃ c, r.1 = [c] ∧ 32 ≤ c ∧ c < 127 ∧ 1 ≤ r.2 ∧ r.2 ≤ 299) → 0 ≤ (rs.map (·.2)).sum ∧ (rs.map (·.2)).sum ≤ 299 * rs.length
  | [], _ => by simp
  | r :: t, h => by
    obtain ⟨a, b⟩ := sum_bound (rs := t) fun q hq => h q (List.mem_cons_of_mem _ hq)
    obtain ⟨c, _, _, _, h4, h5⟩ := h r (List.mem_cons_self ..)
    rw [List.map_cons, List.sum_cons, List.length_cons]
    omega
abbrev Td (ts : List (List Nat × List Nat)) : Prop := ∀ t ∈ ts, t.1.length ≤ 1 ∧ t.2.length ≤ 50 ∧ Ok t.1 ∧ Ok t.2
theorem Td.ks {ts} (g : Td ts) : kL (k2 kS kS) ts = true := by
  unfold kL
  rw [List.all_eq_true]
  intro r hr
  obtain ⟨_, _, h1, h2⟩ := g r hr
  unfold k2
  rw [kS_ok h1, kS_ok h2]
  rfl
theorem L_written_ok {home : List Nat} {ts : List (List Nat × List Nat)} (hh : home.length ≤ 400) (hl : ts.length ≤ 60) (g : Td ts) : ∃ t, m_L_written home ts = some t ∧ t.length ≤ 4500 := by
  unfold m_L_written
  have hb : ∀ y ∈ ts.map (fun t : List Nat × List Nat => t.1 ++ t.2 ++ [59]), y.length ≤ 52 := fun y hy => by
    obtain ⟨t, ht, rfl⟩ := List.mem_map.1 hy
    obtain ⟨h1, h2, _, _⟩ := g t ht
    simp only [List.length_append, List.length_singleton]
    omega
  have hs := sum_le hb
  rw [List.length_map] at hs
  rw [chk_i (by rw [List.length_singleton]; omega), chk_i (by omega), bnd_i (lcA_map (g := fun t : List Nat × List Nat => t.1 ++ t.2 ++ [59]) fun t ht => by
    obtain ⟨h1, h2, _, _⟩ := g t ht
    rw [chk_i (by omega), chk_i (by
      rw [List.length_append, List.length_singleton]
      omega)]), List.nil_append, joined_nil, chk_i (by
    unfold CJoin
    simp only [List.length_nil]
    omega), chk_i (by
    rw [List.length_flatten]
    simp only [List.length_append, List.length_singleton]
    omega)]
  refine ⟨_, rfl, ?_⟩
  rw [List.length_append, List.length_flatten]
  simp only [List.length_append, List.length_singleton]
  omega
theorem cut_td {ts : List (List Nat × List Nat)} (g : Td ts) (i j) : Td (cut ts i j) := fun t ht => g t (by
  unfold Bk.cut at ht
  exact List.mem_of_mem_drop (List.mem_of_mem_take ht))
theorem pick {l : List (List Nat)} {x : Int} {k : Nat} (hk : l.length = k) (h0 : 0 < k) {b : Nat} (hb : ∀ y ∈ l, y.length ≤ b) : ∃ y, atI l (x % (k : Int)) = some y ∧ y ∈ l ∧ y.length ≤ b := by
  obtain ⟨y, e, _, m⟩ := atI_in (l := l) (i := x % (k : Int)) (Int.emod_nonneg _ (by omega)) (by
    have := Int.emod_lt_of_pos x (show (0 : Int) < (k : Int) by omega)
    omega)
  exact ⟨y, e, m, hb y m⟩
theorem mod30 (cell : Int) : 0 ≤ cell % (1000000000000000000000000000000 : Int) ∧ cell % (1000000000000000000000000000000 : Int) < 1000000000000000000000000000000 := ⟨Int.emod_nonneg _ (by decide), Int.emod_lt_of_pos _ (by decide)⟩
theorem spoilt_ok {home : List Nat} {rs : List (List Nat × Int)} {kind : Int} {s : List Int} {cell : Int} (hh : home.length ≤ 10) (ho : Ok home) (g : Rn rs) (hs : s.length = 6) : ∃ t, m_L_spoilt home rs kind s cell = some t ∧ t.length ≤ 10000 := by
  unfold m_L_spoilt
  have hlen := g.len
  have hsum := sum_bound g.e
  have hm := mod30 cell
  have s0 : atI s (0 : Int) = some s[0] := get_in (l := s) (i := 0) (by omega)
  have s1 : atI s (1 : Int) = some s[1] := get_in (l := s) (i := 1) (by omega)
  have s2 : atI s (2 : Int) = some s[2] := get_in (l := s) (i := 2) (by omega)
  have s3 : atI s (3 : Int) = some s[3] := get_in (l := s) (i := 3) (by omega)
  rw [chk_i (by omega), bnd_i (lcA_map (g := fun r : List Nat × Int => r.2) fun r _ => rfl), List.nil_append, lt_i, chk_i (by omega), bnd_i (lcA_map (g := fun r : List Nat × Int => (r.1, strI r.2)) fun r hr => by
    obtain ⟨c, _, _, _, h4, h5⟩ := g.e r hr
    rw [chk_i (lg2 (by omega))]), List.nil_append]
  generalize hmany : (rs.map (·.2)).sum = many at hsum
  have hts : Td (rs.map fun r => (r.1, strI r.2)) := fun t ht => by
    obtain ⟨r, hr, rfl⟩ := List.mem_map.1 ht
    obtain ⟨c, e, h1, h2, h4, h5⟩ := g.e r hr
    obtain ⟨q1, q2⟩ := strI_ok (i := r.2) (k := 3) (by omega) (by decide) (by omega)
    rw [e]
    exact ⟨Nat.le_refl _, by show (strI r.2).length ≤ 50; omega, fun x hx => by rw [List.mem_singleton] at hx; subst hx; exact ⟨h1, h2⟩, q2⟩
  have htl : (rs.map fun r => (r.1, strI r.2)).length ≤ 24 := by rw [List.length_map]; exact hlen
  have ht3 : ∀ t ∈ (rs.map fun r => (r.1, strI r.2)), t.2.length ≤ 3 := fun t ht => by
    obtain ⟨r, hr, rfl⟩ := List.mem_map.1 ht
    obtain ⟨c, e, h1, h2, h4, h5⟩ := g.e r hr
    exact (strI_ok (i := r.2) (k := 3) (by omega) (by decide) (by omega)).1
  generalize (rs.map fun r => (r.1, strI r.2)) = ts at hts htl ht3
  have hmx : 0 < max (1 : Int) (ts.length : Int) := by omega
  have a0 := Int.emod_nonneg s[0] (show max (1 : Int) (ts.length : Int) ≠ 0 by omega)
  have a1 := Int.emod_lt_of_pos s[0] hmx
  rw [bnd_i s0, chk_i hmx, lt_i]
  generalize s[0] % max (1 : Int) (ts.length : Int) = at_ at a0 a1
  have wr : ∀ {h : List Nat} {us : List (List Nat × List Nat)}, h.length ≤ 400 → us.length ≤ 60 → Td us → ∃ t, bnd (m_L_written h us) (fun t => some t) = some t ∧ t.length ≤ 10000 := fun h1 h2 h3 => by
    obtain ⟨t, e, l⟩ := L_written_ok h1 h2 h3
    exact ⟨t, by rw [bnd_i e], by omega⟩
  by_cases k1 : kind = 1
  · rw [it_i1 (decide_eq_true k1), chk_i (lg2 (by omega)), chk_i (lg2 (by omega)), chk_i (by rw [List.length_singleton]; omega), bnd_i s1]
    obtain ⟨y, e, _, l⟩ := pick (l := [(strI ((many + (1 : Int)))), (strI (((many + (1 : Int)) + (cell % (1000000000000000000000000000000 : Int))))), ([45, 49] : List Nat), (([48] : List Nat) ++ home)]) (x := s[1]) (k := 4) (b := 40) rfl (by decide) (by
      have q1 := (strI_ok (i := many + 1) (k := 5) (by omega) (by decide) (by omega)).1
      have q2 := (strI_ok (i := many + 1 + cell % 1000000000000000000000000000000) (k := 40) (by omega) (by decide) (by omega)).1
      intro y hy
      simp only [List.mem_cons, List.not_mem_nil, or_false] at hy
      rcases hy with z | z | z | z
      · rw [z]; omega
      · rw [z]; omega
      · rw [z]; decide
      · rw [z, List.length_append, List.length_singleton]; omega)
    have e' : atI [(strI ((many + (1 : Int)))), (strI (((many + (1 : Int)) + (cell % (1000000000000000000000000000000 : Int))))), ([45, 49] : List Nat), (([48] : List Nat) ++ home)] (s[1] % (4 : Int)) = some y := e
    rw [bnd_i e']
    exact wr (by omega) (by omega) hts
  rw [it_i0 (decide_eq_false k1)]
  by_cases k2 : kind = 2
  · have b0 := Int.emod_nonneg s[1] (by decide : (290 : Int) ≠ 0)
    have b1 := Int.emod_lt_of_pos s[1] (by decide : (0 : Int) < 290)
    have c0 := Int.emod_nonneg cell (by decide : (100 : Int) ≠ 0)
    have c1 := Int.emod_lt_of_pos cell (by decide : (0 : Int) < 100)
    have q1 := (strI_ok (i := cell % 100) (k := 2) (by omega) (by decide) (by omega)).1
    have q2 : (tms ([48] : List Nat) ((3 : Int) + (s[1] % (290 : Int)))).length ≤ 293 := by
      rw [tms_len, List.length_singleton]
      omega
    rw [it_i1 (decide_eq_true k2), bnd_i s1, chk_i (by
      unfold CTms
      rw [List.length_singleton]
      omega), chk_i (by rw [List.length_singleton]; omega), chk_i (lg2 (by omega)), chk_i (by
      rw [List.length_append, List.length_singleton]
      omega)]
    exact wr (by
      simp only [List.length_append, List.length_singleton]
      omega) (by omega) hts
  rw [it_i0 (decide_eq_false k2)]
  have ne : ∀ q : Int, ∃ b : Bool, it (decide (kind = q)) (chk (kL (Bk.k2 kS kS) ts = true) (chk (kL (Bk.k2 kS kS) ([] : List (List Nat × List Nat)) = true) (some (!decide (ts = ([] : List (List Nat × List Nat))))))) (some false) = some b ∧ (b = true → ts ≠ []) := by
    intro q
    by_cases hq : kind = q
    · rw [it_i1 (decide_eq_true hq), chk_i hts.ks, chk_i (show kL (Bk.k2 kS kS) [] = true from rfl)]
      exact ⟨_, rfl, fun z w => by rw [w] at z; cases z⟩
    · rw [it_i0 (decide_eq_false hq)]
      exact ⟨_, rfl, fun z => by cases z⟩
  have hat : ts ≠ [] → ∃ t, atI ts at_ = some t ∧ ts[at_.toNat]? = some t ∧ t ∈ ts ∧ at_ < ts.length := fun h => by
    have := List.length_pos_iff.2 h
    obtain ⟨t, e, e2, m⟩ := atI_in (l := ts) a0 (by omega)
    exact ⟨t, e, e2, m, by omega⟩
  obtain ⟨b3, e3, n3⟩ := ne 3
  rw [bnd_i e3]
  cases b3 with
  | true =>
    obtain ⟨t, et, _, mt, hlt⟩ := hat (n3 rfl)
    have g5 := ht3 t mt
    obtain ⟨g1, g2, g3, g4⟩ := hts t mt
    rw [it_i1 rfl, bnd_i et, chk_i (by rw [List.length_singleton]; omega), chk_i (lg2 (by omega)), bnd_i s1]
    have q1 := strI_ok (i := 1000 + cell % 1000000000000000000000000000000) (k := 40) (by omega) (by decide) (by omega)
    obtain ⟨y, e, my, _⟩ := pick (l := [([48] : List Nat), (([48] : List Nat) ++ t.2), ([49, 48, 48, 48] : List Nat), (strI (((1000 : Int) + (cell % (1000000000000000000000000000000 : Int))))), ([] : List Nat), ([49, 32] : List Nat), ([97] : List Nat)]) (x := s[1]) (k := 7) (b := 50) rfl (by decide) (by
      intro y hy
      simp only [List.mem_cons, List.not_mem_nil, or_false] at hy
      rcases hy with z | z | z | z | z | z | z
      · rw [z]; decide
      · rw [z, List.length_append, List.length_singleton]; omega
      · rw [z]; decide
      · rw [z]; omega
      · rw [z]; decide
      · rw [z]; decide
      · rw [z]; decide)
    have e' : atI [([48] : List Nat), (([48] : List Nat) ++ t.2), ([49, 48, 48, 48] : List Nat), (strI (((1000 : Int) + (cell % (1000000000000000000000000000000 : Int))))), ([] : List Nat), ([49, 32] : List Nat), ([97] : List Nat)] (s[1] % (7 : Int)) = some y := e
    rw [bnd_i e', bnd_i et]
    obtain ⟨k, ek⟩ : ∃ k, ixN ts.length at_ = some k := by
      obtain ⟨k, rfl⟩ := Int.eq_ofNat_of_zero_le a0
      exact ⟨k, ixN_nat (by omega)⟩
    rw [bnd_i ek]
    refine wr (by omega) (by rw [List.length_set]; omega) fun u hu => ?_
    rcases List.mem_or_eq_of_mem_set hu with z | z
    · obtain ⟨x1, x2, x3, x4⟩ := hts u z
      exact ⟨x1, by omega, x3, x4⟩
    · rw [z]
      simp only [List.mem_cons, List.not_mem_nil, or_false] at my
      have d1 : Ok [48] := by decide
      refine ⟨g1, ?_, g3, ?_⟩
      · rcases my with z | z | z | z | z | z | z
        · rw [z]; show 1 ≤ 50; decide
        · rw [z]; show ([48] ++ t.2).length ≤ 50; rw [List.length_append, List.length_singleton]; omega
        · rw [z]; show 4 ≤ 50; decide
        · rw [z]; show (strI _).length ≤ 50; omega
        · rw [z]; show 0 ≤ 50; decide
        · rw [z]; show 2 ≤ 50; decide
        · rw [z]; show 1 ≤ 50; decide
      · rcases my with z | z | z | z | z | z | z
        · rw [z]; exact d1
        · rw [z]
          intro c hc
          rcases List.mem_append.1 hc with w | w
          · exact d1 c w
          · exact g4 c w
        · rw [z]; show Ok [49, 48, 48, 48]; decide
        · rw [z]; exact q1.2
        · rw [z]; intro c hc; cases hc
        · rw [z]; show Ok [49, 32]; decide
        · rw [z]; show Ok [97]; decide
  | false =>
  rw [it_i0 rfl]
  obtain ⟨b4, e4, n4⟩ := ne 4
  rw [bnd_i e4]
  cases b4 with
  | true =>
    obtain ⟨t, et, _, mt, hlt⟩ := hat (n4 rfl)
    obtain ⟨g1, g2, g3, g4⟩ := hts t mt
    have c1 := cut_len ts none (some (at_ + 1))
    have c2 := cut_len ts (some (at_ + 1)) none
    rw [it_i1 rfl, bnd_i et, chk_i (by rw [List.length_singleton]; omega), chk_i (by
      rw [List.length_append, List.length_singleton]
      omega)]
    refine wr (by omega) (by
      simp only [List.length_append, List.length_singleton]
      omega) fun u hu => ?_
    rcases List.mem_append.1 hu with z | z
    · rcases List.mem_append.1 z with z | z
      · obtain ⟨x1, x2, x3, x4⟩ := cut_td hts _ _ u z
        exact ⟨x1, by omega, x3, x4⟩
      · rw [List.mem_singleton] at z
        rw [z]
        exact ⟨g1, by show 1 ≤ 50; decide, g3, by show Ok [49]; decide⟩
    · obtain ⟨x1, x2, x3, x4⟩ := cut_td hts _ _ u z
      exact ⟨x1, by omega, x3, x4⟩
  | false =>
  rw [it_i0 rfl]
  obtain ⟨w, ew, lw⟩ := L_written_ok (home := home) (ts := ts) (by omega) (by omega) fun u hu => by
    obtain ⟨x1, x2, x3, x4⟩ := hts u hu
    exact ⟨x1, by omega, x3, x4⟩
  have p0 := Int.emod_nonneg s[2] (show (w.length : Int) + 1 ≠ 0 by omega)
  have cl : ∀ i j, (cut w i j).length ≤ 4500 := fun i j => by have := cut_len w i j; omega
  rw [bnd_i ew, bnd_i s2, chk_i (by omega), chk_i (by omega), lt_i]
  generalize s[2] % ((w.length : Int) + 1) = place
  obtain ⟨c, ec, _, _⟩ := sign_ok cell
  have l1 := cl none (some place)
  have l2 := cl (some (place + 1)) none
  have l3 := cl (some place) none
  by_cases k5 : kind = 5
  · rw [it_i1 (decide_eq_true k5), chk_i (by omega), chk_i (by omega), chk_i (by omega)]
    exact ⟨_, rfl, by rw [List.length_append]; omega⟩
  rw [it_i0 (decide_eq_false k5)]
  by_cases k6 : kind = 6
  · rw [it_i1 (decide_eq_true k6), chk_i (by omega), bnd_i ec, chk_i (by rw [List.length_singleton]; omega), chk_i (by omega), chk_i (by rw [List.length_append, List.length_singleton]; omega)]
    exact ⟨_, rfl, by simp only [List.length_append, List.length_singleton]; omega⟩
  rw [it_i0 (decide_eq_false k6)]
  by_cases k7 : kind = 7
  · rw [it_i1 (decide_eq_true k7), chk_i (by omega), bnd_i ec, chk_i (by rw [List.length_singleton]; omega), chk_i (by omega), chk_i (by rw [List.length_append, List.length_singleton]; omega)]
    exact ⟨_, rfl, by simp only [List.length_append, List.length_singleton]; omega⟩
  rw [it_i0 (decide_eq_false k7)]
  by_cases k8 : kind = 8
  · have l4 := cl (some ((home.length : Int) + 1)) none
    have l5 := cl none (some (-(1 : Int)))
    rw [it_i1 (decide_eq_true k8), chk_i (by omega), chk_i (by omega), chk_i (by omega), chk_i (by omega), chk_i (by rw [List.length_singleton]; omega), chk_i (by rw [List.length_singleton]; omega), bnd_i s3]
    obtain ⟨y, e, _, l⟩ := pick (l := [(cut w none (some (-(1 : Int)))), (home ++ (cut w (some (((home).length : Int) + (1 : Int))) none)), (w ++ ([97] : List Nat)), (w ++ ([59] : List Nat)), ([] : List Nat)]) (x := s[3]) (k := 5) (b := 6000) rfl (by decide) (by
      intro y hy
      simp only [List.mem_cons, List.not_mem_nil, or_false] at hy
      rcases hy with z | z | z | z | z
      · rw [z]; omega
      · rw [z, List.length_append]; omega
      · rw [z, List.length_append, List.length_singleton]; omega
      · rw [z, List.length_append, List.length_singleton]; omega
      · rw [z]; decide)
    have e' : atI [(cut w none (some (-(1 : Int)))), (home ++ (cut w (some (((home).length : Int) + (1 : Int))) none)), (w ++ ([97] : List Nat)), (w ++ ([59] : List Nat)), ([] : List Nat)] (s[3] % (5 : Int)) = some y := e
    rw [bnd_i e']
    exact ⟨_, rfl, by omega⟩
  rw [it_i0 (decide_eq_false k8)]
  exact ⟨_, rfl, by omega⟩
/-! the runs -/
theorem runs_by_ok (ns : List Int) (cell : Int) (hns : ns.length ≤ 63) : ∃ rs, m_L_runs_by ns cell = some rs ∧ Rn rs := by
  unfold m_L_runs_by
  obtain ⟨s, es, ls⟩ := stream_ok cell 30 (by decide) (by decide)
  have hs : s.length = 30 := by omega
  have s0 : atI s (0 : Int) = some s[0] := get_in (l := s) (i := 0) (by omega)
  have s1 : atI s (1 : Int) = some s[1] := get_in (l := s) (i := 1) (by omega)
  have s2 : atI s (2 : Int) = some s[2] := get_in (l := s) (i := 2) (by omega)
  have s3 : atI s (3 : Int) = some s[3] := get_in (l := s) (i := 3) (by omega)
  obtain ⟨t, et, lt_⟩ := stream_ok (cell + 3) 24 (by decide) (by decide)
  have w0 := Int.emod_nonneg s[0] (by decide : (4 : Int) ≠ 0)
  have w1 := Int.emod_lt_of_pos s[0] (by decide : (0 : Int) < 4)
  obtain ⟨wide, ew, _, mw⟩ := atI_in (l := [(2 : Int), (3 : Int), (94 : Int), (20 : Int)]) w0 w1
  have hw : 0 < wide := by
    simp only [List.mem_cons, List.not_mem_nil, or_false] at mw
    omega
  have z0 := Int.emod_nonneg s[1] (by decide : (25 : Int) ≠ 0)
  have z1 := Int.emod_lt_of_pos s[1] (by decide : (0 : Int) < 25)
  rw [bnd_i es, bnd_i s0, bnd_i ew, bnd_i s1, bnd_i et, chk_i (by
    have := cut_in_hi ns (i := 6) (j := (6 : Int) + s[1] % (25 : Int)) (by decide) (by omega)
    omega), bnd_i s1, chk_i (by unfold CRng; omega)]
  have hrow : 24 ≤ (cut ns (some 6) (some (6 + s[1] % 25)) ++ t).length := by rw [List.length_append]; omega
  obtain ⟨rs, e, i1, i2⟩ := forS_go' (step := fun (r : List (List Nat × Int)) x => m_L_runs_by_b2 ns s wide s[1] t r x) (n := (s[1] % 25).toNat) (hi := s[1] % 25) (fun k r => r.length ≤ k ∧ ∀ q ∈ r, ∃ c, q.1 = [c] ∧ 32 ≤ c ∧ c < 127 ∧ 1 ≤ q.2 ∧ q.2 ≤ 299) (by omega) (by
    intro j r hj ⟨i1, i2⟩
    show ∃ r', m_L_runs_by_b2 ns s wide s[1] t r (j : Int) = some r' ∧ _
    unfold m_L_runs_by_b2
    generalize hro : cut ns (some 6) (some (6 + s[1] % 25)) ++ t = row at hrow
    have hat : atI row (j : Int) = some row[j] := get_in (by omega)
    obtain ⟨c, ec, c1, c2⟩ := sign_ok (s[2] + row[j] % wide)
    rw [bnd_i s2, bnd_i hat, chk_i hw, bnd_i ec, bnd_i hat, lt_i, bnd_i s3]
    have fin : ∀ v : Int, 1 ≤ v → v ≤ 299 → ∃ r', m_L_runs_by_k1 r [c] v = some r' ∧ r'.length ≤ j + 1 ∧ ∀ q ∈ r', ∃ c, q.1 = [c] ∧ 32 ≤ c ∧ c < 127 ∧ 1 ≤ q.2 ∧ q.2 ≤ 299 := by
      intro v v1 v2
      unfold m_L_runs_by_k1
      have gr : Rn r := ⟨by omega, i2⟩
      have hb : ∃ b : Bool, (chk ((kL (k2 kS kT)) r = true) (chk ((kL (k2 kS kT)) ([] : List ((List Nat) × Int)) = true) (it (decide (r = ([] : List ((List Nat) × Int)))) (some true) (bnd (atI (r) ((-(1 : Int)))) fun t218 => some (!decide (t218.1 = [c])))))) = some b := by
        rw [chk_i gr.ks, chk_i (show kL (k2 kS kT) [] = true from rfl)]
        by_cases h0 : r = []
        · rw [it_i1 (decide_eq_true h0)]
          exact ⟨_, rfl⟩
        · have := List.length_pos_iff.2 h0
          have l1 : atI r (-(1 : Int)) = _ := atI_neg (l := r) (k := 1) (by decide) this
          rw [List.getElem?_eq_getElem (by omega)] at l1
          rw [it_i0 (decide_eq_false h0), bnd_i l1]
          exact ⟨_, rfl⟩
      obtain ⟨b, eb⟩ := hb
      rw [bnd_i eb]
      cases b with
      | false =>
        rw [it_i0 rfl]
        exact ⟨_, rfl, by omega, i2⟩
      | true =>
        rw [it_i1 rfl, chk_i (by omega)]
        refine ⟨_, rfl, by rw [List.length_append, List.length_singleton]; omega, fun q hq => ?_⟩
        rcases List.mem_append.1 hq with z | z
        · exact i2 q z
        · rw [List.mem_singleton] at z
          rw [z]
          exact ⟨c, rfl, c1, c2, v1, v2⟩
    have s4 : atI s (4 + (j : Int)) = some s[4 + j] := get_in (l := s) (i := 4 + j) (by omega)
    have hb : ∃ b : Bool, (it (decide ((s[3] % (6 : Int)) = (0 : Int))) (bnd (atI s (((4 : Int) + (j : Int)))) fun t155 => some (decide ((t155 % (5 : Int)) = (0 : Int)))) (some false)) = some b := by
      by_cases h6 : s[3] % (6 : Int) = 0
      · rw [it_i1 (decide_eq_true h6), bnd_i s4]
        exact ⟨_, rfl⟩
      · rw [it_i0 (decide_eq_false h6)]
        exact ⟨_, rfl⟩
    obtain ⟨b, eb⟩ := hb
    rw [bnd_i eb]
    cases b with
    | false =>
      rw [it_i0 rfl, bS]
      exact fin _ (by omega) (by omega)
    | true =>
      rw [it_i1 rfl, bnd_i s4, lt_i, bS]
      exact fin _ (by omega) (by omega)) (s := []) ⟨Nat.zero_le _, fun q hq => absurd hq (by simp)⟩
  rw [bnd_i e]
  exact ⟨rs, rfl, by omega, i2⟩
theorem fitted_ok {rs : List (List Nat × Int)} {most : Int} (g : Rn rs) : ∃ rs', m_L_fitted rs most = some rs' ∧ Rn rs' := by
  unfold m_L_fitted
  rw [lt_i]
  obtain ⟨s', e, i1, i2⟩ := forS_pre (step := fun (s : Int × List (List Nat × Int)) t => m_L_fitted_b2 s.1 s.2 t) (xs := rs) (pre := []) (fun p s => s.2.length ≤ p.length ∧ ∀ q ∈ s.2, ∃ c, q.1 = [c] ∧ 32 ≤ c ∧ c < 127 ∧ 1 ≤ q.2 ∧ q.2 ≤ 299) (by
    intro p s r ⟨i1, i2⟩ hp hr _
    have hpl := hp.length_le
    rw [List.nil_append] at hpl
    have := g.len
    show ∃ s', m_L_fitted_b2 s.1 s.2 r = some s' ∧ _
    unfold m_L_fitted_b2
    obtain ⟨c, e, h1, h2, h3, h4⟩ := g.e r hr
    by_cases h0 : 0 < s.1
    · rw [it_i1 (decide_eq_true h0), chk_i (by omega), bS]
      unfold m_L_fitted_k1
      rw [lt_i]
      refine ⟨_, rfl, by simp only [List.length_append, List.length_singleton]; omega, fun q hq => ?_⟩
      rcases List.mem_append.1 hq with z | z
      · exact i2 q z
      · rw [List.mem_singleton] at z
        rw [z]
        exact ⟨c, e, h1, h2, by show 1 ≤ min r.2 s.1; omega, by show min r.2 s.1 ≤ 299; omega⟩
    · rw [it_i0 (decide_eq_false h0), bS]
      unfold m_L_fitted_k1
      rw [lt_i]
      exact ⟨_, rfl, by simp only [List.length_append, List.length_singleton]; omega, i2⟩) (s := (most, ([] : List (List Nat × Int)))) ⟨Nat.le_refl _, fun q hq => absurd hq (by simp)⟩
  rw [bnd_i e]
  have := g.len
  rw [List.nil_append] at i1
  exact ⟨_, rfl, by omega, i2⟩
theorem k1_ok {ns : List Int} {cell : Int} {s : List Int} {rs : List (List Nat × Int)} (hs : s.length = 6) (g : Rn rs) : m_law_k1 ns cell s rs = some true := by
  unfold m_law_k1
  have hlen := g.len
  have hsum := sum_bound g.e
  obtain ⟨c3, e3⟩ := cell_ok ns 3 (by decide)
  have s5 : atI s (5 : Int) = some s[5] := get_in (l := s) (i := 5) (by omega)
  rw [chk_i (by omega), bnd_i (lcA_map (g := fun r : List Nat × Int => r.2) fun r _ => rfl), List.nil_append, lt_i, bnd_i e3]
  generalize (rs.map (·.2)).sum = many at hsum
  have m0 := Int.emod_nonneg c3 (show many + 1 ≠ 0 by omega)
  have m1 := Int.emod_lt_of_pos c3 (show 0 < many + 1 by omega)
  obtain ⟨q1, q2⟩ := strI_ok (i := c3 % (many + 1)) (k := 4) m0 (by decide) (by omega)
  rw [chk_i (by omega), chk_i (lg2 (by omega)), lt_i, bnd_i s5]
  obtain ⟨t, et, lt_⟩ := spoilt_ok (kind := s[5] % 10) (cell := cell) (home := strI (c3 % (many + 1))) (by omega) q2 g hs
  rw [bnd_i et, bnd_i (due_ok lt_)]
  have eu := unpacked_ok lt_
  cases hp : pkSpec t with
  | none =>
    show it true _ _ = _
    rw [it_i1 rfl, bnd_i (refused_ok lt_ hp)]
  | some p =>
    rw [hp] at eu
    show it false _ _ = _
    rw [it_i0 rfl, bS, bnd_i (okO_i eu), bnd_i (x := false) (by
      rw [it_i0 (b := !true) rfl, it_i0 (by simp), it_i0 (b := !true) rfl]
      rfl), it_i0 rfl]
    simp
theorem law_true (ns : List Int) (h : ns.length ≤ 63) : m_law ns = some true := by
  unfold m_law
  obtain ⟨c0, e0⟩ := cell_ok ns 0 (by decide)
  obtain ⟨c1, e1⟩ := cell_ok ns 1 (by decide)
  obtain ⟨c2, e2⟩ := cell_ok ns 2 (by decide)
  obtain ⟨s, es, ls⟩ := stream_ok c2 6 (by decide) (by decide)
  have hs : s.length = 6 := by omega
  have s4 : atI s (4 : Int) = some s[4] := get_in (l := s) (i := 4) (by omega)
  obtain ⟨rs, er, g⟩ := runs_by_ok ns c0 h
  rw [bnd_i e1, bnd_i e2, bnd_i es, bnd_i e0, bnd_i er, bnd_i s4]
  by_cases h4 : (0 : Int) < s[4] % (4 : Int)
  · obtain ⟨r2, e2, g2⟩ := fitted_ok (most := 300 + b2I (decide (s[4] % 16 = 1))) g
    rw [it_i1 (decide_eq_true h4), bnd_i s4, bnd_i e2, bS]
    exact k1_ok hs g2
  · rw [it_i0 (decide_eq_false h4), bS]
    exact k1_ok hs g
end Bk
namespace Bk
open PySem L2
def spLaw (K : PySem.W.Frag) (tb : TbL) : Sp := fun vs H Q _ => ∃ (a : Addr) (ns : List Int), vs = [.ref a] ∧ SqL K H a (ns.map V.int) ∧ ns.length ≤ 63 ∧ LamX.Tabs tb H ∧ ∀ H', Q (.bl true) H'
theorem all_mk {l : PySem.W.OpenLaw} {w : World} {K : PySem.W.Frag} {h : Heap} {mg : Str → Option Value} {fa : Addr} (X : K.In h) (G : h.Ns mainGlobals mg) (hfa : mg "law" = some (.ref fa))
    {f0 : Addr} {od0 an0 : Option Addr} {sl0 : Array (Option Value)} {oc0 kV0 dc0 pm0 cd0 ct0 : Value}
    {f1 : Addr} {od1 an1 : Option Addr} {sl1 : Array (Option Value)} {oc1 kV1 dc1 pm1 cd1 ct1 : Value}
    {f2 : Addr} {od2 an2 : Option Addr} {sl2 : Array (Option Value)} {oc2 kV2 dc2 pm2 cd2 ct2 : Value}
    {f3 : Addr} {od3 an3 : Option Addr} {sl3 : Array (Option Value)} {oc3 kV3 dc3 pm3 cd3 ct3 : Value}
    {f4 : Addr} {od4 an4 : Option Addr} {sl4 : Array (Option Value)} {oc4 kV4 dc4 pm4 cd4 ct4 : Value}
    {f5 : Addr} {od5 an5 : Option Addr} {sl5 : Array (Option Value)} {oc5 kV5 dc5 pm5 cd5 ct5 : Value}
    {f6 : Addr} {od6 an6 : Option Addr} {sl6 : Array (Option Value)} {oc6 kV6 dc6 pm6 cd6 ct6 : Value}
    {f7 : Addr} {od7 an7 : Option Addr} {sl7 : Array (Option Value)} {oc7 kV7 dc7 pm7 cd7 ct7 : Value}
    {f8 : Addr} {od8 an8 : Option Addr} {sl8 : Array (Option Value)} {oc8 kV8 dc8 pm8 cd8 ct8 : Value}
    {f9 : Addr} {od9 an9 : Option Addr} {sl9 : Array (Option Value)} {oc9 kV9 dc9 pm9 cd9 ct9 : Value}
    {f10 : Addr} {od10 an10 : Option Addr} {sl10 : Array (Option Value)} {oc10 kV10 dc10 pm10 cd10 ct10 : Value}
    {f11 : Addr} {od11 an11 : Option Addr} {sl11 : Array (Option Value)} {oc11 kV11 dc11 pm11 cd11 ct11 : Value}
    {f12 : Addr} {od12 an12 : Option Addr} {sl12 : Array (Option Value)} {oc12 kV12 dc12 pm12 cd12 ct12 : Value}
    {f13 : Addr} {od13 an13 : Option Addr} {sl13 : Array (Option Value)} {oc13 kV13 dc13 pm13 cd13 ct13 : Value}
    {tg_FIGURES : Tok}
    {tg_MOST_FIGURES : Tok}
    {tg_MOST_LETTERS : Tok}
    {CC0 CC1 CC2 CC3 : Addr}
    (a0 : PySem.W.nsIn K mainGlobals "_law_cell_at" = some (some (.ref f0)))
    (l0 : K.lookup f0 = some ⟨oc0, od0, .func (PySem.W.fnOf "_law_cell_at" "_law_cell_at" (defArgs s_L_cell_at) (defBody s_L_cell_at) (defScope s_L_cell_at) .none kV0 dc0 pm0 an0 cd0 ct0), sl0⟩)
    (c0 : PySem.W.codeIn K cd0 "_law_cell_at" = true)
    (k0 : PySem.W.keepIn K (.ref f0) = true)
    (a1 : PySem.W.nsIn K mainGlobals "_law_number" = some (some (.ref f1)))
    (l1 : K.lookup f1 = some ⟨oc1, od1, .func (PySem.W.fnOf "_law_number" "_law_number" (defArgs s_L_number) (defBody s_L_number) (defScope s_L_number) .none kV1 dc1 pm1 an1 cd1 ct1), sl1⟩)
    (c1 : PySem.W.codeIn K cd1 "_law_number" = true)
    (k1 : PySem.W.keepIn K (.ref f1) = true)
    (a2 : PySem.W.nsIn K mainGlobals "_law_due" = some (some (.ref f2)))
    (l2 : K.lookup f2 = some ⟨oc2, od2, .func (PySem.W.fnOf "_law_due" "_law_due" (defArgs s_L_due) (defBody s_L_due) (defScope s_L_due) .none kV2 dc2 pm2 an2 cd2 ct2), sl2⟩)
    (c2 : PySem.W.codeIn K cd2 "_law_due" = true)
    (k2 : PySem.W.keepIn K (.ref f2) = true)
    (a3 : PySem.W.nsIn K mainGlobals "_law_fitted" = some (some (.ref f3)))
    (l3 : K.lookup f3 = some ⟨oc3, od3, .func (PySem.W.fnOf "_law_fitted" "_law_fitted" (defArgs s_L_fitted) (defBody s_L_fitted) (defScope s_L_fitted) .none kV3 dc3 pm3 an3 cd3 ct3), sl3⟩)
    (c3 : PySem.W.codeIn K cd3 "_law_fitted" = true)
    (k3 : PySem.W.keepIn K (.ref f3) = true)
    (a4 : PySem.W.nsIn K mainGlobals "read_number" = some (some (.ref f4)))
    (l4 : K.lookup f4 = some ⟨oc4, od4, .func (PySem.W.fnOf "read_number" "read_number" (defArgs s_read_number) (defBody s_read_number) (defScope s_read_number) .none kV4 dc4 pm4 an4 cd4 ct4), sl4⟩)
    (c4 : PySem.W.codeIn K cd4 "read_number" = true)
    (k4 : PySem.W.keepIn K (.ref f4) = true)
    (a5 : PySem.W.nsIn K mainGlobals "unpacked" = some (some (.ref f5)))
    (l5 : K.lookup f5 = some ⟨oc5, od5, .func (PySem.W.fnOf "unpacked" "unpacked" (defArgs s_unpacked) (defBody s_unpacked) (defScope s_unpacked) .none kV5 dc5 pm5 an5 cd5 ct5), sl5⟩)
    (c5 : PySem.W.codeIn K cd5 "unpacked" = true)
    (k5 : PySem.W.keepIn K (.ref f5) = true)
    (a6 : PySem.W.nsIn K mainGlobals "_law_refused" = some (some (.ref f6)))
    (l6 : K.lookup f6 = some ⟨oc6, od6, .func (PySem.W.fnOf "_law_refused" "_law_refused" (defArgs s_L_refused) (defBody s_L_refused) (defScope s_L_refused) .none kV6 dc6 pm6 an6 cd6 ct6), sl6⟩)
    (c6 : PySem.W.codeIn K cd6 "_law_refused" = true)
    (k6 : PySem.W.keepIn K (.ref f6) = true)
    (a7 : PySem.W.nsIn K mainGlobals "_law_sign" = some (some (.ref f7)))
    (l7 : K.lookup f7 = some ⟨oc7, od7, .func (PySem.W.fnOf "_law_sign" "_law_sign" (defArgs s_L_sign) (defBody s_L_sign) (defScope s_L_sign) .none kV7 dc7 pm7 an7 cd7 ct7), sl7⟩)
    (c7 : PySem.W.codeIn K cd7 "_law_sign" = true)
    (k7 : PySem.W.keepIn K (.ref f7) = true)
    (a8 : PySem.W.nsIn K mainGlobals "_law_stream" = some (some (.ref f8)))
    (l8 : K.lookup f8 = some ⟨oc8, od8, .func (PySem.W.fnOf "_law_stream" "_law_stream" (defArgs s_L_stream) (defBody s_L_stream) (defScope s_L_stream) .none kV8 dc8 pm8 an8 cd8 ct8), sl8⟩)
    (c8 : PySem.W.codeIn K cd8 "_law_stream" = true)
    (k8 : PySem.W.keepIn K (.ref f8) = true)
    (a9 : PySem.W.nsIn K mainGlobals "_law_runs_by" = some (some (.ref f9)))
    (l9 : K.lookup f9 = some ⟨oc9, od9, .func (PySem.W.fnOf "_law_runs_by" "_law_runs_by" (defArgs s_L_runs_by) (defBody s_L_runs_by) (defScope s_L_runs_by) .none kV9 dc9 pm9 an9 cd9 ct9), sl9⟩)
    (c9 : PySem.W.codeIn K cd9 "_law_runs_by" = true)
    (k9 : PySem.W.keepIn K (.ref f9) = true)
    (a10 : PySem.W.nsIn K mainGlobals "_law_written" = some (some (.ref f10)))
    (l10 : K.lookup f10 = some ⟨oc10, od10, .func (PySem.W.fnOf "_law_written" "_law_written" (defArgs s_L_written) (defBody s_L_written) (defScope s_L_written) .none kV10 dc10 pm10 an10 cd10 ct10), sl10⟩)
    (c10 : PySem.W.codeIn K cd10 "_law_written" = true)
    (k10 : PySem.W.keepIn K (.ref f10) = true)
    (a11 : PySem.W.nsIn K mainGlobals "_law_spoilt" = some (some (.ref f11)))
    (l11 : K.lookup f11 = some ⟨oc11, od11, .func (PySem.W.fnOf "_law_spoilt" "_law_spoilt" (defArgs s_L_spoilt) (defBody s_L_spoilt) (defScope s_L_spoilt) .none kV11 dc11 pm11 an11 cd11 ct11), sl11⟩)
    (c11 : PySem.W.codeIn K cd11 "_law_spoilt" = true)
    (k11 : PySem.W.keepIn K (.ref f11) = true)
    (a12 : PySem.W.nsIn K mainGlobals "_law_whole" = some (some (.ref f12)))
    (l12 : K.lookup f12 = some ⟨oc12, od12, .func (PySem.W.fnOf "_law_whole" "_law_whole" (defArgs s_L_whole) (defBody s_L_whole) (defScope s_L_whole) .none kV12 dc12 pm12 an12 cd12 ct12), sl12⟩)
    (c12 : PySem.W.codeIn K cd12 "_law_whole" = true)
    (k12 : PySem.W.keepIn K (.ref f12) = true)
    (a13 : PySem.W.nsIn K mainGlobals "law" = some (some (.ref f13)))
    (l13 : K.lookup f13 = some ⟨oc13, od13, .func (PySem.W.fnOf "law" "law" (defArgs s_law) (defBody s_law) (defScope s_law) .none kV13 dc13 pm13 an13 cd13 ct13), sl13⟩)
    (c13 : PySem.W.codeIn K cd13 "law" = true)
    (k13 : PySem.W.keepIn K (.ref f13) = true)
    (z_ValueError : PySem.W.nsIn K mainGlobals "ValueError" = some none)
    (z_bool : PySem.W.nsIn K mainGlobals "bool" = some none)
    (z_int : PySem.W.nsIn K mainGlobals "int" = some none)
    (z_isinstance : PySem.W.nsIn K mainGlobals "isinstance" = some none)
    (z_len : PySem.W.nsIn K mainGlobals "len" = some none)
    (z_max : PySem.W.nsIn K mainGlobals "max" = some none)
    (z_min : PySem.W.nsIn K mainGlobals "min" = some none)
    (z_range : PySem.W.nsIn K mainGlobals "range" = some none)
    (z_str : PySem.W.nsIn K mainGlobals "str" = some none)
    (z_sum : PySem.W.nsIn K mainGlobals "sum" = some none)
    (z_tuple : PySem.W.nsIn K mainGlobals "tuple" = some none)
    (g_FIGURES : PySem.W.nsIn K mainGlobals "FIGURES" = some (some (.str "0123456789" tg_FIGURES)))
    (g_MOST_FIGURES : PySem.W.nsIn K mainGlobals "MOST_FIGURES" = some (some (.int (3) tg_MOST_FIGURES)))
    (g_MOST_LETTERS : PySem.W.nsIn K mainGlobals "MOST_LETTERS" = some (some (.int (300) tg_MOST_LETTERS)))
    (gx0 : PySem.W.nsIn K mainGlobals "BackError" = some (some (.ref CC0)))
    (xg0 : PySem.W.findIn K (.ref CC0) "__getattribute__" = some (some (.builtin "BaseException.__getattribute__")))
    (xk0 : PySem.W.findIn K (.ref CC0) "__getattr__" = some none)
    (xs0 : PySem.W.subIn K (.ref CC0) (.type "BaseException") = some true)
    (xd0 : PySem.W.hasDictIn K CC0 = true)
    (xa0 : PySem.W.findIn K (.ref CC0) "__class__" = some (some (.builtin "object.__class__")))
    (xm0 : PySem.W.mroIn K CC0 (.type "object") = some true)
    (xt0 : PySem.W.typeIn K (.ref CC0) = some (.type "type"))
    (xq0 : PySem.W.excIn K CC0 [.type "ValueError", .type "Exception", .type "BaseException", .type "object"] "ValueError.__new__" = true)
    (xp0 : PySem.W.keepIn K (.ref CC0) = true)
    (xv0 : PySem.W.kitOne K (.ref CC0) (.type "ValueError") = some true)
    (gx1 : PySem.W.nsIn K mainGlobals "NoText" = some (some (.ref CC1)))
    (xg1 : PySem.W.findIn K (.ref CC1) "__getattribute__" = some (some (.builtin "BaseException.__getattribute__")))
    (xk1 : PySem.W.findIn K (.ref CC1) "__getattr__" = some none)
    (xs1 : PySem.W.subIn K (.ref CC1) (.type "BaseException") = some true)
    (xd1 : PySem.W.hasDictIn K CC1 = true)
    (xa1 : PySem.W.findIn K (.ref CC1) "__class__" = some (some (.builtin "object.__class__")))
    (xm1 : PySem.W.mroIn K CC1 (.type "object") = some true)
    (xt1 : PySem.W.typeIn K (.ref CC1) = some (.type "type"))
    (xq1 : PySem.W.excIn K CC1 [.type "ValueError", .type "Exception", .type "BaseException", .type "object"] "ValueError.__new__" = true)
    (xp1 : PySem.W.keepIn K (.ref CC1) = true)
    (xv1 : PySem.W.kitOne K (.ref CC1) (.type "ValueError") = some true)
    (gx2 : PySem.W.nsIn K mainGlobals "NoName" = some (some (.ref CC2)))
    (xg2 : PySem.W.findIn K (.ref CC2) "__getattribute__" = some (some (.builtin "BaseException.__getattribute__")))
    (xk2 : PySem.W.findIn K (.ref CC2) "__getattr__" = some none)
    (xs2 : PySem.W.subIn K (.ref CC2) (.type "BaseException") = some true)
    (xd2 : PySem.W.hasDictIn K CC2 = true)
    (xa2 : PySem.W.findIn K (.ref CC2) "__class__" = some (some (.builtin "object.__class__")))
    (xm2 : PySem.W.mroIn K CC2 (.type "object") = some true)
    (xt2 : PySem.W.typeIn K (.ref CC2) = some (.type "type"))
    (xq2 : PySem.W.excIn K CC2 [.type "ValueError", .type "Exception", .type "BaseException", .type "object"] "ValueError.__new__" = true)
    (xp2 : PySem.W.keepIn K (.ref CC2) = true)
    (xv2 : PySem.W.kitOne K (.ref CC2) (.type "ValueError") = some true)
    (gx3 : PySem.W.nsIn K mainGlobals "NoRow" = some (some (.ref CC3)))
    (xg3 : PySem.W.findIn K (.ref CC3) "__getattribute__" = some (some (.builtin "BaseException.__getattribute__")))
    (xk3 : PySem.W.findIn K (.ref CC3) "__getattr__" = some none)
    (xs3 : PySem.W.subIn K (.ref CC3) (.type "BaseException") = some true)
    (xd3 : PySem.W.hasDictIn K CC3 = true)
    (xa3 : PySem.W.findIn K (.ref CC3) "__class__" = some (some (.builtin "object.__class__")))
    (xm3 : PySem.W.mroIn K CC3 (.type "object") = some true)
    (xt3 : PySem.W.typeIn K (.ref CC3) = some (.type "type"))
    (xq3 : PySem.W.excIn K CC3 [.type "ValueError", .type "Exception", .type "BaseException", .type "object"] "ValueError.__new__" = true)
    (xp3 : PySem.W.keepIn K (.ref CC3) = true)
    (xv3 : PySem.W.kitOne K (.ref CC3) (.type "ValueError") = some true)
    (xn : PySem.W.specialIn K (.builtin "object.__class__") "__get__" = some (some (.builtin "getset_descriptor.__get__")))
    (xt : PySem.W.takesIn K (.builtin "object.__class__") = some true)
    (sb0_0 : PySem.W.subIn K (.ref CC0) (.ref CC0) = some true)
    (kt0_1 : PySem.W.kitOne K (.ref CC0) (.ref CC1) = some false)
    (kt0_2 : PySem.W.kitOne K (.ref CC0) (.ref CC2) = some false)
    (kt0_3 : PySem.W.kitOne K (.ref CC0) (.ref CC3) = some false)
    (sb1_0 : PySem.W.subIn K (.ref CC1) (.ref CC0) = some true)
    (kt1_1 : PySem.W.kitOne K (.ref CC1) (.ref CC1) = some true)
    (kt1_2 : PySem.W.kitOne K (.ref CC1) (.ref CC2) = some false)
    (kt1_3 : PySem.W.kitOne K (.ref CC1) (.ref CC3) = some false)
    (sb2_0 : PySem.W.subIn K (.ref CC2) (.ref CC0) = some true)
    (kt2_1 : PySem.W.kitOne K (.ref CC2) (.ref CC1) = some false)
    (kt2_2 : PySem.W.kitOne K (.ref CC2) (.ref CC2) = some true)
    (kt2_3 : PySem.W.kitOne K (.ref CC2) (.ref CC3) = some false)
    (sb3_0 : PySem.W.subIn K (.ref CC3) (.ref CC0) = some true)
    (kt3_1 : PySem.W.kitOne K (.ref CC3) (.ref CC1) = some false)
    (kt3_2 : PySem.W.kitOne K (.ref CC3) (.ref CC2) = some false)
    (kt3_3 : PySem.W.kitOne K (.ref CC3) (.ref CC3) = some true)
    : ∃ fd : FuncData, (∀ (s : Shared) (v : Value), BindsTo s fd ⟨[v], []⟩ [("_law_script", v)]) ∧ ∀ base : Heap, K.In base → base.Ns mainGlobals mg → FnOk l.prog w K mg base CX0 4 fa fd ["_law_script"] (spLaw K []) := by
  have e := hfa.symm.trans (PySem.W.mg_of X G a13)
  have e1 : f13 = fa := by cases e; rfl
  subst e1
  have F0 := fun_mk (st := s_L_cell_at) l0 c0 k0
  have b0 := F0.binds (ps := ["_law_script", "_law_k"]) fun _ _ _ _ _ _ us hl => match us, hl with | [_, _], _ => rfl
  have F1 := fun_mk (st := s_L_number) l1 c1 k1
  have b1 := F1.binds (ps := ["_law_figures"]) fun _ _ _ _ _ _ us hl => match us, hl with | [_], _ => rfl
  have F2 := fun_mk (st := s_L_due) l2 c2 k2
  have b2 := F2.binds (ps := ["_law_text"]) fun _ _ _ _ _ _ us hl => match us, hl with | [_], _ => rfl
  have F3 := fun_mk (st := s_L_fitted) l3 c3 k3
  have b3 := F3.binds (ps := ["_law_runs", "_law_most"]) fun _ _ _ _ _ _ us hl => match us, hl with | [_, _], _ => rfl
  have F4 := fun_mk (st := s_read_number) l4 c4 k4
  have b4 := F4.binds (ps := ["figures"]) fun _ _ _ _ _ _ us hl => match us, hl with | [_], _ => rfl
  have F5 := fun_mk (st := s_unpacked) l5 c5 k5
  have b5 := F5.binds (ps := ["text"]) fun _ _ _ _ _ _ us hl => match us, hl with | [_], _ => rfl
  have F6 := fun_mk (st := s_L_refused) l6 c6 k6
  have b6 := F6.binds (ps := ["_law_text"]) fun _ _ _ _ _ _ us hl => match us, hl with | [_], _ => rfl
  have F7 := fun_mk (st := s_L_sign) l7 c7 k7
  have b7 := F7.binds (ps := ["_law_number_here"]) fun _ _ _ _ _ _ us hl => match us, hl with | [_], _ => rfl
  have F8 := fun_mk (st := s_L_stream) l8 c8 k8
  have b8 := F8.binds (ps := ["_law_seed", "_law_many"]) fun _ _ _ _ _ _ us hl => match us, hl with | [_, _], _ => rfl
  have F9 := fun_mk (st := s_L_runs_by) l9 c9 k9
  have b9 := F9.binds (ps := ["_law_script", "_law_cell"]) fun _ _ _ _ _ _ us hl => match us, hl with | [_, _], _ => rfl
  have F10 := fun_mk (st := s_L_written) l10 c10 k10
  have b10 := F10.binds (ps := ["_law_home", "_law_runs"]) fun _ _ _ _ _ _ us hl => match us, hl with | [_, _], _ => rfl
  have F11 := fun_mk (st := s_L_spoilt) l11 c11 k11
  have b11 := F11.binds (ps := ["_law_home", "_law_runs", "_law_kind", "_law_some", "_law_cell"]) fun _ _ _ _ _ _ us hl => match us, hl with | [_, _, _, _, _], _ => rfl
  have F12 := fun_mk (st := s_L_whole) l12 c12 k12
  have b12 := F12.binds (ps := ["_law_found"]) fun _ _ _ _ _ _ us hl => match us, hl with | [_], _ => rfl
  have F13 := fun_mk (st := s_law) l13 c13 k13
  have b13 := F13.binds (ps := ["_law_script"]) fun _ _ _ _ _ _ us hl => match us, hl with | [_], _ => rfl
  refine ⟨PySem.W.fnOf "law" "law" (defArgs s_law) (defBody s_law) (defScope s_law) .none kV13 dc13 pm13 an13 cd13 ct13, fun s v => .of_eq rfl, fun base _ _ => ?_⟩
  let T : Txt K mg base := { tb := [], f_L_cell_at := f0, d_L_cell_at := _, F_L_cell_at := F0, m_L_cell_at := PySem.W.mg_of X G a0, b_L_cell_at := b0, f_L_number := f1, d_L_number := _, F_L_number := F1, m_L_number := PySem.W.mg_of X G a1, b_L_number := b1, f_L_due := f2, d_L_due := _, F_L_due := F2, m_L_due := PySem.W.mg_of X G a2, b_L_due := b2, f_L_fitted := f3, d_L_fitted := _, F_L_fitted := F3, m_L_fitted := PySem.W.mg_of X G a3, b_L_fitted := b3, f_read_number := f4, d_read_number := _, F_read_number := F4, m_read_number := PySem.W.mg_of X G a4, b_read_number := b4, f_unpacked := f5, d_unpacked := _, F_unpacked := F5, m_unpacked := PySem.W.mg_of X G a5, b_unpacked := b5, f_L_refused := f6, d_L_refused := _, F_L_refused := F6, m_L_refused := PySem.W.mg_of X G a6, b_L_refused := b6, f_L_sign := f7, d_L_sign := _, F_L_sign := F7, m_L_sign := PySem.W.mg_of X G a7, b_L_sign := b7, f_L_stream := f8, d_L_stream := _, F_L_stream := F8, m_L_stream := PySem.W.mg_of X G a8, b_L_stream := b8, f_L_runs_by := f9, d_L_runs_by := _, F_L_runs_by := F9, m_L_runs_by := PySem.W.mg_of X G a9, b_L_runs_by := b9, f_L_written := f10, d_L_written := _, F_L_written := F10, m_L_written := PySem.W.mg_of X G a10, b_L_written := b10, f_L_spoilt := f11, d_L_spoilt := _, F_L_spoilt := F11, m_L_spoilt := PySem.W.mg_of X G a11, b_L_spoilt := b11, f_L_whole := f12, d_L_whole := _, F_L_whole := F12, m_L_whole := PySem.W.mg_of X G a12, b_L_whole := b12, f_law := f13, d_law := _, F_law := F13, m_law := PySem.W.mg_of X G a13, b_law := b13, z_ValueError := PySem.W.mg_none_of X G z_ValueError, z_bool := PySem.W.mg_none_of X G z_bool, z_int := PySem.W.mg_none_of X G z_int, z_isinstance := PySem.W.mg_none_of X G z_isinstance, z_len := PySem.W.mg_none_of X G z_len, z_max := PySem.W.mg_none_of X G z_max, z_min := PySem.W.mg_none_of X G z_min, z_range := PySem.W.mg_none_of X G z_range, z_str := PySem.W.mg_none_of X G z_str, z_sum := PySem.W.mg_none_of X G z_sum, z_tuple := PySem.W.mg_none_of X G z_tuple, g_FIGURES := ⟨_, PySem.W.mg_of X G g_FIGURES, ⟨_, congrArg (fun z => Value.str z _) lit_0⟩⟩, g_MOST_FIGURES := ⟨_, PySem.W.mg_of X G g_MOST_FIGURES, ⟨_, rfl⟩⟩, g_MOST_LETTERS := ⟨_, PySem.W.mg_of X G g_MOST_LETTERS, ⟨_, rfl⟩⟩, C := fun i => match i with | 0 => CC0 | 1 => CC1 | 2 => CC2 | _ => CC3, x_BackError := ⟨xq0, PySem.W.mg_of X G gx0, xp0, xs0, xt0⟩, x_NoName := ⟨xq2, PySem.W.mg_of X G gx2, xp2, xs2, xt2⟩, x_NoRow := ⟨xq3, PySem.W.mg_of X G gx3, xp3, xs3, xt3⟩, x_NoText := ⟨xq1, PySem.W.mg_of X G gx1, xp1, xs1, xt1⟩, xc := (fun i h => match i, h with | 0, _ => ⟨xg0, xk0, xs0, xd0, xa0, xn, xt, xm0⟩ | 1, _ => ⟨xg1, xk1, xs1, xd1, xa1, xn, xt, xm1⟩ | 2, _ => ⟨xg2, xk2, xs2, xd2, xa2, xn, xt, xm2⟩ | 3, _ => ⟨xg3, xk3, xs3, xd3, xa3, xn, xt, xm3⟩ | n + 4, h => absurd h (by omega)), exm_0 := (fun i h => match i, h with | 0, _ => PySem.W.exm_ref xs0 xd0 xt0 sb0_0 | 1, _ => PySem.W.exm_ref xs0 xd0 xt0 sb1_0 | 2, _ => PySem.W.exm_ref xs0 xd0 xt0 sb2_0 | 3, _ => PySem.W.exm_ref xs0 xd0 xt0 sb3_0 | n + 4, h => absurd h (by omega)), kit_1 := (fun i h => match i, h with | 0, _ => kt0_1 | 1, _ => kt1_1 | 2, _ => kt2_1 | 3, _ => kt3_1 | n + 4, h => absurd h (by omega)), kit_2 := (fun i h => match i, h with | 0, _ => kt0_2 | 1, _ => kt1_2 | 2, _ => kt2_2 | 3, _ => kt3_2 | n + 4, h => absurd h (by omega)), kit_3 := (fun i h => match i, h with | 0, _ => kt0_3 | 1, _ => kt1_3 | 2, _ => kt2_3 | 3, _ => kt3_3 | n + 4, h => absurd h (by omega)), kitV := (fun i h => match i, h with | 0, _ => xv0 | 1, _ => xv1 | 2, _ => xv2 | 3, _ => xv3 | n + 4, h => absurd h (by omega)) }
  refine FnOk.imp (ok_law (P := l.prog) (w := w) (base := base) T) ?_
  rintro vs H Q E ⟨a, ns, rfl, hS, hlen, hT, q⟩
  exact ⟨.ref a, ns, true, rfl, ⟨a, rfl, hS⟩, law_true ns hlen, fun H' _ => q H'⟩
end Bk
open PySem PySem.W PyProof.Rows
set_option maxRecDepth 100000 in
set_option maxHeartbeats 0 in
theorem PySem.Challenge.cw_backindex_k82_texts_unpacked_holds : PySem.Challenge.rw_backindex_k82_texts_unpacked.Holds := by
  w_on; o_law; k_head; (case hw => w_witness2)
  k_fill
  refine L2.walk_of (l := PySem.Challenge.rw_backindex_k82_texts_unpacked) (n := 63) (k := 4) (x := "_law_script") (CX := fun _ => L2.CX0) (sp := fun w => Bk.spLaw _ []) rfl (by decide) rfl ⟨rfl, by decide, by decide⟩ (fun w h Y => PySem.W.kIn_of Y) ?F (fun _ _ a ns hl _ hS => ⟨a, ns, rfl, hS, hl, (fun _ z => nomatch z), fun _ => rfl⟩) (fun _ _ _ _ _ h => h)
  case F =>
    intro w mg fa h KX G hmg
    refine' Bk.all_mk KX G hmg ?a0 ?l0 ?c0 ?k0 ?a1 ?l1 ?c1 ?k1 ?a2 ?l2 ?c2 ?k2 ?a3 ?l3 ?c3 ?k3 ?a4 ?l4 ?c4 ?k4 ?a5 ?l5 ?c5 ?k5 ?a6 ?l6 ?c6 ?k6 ?a7 ?l7 ?c7 ?k7 ?a8 ?l8 ?c8 ?k8 ?a9 ?l9 ?c9 ?k9 ?a10 ?l10 ?c10 ?k10 ?a11 ?l11 ?c11 ?k11 ?a12 ?l12 ?c12 ?k12 ?a13 ?l13 ?c13 ?k13 ?z_ValueError ?z_bool ?z_int ?z_isinstance ?z_len ?z_max ?z_min ?z_range ?z_str ?z_sum ?z_tuple ?g_FIGURES ?g_MOST_FIGURES ?g_MOST_LETTERS ?gx0 ?xg0 ?xk0 ?xs0 ?xd0 ?xa0 ?xm0 ?xt0 ?xq0 ?xp0 ?xv0 ?gx1 ?xg1 ?xk1 ?xs1 ?xd1 ?xa1 ?xm1 ?xt1 ?xq1 ?xp1 ?xv1 ?gx2 ?xg2 ?xk2 ?xs2 ?xd2 ?xa2 ?xm2 ?xt2 ?xq2 ?xp2 ?xv2 ?gx3 ?xg3 ?xk3 ?xs3 ?xd3 ?xa3 ?xm3 ?xt3 ?xq3 ?xp3 ?xv3 ?xn ?xt ?sb0_0 ?kt0_1 ?kt0_2 ?kt0_3 ?sb1_0 ?kt1_1 ?kt1_2 ?kt1_3 ?sb2_0 ?kt2_1 ?kt2_2 ?kt2_3 ?sb3_0 ?kt3_1 ?kt3_2 ?kt3_3
    (case a0 => k_is)
    (case l0 => k_is)
    (case c0 => k_is)
    (case k0 => k_is)
    (case a1 => k_is)
    (case l1 => k_is)
    (case c1 => k_is)
    (case k1 => k_is)
    (case a2 => k_is)
    (case l2 => k_is)
    (case c2 => k_is)
    (case k2 => k_is)
    (case a3 => k_is)
    (case l3 => k_is)
    (case c3 => k_is)
    (case k3 => k_is)
    (case a4 => k_is)
    (case l4 => k_is)
    (case c4 => k_is)
    (case k4 => k_is)
    (case a5 => k_is)
    (case l5 => k_is)
    (case c5 => k_is)
    (case k5 => k_is)
    (case a6 => k_is)
    (case l6 => k_is)
    (case c6 => k_is)
    (case k6 => k_is)
    (case a7 => k_is)
    (case l7 => k_is)
    (case c7 => k_is)
    (case k7 => k_is)
    (case a8 => k_is)
    (case l8 => k_is)
    (case c8 => k_is)
    (case k8 => k_is)
    (case a9 => k_is)
    (case l9 => k_is)
    (case c9 => k_is)
    (case k9 => k_is)
    (case a10 => k_is)
    (case l10 => k_is)
    (case c10 => k_is)
    (case k10 => k_is)
    (case a11 => k_is)
    (case l11 => k_is)
    (case c11 => k_is)
    (case k11 => k_is)
    (case a12 => k_is)
    (case l12 => k_is)
    (case c12 => k_is)
    (case k12 => k_is)
    (case a13 => k_is)
    (case l13 => k_is)
    (case c13 => k_is)
    (case k13 => k_is)
    (case z_ValueError => k_is)
    (case z_bool => k_is)
    (case z_int => k_is)
    (case z_isinstance => k_is)
    (case z_len => k_is)
    (case z_max => k_is)
    (case z_min => k_is)
    (case z_range => k_is)
    (case z_str => k_is)
    (case z_sum => k_is)
    (case z_tuple => k_is)
    (case g_FIGURES => k_is)
    (case g_MOST_FIGURES => k_is)
    (case g_MOST_LETTERS => k_is)
    (case gx0 => k_is)
    (case xg0 => first | kernel_rfl | k_is)
    (case xk0 => first | kernel_rfl | k_is)
    (case xs0 => first | kernel_rfl | k_is)
    (case xd0 => first | kernel_rfl | k_is)
    (case xa0 => first | kernel_rfl | k_is)
    (case xm0 => first | kernel_rfl | k_is)
    (case xt0 => first | kernel_rfl | k_is)
    (case xq0 => first | kernel_rfl | k_is)
    (case xp0 => first | kernel_rfl | k_is)
    (case xv0 => first | kernel_rfl | k_is)
    (case gx1 => k_is)
    (case xg1 => first | kernel_rfl | k_is)
    (case xk1 => first | kernel_rfl | k_is)
    (case xs1 => first | kernel_rfl | k_is)
    (case xd1 => first | kernel_rfl | k_is)
    (case xa1 => first | kernel_rfl | k_is)
    (case xm1 => first | kernel_rfl | k_is)
    (case xt1 => first | kernel_rfl | k_is)
    (case xq1 => first | kernel_rfl | k_is)
    (case xp1 => first | kernel_rfl | k_is)
    (case xv1 => first | kernel_rfl | k_is)
    (case gx2 => k_is)
    (case xg2 => first | kernel_rfl | k_is)
    (case xk2 => first | kernel_rfl | k_is)
    (case xs2 => first | kernel_rfl | k_is)
    (case xd2 => first | kernel_rfl | k_is)
    (case xa2 => first | kernel_rfl | k_is)
    (case xm2 => first | kernel_rfl | k_is)
    (case xt2 => first | kernel_rfl | k_is)
    (case xq2 => first | kernel_rfl | k_is)
    (case xp2 => first | kernel_rfl | k_is)
    (case xv2 => first | kernel_rfl | k_is)
    (case gx3 => k_is)
    (case xg3 => first | kernel_rfl | k_is)
    (case xk3 => first | kernel_rfl | k_is)
    (case xs3 => first | kernel_rfl | k_is)
    (case xd3 => first | kernel_rfl | k_is)
    (case xa3 => first | kernel_rfl | k_is)
    (case xm3 => first | kernel_rfl | k_is)
    (case xt3 => first | kernel_rfl | k_is)
    (case xq3 => first | kernel_rfl | k_is)
    (case xp3 => first | kernel_rfl | k_is)
    (case xv3 => first | kernel_rfl | k_is)
    (case xn => first | kernel_rfl | k_is)
    (case xt => first | kernel_rfl | k_is)
    (case sb0_0 => first | kernel_rfl | k_is)
    (case kt0_1 => first | kernel_rfl | k_is)
    (case kt0_2 => first | kernel_rfl | k_is)
    (case kt0_3 => first | kernel_rfl | k_is)
    (case sb1_0 => first | kernel_rfl | k_is)
    (case kt1_1 => first | kernel_rfl | k_is)
    (case kt1_2 => first | kernel_rfl | k_is)
    (case kt1_3 => first | kernel_rfl | k_is)
    (case sb2_0 => first | kernel_rfl | k_is)
    (case kt2_1 => first | kernel_rfl | k_is)
    (case kt2_2 => first | kernel_rfl | k_is)
    (case kt2_3 => first | kernel_rfl | k_is)
    (case sb3_0 => first | kernel_rfl | k_is)
    (case kt3_1 => first | kernel_rfl | k_is)
    (case kt3_2 => first | kernel_rfl | k_is)
    (case kt3_3 => first | kernel_rfl | k_is)
