import PyProof.Rows.All
import Wide.All
import OpenK.AllK
import Wide.FinOn
import HandS.ForMost
import HandS.Nested
import HandS.EndTab
import HandS.IsInst
import HandS.Gcd
import HandS.Wide
import KE.SortKeyHeap
import KE.KNestM
import KE.KLam
import PyProof.ReprRoads
import HandS.Deep
import PySem.Challenge.RW_hitclocks_k24_whole_fronts_by_asking
import HandS.FStrTup
import HandS.RaiseMore
/-! M0: the data of the law in plain words. -/
namespace HK
abbrev P2 := Int × Int
structure T4 (α β γ δ : Type) where
  a : α
  b : β
  c : γ
  d : δ
deriving DecidableEq
/-- a tuple of any length -/
structure Tup (α : Type) where
  l : List α
/-- a front -/
inductive Fr where
  | none
  | endless
  | at (p : P2) (n : Int)
  | over (lo hi : P2) (cs : List P2)
/-- an answer -/
inductive Ans where
  | none
  | gains (g : P2)
  | most (m : P2)
/-- what a front tells at a price -/
inductive Told where
  | none
  | endless
  | num (n : Int)
end HK
set_option Elab.async false
set_option linter.all false
set_option maxRecDepth 100000
/-! M1: what the defs compute, in plain words. -/
namespace HK
/-- a number below 2 ^ n in size -/
def Sm (n : Nat) (x : Int) : Prop := x.natAbs < 2 ^ n
def Sm2 (n : Nat) (p : P2) : Prop := Sm n p.1 ∧ Sm n p.2
instance (n : Nat) (x : Int) : Decidable (Sm n x) := inferInstanceAs (Decidable (_ < _))
instance (n : Nat) (p : P2) : Decidable (Sm2 n p) := inferInstanceAs (Decidable (_ ∧ _))
/-! ### prices -/
def FIRST : P2 := (1, 0)
def LAST : P2 := (0, 1)
def wt (c t : P2) : Int := t.1 * c.1 + t.2 * c.2
def leadsB (a b : P2) : Bool := decide (b.1 * a.2 < a.1 * b.2)
def gcdI (p q : Int) : Int := (Nat.gcd p.natAbs q.natAbs : Nat)
def leastT (p q : Int) : P2 := (p / gcdI p q, q / gcdI p q)
def iabs (i : Int) : Int := if i < 0 then -i else i
def alikeAt (one other : P2) : Option P2 :=
  if (one.1 - other.1, other.2 - one.2) = ((0, 0) : P2) ∨ (one.1 - other.1) * (other.2 - one.2) < 0 then none else some (leastT (iabs (other.2 - one.2)) (iabs (one.1 - other.1)))
/-! ### fronts -/
def isBent (one mid other lo hi : P2) : Bool := decide ((wt one lo - wt mid lo) * (wt other hi - wt one hi) < (wt mid hi - wt one hi) * (wt one lo - wt other lo))
/-- the chain found so far, its last first -/
def popW (lo hi p : P2) : List P2 → List P2
  | a :: b :: r => if isBent b a p lo hi then a :: b :: r else popW lo hi p (b :: r)
  | l => l
def envStep (lo hi : P2) (st : List P2) (p : P2) : List P2 := match st with
  | [] => [p]
  | a :: r => if wt p hi ≤ wt a hi then a :: r else p :: popW lo hi p (a :: r)
def envL (lo hi : P2) (ps : List P2) : List P2 := (ps.foldl (envStep lo hi) []).reverse
/-- the order of envelope: falling weights at low, then at high -/
def envLe (lo hi : P2) (p q : P2) : Bool := decide (-wt p lo < -wt q lo ∨ (-wt p lo = -wt q lo ∧ -wt p hi ≤ -wt q hi))
def envelopeF (lo hi : P2) (ps : List P2) : List P2 := envL lo hi (ps.mergeSort (envLe lo hi))
def maxL : List Int → Int
  | [] => 0
  | [x] => x
  | x :: y :: r => max x (maxL (y :: r))
theorem maxL_spec : ∀ {l : List Int}, l ≠ [] → maxL l ∈ l ∧ ∀ y, y ∈ l → y ≤ maxL l
  | [], h => absurd rfl h
  | [x], _ => by simp [maxL]
  | x :: y :: r, _ => by
    obtain ⟨h1, h2⟩ := maxL_spec (l := y :: r) (by simp)
    unfold maxL
    refine ⟨?_, fun z hz => ?_⟩
    · by_cases h : x ≤ maxL (y :: r)
      · rw [Int.max_eq_right h]
        exact List.mem_cons_of_mem _ h1
      · rw [Int.max_eq_left (by omega)]
        exact List.mem_cons_self
    · rcases List.mem_cons.mp hz with rfl | hz
      · omega
      · have := h2 z hz
        omega
theorem maxL_eq {l : List Int} {z : Int} (h1 : z ∈ l) (h2 : ∀ y, y ∈ l → y ≤ z) : z = maxL l := by
  have hne : l ≠ [] := fun e => by rw [e] at h1; cases h1
  obtain ⟨h3, h4⟩ := maxL_spec hne
  have := h2 _ h3
  have := h4 _ h1
  omega
def overF (lo hi : P2) (ps : List P2) : Fr := if lo = hi then .at lo (maxL (ps.map fun c => wt c lo)) else .over lo hi (envelopeF lo hi ps)
abbrev Str2 := P2 × P2
def commonF (one other : Str2) : Option Str2 :=
  let low := if leadsB one.1 other.1 then other.1 else one.1
  let high := if leadsB one.2 other.2 then one.2 else other.2
  if leadsB high low then none else some (low, high)
def freeStr (p : P2) : Option Str2 :=
  if 0 < p.1 ∧ 0 < p.2 then none
  else if p.1 ≤ 0 ∧ p.2 ≤ 0 then some (FIRST, LAST)
  else if 0 < p.1 then some (leastT (-p.2) p.1, LAST) else some (FIRST, leastT p.2 (-p.1))
def freeStep (st : Option Str2) (p : P2) : Option Str2 := match st with
  | none => none
  | some s => match freeStr p with
    | none => none
    | some f => commonF s f
def freeW (st : Option Str2) (ps : List P2) : Option Str2 := ps.foldl freeStep st
/-! ### asking -/
def isPriceB (t : P2) : Bool := decide (0 ≤ t.1) && (decide (0 ≤ t.2) && decide (gcdI t.1 t.2 = 1))
/-- a price that may be asked -/
def okP (t : P2) : Bool := isPriceB t && decide (Sm2 45 t)
def okC (c : P2) : Bool := decide (Sm2 45 c)
/-- the free stretch narrowed from one end; n: asks left. some none: endless -/
def ph1 (ans : P2 → Ans) (e : Bool) : Nat → Str2 → Option (Option Str2)
  | 0, _ => none
  | n + 1, st => if okP (if e then st.2 else st.1) && okP st.1 && okP st.2 then match ans (if e then st.2 else st.1) with
      | .gains g => if okC g then match freeW (some st) [g] with
          | none => some none
          | some st' => ph1 ans e n st'
        else none
      | .most _ => some (some st)
      | .none => none
    else none
abbrev Wait := T4 P2 P2 P2 P2
/-- the search: waiting, its last first -/
def ph2 (ans : P2 → Ans) : Nat → List P2 → List Wait → Option (List P2)
  | 0, _, _ => none
  | _ + 1, found, [] => some found
  | n + 1, found, w :: ws => if okP w.a && okP w.c && okC w.b && okC w.d && decide (found.length + ws.length < 100000) then match alikeAt w.b w.d with
      | none => ph2 ans n found ws
      | some p => if okP p then (if leadsB w.a p && leadsB p w.c then match ans p with
          | .most m => if okC m then (if wt w.b p < wt m p then ph2 ans n (found ++ [m]) (⟨p, m, w.c, w.d⟩ :: ⟨w.a, w.b, p, m⟩ :: ws) else ph2 ans n found ws) else none
          | _ => none
        else ph2 ans n found ws) else none
    else none
/-- a number of asks that is never passed -/
def BUD : Nat := 100000
/-- what by_asking hands back; n1, n2, n3: asks of its three parts -/
def byAsk (ans : P2 → Ans) (n1 n2 n3 : Nat) : Option Fr := match ans FIRST with
  | .none => some .none
  | _ => match ph1 ans false n1 (FIRST, LAST) with
    | none => none
    | some none => some .endless
    | some (some st) => match ph1 ans true n2 st with
      | none => none
      | some none => some .endless
      | some (some st2) => match ans st2.1, ans st2.2 with
        | .most m1, .most m2 => if okP st2.1 && okP st2.2 && okC m1 && okC m2 then match ph2 ans n3 [m1, m2] [⟨st2.1, m1, st2.2, m2⟩] with
            | none => none
            | some found => if found.all okC && decide (found.length < 100000) then some (overF st2.1 st2.2 found) else none
          else none
        | _, _ => none
/-! ### the law's side -/
def euc : Nat → Int → Int → Int
  | 0, a, _ => a
  | n + 1, a, b => if b = 0 then a else euc n b (a % b)
def lawAlone (p : P2) : List P2 → P2 → P2 → Option Str2
  | [], lo, hi => if leadsB lo hi then some (lo, hi) else none
  | o :: r, lo, hi => if p.1 - o.1 ≤ 0 ∧ p.2 - o.2 ≤ 0 then none else
      lawAlone p r (if p.1 - o.1 < 0 ∧ leadsB lo (leastT (p.2 - o.2) (0 - (p.1 - o.1))) = true then leastT (p.2 - o.2) (0 - (p.1 - o.1)) else lo)
        (if p.2 - o.2 < 0 ∧ leadsB (leastT (0 - (p.2 - o.2)) (p.1 - o.1)) hi = true then leastT (0 - (p.2 - o.2)) (p.1 - o.1) else hi)
def dedup (ps : List P2) : List P2 := ps.foldl (fun acc p => if p ∈ acc then acc else acc ++ [p]) []
def lawFound (some : List P2) (lo hi : P2) : List (P2 × P2) := some.filterMap fun p => (lawAlone p (some.filter fun o => !decide (o = p)) lo hi).map fun part => (part.1, p)
def lawOrder (found : List (P2 × P2)) : List (Int × P2) := found.map fun one => (((found.filter fun o => leadsB o.1 one.1).length : Int), one.2)
def ordLe (a b : Int × P2) : Bool := decide (a.1 < b.1 ∨ (a.1 = b.1 ∧ (a.2.1 < b.2.1 ∨ (a.2.1 = b.2.1 ∧ a.2.2 ≤ b.2.2))))
def lawCorners (ps : List P2) (lo hi : P2) : List P2 := ((lawOrder (lawFound (dedup ps) lo hi)).mergeSort ordLe).map (·.2)
def lawOver (ps : List P2) (lo hi : P2) : Fr := if lo = hi then .at lo (maxL (ps.map fun c => wt c lo)) else .over lo hi (lawCorners ps lo hi)
def lawValue (F : Fr) (t : P2) : Told := match F with
  | .none => .none
  | .endless => .endless
  | .at lo n => if t = lo then .num n else .endless
  | .over lo hi cs => if leadsB t lo || leadsB hi t then .endless else .num (maxL (cs.map fun c => wt c t))
def lawGain (marks : List P2) (t : P2) (way : Int) : List P2 := marks.foldl (fun acc k => (acc ++ (if way = 1 ∧ leadsB t k = true then [(k.2, 0 - k.1)] else [])) ++ (if way = -1 ∧ leadsB k t = true then [(0 - k.2, k.1)] else [])) []
abbrev Scene := T4 Fr (List P2) (List P2) (List P2)
/-- what the law answers at a price; none: never asked so -/
def lawAns (sc : Scene) (more : Int) (t : P2) : Option Ans := match lawValue sc.a t with
  | .none => some .none
  | .endless => match (lawGain sc.c t 1 ++ lawGain sc.d t (-1))[((t.1 + 2 * t.2 + more) % ((lawGain sc.c t 1 ++ lawGain sc.d t (-1)).length : Int)).toNat]? with
    | none => none
    | some g => some (.gains ((1 + (t.1 + more) % 3) * g.1, (1 + (t.1 + more) % 3) * g.2))
  | .num n => match sc.a with
    | .at _ _ => match sc.b.filter fun c => decide (wt c t = n) with
      | [] => none
      | h :: _ => some (.most (h.1 + ((t.1 + more) % 7 - 3) * t.2, h.2 - ((t.1 + more) % 7 - 3) * t.1))
    | .over lo hi cs => match cs.filter fun c => decide (wt c t = n) with
      | [] => none
      | one :: r =>
        let two := (one :: r).getLast (by simp)
        if one ≠ two then
          let deep := gcdI (two.1 - one.1) (two.2 - one.2)
          let part := (t.1 + t.2 + more) % (deep + 1)
          some (.most (one.1 + (two.1 - one.1) / deep * part, one.2 + (two.2 - one.2) / deep * part))
        else
          let step := (t.1 + more) % 4
          if t = lo then some (.most (one.1 + step * t.2, one.2 - step * t.1))
          else if t = hi then some (.most (one.1 - step * t.2, one.2 + step * t.1))
          else some (.most one)
    | _ => none
/-- what the second lambda answers -/
def dueAns (F : Fr) (t : P2) : Option Ans := match F, lawValue F t with
  | .over _ _ cs, .num n => match cs.filter fun c => decide (wt c t = n) with
    | [] => none
    | h :: _ => some (.most h)
  | _, _ => none
end HK
set_option Elab.async false
set_option linter.all false
set_option maxRecDepth 100000
/-! E0: expressions that evaluate to data, statements by what they leave. -/
namespace HK
open PySem PySem.Spec PyProof.Rows L2

/-! ### the weakest readings -/
section
variable (X : Cx)
def WE (e : Expr) : TE := fun σ H Q => ∀ (pins : List (Addr × Obj)) (s : Shared), Inv X pins σ H s → wpAny (model X.prog X.w) X.A (eval e X.env) (EP X pins σ Q) X.xe s
def WT (e : Expr) : TT := fun σ H Q => ∀ (pins : List (Addr × Obj)) (s : Shared), Inv X pins σ H s → wpAny (model X.prog X.w) X.A (isTrue e X.env (eval e X.env)) (TP X pins σ Q) X.xe s
def WW (e : Expr) : TT := fun σ H Q => ∀ (whole : Sem Value) (pins : List (Addr × Obj)) (s : Shared), Inv X pins σ H s → wpAny (model X.prog X.w) X.A (isTrue e X.env whole) (TP X pins σ Q) X.xe s
def WA (es : List Expr) : TA := fun σ H Q => ∀ (pos : Pos) (pins : List (Addr × Obj)) (s : Shared), Inv X pins σ H s → wpAny (model X.prog X.w) X.A (spliced (backTo pos (starEach es X.env))) (AP X pins σ Q) X.xe s
def WS (st : Stmt) : TS := fun D σ H => ∀ (pins : List (Addr × Obj)) (s : Shared), Inv X pins σ H s → wpAny (model X.prog X.w) X.A (exec st X.env) (SP X pins D) X.xe s
def WB (st : List Stmt) : TS := fun D σ H => ∀ (pins : List (Addr × Obj)) (s : Shared), Inv X pins σ H s → wpAny (model X.prog X.w) X.A (execs st X.env) (SP X pins D) X.xe s
end
section
variable {X : Cx} {e : Expr} {es : List Expr} {st : Stmt} {sts : List Stmt}
theorem pe_w : PE X e (WE X e) := ⟨fun pins s σ H Q I h => h pins s I⟩
theorem pt_w : PT X e (WT X e) := ⟨fun pins s σ H Q I h => h pins s I⟩
theorem pw_w : PW X e (WW X e) := ⟨fun wh pins s σ H Q I h => h wh pins s I⟩
theorem pa_w : PA X es (WA X es) := ⟨fun pos pins s σ H Q I h => h pos pins s I⟩
theorem ps_w : PS X st (WS X st) := ⟨fun pins s σ H D I h => h pins s I⟩
theorem pss_w : PSs X sts (WB X sts) := ⟨fun pins s σ H D I h => h pins s I⟩
theorem we_of {t : TE} {σ : L2.St} {H : Hp} {Q : VK} (h : PE X e t) (q : t σ H Q) : WE X e σ H Q := fun pins s I => h.run pins s σ H Q I q
theorem wt_of {t : TT} {σ : L2.St} {H : Hp} {Q : Bool → Hp → Prop} (h : PT X e t) (q : t σ H Q) : WT X e σ H Q := fun pins s I => h.run pins s σ H Q I q
theorem ww_of {t : TT} {σ : L2.St} {H : Hp} {Q : Bool → Hp → Prop} (h : PW X e t) (q : t σ H Q) : WW X e σ H Q := fun wh pins s I => h.run wh pins s σ H Q I q
theorem wa_of {t : TA} {σ : L2.St} {H : Hp} {Q : List V → Hp → Prop} (h : PA X es t) (q : t σ H Q) : WA X es σ H Q := fun pos pins s I => h.run pos pins s σ H Q I q
theorem ws_of {t : TS} {σ : L2.St} {H : Hp} {D : Ends} (h : PS X st t) (q : t D σ H) : WS X st D σ H := fun pins s I => h.run pins s σ H D I q
theorem wb_of {t : TS} {σ : L2.St} {H : Hp} {D : Ends} (h : PSs X sts t) (q : t D σ H) : WB X sts D σ H := fun pins s I => h.run pins s σ H D I q
end

/-! ### what may change on the way -/
/-- all that was tracked is as it was -/
abbrev Ex (H H' : Hp) : Prop := Same H H'
/-- M: the objects that may change; J: what stays true of them -/
structure Mode where
  M : Addr → Prop
  J : Hp → Prop
  ex : ∀ {H H' : Hp}, Ex H H' → J H → J H'
  live : ∀ {H : Hp} {a : Addr}, J H → M a → H a ≠ none
  lst : ∀ {H : Hp} {a : Addr} {vs ws : List V}, ¬ M a → H a = some (.lst vs) → J H → J (upd H a (.lst ws))
/-- nothing changes -/
def m0 : Mode := ⟨fun _ => False, fun _ => True, fun _ _ => True.intro, fun _ h => h.elim, fun _ _ _ => True.intro⟩
structure Step (m : Mode) (H H' : Hp) : Prop where
  keep : ∀ b o, ¬ m.M b → H b = some o → H' b = some o
  j : m.J H'
section
variable {m : Mode} {H H1 H2 : Hp}
theorem Step.refl (j : m.J H) : Step m H H := ⟨fun _ _ _ h => h, j⟩
theorem Step.trans (a : Step m H H1) (b : Step m H1 H2) : Step m H H2 := ⟨fun c o n h => b.keep c o n (a.keep c o n h), b.j⟩
theorem Step.ex (j : m.J H) (e : Ex H H1) : Step m H H1 := ⟨fun b o _ h => e b o h, m.ex e j⟩
theorem Step.fresh (a : Step m H H1) {p : Addr} (h : H1 p = none) : H p = none := by
  cases q : H p with
  | none => rfl
  | some o =>
    by_cases hm : m.M p
    · exact absurd h (m.live a.j hm)
    · have z := a.keep p o hm q
      rw [h] at z
      cases z
theorem Ex.new {p : Addr} {o : HO} (h : H p = none) : Ex H (upd H p o) := fun a u e => by
  rw [upd_ne (ne_of_none e h)]
  exact e
theorem Step.new {p : Addr} {o : HO} (j : m.J H) (h : H p = none) : Step m H (upd H p o) := Step.ex j (Ex.new h)
theorem Mode.notM (j : m.J H) {p : Addr} (h : H p = none) : ¬ m.M p := fun z => m.live j z h
end

/-! ### data -/
/-- a tuple at a, that nothing changes -/
def TupA (K : PySem.W.Frag) (M : Addr → Prop) (H : Hp) (a : Addr) (xs : List V) : Prop := (¬ M a ∧ H a = some (.tup xs)) ∨ SqT K (fun _ => none) a xs
def SqA (K : PySem.W.Frag) (M : Addr → Prop) (H : Hp) (a : Addr) (xs : List V) : Prop := (¬ M a ∧ Rd H a (.lst xs)) ∨ SqL K (fun _ => none) a xs
section
variable {K : PySem.W.Frag} {M M' : Addr → Prop} {H H' : Hp} {a : Addr} {xs : List V}
theorem no_rd {u : HO} (h : Rd (fun _ => none) a u) : False := by
  rcases h with h | ⟨o, h⟩
  · cases h
  · cases h
theorem TupA.sq (h : TupA K M H a xs) : SqT K H a xs := by
  rcases h with ⟨_, h⟩ | h | h
  · exact .of h
  · exact (no_rd h).elim
  · exact .inr h
theorem SqA.sq (h : SqA K M H a xs) : SqL K H a xs := by
  rcases h with ⟨_, h⟩ | h | h
  · exact .inl h
  · exact (no_rd h).elim
  · exact .inr h
theorem TupA.mono (k : ∀ b o, ¬ M b → H b = some o → H' b = some o) (h : TupA K M H a xs) : TupA K M H' a xs := by
  rcases h with ⟨n, h⟩ | h
  · exact .inl ⟨n, k _ _ n h⟩
  · exact .inr h
theorem SqA.mono (k : ∀ b o, ¬ M b → H b = some o → H' b = some o) (h : SqA K M H a xs) : SqA K M H' a xs := by
  rcases h with ⟨n, h | ⟨o, h⟩⟩ | h
  · exact .inl ⟨n, .inl (k _ _ n h)⟩
  · exact .inl ⟨n, .inr ⟨o, k _ _ n h⟩⟩
  · exact .inr h
theorem TupA.shift (k : ∀ b, M' b → M b ∨ H b = none) (h : TupA K M H a xs) : TupA K M' H a xs := by
  rcases h with ⟨n, h⟩ | h
  · refine .inl ⟨fun z => ?_, h⟩
    rcases k a z with z | z
    · exact n z
    · rw [h] at z
      cases z
  · exact .inr h
theorem SqA.shift (k : ∀ b, M' b → M b ∨ H b = none) (h : SqA K M H a xs) : SqA K M' H a xs := by
  rcases h with ⟨n, h⟩ | h
  · refine .inl ⟨fun z => ?_, h⟩
    rcases k a z with z | z
    · exact n z
    · rcases h with h | ⟨o, h⟩
      · rw [h] at z
        cases z
      · rw [h] at z
        cases z
  · exact .inr h
end
/-- a list at a, known as such, that nothing changes -/
def LstA (K : PySem.W.Frag) (M : Addr → Prop) (H : Hp) (a : Addr) (xs : List V) : Prop := ¬ M a ∧ H a = some (.lst xs)
section
variable {K : PySem.W.Frag} {M M' : Addr → Prop} {H H' : Hp} {a : Addr} {xs : List V}
theorem LstA.sq (h : LstA K M H a xs) : SqL K H a xs := .inl (.inl h.2)
theorem LstA.mono (k : ∀ b o, ¬ M b → H b = some o → H' b = some o) (h : LstA K M H a xs) : LstA K M H' a xs := ⟨h.1, k _ _ h.1 h.2⟩
theorem LstA.shift (k : ∀ b, M' b → M b ∨ H b = none) (h : LstA K M H a xs) : LstA K M' H a xs := ⟨fun z => by
  rcases k a z with z | z
  · exact h.1 z
  · rw [h.2] at z
    exact (nomatch z), h.2⟩
end
/-- what stands for data of the type α -/
class Rep (α : Type) where
  rep : PySem.W.Frag → (Addr → Prop) → Hp → V → α → Prop
  mono : ∀ {K : PySem.W.Frag} {M : Addr → Prop} {H H' : Hp} {v : V} {x : α}, (∀ b o, ¬ M b → H b = some o → H' b = some o) → rep K M H v x → rep K M H' v x
  shift : ∀ {K : PySem.W.Frag} {M M' : Addr → Prop} {H : Hp} {v : V} {x : α}, (∀ b, M' b → M b ∨ H b = none) → rep K M H v x → rep K M' H v x
open Rep
instance : Rep Int := ⟨fun _ _ _ v x => v = .int x, fun _ h => h, fun _ h => h⟩
instance : Rep Bool := ⟨fun _ _ _ v x => v = .bl x, fun _ h => h, fun _ h => h⟩
instance : Rep V := ⟨fun _ _ _ v x => v = x, fun _ h => h, fun _ h => h⟩
def repO {α : Type} [Rep α] (K : PySem.W.Frag) (M : Addr → Prop) (H : Hp) (v : V) : Option α → Prop
  | none => v = .non
  | some x => (∃ a, v = .ref a) ∧ rep K M H v x
instance {α : Type} [Rep α] : Rep (Option α) := ⟨repO, fun {K M H H' v x} k h => by
    cases x with
    | none => exact h
    | some x => exact ⟨h.1, mono k h.2⟩, fun {K M M' H v x} k h => by
    cases x with
    | none => exact h
    | some x => exact ⟨h.1, shift k h.2⟩⟩
instance {α β : Type} [Rep α] [Rep β] : Rep (α × β) := ⟨fun K M H v x => ∃ a v1 v2, v = .ref a ∧ TupA K M H a [v1, v2] ∧ rep K M H v1 x.1 ∧ rep K M H v2 x.2,
  fun k ⟨a, v1, v2, e, t, r1, r2⟩ => ⟨a, v1, v2, e, t.mono k, mono k r1, mono k r2⟩, fun k ⟨a, v1, v2, e, t, r1, r2⟩ => ⟨a, v1, v2, e, t.shift k, shift k r1, shift k r2⟩⟩
instance {α β γ δ : Type} [Rep α] [Rep β] [Rep γ] [Rep δ] : Rep (T4 α β γ δ) := ⟨fun K M H v x => ∃ a v1 v2 v3 v4, v = .ref a ∧ TupA K M H a [v1, v2, v3, v4] ∧ rep K M H v1 x.a ∧ rep K M H v2 x.b ∧ rep K M H v3 x.c ∧ rep K M H v4 x.d,
  fun k ⟨a, v1, v2, v3, v4, e, t, r1, r2, r3, r4⟩ => ⟨a, v1, v2, v3, v4, e, t.mono k, mono k r1, mono k r2, mono k r3, mono k r4⟩,
  fun k ⟨a, v1, v2, v3, v4, e, t, r1, r2, r3, r4⟩ => ⟨a, v1, v2, v3, v4, e, t.shift k, shift k r1, shift k r2, shift k r3, shift k r4⟩⟩
abbrev Reps {α : Type} [Rep α] (K : PySem.W.Frag) (M : Addr → Prop) (H : Hp) (vs : List V) (xs : List α) : Prop := Paired (rep K M H) vs xs
instance {α : Type} [Rep α] : Rep (List α) := ⟨fun K M H v xs => ∃ a vs, v = .ref a ∧ LstA K M H a vs ∧ Reps K M H vs xs,
  fun k ⟨a, vs, e, t, r⟩ => ⟨a, vs, e, t.mono k, Paired.mapP r fun _ _ z => mono k z⟩, fun k ⟨a, vs, e, t, r⟩ => ⟨a, vs, e, t.shift k, Paired.mapP r fun _ _ z => shift k z⟩⟩
/-- a list that one reads alone -/
structure Sq (α : Type) where
  l : List α
instance {α : Type} [Rep α] : Rep (Sq α) := ⟨fun K M H v xs => ∃ a vs, v = .ref a ∧ SqA K M H a vs ∧ Reps K M H vs xs.l,
  fun k ⟨a, vs, e, t, r⟩ => ⟨a, vs, e, t.mono k, Paired.mapP r fun _ _ z => mono k z⟩, fun k ⟨a, vs, e, t, r⟩ => ⟨a, vs, e, t.shift k, Paired.mapP r fun _ _ z => shift k z⟩⟩
instance {α : Type} [Rep α] : Rep (Tup α) := ⟨fun K M H v xs => ∃ a vs, v = .ref a ∧ TupA K M H a vs ∧ Reps K M H vs xs.l,
  fun k ⟨a, vs, e, t, r⟩ => ⟨a, vs, e, t.mono k, Paired.mapP r fun _ _ z => mono k z⟩, fun k ⟨a, vs, e, t, r⟩ => ⟨a, vs, e, t.shift k, Paired.mapP r fun _ _ z => shift k z⟩⟩
def sEndless : Str := "endless"
def sAt : Str := "at"
def sOver : Str := "over"
def sGains : Str := "gains"
def sMost : Str := "most"
def repF (K : PySem.W.Frag) (M : Addr → Prop) (H : Hp) (v : V) : Fr → Prop
  | .none => v = .non
  | .endless => ∃ a, v = .ref a ∧ TupA K M H a [.str sEndless]
  | .at p n => ∃ a v1, v = .ref a ∧ TupA K M H a [.str sAt, v1, .int n] ∧ rep K M H v1 p
  | .over lo hi cs => ∃ a v1 v2 v3, v = .ref a ∧ TupA K M H a [.str sOver, v1, v2, v3] ∧ rep K M H v1 lo ∧ rep K M H v2 hi ∧ rep K M H v3 (Tup.mk cs)
instance : Rep Fr := ⟨repF, fun {K M H H' v x} k h => by
    cases x with
    | none => exact h
    | endless => obtain ⟨a, e, t⟩ := h; exact ⟨a, e, t.mono k⟩
    | «at» p n => obtain ⟨a, v1, e, t, r⟩ := h; exact ⟨a, v1, e, t.mono k, mono k r⟩
    | over lo hi cs => obtain ⟨a, v1, v2, v3, e, t, r1, r2, r3⟩ := h; exact ⟨a, v1, v2, v3, e, t.mono k, mono k r1, mono k r2, mono k r3⟩, fun {K M M' H v x} k h => by
    cases x with
    | none => exact h
    | endless => obtain ⟨a, e, t⟩ := h; exact ⟨a, e, t.shift k⟩
    | «at» p n => obtain ⟨a, v1, e, t, r⟩ := h; exact ⟨a, v1, e, t.shift k, shift k r⟩
    | over lo hi cs => obtain ⟨a, v1, v2, v3, e, t, r1, r2, r3⟩ := h; exact ⟨a, v1, v2, v3, e, t.shift k, shift k r1, shift k r2, shift k r3⟩⟩
def repA (K : PySem.W.Frag) (M : Addr → Prop) (H : Hp) (v : V) : Ans → Prop
  | .none => v = .non
  | .gains p => ∃ a v1, v = .ref a ∧ TupA K M H a [.str sGains, v1] ∧ rep K M H v1 p
  | .most p => ∃ a v1, v = .ref a ∧ TupA K M H a [.str sMost, v1] ∧ rep K M H v1 p
instance : Rep Ans := ⟨repA, fun {K M H H' v x} k h => by
    cases x with
    | none => exact h
    | gains p => obtain ⟨a, v1, e, t, r⟩ := h; exact ⟨a, v1, e, t.mono k, mono k r⟩
    | most p => obtain ⟨a, v1, e, t, r⟩ := h; exact ⟨a, v1, e, t.mono k, mono k r⟩, fun {K M M' H v x} k h => by
    cases x with
    | none => exact h
    | gains p => obtain ⟨a, v1, e, t, r⟩ := h; exact ⟨a, v1, e, t.shift k, shift k r⟩
    | most p => obtain ⟨a, v1, e, t, r⟩ := h; exact ⟨a, v1, e, t.shift k, shift k r⟩⟩
def repT (v : V) : Told → Prop
  | .none => v = .non
  | .endless => v = .str sEndless
  | .num n => v = .int n
instance : Rep Told := ⟨fun _ _ _ v x => repT v x, fun _ h => h, fun _ h => h⟩

theorem Step.rep {α : Type} [Rep α] {m : Mode} {K : PySem.W.Frag} {H H' : Hp} {v : V} {x : α} (s : Step m H H') (h : rep K m.M H v x) : rep K m.M H' v x := mono s.keep h

/-! ### expressions -/
/-- e evaluates to some data of which P holds -/
def Ev (X : Cx) (m : Mode) (e : Expr) (σ : L2.St) (H : Hp) {α : Type} [Rep α] (P : α → Prop) : Prop :=
  ∀ H1, Step m H H1 → ∀ Q : VK, (∀ v H2 x, Step m H1 H2 → P x → rep X.K m.M H2 v x → Q v H2) → WE X e σ H1 Q
/-- to these data -/
abbrev EvD (X : Cx) (m : Mode) (e : Expr) (σ : L2.St) (H : Hp) {α : Type} [Rep α] (x : α) : Prop := Ev X m e σ H (fun y => y = x)
def EvT (X : Cx) (m : Mode) (e : Expr) (σ : L2.St) (H : Hp) (b : Bool) : Prop :=
  ∀ H1, Step m H H1 → ∀ Q : Bool → Hp → Prop, (∀ H2, Step m H1 H2 → Q b H2) → WT X e σ H1 Q
def EvW (X : Cx) (m : Mode) (e : Expr) (σ : L2.St) (H : Hp) (b : Bool) : Prop :=
  ∀ H1, Step m H H1 → ∀ Q : Bool → Hp → Prop, (∀ H2, Step m H1 H2 → Q b H2) → WW X e σ H1 Q
def EvA (X : Cx) (m : Mode) (es : List Expr) (σ : L2.St) (H : Hp) (R : Hp → List V → Prop) : Prop :=
  ∀ H1, Step m H H1 → ∀ Q : List V → Hp → Prop, (∀ vs H2, Step m H1 H2 → R H2 vs → Q vs H2) → WA X es σ H1 Q
section
variable {X : Cx} {m : Mode} {σ : L2.St} {H H' : Hp} {a b c e : Expr} {es : List Expr} {pos : Pos} {α β γ δ : Type} [Rep α] [Rep β] [Rep γ] [Rep δ] {x : α} {y : β} {i j : Int}
theorem Ev.at {P : α → Prop} (h : Ev X m e σ H P) (s : Step m H H') : Ev X m e σ H' P := fun H1 s1 Q q => h H1 (s.trans s1) Q q
theorem EvT.at {k : Bool} (h : EvT X m e σ H k) (s : Step m H H') : EvT X m e σ H' k := fun H1 s1 Q q => h H1 (s.trans s1) Q q
theorem Ev.imp {P P' : α → Prop} (h : Ev X m e σ H P) (k : ∀ x, P x → P' x) : Ev X m e σ H P' := fun H1 s1 Q q => h H1 s1 Q fun v H2 x s2 p r => q v H2 x s2 (k x p) r
theorem Ev.to {x' : α} (h : EvD X m e σ H x) (k : x = x') : EvD X m e σ H x' := k ▸ h
theorem EvT.to {k k' : Bool} (h : EvT X m e σ H k) (z : k = k') : EvT X m e σ H k' := z ▸ h

theorem ev_var (i : Nat) {n : Str} {v : V} (h : rep X.K m.M H v x) (hs : σ[i]? = some (some v) := by rfl) (hN : X.N[i]? = some n := by rfl) (hv : Vis X.env.scope n := by first | exact Or.inl rfl | exact Or.inr (Or.inl rfl) | exact Or.inr (Or.inr rfl))
    (hd : (n == ("__debug__" : Str)) = false := by decide) (hcd : (n == ("__classdict__" : Str)) = false := by decide) : EvD X m (.Name n pos) σ H x := fun H1 s1 Q q =>
  we_of (pe_var hN hv hd hcd) ⟨v, hs, q v H1 x (Step.refl s1.j) rfl (s1.rep h)⟩
theorem ev_int {k : Nat} : EvD X m (.Constant (.int i) k pos) σ H i := fun H1 s1 Q q => we_of pe_int (q _ H1 i (Step.refl s1.j) rfl rfl)
theorem ev_str {k : Nat} {z : Str} : EvD X m (.Constant (.str z) k pos) σ H (V.str z) := fun H1 s1 Q q => we_of pe_str (q _ H1 _ (Step.refl s1.j) rfl rfl)
theorem ev_bl {k : Nat} {z : Bool} : EvD X m (.Constant (.bool z) k pos) σ H z := fun H1 s1 Q q => we_of pe_bl (q _ H1 _ (Step.refl s1.j) rfl rfl)
theorem ev_none {k : Nat} : EvD X m (.Constant .none k pos) σ H (none : Option α) := fun H1 s1 Q q => we_of pe_non (q _ H1 none (Step.refl s1.j) rfl rfl)
theorem ev_noneV {k : Nat} : EvD X m (.Constant .none k pos) σ H V.non := fun H1 s1 Q q => we_of pe_non (q _ H1 V.non (Step.refl s1.j) rfl rfl)
theorem ev_noneF {k : Nat} : EvD X m (.Constant .none k pos) σ H Fr.none := fun H1 s1 Q q => we_of pe_non (q _ H1 Fr.none (Step.refl s1.j) rfl rfl)
/-- a written object of the module -/
theorem ev_glob {n : Str} {v : V} {u : Value} (hm : X.mg n = some u) (r : RelV v u) (h : rep X.K m.M H v x) (hg : Gl X n := by rfl) (hd : (n == ("__debug__" : Str)) = false := by decide) : EvD X m (.Name n pos) σ H x := fun H1 s1 Q q =>
  we_of (pe_glob hg hm r hd) (q v H1 x (Step.refl s1.j) rfl (s1.rep h))

/-- a two-place operation -/
theorem ev_op {op : Operator} {r : R2} {P : γ → Prop} {Pa : α → Prop} {Pb : β → Prop} (ho : OpR X (binaryOp op) r) (ha : Ev X m a σ H Pa) (hb : Ev X m b σ H Pb)
    (h : ∀ (v w : V) (x : α) (y : β) (H1 : Hp) (Q : VK), Step m H H1 → Pa x → Pb y → rep X.K m.M H1 v x → rep X.K m.M H1 w y → (∀ u H2 z, Step m H1 H2 → P z → rep X.K m.M H2 u z → Q u H2) → r v w H1 Q) : Ev X m (.BinOp a op b pos) σ H P := fun H1 s1 Q q =>
  we_of (pe_op ho pe_w pe_w) (ha H1 s1 _ fun v H2 x s2 px rx => hb H2 (s1.trans s2) _ fun w H3 y s3 py ry => h v w x y H3 Q ((s1.trans s2).trans s3) px py (s3.rep rx) ry fun u H4 z s4 pz rz => q u H4 z ((s2.trans s3).trans s4) pz rz)
/-- ints -/
theorem ev_opI {op : Operator} {C : Int → Int → Prop} {g : Int → Int → Int} {P Pa Pb : Int → Prop} (ho : OpR X (binaryOp op) (rI C fun i j => .int (g i j))) (ha : Ev X m a σ H Pa) (hb : Ev X m b σ H Pb)
    (hc : ∀ i j, Pa i → Pb j → C i j ∧ P (g i j)) : Ev X m (.BinOp a op b pos) σ H P := ev_op ho ha hb fun v w x y H1 Q s1 px py rx ry q => by
  cases rx
  cases ry
  exact ⟨x, y, rfl, rfl, (hc x y px py).1, q _ H1 _ (Step.refl s1.j) (hc x y px py).2 rfl⟩
theorem ev_opI0 {op : Operator} {g : Int → Int → Int} {P Pa Pb : Int → Prop} (ho : OpR X (binaryOp op) (rI0 fun i j => .int (g i j))) (ha : Ev X m a σ H Pa) (hb : Ev X m b σ H Pb)
    (hc : ∀ i j, Pa i → Pb j → P (g i j)) : Ev X m (.BinOp a op b pos) σ H P := ev_op ho ha hb fun v w x y H1 Q s1 px py rx ry q => by
  cases rx
  cases ry
  exact ⟨x, y, rfl, rfl, q _ H1 _ (Step.refl s1.j) (hc x y px py) rfl⟩
theorem ev_add (ha : EvD X m a σ H i) (hb : EvD X m b σ H j) : EvD X m (.BinOp a .Add b pos) σ H (i + j) := ev_opI0 op_add ha hb fun _ _ e f => by rw [e, f]
theorem ev_sub (ha : EvD X m a σ H i) (hb : EvD X m b σ H j) : EvD X m (.BinOp a .Sub b pos) σ H (i - j) := ev_opI0 op_sub ha hb fun _ _ e f => by rw [e, f]
theorem ev_mul (ha : EvD X m a σ H i) (hb : EvD X m b σ H j) (hc : CMulW i j) : EvD X m (.BinOp a .Mult b pos) σ H (i * j) := ev_opI op_mulW ha hb fun _ _ e f => by rw [e, f]; exact ⟨hc, rfl⟩
theorem ev_fdiv (ha : EvD X m a σ H i) (hb : EvD X m b σ H j) (hc : CDivW i j) : EvD X m (.BinOp a .FloorDiv b pos) σ H (i / j) := ev_opI op_fdivW ha hb fun _ _ e f => by rw [e, f]; exact ⟨hc, rfl⟩
theorem ev_mod (ha : EvD X m a σ H i) (hb : EvD X m b σ H j) (hc : 0 < j) : EvD X m (.BinOp a .Mod b pos) σ H (i % j) := ev_opI op_mod ha hb fun _ _ e f => by rw [e, f]; exact ⟨hc, rfl⟩
theorem ev_pow (ha : EvD X m a σ H i) (hb : EvD X m b σ H j) (hc : CPow i j) : EvD X m (.BinOp a .Pow b pos) σ H (i ^ j.toNat) := ev_opI op_pow ha hb fun _ _ e f => by rw [e, f]; exact ⟨hc, rfl⟩
theorem ev_neg (ha : EvD X m a σ H i) : EvD X m (.UnaryOp .USub a pos) σ H (-i) := fun H1 s1 Q q =>
  we_of (pe_un un_neg pe_w) (ha H1 s1 _ fun v H2 x s2 px rx => by
    cases rx
    exact ⟨x, rfl, q _ H2 _ s2 (by rw [px]) rfl⟩)

/-! ### comparisons -/
theorem ev_cmp {op : CmpOp} {r : R2} {P : γ → Prop} {Pa : α → Prop} {Pb : β → Prop} (ho : OpR X (compareOp op) r) (hm : behindInMarks op b = false) (ha : Ev X m a σ H Pa) (hb : Ev X m b σ H Pb)
    (h : ∀ (v w : V) (x : α) (y : β) (H1 : Hp) (Q : VK), Step m H H1 → Pa x → Pb y → rep X.K m.M H1 v x → rep X.K m.M H1 w y → (∀ u H2 z, Step m H1 H2 → P z → rep X.K m.M H2 u z → Q u H2) → r v w H1 Q) : Ev X m (.Compare a [op] [b] pos) σ H P := fun H1 s1 Q q =>
  we_of (pe_cmpR ho pe_w pe_w hm) (ha H1 s1 _ fun v H2 x s2 px rx => hb H2 (s1.trans s2) _ fun w H3 y s3 py ry => h v w x y H3 Q ((s1.trans s2).trans s3) px py (s3.rep rx) ry fun u H4 z s4 pz rz => q u H4 z ((s2.trans s3).trans s4) pz rz)
theorem et_cmp {op : CmpOp} {r : R2} {k : Bool} {Pa : α → Prop} {Pb : β → Prop} (ho : OpR X (compareOp op) r) (hm : behindInMarks op b = false) (ha : Ev X m a σ H Pa) (hb : Ev X m b σ H Pb)
    (h : ∀ (v w : V) (x : α) (y : β) (H1 : Hp) (Q : VK), Step m H H1 → Pa x → Pb y → rep X.K m.M H1 v x → rep X.K m.M H1 w y → (∀ H2, Step m H1 H2 → Q (.bl k) H2) → r v w H1 Q) : EvT X m (.Compare a [op] [b] pos) σ H k := fun H1 s1 Q q =>
  wt_of (pt_cmpR ho pe_w pe_w hm) (ha H1 s1 _ fun v H2 x s2 px rx => hb H2 (s1.trans s2) _ fun w H3 y s3 py ry => h v w x y H3 _ ((s1.trans s2).trans s3) px py (s3.rep rx) ry fun H4 s4 => ⟨k, rfl, q H4 ((s2.trans s3).trans s4)⟩)
theorem ev_gt (ha : EvD X m a σ H i) (hb : EvD X m b σ H j) : EvD X m (.Compare a [.Gt] [b] pos) σ H (decide (j < i)) := ev_cmp op_gt (nomark _) ha hb fun v w x y H1 Q s1 px py rx ry q => by
  cases rx
  cases ry
  exact ⟨x, y, rfl, rfl, q _ H1 _ (Step.refl s1.j) (by rw [px, py]) rfl⟩
theorem et_int {op : CmpOp} {g : Int → Int → Bool} (ho : OpR X (compareOp op) (rI0 fun i j => .bl (g i j))) (hm : behindInMarks op b = false) (ha : EvD X m a σ H i) (hb : EvD X m b σ H j) : EvT X m (.Compare a [op] [b] pos) σ H (g i j) :=
  et_cmp ho hm ha hb fun v w x y H1 Q s1 px py rx ry q => by
    cases rx
    cases ry
    cases px
    cases py
    exact ⟨_, _, rfl, rfl, q H1 (Step.refl s1.j)⟩
theorem et_lt (ha : EvD X m a σ H i) (hb : EvD X m b σ H j) : EvT X m (.Compare a [.Lt] [b] pos) σ H (decide (i < j)) := et_int op_lt (nomark _) ha hb
theorem et_le (ha : EvD X m a σ H i) (hb : EvD X m b σ H j) : EvT X m (.Compare a [.LtE] [b] pos) σ H (decide (i ≤ j)) := et_int op_le (nomark _) ha hb
theorem et_gt (ha : EvD X m a σ H i) (hb : EvD X m b σ H j) : EvT X m (.Compare a [.Gt] [b] pos) σ H (decide (j < i)) := et_int op_gt (nomark _) ha hb
theorem et_ge (ha : EvD X m a σ H i) (hb : EvD X m b σ H j) : EvT X m (.Compare a [.GtE] [b] pos) σ H (decide (j ≤ i)) := et_int op_ge (nomark _) ha hb
theorem et_eqI (ha : EvD X m a σ H i) (hb : EvD X m b σ H j) : EvT X m (.Compare a [.Eq] [b] pos) σ H (decide (i = j)) := et_cmp op_eq (nomark _) ha hb fun v w x y H1 Q s1 px py rx ry q => by
  cases rx
  cases ry
  cases px
  cases py
  refine ⟨rfl, ?_⟩
  have e : decide (V.int i = V.int j) = decide (i = j) := decide_eq_decide.mpr ⟨fun z => V.int.inj z, fun z => by rw [z]⟩
  rw [e]
  exact q H1 (Step.refl s1.j)
/-- scalars as they stand -/
theorem et_eqV {v w : V} (ha : EvD X m a σ H v) (hb : EvD X m b σ H w) (hs : scal v w = true) : EvT X m (.Compare a [.Eq] [b] pos) σ H (decide (v = w)) := et_cmp op_eq (nomark _) ha hb fun v w x y H1 Q s1 px py rx ry q => by
  cases rx
  cases ry
  cases px
  cases py
  exact ⟨hs, q H1 (Step.refl s1.j)⟩
/-- a value that is True or False, as a test -/
theorem et_val {k : Bool} (ha : EvD X m e σ H k) (he : ∀ whole, isTrue e X.env whole = (do let v ← whole; standAt e.pos; holding [v] (truthy v)) := by intro _; rfl) : EvT X m e σ H k := fun H1 s1 Q q =>
  wt_of (pt_val pe_w he) (ha H1 s1 _ fun v H2 x s2 px rx => by
    cases rx
    cases px
    exact ⟨_, rfl, q H2 s2⟩)
theorem et_not {k : Bool} (ha : EvT X m a σ H k) : EvT X m (.UnaryOp .Not a pos) σ H (!k) := fun H1 s1 Q q => wt_of (pt_not pt_w) (ha H1 s1 _ fun H2 s2 => q H2 s2)
theorem et_w {k : Bool} (h : EvW X m e σ H k) : EvT X m e σ H k := fun H1 s1 Q q => wt_of pw_w.pt (h H1 s1 Q q)
theorem ew_and1 {k : Bool} (ha : EvT X m a σ H k) : EvW X m (.BoolOp .And [a] pos) σ H k := fun H1 s1 Q q => ww_of (pw_and1 pt_w) (ha H1 s1 Q q)
theorem ew_or1 {k : Bool} (ha : EvT X m a σ H k) : EvW X m (.BoolOp .Or [a] pos) σ H k := fun H1 s1 Q q => ww_of (pw_or1 pt_w) (ha H1 s1 Q q)
theorem ew_and {k l : Bool} (ha : EvT X m a σ H k) (hb : k = true → EvW X m (.BoolOp .And (b :: es) pos) σ H l) : EvW X m (.BoolOp .And (a :: b :: es) pos) σ H (k && l) := fun H1 s1 Q q =>
  ww_of (pw_and pt_w pw_w) (ha H1 s1 _ fun H2 s2 => by
    cases k with
    | true => exact iteT (hb rfl H2 (s1.trans s2) Q fun H3 s3 => q H3 (s2.trans s3))
    | false => exact iteF (q H2 s2))
theorem ew_or {k l : Bool} (ha : EvT X m a σ H k) (hb : k = false → EvW X m (.BoolOp .Or (b :: es) pos) σ H l) : EvW X m (.BoolOp .Or (a :: b :: es) pos) σ H (k || l) := fun H1 s1 Q q =>
  ww_of (pw_or pt_w pw_w) (ha H1 s1 _ fun H2 s2 => by
    cases k with
    | true => exact iteT (q H2 s2)
    | false => exact iteF (hb rfl H2 (s1.trans s2) Q fun H3 s3 => q H3 (s2.trans s3)))
theorem et_and {k l : Bool} {p2 : Pos} (ha : EvT X m a σ H k) (hb : k = true → EvT X m b σ H l) : EvT X m (.BoolOp .And [a, b] p2) σ H (k && l) := et_w (ew_and ha fun z => ew_and1 (hb z))
theorem et_or {k l : Bool} {p2 : Pos} (ha : EvT X m a σ H k) (hb : k = false → EvT X m b σ H l) : EvT X m (.BoolOp .Or [a, b] p2) σ H (k || l) := et_w (ew_or ha fun z => ew_or1 (hb z))
theorem et_or3 {k l n : Bool} {p2 : Pos} (ha : EvT X m a σ H k) (hb : k = false → EvT X m b σ H l) (hc : k = false → l = false → EvT X m c σ H n) : EvT X m (.BoolOp .Or [a, b, c] p2) σ H (k || (l || n)) :=
  et_w (ew_or ha fun z => ew_or (hb z) fun z2 => ew_or1 (hc z z2))
theorem et_and3 {k l n : Bool} {p2 : Pos} (ha : EvT X m a σ H k) (hb : k = true → EvT X m b σ H l) (hc : k = true → l = true → EvT X m c σ H n) : EvT X m (.BoolOp .And [a, b, c] p2) σ H (k && (l && n)) :=
  et_w (ew_and ha fun z => ew_and (hb z) fun z2 => ew_and1 (hc z z2))
/-- as values -/
theorem ev_one {op} {k : Bool} (ha : EvD X m a σ H k) : EvD X m (.BoolOp op [a] pos) σ H k := fun H1 s1 Q q => we_of (pe_one pe_w) (ha H1 s1 Q q)
theorem ev_and {k l : Bool} (ha : EvD X m a σ H k) (hb : k = true → EvD X m (.BoolOp .And (b :: es) pos) σ H l) : EvD X m (.BoolOp .And (a :: b :: es) pos) σ H (k && l) := fun H1 s1 Q q =>
  we_of (pe_and pe_w pe_w) (ha H1 s1 _ fun v H2 x s2 px rx => by
    cases rx
    cases px
    refine ⟨_, rfl, ?_⟩
    cases k with
    | true => exact iteT (hb rfl H2 (s1.trans s2) Q fun u H3 y s3 py ry => q u H3 y (s2.trans s3) py ry)
    | false => exact iteF (q _ H2 _ s2 rfl rfl))
theorem ev_not {k : Bool} (ha : EvD X m a σ H k) : EvD X m (.UnaryOp .Not a pos) σ H (!k) := fun H1 s1 Q q =>
  we_of (pe_not pe_w) (ha H1 s1 _ fun v H2 x s2 px rx => by
    cases rx
    cases px
    exact ⟨_, rfl, q _ H2 _ s2 rfl rfl⟩)
theorem ev_if {k : Bool} {P : α → Prop} (hc : EvT X m c σ H k) (ha : k = true → Ev X m a σ H P) (hb : k = false → Ev X m b σ H P) : Ev X m (.IfExp c a b pos) σ H P := fun H1 s1 Q q =>
  we_of (pe_ifExp pt_w pe_w pe_w) (hc H1 s1 _ fun H2 s2 => by
    cases k with
    | true => exact iteT (ha rfl H2 (s1.trans s2) Q fun u H3 y s3 py ry => q u H3 y (s2.trans s3) py ry)
    | false => exact iteF (hb rfl H2 (s1.trans s2) Q fun u H3 y s3 py ry => q u H3 y (s2.trans s3) py ry))
end
end HK
set_option Elab.async false
set_option linter.all false
set_option maxRecDepth 100000
/-! E1: tuples, lists, calls, statements. -/
namespace HK
open PySem PySem.Spec PyProof.Rows L2
open Rep

/-! ### argument lists -/
/-- arguments, one after another -/
structure A (α τ : Type) where
  h : α
  t : τ
class Arg (τ : Type) where
  rp : PySem.W.Frag → (Addr → Prop) → Hp → List V → τ → Prop
  mono : ∀ {K : PySem.W.Frag} {M : Addr → Prop} {H H' : Hp} {vs : List V} {x : τ}, (∀ b o, ¬ M b → H b = some o → H' b = some o) → rp K M H vs x → rp K M H' vs x
instance : Arg Unit := ⟨fun _ _ _ vs _ => vs = [], fun _ h => h⟩
instance {α τ : Type} [Rep α] [Arg τ] : Arg (A α τ) := ⟨fun K M H vs x => ∃ v ws, vs = v :: ws ∧ rep K M H v x.h ∧ Arg.rp K M H ws x.t, fun k ⟨v, ws, e, r, rs⟩ => ⟨v, ws, e, mono k r, Arg.mono k rs⟩⟩
open Arg
/-- the arguments evaluate to these data -/
def EvL (X : Cx) (m : Mode) (es : List Expr) (σ : L2.St) (H : Hp) {τ : Type} [Arg τ] (x : τ) : Prop :=
  ∀ H1, Step m H H1 → ∀ Q : List V → Hp → Prop, (∀ vs H2, Step m H1 H2 → rp X.K m.M H2 vs x → Q vs H2) → WA X es σ H1 Q
section
variable {X : Cx} {m : Mode} {σ : L2.St} {H H' : Hp} {a b c d e : Expr} {es : List Expr} {pos : Pos} {α β γ δ τ : Type} [Rep α] [Rep β] [Rep γ] [Rep δ] [Arg τ] {x : α} {y : β} {i j : Int}
/-- no star -/
abbrev NS (e : Expr) : Prop := ∀ (es : List Expr) (env : Env), starEach (e :: es) env = (false, eval e env) :: starEach es env
theorem el_nil : EvL X m [] σ H () := fun H1 s1 Q q => wa_of pa_nil (q [] H1 (Step.refl s1.j) rfl)
theorem el_cons {t : τ} (ha : EvD X m e σ H x) (hr : EvL X m es σ H t) (hs : NS e := by exact fun _ _ => rfl) : EvL X m (e :: es) σ H (A.mk x t) := fun H1 s1 Q q =>
  wa_of (pa_cons pe_w pa_w (hs _ _)) (ha H1 s1 _ fun v H2 z s2 pz rz => hr H2 (s1.trans s2) _ fun ws H3 s3 rs => by
    subst pz
    exact q _ H3 (s2.trans s3) ⟨v, ws, rfl, s3.rep rz, rs⟩)

/-! ### displays -/
theorem two_le : (2 : Nat) ≤ sizeLine := by decide
theorem four_le : (4 : Nat) ≤ sizeLine := by decide
/-- a tuple of these arguments, z what it stands for -/
theorem ev_tupL {t : τ} {z : γ} {k : Nat} (h : EvL X m es σ H t) (hz : ∀ (H1 : Hp) vs p, rp X.K m.M H1 vs t → vs.length ≤ sizeLine ∧ (TupA X.K m.M H1 p vs → rep X.K m.M H1 (.ref p) z)) : EvD X m (.Tuple es k pos) σ H z := fun H1 s1 Q q =>
  we_of (pe_tup pa_w) (h H1 s1 _ fun vs H2 s2 rs => ⟨(hz H2 vs 0 rs).1, fun p hp => by
    have s3 : Step m H2 (upd H2 p (.tup vs)) := Step.new s2.j hp
    exact q _ _ z (s2.trans s3) rfl ((hz _ vs p (Arg.mono s3.keep rs)).2 (.inl ⟨m.notM s2.j hp, upd_same⟩))⟩)
theorem ev_pair {k : Nat} (ha : EvD X m a σ H x) (hb : EvD X m b σ H y) (na : NS a := by exact fun _ _ => rfl) (nb : NS b := by exact fun _ _ => rfl) : EvD X m (.Tuple [a, b] k pos) σ H (x, y) := ev_tupL (el_cons ha (el_cons hb el_nil nb) na) fun H1 vs p ⟨v, ws, e, r, v2, ws2, e2, r2, e3⟩ => by
  subst e3; subst e2; subst e
  exact ⟨two_le, fun t => ⟨p, v, v2, rfl, t, r, r2⟩⟩
/-- a pair, its parts known by what holds of them -/
theorem ev_pairP {k : Nat} {Pa : α → Prop} {Pb : β → Prop} (ha : Ev X m a σ H Pa) (hb : Ev X m b σ H Pb) (na : NS a := by exact fun _ _ => rfl) (nb : NS b := by exact fun _ _ => rfl) : Ev X m (.Tuple [a, b] k pos) σ H (fun z : α × β => Pa z.1 ∧ Pb z.2) := fun H1 s1 Q q =>
  we_of (pe_tup (pa_cons pe_w (pa_cons pe_w pa_nil (nb _ _)) (na _ _))) (ha H1 s1 _ fun v H2 x s2 px rx => hb H2 (s1.trans s2) _ fun w H3 y s3 py ry => ⟨two_le, fun p hp => by
    have s4 : Step m H3 (upd H3 p (.tup [v, w])) := Step.new s3.j hp
    exact q _ _ (x, y) ((s2.trans s3).trans s4) ⟨px, py⟩ ⟨p, v, w, rfl, .inl ⟨m.notM s3.j hp, upd_same⟩, s4.rep (s3.rep rx), s4.rep ry⟩⟩)
theorem ev_t4 {k : Nat} {z : γ} {u : δ} (ha : EvD X m a σ H x) (hb : EvD X m b σ H y) (hc : EvD X m c σ H z) (hd : EvD X m d σ H u) (na : NS a := by exact fun _ _ => rfl) (nb : NS b := by exact fun _ _ => rfl) (nc : NS c := by exact fun _ _ => rfl) (nd : NS d := by exact fun _ _ => rfl) : EvD X m (.Tuple [a, b, c, d] k pos) σ H (T4.mk x y z u) :=
  ev_tupL (el_cons ha (el_cons hb (el_cons hc (el_cons hd el_nil nd) nc) nb) na) fun H1 vs p ⟨v1, w1, e1, r1, v2, w2, e2, r2, v3, w3, e3, r3, v4, w4, e4, r4, e5⟩ => by
  subst e5; subst e4; subst e3; subst e2; subst e1
  exact ⟨four_le, fun t => ⟨p, v1, v2, v3, v4, rfl, t, r1, r2, r3, r4⟩⟩
/-- a list of these arguments: data of one type -/
theorem ev_lstL {t : τ} {z : List γ} (h : EvL X m es σ H t) (hz : ∀ (H1 : Hp) vs, rp X.K m.M H1 vs t → vs.length ≤ sizeLine ∧ Reps X.K m.M H1 vs z) : EvD X m (.List es pos) σ H z := fun H1 s1 Q q =>
  we_of (pe_lst pa_w) (h H1 s1 _ fun vs H2 s2 rs => ⟨(hz H2 vs rs).1, fun p hp => by
    have s3 : Step m H2 (upd H2 p (.lst vs)) := Step.new s2.j hp
    exact q _ _ z (s2.trans s3) rfl ⟨p, vs, rfl, ⟨m.notM s2.j hp, upd_same⟩, (hz _ vs (Arg.mono s3.keep rs)).2⟩⟩)
theorem ev_lst0 : EvD X m (.List [] pos) σ H ([] : List α) := ev_lstL el_nil fun H1 vs e => by
  cases (show vs = [] from e)
  exact ⟨Nat.zero_le _, .nil⟩
theorem ev_lst1 (ha : EvD X m a σ H x) (na : NS a := by exact fun _ _ => rfl) : EvD X m (.List [a] pos) σ H [x] := ev_lstL (el_cons ha el_nil na) fun H1 vs ⟨v, ws, e, r, e2⟩ => by
  subst e2; subst e
  exact ⟨(by decide : (1 : Nat) ≤ sizeLine), .cons r .nil⟩
theorem ev_lst2 {x' : α} (ha : EvD X m a σ H x) (hb : EvD X m b σ H x') (na : NS a := by exact fun _ _ => rfl) (nb : NS b := by exact fun _ _ => rfl) : EvD X m (.List [a, b] pos) σ H [x, x'] := ev_lstL (el_cons ha (el_cons hb el_nil nb) na) fun H1 vs ⟨v, ws, e, r, v2, w2, e2, r2, e3⟩ => by
  subst e3; subst e2; subst e
  exact ⟨two_le, .cons r (.cons r2 .nil)⟩
theorem three_le : (3 : Nat) ≤ sizeLine := by decide
theorem one_le : (1 : Nat) ≤ sizeLine := by decide
theorem ev_frAt {k k' : Nat} {pz : Pos} {z : Str} {p : P2} {n : Int} (ha : EvD X m a σ H p) (hb : EvD X m b σ H n) (hz : z = sAt := by rfl) (na : NS a := by exact fun _ _ => rfl) (nb : NS b := by exact fun _ _ => rfl) : EvD X m (.Tuple [.Constant (.str z) k' pz, a, b] k pos) σ H (Fr.at p n) :=
  ev_tupL (el_cons ev_str (el_cons ha (el_cons hb el_nil nb) na)) fun H1 vs q ⟨v1, w1, e1, r1, v2, w2, e2, r2, v3, w3, e3, r3, e4⟩ => by
  subst e4; subst e3; subst e2; subst e1
  cases (show v1 = V.str z from r1)
  cases (show v3 = V.int n from r3)
  subst hz
  exact ⟨three_le, fun t => ⟨q, v2, rfl, t, r2⟩⟩
theorem ev_frOver {k k' : Nat} {pz : Pos} {z : Str} {p q : P2} {cs : List P2} (ha : EvD X m a σ H p) (hb : EvD X m b σ H q) (hc : EvD X m c σ H (Tup.mk cs)) (hz : z = sOver := by rfl) (na : NS a := by exact fun _ _ => rfl) (nb : NS b := by exact fun _ _ => rfl) (nc : NS c := by exact fun _ _ => rfl) : EvD X m (.Tuple [.Constant (.str z) k' pz, a, b, c] k pos) σ H (Fr.over p q cs) :=
  ev_tupL (el_cons ev_str (el_cons ha (el_cons hb (el_cons hc el_nil nc) nb) na)) fun H1 vs q ⟨v1, w1, e1, r1, v2, w2, e2, r2, v3, w3, e3, r3, v4, w4, e4, r4, e5⟩ => by
  subst e5; subst e4; subst e3; subst e2; subst e1
  cases (show v1 = V.str z from r1)
  subst hz
  exact ⟨four_le, fun t => ⟨q, v2, v3, v4, rfl, t, r2, r3, r4⟩⟩
theorem ev_frEndless {k k' : Nat} {pz : Pos} {z : Str} (hz : z = sEndless := by rfl) : EvD X m (.Tuple [.Constant (.str z) k' pz] k pos) σ H Fr.endless :=
  ev_tupL (el_cons ev_str el_nil) fun H1 vs q ⟨v1, w1, e1, r1, e2⟩ => by
  subst e2; subst e1
  cases (show v1 = V.str z from r1)
  subst hz
  exact ⟨one_le, fun t => ⟨q, rfl, t⟩⟩
theorem ev_most {k k' : Nat} {pz : Pos} {z : Str} {p : P2} (ha : EvD X m a σ H p) (hz : z = sMost := by rfl) (na : NS a := by exact fun _ _ => rfl) : EvD X m (.Tuple [.Constant (.str z) k' pz, a] k pos) σ H (Ans.most p) :=
  ev_tupL (el_cons ev_str (el_cons ha el_nil na)) fun H1 vs q ⟨v1, w1, e1, r1, v2, w2, e2, r2, e3⟩ => by
  subst e3; subst e2; subst e1
  cases (show v1 = V.str z from r1)
  subst hz
  exact ⟨two_le, fun t => ⟨q, v2, rfl, t, r2⟩⟩
theorem ev_gains {k k' : Nat} {pz : Pos} {z : Str} {p : P2} (ha : EvD X m a σ H p) (hz : z = sGains := by rfl) (na : NS a := by exact fun _ _ => rfl) : EvD X m (.Tuple [.Constant (.str z) k' pz, a] k pos) σ H (Ans.gains p) :=
  ev_tupL (el_cons ev_str (el_cons ha el_nil na)) fun H1 vs q ⟨v1, w1, e1, r1, v2, w2, e2, r2, e3⟩ => by
  subst e3; subst e2; subst e1
  cases (show v1 = V.str z from r1)
  subst hz
  exact ⟨two_le, fun t => ⟨q, v2, rfl, t, r2⟩⟩

/-! ### subscripts -/
theorem ev_ixT {n : Int} (ha : EvD X m a σ H x) (hb : EvD X m b σ H n) (hv : ∀ (H1 : Hp) v, rep X.K m.M H1 v x → ∃ p vs w, v = .ref p ∧ TupA X.K m.M H1 p vs ∧ atI vs n = some w ∧ rep X.K m.M H1 w y) (hs : PlainIx b := by exact fun _ _ => rfl) :
    EvD X m (.Subscript a b pos) σ H y := fun H1 s1 Q q =>
  we_of (pe_ix ix_tup pe_w pe_w hs) (ha H1 s1 _ fun v H2 x' s2 px rx => hb H2 (s1.trans s2) _ fun w H3 n' s3 pn rn => by
    subst px
    subst pn
    cases (show w = V.int n' from rn)
    obtain ⟨p, vs, u, e, t, hat, ru⟩ := hv H3 v (s3.rep rx)
    subst e
    exact ⟨p, vs, n', u, rfl, rfl, t.sq, hat, q u H3 y (s2.trans s3) rfl ru⟩)
theorem ev_fst {z : α × β} (ha : EvD X m a σ H z) (hb : EvD X m b σ H (0 : Int)) (hs : PlainIx b := by exact fun _ _ => rfl) : EvD X m (.Subscript a b pos) σ H z.1 := ev_ixT ha hb (fun H1 v ⟨p, v1, v2, e, t, r1, r2⟩ => ⟨p, _, v1, e, t, rfl, r1⟩) hs
theorem ev_snd {z : α × β} (ha : EvD X m a σ H z) (hb : EvD X m b σ H (1 : Int)) (hs : PlainIx b := by exact fun _ _ => rfl) : EvD X m (.Subscript a b pos) σ H z.2 := ev_ixT ha hb (fun H1 v ⟨p, v1, v2, e, t, r1, r2⟩ => ⟨p, _, v2, e, t, rfl, r2⟩) hs
def tagF : Fr → V
  | .none => .non
  | .endless => .str sEndless
  | .at _ _ => .str sAt
  | .over _ _ _ => .str sOver
theorem ev_tagF {F : Fr} (hF : F ≠ .none) (ha : EvD X m a σ H F) (hb : EvD X m b σ H (0 : Int)) (hs : PlainIx b := by exact fun _ _ => rfl) : EvD X m (.Subscript a b pos) σ H (tagF F) := ev_ixT ha hb (fun H1 v r => by
  cases F with
  | none => exact absurd rfl hF
  | endless => obtain ⟨p, e, t⟩ := r; exact ⟨p, _, _, e, t, rfl, rfl⟩
  | «at» p n => obtain ⟨p, v1, e, t, r⟩ := r; exact ⟨p, _, _, e, t, rfl, rfl⟩
  | over lo hi cs => obtain ⟨p, v1, v2, v3, e, t, r⟩ := r; exact ⟨p, _, _, e, t, rfl, rfl⟩) hs
theorem ev_at1 {p : P2} {n : Int} (ha : EvD X m a σ H (Fr.at p n)) (hb : EvD X m b σ H (1 : Int)) (hs : PlainIx b := by exact fun _ _ => rfl) : EvD X m (.Subscript a b pos) σ H p := ev_ixT ha hb (fun H1 v ⟨p, v1, e, t, r⟩ => ⟨p, _, _, e, t, rfl, r⟩) hs
theorem ev_at2 {p : P2} {n : Int} (ha : EvD X m a σ H (Fr.at p n)) (hb : EvD X m b σ H (2 : Int)) (hs : PlainIx b := by exact fun _ _ => rfl) : EvD X m (.Subscript a b pos) σ H n := ev_ixT ha hb (fun H1 v ⟨p, v1, e, t, r⟩ => ⟨p, _, _, e, t, rfl, rfl⟩) hs
theorem ev_over1 {lo hi : P2} {cs : List P2} (ha : EvD X m a σ H (Fr.over lo hi cs)) (hb : EvD X m b σ H (1 : Int)) (hs : PlainIx b := by exact fun _ _ => rfl) : EvD X m (.Subscript a b pos) σ H lo := ev_ixT ha hb (fun H1 v ⟨p, v1, v2, v3, e, t, r1, r2, r3⟩ => ⟨p, _, _, e, t, rfl, r1⟩) hs
theorem ev_over2 {lo hi : P2} {cs : List P2} (ha : EvD X m a σ H (Fr.over lo hi cs)) (hb : EvD X m b σ H (2 : Int)) (hs : PlainIx b := by exact fun _ _ => rfl) : EvD X m (.Subscript a b pos) σ H hi := ev_ixT ha hb (fun H1 v ⟨p, v1, v2, v3, e, t, r1, r2, r3⟩ => ⟨p, _, _, e, t, rfl, r2⟩) hs
theorem ev_over3 {lo hi : P2} {cs : List P2} (ha : EvD X m a σ H (Fr.over lo hi cs)) (hb : EvD X m b σ H (3 : Int)) (hs : PlainIx b := by exact fun _ _ => rfl) : EvD X m (.Subscript a b pos) σ H (Tup.mk cs) := ev_ixT ha hb (fun H1 v ⟨p, v1, v2, v3, e, t, r1, r2, r3⟩ => ⟨p, _, _, e, t, rfl, r3⟩) hs
def tagA : Ans → V
  | .none => .non
  | .gains _ => .str sGains
  | .most _ => .str sMost
theorem ev_tagA {F : Ans} (hF : F ≠ .none) (ha : EvD X m a σ H F) (hb : EvD X m b σ H (0 : Int)) (hs : PlainIx b := by exact fun _ _ => rfl) : EvD X m (.Subscript a b pos) σ H (tagA F) := ev_ixT ha hb (fun H1 v r => by
  cases F with
  | none => exact absurd rfl hF
  | gains p => obtain ⟨p, v1, e, t, r⟩ := r; exact ⟨p, _, _, e, t, rfl, rfl⟩
  | most p => obtain ⟨p, v1, e, t, r⟩ := r; exact ⟨p, _, _, e, t, rfl, rfl⟩) hs
theorem ev_gains1 {p : P2} (ha : EvD X m a σ H (Ans.gains p)) (hb : EvD X m b σ H (1 : Int)) (hs : PlainIx b := by exact fun _ _ => rfl) : EvD X m (.Subscript a b pos) σ H p := ev_ixT ha hb (fun H1 v ⟨p, v1, e, t, r⟩ => ⟨p, _, _, e, t, rfl, r⟩) hs
theorem ev_most1 {p : P2} (ha : EvD X m a σ H (Ans.most p)) (hb : EvD X m b σ H (1 : Int)) (hs : PlainIx b := by exact fun _ _ => rfl) : EvD X m (.Subscript a b pos) σ H p := ev_ixT ha hb (fun H1 v ⟨p, v1, e, t, r⟩ => ⟨p, _, _, e, t, rfl, r⟩) hs
/-- items side by side -/
theorem reps_at {K : PySem.W.Frag} {M : Addr → Prop} {H : Hp} : ∀ {vs : List V} {xs : List α} {k : Nat} {x : α}, Reps K M H vs xs → xs[k]? = some x → ∃ v, vs[k]? = some v ∧ rep K M H v x
  | _, _, _, _, .nil, e => by simp at e
  | _, _, 0, _, .cons r _, e => by simp at e; subst e; exact ⟨_, rfl, r⟩
  | _, _, k + 1, x, .cons _ t, e => by
    obtain ⟨v, h1, h2⟩ := reps_at (k := k) (x := x) t (by simpa using e)
    exact ⟨v, by simpa using h1, h2⟩
theorem reps_atI {K : PySem.W.Frag} {M : Addr → Prop} {H : Hp} {vs : List V} {xs : List α} {n : Int} (r : Reps K M H vs xs) (h : atI xs n = some x) : ∃ v, atI vs n = some v ∧ rep K M H v x := by
  have hl : vs.length = xs.length := Paired.length r
  unfold atI at h ⊢
  rw [hl]
  cases e : ixN xs.length n with
  | none => rw [e] at h; cases h
  | some j =>
    rw [e] at h
    exact reps_at r h
theorem ev_ixL {xs : List α} {n : Int} (ha : EvD X m a σ H xs) (hb : EvD X m b σ H n) (h : atI xs n = some x) (hs : PlainIx b := by exact fun _ _ => rfl) : EvD X m (.Subscript a b pos) σ H x := fun H1 s1 Q q =>
  we_of (pe_ix ix_list pe_w pe_w hs) (ha H1 s1 _ fun v H2 x' s2 px rx => hb H2 (s1.trans s2) _ fun w H3 n' s3 pn rn => by
    subst px
    subst pn
    cases (show w = V.int n' from rn)
    obtain ⟨p, vs, e, t, rs⟩ := s3.rep rx
    subst e
    obtain ⟨u, hu, ru⟩ := reps_atI rs h
    exact ⟨p, vs, n', u, rfl, rfl, t.sq, hu, q u H3 _ (s2.trans s3) rfl ru⟩)
/-- .. at an index of which P holds -/
theorem ev_ixLP {xs : List α} {Pb : Int → Prop} {P : α → Prop} (ha : EvD X m a σ H xs) (hb : Ev X m b σ H Pb) (h : ∀ n, Pb n → ∃ x, atI xs n = some x ∧ P x) (hs : PlainIx b := by exact fun _ _ => rfl) : Ev X m (.Subscript a b pos) σ H P := fun H1 s1 Q q =>
  we_of (pe_ix ix_list pe_w pe_w hs) (ha H1 s1 _ fun v H2 x' s2 px rx => hb H2 (s1.trans s2) _ fun w H3 n' s3 pn rn => by
    subst px
    cases (show w = V.int n' from rn)
    obtain ⟨p, vs, e, t, rs⟩ := s3.rep rx
    subst e
    obtain ⟨x, hx, px⟩ := h n' pn
    obtain ⟨u, hu, ru⟩ := reps_atI rs hx
    exact ⟨p, vs, n', u, rfl, rfl, t.sq, hu, q u H3 _ (s2.trans s3) px ru⟩)

/-! ### calls -/
/-- all that was is as it was (M's own objects too) -/
def mF (M : Addr → Prop) (H0 : Hp) (hl : ∀ b, M b → H0 b ≠ none) : Mode := ⟨M, fun H => ∀ b o, M b → H0 b = some o → H b = some o, fun e j b o hm h => e b o (j b o hm h), fun {H a} j hm z => by
  cases q : H0 a with
  | none => exact hl a hm q
  | some o =>
    have w := j a o hm q
    rw [z] at w
    exact (nomatch w), fun {H a vs ws} n _ j b o hm h => by
  have nb : b ≠ a := fun z => by
    subst z
    exact n hm
  exact (upd_ne nb).trans (j b o hm h)⟩
theorem mF_j {M : Addr → Prop} {H0 : Hp} {hl : ∀ b, M b → H0 b ≠ none} : (mF M H0 hl).J H0 := fun _ _ _ h => h
theorem mF_ex {M : Addr → Prop} {H0 H1 : Hp} {hl : ∀ b, M b → H0 b ≠ none} (s : Step (mF M H0 hl) H0 H1) : Ex H0 H1 := fun b o h => by
  by_cases hm : M b
  · exact s.j b o hm h
  · exact s.keep b o hm h
/-- the promise of a def that changes nothing: its arguments stand for x of which pre holds, what it hands back for z with post x z -/
def spP (K : PySem.W.Frag) {τ β : Type} [Arg τ] [Rep β] (pre : τ → Prop) (post : τ → β → Prop) : Sp := fun vs H Q _ => ∃ (M : Addr → Prop) (x : τ), (∀ b, M b → H b ≠ none) ∧ rp K M H vs x ∧ pre x ∧ ∀ u H' z, Ex H H' → post x z → rep K M H' u z → Q u H'
/-- a call of a def, by its promise -/
theorem ev_callS {t : τ} {P : β → Prop} {n : Str} {p : Pos} {k : Nat} {f : Addr} {fd : FuncData} {ps : List Str} {sp : Sp} (F : FnOk X.prog X.w X.K X.mg X.base CX0 k f fd ps sp) (hr : Room k X.A) (hm : X.mg n = some (.ref f)) (hk : PySem.W.keepIn X.K (.ref f) = true) (hb : Binds X.K fd ps [])
    (ha : EvL X m (e :: es) σ H t) (h : ∀ (vs : List V) (H1 : Hp) (Q : VK), Step m H H1 → rp X.K m.M H1 vs t → (∀ u H2 z, Step m H1 H2 → P z → rep X.K m.M H2 u z → Q u H2) → sp vs H1 Q E0)
    (hg : Gl X n := by rfl) (hdb : (n == ("__debug__" : Str)) = false := by decide) (he : starEach (e :: es) X.env = (false, eval e X.env) :: starEach es X.env := by rfl) (hpl : (backTo pos (starEach es X.env)).any (·.1) = false := by rfl) : Ev X m (.Call (.Name n p) (e :: es) [] pos) σ H P := fun H1 s1 Q q =>
  we_of (pe_call F hr hg hm hk hb .nil pass0 pa_w hdb he hpl) (ha H1 s1 _ fun vs H2 s2 rs => by
    rw [List.append_nil]
    exact h vs H2 Q (s1.trans s2) rs fun u H3 z s3 pz rz => q u H3 z (s2.trans s3) pz rz)
theorem ev_callP {t : τ} {n : Str} {p : Pos} {k : Nat} {f : Addr} {fd : FuncData} {ps : List Str} {pre : τ → Prop} {post : τ → β → Prop} (F : FnOk X.prog X.w X.K X.mg X.base CX0 k f fd ps (spP X.K pre post)) (hr : Room k X.A) (hm : X.mg n = some (.ref f)) (hk : PySem.W.keepIn X.K (.ref f) = true) (hb : Binds X.K fd ps [])
    (ha : EvL X m (e :: es) σ H t) (hp : pre t)
    (hg : Gl X n := by rfl) (hdb : (n == ("__debug__" : Str)) = false := by decide) (he : starEach (e :: es) X.env = (false, eval e X.env) :: starEach es X.env := by rfl) (hpl : (backTo pos (starEach es X.env)).any (·.1) = false := by rfl) : Ev X m (.Call (.Name n p) (e :: es) [] pos) σ H (post t) :=
  ev_callS F hr hm hk hb ha (fun vs H1 Q s1 rs q => ⟨m.M, t, fun b hb => m.live s1.j hb, rs, hp, fun u H' z ex pz rz => q u H' z (Step.ex s1.j ex) pz rz⟩) hg hdb he hpl
/-- a built-in function -/
theorem ev_callB {t : τ} {P : β → Prop} {n : Str} {p : Pos} {id : String} {r : List V → Hp → VK → Prop} (hc : CallR X (.builtin id) r) (hm : X.mg n = none) (hv : bootBuiltins n = some (.builtin id)) (ha : EvL X m (e :: es) σ H t)
    (h : ∀ (vs : List V) (H1 : Hp) (Q : VK), Step m H H1 → rp X.K m.M H1 vs t → (∀ u H2 z, Step m H1 H2 → P z → rep X.K m.M H2 u z → Q u H2) → r vs H1 Q)
    (hg : Gl X n := by rfl) (hn : n ≠ "__name__" := by decide) (hdb : (n == ("__debug__" : Str)) = false := by decide) (he : starEach (e :: es) X.env = (false, eval e X.env) :: starEach es X.env := by rfl) (hpl : (backTo pos (starEach es X.env)).any (·.1) = false := by rfl) : Ev X m (.Call (.Name n p) (e :: es) [] pos) σ H P := fun H1 s1 Q q =>
  we_of (pe_callB hc hg hm hv pa_w hn hdb he hpl) (ha H1 s1 _ fun vs H2 s2 rs => h vs H2 Q (s1.trans s2) rs fun u H3 z s3 pz rz => q u H3 z (s2.trans s3) pz rz)
theorem ev_callTy {t : τ} {P : β → Prop} {n : Str} {p : Pos} {T : String} {r : List V → Hp → VK → Prop} (hc : CallR X (.type T) r) (hm : X.mg n = none) (hv : bootBuiltins n = some (.type T)) (ha : EvL X m (e :: es) σ H t)
    (h : ∀ (vs : List V) (H1 : Hp) (Q : VK), Step m H H1 → rp X.K m.M H1 vs t → (∀ u H2 z, Step m H1 H2 → P z → rep X.K m.M H2 u z → Q u H2) → r vs H1 Q)
    (hg : Gl X n := by rfl) (hn : n ≠ "__name__" := by decide) (hdb : (n == ("__debug__" : Str)) = false := by decide) (he : starEach (e :: es) X.env = (false, eval e X.env) :: starEach es X.env := by rfl) (hpl : (backTo pos (starEach es X.env)).any (·.1) = false := by rfl) : Ev X m (.Call (.Name n p) (e :: es) [] pos) σ H P := fun H1 s1 Q q =>
  we_of (pe_callTy hc hg hm hv pa_w hn hdb he hpl) (ha H1 s1 _ fun vs H2 s2 rs => h vs H2 Q (s1.trans s2) rs fun u H3 z s3 pz rz => q u H3 z (s2.trans s3) pz rz)
theorem ev_gcd {n : Str} {p : Pos} (hm : X.mg n = some (.builtin "math.gcd")) (ha : EvD X m a σ H i) (hb : EvD X m b σ H j)
    (hg : Gl X n := by rfl) (hdb : (n == ("__debug__" : Str)) = false := by decide) (na : NS a := by exact fun _ _ => rfl) (nb : NS b := by exact fun _ _ => rfl) (hpl : (backTo pos (starEach [b] X.env)).any (·.1) = false := by rfl) : EvD X m (.Call (.Name n p) [a, b] [] pos) σ H ((Nat.gcd i.natAbs j.natAbs : Nat) : Int) := fun H1 s1 Q q =>
  we_of (pe_callBfun cr_gcd hg hm pa_w hdb (na _ _) hpl) (el_cons ha (el_cons hb el_nil nb) na H1 s1 _ fun vs H2 s2 ⟨v, ws, e1, r1, w, ws2, e2, r2, e3⟩ => by
    subst e3; subst e2; subst e1
    cases (show v = V.int i from r1)
    cases (show w = V.int j from r2)
    exact ⟨i, j, rfl, q _ H2 _ s2 rfl rfl⟩)
theorem ev_abs {n : Str} {p : Pos} (hm : X.mg n = none) (ha : EvD X m a σ H i) (hv : bootBuiltins n = some (.builtin "abs") := by decide +kernel) (hg : Gl X n := by rfl) (hn : n ≠ "__name__" := by decide) (hdb : (n == ("__debug__" : Str)) = false := by decide)
    (na : NS a := by exact fun _ _ => rfl) : EvD X m (.Call (.Name n p) [a] [] pos) σ H (if i < 0 then -i else i) :=
  ev_callB call_abs hm hv (el_cons ha el_nil na) (fun vs H1 Q s1 ⟨v, ws, e1, r1, e2⟩ q => by
    subst e2; subst e1
    cases (show v = V.int i from r1)
    exact ⟨i, rfl, q _ H1 _ (Step.refl s1.j) rfl rfl⟩) hg hn hdb (na _ _)
theorem ev_toInt {n : Str} {p : Pos} (hm : X.mg n = none) (ha : EvD X m a σ H i) (hv : bootBuiltins n = some (.type "int") := by decide +kernel) (hg : Gl X n := by rfl) (hn : n ≠ "__name__" := by decide) (hdb : (n == ("__debug__" : Str)) = false := by decide)
    (na : NS a := by exact fun _ _ => rfl) : EvD X m (.Call (.Name n p) [a] [] pos) σ H i :=
  ev_callTy call_int1 hm hv (el_cons ha el_nil na) (fun vs H1 Q s1 ⟨v, ws, e1, r1, e2⟩ q => by
    subst e2; subst e1
    cases (show v = V.int i from r1)
    exact .inl ⟨i, rfl, q _ H1 _ (Step.refl s1.j) rfl rfl⟩) hg hn hdb (na _ _)
theorem ev_len {xs : List α} {n : Str} {p : Pos} (hm : X.mg n = none) (ha : EvD X m a σ H xs) (hv : bootBuiltins n = some (.builtin "len") := by decide +kernel) (hg : Gl X n := by rfl) (hn : n ≠ "__name__" := by decide) (hdb : (n == ("__debug__" : Str)) = false := by decide)
    (na : NS a := by exact fun _ _ => rfl) : EvD X m (.Call (.Name n p) [a] [] pos) σ H (xs.length : Int) :=
  ev_callB call_len_seq hm hv (el_cons ha el_nil na) (fun vs H1 Q s1 ⟨v, ws, e1, r1, e2⟩ q => by
    subst e2; subst e1
    obtain ⟨q1, us, e, t, rs⟩ := r1
    subst e
    refine ⟨q1, us, rfl, .inl t.sq, ?_⟩
    rw [show us.length = xs.length from Paired.length rs]
    exact q _ H1 _ (Step.refl s1.j) rfl rfl) hg hn hdb (na _ _)
end

/-! ### is None -/
section
variable {X : Cx} {m : Mode} {σ : L2.St} {H : Hp} {a b : Expr} {pos p2 : Pos} {k : Nat} {α β : Type} [Rep α] [Rep β]
theorem et_isN {x : Option α} (ha : EvD X m a σ H x) : EvT X m (.Compare a [.Is] [.Constant .none k p2] pos) σ H x.isNone := et_cmp op_isN (nomark _) ha ev_noneV fun v w x' y H1 Q s1 px py rx ry q => by
  subst px
  cases py
  cases ry
  refine ⟨rfl, ?_⟩
  cases x' with
  | none =>
    cases (show v = V.non from rx)
    exact q H1 (Step.refl s1.j)
  | some z =>
    obtain ⟨⟨p, e⟩, _⟩ := rx
    subst e
    exact q H1 (Step.refl s1.j)
theorem et_isNotN {x : Option α} (ha : EvD X m a σ H x) : EvT X m (.Compare a [.IsNot] [.Constant .none k p2] pos) σ H x.isSome := et_cmp op_notN (nomark _) ha ev_noneV fun v w x' y H1 Q s1 px py rx ry q => by
  subst px
  cases py
  cases ry
  refine ⟨rfl, ?_⟩
  cases x' with
  | none =>
    cases (show v = V.non from rx)
    exact q H1 (Step.refl s1.j)
  | some z =>
    obtain ⟨⟨p, e⟩, _⟩ := rx
    subst e
    exact q H1 (Step.refl s1.j)
def isNoneF : Fr → Bool
  | .none => true
  | _ => false
theorem et_isNF {x : Fr} (ha : EvD X m a σ H x) : EvT X m (.Compare a [.Is] [.Constant .none k p2] pos) σ H (isNoneF x) := et_cmp op_isN (nomark _) ha ev_noneV fun v w x' y H1 Q s1 px py rx ry q => by
  subst px
  cases py
  cases ry
  refine ⟨rfl, ?_⟩
  cases x' with
  | none => cases (show v = V.non from rx); exact q H1 (Step.refl s1.j)
  | endless => obtain ⟨p, e, _⟩ := rx; subst e; exact q H1 (Step.refl s1.j)
  | «at» p n => obtain ⟨p, v1, e, _⟩ := rx; subst e; exact q H1 (Step.refl s1.j)
  | over lo hi cs => obtain ⟨p, v1, v2, v3, e, _⟩ := rx; subst e; exact q H1 (Step.refl s1.j)
theorem et_isNotNF {x : Fr} (ha : EvD X m a σ H x) : EvT X m (.Compare a [.IsNot] [.Constant .none k p2] pos) σ H (!isNoneF x) := et_cmp op_notN (nomark _) ha ev_noneV fun v w x' y H1 Q s1 px py rx ry q => by
  subst px
  cases py
  cases ry
  refine ⟨rfl, ?_⟩
  cases x' with
  | none => cases (show v = V.non from rx); exact q H1 (Step.refl s1.j)
  | endless => obtain ⟨p, e, _⟩ := rx; subst e; exact q H1 (Step.refl s1.j)
  | «at» p n => obtain ⟨p, v1, e, _⟩ := rx; subst e; exact q H1 (Step.refl s1.j)
  | over lo hi cs => obtain ⟨p, v1, v2, v3, e, _⟩ := rx; subst e; exact q H1 (Step.refl s1.j)
def isNoneA : Ans → Bool
  | .none => true
  | _ => false
theorem et_isNA {x : Ans} (ha : EvD X m a σ H x) : EvT X m (.Compare a [.Is] [.Constant .none k p2] pos) σ H (isNoneA x) := et_cmp op_isN (nomark _) ha ev_noneV fun v w x' y H1 Q s1 px py rx ry q => by
  subst px
  cases py
  cases ry
  refine ⟨rfl, ?_⟩
  cases x' with
  | none => cases (show v = V.non from rx); exact q H1 (Step.refl s1.j)
  | gains p => obtain ⟨p, v1, e, _⟩ := rx; subst e; exact q H1 (Step.refl s1.j)
  | most p => obtain ⟨p, v1, e, _⟩ := rx; subst e; exact q H1 (Step.refl s1.j)
def isNoneT : Told → Bool
  | .none => true
  | _ => false
theorem et_isNT {x : Told} (ha : EvD X m a σ H x) : EvT X m (.Compare a [.Is] [.Constant .none k p2] pos) σ H (isNoneT x) := et_cmp op_isN (nomark _) ha ev_noneV fun v w x' y H1 Q s1 px py rx ry q => by
  subst px
  cases py
  cases ry
  refine ⟨rfl, ?_⟩
  cases x' with
  | none => cases (show v = V.non from rx); exact q H1 (Step.refl s1.j)
  | endless => cases (show v = V.str sEndless from rx); exact q H1 (Step.refl s1.j)
  | num n => cases (show v = V.int n from rx); exact q H1 (Step.refl s1.j)
end

/-! ### statements -/
section
variable {X : Cx} {m : Mode} {σ : L2.St} {H : Hp} {D : Ends} {a b c e : Expr} {es : List Expr} {st : Stmt} {sts body orelse : List Stmt} {pos : Pos} {α β γ δ τ : Type} [Rep α] [Rep β] [Rep γ] [Rep δ] {i j : Nat}
theorem wb_nil (q : D.nx σ H) : WB X [] D σ H := wb_of pss_nil q
theorem wb_cons (q : WS X st { D with nx := WB X sts D } σ H) : WB X (st :: sts) D σ H := wb_of (pss_cons ps_w pss_w) q
theorem wb_one (q : WS X st D σ H) : WB X [st] D σ H := wb_of (pss_one ps_w) q
theorem ws_set (i : Nat) {x : Str} {pos' : Pos} {P : α → Prop} (he : Ev X m e σ H P) (j : m.J H) (k : ∀ v H' z, Step m H H' → P z → rep X.K m.M H' v z → D.nx (σ.set i (some v)) H') (hN : X.N.Nodup := by first | assumption | exact FnScope.nd (by assumption)) (hi : X.N[i]? = some x := by rfl) (hx : Loc X.env.scope x := by first | exact Or.inl rfl | exact Or.inr rfl)
    (hs : swapsWith e (some (.Name x pos')) pos.line X.env = pure false := by rfl) (hf : X.fn x = true ∨ X.env.scope.names.lookup x = some .local := by first | exact .inl rfl | exact .inr rfl) : WS X (.Assign [.Name x pos'] e pos) D σ H :=
  ws_of (ps_set hN hi hx pe_w hs hf) (he H (Step.refl j) _ fun v H' z s pz rz => k v H' z s pz rz)
theorem ws_ret {P : α → Prop} (he : Ev X m e σ H P) (j : m.J H) (k : ∀ v H' z, Step m H H' → P z → rep X.K m.M H' v z → D.rt v H') : WS X (.Return (some e) pos) D σ H := ws_of (ps_ret pe_w) (he H (Step.refl j) _ k)
theorem ws_if {k : Bool} (hc : EvT X m c σ H k) (j : m.J H) (h1 : ∀ H', Step m H H' → k = true → WB X body D σ H') (h2 : ∀ H', Step m H H' → k = false → WB X orelse D σ H') : WS X (.If c body orelse pos) D σ H :=
  ws_of (ps_if pt_w pss_w pss_w) (hc H (Step.refl j) _ fun H' s => by
    cases k with
    | true => exact iteT (h1 H' s rfl)
    | false => exact iteF (h2 H' s rfl))
theorem ws_expr {P : α → Prop} (he : Ev X m e σ H P) (j : m.J H) (k : ∀ v H' z, Step m H H' → P z → rep X.K m.M H' v z → D.nx σ H') (hs : swapsWith e none pos.line X.env = pure false := by rfl) : WS X (.Expr e pos) D σ H :=
  ws_of (ps_expr pe_w hs) (he H (Step.refl j) _ k)
theorem ws_cont (q : D.ct σ H) : WS X (.Continue pos) D σ H := ws_of ps_continue q
/-- x, y = a, b: two local names -/
theorem ws_par (i j : Nat) {x y : Str} {px py pt : Pos} {kt k2 pt2} {Pa : α → Prop} {Pb : β → Prop} (ha : Ev X m a σ H Pa) (hb : Ev X m b σ H Pb) (jh : m.J H) (k : ∀ v w H' z u, Step m H H' → Pa z → Pb u → rep X.K m.M H' v z → rep X.K m.M H' w u → D.nx ((σ.set i (some v)).set j (some w)) H')
    (hN : X.N.Nodup := by first | assumption | exact FnScope.nd (by assumption)) (hc : X.calm = true := by rfl) (hi : X.N[i]? = some x := by rfl) (hj : X.N[j]? = some y := by rfl) (hij : i ≠ j := by decide) (hx : X.env.scope.names.lookup x = some .local := by rfl) (hy : X.env.scope.names.lookup y = some .local := by rfl)
    (hw : swappedStores [.Tuple [.Name x px, .Name y py] kt pt] (.Tuple [a, b] k2 pt2) X.env = pure (some [x, y]) := by rfl)
    (hs : swapsWithSole [.Tuple [.Name x px, .Name y py] kt pt] (.Tuple [a, b] k2 pt2) pos.line X.env = pure false := by rfl) (na : NS a := by exact fun _ _ => rfl) (nb : NS b := by exact fun _ _ => rfl) :
    WS X (.Assign [.Tuple [.Name x px, .Name y py] kt pt] (.Tuple [a, b] k2 pt2) pos) D σ H :=
  ws_of (ps_par hc hN hi hj hij hx hy (pa_cons pe_w (pa_cons pe_w pa_nil (nb _ _)) (na _ _)) hw hs) (ha H (Step.refl jh) _ fun v H2 z s2 pz rz => hb H2 s2 _ fun w H3 u s3 pu ru => ⟨v, w, rfl, k v w H3 z u (s2.trans s3) pz pu (s3.rep rz) ru⟩)
/-- x, y = e: a pair unpacked -/
theorem ws_unp2 (i j : Nat) {x y : Str} {px py pt : Pos} {kt} {P : α × β → Prop} (he : Ev X m e σ H P) (jh : m.J H) (k : ∀ v w H' z, Step m H H' → P z → rep X.K m.M H' v z.1 → rep X.K m.M H' w z.2 → D.nx ((σ.set i (some v)).set j (some w)) H')
    (hN : X.N.Nodup := by first | assumption | exact FnScope.nd (by assumption)) (hc : X.calm = true := by rfl) (hi : X.N[i]? = some x := by rfl) (hj : X.N[j]? = some y := by rfl) (hx : Loc X.env.scope x := by first | exact Or.inl rfl | exact Or.inr rfl) (hy : Loc X.env.scope y := by first | exact Or.inl rfl | exact Or.inr rfl)
    (fx : X.fn x = true ∨ X.env.scope.names.lookup x = some .local := by first | exact .inl rfl | exact .inr rfl) (fy : X.fn y = true ∨ X.env.scope.names.lookup y = some .local := by first | exact .inl rfl | exact .inr rfl)
    (hs : swapsWithSole [.Tuple [.Name x px, .Name y py] kt pt] e pos.line X.env = pure false := by rfl) (hw : swappedStores [.Tuple [.Name x px, .Name y py] kt pt] e X.env = pure none := by rfl) : WS X (.Assign [.Tuple [.Name x px, .Name y py] kt pt] e pos) D σ H :=
  ws_of (ps_asg pe_w (pg_tup hc (pgs_cons (pg_name hN hi hx fx) (pgs_cons (pg_name hN hj hy fy) pgs_nil))) hs hw) (he H (Step.refl jh) _ fun v H2 z s2 pz ⟨p, v1, v2, e, t, r1, r2⟩ => ⟨p, [v1, v2], e, t.sq, rfl, v1, [v2], rfl, v2, [], rfl, rfl, k v1 v2 H2 z s2 pz r1 r2⟩)
/-- four names -/
theorem ws_unp4 (i1 i2 i3 i4 : Nat) {x1 x2 x3 x4 : Str} {p1 p2 p3 p4 pt : Pos} {kt} {P : T4 α β γ δ → Prop} (he : Ev X m e σ H P) (jh : m.J H)
    (k : ∀ v1 v2 v3 v4 H' z, Step m H H' → P z → rep X.K m.M H' v1 z.a → rep X.K m.M H' v2 z.b → rep X.K m.M H' v3 z.c → rep X.K m.M H' v4 z.d → D.nx ((((σ.set i1 (some v1)).set i2 (some v2)).set i3 (some v3)).set i4 (some v4)) H')
    (hN : X.N.Nodup := by first | assumption | exact FnScope.nd (by assumption)) (hc : X.calm = true := by rfl) (h1 : X.N[i1]? = some x1 := by rfl) (h2 : X.N[i2]? = some x2 := by rfl) (h3 : X.N[i3]? = some x3 := by rfl) (h4 : X.N[i4]? = some x4 := by rfl)
    (g1 : Loc X.env.scope x1 := by first | exact Or.inl rfl | exact Or.inr rfl) (g2 : Loc X.env.scope x2 := by first | exact Or.inl rfl | exact Or.inr rfl) (g3 : Loc X.env.scope x3 := by first | exact Or.inl rfl | exact Or.inr rfl) (g4 : Loc X.env.scope x4 := by first | exact Or.inl rfl | exact Or.inr rfl)
    (f1 : X.fn x1 = true ∨ X.env.scope.names.lookup x1 = some .local := by first | exact .inl rfl | exact .inr rfl) (f2 : X.fn x2 = true ∨ X.env.scope.names.lookup x2 = some .local := by first | exact .inl rfl | exact .inr rfl)
    (f3 : X.fn x3 = true ∨ X.env.scope.names.lookup x3 = some .local := by first | exact .inl rfl | exact .inr rfl) (f4 : X.fn x4 = true ∨ X.env.scope.names.lookup x4 = some .local := by first | exact .inl rfl | exact .inr rfl)
    (hs : swapsWithSole [.Tuple [.Name x1 p1, .Name x2 p2, .Name x3 p3, .Name x4 p4] kt pt] e pos.line X.env = pure false := by rfl) (hw : swappedStores [.Tuple [.Name x1 p1, .Name x2 p2, .Name x3 p3, .Name x4 p4] kt pt] e X.env = pure none := by rfl) :
    WS X (.Assign [.Tuple [.Name x1 p1, .Name x2 p2, .Name x3 p3, .Name x4 p4] kt pt] e pos) D σ H :=
  ws_of (ps_asg pe_w (pg_tup hc (pgs_cons (pg_name hN h1 g1 f1) (pgs_cons (pg_name hN h2 g2 f2) (pgs_cons (pg_name hN h3 g3 f3) (pgs_cons (pg_name hN h4 g4 f4) pgs_nil))))) hs hw)
    (he H (Step.refl jh) _ fun v H2 z s2 pz ⟨p, v1, v2, v3, v4, e, t, r1, r2, r3, r4⟩ => ⟨p, [v1, v2, v3, v4], e, t.sq, rfl, v1, _, rfl, v2, _, rfl, v3, _, rfl, v4, [], rfl, rfl, k v1 v2 v3 v4 H2 z s2 pz r1 r2 r3 r4⟩)
end

/-! ### a def of the text -/
/-- a def that stands at f -/
structure FnX (K : PySem.W.Frag) (mg : Str → Option Value) (nm : Str) (st : Stmt) (ps : List Str) where
  f : Addr
  fd : FuncData
  F : Fun K nm nm st f fd
  g : mg nm = some (.ref f)
  b : Binds K fd ps []
section
variable {P : Program} {w : World} {K : PySem.W.Frag} {mg : Str → Option Value} {base : Heap} {nm : Str} {st : Stmt} {ps N : List Str} {k : Nat}
/-- its context, at its entry -/
abbrev bcx (P : Program) (w : World) (K : PySem.W.Frag) (mg : Str → Option Value) (base : Heap) (N : List Str) (nm : Str) (st : Stmt) (f : Addr) (cdv : Value) (A : Around) (outer : List Env) (s : Shared) (H : Hp) (E : XK) : Cx := (cxOf CX0 P w K mg base N nm (defScope st) f cdv A outer s H E).nox
theorem fn_ok {sp : Sp} (F : FnX K mg nm st ps) (S : FnScope N ps (defScope st)) (len : ∀ vs H Q E, sp vs H Q E → vs.length = ps.length)
    (body : ∀ (cdv : Value) (A : Around) (outer : List Env) (s : Shared) (H : Hp) (vs : List V) (Q : VK) (E : XK), Room k (A.deeper (envOfC nm (defScope st) s.heap.objs.size F.f cdv)) → sp vs H Q E →
      WB (bcx P w K mg base N nm st F.f cdv A outer s H E) (defBody st) { nx := fun _ H' => Q .non H', rt := Q } (L2.start N vs) H) : FnOk P w K mg base CX0 (k + 1) F.f F.fd ps sp :=
  F.F.ok S len fun cdv A outer s H vs Q E hr h => ⟨_, pss_w, body cdv A outer s H vs Q E hr h⟩
/-- .. whose promise is plain -/
theorem fn_okP {τ β : Type} [Arg τ] [Rep β] {pre : τ → Prop} {post : τ → β → Prop} (F : FnX K mg nm st ps) (S : FnScope N ps (defScope st)) (len : ∀ (K : PySem.W.Frag) (M : Addr → Prop) H vs (x : τ), rp K M H vs x → vs.length = ps.length)
    (body : ∀ (cdv : Value) (A : Around) (outer : List Env) (s : Shared) (H : Hp) (E : XK) (m : Mode) (vs : List V) (x : τ) (Q : VK), Room k (A.deeper (envOfC nm (defScope st) s.heap.objs.size F.f cdv)) → m.J H → rp K m.M H vs x → pre x →
      (∀ u H' z, Step m H H' → post x z → rep K m.M H' u z → Q u H') → WB (bcx P w K mg base N nm st F.f cdv A outer s H E) (defBody st) { nx := fun _ H' => Q .non H', rt := Q } (L2.start N vs) H) : FnOk P w K mg base CX0 (k + 1) F.f F.fd ps (spP K pre post) :=
  fn_ok F S (fun vs H Q E ⟨M, x, hl, r, _⟩ => len K M H vs x r) fun cdv A outer s H vs Q E hr ⟨M, x, hl, r, hp, q⟩ =>
    body cdv A outer s H E (mF M H hl) vs x Q hr mF_j r hp fun u H' z s pz rz => q u H' z (mF_ex s) pz rz
end
end HK
set_option Elab.async false
set_option linter.all false
set_option maxRecDepth 100000
/-! E2: == of data, loops, lists that grow, comprehensions. -/
namespace HK
open PySem PySem.Spec PyProof.Rows L2
open Rep Arg

/-! ### data that == compares -/
class Dat (α : Type) [Rep α] [DecidableEq α] where
  enc : α → PyData
  dep : Nat
  dp : ∀ {K : PySem.W.Frag} {M : Addr → Prop} {H : Hp} {v : V} {x : α}, rep K M H v x → Dp K H v (enc x)
  lay : ∀ x, (enc x).canLay0 = true
  depth : ∀ x, (enc x).depth ≤ dep
  eqv : ∀ x y, PyData.eqv (enc x) (enc y) = decide (x = y)
open Dat
instance : Dat Int := ⟨fun i => .int i, 0, fun {K M H v x} h => by cases (show v = V.int x from h); exact .int x, fun _ => by simp only [PyData.canLay0], fun _ => by simp only [PyData.depth]; exact Nat.le_refl 0, fun x y => by simp only [PyData.eqv, Bool.beq_eq_decide_eq]⟩
section
variable {α β : Type} [Rep α] [Rep β] [DecidableEq α] [DecidableEq β] [Dat α] [Dat β]
theorem eqv_pair (x y : α × β) : PyData.eqv (.tuple [enc x.1, enc x.2]) (.tuple [enc y.1, enc y.2]) = decide (x = y) := by
  obtain ⟨a, b⟩ := x
  obtain ⟨c, d⟩ := y
  simp only [PyData.eqv, PyData.eqvAll, Bool.and_true]
  rw [Dat.eqv a c, Dat.eqv b d]
  by_cases h : a = c
  · by_cases g : b = d
    · simp [h, g]
    · simp [h, g]
  · simp [h]
instance : Dat (α × β) := ⟨fun x => .tuple [enc x.1, enc x.2], max (dep α) (dep β) + 1, fun {K M H v x} ⟨a, v1, v2, e, t, r1, r2⟩ => by
    subst e
    exact .tup t.sq (.cons (Dat.dp r1) (.cons (Dat.dp r2) .nil)), fun x => by
    simp only [PyData.canLay0, PyData.canLayAll0, Bool.and_true, Bool.and_eq_true]
    exact ⟨Dat.lay x.1, Dat.lay x.2⟩, fun x => by
    have h1 := Dat.depth x.1
    have h2 := Dat.depth x.2
    simp only [PyData.depth, PyData.depthAll]
    omega, eqv_pair⟩
theorem dpAll {K : PySem.W.Frag} {M : Addr → Prop} {H : Hp} : ∀ {vs : List V} {xs : List α}, Reps K M H vs xs → DpAll K H vs (xs.map enc)
  | _, _, .nil => .nil
  | _, _, .cons r t => .cons (Dat.dp r) (dpAll t)
theorem layAll : ∀ xs : List α, PyData.canLayAll0 (xs.map enc) = true
  | [] => by simp only [List.map_nil, PyData.canLayAll0]
  | x :: xs => by simp only [List.map_cons, PyData.canLayAll0, Dat.lay x, layAll xs, Bool.and_true]
theorem depthAll : ∀ xs : List α, PyData.depthAll (xs.map enc) ≤ dep α
  | [] => by simp only [List.map_nil, PyData.depthAll]; exact Nat.zero_le _
  | x :: xs => by
    have h1 := Dat.depth x
    have h2 := depthAll xs
    simp only [List.map_cons, PyData.depthAll]
    omega
theorem eqvAll : ∀ xs ys : List α, PyData.eqvAll (xs.map enc) (ys.map enc) = decide (xs = ys)
  | [], [] => by simp [PyData.eqvAll]
  | [], y :: ys => by simp [PyData.eqvAll]
  | x :: xs, [] => by simp [PyData.eqvAll]
  | x :: xs, y :: ys => by
    simp only [List.map_cons, PyData.eqvAll]
    rw [Dat.eqv x y, eqvAll xs ys]
    by_cases h : x = y
    · by_cases g : xs = ys
      · simp [h, g]
      · simp [h, g]
    · simp [h]
instance : Dat (List α) := ⟨fun xs => .list (xs.map enc), dep α + 1, fun {K M H v x} ⟨a, vs, e, t, r⟩ => by
    subst e
    exact .lst t.sq (dpAll r), fun x => by
    simp only [PyData.canLay0]
    exact layAll x, fun x => by
    have h := depthAll x
    simp only [PyData.depth]
    omega, fun x y => by
    simp only [PyData.eqv]
    exact eqvAll x y⟩
instance {γ δ : Type} [Rep γ] [Rep δ] [DecidableEq γ] [DecidableEq δ] [Dat γ] [Dat δ] : Dat (T4 α β γ δ) := ⟨fun x => .tuple [enc x.a, enc x.b, enc x.c, enc x.d], max (max (dep α) (dep β)) (max (dep γ) (dep δ)) + 1, fun {K M H v x} ⟨a, v1, v2, v3, v4, e, t, r1, r2, r3, r4⟩ => by
    subst e
    exact .tup t.sq (.cons (Dat.dp r1) (.cons (Dat.dp r2) (.cons (Dat.dp r3) (.cons (Dat.dp r4) .nil)))), fun x => by
    simp only [PyData.canLay0, PyData.canLayAll0, Bool.and_true, Bool.and_eq_true]
    exact ⟨Dat.lay x.a, Dat.lay x.b, Dat.lay x.c, Dat.lay x.d⟩, fun x => by
    have h1 := Dat.depth x.a
    have h2 := Dat.depth x.b
    have h3 := Dat.depth x.c
    have h4 := Dat.depth x.d
    simp only [PyData.depth, PyData.depthAll]
    omega, fun x y => by
    obtain ⟨a, b, c, d⟩ := x
    obtain ⟨a', b', c', d'⟩ := y
    simp only [PyData.eqv, PyData.eqvAll, Bool.and_true]
    rw [Dat.eqv a a', Dat.eqv b b', Dat.eqv c c', Dat.eqv d d']
    by_cases h1 : a = a'
    · by_cases h2 : b = b'
      · by_cases h3 : c = c'
        · by_cases h4 : d = d'
          · simp [h1, h2, h3, h4]
          · simp [h1, h2, h3, h4]
        · simp [h1, h2, h3]
      · simp [h1, h2]
    · simp [h1]⟩
theorem shaped_of {x : α} (h : dep α ≤ 64) : SeqAt.shaped (enc x) = true := by
  unfold SeqAt.shaped
  rw [Dat.lay x, decide_eq_true (Nat.le_trans (Dat.depth x) h)]
  rfl
end
section
variable {X : Cx} {m : Mode} {σ : L2.St} {H : Hp} {a b : Expr} {pos p2 : Pos} {k : Nat} {α : Type} [Rep α] [DecidableEq α] [Dat α] {x y : α}
theorem et_eqD (hr : Room k X.A) (ha : EvD X m a σ H x) (hb : EvD X m b σ H y) (hd : dep α ≤ 64 := by decide) : EvT X m (.Compare a [.Eq] [b] pos) σ H (decide (x = y)) := et_cmp (op_eqD hr.units) (nomark _) ha hb fun v w x' y' H1 Q s1 px py rx ry q => by
  subst px
  subst py
  exact ⟨_, _, Dat.dp rx, Dat.dp ry, shaped_of hd, shaped_of hd, by rw [Dat.eqv]; exact q H1 (Step.refl s1.j)⟩
theorem et_neD (hr : Room k X.A) (ha : EvD X m a σ H x) (hb : EvD X m b σ H y) (hd : dep α ≤ 64 := by decide) : EvT X m (.Compare a [.NotEq] [b] pos) σ H (!decide (x = y)) := et_cmp (op_neD hr.units) (nomark _) ha hb fun v w x' y' H1 Q s1 px py rx ry q => by
  subst px
  subst py
  exact ⟨_, _, Dat.dp rx, Dat.dp ry, shaped_of hd, shaped_of hd, by rw [Dat.eqv]; exact q H1 (Step.refl s1.j)⟩
theorem any_enc (x : α) : ∀ xs : List α, (xs.map enc).any (fun d => PyData.eqv d (enc x)) = decide (x ∈ xs)
  | [] => by simp
  | y :: ys => by
    simp only [List.map_cons, List.any_cons]
    rw [any_enc x ys, Dat.eqv]
    by_cases h : y = x
    · simp [h]
    · have h' : ¬ x = y := fun z => h z.symm
      simp [h, h']
end

/-! ### modes -/
/-- what M holds is as it was at H0 -/
def pin (m : Mode) (H0 : Hp) (j : m.J H0) : Mode := mF m.M H0 fun _ h => m.live j h
section
variable {m : Mode} {H0 H H' : Hp} {α : Type} [Rep α] {K : PySem.W.Frag} {v : V} {x : α}
theorem pin_j (j : m.J H0) : (pin m H0 j).J H0 := mF_j
theorem pin_ex {j : m.J H0} (s : Step (pin m H0 j) H0 H') : Ex H0 H' := mF_ex s
theorem pin_st {j : m.J H0} (s : Step (pin m H0 j) H0 H') : Step m H0 H' := Step.ex j (pin_ex s)
/-- a list of one's own that grows -/
def mL (m : Mode) (l : Addr) : Mode := ⟨fun b => m.M b ∨ b = l, fun H => m.J H ∧ ∃ vs, H l = some (.lst vs), fun e ⟨j, vs, h⟩ => ⟨m.ex e j, vs, e _ _ h⟩, fun {H a} ⟨j, vs, h⟩ hm z => by
  rcases hm with hm | rfl
  · exact m.live j hm z
  · rw [h] at z
    exact (nomatch z), fun {H a vs ws} n e ⟨j, us, h⟩ => ⟨m.lst (fun z => n (.inl z)) e j, us, by
  rw [upd_ne fun z => n (.inr z.symm)]
  exact h⟩⟩
/-- .. that nothing writes for now -/
def mLP (m : Mode) (l : Addr) (vs : List V) : Mode := ⟨fun b => m.M b ∨ b = l, fun H => m.J H ∧ H l = some (.lst vs), fun e ⟨j, h⟩ => ⟨m.ex e j, e _ _ h⟩, fun {H a} ⟨j, h⟩ hm z => by
  rcases hm with hm | rfl
  · exact m.live j hm z
  · rw [h] at z
    exact (nomatch z), fun {H a us ws} n e ⟨j, h⟩ => ⟨m.lst (fun z => n (.inl z)) e j, by
  rw [upd_ne fun z => n (.inr z.symm)]
  exact h⟩⟩
theorem mLP_st {m : Mode} {l : Addr} {vs : List V} {H H' : Hp} (s : Step (mLP m l vs) H H') : Step (mL m l) H H' := ⟨s.keep, s.j.1, vs, s.j.2⟩
theorem mL_j {l : Addr} {vs : List V} (j : m.J H) (n : H l = none) : (mL m l).J (upd H l (.lst vs)) := ⟨m.ex (Ex.new n) j, vs, upd_same⟩
/-- what is known goes on being known -/
theorem mL_rep {l : Addr} {o : HO} (n : H l = none) (r : rep K m.M H v x) : rep K (mL m l).M (upd H l o) v x :=
  mono (fun b o' _ h => Ex.new n b o' h) (shift (fun b hb => hb.elim .inl fun e => .inr (e ▸ n)) r)
theorem mL_back {l : Addr} (r : rep K (mL m l).M H v x) : rep K m.M H v x := shift (fun b hb => .inl (.inl hb)) r
theorem mL_step {l : Addr} {o : HO} (n : H l = none) (s : Step (mL m l) (upd H l o) H') : Step m H H' := ⟨fun b o' nm h => by
  have nb : b ≠ l := fun z => by
    rw [z, n] at h
    cases h
  refine s.keep b o' (fun z => z.elim nm nb) ?_
  rw [upd_ne nb]
  exact h, s.j.1⟩
/-- the list is written -/
theorem mL_upd {l : Addr} {ws : List V} (j : (mL m l).J H) (n : ¬ m.M l) : Step (mL m l) H (upd H l (.lst ws)) := ⟨fun b o n h => by
  rw [upd_ne fun z => n (.inr z)]
  exact h, by
  obtain ⟨jm, vs, h⟩ := j
  exact m.lst n h jm, ws, upd_same⟩
end

/-! ### statements over lists -/
section
variable {X : Cx} {m : Mode} {σ : L2.St} {H : Hp} {D : Ends} {a b c e : Expr} {es : List Expr} {st : Stmt} {sts body orelse : List Stmt} {pos : Pos} {α β γ δ τ : Type} [Rep α] [Rep β] [Rep γ] [Rep δ]
/-- x = [] -/
theorem ws_new (i : Nat) {x : Str} {pos' lp : Pos} (k : ∀ l, H l = none → D.nx (σ.set i (some (.ref l))) (upd H l (.lst []))) (hN : X.N.Nodup := by first | assumption | exact FnScope.nd (by assumption)) (hi : X.N[i]? = some x := by rfl) (hx : Loc X.env.scope x := by first | exact Or.inl rfl | exact Or.inr rfl)
    (hf : X.fn x = true ∨ X.env.scope.names.lookup x = some .local := by first | exact .inl rfl | exact .inr rfl) : WS X (.Assign [.Name x pos'] (.List [] lp) pos) D σ H :=
  ws_of (ps_set hN hi hx (pe_lst pa_nil) rfl hf) ⟨Nat.zero_le _, fun l n => k l n⟩
/-- xs.append(e) -/
theorem ws_append (i : Nat) {n : Str} {np ap cp : Pos} {l : Addr} {vs : List V} {P : α → Prop} {j : m.J H} (hH : H l = some (.lst vs)) (hl : vs.length < 1000000) (he : Ev X (pin m H j) e σ H P) (k : ∀ v H' z, Ex H H' → P z → rep X.K m.M H' v z → D.nx σ (upd H' l (.lst (vs ++ [v]))))
    (hs : σ[i]? = some (some (.ref l)) := by rfl) (hN : X.N[i]? = some n := by rfl) (hv : Vis X.env.scope n := by first | exact Or.inl rfl | exact Or.inr (Or.inl rfl) | exact Or.inr (Or.inr rfl)) (ne : NS e := by exact fun _ _ => rfl)
    (hd : (n == ("__debug__" : Str)) = false := by decide) (hcd : (n == ("__classdict__" : Str)) = false := by decide)
    (h1 : swapsWith (.Call (.Attribute (.Name n np) "append" ap) [e] [] cp) none pos.line X.env = pure false := by rfl)
    (h2 : (backTo cp (starEach [] X.env)).any (·.1) = false := by rfl) (h3 : attributeBase (.Name n np) "append" X.env (eval (.Name n np) X.env) = eval (.Name n np) X.env := by rfl)
    (h4 : ((backTo cp (starEach [e] X.env)).all (fun x => !x.1) && (backToKw cp (keywordEach [] X.env)).all (fun x => x.1.isSome) && decide (([e] : List Expr).length + ([] : List Keyword).length + (if ([] : List Keyword).isEmpty then 0 else 1) < 30)) = true := by rfl)
    (h5 : (ap.endLine == cp.line) = true := by rfl) : WS X (.Expr (.Call (.Attribute (.Name n np) "append" ap) [e] [] cp) pos) D σ H :=
  ws_of (ps_expr (pe_bm PySem.F.plainAttrs_list PySem.F.slot_list_append PySem.F.type_list_append mt_append (pe_var hN hv hd hcd) (pa_cons pe_w pa_nil (ne _ _)) h3 h4 h5 (ne _ _) h2) h1) ⟨.ref l, hs, .inl ⟨rfl, _, SqL.of hH⟩, he H (Step.refl (pin_j j)) _ fun v H' z s pz rz => by
    have ex := pin_ex s
    exact ⟨l, vs, v, rfl, rfl, ex _ _ hH, Nat.lt_of_lt_of_le hl (by decide), k v H' z ex pz rz⟩⟩
end
end HK
set_option Elab.async false
set_option linter.all false
set_option maxRecDepth 100000
/-! E3: loops, comprehensions, built-ins over lists. Printed by E3.py. -/
namespace HK
open PySem PySem.Spec PyProof.Rows L2
open Rep Arg
theorem wipe_one (σ : L2.St) (i : Nat) (x : V) : wipe ((wipe σ [i]).set i (some x)) [i] = wipe σ [i] := by
  show ((σ.set i none).set i (some x)).set i none = σ.set i none
  rw [List.set_set, List.set_set]
theorem reps_len {α : Type} [Rep α] {K : PySem.W.Frag} {M : Addr → Prop} {H : Hp} {vs : List V} {xs : List α} (r : Reps K M H vs xs) : vs.length = xs.length := Paired.length r
theorem reps_back {α : Type} [Rep α] {K : PySem.W.Frag} {M : Addr → Prop} {H : Hp} : ∀ {vs : List V} {xs : List α} {k : Nat} {v : V}, Reps K M H vs xs → vs[k]? = some v → ∃ x, xs[k]? = some x ∧ rep K M H v x
  | _, _, _, _, .nil, e => by simp at e
  | _, _, 0, _, .cons r _, e => by simp at e; subst e; exact ⟨_, rfl, r⟩
  | _, _, k + 1, v, .cons _ t, e => by
    obtain ⟨x, h1, h2⟩ := reps_back (k := k) (v := v) t (by simpa using e)
    exact ⟨x, by simpa using h1, h2⟩
theorem reps_snoc {α : Type} [Rep α] {K : PySem.W.Frag} {M : Addr → Prop} {H : Hp} {vs : List V} {xs : List α} {v : V} {x : α} (r : Reps K M H vs xs) (s : rep K M H v x) : Reps K M H (vs ++ [v]) (xs ++ [x]) := Paired.snoc r s
theorem reps_mono {α : Type} [Rep α] {K : PySem.W.Frag} {M : Addr → Prop} {H H' : Hp} {vs : List V} {xs : List α} (k : ∀ b o, ¬ M b → H b = some o → H' b = some o) (r : Reps K M H vs xs) : Reps K M H' vs xs := Paired.mapP r fun _ _ z => mono k z
theorem Step.reps {α : Type} [Rep α] {m : Mode} {K : PySem.W.Frag} {H H' : Hp} {vs : List V} {xs : List α} (s : Step m H H') (r : Reps K m.M H vs xs) : Reps K m.M H' vs xs := reps_mono s.keep r
theorem reps_ints {K : PySem.W.Frag} {M : Addr → Prop} {H : Hp} : ∀ {vs : List V} {ns : List Int}, Reps K M H vs ns → vs = ns.map V.int
  | _, _, .nil => rfl
  | _, _, .cons r t => by
    rw [reps_ints t, show _ = V.int _ from r]
    rfl
theorem ints_reps {K : PySem.W.Frag} {M : Addr → Prop} {H : Hp} : ∀ {ns : List Int}, Reps K M H (ns.map V.int) ns
  | [] => .nil
  | _ :: _ => .cons rfl ints_reps
theorem reps_dropLast {α : Type} [Rep α] {K : PySem.W.Frag} {M : Addr → Prop} {H : Hp} : ∀ {vs : List V} {xs : List α}, Reps K M H vs xs → Reps K M H vs.dropLast xs.dropLast
  | _, _, .nil => .nil
  | _, _, .cons _ .nil => .nil
  | _, _, .cons r (.cons r2 t) => .cons r (reps_dropLast (.cons r2 t))
theorem reps_app {α : Type} [Rep α] {K : PySem.W.Frag} {M : Addr → Prop} {H : Hp} : ∀ {vs ws : List V} {xs ys : List α}, Reps K M H vs xs → Reps K M H ws ys → Reps K M H (vs ++ ws) (xs ++ ys)
  | _, _, _, _, .nil, s => s
  | _, _, _, _, .cons r t, s => .cons r (reps_app t s)
/-- what is known goes over to another mode, another heap -/
def Up (K : PySem.W.Frag) (m : Mode) (H : Hp) (m' : Mode) (H' : Hp) : Prop := ∀ {α : Type} [Rep α] {v : V} {x : α}, rep K m.M H v x → rep K m'.M H' v x
/-- a list of one's own that the step leaves as it is: evaluation does not write it -/
theorem take_one {α : Type} {xs : List α} {k : Nat} {x : α} (h : xs[k]? = some x) : xs.take (k + 1) = xs.take k ++ [x] := by rw [List.take_add_one, h]; rfl
def blkT (X : Cx) (scope : Scope) (test : Expr) : TT := fun σ H Q => ∀ (s0 : Shared) (H0 : Hp) (C : Addr) (cl : List (Str × Addr)) (fp : List Addr), WT (X.blk s0 H0 scope (compEnvC scope cl C X.env) fp) test σ H Q
def blkE (X : Cx) (scope : Scope) (elt : Expr) : TE := fun σ H Q => ∀ (s0 : Shared) (H0 : Hp) (C : Addr) (cl : List (Str × Addr)) (fp : List Addr), WE (X.blk s0 H0 scope (compEnvC scope cl C X.env) fp) elt σ H Q
section
variable {X : Cx} {m : Mode} {σ : L2.St} {H : Hp} {D D' : Ends} {a b c e iter elt test : Expr} {es : List Expr} {st : Stmt} {sts body orelse : List Stmt} {pos px : Pos} {xn : Str} {α β γ δ τ : Type} [Rep α] [Rep β] [Rep γ] [Rep δ]
theorem wb_mono (h : WB X sts D σ H) (n : ∀ σ H, D.nx σ H → D'.nx σ H) (r : ∀ v H, D.rt v H → D'.rt v H) (b : ∀ σ H, D.bk σ H → D'.bk σ H) (c : ∀ σ H, D.ct σ H → D'.ct σ H) : WB X sts D' σ H := fun pins s I => thn (h pins s I) fun fl s2 h2 => by
  cases fl with
  | next => obtain ⟨σ2, H2, I2, q⟩ := h2; exact ⟨σ2, H2, I2, n _ _ q⟩
  | cont => obtain ⟨σ2, H2, I2, q⟩ := h2; exact ⟨σ2, H2, I2, c _ _ q⟩
  | brk => obtain ⟨σ2, H2, I2, q⟩ := h2; exact ⟨σ2, H2, I2, b _ _ q⟩
  | ret v => obtain ⟨u, σ2, H2, I2, r2, q⟩ := h2; exact ⟨u, σ2, H2, I2, r2, r _ _ q⟩


/-- for x in List α -/
theorem ws_forL (i : Nat) {xs : List α} (he : EvD X m iter σ H xs) (j : m.J H) (I : Nat → L2.St → Hp → Prop) (h0 : ∀ H', Step m H H' → I 0 σ H')
    (turn : ∀ (k : Nat) (x : α) (v : V) (σ' : L2.St) (H' : Hp), xs[k]? = some x → Step m H H' → I k σ' H' → rep X.K m.M H' v x →
      WB X body { D with nx := fun σ2 H2 => Step m H' H2 ∧ I (k + 1) σ2 H2, ct := fun σ2 H2 => Step m H' H2 ∧ I (k + 1) σ2 H2, bk := D.nx } (σ'.set i (some v)) H')
    (hend : ∀ σ' H', Step m H H' → I xs.length σ' H' → D.nx σ' H') (hN : X.N.Nodup := by first | assumption | exact FnScope.nd (by assumption)) (hc : X.calm = true := by rfl) (hp : PassesOwn (model X.prog X.w) X.A X.env X.xe := by exact PassesOwn.never)
    (hi : X.N[i]? = some xn := by rfl) (hx : Loc X.env.scope xn := by first | exact Or.inl rfl | exact Or.inr rfl) (hf : X.fn xn = true ∨ X.env.scope.names.lookup xn = some .local := by first | exact .inl rfl | exact .inr rfl)
    (hs : ∀ x, foldedSetIterable iter X.env x = pure x := by intro _; rfl) : WS X (.For (.Name xn px) iter body [] pos) D σ H :=
  ws_of (ps_for hp hc (pi_list pe_w) (pg_name hN hi hx hf) pss_w hs) (he H (Step.refl j) _ fun v H1 x s1 pe ⟨a, vs, e, t, rs⟩ => by
    subst pe
    refine ⟨a, e, ⟨vs, t.sq⟩, for_list (xs := vs) (fun k σ' H' => Step m H1 H' ∧ I k σ' H') ⟨Step.refl s1.j, h0 H1 s1⟩ (fun k σ' H' _ p => (t.mono p.1.keep).sq) (fun k w σ' H' hk p => ?_) fun σ' H' p => ?_⟩
    · obtain ⟨y, hy, ry⟩ := reps_back (p.1.reps rs) hk
      exact wb_mono (turn k y w σ' H' hy (s1.trans p.1) p.2 ry) (fun _ _ q => ⟨p.1.trans q.1, q.2⟩) (fun _ _ q => q) (fun _ _ q => q) fun _ _ q => ⟨p.1.trans q.1, q.2⟩
    · rw [reps_len rs] at p
      exact hend σ' H' (s1.trans p.1) p.2)

/-- [elt for x in List α if test] -/
theorem tl_lc1L (i : Nat) {scope : Scope} {xs : List α} (p : α → Bool) (f : α → β) (hi : EvD X m iter σ H xs) (hlen : xs.length ≤ 1000000)
    (ht : ∀ (m' : Mode) (s0 : Shared) (H0 : Hp) (C : Addr) (cl : List (Str × Addr)) (fp : List Addr) (v : V) (x : α) (H' : Hp), Up X.K m H m' H' → m'.J H' → x ∈ xs → rep X.K m'.M H' v x → EvT (X.blk s0 H0 scope (compEnvC scope cl C X.env) fp) m' test ((wipe σ [i]).set i (some v)) H' (p x))
    (he : ∀ (m' : Mode) (s0 : Shared) (H0 : Hp) (C : Addr) (cl : List (Str × Addr)) (fp : List Addr) (v : V) (x : α) (H' : Hp), Up X.K m H m' H' → m'.J H' → x ∈ xs → p x = true → rep X.K m'.M H' v x → EvD (X.blk s0 H0 scope (compEnvC scope cl C X.env) fp) m' elt ((wipe σ [i]).set i (some v)) H' (f x)) :
    ∀ H1, Step m H H1 → ∀ Q : VK, (∀ v H2 x, Step m H1 H2 → x = ((xs.filter p).map f) → rep X.K m.M H2 v x → Q v H2) → tLc (iList X.K (WE X iter)) (gName i) (blkT X scope test) (blkE X scope elt) [i] σ H1 Q := fun H1 s1 Q q =>
    (hi H1 s1 _ fun v H2 x s2 pe rr => by
      have pe' := pe.symm
      subst pe'
      obtain ⟨a, vs, e, t, rs⟩ := rr
      refine ⟨a, e, ⟨vs, t.sq⟩, fun D nD => ?_⟩
      have up : ∀ {H'}, Step (mL m D) (upd H2 D (.lst [])) H' → Up X.K m H (mL m D) H' := fun st => fun r => mono st.keep (mL_rep nD ((s1.trans s2).rep r))
      have t' : LstA X.K (mL m D).M (upd H2 D (.lst [])) a vs := LstA.mono (fun b o _ h => Ex.new nD b o h) (t.shift fun b hb => hb.elim .inl fun e => .inr (e ▸ nD))
      have rs' : Reps X.K (mL m D).M (upd H2 D (.lst [])) vs xs := Paired.mapP rs fun _ _ z => mL_rep nD z
      refine lc_list (xs := vs) (g := gName i) (tt := blkT X scope test) (te := blkE X scope elt) (vs := [i]) (σ := σ) (Qd := fun H => Q (.ref D) H) (fun k H' => Step (mL m D) (upd H2 D (.lst [])) H' ∧ ∃ acc, H' D = some (.lst acc) ∧ Reps X.K (mL m D).M H' acc (((xs.take k).filter p).map f)) ⟨Step.refl (mL_j s2.j nD), [], upd_same, .nil⟩ (fun k H' _ q => (t'.mono q.1.keep).sq) (fun k w H' hk q1 => ?_) fun H' q1 => ?_
      · obtain ⟨st, acc, hD, ra⟩ := q1
        obtain ⟨y, hy, ry⟩ := reps_back (st.reps rs') hk
        have hm : y ∈ xs := List.mem_of_getElem? hy
        have hal : acc.length < sizeLine := by
          rw [reps_len ra, List.length_map]
          refine Nat.lt_of_le_of_lt (Nat.le_trans (List.length_filter_le _ _) (List.length_take_le _ _)) ?_
          have hlt : k < xs.length := (List.getElem?_eq_some_iff.mp hy).1
          exact Nat.lt_of_lt_of_le (Nat.lt_of_lt_of_le hlt hlen) (by decide)
        have app : ∀ (H3 : Hp) (u : V) (ys : List β), Step (mL m D) (upd H2 D (.lst [])) H3 → H3 D = some (.lst acc) → Reps X.K (mL m D).M H3 (acc ++ [u]) ys → Step (mL m D) (upd H2 D (.lst [])) (upd H3 D (.lst (acc ++ [u]))) ∧ Reps X.K (mL m D).M (upd H3 D (.lst (acc ++ [u]))) (acc ++ [u]) ys := fun H3 u ys s3 h3 r3 => by
          have s4 := mL_upd (ws := acc ++ [u]) s3.j (m.notM s2.j nD)
          exact ⟨s3.trans s4, s4.reps r3⟩
        refine ⟨wipe_one σ i w, fun s0 H0 C cl fp => ht (mLP m D acc) s0 H0 C cl fp w y H' (up st) ⟨st.j.1, hD⟩ hm ry H' (Step.refl ⟨st.j.1, hD⟩) _ fun H3 s3p => ?_⟩
        have s3 := mLP_st s3p
        cases hp : p y with
        | false =>
          refine iteF ⟨st.trans s3, acc, s3p.j.2, ?_⟩
          rw [take_one hy, List.filter_append, List.map_append]
          simp only [List.filter_cons, hp, List.filter_nil, List.map_nil, List.append_nil, Bool.false_eq_true, if_false]
          exact s3.reps ra
        | true =>
          refine iteT (fun s0 H0 C cl fp => he (mLP m D acc) s0 H0 C cl fp w y H' (up st) ⟨st.j.1, hD⟩ hm hp ry H3 s3p _ fun u H4 z s4p pz rz => ?_)
          subst pz
          have s4 := mLP_st s4p
          obtain ⟨sA, rA⟩ := app H4 u _ ((st.trans s3).trans s4) s4p.j.2 (reps_snoc (s4.reps (s3.reps ra)) rz)
          refine ⟨acc, s4p.j.2, hal, sA, acc ++ [u], upd_same, ?_⟩
          rw [take_one hy, List.filter_append, List.map_append]
          simp only [List.filter_cons, hp, List.filter_nil, List.map_cons, List.map_nil, if_true]
          exact rA
      · obtain ⟨st, acc, hD, ra⟩ := q1
        have el : xs.take vs.length = xs := List.take_of_length_le (Nat.le_of_eq (reps_len rs).symm)
        rw [el] at ra
        exact q _ H' _ (s2.trans (mL_step nD st)) rfl ⟨D, acc, rfl, ⟨m.notM s2.j nD, hD⟩, Paired.mapP ra fun _ _ z => mL_back z⟩)
theorem ev_lc1L (i : Nat) {scope : Scope} {xs : List α} (p : α → Bool) (f : α → β) (hi : EvD X m iter σ H xs) (hlen : xs.length ≤ 1000000) (ok : BlkOk X.N X.env.scope scope [(xn, i)])
    (ht : ∀ (m' : Mode) (s0 : Shared) (H0 : Hp) (C : Addr) (cl : List (Str × Addr)) (fp : List Addr) (v : V) (x : α) (H' : Hp), Up X.K m H m' H' → m'.J H' → x ∈ xs → rep X.K m'.M H' v x → EvT (X.blk s0 H0 scope (compEnvC scope cl C X.env) fp) m' test ((wipe σ [i]).set i (some v)) H' (p x))
    (he : ∀ (m' : Mode) (s0 : Shared) (H0 : Hp) (C : Addr) (cl : List (Str × Addr)) (fp : List Addr) (v : V) (x : α) (H' : Hp), Up X.K m H m' H' → m'.J H' → x ∈ xs → p x = true → rep X.K m'.M H' v x → EvD (X.blk s0 H0 scope (compEnvC scope cl C X.env) fp) m' elt ((wipe σ [i]).set i (some v)) H' (f x))
    (hN : X.N.Nodup := by first | assumption | exact FnScope.nd (by assumption)) (hc : X.calm = true := by rfl)
    (hg : ∀ (s : Shared) (H : Hp) (C : Addr) (cl : List (Str × Addr)) (fp : List Addr), PG (X.blk s H scope (compEnvC scope cl C X.env) fp) (.Name xn px) (gName i) := by first | exact fun _ _ _ _ _ => pg_name (FnScope.nd (by assumption)) rfl (Or.inl rfl) | exact fun _ _ _ _ _ => pg_name (FnScope.nd (by assumption)) rfl (Or.inr rfl))
    (hs : ∀ x, foldedSetIterable iter X.env x = pure x := by intro _; rfl) : EvD X m (.ListComp elt [⟨.Name xn px, iter, [test], 0⟩] scope pos) σ H ((xs.filter p).map f) := fun H1 s1 Q q =>
  we_of (pe_lc (own := [(xn, i)]) (g := gName i) (tt := blkT X scope test) (te := blkE X scope elt)
      hc hN (pi_list pe_w) ok hg (fun s0 H0 C cl fp => pts_one ⟨fun pins s σ H Q I h => h s0 H0 C cl fp pins s I⟩) (fun s0 H0 C cl fp => ⟨fun pins s σ H Q I h => h s0 H0 C cl fp pins s I⟩) hs) (tl_lc1L i p f hi hlen ht he H1 s1 Q q)
/-- y = [elt for x in List α if test] -/
theorem ws_lc1L (i0 i : Nat) {scope : Scope} {xs : List α} {y : Str} {py p2 : Pos} (p : α → Bool) (f : α → β) (hi : EvD X m iter σ H xs) (hlen : xs.length ≤ 1000000) (ok : BlkOk X.N X.env.scope scope [(xn, i)])
    (ht : ∀ (m' : Mode) (s0 : Shared) (H0 : Hp) (C : Addr) (cl : List (Str × Addr)) (fp : List Addr) (v : V) (x : α) (H' : Hp), Up X.K m H m' H' → m'.J H' → x ∈ xs → rep X.K m'.M H' v x → EvT (X.blk s0 H0 scope (compEnvC scope cl C X.env) fp) m' test ((wipe σ [i]).set i (some v)) H' (p x))
    (he : ∀ (m' : Mode) (s0 : Shared) (H0 : Hp) (C : Addr) (cl : List (Str × Addr)) (fp : List Addr) (v : V) (x : α) (H' : Hp), Up X.K m H m' H' → m'.J H' → x ∈ xs → p x = true → rep X.K m'.M H' v x → EvD (X.blk s0 H0 scope (compEnvC scope cl C X.env) fp) m' elt ((wipe σ [i]).set i (some v)) H' (f x))
    (j : m.J H) (k : ∀ v H2, Step m H H2 → rep X.K m.M H2 v ((xs.filter p).map f) → D.nx (σ.set i0 (some v)) H2)
    (hsw : swapsWith (.ListComp elt [⟨.Name xn px, iter, [test], 0⟩] scope pos) (some (.Name y py)) p2.line X.env = pure true := by rfl) (hy : X.N[i0]? = some y := by rfl) (hyl : X.env.scope.names.lookup y = some .local := by rfl)
    (hN : X.N.Nodup := by first | assumption | exact FnScope.nd (by assumption)) (hc : X.calm = true := by rfl)
    (hg : ∀ (s : Shared) (H : Hp) (C : Addr) (cl : List (Str × Addr)) (fp : List Addr), PG (X.blk s H scope (compEnvC scope cl C X.env) fp) (.Name xn px) (gName i) := by first | exact fun _ _ _ _ _ => pg_name (FnScope.nd (by assumption)) rfl (Or.inl rfl) | exact fun _ _ _ _ _ => pg_name (FnScope.nd (by assumption)) rfl (Or.inr rfl))
    (hs : ∀ x, foldedSetIterable iter X.env x = pure x := by intro _; rfl) : WS X (.Assign [.Name y py] (.ListComp elt [⟨.Name xn px, iter, [test], 0⟩] scope pos) p2) D σ H :=
  ws_of (ps_setLc (own := [(xn, i)]) (g := gName i) (tt := blkT X scope test) (te := blkE X scope elt) hc hN hy hyl hsw
      (pi_list pe_w) ok hg (fun s0 H0 C cl fp => pts_one ⟨fun pins s σ H Q I h => h s0 H0 C cl fp pins s I⟩) (fun s0 H0 C cl fp => ⟨fun pins s σ H Q I h => h s0 H0 C cl fp pins s I⟩) hs) (tl_lc1L i p f hi hlen ht he H (Step.refl j) _ fun v H2 x s px rx => by
    subst px
    exact k v H2 s rx)

/-- [elt for x in List α] -/
theorem tl_lc0L (i : Nat) {scope : Scope} {xs : List α} (f : α → β) (hi : EvD X m iter σ H xs) (hlen : xs.length ≤ 1000000)
    (he : ∀ (m' : Mode) (s0 : Shared) (H0 : Hp) (C : Addr) (cl : List (Str × Addr)) (fp : List Addr) (v : V) (x : α) (H' : Hp), Up X.K m H m' H' → m'.J H' → x ∈ xs → rep X.K m'.M H' v x → EvD (X.blk s0 H0 scope (compEnvC scope cl C X.env) fp) m' elt ((wipe σ [i]).set i (some v)) H' (f x)) :
    ∀ H1, Step m H H1 → ∀ Q : VK, (∀ v H2 x, Step m H1 H2 → x = (xs.map f) → rep X.K m.M H2 v x → Q v H2) → tLc (iList X.K (WE X iter)) (gName i) (tYes) (blkE X scope elt) [i] σ H1 Q := fun H1 s1 Q q =>
    (hi H1 s1 _ fun v H2 x s2 pe rr => by
      have pe' := pe.symm
      subst pe'
      obtain ⟨a, vs, e, t, rs⟩ := rr
      refine ⟨a, e, ⟨vs, t.sq⟩, fun D nD => ?_⟩
      have up : ∀ {H'}, Step (mL m D) (upd H2 D (.lst [])) H' → Up X.K m H (mL m D) H' := fun st => fun r => mono st.keep (mL_rep nD ((s1.trans s2).rep r))
      have t' : LstA X.K (mL m D).M (upd H2 D (.lst [])) a vs := LstA.mono (fun b o _ h => Ex.new nD b o h) (t.shift fun b hb => hb.elim .inl fun e => .inr (e ▸ nD))
      have rs' : Reps X.K (mL m D).M (upd H2 D (.lst [])) vs xs := Paired.mapP rs fun _ _ z => mL_rep nD z
      refine lc_list (xs := vs) (g := gName i) (tt := tYes) (te := blkE X scope elt) (vs := [i]) (σ := σ) (Qd := fun H => Q (.ref D) H) (fun k H' => Step (mL m D) (upd H2 D (.lst [])) H' ∧ ∃ acc, H' D = some (.lst acc) ∧ Reps X.K (mL m D).M H' acc ((xs.take k).map f)) ⟨Step.refl (mL_j s2.j nD), [], upd_same, .nil⟩ (fun k H' _ q => (t'.mono q.1.keep).sq) (fun k w H' hk q1 => ?_) fun H' q1 => ?_
      · obtain ⟨st, acc, hD, ra⟩ := q1
        obtain ⟨y, hy, ry⟩ := reps_back (st.reps rs') hk
        have hm : y ∈ xs := List.mem_of_getElem? hy
        have hal : acc.length < sizeLine := by
          rw [reps_len ra, List.length_map]
          refine Nat.lt_of_le_of_lt (List.length_take_le _ _) ?_
          have hlt : k < xs.length := (List.getElem?_eq_some_iff.mp hy).1
          exact Nat.lt_of_lt_of_le (Nat.lt_of_lt_of_le hlt hlen) (by decide)
        have app : ∀ (H3 : Hp) (u : V) (ys : List β), Step (mL m D) (upd H2 D (.lst [])) H3 → H3 D = some (.lst acc) → Reps X.K (mL m D).M H3 (acc ++ [u]) ys → Step (mL m D) (upd H2 D (.lst [])) (upd H3 D (.lst (acc ++ [u]))) ∧ Reps X.K (mL m D).M (upd H3 D (.lst (acc ++ [u]))) (acc ++ [u]) ys := fun H3 u ys s3 h3 r3 => by
          have s4 := mL_upd (ws := acc ++ [u]) s3.j (m.notM s2.j nD)
          exact ⟨s3.trans s4, s4.reps r3⟩
        refine ⟨wipe_one σ i w, ?_⟩
        show blkE X scope elt _ _ _
        refine fun s0 H0 C cl fp => he (mLP m D acc) s0 H0 C cl fp w y H' (up st) ⟨st.j.1, hD⟩ hm ry H' (Step.refl ⟨st.j.1, hD⟩) _ fun u H4 z s4p pz rz => ?_
        · subst pz
          have s4 := mLP_st s4p
          obtain ⟨sA, rA⟩ := app H4 u _ (st.trans s4) s4p.j.2 (reps_snoc (s4.reps ra) rz)
          refine ⟨acc, s4p.j.2, hal, sA, acc ++ [u], upd_same, ?_⟩
          rw [take_one hy, List.map_append]
          exact rA
      · obtain ⟨st, acc, hD, ra⟩ := q1
        have el : xs.take vs.length = xs := List.take_of_length_le (Nat.le_of_eq (reps_len rs).symm)
        rw [el] at ra
        exact q _ H' _ (s2.trans (mL_step nD st)) rfl ⟨D, acc, rfl, ⟨m.notM s2.j nD, hD⟩, Paired.mapP ra fun _ _ z => mL_back z⟩)
theorem ev_lc0L (i : Nat) {scope : Scope} {xs : List α} (f : α → β) (hi : EvD X m iter σ H xs) (hlen : xs.length ≤ 1000000) (ok : BlkOk X.N X.env.scope scope [(xn, i)])
    (he : ∀ (m' : Mode) (s0 : Shared) (H0 : Hp) (C : Addr) (cl : List (Str × Addr)) (fp : List Addr) (v : V) (x : α) (H' : Hp), Up X.K m H m' H' → m'.J H' → x ∈ xs → rep X.K m'.M H' v x → EvD (X.blk s0 H0 scope (compEnvC scope cl C X.env) fp) m' elt ((wipe σ [i]).set i (some v)) H' (f x))
    (hN : X.N.Nodup := by first | assumption | exact FnScope.nd (by assumption)) (hc : X.calm = true := by rfl)
    (hg : ∀ (s : Shared) (H : Hp) (C : Addr) (cl : List (Str × Addr)) (fp : List Addr), PG (X.blk s H scope (compEnvC scope cl C X.env) fp) (.Name xn px) (gName i) := by first | exact fun _ _ _ _ _ => pg_name (FnScope.nd (by assumption)) rfl (Or.inl rfl) | exact fun _ _ _ _ _ => pg_name (FnScope.nd (by assumption)) rfl (Or.inr rfl))
    (hs : ∀ x, foldedSetIterable iter X.env x = pure x := by intro _; rfl) : EvD X m (.ListComp elt [⟨.Name xn px, iter, [], 0⟩] scope pos) σ H (xs.map f) := fun H1 s1 Q q =>
  we_of (pe_lc (own := [(xn, i)]) (g := gName i) (te := blkE X scope elt)
      hc hN (pi_list pe_w) ok hg (fun _ _ _ _ _ => pts_nil) (fun s0 H0 C cl fp => ⟨fun pins s σ H Q I h => h s0 H0 C cl fp pins s I⟩) hs) (tl_lc0L i f hi hlen he H1 s1 Q q)
/-- y = [elt for x in List α] -/
theorem ws_lc0L (i0 i : Nat) {scope : Scope} {xs : List α} {y : Str} {py p2 : Pos} (f : α → β) (hi : EvD X m iter σ H xs) (hlen : xs.length ≤ 1000000) (ok : BlkOk X.N X.env.scope scope [(xn, i)])
    (he : ∀ (m' : Mode) (s0 : Shared) (H0 : Hp) (C : Addr) (cl : List (Str × Addr)) (fp : List Addr) (v : V) (x : α) (H' : Hp), Up X.K m H m' H' → m'.J H' → x ∈ xs → rep X.K m'.M H' v x → EvD (X.blk s0 H0 scope (compEnvC scope cl C X.env) fp) m' elt ((wipe σ [i]).set i (some v)) H' (f x))
    (j : m.J H) (k : ∀ v H2, Step m H H2 → rep X.K m.M H2 v (xs.map f) → D.nx (σ.set i0 (some v)) H2)
    (hsw : swapsWith (.ListComp elt [⟨.Name xn px, iter, [], 0⟩] scope pos) (some (.Name y py)) p2.line X.env = pure true := by rfl) (hy : X.N[i0]? = some y := by rfl) (hyl : X.env.scope.names.lookup y = some .local := by rfl)
    (hN : X.N.Nodup := by first | assumption | exact FnScope.nd (by assumption)) (hc : X.calm = true := by rfl)
    (hg : ∀ (s : Shared) (H : Hp) (C : Addr) (cl : List (Str × Addr)) (fp : List Addr), PG (X.blk s H scope (compEnvC scope cl C X.env) fp) (.Name xn px) (gName i) := by first | exact fun _ _ _ _ _ => pg_name (FnScope.nd (by assumption)) rfl (Or.inl rfl) | exact fun _ _ _ _ _ => pg_name (FnScope.nd (by assumption)) rfl (Or.inr rfl))
    (hs : ∀ x, foldedSetIterable iter X.env x = pure x := by intro _; rfl) : WS X (.Assign [.Name y py] (.ListComp elt [⟨.Name xn px, iter, [], 0⟩] scope pos) p2) D σ H :=
  ws_of (ps_setLc (own := [(xn, i)]) (g := gName i) (te := blkE X scope elt) hc hN hy hyl hsw
      (pi_list pe_w) ok hg (fun _ _ _ _ _ => pts_nil) (fun s0 H0 C cl fp => ⟨fun pins s σ H Q I h => h s0 H0 C cl fp pins s I⟩) hs) (tl_lc0L i f hi hlen he H (Step.refl j) _ fun v H2 x s px rx => by
    subst px
    exact k v H2 s rx)

/-- for x in Tup α -/
theorem ws_forT (i : Nat) {xs : Tup α} (he : EvD X m iter σ H xs) (j : m.J H) (I : Nat → L2.St → Hp → Prop) (h0 : ∀ H', Step m H H' → I 0 σ H')
    (turn : ∀ (k : Nat) (x : α) (v : V) (σ' : L2.St) (H' : Hp), xs.l[k]? = some x → Step m H H' → I k σ' H' → rep X.K m.M H' v x →
      WB X body { D with nx := fun σ2 H2 => Step m H' H2 ∧ I (k + 1) σ2 H2, ct := fun σ2 H2 => Step m H' H2 ∧ I (k + 1) σ2 H2, bk := D.nx } (σ'.set i (some v)) H')
    (hend : ∀ σ' H', Step m H H' → I xs.l.length σ' H' → D.nx σ' H') (hN : X.N.Nodup := by first | assumption | exact FnScope.nd (by assumption)) (hc : X.calm = true := by rfl) (hp : PassesOwn (model X.prog X.w) X.A X.env X.xe := by exact PassesOwn.never)
    (hi : X.N[i]? = some xn := by rfl) (hx : Loc X.env.scope xn := by first | exact Or.inl rfl | exact Or.inr rfl) (hf : X.fn xn = true ∨ X.env.scope.names.lookup xn = some .local := by first | exact .inl rfl | exact .inr rfl)
    (hs : ∀ x, foldedSetIterable iter X.env x = pure x := by intro _; rfl) : WS X (.For (.Name xn px) iter body [] pos) D σ H :=
  ws_of (ps_for hp hc (pi_tup pe_w) (pg_name hN hi hx hf) pss_w hs) (he H (Step.refl j) _ fun v H1 x s1 pe ⟨a, vs, e, t, rs⟩ => by
    subst pe
    refine ⟨a, e, ⟨vs, t.sq⟩, for_tup (xs := vs) (fun k σ' H' => Step m H1 H' ∧ I k σ' H') ⟨Step.refl s1.j, h0 H1 s1⟩ (fun k σ' H' _ p => (t.mono p.1.keep).sq) (fun k w σ' H' hk p => ?_) fun σ' H' p => ?_⟩
    · obtain ⟨y, hy, ry⟩ := reps_back (p.1.reps rs) hk
      exact wb_mono (turn k y w σ' H' hy (s1.trans p.1) p.2 ry) (fun _ _ q => ⟨p.1.trans q.1, q.2⟩) (fun _ _ q => q) (fun _ _ q => q) fun _ _ q => ⟨p.1.trans q.1, q.2⟩
    · rw [reps_len rs] at p
      exact hend σ' H' (s1.trans p.1) p.2)

/-- [elt for x in Tup α if test] -/
theorem tl_lc1T (i : Nat) {scope : Scope} {xs : Tup α} (p : α → Bool) (f : α → β) (hi : EvD X m iter σ H xs) (hlen : xs.l.length ≤ 1000000)
    (ht : ∀ (m' : Mode) (s0 : Shared) (H0 : Hp) (C : Addr) (cl : List (Str × Addr)) (fp : List Addr) (v : V) (x : α) (H' : Hp), Up X.K m H m' H' → m'.J H' → x ∈ xs.l → rep X.K m'.M H' v x → EvT (X.blk s0 H0 scope (compEnvC scope cl C X.env) fp) m' test ((wipe σ [i]).set i (some v)) H' (p x))
    (he : ∀ (m' : Mode) (s0 : Shared) (H0 : Hp) (C : Addr) (cl : List (Str × Addr)) (fp : List Addr) (v : V) (x : α) (H' : Hp), Up X.K m H m' H' → m'.J H' → x ∈ xs.l → p x = true → rep X.K m'.M H' v x → EvD (X.blk s0 H0 scope (compEnvC scope cl C X.env) fp) m' elt ((wipe σ [i]).set i (some v)) H' (f x)) :
    ∀ H1, Step m H H1 → ∀ Q : VK, (∀ v H2 x, Step m H1 H2 → x = ((xs.l.filter p).map f) → rep X.K m.M H2 v x → Q v H2) → tLc (iTup X.K (WE X iter)) (gName i) (blkT X scope test) (blkE X scope elt) [i] σ H1 Q := fun H1 s1 Q q =>
    (hi H1 s1 _ fun v H2 x s2 pe rr => by
      have pe' := pe.symm
      subst pe'
      obtain ⟨a, vs, e, t, rs⟩ := rr
      refine ⟨a, e, ⟨vs, t.sq⟩, fun D nD => ?_⟩
      have up : ∀ {H'}, Step (mL m D) (upd H2 D (.lst [])) H' → Up X.K m H (mL m D) H' := fun st => fun r => mono st.keep (mL_rep nD ((s1.trans s2).rep r))
      have t' : TupA X.K (mL m D).M (upd H2 D (.lst [])) a vs := TupA.mono (fun b o _ h => Ex.new nD b o h) (t.shift fun b hb => hb.elim .inl fun e => .inr (e ▸ nD))
      have rs' : Reps X.K (mL m D).M (upd H2 D (.lst [])) vs xs.l := Paired.mapP rs fun _ _ z => mL_rep nD z
      refine lc_tup (xs := vs) (g := gName i) (tt := blkT X scope test) (te := blkE X scope elt) (vs := [i]) (σ := σ) (Qd := fun H => Q (.ref D) H) (fun k H' => Step (mL m D) (upd H2 D (.lst [])) H' ∧ ∃ acc, H' D = some (.lst acc) ∧ Reps X.K (mL m D).M H' acc (((xs.l.take k).filter p).map f)) ⟨Step.refl (mL_j s2.j nD), [], upd_same, .nil⟩ (fun k H' _ q => (t'.mono q.1.keep).sq) (fun k w H' hk q1 => ?_) fun H' q1 => ?_
      · obtain ⟨st, acc, hD, ra⟩ := q1
        obtain ⟨y, hy, ry⟩ := reps_back (st.reps rs') hk
        have hm : y ∈ xs.l := List.mem_of_getElem? hy
        have hal : acc.length < sizeLine := by
          rw [reps_len ra, List.length_map]
          refine Nat.lt_of_le_of_lt (Nat.le_trans (List.length_filter_le _ _) (List.length_take_le _ _)) ?_
          have hlt : k < xs.l.length := (List.getElem?_eq_some_iff.mp hy).1
          exact Nat.lt_of_lt_of_le (Nat.lt_of_lt_of_le hlt hlen) (by decide)
        have app : ∀ (H3 : Hp) (u : V) (ys : List β), Step (mL m D) (upd H2 D (.lst [])) H3 → H3 D = some (.lst acc) → Reps X.K (mL m D).M H3 (acc ++ [u]) ys → Step (mL m D) (upd H2 D (.lst [])) (upd H3 D (.lst (acc ++ [u]))) ∧ Reps X.K (mL m D).M (upd H3 D (.lst (acc ++ [u]))) (acc ++ [u]) ys := fun H3 u ys s3 h3 r3 => by
          have s4 := mL_upd (ws := acc ++ [u]) s3.j (m.notM s2.j nD)
          exact ⟨s3.trans s4, s4.reps r3⟩
        refine ⟨wipe_one σ i w, fun s0 H0 C cl fp => ht (mLP m D acc) s0 H0 C cl fp w y H' (up st) ⟨st.j.1, hD⟩ hm ry H' (Step.refl ⟨st.j.1, hD⟩) _ fun H3 s3p => ?_⟩
        have s3 := mLP_st s3p
        cases hp : p y with
        | false =>
          refine iteF ⟨st.trans s3, acc, s3p.j.2, ?_⟩
          rw [take_one hy, List.filter_append, List.map_append]
          simp only [List.filter_cons, hp, List.filter_nil, List.map_nil, List.append_nil, Bool.false_eq_true, if_false]
          exact s3.reps ra
        | true =>
          refine iteT (fun s0 H0 C cl fp => he (mLP m D acc) s0 H0 C cl fp w y H' (up st) ⟨st.j.1, hD⟩ hm hp ry H3 s3p _ fun u H4 z s4p pz rz => ?_)
          subst pz
          have s4 := mLP_st s4p
          obtain ⟨sA, rA⟩ := app H4 u _ ((st.trans s3).trans s4) s4p.j.2 (reps_snoc (s4.reps (s3.reps ra)) rz)
          refine ⟨acc, s4p.j.2, hal, sA, acc ++ [u], upd_same, ?_⟩
          rw [take_one hy, List.filter_append, List.map_append]
          simp only [List.filter_cons, hp, List.filter_nil, List.map_cons, List.map_nil, if_true]
          exact rA
      · obtain ⟨st, acc, hD, ra⟩ := q1
        have el : xs.l.take vs.length = xs.l := List.take_of_length_le (Nat.le_of_eq (reps_len rs).symm)
        rw [el] at ra
        exact q _ H' _ (s2.trans (mL_step nD st)) rfl ⟨D, acc, rfl, ⟨m.notM s2.j nD, hD⟩, Paired.mapP ra fun _ _ z => mL_back z⟩)
theorem ev_lc1T (i : Nat) {scope : Scope} {xs : Tup α} (p : α → Bool) (f : α → β) (hi : EvD X m iter σ H xs) (hlen : xs.l.length ≤ 1000000) (ok : BlkOk X.N X.env.scope scope [(xn, i)])
    (ht : ∀ (m' : Mode) (s0 : Shared) (H0 : Hp) (C : Addr) (cl : List (Str × Addr)) (fp : List Addr) (v : V) (x : α) (H' : Hp), Up X.K m H m' H' → m'.J H' → x ∈ xs.l → rep X.K m'.M H' v x → EvT (X.blk s0 H0 scope (compEnvC scope cl C X.env) fp) m' test ((wipe σ [i]).set i (some v)) H' (p x))
    (he : ∀ (m' : Mode) (s0 : Shared) (H0 : Hp) (C : Addr) (cl : List (Str × Addr)) (fp : List Addr) (v : V) (x : α) (H' : Hp), Up X.K m H m' H' → m'.J H' → x ∈ xs.l → p x = true → rep X.K m'.M H' v x → EvD (X.blk s0 H0 scope (compEnvC scope cl C X.env) fp) m' elt ((wipe σ [i]).set i (some v)) H' (f x))
    (hN : X.N.Nodup := by first | assumption | exact FnScope.nd (by assumption)) (hc : X.calm = true := by rfl)
    (hg : ∀ (s : Shared) (H : Hp) (C : Addr) (cl : List (Str × Addr)) (fp : List Addr), PG (X.blk s H scope (compEnvC scope cl C X.env) fp) (.Name xn px) (gName i) := by first | exact fun _ _ _ _ _ => pg_name (FnScope.nd (by assumption)) rfl (Or.inl rfl) | exact fun _ _ _ _ _ => pg_name (FnScope.nd (by assumption)) rfl (Or.inr rfl))
    (hs : ∀ x, foldedSetIterable iter X.env x = pure x := by intro _; rfl) : EvD X m (.ListComp elt [⟨.Name xn px, iter, [test], 0⟩] scope pos) σ H ((xs.l.filter p).map f) := fun H1 s1 Q q =>
  we_of (pe_lc (own := [(xn, i)]) (g := gName i) (tt := blkT X scope test) (te := blkE X scope elt)
      hc hN (pi_tup pe_w) ok hg (fun s0 H0 C cl fp => pts_one ⟨fun pins s σ H Q I h => h s0 H0 C cl fp pins s I⟩) (fun s0 H0 C cl fp => ⟨fun pins s σ H Q I h => h s0 H0 C cl fp pins s I⟩) hs) (tl_lc1T i p f hi hlen ht he H1 s1 Q q)
/-- y = [elt for x in Tup α if test] -/
theorem ws_lc1T (i0 i : Nat) {scope : Scope} {xs : Tup α} {y : Str} {py p2 : Pos} (p : α → Bool) (f : α → β) (hi : EvD X m iter σ H xs) (hlen : xs.l.length ≤ 1000000) (ok : BlkOk X.N X.env.scope scope [(xn, i)])
    (ht : ∀ (m' : Mode) (s0 : Shared) (H0 : Hp) (C : Addr) (cl : List (Str × Addr)) (fp : List Addr) (v : V) (x : α) (H' : Hp), Up X.K m H m' H' → m'.J H' → x ∈ xs.l → rep X.K m'.M H' v x → EvT (X.blk s0 H0 scope (compEnvC scope cl C X.env) fp) m' test ((wipe σ [i]).set i (some v)) H' (p x))
    (he : ∀ (m' : Mode) (s0 : Shared) (H0 : Hp) (C : Addr) (cl : List (Str × Addr)) (fp : List Addr) (v : V) (x : α) (H' : Hp), Up X.K m H m' H' → m'.J H' → x ∈ xs.l → p x = true → rep X.K m'.M H' v x → EvD (X.blk s0 H0 scope (compEnvC scope cl C X.env) fp) m' elt ((wipe σ [i]).set i (some v)) H' (f x))
    (j : m.J H) (k : ∀ v H2, Step m H H2 → rep X.K m.M H2 v ((xs.l.filter p).map f) → D.nx (σ.set i0 (some v)) H2)
    (hsw : swapsWith (.ListComp elt [⟨.Name xn px, iter, [test], 0⟩] scope pos) (some (.Name y py)) p2.line X.env = pure true := by rfl) (hy : X.N[i0]? = some y := by rfl) (hyl : X.env.scope.names.lookup y = some .local := by rfl)
    (hN : X.N.Nodup := by first | assumption | exact FnScope.nd (by assumption)) (hc : X.calm = true := by rfl)
    (hg : ∀ (s : Shared) (H : Hp) (C : Addr) (cl : List (Str × Addr)) (fp : List Addr), PG (X.blk s H scope (compEnvC scope cl C X.env) fp) (.Name xn px) (gName i) := by first | exact fun _ _ _ _ _ => pg_name (FnScope.nd (by assumption)) rfl (Or.inl rfl) | exact fun _ _ _ _ _ => pg_name (FnScope.nd (by assumption)) rfl (Or.inr rfl))
    (hs : ∀ x, foldedSetIterable iter X.env x = pure x := by intro _; rfl) : WS X (.Assign [.Name y py] (.ListComp elt [⟨.Name xn px, iter, [test], 0⟩] scope pos) p2) D σ H :=
  ws_of (ps_setLc (own := [(xn, i)]) (g := gName i) (tt := blkT X scope test) (te := blkE X scope elt) hc hN hy hyl hsw
      (pi_tup pe_w) ok hg (fun s0 H0 C cl fp => pts_one ⟨fun pins s σ H Q I h => h s0 H0 C cl fp pins s I⟩) (fun s0 H0 C cl fp => ⟨fun pins s σ H Q I h => h s0 H0 C cl fp pins s I⟩) hs) (tl_lc1T i p f hi hlen ht he H (Step.refl j) _ fun v H2 x s px rx => by
    subst px
    exact k v H2 s rx)

/-- [elt for x in Tup α] -/
theorem tl_lc0T (i : Nat) {scope : Scope} {xs : Tup α} (f : α → β) (hi : EvD X m iter σ H xs) (hlen : xs.l.length ≤ 1000000)
    (he : ∀ (m' : Mode) (s0 : Shared) (H0 : Hp) (C : Addr) (cl : List (Str × Addr)) (fp : List Addr) (v : V) (x : α) (H' : Hp), Up X.K m H m' H' → m'.J H' → x ∈ xs.l → rep X.K m'.M H' v x → EvD (X.blk s0 H0 scope (compEnvC scope cl C X.env) fp) m' elt ((wipe σ [i]).set i (some v)) H' (f x)) :
    ∀ H1, Step m H H1 → ∀ Q : VK, (∀ v H2 x, Step m H1 H2 → x = (xs.l.map f) → rep X.K m.M H2 v x → Q v H2) → tLc (iTup X.K (WE X iter)) (gName i) (tYes) (blkE X scope elt) [i] σ H1 Q := fun H1 s1 Q q =>
    (hi H1 s1 _ fun v H2 x s2 pe rr => by
      have pe' := pe.symm
      subst pe'
      obtain ⟨a, vs, e, t, rs⟩ := rr
      refine ⟨a, e, ⟨vs, t.sq⟩, fun D nD => ?_⟩
      have up : ∀ {H'}, Step (mL m D) (upd H2 D (.lst [])) H' → Up X.K m H (mL m D) H' := fun st => fun r => mono st.keep (mL_rep nD ((s1.trans s2).rep r))
      have t' : TupA X.K (mL m D).M (upd H2 D (.lst [])) a vs := TupA.mono (fun b o _ h => Ex.new nD b o h) (t.shift fun b hb => hb.elim .inl fun e => .inr (e ▸ nD))
      have rs' : Reps X.K (mL m D).M (upd H2 D (.lst [])) vs xs.l := Paired.mapP rs fun _ _ z => mL_rep nD z
      refine lc_tup (xs := vs) (g := gName i) (tt := tYes) (te := blkE X scope elt) (vs := [i]) (σ := σ) (Qd := fun H => Q (.ref D) H) (fun k H' => Step (mL m D) (upd H2 D (.lst [])) H' ∧ ∃ acc, H' D = some (.lst acc) ∧ Reps X.K (mL m D).M H' acc ((xs.l.take k).map f)) ⟨Step.refl (mL_j s2.j nD), [], upd_same, .nil⟩ (fun k H' _ q => (t'.mono q.1.keep).sq) (fun k w H' hk q1 => ?_) fun H' q1 => ?_
      · obtain ⟨st, acc, hD, ra⟩ := q1
        obtain ⟨y, hy, ry⟩ := reps_back (st.reps rs') hk
        have hm : y ∈ xs.l := List.mem_of_getElem? hy
        have hal : acc.length < sizeLine := by
          rw [reps_len ra, List.length_map]
          refine Nat.lt_of_le_of_lt (List.length_take_le _ _) ?_
          have hlt : k < xs.l.length := (List.getElem?_eq_some_iff.mp hy).1
          exact Nat.lt_of_lt_of_le (Nat.lt_of_lt_of_le hlt hlen) (by decide)
        have app : ∀ (H3 : Hp) (u : V) (ys : List β), Step (mL m D) (upd H2 D (.lst [])) H3 → H3 D = some (.lst acc) → Reps X.K (mL m D).M H3 (acc ++ [u]) ys → Step (mL m D) (upd H2 D (.lst [])) (upd H3 D (.lst (acc ++ [u]))) ∧ Reps X.K (mL m D).M (upd H3 D (.lst (acc ++ [u]))) (acc ++ [u]) ys := fun H3 u ys s3 h3 r3 => by
          have s4 := mL_upd (ws := acc ++ [u]) s3.j (m.notM s2.j nD)
          exact ⟨s3.trans s4, s4.reps r3⟩
        refine ⟨wipe_one σ i w, ?_⟩
        show blkE X scope elt _ _ _
        refine fun s0 H0 C cl fp => he (mLP m D acc) s0 H0 C cl fp w y H' (up st) ⟨st.j.1, hD⟩ hm ry H' (Step.refl ⟨st.j.1, hD⟩) _ fun u H4 z s4p pz rz => ?_
        · subst pz
          have s4 := mLP_st s4p
          obtain ⟨sA, rA⟩ := app H4 u _ (st.trans s4) s4p.j.2 (reps_snoc (s4.reps ra) rz)
          refine ⟨acc, s4p.j.2, hal, sA, acc ++ [u], upd_same, ?_⟩
          rw [take_one hy, List.map_append]
          exact rA
      · obtain ⟨st, acc, hD, ra⟩ := q1
        have el : xs.l.take vs.length = xs.l := List.take_of_length_le (Nat.le_of_eq (reps_len rs).symm)
        rw [el] at ra
        exact q _ H' _ (s2.trans (mL_step nD st)) rfl ⟨D, acc, rfl, ⟨m.notM s2.j nD, hD⟩, Paired.mapP ra fun _ _ z => mL_back z⟩)
theorem ev_lc0T (i : Nat) {scope : Scope} {xs : Tup α} (f : α → β) (hi : EvD X m iter σ H xs) (hlen : xs.l.length ≤ 1000000) (ok : BlkOk X.N X.env.scope scope [(xn, i)])
    (he : ∀ (m' : Mode) (s0 : Shared) (H0 : Hp) (C : Addr) (cl : List (Str × Addr)) (fp : List Addr) (v : V) (x : α) (H' : Hp), Up X.K m H m' H' → m'.J H' → x ∈ xs.l → rep X.K m'.M H' v x → EvD (X.blk s0 H0 scope (compEnvC scope cl C X.env) fp) m' elt ((wipe σ [i]).set i (some v)) H' (f x))
    (hN : X.N.Nodup := by first | assumption | exact FnScope.nd (by assumption)) (hc : X.calm = true := by rfl)
    (hg : ∀ (s : Shared) (H : Hp) (C : Addr) (cl : List (Str × Addr)) (fp : List Addr), PG (X.blk s H scope (compEnvC scope cl C X.env) fp) (.Name xn px) (gName i) := by first | exact fun _ _ _ _ _ => pg_name (FnScope.nd (by assumption)) rfl (Or.inl rfl) | exact fun _ _ _ _ _ => pg_name (FnScope.nd (by assumption)) rfl (Or.inr rfl))
    (hs : ∀ x, foldedSetIterable iter X.env x = pure x := by intro _; rfl) : EvD X m (.ListComp elt [⟨.Name xn px, iter, [], 0⟩] scope pos) σ H (xs.l.map f) := fun H1 s1 Q q =>
  we_of (pe_lc (own := [(xn, i)]) (g := gName i) (te := blkE X scope elt)
      hc hN (pi_tup pe_w) ok hg (fun _ _ _ _ _ => pts_nil) (fun s0 H0 C cl fp => ⟨fun pins s σ H Q I h => h s0 H0 C cl fp pins s I⟩) hs) (tl_lc0T i f hi hlen he H1 s1 Q q)
/-- y = [elt for x in Tup α] -/
theorem ws_lc0T (i0 i : Nat) {scope : Scope} {xs : Tup α} {y : Str} {py p2 : Pos} (f : α → β) (hi : EvD X m iter σ H xs) (hlen : xs.l.length ≤ 1000000) (ok : BlkOk X.N X.env.scope scope [(xn, i)])
    (he : ∀ (m' : Mode) (s0 : Shared) (H0 : Hp) (C : Addr) (cl : List (Str × Addr)) (fp : List Addr) (v : V) (x : α) (H' : Hp), Up X.K m H m' H' → m'.J H' → x ∈ xs.l → rep X.K m'.M H' v x → EvD (X.blk s0 H0 scope (compEnvC scope cl C X.env) fp) m' elt ((wipe σ [i]).set i (some v)) H' (f x))
    (j : m.J H) (k : ∀ v H2, Step m H H2 → rep X.K m.M H2 v (xs.l.map f) → D.nx (σ.set i0 (some v)) H2)
    (hsw : swapsWith (.ListComp elt [⟨.Name xn px, iter, [], 0⟩] scope pos) (some (.Name y py)) p2.line X.env = pure true := by rfl) (hy : X.N[i0]? = some y := by rfl) (hyl : X.env.scope.names.lookup y = some .local := by rfl)
    (hN : X.N.Nodup := by first | assumption | exact FnScope.nd (by assumption)) (hc : X.calm = true := by rfl)
    (hg : ∀ (s : Shared) (H : Hp) (C : Addr) (cl : List (Str × Addr)) (fp : List Addr), PG (X.blk s H scope (compEnvC scope cl C X.env) fp) (.Name xn px) (gName i) := by first | exact fun _ _ _ _ _ => pg_name (FnScope.nd (by assumption)) rfl (Or.inl rfl) | exact fun _ _ _ _ _ => pg_name (FnScope.nd (by assumption)) rfl (Or.inr rfl))
    (hs : ∀ x, foldedSetIterable iter X.env x = pure x := by intro _; rfl) : WS X (.Assign [.Name y py] (.ListComp elt [⟨.Name xn px, iter, [], 0⟩] scope pos) p2) D σ H :=
  ws_of (ps_setLc (own := [(xn, i)]) (g := gName i) (te := blkE X scope elt) hc hN hy hyl hsw
      (pi_tup pe_w) ok hg (fun _ _ _ _ _ => pts_nil) (fun s0 H0 C cl fp => ⟨fun pins s σ H Q I h => h s0 H0 C cl fp pins s I⟩) hs) (tl_lc0T i f hi hlen he H (Step.refl j) _ fun v H2 x s px rx => by
    subst px
    exact k v H2 s rx)

/-- for x in Sq α -/
theorem ws_forZ (i : Nat) {xs : Sq α} (he : EvD X m iter σ H xs) (j : m.J H) (I : Nat → L2.St → Hp → Prop) (h0 : ∀ H', Step m H H' → I 0 σ H')
    (turn : ∀ (k : Nat) (x : α) (v : V) (σ' : L2.St) (H' : Hp), xs.l[k]? = some x → Step m H H' → I k σ' H' → rep X.K m.M H' v x →
      WB X body { D with nx := fun σ2 H2 => Step m H' H2 ∧ I (k + 1) σ2 H2, ct := fun σ2 H2 => Step m H' H2 ∧ I (k + 1) σ2 H2, bk := D.nx } (σ'.set i (some v)) H')
    (hend : ∀ σ' H', Step m H H' → I xs.l.length σ' H' → D.nx σ' H') (hN : X.N.Nodup := by first | assumption | exact FnScope.nd (by assumption)) (hc : X.calm = true := by rfl) (hp : PassesOwn (model X.prog X.w) X.A X.env X.xe := by exact PassesOwn.never)
    (hi : X.N[i]? = some xn := by rfl) (hx : Loc X.env.scope xn := by first | exact Or.inl rfl | exact Or.inr rfl) (hf : X.fn xn = true ∨ X.env.scope.names.lookup xn = some .local := by first | exact .inl rfl | exact .inr rfl)
    (hs : ∀ x, foldedSetIterable iter X.env x = pure x := by intro _; rfl) : WS X (.For (.Name xn px) iter body [] pos) D σ H :=
  ws_of (ps_for hp hc (pi_list pe_w) (pg_name hN hi hx hf) pss_w hs) (he H (Step.refl j) _ fun v H1 x s1 pe ⟨a, vs, e, t, rs⟩ => by
    subst pe
    refine ⟨a, e, ⟨vs, t.sq⟩, for_list (xs := vs) (fun k σ' H' => Step m H1 H' ∧ I k σ' H') ⟨Step.refl s1.j, h0 H1 s1⟩ (fun k σ' H' _ p => (t.mono p.1.keep).sq) (fun k w σ' H' hk p => ?_) fun σ' H' p => ?_⟩
    · obtain ⟨y, hy, ry⟩ := reps_back (p.1.reps rs) hk
      exact wb_mono (turn k y w σ' H' hy (s1.trans p.1) p.2 ry) (fun _ _ q => ⟨p.1.trans q.1, q.2⟩) (fun _ _ q => q) (fun _ _ q => q) fun _ _ q => ⟨p.1.trans q.1, q.2⟩
    · rw [reps_len rs] at p
      exact hend σ' H' (s1.trans p.1) p.2)

/-- [elt for x in Sq α if test] -/
theorem tl_lc1Z (i : Nat) {scope : Scope} {xs : Sq α} (p : α → Bool) (f : α → β) (hi : EvD X m iter σ H xs) (hlen : xs.l.length ≤ 1000000)
    (ht : ∀ (m' : Mode) (s0 : Shared) (H0 : Hp) (C : Addr) (cl : List (Str × Addr)) (fp : List Addr) (v : V) (x : α) (H' : Hp), Up X.K m H m' H' → m'.J H' → x ∈ xs.l → rep X.K m'.M H' v x → EvT (X.blk s0 H0 scope (compEnvC scope cl C X.env) fp) m' test ((wipe σ [i]).set i (some v)) H' (p x))
    (he : ∀ (m' : Mode) (s0 : Shared) (H0 : Hp) (C : Addr) (cl : List (Str × Addr)) (fp : List Addr) (v : V) (x : α) (H' : Hp), Up X.K m H m' H' → m'.J H' → x ∈ xs.l → p x = true → rep X.K m'.M H' v x → EvD (X.blk s0 H0 scope (compEnvC scope cl C X.env) fp) m' elt ((wipe σ [i]).set i (some v)) H' (f x)) :
    ∀ H1, Step m H H1 → ∀ Q : VK, (∀ v H2 x, Step m H1 H2 → x = ((xs.l.filter p).map f) → rep X.K m.M H2 v x → Q v H2) → tLc (iList X.K (WE X iter)) (gName i) (blkT X scope test) (blkE X scope elt) [i] σ H1 Q := fun H1 s1 Q q =>
    (hi H1 s1 _ fun v H2 x s2 pe rr => by
      have pe' := pe.symm
      subst pe'
      obtain ⟨a, vs, e, t, rs⟩ := rr
      refine ⟨a, e, ⟨vs, t.sq⟩, fun D nD => ?_⟩
      have up : ∀ {H'}, Step (mL m D) (upd H2 D (.lst [])) H' → Up X.K m H (mL m D) H' := fun st => fun r => mono st.keep (mL_rep nD ((s1.trans s2).rep r))
      have t' : SqA X.K (mL m D).M (upd H2 D (.lst [])) a vs := SqA.mono (fun b o _ h => Ex.new nD b o h) (t.shift fun b hb => hb.elim .inl fun e => .inr (e ▸ nD))
      have rs' : Reps X.K (mL m D).M (upd H2 D (.lst [])) vs xs.l := Paired.mapP rs fun _ _ z => mL_rep nD z
      refine lc_list (xs := vs) (g := gName i) (tt := blkT X scope test) (te := blkE X scope elt) (vs := [i]) (σ := σ) (Qd := fun H => Q (.ref D) H) (fun k H' => Step (mL m D) (upd H2 D (.lst [])) H' ∧ ∃ acc, H' D = some (.lst acc) ∧ Reps X.K (mL m D).M H' acc (((xs.l.take k).filter p).map f)) ⟨Step.refl (mL_j s2.j nD), [], upd_same, .nil⟩ (fun k H' _ q => (t'.mono q.1.keep).sq) (fun k w H' hk q1 => ?_) fun H' q1 => ?_
      · obtain ⟨st, acc, hD, ra⟩ := q1
        obtain ⟨y, hy, ry⟩ := reps_back (st.reps rs') hk
        have hm : y ∈ xs.l := List.mem_of_getElem? hy
        have hal : acc.length < sizeLine := by
          rw [reps_len ra, List.length_map]
          refine Nat.lt_of_le_of_lt (Nat.le_trans (List.length_filter_le _ _) (List.length_take_le _ _)) ?_
          have hlt : k < xs.l.length := (List.getElem?_eq_some_iff.mp hy).1
          exact Nat.lt_of_lt_of_le (Nat.lt_of_lt_of_le hlt hlen) (by decide)
        have app : ∀ (H3 : Hp) (u : V) (ys : List β), Step (mL m D) (upd H2 D (.lst [])) H3 → H3 D = some (.lst acc) → Reps X.K (mL m D).M H3 (acc ++ [u]) ys → Step (mL m D) (upd H2 D (.lst [])) (upd H3 D (.lst (acc ++ [u]))) ∧ Reps X.K (mL m D).M (upd H3 D (.lst (acc ++ [u]))) (acc ++ [u]) ys := fun H3 u ys s3 h3 r3 => by
          have s4 := mL_upd (ws := acc ++ [u]) s3.j (m.notM s2.j nD)
          exact ⟨s3.trans s4, s4.reps r3⟩
        refine ⟨wipe_one σ i w, fun s0 H0 C cl fp => ht (mLP m D acc) s0 H0 C cl fp w y H' (up st) ⟨st.j.1, hD⟩ hm ry H' (Step.refl ⟨st.j.1, hD⟩) _ fun H3 s3p => ?_⟩
        have s3 := mLP_st s3p
        cases hp : p y with
        | false =>
          refine iteF ⟨st.trans s3, acc, s3p.j.2, ?_⟩
          rw [take_one hy, List.filter_append, List.map_append]
          simp only [List.filter_cons, hp, List.filter_nil, List.map_nil, List.append_nil, Bool.false_eq_true, if_false]
          exact s3.reps ra
        | true =>
          refine iteT (fun s0 H0 C cl fp => he (mLP m D acc) s0 H0 C cl fp w y H' (up st) ⟨st.j.1, hD⟩ hm hp ry H3 s3p _ fun u H4 z s4p pz rz => ?_)
          subst pz
          have s4 := mLP_st s4p
          obtain ⟨sA, rA⟩ := app H4 u _ ((st.trans s3).trans s4) s4p.j.2 (reps_snoc (s4.reps (s3.reps ra)) rz)
          refine ⟨acc, s4p.j.2, hal, sA, acc ++ [u], upd_same, ?_⟩
          rw [take_one hy, List.filter_append, List.map_append]
          simp only [List.filter_cons, hp, List.filter_nil, List.map_cons, List.map_nil, if_true]
          exact rA
      · obtain ⟨st, acc, hD, ra⟩ := q1
        have el : xs.l.take vs.length = xs.l := List.take_of_length_le (Nat.le_of_eq (reps_len rs).symm)
        rw [el] at ra
        exact q _ H' _ (s2.trans (mL_step nD st)) rfl ⟨D, acc, rfl, ⟨m.notM s2.j nD, hD⟩, Paired.mapP ra fun _ _ z => mL_back z⟩)
theorem ev_lc1Z (i : Nat) {scope : Scope} {xs : Sq α} (p : α → Bool) (f : α → β) (hi : EvD X m iter σ H xs) (hlen : xs.l.length ≤ 1000000) (ok : BlkOk X.N X.env.scope scope [(xn, i)])
    (ht : ∀ (m' : Mode) (s0 : Shared) (H0 : Hp) (C : Addr) (cl : List (Str × Addr)) (fp : List Addr) (v : V) (x : α) (H' : Hp), Up X.K m H m' H' → m'.J H' → x ∈ xs.l → rep X.K m'.M H' v x → EvT (X.blk s0 H0 scope (compEnvC scope cl C X.env) fp) m' test ((wipe σ [i]).set i (some v)) H' (p x))
    (he : ∀ (m' : Mode) (s0 : Shared) (H0 : Hp) (C : Addr) (cl : List (Str × Addr)) (fp : List Addr) (v : V) (x : α) (H' : Hp), Up X.K m H m' H' → m'.J H' → x ∈ xs.l → p x = true → rep X.K m'.M H' v x → EvD (X.blk s0 H0 scope (compEnvC scope cl C X.env) fp) m' elt ((wipe σ [i]).set i (some v)) H' (f x))
    (hN : X.N.Nodup := by first | assumption | exact FnScope.nd (by assumption)) (hc : X.calm = true := by rfl)
    (hg : ∀ (s : Shared) (H : Hp) (C : Addr) (cl : List (Str × Addr)) (fp : List Addr), PG (X.blk s H scope (compEnvC scope cl C X.env) fp) (.Name xn px) (gName i) := by first | exact fun _ _ _ _ _ => pg_name (FnScope.nd (by assumption)) rfl (Or.inl rfl) | exact fun _ _ _ _ _ => pg_name (FnScope.nd (by assumption)) rfl (Or.inr rfl))
    (hs : ∀ x, foldedSetIterable iter X.env x = pure x := by intro _; rfl) : EvD X m (.ListComp elt [⟨.Name xn px, iter, [test], 0⟩] scope pos) σ H ((xs.l.filter p).map f) := fun H1 s1 Q q =>
  we_of (pe_lc (own := [(xn, i)]) (g := gName i) (tt := blkT X scope test) (te := blkE X scope elt)
      hc hN (pi_list pe_w) ok hg (fun s0 H0 C cl fp => pts_one ⟨fun pins s σ H Q I h => h s0 H0 C cl fp pins s I⟩) (fun s0 H0 C cl fp => ⟨fun pins s σ H Q I h => h s0 H0 C cl fp pins s I⟩) hs) (tl_lc1Z i p f hi hlen ht he H1 s1 Q q)
/-- y = [elt for x in Sq α if test] -/
theorem ws_lc1Z (i0 i : Nat) {scope : Scope} {xs : Sq α} {y : Str} {py p2 : Pos} (p : α → Bool) (f : α → β) (hi : EvD X m iter σ H xs) (hlen : xs.l.length ≤ 1000000) (ok : BlkOk X.N X.env.scope scope [(xn, i)])
    (ht : ∀ (m' : Mode) (s0 : Shared) (H0 : Hp) (C : Addr) (cl : List (Str × Addr)) (fp : List Addr) (v : V) (x : α) (H' : Hp), Up X.K m H m' H' → m'.J H' → x ∈ xs.l → rep X.K m'.M H' v x → EvT (X.blk s0 H0 scope (compEnvC scope cl C X.env) fp) m' test ((wipe σ [i]).set i (some v)) H' (p x))
    (he : ∀ (m' : Mode) (s0 : Shared) (H0 : Hp) (C : Addr) (cl : List (Str × Addr)) (fp : List Addr) (v : V) (x : α) (H' : Hp), Up X.K m H m' H' → m'.J H' → x ∈ xs.l → p x = true → rep X.K m'.M H' v x → EvD (X.blk s0 H0 scope (compEnvC scope cl C X.env) fp) m' elt ((wipe σ [i]).set i (some v)) H' (f x))
    (j : m.J H) (k : ∀ v H2, Step m H H2 → rep X.K m.M H2 v ((xs.l.filter p).map f) → D.nx (σ.set i0 (some v)) H2)
    (hsw : swapsWith (.ListComp elt [⟨.Name xn px, iter, [test], 0⟩] scope pos) (some (.Name y py)) p2.line X.env = pure true := by rfl) (hy : X.N[i0]? = some y := by rfl) (hyl : X.env.scope.names.lookup y = some .local := by rfl)
    (hN : X.N.Nodup := by first | assumption | exact FnScope.nd (by assumption)) (hc : X.calm = true := by rfl)
    (hg : ∀ (s : Shared) (H : Hp) (C : Addr) (cl : List (Str × Addr)) (fp : List Addr), PG (X.blk s H scope (compEnvC scope cl C X.env) fp) (.Name xn px) (gName i) := by first | exact fun _ _ _ _ _ => pg_name (FnScope.nd (by assumption)) rfl (Or.inl rfl) | exact fun _ _ _ _ _ => pg_name (FnScope.nd (by assumption)) rfl (Or.inr rfl))
    (hs : ∀ x, foldedSetIterable iter X.env x = pure x := by intro _; rfl) : WS X (.Assign [.Name y py] (.ListComp elt [⟨.Name xn px, iter, [test], 0⟩] scope pos) p2) D σ H :=
  ws_of (ps_setLc (own := [(xn, i)]) (g := gName i) (tt := blkT X scope test) (te := blkE X scope elt) hc hN hy hyl hsw
      (pi_list pe_w) ok hg (fun s0 H0 C cl fp => pts_one ⟨fun pins s σ H Q I h => h s0 H0 C cl fp pins s I⟩) (fun s0 H0 C cl fp => ⟨fun pins s σ H Q I h => h s0 H0 C cl fp pins s I⟩) hs) (tl_lc1Z i p f hi hlen ht he H (Step.refl j) _ fun v H2 x s px rx => by
    subst px
    exact k v H2 s rx)

/-- [elt for x in Sq α] -/
theorem tl_lc0Z (i : Nat) {scope : Scope} {xs : Sq α} (f : α → β) (hi : EvD X m iter σ H xs) (hlen : xs.l.length ≤ 1000000)
    (he : ∀ (m' : Mode) (s0 : Shared) (H0 : Hp) (C : Addr) (cl : List (Str × Addr)) (fp : List Addr) (v : V) (x : α) (H' : Hp), Up X.K m H m' H' → m'.J H' → x ∈ xs.l → rep X.K m'.M H' v x → EvD (X.blk s0 H0 scope (compEnvC scope cl C X.env) fp) m' elt ((wipe σ [i]).set i (some v)) H' (f x)) :
    ∀ H1, Step m H H1 → ∀ Q : VK, (∀ v H2 x, Step m H1 H2 → x = (xs.l.map f) → rep X.K m.M H2 v x → Q v H2) → tLc (iList X.K (WE X iter)) (gName i) (tYes) (blkE X scope elt) [i] σ H1 Q := fun H1 s1 Q q =>
    (hi H1 s1 _ fun v H2 x s2 pe rr => by
      have pe' := pe.symm
      subst pe'
      obtain ⟨a, vs, e, t, rs⟩ := rr
      refine ⟨a, e, ⟨vs, t.sq⟩, fun D nD => ?_⟩
      have up : ∀ {H'}, Step (mL m D) (upd H2 D (.lst [])) H' → Up X.K m H (mL m D) H' := fun st => fun r => mono st.keep (mL_rep nD ((s1.trans s2).rep r))
      have t' : SqA X.K (mL m D).M (upd H2 D (.lst [])) a vs := SqA.mono (fun b o _ h => Ex.new nD b o h) (t.shift fun b hb => hb.elim .inl fun e => .inr (e ▸ nD))
      have rs' : Reps X.K (mL m D).M (upd H2 D (.lst [])) vs xs.l := Paired.mapP rs fun _ _ z => mL_rep nD z
      refine lc_list (xs := vs) (g := gName i) (tt := tYes) (te := blkE X scope elt) (vs := [i]) (σ := σ) (Qd := fun H => Q (.ref D) H) (fun k H' => Step (mL m D) (upd H2 D (.lst [])) H' ∧ ∃ acc, H' D = some (.lst acc) ∧ Reps X.K (mL m D).M H' acc ((xs.l.take k).map f)) ⟨Step.refl (mL_j s2.j nD), [], upd_same, .nil⟩ (fun k H' _ q => (t'.mono q.1.keep).sq) (fun k w H' hk q1 => ?_) fun H' q1 => ?_
      · obtain ⟨st, acc, hD, ra⟩ := q1
        obtain ⟨y, hy, ry⟩ := reps_back (st.reps rs') hk
        have hm : y ∈ xs.l := List.mem_of_getElem? hy
        have hal : acc.length < sizeLine := by
          rw [reps_len ra, List.length_map]
          refine Nat.lt_of_le_of_lt (List.length_take_le _ _) ?_
          have hlt : k < xs.l.length := (List.getElem?_eq_some_iff.mp hy).1
          exact Nat.lt_of_lt_of_le (Nat.lt_of_lt_of_le hlt hlen) (by decide)
        have app : ∀ (H3 : Hp) (u : V) (ys : List β), Step (mL m D) (upd H2 D (.lst [])) H3 → H3 D = some (.lst acc) → Reps X.K (mL m D).M H3 (acc ++ [u]) ys → Step (mL m D) (upd H2 D (.lst [])) (upd H3 D (.lst (acc ++ [u]))) ∧ Reps X.K (mL m D).M (upd H3 D (.lst (acc ++ [u]))) (acc ++ [u]) ys := fun H3 u ys s3 h3 r3 => by
          have s4 := mL_upd (ws := acc ++ [u]) s3.j (m.notM s2.j nD)
          exact ⟨s3.trans s4, s4.reps r3⟩
        refine ⟨wipe_one σ i w, ?_⟩
        show blkE X scope elt _ _ _
        refine fun s0 H0 C cl fp => he (mLP m D acc) s0 H0 C cl fp w y H' (up st) ⟨st.j.1, hD⟩ hm ry H' (Step.refl ⟨st.j.1, hD⟩) _ fun u H4 z s4p pz rz => ?_
        · subst pz
          have s4 := mLP_st s4p
          obtain ⟨sA, rA⟩ := app H4 u _ (st.trans s4) s4p.j.2 (reps_snoc (s4.reps ra) rz)
          refine ⟨acc, s4p.j.2, hal, sA, acc ++ [u], upd_same, ?_⟩
          rw [take_one hy, List.map_append]
          exact rA
      · obtain ⟨st, acc, hD, ra⟩ := q1
        have el : xs.l.take vs.length = xs.l := List.take_of_length_le (Nat.le_of_eq (reps_len rs).symm)
        rw [el] at ra
        exact q _ H' _ (s2.trans (mL_step nD st)) rfl ⟨D, acc, rfl, ⟨m.notM s2.j nD, hD⟩, Paired.mapP ra fun _ _ z => mL_back z⟩)
theorem ev_lc0Z (i : Nat) {scope : Scope} {xs : Sq α} (f : α → β) (hi : EvD X m iter σ H xs) (hlen : xs.l.length ≤ 1000000) (ok : BlkOk X.N X.env.scope scope [(xn, i)])
    (he : ∀ (m' : Mode) (s0 : Shared) (H0 : Hp) (C : Addr) (cl : List (Str × Addr)) (fp : List Addr) (v : V) (x : α) (H' : Hp), Up X.K m H m' H' → m'.J H' → x ∈ xs.l → rep X.K m'.M H' v x → EvD (X.blk s0 H0 scope (compEnvC scope cl C X.env) fp) m' elt ((wipe σ [i]).set i (some v)) H' (f x))
    (hN : X.N.Nodup := by first | assumption | exact FnScope.nd (by assumption)) (hc : X.calm = true := by rfl)
    (hg : ∀ (s : Shared) (H : Hp) (C : Addr) (cl : List (Str × Addr)) (fp : List Addr), PG (X.blk s H scope (compEnvC scope cl C X.env) fp) (.Name xn px) (gName i) := by first | exact fun _ _ _ _ _ => pg_name (FnScope.nd (by assumption)) rfl (Or.inl rfl) | exact fun _ _ _ _ _ => pg_name (FnScope.nd (by assumption)) rfl (Or.inr rfl))
    (hs : ∀ x, foldedSetIterable iter X.env x = pure x := by intro _; rfl) : EvD X m (.ListComp elt [⟨.Name xn px, iter, [], 0⟩] scope pos) σ H (xs.l.map f) := fun H1 s1 Q q =>
  we_of (pe_lc (own := [(xn, i)]) (g := gName i) (te := blkE X scope elt)
      hc hN (pi_list pe_w) ok hg (fun _ _ _ _ _ => pts_nil) (fun s0 H0 C cl fp => ⟨fun pins s σ H Q I h => h s0 H0 C cl fp pins s I⟩) hs) (tl_lc0Z i f hi hlen he H1 s1 Q q)
/-- y = [elt for x in Sq α] -/
theorem ws_lc0Z (i0 i : Nat) {scope : Scope} {xs : Sq α} {y : Str} {py p2 : Pos} (f : α → β) (hi : EvD X m iter σ H xs) (hlen : xs.l.length ≤ 1000000) (ok : BlkOk X.N X.env.scope scope [(xn, i)])
    (he : ∀ (m' : Mode) (s0 : Shared) (H0 : Hp) (C : Addr) (cl : List (Str × Addr)) (fp : List Addr) (v : V) (x : α) (H' : Hp), Up X.K m H m' H' → m'.J H' → x ∈ xs.l → rep X.K m'.M H' v x → EvD (X.blk s0 H0 scope (compEnvC scope cl C X.env) fp) m' elt ((wipe σ [i]).set i (some v)) H' (f x))
    (j : m.J H) (k : ∀ v H2, Step m H H2 → rep X.K m.M H2 v (xs.l.map f) → D.nx (σ.set i0 (some v)) H2)
    (hsw : swapsWith (.ListComp elt [⟨.Name xn px, iter, [], 0⟩] scope pos) (some (.Name y py)) p2.line X.env = pure true := by rfl) (hy : X.N[i0]? = some y := by rfl) (hyl : X.env.scope.names.lookup y = some .local := by rfl)
    (hN : X.N.Nodup := by first | assumption | exact FnScope.nd (by assumption)) (hc : X.calm = true := by rfl)
    (hg : ∀ (s : Shared) (H : Hp) (C : Addr) (cl : List (Str × Addr)) (fp : List Addr), PG (X.blk s H scope (compEnvC scope cl C X.env) fp) (.Name xn px) (gName i) := by first | exact fun _ _ _ _ _ => pg_name (FnScope.nd (by assumption)) rfl (Or.inl rfl) | exact fun _ _ _ _ _ => pg_name (FnScope.nd (by assumption)) rfl (Or.inr rfl))
    (hs : ∀ x, foldedSetIterable iter X.env x = pure x := by intro _; rfl) : WS X (.Assign [.Name y py] (.ListComp elt [⟨.Name xn px, iter, [], 0⟩] scope pos) p2) D σ H :=
  ws_of (ps_setLc (own := [(xn, i)]) (g := gName i) (te := blkE X scope elt) hc hN hy hyl hsw
      (pi_list pe_w) ok hg (fun _ _ _ _ _ => pts_nil) (fun s0 H0 C cl fp => ⟨fun pins s σ H Q I h => h s0 H0 C cl fp pins s I⟩) hs) (tl_lc0Z i f hi hlen he H (Step.refl j) _ fun v H2 x s px rx => by
    subst px
    exact k v H2 s rx)
end
end HK
set_option Elab.async false
set_option linter.all false
set_option maxRecDepth 100000
/-! E4: while, range, lists that are popped and extended, in, max, sorted, tuple, min. -/
namespace HK
open PySem PySem.Spec PyProof.Rows L2
open Rep Arg
section
variable {X : Cx} {m : Mode} {σ : L2.St} {H : Hp} {D D' : Ends} {a b c e iter elt test : Expr} {es : List Expr} {st : Stmt} {sts body orelse : List Stmt} {pos px : Pos} {xn : Str} {α β γ δ τ : Type} [Rep α] [Rep β] [Rep γ] [Rep δ]
/-- while: the invariant I with its measure; a turn's test leaves the mode M' -/
theorem ws_while (I : Nat → L2.St → Hp → Prop) {n0 : Nat} (h0 : I n0 σ H)
    (turn : ∀ (n : Nat) (σ' : L2.St) (H' : Hp), I n σ' H' → ∃ (m : Mode) (k : Bool), m.J H' ∧ EvT X m c σ' H' k ∧
      (∀ H2, Step m H' H2 → k = true → WB X body { D with nx := fun σ3 H3 => ∃ n', n' < n ∧ I n' σ3 H3, ct := fun σ3 H3 => ∃ n', n' < n ∧ I n' σ3 H3, bk := D.nx } σ' H2) ∧ (∀ H2, Step m H' H2 → k = false → D.nx σ' H2))
    (hp : PassesOwn (model X.prog X.w) X.A X.env X.xe := by exact PassesOwn.never) : WS X (.While c body [] pos) D σ H :=
  ws_of (ps_while hp pt_w pss_w) ⟨I, ⟨n0, h0⟩, fun n σ' H' w => by
    obtain ⟨m, k, j, t, h1, h2⟩ := turn n σ' H' w
    refine t H' (Step.refl j) _ fun H2 s2 => ?_
    cases k with
    | true => exact iteT ⟨_, fun σ3 H3 q => q, h1 H2 s2 rfl⟩
    | false => exact iteF (h2 H2 s2 rfl)⟩
/-- for i in range(n) -/
theorem ws_forR (i : Nat) {n : Nat} {p2 : Pos} (ha : EvD X m a σ H (n : Int)) (hn : n ≤ 1000000) (j : m.J H) (I : Nat → L2.St → Hp → Prop) (h0 : ∀ H', Step m H H' → I 0 σ H')
    (turn : ∀ (k : Nat) (σ' : L2.St) (H' : Hp), k < n → I k σ' H' →
      WB X body { D with nx := fun σ2 H2 => I (k + 1) σ2 H2, ct := fun σ2 H2 => I (k + 1) σ2 H2, bk := D.nx } (σ'.set i (some (.int k))) H')
    (hend : ∀ σ' H', I n σ' H' → D.nx σ' H') (hm : X.mg "range" = none) (hN : X.N.Nodup := by first | assumption | exact FnScope.nd (by assumption)) (hc : X.calm = true := by rfl) (hp : PassesOwn (model X.prog X.w) X.A X.env X.xe := by exact PassesOwn.never)
    (hg : Gl X "range" := by rfl) (na : NS a := by exact fun _ _ => rfl)
    (hi : X.N[i]? = some xn := by rfl) (hx : Loc X.env.scope xn := by first | exact Or.inl rfl | exact Or.inr rfl) (hf : X.fn xn = true ∨ X.env.scope.names.lookup xn = some .local := by first | exact .inl rfl | exact .inr rfl)
    (hs : ∀ x, foldedSetIterable (.Call (.Name "range" p2) [a] [] pos) X.env x = pure x := by intro _; rfl) {p3 : Pos} : WS X (.For (.Name xn px) (.Call (.Name "range" p2) [a] [] pos) body [] p3) D σ H :=
  ws_of (ps_for hp hc (pi_range1 hg hm (pa_cons pe_w pa_nil (na _ _)) (na _ _)) (pg_name hN hi hx hf) pss_w hs) (ha H (Step.refl j) _ fun v H1 x s1 pe rr => by
    subst pe
    cases (show v = V.int (n : Int) from rr)
    refine ⟨(n : Int), rfl, by omega, by omega, ?_⟩
    rw [show ((n : Int).toNat) = n from Int.toNat_natCast n]
    refine for_range (lo := 0) (n := n) I (h0 H1 s1) (fun k σ' H' hk p => ?_) fun σ' H' p => hend σ' H' p
    rw [Int.zero_add]
    exact turn k σ' H' hk p)
/-- xs.pop(), its value dropped -/
theorem ws_pop (i : Nat) {n : Str} {np ap cp : Pos} {l : Addr} {vs : List V} {v : V} (hH : H l = some (.lst (vs ++ [v]))) (k : D.nx σ (upd H l (.lst vs)))
    (hs : σ[i]? = some (some (.ref l)) := by rfl) (hN : X.N[i]? = some n := by rfl) (hv : Vis X.env.scope n := by first | exact Or.inl rfl | exact Or.inr (Or.inl rfl) | exact Or.inr (Or.inr rfl))
    (hd : (n == ("__debug__" : Str)) = false := by decide) (hcd : (n == ("__classdict__" : Str)) = false := by decide)
    (h1 : swapsWith (.Call (.Attribute (.Name n np) "pop" ap) [] [] cp) none pos.line X.env = pure false := by rfl)
    (h3 : attributeBase (.Name n np) "pop" X.env (eval (.Name n np) X.env) = eval (.Name n np) X.env := by rfl)
    (h5 : (ap.endLine == cp.line) = true := by rfl) : WS X (.Expr (.Call (.Attribute (.Name n np) "pop" ap) [] [] cp) pos) D σ H :=
  ws_of (ps_expr (pe_bm0 PySem.F.plainAttrs_list PySem.F.slot_list_pop PySem.F.type_list_pop mt_pop (pe_var hN hv hd hcd) h3 h5) h1) ⟨.ref l, hs, .inl ⟨rfl, _, SqL.of hH⟩, l, vs ++ [v], v, rfl, rfl, hH, by simp, by
    show D.nx σ (upd H l (.lst (vs ++ [v]).dropLast))
    rw [List.dropLast_concat]
    exact k⟩
/-- x1, x2, x3, x4 = xs.pop() -/
theorem ws_pop4 (i i1 i2 i3 i4 : Nat) {n x1 x2 x3 x4 : Str} {np ap cp p1 p2 p3 p4 pt : Pos} {kt} {l : Addr} {vs : List V} {v : V} {z : T4 α β γ δ} (hH : H l = some (.lst (vs ++ [v]))) (hr : rep X.K m.M H v z) (hl : m.M l)
    (k : ∀ v1 v2 v3 v4, (∀ b o, ¬ m.M b → H b = some o → upd H l (.lst vs) b = some o) → rep X.K m.M (upd H l (.lst vs)) v1 z.a → rep X.K m.M (upd H l (.lst vs)) v2 z.b → rep X.K m.M (upd H l (.lst vs)) v3 z.c → rep X.K m.M (upd H l (.lst vs)) v4 z.d →
      D.nx ((((σ.set i1 (some v1)).set i2 (some v2)).set i3 (some v3)).set i4 (some v4)) (upd H l (.lst vs)))
    (hs : σ[i]? = some (some (.ref l)) := by rfl) (hNi : X.N[i]? = some n := by rfl) (hv : Vis X.env.scope n := by first | exact Or.inl rfl | exact Or.inr (Or.inl rfl) | exact Or.inr (Or.inr rfl))
    (hd : (n == ("__debug__" : Str)) = false := by decide) (hcd : (n == ("__classdict__" : Str)) = false := by decide)
    (hN : X.N.Nodup := by first | assumption | exact FnScope.nd (by assumption)) (hc : X.calm = true := by rfl) (h1 : X.N[i1]? = some x1 := by rfl) (h2 : X.N[i2]? = some x2 := by rfl) (h3 : X.N[i3]? = some x3 := by rfl) (h4 : X.N[i4]? = some x4 := by rfl)
    (g1 : Loc X.env.scope x1 := by first | exact Or.inl rfl | exact Or.inr rfl) (g2 : Loc X.env.scope x2 := by first | exact Or.inl rfl | exact Or.inr rfl) (g3 : Loc X.env.scope x3 := by first | exact Or.inl rfl | exact Or.inr rfl) (g4 : Loc X.env.scope x4 := by first | exact Or.inl rfl | exact Or.inr rfl)
    (f1 : X.fn x1 = true ∨ X.env.scope.names.lookup x1 = some .local := by first | exact .inl rfl | exact .inr rfl) (f2 : X.fn x2 = true ∨ X.env.scope.names.lookup x2 = some .local := by first | exact .inl rfl | exact .inr rfl)
    (f3 : X.fn x3 = true ∨ X.env.scope.names.lookup x3 = some .local := by first | exact .inl rfl | exact .inr rfl) (f4 : X.fn x4 = true ∨ X.env.scope.names.lookup x4 = some .local := by first | exact .inl rfl | exact .inr rfl)
    (q3 : attributeBase (.Name n np) "pop" X.env (eval (.Name n np) X.env) = eval (.Name n np) X.env := by rfl)
    (q5 : (ap.endLine == cp.line) = true := by rfl)
    (hss : swapsWithSole [.Tuple [.Name x1 p1, .Name x2 p2, .Name x3 p3, .Name x4 p4] kt pt] (.Call (.Attribute (.Name n np) "pop" ap) [] [] cp) pos.line X.env = pure false := by rfl) (hw : swappedStores [.Tuple [.Name x1 p1, .Name x2 p2, .Name x3 p3, .Name x4 p4] kt pt] (.Call (.Attribute (.Name n np) "pop" ap) [] [] cp) X.env = pure none := by rfl) :
    WS X (.Assign [.Tuple [.Name x1 p1, .Name x2 p2, .Name x3 p3, .Name x4 p4] kt pt] (.Call (.Attribute (.Name n np) "pop" ap) [] [] cp) pos) D σ H := by
  refine ws_of (ps_asg (pe_bm0 PySem.F.plainAttrs_list PySem.F.slot_list_pop PySem.F.type_list_pop mt_pop (pe_var hNi hv hd hcd) q3 q5) (pg_tup hc (pgs_cons (pg_name hN h1 g1 f1) (pgs_cons (pg_name hN h2 g2 f2) (pgs_cons (pg_name hN h3 g3 f3) (pgs_cons (pg_name hN h4 g4 f4) pgs_nil))))) hss hw)
    ⟨.ref l, hs, .inl ⟨rfl, _, SqL.of hH⟩, l, vs ++ [v], v, rfl, rfl, hH, by simp, ?_⟩
  rw [List.dropLast_concat]
  have kp : ∀ b o, ¬ m.M b → H b = some o → upd H l (.lst vs) b = some o := fun b o nb hb => by
    have ne : b ≠ l := fun e => by
      subst e
      exact nb hl
    exact (upd_ne ne).trans hb
  obtain ⟨p, v1, v2, v3, v4, e, t, r1, r2, r3, r4⟩ := mono kp hr
  exact ⟨p, [v1, v2, v3, v4], e, t.sq, rfl, v1, _, rfl, v2, _, rfl, v3, _, rfl, v4, [], rfl, rfl, k v1 v2 v3 v4 kp r1 r2 r3 r4⟩
/-- xs.extend([e1, e2]) -/
theorem ws_extend2 (i : Nat) {n : Str} {np ap cp lp : Pos} {l : Addr} {vs : List V} {j : m.J H} {x y : α} (hH : H l = some (.lst vs)) (hl : vs.length < 1000000) (he1 : EvD X (pin m H j) a σ H x) (he2 : EvD X (pin m H j) b σ H y)
    (k : ∀ v1 v2 H', Ex H H' → rep X.K m.M H' v1 x → rep X.K m.M H' v2 y → D.nx σ (upd H' l (.lst (vs ++ [v1, v2]))))
    (hs : σ[i]? = some (some (.ref l)) := by rfl) (hN : X.N[i]? = some n := by rfl) (hv : Vis X.env.scope n := by first | exact Or.inl rfl | exact Or.inr (Or.inl rfl) | exact Or.inr (Or.inr rfl)) (na : NS a := by exact fun _ _ => rfl) (nb : NS b := by exact fun _ _ => rfl)
    (hd : (n == ("__debug__" : Str)) = false := by decide) (hcd : (n == ("__classdict__" : Str)) = false := by decide)
    (h1 : swapsWith (.Call (.Attribute (.Name n np) "extend" ap) [.List [a, b] lp] [] cp) none pos.line X.env = pure false := by rfl)
    (h2 : (backTo cp (starEach [] X.env)).any (·.1) = false := by rfl) (h3 : attributeBase (.Name n np) "extend" X.env (eval (.Name n np) X.env) = eval (.Name n np) X.env := by rfl)
    (h4 : ((backTo cp (starEach [.List [a, b] lp] X.env)).all (fun x => !x.1) && (backToKw cp (keywordEach [] X.env)).all (fun x => x.1.isSome) && decide (([.List [a, b] lp] : List Expr).length + ([] : List Keyword).length + (if ([] : List Keyword).isEmpty then 0 else 1) < 30)) = true := by rfl)
    (h5 : (ap.endLine == cp.line) = true := by rfl) : WS X (.Expr (.Call (.Attribute (.Name n np) "extend" ap) [.List [a, b] lp] [] cp) pos) D σ H :=
  ws_of (ps_expr (pe_bm PySem.F.plainAttrs_list PySem.F.slot_list_extend PySem.F.type_list_extend mt_extend (pe_var hN hv hd hcd) (pa_cons (pe_lst (pa_cons pe_w (pa_cons pe_w pa_nil (nb _ _)) (na _ _))) pa_nil) h3 h4 h5 rfl h2) h1)
    ⟨.ref l, hs, .inl ⟨rfl, _, SqL.of hH⟩, he1 H (Step.refl (pin_j j)) _ fun v1 H1 z1 s1 p1 r1 => he2 H1 s1 _ fun v2 H2 z2 s2 p2 r2 => by
      have ex := pin_ex (s1.trans s2)
      have r1' := s2.rep r1
      subst p1
      subst p2
      refine ⟨two_le, fun p np => ?_⟩
      have hl2 : upd H2 p (.lst [v1, v2]) l = some (.lst vs) := Ex.new np _ _ (ex _ _ hH)
      refine ⟨l, p, vs, [v1, v2], rfl, rfl, hl2, upd_same, ?_, k v1 v2 _ (fun b o h => Ex.new np _ _ (ex _ _ h)) (mono (fun b o _ h => Ex.new np b o h) r1') (mono (fun b o _ h => Ex.new np b o h) r2)⟩
      show vs.length + 2 ≤ sizeLine
      have : (1000002 : Nat) ≤ sizeLine := by decide
      omega⟩

/-! ### built-ins over lists -/
theorem et_notInD [DecidableEq α] [Dat α] {k : Nat} {x : α} {xs : List α} (hr : Room (k + 1) X.A) (ha : EvD X m a σ H x) (hb : EvD X m b σ H xs) (hm : behindInMarks .NotIn b = false := by rfl) (hd : Dat.dep α ≤ 60 := by decide) : EvT X m (.Compare a [.NotIn] [b] pos) σ H (!decide (x ∈ xs)) :=
  et_cmp (op_notInD (by have := hr.un; omega)) hm ha hb fun v w x' y' H1 Q s1 px py rx ry q => by
    subst px
    subst py
    refine ⟨Dat.enc x', y'.map Dat.enc, Dat.dp rx, Dat.dp ry, shaped_of (by omega), shaped_of (α := List α) (x := y') (by show Dat.dep α + 1 ≤ 64; omega), ?_⟩
    rw [any_enc]
    exact q H1 (Step.refl s1.j)
theorem ev_max {n : Str} {p : Pos} {ns : List Int} (hm : X.mg n = none) (ha : EvD X m a σ H ns) (h0 : 0 < ns.length) (hc : X.calm = true := by rfl) (hv : bootBuiltins n = some (.builtin "max") := by decide +kernel) (hg : Gl X n := by rfl) (hn : n ≠ "__name__" := by decide) (hdb : (n == ("__debug__" : Str)) = false := by decide)
    (na : NS a := by exact fun _ _ => rfl) : Ev X m (.Call (.Name n p) [a] [] pos) σ H (fun z : Int => z ∈ ns ∧ ∀ y, y ∈ ns → y ≤ z) :=
  ev_callB (cr_max hc) hm hv (el_cons ha el_nil na) (fun vs H1 Q s1 ⟨v, ws, e1, r1, e2⟩ q => by
    subst e2; subst e1
    obtain ⟨q1, us, e, t, rs⟩ := r1
    subst e
    have ei := reps_ints rs
    subst ei
    exact ⟨q1, ns, rfl, t.sq, h0, fun z hz hle => q _ H1 z (Step.refl s1.j) ⟨hz, hle⟩ rfl⟩) hg hn hdb (na _ _)
theorem ev_min2 {n : Str} {p : Pos} {i k : Int} (hm : X.mg n = none) (ha : EvD X m a σ H i) (hb : EvD X m b σ H k) (hc : X.calm = true := by rfl) (hv : bootBuiltins n = some (.builtin "min") := by decide +kernel) (hg : Gl X n := by rfl) (hn : n ≠ "__name__" := by decide) (hdb : (n == ("__debug__" : Str)) = false := by decide)
    (na : NS a := by exact fun _ _ => rfl) (nb : NS b := by exact fun _ _ => rfl) (hpl : (backTo pos (starEach [b] X.env)).any (·.1) = false := by rfl) : EvD X m (.Call (.Name n p) [a, b] [] pos) σ H (if k < i then k else i) :=
  ev_callB (call_min2 hc) hm hv (el_cons ha (el_cons hb el_nil nb) na) (fun vs H1 Q s1 ⟨v, ws, e1, r1, w, ws2, e2, r2, e3⟩ q => by
    subst e3; subst e2; subst e1
    cases (show v = V.int i from r1)
    cases (show w = V.int k from r2)
    exact ⟨i, k, rfl, q _ H1 _ (Step.refl s1.j) rfl rfl⟩) hg hn hdb (na _ _) hpl
theorem ev_tupleOf {n : Str} {p : Pos} {xs : List α} (hm : X.mg n = none) (ha : EvD X m a σ H xs) (hv : bootBuiltins n = some (.type "tuple") := by decide +kernel) (hg : Gl X n := by rfl) (hn : n ≠ "__name__" := by decide) (hdb : (n == ("__debug__" : Str)) = false := by decide)
    (na : NS a := by exact fun _ _ => rfl) : EvD X m (.Call (.Name n p) [a] [] pos) σ H (Tup.mk xs) :=
  ev_callTy call_tuple_of hm hv (el_cons ha el_nil na) (fun vs H1 Q s1 ⟨v, ws, e1, r1, e2⟩ q => by
    subst e2; subst e1
    obtain ⟨q1, us, e, t, rs⟩ := r1
    subst e
    exact ⟨q1, us, rfl, .inl ⟨t.sq, fun l nl => by
      have s2 : Step m H1 (upd H1 l (.tup us)) := Step.new s1.j nl
      exact q _ _ _ s2 rfl ⟨l, us, rfl, .inl ⟨m.notM s1.j nl, upd_same⟩, s2.reps rs⟩⟩⟩) hg hn hdb (na _ _)
end

/-! ### sorted: items that are data of one shape -/
open PySem.W (EachIs AllAlike Sortable dataLe)
/-- a value stands for x -/
def VRep {α : Type} [Rep α] (K : PySem.W.Frag) (M : Addr → Prop) (H : Hp) (u : Value) (x : α) : Prop := ∃ v, L2.RelV v u ∧ rep K M H v x
section
variable {α : Type} [Rep α] {K : PySem.W.Frag} {M : Addr → Prop} {H : Hp}
theorem each_of : ∀ {us : List Value} {vs : List V} {xs : List α}, Vals vs us → Reps K M H vs xs → EachIs (VRep K M H) us xs
  | _, _, _, .nil, .nil => .nil
  | _, _, _, .cons r t, .cons r2 t2 => .cons ⟨_, r, r2⟩ (each_of t t2)
theorem of_each : ∀ {us : List Value} {xs : List α}, EachIs (VRep K M H) us xs → ∃ vs, Vals vs us ∧ Reps K M H vs xs
  | _, _, .nil => ⟨[], .nil, .nil⟩
  | _, _, .cons ⟨v, r, r2⟩ t => by
    obtain ⟨vs, h1, h2⟩ := of_each t
    exact ⟨v :: vs, .cons r h1, .cons r2 h2⟩
end
section
variable {X : Cx} {α : Type} [Rep α] [DecidableEq α] [Dat α]
def rSortD (X : Cx) (α : Type) [Rep α] [DecidableEq α] [Dat α] : List V → Hp → VK → Prop := fun vs H Q => ∃ (a : Addr) (us : List V) (M : Addr → Prop) (xs : List α), vs = [.ref a] ∧ SqL X.K H a us ∧ Reps X.K M H us xs ∧ xs.length ≤ 1000000 ∧
  ∀ p us', H p = none → Reps X.K M H us' (xs.mergeSort (dataLe false Dat.enc)) → Q (.ref p) (upd H p (.lst us'))
theorem cr_sortedD {k : Nat} (hr : Room k X.A) (hd : Dat.dep α ≤ 60) (hal : ∀ x y : α, PySem.W.alike (Dat.enc x) (Dat.enc y) = true) (hso : ∀ x : α, ∃ y r, Dat.enc x = PyData.tuple (y :: r)) : CallR X (.builtin "sorted") (rSortD X α) := by
  intro pins s σ H vs us Q I r h
  obtain ⟨a, ws, M, xs, rfl, hs, rs, hlen, q⟩ := h
  obtain rfl := Vals.ref1 r
  obtain ⟨its, rv, hl, hz⟩ := I.list hs
  have e1 := each_of rv rs
  have er : EachIs (fun v b => ∃ as, Reads s.heap v (Dat.enc b) as) its xs := e1.mono fun u x ⟨v, h1, h2⟩ => Dp.reads I _ v u (Dat.dp h2) h1
  have hsl : (1000000 : Nat) ≤ sizeLine := by decide
  refine PySem.W.sorted_data (enc := Dat.enc) (R := VRep X.K M H) hl.isList e1 er (PySem.W.AllAlike.of hal) (PySem.W.Sortable.tuples hso) (by omega) (fun b _ => ?_) fun out ho eo => ?_
  · have h1 := Dat.depth b
    have h2 := hr.un
    omega
  obtain ⟨us', v1, v2⟩ := of_each eo
  obtain ⟨ep, he'⟩ := PyProof.Rows.sortedAll_at s.heap its out.toArray
  have hll : us'.length ≤ sizeLine := by
    rw [reps_len v2, List.length_mergeSort]
    omega
  exact ⟨.ref _, upd H (s.heap.objs.size + 1) (.lst us'), I.laid (t' := s.toks) (fun _ _ => PyProof.Rows.sortedAll_old) (Nat.le_succ _) ⟨hll, out, ep, v1, he'⟩, rfl, q _ us' (I.hok.fresh (Nat.le_succ _)) v2⟩
theorem ev_sortedD {m : Mode} {σ : L2.St} {H : Hp} {a : Expr} {pos p : Pos} {n : Str} {k : Nat} {xs : List α} (hr : Room k X.A) (hal : ∀ x y : α, PySem.W.alike (Dat.enc x) (Dat.enc y) = true) (hso : ∀ x : α, ∃ y r, Dat.enc x = PyData.tuple (y :: r)) (hm : X.mg n = none) (ha : EvD X m a σ H xs) (hlen : xs.length ≤ 1000000)
    (hd : Dat.dep α ≤ 60 := by decide) (hv : bootBuiltins n = some (.builtin "sorted") := by decide +kernel) (hg : Gl X n := by rfl) (hn : n ≠ "__name__" := by decide) (hdb : (n == ("__debug__" : Str)) = false := by decide)
    (na : NS a := by exact fun _ _ => rfl) : EvD X m (.Call (.Name n p) [a] [] pos) σ H (xs.mergeSort (dataLe false Dat.enc)) :=
  ev_callB (cr_sortedD hr hd hal hso) hm hv (el_cons ha el_nil na) (fun vs H1 Q s1 ⟨v, ws, e1, r1, e2⟩ q => by
    subst e2; subst e1
    obtain ⟨q1, us, e, t, rs⟩ := r1
    subst e
    exact ⟨q1, us, m.M, xs, rfl, t.sq, rs, hlen, fun l us' nl rs' => by
      have s2 : Step m H1 (upd H1 l (.lst us')) := Step.new s1.j nl
      exact q _ _ _ s2 rfl ⟨l, us', rfl, ⟨m.notM s1.j nl, upd_same⟩, s2.reps rs'⟩⟩) hg hn hdb (na _ _)
end
end HK
set_option Elab.async false
set_option linter.all false
set_option maxRecDepth 100000
/-! E5: lambdas with one parameter, captured names; run; handed to a def. -/
namespace HK
open PySem PySem.Spec PyProof.Rows L2 LamX
open Rep Arg
open NdefX (NF CellsAt envF ncx startF NScope codeO_at inv_startN NTab)

/-! ### a lambda's object in a state -/
/-- the object at f is the lambda F (its code object at F.c) with this body -/
def LamAt (F : NF) (body : Expr) (f : Addr) (h : Heap) : Prop := ∃ (od : Option Addr) (sl : Array (Option Value)) (pm ctv : Value), h.get? f = some (⟨.type "function", od, .func (PySem.W.kla_fn "<lambda>" F.qual F.params body F.scope F.cl pm (.ref F.c) ctv), sl⟩ : Obj)
structure CloAt (F : NF) (body : Expr) (f : Addr) (fr : List Str) (ws : List (Option V)) (s : Shared) (H : Hp) : Prop where
  obj : LamAt F body f s.heap
  nf : H f = none
  code : H F.c = some (CodeO F.c F.qual)
  cells : CellsAt F.cl fr ws s.heap H
section
variable {F : NF} {body : Expr} {f : Addr} {fr : List Str} {ws : List (Option V)} {X : Cx} {pins : List (Addr × Obj)} {σ : L2.St} {H : Hp} {s : Shared}
theorem LamAt.un {fs : List Addr} {H H' : Hp} {h h' : Heap} (l : LamAt F body f h) (n : H f = none) (u : Un fs [] H H' h h') : LamAt F body f h' := by
  obtain ⟨od, sl, pm, ctv, e⟩ := l
  obtain ⟨sl', e'⟩ := u.any e n (by simp)
  exact ⟨od, sl', pm, ctv, e'⟩
theorem isCell_un {fs : List Addr} {H H' : Hp} {h h' : Heap} {c : Addr} {v : Option Value} (l : h.IsCell c v) (n : H c = none) (u : Un fs [] H H' h h') : h'.IsCell c v := by
  obtain ⟨o, e, d⟩ := l
  obtain ⟨sl, e'⟩ := u.any e n (by simp)
  exact ⟨_, e', d⟩
theorem CellsAt.un {fs : List Addr} {H H' : Hp} {h h' : Heap} {cl : List (Str × Addr)} (C : CellsAt cl fr ws h H) (u : Un fs [] H H' h h') : CellsAt cl fr ws h' H' := by
  refine ⟨C.len, fun y c e => ?_, C.inj, fun i y e => ?_⟩
  · obtain ⟨n, v, z⟩ := C.all y c e
    have z' := isCell_un z n u
    obtain ⟨o, ho, _⟩ := z
    exact ⟨u.free c o ho n (by simp), v, z'⟩
  · obtain ⟨c, hc, hv⟩ := C.has i y e
    refine ⟨c, hc, fun v ev => ?_⟩
    obtain ⟨w, r, z⟩ := hv v ev
    exact ⟨w, r, isCell_un z (C.all y c hc).1 u⟩
/-- it stands as it stood when the running def began -/
theorem CloAt.later {fs : List Addr} {H0 : Hp} {s0 : Shared} (C : CloAt F body f fr ws s0 H0) (u : Un fs [] H0 H s0.heap s.heap) (hc : H F.c = some (CodeO F.c F.qual)) : CloAt F body f fr ws s H := by
  obtain ⟨od, sl, pm, ctv, e⟩ := C.obj
  exact ⟨C.obj.un C.nf u, u.free f _ e C.nf (by simp), hc, CellsAt.un C.cells u⟩
theorem CloAt.fnAt (C : CloAt F body f fr ws s H) : PySem.W.FnAt f s.heap := by
  obtain ⟨od, sl, pm, ctv, e⟩ := C.obj
  exact ⟨_, od, _, sl, e⟩
end

/-! ### its body runs: a plain parameter -/
section
variable {CX : CXT} {P : Program} {w : World} {K : PySem.W.Frag} {mg : Str → Option Value} {base : Heap} {N ps fr : List Str} {F : NF} {body : Expr} {f : Addr} {A : Around} {outer : List Env} {s : Shared} {H : Hp} {E : XK} {us : List Value} {vs : List V} {ws : List (Option V)} {k : Nat} {Q : VK}
/-- the lambda's parameters bind -/
def LBinds (F : NF) (body : Expr) (ps : List Str) : Prop := ∀ (pm ctv : Value) (us : List Value), us.length = ps.length → bindArgs (PySem.W.kla_fn "<lambda>" F.qual F.params body F.scope F.cl pm (.ref F.c) ctv) ⟨us, []⟩ = pure (ps.zip us)
theorem run_lam (S : NScope N ps fr F.scope) (hb : LBinds F body ps) (C : CloAt F body f fr ws s H) (hr : Room (k + 1) A) (e0 : Env0 P w K mg base A outer s H) (r : Vals vs us) (hl : vs.length = ps.length)
    (hbody : Room k (A.deeper (envF F f s.heap.objs.size)) → WE (ncx CX P w K mg base N F f A outer s H E).nox body (startF N vs ws) H Q) : codeAny (model P w) A (.call (.ref f) ⟨us, []⟩) (CR CX outer P w H s Q E) s := by
  have lim : s.heap.NoLimit := e0.mod.nolimit.keeps fun b o e => (e0.bs b o e).1
  obtain ⟨od, sl, pm, ctv, ho⟩ := C.obj
  refine PySem.W.kla_callFunE hr.depth ho rfl S.co S.gen rfl (codeO_at e0.hok C.code) ?_
  rw [hb pm ctv us (by rw [← r.length]; exact hl)]
  refine wpAny_pure (wpAny_newFunctionEnv S.nocell (fun ⟨n, _⟩ hy => S.par n (List.of_mem_zip hy).1) (fun h₁ hns hsb => ⟨lim.fresh _ hsb, ?_⟩) S.kind)
  show codeAny _ _ (.expr body (envF F f s.heap.objs.size)) _ _
  have kp : ∀ b o, s.heap.get? b = some o → h₁.get? b = some o := fun b o e => hsb.extBut b o (Nat.ne_of_lt (Heap.lt_size e)) (Heap.get?_push_of_some _ e)
  have I : Inv (ncx CX P w K mg base N F f A outer s H E) [] (startF N vs ws) H { s with heap := h₁, toks := s.toks + (ps.zip us).length } := inv_startN S hr.hd e0 hl r C.cells hns kp
  have q := (pe_w (X := (ncx CX P w K mg base N F f A outer s H E).nox) (e := body)).nox.run [] _ (startF N vs ws) H Q I (hbody (hr.deeper _))
  refine PySem.W.kla_codeExpr (wpAny_mono q (fun v s' hq => ?_) fun e s' hq => hq)
  obtain ⟨w', H', J', rv, q⟩ := hq
  exact ⟨w', H', J'.os, J'.bare, J'.base, J'.hok, rv, q⟩

/-! ### .. a parameter that a comprehension within captures -/
abbrev envN (F : NF) (n : Str) (f L : Addr) : Env := PySem.W.envX F.qual F.scope L f (.ref F.c) ((n, L + 1) :: F.cl)
def ncxN (CX : CXT) (P : Program) (w : World) (K : PySem.W.Frag) (mg : Str → Option Value) (base : Heap) (N : List Str) (F : NF) (n : Str) (f : Addr) (A : Around) (outer : List Env) (s : Shared) (H : Hp) (E : XK) : Cx where
  prog := P
  w := w
  K := K
  mg := mg
  base := base
  A := A.deeper (envN F n f s.heap.objs.size)
  N := N
  s_0 := s
  H_0 := H
  env := envN F n f s.heap.objs.size
  outer := outer
  stack := envN F n f s.heap.objs.size :: outer
  ex := []
  calm := true
  fn := fun _ => false
  pn := []
  xe := fun e s' => wpAny (model P w) (A.deeper (envN F n f s.heap.objs.size)) (leaving (envN F n f s.heap.objs.size) e) (fun _ s'' => CX outer H s E e s'') (fun e' s'' => CX outer H s E e' s'') s'
structure CScope (N : List Str) (n : Str) (fr : List Str) (sc : Scope) : Prop where
  kind : sc.kind = .function
  co : sc.isCoroutine = false
  gen : sc.isGenerator = false
  nd : N.Nodup
  pre : N.take (1 + fr.length) = n :: fr
  par : sc.names.lookup n = some .cell
  one : ∀ y ∈ sc.names, y.2 = .cell → y.1 = n
  free : ∀ y ∈ sc.names, y.2 = .free → y.1 ∈ fr
  frk : ∀ x ∈ fr, sc.names.lookup x = some .free
  cells : ∀ (m : Nat) (cl : List (Str × Addr)), cellsFrom m sc.names cl = (n, m) :: cl
  push : ∀ h : Heap, pushCells h sc.names = h.push { cls := .type "cell", data := .cell none }
theorem look_cons {α : Type} {n y : Str} {a : α} {l : List (Str × α)} : ((n, a) :: l).lookup y = if y = n then some a else l.lookup y := by
  rw [List.lookup_cons]
  by_cases h : y = n
  · subst h
    simp
  · rw [if_neg h, beq_eq_false_iff_ne.mpr h]
theorem inv_startC {n : Str} {v : V} {u : Value} {h₁ : Heap} {tk : Nat} (S : CScope N n fr F.scope) (hd : A.handled = none) (e0 : Env0 P w K mg base A outer s H) (rv : L2.RelV v u) (C : CellsAt F.cl fr ws s.heap H) (hnc : ∀ c, F.cl.lookup n = some c → False) (hns : h₁.Ns s.heap.objs.size fun _ => none) (hcl : h₁.IsCell (s.heap.objs.size + 1) (some u))
    (kp : ∀ b o, s.heap.get? b = some o → h₁.get? b = some o) : Inv (ncxN CX P w K mg base N F n f A outer s H E) [] (startF N [v] ws) H { s with heap := h₁, toks := tk } := by
  have hpl : 1 + fr.length ≤ N.length := by
    have q := congrArg List.length S.pre
    rw [List.length_take, List.length_cons] at q
    omega
  have noA : ∀ b : Addr, b ∉ (ncxN CX P w K mg base N F n f A outer s H E).ex := fun b z => absurd (show b ∈ ([] : List Addr) from z) (by simp)
  have cellK : ∀ {c : Addr} {v : Option Value}, s.heap.IsCell c v → h₁.IsCell c v := fun {c v} ⟨o, ho, hd⟩ => ⟨o, kp _ _ ho, hd⟩
  have lc : ∀ y c, (ncxN CX P w K mg base N F n f A outer s H E).env.cells.lookup y = some c → (y = n ∧ c = s.heap.objs.size + 1) ∨ (y ≠ n ∧ F.cl.lookup y = some c) := fun y c e => by
    have e : ((n, s.heap.objs.size + 1) :: F.cl).lookup y = some c := e
    rw [look_cons] at e
    split at e
    · rename_i h; exact .inl ⟨h, (Option.some.inj e).symm⟩
    · rename_i h; exact .inr ⟨h, e⟩
  have lt : ∀ y c, F.cl.lookup y = some c → c < s.heap.objs.size := fun y c e => by
    obtain ⟨_, v, o, ho, _⟩ := C.all y c e
    exact Heap.lt_size ho
  refine ⟨⟨e0.mod, S.kind, rfl, rfl, Nat.le_refl _, fun x y c h1 h2 => ?_, fun y hy => ?_, fun y c z _ => ?_, fun _ => hd, Around.frames_deeper e0.frames, .inr ⟨rfl, rfl⟩, fun b z => absurd z (noA b), e0.bs, e0.bsz, fun b _ _ => noA b,
      fun b z => absurd z (noA b), e0.funs, e0.frf⟩,
    rfl, e0.bare, Un.kept kp, ⟨_, hns, fun i y v' e1 e2 e3 => ?_⟩, fun y c e => ?_, e0.hok.fresh (Nat.le_refl _), fun y c e => ?_, fun q hq => absurd (show q ∈ ([] : List (Addr × Obj)) ++ [] from hq) (by simp), e0.hok.kept kp, ?_⟩
  · rcases lc x c h1 with ⟨a, b⟩ | ⟨a, b⟩ <;> rcases lc y c h2 with ⟨a', b'⟩ | ⟨a', b'⟩
    · rw [a, a']
    · exact absurd (lt y c b') (by rw [b]; exact Nat.not_lt_of_lt (Nat.lt_succ_self _))
    · exact absurd (lt x c b) (by rw [b']; exact Nat.not_lt_of_lt (Nat.lt_succ_self _))
    · exact C.inj x y c b b'
  · have hy : F.scope.names.lookup y = some .cell ∨ F.scope.names.lookup y = some .free := hy
    show ∃ c, ((n, s.heap.objs.size + 1) :: F.cl).lookup y = some c
    rw [look_cons]
    by_cases h : y = n
    · rw [if_pos h]; exact ⟨_, rfl⟩
    · rw [if_neg h]
      rcases hy with hy | hy
      · exact absurd (S.one _ (PySem.mem_of_lookup hy) rfl) h
      · obtain ⟨i, hi⟩ := List.mem_iff_getElem?.mp (S.free _ (PySem.mem_of_lookup hy) rfl)
        obtain ⟨c, hc, _⟩ := C.has i y hi
        exact ⟨c, hc⟩
  · have z : false = true := z
    cases z
  · have e1 : N[i]? = some y := e1
    have clen := C.len
    unfold startF at e2
    by_cases h1 : i < 1
    · have hi : i = 0 := by omega
      subst hi
      have hq : (n :: fr)[0]? = some y := by
        rw [← S.pre, List.getElem?_take_of_lt (by omega)]
        exact e1
      have hyn : n = y := by simpa using hq
      subst hyn
      have ev : v = v' := by simpa using e2
      subst ev
      refine ⟨u, rv, .inr ⟨.inl S.par, s.heap.objs.size + 1, ?_, hcl⟩⟩
      show ((n, s.heap.objs.size + 1) :: F.cl).lookup n = some _
      rw [look_cons, if_pos rfl]
    · rw [List.getElem?_append_right (by simp; omega)] at e2
      simp only [List.length_map, List.length_cons, List.length_nil] at e2
      by_cases h2 : i < 1 + fr.length
      · have hq : (n :: fr)[i]? = some y := by
          rw [← S.pre, List.getElem?_take_of_lt (by omega)]
          exact e1
        obtain ⟨j, rfl⟩ : ∃ j, i = j + 1 := ⟨i - 1, by omega⟩
        have hq : fr[j]? = some y := by simpa using hq
        rw [List.getElem?_append_left (by omega)] at e2
        obtain ⟨c, hc, hv⟩ := C.has j y hq
        obtain ⟨u', ru, hu⟩ := hv v' (by simpa using e2)
        have hne : y ≠ n := fun z => hnc c (z ▸ hc)
        refine ⟨u', ru, .inr ⟨.inr (S.frk y (List.mem_of_getElem? hq)), c, ?_, cellK hu⟩⟩
        show ((n, s.heap.objs.size + 1) :: F.cl).lookup y = some c
        rw [look_cons, if_neg hne]
        exact hc
      · rw [List.getElem?_append_right (by omega), List.getElem?_replicate] at e2
        split at e2 <;> cases e2
  · rcases lc y c e with ⟨_, b⟩ | ⟨_, b⟩
    · rw [b]; exact ⟨_, hcl⟩
    · obtain ⟨v, z⟩ := (C.all y c b).2
      exact ⟨v, cellK z⟩
  · rcases lc y c e with ⟨_, b⟩ | ⟨_, b⟩
    · rw [b]; exact e0.hok.fresh (Nat.le_succ _)
    · exact (C.all y c b).1
  · have clen := C.len
    unfold startF
    show _ = N.length
    rw [List.length_append, List.length_append, List.length_map, List.length_replicate]
    simp only [List.length_cons, List.length_nil]
    omega
theorem run_lamC {n : Str} {v : V} {u : Value} (S : CScope N n fr F.scope) (hb : LBinds F body [n]) (C : CloAt F body f fr ws s H) (hnc : ∀ c, F.cl.lookup n = some c → False) (hr : Room (k + 1) A) (e0 : Env0 P w K mg base A outer s H) (rv : L2.RelV v u)
    (hbody : Room k (A.deeper (envN F n f s.heap.objs.size)) → WE (ncxN CX P w K mg base N F n f A outer s H E).nox body (startF N [v] ws) H Q) : codeAny (model P w) A (.call (.ref f) ⟨[u], []⟩) (CR CX outer P w H s Q E) s := by
  have lim : s.heap.NoLimit := e0.mod.nolimit.keeps fun b o e => (e0.bs b o e).1
  obtain ⟨od, sl, pm, ctv, ho⟩ := C.obj
  refine PySem.W.kla_callFunE hr.depth ho rfl S.co S.gen rfl (codeO_at e0.hok C.code) ?_
  rw [hb pm ctv [u] rfl]
  refine wpAny_pure ?_
  show wpAny _ _ (newFunctionEnv F.scope mainGlobals F.cl [(n, u)] (F.qual ++ ".<locals>.") (some f) (.ref F.c) none builtinsNs) _ _ s
  simp only [newFunctionEnv, Option.isSome_none, Bool.false_eq_true, if_false]
  refine wpAny_bind (wpAny_alloc ?_)
  refine wpAny_bind (wpAny_layCells _ (fun name kind cells => by cases hkc : kind == NameKind.cell <;> simp [hkc]) _ _ _ _ ?_)
  rw [S.cells, S.push]
  rw [show ({ s with heap := s.heap.push { cls := .type "frame", data := .dict #[] } } : Shared).heap.objs.size = s.heap.objs.size + 1 from Heap.size_push ..]
  rw [List.forIn_cons]
  have hcl0 : ((s.heap.push ({ cls := .type "frame", data := .dict #[] } : Obj)).push ({ cls := .type "cell", data := .cell none } : Obj)).IsCell (s.heap.objs.size + 1) none := by
    have q := Heap.get?_push_size (s.heap.push ({ cls := .type "frame", data := .dict #[] } : Obj)) (o := ({ cls := .type "cell", data := .cell none } : Obj)) rfl
    rw [Heap.size_push] at q
    exact ⟨_, q, rfl⟩
  have hlk : ((n, s.heap.objs.size + 1) :: F.cl).lookup n = some (s.heap.objs.size + 1) := by rw [look_cons, if_pos rfl]
  refine wpAny_bind (wpAny_bind (wpAny_bind (wpAny_storeName_cell (env := envN F n f s.heap.objs.size) (c := s.heap.objs.size + 1) S.kind S.par hlk hcl0 fun h₁ hcl hsb => wpAny_pure ?_)))
  dsimp only
  rw [List.forIn_nil]
  refine wpAny_pure (wpAny_pure ?_)
  have kp : ∀ b o, s.heap.get? b = some o → h₁.get? b = some o := fun b o e => (hsb.2 b (Nat.ne_of_lt (Nat.lt_succ_of_lt (Heap.lt_size e)))).trans (Heap.get?_push_of_some _ (Heap.get?_push_of_some _ e))
  have hns : h₁.Ns s.heap.objs.size fun _ => none := ((Heap.Ns.new s.heap (.type "frame")).push _).sameBut hsb (Nat.ne_of_lt (Nat.lt_succ_self _))
  refine ⟨lim.keeps kp, ?_⟩
  show codeAny _ _ (.expr body (envN F n f s.heap.objs.size)) _ _
  have I : Inv (ncxN CX P w K mg base N F n f A outer s H E) [] (startF N [v] ws) H { s with heap := h₁, toks := s.toks } := inv_startC S hr.hd e0 rv C.cells hnc hns hcl kp
  have q := (pe_w (X := (ncxN CX P w K mg base N F n f A outer s H E).nox) (e := body)).nox.run [] _ (startF N [v] ws) H Q I (hbody (hr.deeper _))
  refine PySem.W.kla_codeExpr (wpAny_mono q (fun v s' hq => ?_) fun e s' hq => hq)
  obtain ⟨w', H', J', rv, q⟩ := hq
  exact ⟨w', H', J'.os, J'.bare, J'.base, J'.hok, rv, q⟩
end
end HK
set_option Elab.async false
set_option linter.all false
set_option maxRecDepth 100000
/-! E6: a lambda made; handed to a def that asks it. -/
namespace HK
open PySem PySem.Spec PyProof.Rows L2 LamX
open Rep Arg
open NdefX (NF CellsAt slotAt Caps cells_of)

/-- all but the table at P stays -/
def ExP (P : Addr) (H H' : Hp) : Prop := ∀ b o, b ≠ P → H b = some o → H' b = some o
theorem TabS.other {P P2 : Addr} {q q2 : Str} {H H' : Hp} (t : TabS H P2 q2) (tP : TabS H P q) (e : ExP P H H') (n : P2 ≠ P) : TabS H' P2 q2 := by
  obtain ⟨ps, h1, h2, h3⟩ := t
  obtain ⟨qs, g1, _, _⟩ := tP
  refine ⟨ps, e _ _ n h1, h2, fun pos cv hc => ?_⟩
  obtain ⟨c, e1, e2⟩ := h3 pos cv hc
  exact ⟨c, e1, e _ _ (fun z => by rw [z, g1] at e2; exact codeO_ne _ (Option.some.inj e2).symm) e2⟩
section
variable {X : Cx} {pins : List (Addr × Obj)} {σ : L2.St} {H : Hp} {s : Shared} {c P : Addr} {params : Arguments} {body : Expr} {scope : Scope} {lpos : Pos} {fr : List Str} {js : List Nat}
/-- the words of the lambda in the running def -/
abbrev lamF (X : Cx) (params : Arguments) (scope : Scope) (c' : Addr) : NF := ⟨"<lambda>", X.env.qual ++ "<lambda>", params, [], scope, cloFrom X.env.cells scope.names [], c'⟩
/-- what stands behind the making of a lambda -/
structure Made (X : Cx) (pins : List (Addr × Obj)) (σ : L2.St) (H : Hp) (P : Addr) (params : Arguments) (body : Expr) (scope : Scope) (fr : List Str) (js : List Nat) (f c' : Addr) (H1 : Hp) (s' : Shared) : Prop where
  inv : Inv X pins σ H1 s'
  ex : ExP P H H1
  tab : TabS H1 P (X.env.qual ++ "<lambda>")
  clo : CloAt (lamF X params scope c') body f fr (js.map (slotAt σ)) s' H1
  nof : f ∉ frs X.stack
theorem lam_mk {E : Value → Shared → Prop} {Q : Value → Shared → Prop} (I : Inv X pins σ H s) (TB : TabB X.base X.mg c P) (hcode : X.env.code = .ref c) (hT : TabS H P (X.env.qual ++ "<lambda>")) (hdef : defaultsOf params X.env = ([], []))
    (hfree : ∀ y ∈ scope.names, y.2 = .free → X.env.scope.names.lookup y.1 = some .cell ∨ X.env.scope.names.lookup y.1 = some .free) (hfr : ∀ y ∈ fr, (y, NameKind.free) ∈ scope.names) (hjs : js.map (fun j => X.N[j]?) = fr.map some)
    (h : ∀ f c' H1 s', Made X pins σ H P params body scope fr js f c' H1 s' → Q (.ref f) s') : wpAny (model X.prog X.w) X.A (eval (.Lambda params body scope lpos) X.env) Q E s := by
  have hhas : ∀ y ∈ scope.names, y.2 = .free → ∃ c, X.env.cells.lookup y.1 = some c := fun y hy e => (hfree y hy e).elim (fun z => I.ok.has _ (.inl z)) fun z => I.ok.has _ (.inr z)
  obtain ⟨ps, hP, ht, ha⟩ := hT
  have fin : ∀ (f c' : Addr) (pm ctv : Value) (H1 : Hp) (s' : Shared), Inv X pins σ H1 s' → ExP P H H1 → TabS H1 P (X.env.qual ++ "<lambda>") → s'.heap.get? f = some (PySem.W.kla_obj "<lambda>" (X.env.qual ++ "<lambda>") params body scope (cloFrom X.env.cells scope.names []) pm c' ctv) → H1 f = none →
      s.heap.objs.size ≤ f → H1 c' = some (CodeO c' (X.env.qual ++ "<lambda>")) → Q (.ref f) s' := fun f c' pm ctv H1 s' I1 e1 t1 o1 n1 hf hc =>
    h f c' H1 s' ⟨I1, e1, t1, ⟨⟨none, _, pm, ctv, o1⟩, n1, hc, cells_of I1 (Caps.made I1.ok hfree hfr hjs)⟩, fun z => by
      rcases List.mem_cons.mp (I.stkSub _ z) with e | e
      · have h1 := I.lt
        rw [← e] at h1
        exact Nat.lt_irrefl _ (Nat.lt_of_lt_of_le h1 hf)
      · exact I.nofs hf e⟩
  have bP : s.heap.BuiltinsAt X.mg P := TB.bm.keeps I.bk
  have hP' : s.heap.get? P = some { cls := .none, data := .fields ps } := I.hok P _ hP
  refine PySem.W.kla_eval hdef ?_
  cases hc : codeAmong lpos ps.toList with
  | some cv =>
    obtain ⟨c', e, hco⟩ := ha lpos cv hc
    subst e
    refine PySem.W.kla_makeFunctionHit (mg := X.mg) (c := c) (P := P) (ps := ps) (closure_ok hhas) I.ok.glob (I.mod.glob.keeps I.bk) hcode (TB.code.keeps I.bk) hP' ht hc bP fun ctv h' tk hx hsz => ?_
    exact fin h'.objs.size c' _ ctv H _ (I.kept fun b o e => Heap.get?_push_of_some _ (hx b o e)) (fun b o _ e => e) ⟨ps, hP, ht, ha⟩ (Heap.get?_push_size _ rfl) (I.hok.fresh hsz) hsz hco
  | none =>
    refine PySem.W.kla_makeFunction (mg := X.mg) (c := c) (P := P) (ps := ps) (closure_ok hhas) I.ok.glob (I.mod.glob.keeps I.bk) hcode (TB.code.keeps I.bk) hP' ht hc TB.gP bP fun c' ctv h' tk hx hge hlt hrec htb => ?_
    obtain ⟨c2, oc, vs, t, e2, hoc, hd, hv⟩ := hrec
    cases e2
    have hsz : s.heap.objs.size ≤ h'.objs.size := Nat.le_trans hge (Nat.le_of_lt hlt)
    have nC : H c' = none := I.hok.fresh hge
    have eL : (ps ++ #[rawInt lpos.line, rawInt lpos.col, .ref c']).toList = ps.toList ++ [rawInt lpos.line, rawInt lpos.col, .ref c'] := by simp
    have I1 := inv_table (t' := tk) (more := #[rawInt lpos.line, rawInt lpos.col, .ref c']) (h' := h'.push (PySem.W.kla_obj "<lambda>" (X.env.qual ++ "<lambda>") params body scope (cloFrom X.env.cells scope.names []) ((X.mg "__name__").getD .none) c' ctv)) I hP
      (fun b o hb e => Heap.get?_push_of_some _ (hx b o hb e)) (Heap.get?_push_of_some _ htb) hge ⟨oc, vs, t, Heap.get?_push_of_some _ hoc, hd, hv⟩
    have hE : ExP P H (upd (upd H P (.tbl (ps ++ #[rawInt lpos.line, rawInt lpos.col, .ref c']))) c' (CodeO c' (X.env.qual ++ "<lambda>"))) := fun b o n e => by
      rw [upd_ne (ne_of_none e nC), upd_ne n]
      exact e
    refine fin h'.objs.size c' _ ctv _ _ I1 hE ⟨_, by rw [upd_ne (ne_of_none hP nC), upd_same], by rw [eL]; exact PySem.TriplesOk_snoc _ _ _ _ ht, fun p' cv hcv => ?_⟩ (Heap.get?_push_size _ rfl) ?_ hsz upd_same
    · rw [eL] at hcv
      rcases among_app _ ht hcv with z | z
      · obtain ⟨c0, e1, e2⟩ := ha p' cv z
        exact ⟨c0, e1, hE _ _ (fun q => by rw [q, hP] at e2; exact codeO_ne _ (Option.some.inj e2).symm) e2⟩
      · exact ⟨c', z, upd_same⟩
    · rw [upd_ne (Nat.ne_of_gt hlt), upd_ne (Nat.ne_of_gt (Nat.lt_of_lt_of_le (Heap.lt_size hP') hsz))]
      exact I.hok.fresh hsz
end

/-! ### a def that gets a lambda -/
section
variable {X : Cx} {σ : L2.St} {H : Hp} {Q : VK} {c P g : Addr} {fd : FuncData} {x a : Str} {st : Stmt} {Ng : List Str} {params : Arguments} {body : Expr} {scope : Scope} {lpos p pos : Pos} {fr : List Str} {js : List Nat} {k : Nat}
/-- what runs the def once the lambda f is made -/
def Gets (X : Cx) (σ : L2.St) (H : Hp) (P : Addr) (params : Arguments) (body : Expr) (scope : Scope) (fr : List Str) (js : List Nat) (k : Nat) (Ng : List Str) (x : Str) (st : Stmt) (g : Addr) (Q : VK) : Prop :=
  ∀ (pins : List (Addr × Obj)) (f c' : Addr) (H1 : Hp) (s' : Shared) (cdv : Value), Made X pins σ H P params body scope fr js f c' H1 s' → Room k (X.A.deeper (envOfC x (defScope st) s'.heap.objs.size g cdv)) →
    WB (bcx X.prog X.w X.K X.mg X.base Ng x st g cdv X.A X.stack s' H1 E0) (defBody st) { nx := fun _ H' => Q .non H', rt := Q } (L2.start Ng [.ref f]) H1
theorem run_gets {pins : List (Addr × Obj)} {f c' : Addr} {H1 : Hp} {s' : Shared} {args : Args} (Fg : Fun X.K x x st g fd) (Sg : FnScope Ng [a] (defScope st)) (hr : Room (k + 1) X.A) (hb : BindsTo s' fd args [(a, .ref f)]) (hG : Gets X σ H P params body scope fr js k Ng x st g Q) (M : Made X pins σ H P params body scope fr js f c' H1 s') :
    codeAny (model X.prog X.w) X.A (.call (.ref g) args) (fun r s2 => ∃ u, r = .ok (.ret u) ∧ EP X pins σ Q u s2) s' := by
  obtain ⟨oc, od, kV, doc, pm, an, cdv, ct, osl, rfl, lk, hcd⟩ := Fg.ex
  refine codeAny_mono (run_ofS (CX := CX0) (E := E0) (Q := Q) (ps := [a]) (us := [.ref f]) (vs := [.ref f]) lk hcd Sg hr M.inv.env0 hb (.cons rfl .nil) rfl fun hr' => ⟨_, pss_w.nox, hG pins f c' H1 s' cdv M hr'⟩) fun r s2 hq => ?_
  cases r with
  | error e => exact (show False from hq).elim
  | ok fl =>
    cases fl with
    | ret u => exact ⟨u, rfl, M.inv.after hq⟩
    | next => exact (show False from hq).elim
    | brk => exact (show False from hq).elim
    | cont => exact (show False from hq).elim
/-- x(lambda ..) -/
theorem we_lam1 (Fg : Fun X.K x x st g fd) (hg : Gl X x) (hm : X.mg x = some (.ref g)) (hb : ∀ (s : Shared) (u : Value), BindsTo s fd ⟨[u], []⟩ [(a, u)]) (Sg : FnScope Ng [a] (defScope st)) (hr : Room (k + 1) X.A) (TB : TabB X.base X.mg c P) (hcode : X.env.code = .ref c) (hT : TabS H P (X.env.qual ++ "<lambda>"))
    (hG : Gets X σ H P params body scope fr js k Ng x st g Q) (hfree : ∀ y ∈ scope.names, y.2 = .free → X.env.scope.names.lookup y.1 = some .cell ∨ X.env.scope.names.lookup y.1 = some .free) (hfr : ∀ y ∈ fr, (y, NameKind.free) ∈ scope.names) (hjs : js.map (fun j => X.N[j]?) = fr.map some := by rfl)
    (hdef : defaultsOf params X.env = ([], []) := by rfl) (hdb : (x == ("__debug__" : Str)) = false := by decide) : WE X (.Call (.Name x p) [.Lambda params body scope lpos] [] pos) σ H Q := fun pins s I => by
  refine wpAny_Call_Name_kw (ld_glob I hg hm ?_ hdb)
  refine PySem.W.callWith_K (h₀ := X.base) I.ok.mod.kin Fg.kp ?_ (by rfl) (by rfl)
  show wpAny _ _ (spliced ((false, eval (.Lambda params body scope lpos) X.env) :: backTo pos (starEach [] X.env))) _ _ s
  refine Calls.spliced_cons (lam_mk I TB hcode hT hdef hfree hfr hjs fun f c' H1 s' M => ?_)
  refine Calls.spliced_nil ⟨M.inv.kIn, ?_⟩
  refine wpAny_call (codeAny_mono (run_gets Fg Sg hr (hb _ _) hG M) fun r s2 ⟨u, e, q⟩ => ?_)
  subst e
  exact q
/-- x(a=lambda ..) -/
theorem we_lamK {kp : Pos} (Fg : Fun X.K x x st g fd) (hg : Gl X x) (hm : X.mg x = some (.ref g)) (hb : ∀ (s : Shared) (u : Value), BindsTo s fd ⟨[], [(a, u)]⟩ [(a, u)]) (Sg : FnScope Ng [a] (defScope st)) (hr : Room (k + 1) X.A) (TB : TabB X.base X.mg c P) (hcode : X.env.code = .ref c) (hT : TabS H P (X.env.qual ++ "<lambda>"))
    (hG : Gets X σ H P params body scope fr js k Ng x st g Q) (hfree : ∀ y ∈ scope.names, y.2 = .free → X.env.scope.names.lookup y.1 = some .cell ∨ X.env.scope.names.lookup y.1 = some .free) (hfr : ∀ y ∈ fr, (y, NameKind.free) ∈ scope.names) (hjs : js.map (fun j => X.N[j]?) = fr.map some := by rfl)
    (hdef : defaultsOf params X.env = ([], []) := by rfl) (hdb : (x == ("__debug__" : Str)) = false := by decide)
    (hall : (backToKw pos (keywordEach [⟨some a, .Lambda params body scope lpos, kp⟩] X.env)).all (·.1.isSome) = true := by rfl) (hks : (backToKw pos (keywordEach [⟨some a, .Lambda params body scope lpos, kp⟩] X.env)).filterMap (·.1) = [a] := by rfl)
    (hpl : ((backTo pos (starEach [] X.env)).any (·.1) || (backToKw pos (keywordEach [⟨some a, .Lambda params body scope lpos, kp⟩] X.env)).any (·.1.isNone)) = false := by rfl) : WE X (.Call (.Name x p) [] [⟨some a, .Lambda params body scope lpos, kp⟩] pos) σ H Q := fun pins s I => by
  refine wpAny_Call_Name_kw (ld_glob I hg hm ?_ hdb)
  refine PySem.W.callWith_KW0 (h₀ := X.base) I.ok.mod.kin Fg.kp hall ?_ hpl
  show wpAny _ _ (evalAll ((do let v ← eval (.Lambda params body scope lpos) X.env; standAt pos; pure v) :: (backToKw pos (keywordEach [] X.env)).map (·.2))) _ _ s
  refine wpAny_evalAll_cons (wpAny_bind (lam_mk I TB hcode hT hdef hfree hfr hjs fun f c' H1 s' M => wpAny_bind (wpAny_standAt (wpAny_pure ?_))))
  refine wpAny_evalAll_nil ⟨M.inv.kIn, ?_⟩
  rw [hks]
  refine wpAny_call (codeAny_mono (run_gets Fg Sg hr (hb _ _) hG M) fun r s2 ⟨u, e, q⟩ => ?_)
  subst e
  exact q
end

/-! ### the def that asks -/
/-- a function at f that answers: sp; told of the state s0, H0 -/
structure Asks (P : Program) (w : World) (K : PySem.W.Frag) (mg : Str → Option Value) (base : Heap) (k : Nat) (f : Addr) (sp : List V → Hp → VK → Prop) (fs : List Addr) (s0 : Shared) (H0 : Hp) : Prop where
  fn : ∀ (s : Shared) (H : Hp), Un fs [] H0 H s0.heap s.heap → PySem.W.FnAt f s.heap
  run : ∀ (A : Around) (outer : List Env) (s : Shared) (H : Hp) (us : List Value) (vs : List V) (Q : VK), Room k A → Env0 P w K mg base A outer s H → Un fs [] H0 H s0.heap s.heap → Vals vs us → sp vs H Q → codeAny (model P w) A (.call (.ref f) ⟨us, []⟩) (CR CX0 outer P w H s Q E0) s
section
variable {X : Cx} {σ : L2.St} {H : Hp} {Q : VK} {f : Addr} {k i : Nat} {x : Str} {sp : List V → Hp → VK → Prop} {e : Expr} {p pos : Pos}
theorem we_ask (Ak : Asks X.prog X.w X.K X.mg X.base k f sp X.fs X.s_0 X.H_0) (hex : X.ex = []) (hr : Room k X.A) (hs : σ[i]? = some (some (.ref f))) (ha : WA X [e] σ H fun vs H1 => sp vs H1 Q) (hN : X.N[i]? = some x := by rfl) (hv : Vis X.env.scope x := by first | exact Or.inl rfl | exact Or.inr (Or.inl rfl) | exact Or.inr (Or.inr rfl))
    (hd : (x == ("__debug__" : Str)) = false := by decide) (hcd : (x == ("__classdict__" : Str)) = false := by decide) (he : starEach [e] X.env = (false, eval e X.env) :: starEach [] X.env := by rfl) : WE X (.Call (.Name x p) [e] [] pos) σ H Q := fun pins s I => by
  refine wpAny_Call_Name_kw (thn ((pe_var (pos := p) hN hv hd hcd).run pins s σ H (fun v H1 => v = .ref f ∧ H1 = H) I ⟨.ref f, hs, rfl, rfl⟩) fun u s1 ⟨v, H1, I1, r1, q1⟩ => ?_)
  obtain ⟨ev, eH⟩ := q1
  subst ev
  rw [eH] at I1
  obtain rfl : u = Value.ref f := r1
  have un : ∀ {s2 : Shared} {H2 : Hp}, Inv X pins σ H2 s2 → Un X.fs [] X.H_0 H2 X.s_0.heap s2.heap := fun I2 => by
    have u := I2.base
    rw [hex] at u
    exact u
  refine PySem.W.callWith_F (first := []) (Ak.fn _ _ (un I1)) (thn (ha pos pins s1 I1) fun us s2 ⟨vs, H2, I2, r, q⟩ => ⟨Ak.fn _ _ (un I2), ?_⟩) he rfl
  show wpAny _ _ (call (.ref f) us) _ _ _
  refine wpAny_call (codeAny_mono (Ak.run X.A X.stack s2 H2 us vs Q hr I2.env0 (un I2) r q) fun r s' hq => ?_)
  cases r with
  | error e => exact (show False from hq).elim
  | ok fl =>
    cases fl with
    | ret u => exact I2.after hq
    | next => exact (show False from hq).elim
    | brk => exact (show False from hq).elim
    | cont => exact (show False from hq).elim
end
/-! a lambda answers (a plain parameter) -/
section
variable {P : Program} {w : World} {K : PySem.W.Frag} {mg : Str → Option Value} {base : Heap} {k : Nat} {f : Addr} {N ps fr : List Str} {F : NF} {body : Expr} {ws : List (Option V)} {fs : List Addr} {s0 : Shared} {H0 : Hp} {sp : List V → Hp → VK → Prop}
theorem asks_of (S : NdefX.NScope N ps fr F.scope) (hb : LBinds F body ps) (C : CloAt F body f fr ws s0 H0) (hsp : ∀ vs H Q, sp vs H Q → vs.length = ps.length ∧ H F.c = some (CodeO F.c F.qual))
    (hbody : ∀ (A : Around) (outer : List Env) (s : Shared) (H : Hp) (vs : List V) (Q : VK), Room k (A.deeper (NdefX.envF F f s.heap.objs.size)) → sp vs H Q → WE (NdefX.ncx CX0 P w K mg base N F f A outer s H E0).nox body (NdefX.startF N vs ws) H Q) : Asks P w K mg base (k + 1) f sp fs s0 H0 :=
  ⟨fun s H u => by
    obtain ⟨od, sl, pm, ctv, e⟩ := C.obj.un C.nf u
    exact ⟨_, od, _, sl, e⟩, fun A outer s H us vs Q hr e0 u r q =>
    run_lam S hb (C.later u (hsp _ _ _ q).2) hr e0 r (hsp _ _ _ q).1 fun hr' => hbody A outer s H vs Q hr' q⟩
theorem asks_ofC {n : Str} (S : CScope N n fr F.scope) (hb : LBinds F body [n]) (C : CloAt F body f fr ws s0 H0) (hnc : ∀ c, F.cl.lookup n = some c → False) (hsp : ∀ vs H Q, sp vs H Q → ∃ v, vs = [v] ∧ H F.c = some (CodeO F.c F.qual))
    (hbody : ∀ (A : Around) (outer : List Env) (s : Shared) (H : Hp) (v : V) (Q : VK), Room k (A.deeper (envN F n f s.heap.objs.size)) → sp [v] H Q → WE (ncxN CX0 P w K mg base N F n f A outer s H E0).nox body (NdefX.startF N [v] ws) H Q) : Asks P w K mg base (k + 1) f sp fs s0 H0 :=
  ⟨fun s H u => by
    obtain ⟨od, sl, pm, ctv, e⟩ := C.obj.un C.nf u
    exact ⟨_, od, _, sl, e⟩, fun A outer s H us vs Q hr e0 u r q => by
    obtain ⟨v, rfl, hc⟩ := hsp _ _ _ q
    cases r with
    | cons r t =>
      cases t
      exact run_lamC S hb (C.later u hc) hnc hr e0 r fun hr' => hbody A outer s H v Q hr' q⟩
end
end HK
set_option Elab.async false
set_option linter.all false
set_option maxRecDepth 100000
/-! E7: sorted(xs, key=lambda ..). -/
namespace HK
open PySem PySem.Spec PyProof.Rows L2 LamX PySem.Calls
open Rep Arg
open PySem.W (keyH_end KeepsBut EachIs AllAlike Sortable dataLe dataKind SortsAt KeyedOut keyedOut_each copyHeap copyHeap_at copyHeap_old sorted_of_sort alike hideAll)

/-- an address of our own, unknown to the frames -/
structure Fsh (X : Cx) (pins : List (Addr × Obj)) (b : Addr) : Prop where
  loc : b ≠ X.env.locals
  ab : X.s_0.heap.objs.size ≤ b
  cel : ∀ x c, X.env.cells.lookup x = some c → c ≠ b
  pin : ∀ p ∈ X.pn ++ pins, p.1 ≠ b
  nf : b ∉ frs X.stack
theorem Fsh.of {X : Cx} {pins : List (Addr × Obj)} {σ : L2.St} {H : Hp} {s : Shared} {b : Addr} (I : Inv X pins σ H s) (h : s.heap.objs.size ≤ b) : Fsh X pins b :=
  ⟨fun e => absurd (e ▸ h) (Nat.not_le_of_lt I.lt), Nat.le_trans I.sz h, fun x c e z => by
    obtain ⟨v, o, ho, _⟩ := I.cell x c e
    exact absurd (z ▸ h) (Nat.not_le_of_lt (Heap.lt_size ho)), fun p hp z => absurd (z ▸ h) (Nat.not_le_of_lt (Heap.lt_size (I.pin p hp).1)), fun z => by
    rcases List.mem_cons.mp (I.stkSub _ z) with e | e
    · exact absurd (e ▸ h) (Nat.not_le_of_lt I.lt)
    · exact I.nofs h e⟩
theorem un_same {fs : List Addr} {H H' : Hp} {g h h' : Heap} {b : Addr} (u : Un fs [] H H' g h) (n : g.get? b = none) (k : ∀ c o, c ≠ b → h.get? c = some o → h'.get? c = some o) : Un fs [] H H' g h' := by
  have ne : ∀ c o, g.get? c = some o → c ≠ b := fun c o e z => by rw [z, n] at e; cases e
  refine ⟨fun c o e n2 hf hx => k c o (ne c o e) (u.keep c o e n2 hf hx), fun c o e n2 hf hx => ?_, u.free, fun c o e hx => ?_, u.tups, u.frzs, u.tbls⟩
  · obtain ⟨sl, e1⟩ := u.slot c o e n2 hf hx
    exact ⟨sl, k c _ (ne c o e) e1⟩
  · obtain ⟨o', e1⟩ := u.there c o e hx
    exact ⟨o', k c _ (ne c o e) e1⟩
section
variable {X : Cx} {m : Mode} {pins : List (Addr × Obj)} {σ : L2.St} {H : Hp} {s : Shared} {β : Type} [Rep β] {f : Addr}
/-- the key function's calls -/
def Turns (X : Cx) (m : Mode) (pins : List (Addr × Obj)) (σ : L2.St) (H : Hp) (s : Shared) (f : Addr) (xs : List β) (key : β → P2) : Prop :=
  ∀ (x : β) (v : V) (u : Value) (s' : Shared) (H' : Hp), x ∈ xs → Inv X pins σ H' s' → Step m H H' → Un (frs X.stack) [] H H' s.heap s'.heap → L2.RelV v u → rep X.K m.M H' v x →
    codeAny (model X.prog X.w) X.A.in1.in1 (.call (.ref f) ⟨[u], []⟩) (CR CX0 X.stack X.prog X.w H' s' (fun w H'' => Step m H' H'' ∧ rep X.K m.M H'' w (key x)) E0) s'
abbrev kEnc (b : P2) : PyData := .tuple [.int b.1, .int b.2]
theorem sorted_keyI {k0 : Nat} {l : Addr} {us : List V} {vs : List Value} {xs : List β} {key : β → P2} {E : Value → Shared → Prop} {Q : Value → Shared → Prop} (I : Inv X pins σ H s) (hr : Room (k0 + 2) X.A) (jm : m.J H) (rv : Vals us vs) (rs : Reps X.K m.M H us xs) (hl : PlainL s.heap l vs.toArray) (hlen : xs.length ≤ 1000000)
    (turn : Turns X m pins σ H s f xs key)
    (h : ∀ (s' : Shared) (H' : Hp) (p : Addr) (us' : List V), Step m H H' → H' p = none → Inv X pins σ (upd H' p (.lst us')) s' → Reps X.K m.M H' us' (xs.mergeSort (dataLe false fun x => kEnc (key x))) → Q (.ref p) s') :
    wpAny (model X.prog X.w) X.A (call (.builtin "sorted") [.ref l] [(Str.ofString "key", .ref f)]) Q E s := by
  have hsl : (1000000 : Nat) ≤ sizeLine := by decide
  have hvl : vs.length = xs.length := by rw [← rv.length, reps_len rs]
  refine sorted_of_sort hl.isList (by omega) (ksk_s1 _ _) (fun _ => ksk_l1 _ _) fun E' => ?_
  rw [ksk_t1]
  -- the new list
  have hA : ∃ a, a = s.heap.objs.size + 1 := ⟨_, rfl⟩
  obtain ⟨a, ea⟩ := hA
  rw [← ea]
  have ho : (copyHeap s.heap vs).get? a = some (seqObj "list" vs.toArray 0) := by rw [ea]; exact copyHeap_at s.heap vs
  have Fa : Fsh X pins a := .of I (by rw [ea]; exact Nat.le_succ _)
  have na : H a = none := I.hok.fresh (by rw [ea]; exact Nat.le_succ _)
  have ga : s.heap.get? a = none := Heap.get?_none_of_le (by rw [ea]; exact Nat.le_succ _)
  have kc : ∀ b o, s.heap.get? b = some o → (copyHeap s.heap vs).get? b = some o := fun b o e => copyHeap_old e
  generalize copyHeap s.heap vs = g0 at ho kc ⊢
  obtain ⟨e1, ho1⟩ : ∃ e1, (g0.update a (Obj.mapSeq fun _ => (#[] : Array Value))).get? a = some (seqObj "list" #[] e1) := ⟨_, get?_update_seq ho fun _ => #[]⟩
  unfold ksk_tree
  refine wpAny_bind (listItems_at ho rfl ?_)
  refine wpAny_bind (listUpdate_at ho rfl ?_ (by rw [List.size_toArray]; omega) (Nat.zero_le _))
  refine wpAny_bind (seqEpoch_at ho1 rfl ?_)
  refine wpAny_bind (wpAny_newTuple ?_ (by show vs.length ≤ _; omega))
  refine wpAny_bind (wpAny_newList ?_ (Nat.zero_le _))
  refine wpAny_holding ?_
  dsimp only
  have s0 := Heap.SameBut.update g0 a (Obj.mapSeq fun _ => (#[] : Array Value))
  have kn : ∀ b o, s.heap.get? b = some o → (g0.update a (Obj.mapSeq fun _ => (#[] : Array Value))).get? b = some o := fun b o e => (s0.2 b (fun z => by rw [z, ga] at e; cases e)).trans (kc b o e)
  have hsz0 : s.heap.objs.size ≤ (g0.update a (Obj.mapSeq fun _ => (#[] : Array Value))).objs.size := by
    have hlt := Heap.lt_size ho1
    have hle : s.heap.objs.size ≤ a := by rw [ea]; exact Nat.le_succ _
    exact Nat.le_of_lt (Nat.lt_of_le_of_lt hle hlt)
  generalize g0.update a (Obj.mapSeq fun _ => (#[] : Array Value)) = g1 at ho1 kn hsz0 ⊢
  have hk2 : ∃ kS, kS = (g1.push (seqObj "tuple" vs.toArray 0)).objs.size := ⟨_, rfl⟩
  obtain ⟨kS, ek⟩ := hk2
  rw [← ek]
  have ksz : s.heap.objs.size ≤ kS := by rw [ek, Heap.size_push]; omega
  have Fk : Fsh X pins kS := .of I ksz
  have nk : H kS = none := I.hok.fresh ksz
  have gk : s.heap.get? kS = none := Heap.get?_none_of_le ksz
  have hka : kS ≠ a := by
    have hlt := Heap.lt_size ho1
    rw [ek, Heap.size_push]
    exact Nat.ne_of_gt (Nat.lt_succ_of_lt hlt)
  have ok : ((g1.push (seqObj "tuple" vs.toArray 0)).push (seqObj "list" #[] 0)).get? kS = some (seqObj "list" #[] 0) := by rw [ek]; exact Heap.get?_push_size _ rfl
  have oa : ((g1.push (seqObj "tuple" vs.toArray 0)).push (seqObj "list" #[] 0)).get? a = some (seqObj "list" #[] e1) := Heap.get?_push_of_some _ (Heap.get?_push_of_some _ ho1)
  have kn2 : ∀ b o, s.heap.get? b = some o → ((g1.push (seqObj "tuple" vs.toArray 0)).push (seqObj "list" #[] 0)).get? b = some o := fun b o e => Heap.get?_push_of_some _ (Heap.get?_push_of_some _ (kn b o e))
  generalize (g1.push (seqObj "tuple" vs.toArray 0)).push (seqObj "list" #[] 0) = g2 at ok oa kn2 ⊢
  have I2 : Inv X pins σ H { s with heap := g2 } := I.kept (t' := s.toks) kn2
  have U2 : Un (frs X.stack) [] H H s.heap g2 := Un.kept kn2
  -- the keys
  unfold ksk_rest
  refine wpAny_bind (wpAny_rule ?_)
  first
    | rw [List.forIn_toArray]
    | (rw [← Array.forIn_toList]; simp only [List.toList_toArray])
    | rw [← Array.forIn_toList]
  refine wpAny_bind (ksk_fold (fun i s' => ∃ (H' : Hp) (kA : Array Value) (e : Nat) (ws : List V), Inv X pins σ H' s' ∧ Step m H H' ∧ Un (frs X.stack) [] H H' s.heap s'.heap ∧ s'.heap.get? kS = some (seqObj "list" kA e) ∧ s'.heap.get? a = some (seqObj "list" #[] e1) ∧ H' kS = none ∧ H' a = none ∧ Vals ws kA.toList ∧ Reps X.K m.M H' ws ((xs.take i).map key)) vs 0 _
    ⟨H, #[], 0, [], I2, Step.refl jm, U2, ok, oa, nk, na, .nil, by rw [List.take_zero]; exact .nil⟩ ?step ?done)
  case step =>
    rintro j u s' hu ⟨H', kA, e, ws, J, st, U, ok', oa', nk', na', r1, r2⟩
    simp only [Nat.zero_add] at r2 ⊢
    have hj : j < vs.length := (List.getElem?_eq_some_iff.mp hu).1
    obtain ⟨v, hv, rvu⟩ : ∃ v, us[j]? = some v ∧ L2.RelV v u := by
      obtain ⟨v, hv⟩ : ∃ v, us[j]? = some v := ⟨_, List.getElem?_eq_getElem (by rw [rv.length]; exact hj)⟩
      obtain ⟨u', hu', q⟩ := rv.get hv
      rw [hu] at hu'
      cases hu'
      exact ⟨v, hv, q⟩
    obtain ⟨x, hx, rx⟩ := reps_back (st.reps rs) hv
    refine wpAny_bind (wpAny_attempt (wpAny_call (codeAny_mono (turn x v u s' H' (List.mem_of_getElem? hx) J st U rvu rx) fun r s'' hq => ?_)))
    cases r with
    | error e => exact (show False from hq).elim
    | ok fl =>
      cases fl with
      | next => exact (show False from hq).elim
      | brk => exact (show False from hq).elim
      | cont => exact (show False from hq).elim
      | ret u2 =>
        have hce : CE X.stack X.prog X.w H' s' _ u2 s'' := hq
        have hce2 := hce
        obtain ⟨w, H'', os, bare, un, hok, rw2, st2, rk⟩ := hce
        have J2 : Inv X pins σ H'' s'' := by
          obtain ⟨hh, g, d, t, os'⟩ := s''
          obtain rfl : os' = s'.os := os
          exact J.call (h' := hh) (g' := g) (d' := d) (t' := t) (ch := []) un hok bare fun b z => absurd z (by simp)
        have ok2 := un.keep kS _ ok' nk' Fk.nf (by simp)
        have oa2 := un.keep a _ oa' na' Fa.nf (by simp)
        have nk2 := un.free kS _ ok' nk' (by simp)
        have na2 := un.free a _ oa' na' (by simp)
        have hkz : kA.size = j := by
          have q1 : ws.length = kA.size := (Paired.length r1).trans Array.length_toList
          have q2 := reps_len r2
          rw [List.length_map, List.length_take] at q2
          omega
        dsimp only
        have s1 := Heap.SameBut.update s''.heap kS (Obj.mapSeq (·.push u2))
        obtain ⟨c2, hc2⟩ : ∃ c2, (s''.heap.update kS (Obj.mapSeq (·.push u2))).get? kS = some (seqObj "list" (kA.push u2) c2) := ⟨_, get?_update_seq ok2 (·.push u2)⟩
        refine wpAny_bind (listUpdate_at ok2 rfl ?_ (by omega) (by rw [Array.size_push]; omega))
        have kk : ∀ b o, b ≠ kS → s''.heap.get? b = some o → (s''.heap.update kS (Obj.mapSeq (·.push u2))).get? b = some o := fun b o hb e => (s1.2 b hb).trans e
        have J3 : Inv X pins σ H'' { s'' with heap := s''.heap.update kS (Obj.mapSeq (·.push u2)) } := J2.turned (t' := s''.toks) kk nk2 Fk.loc (.inr Fk.ab) Fk.cel Fk.pin
        refine wpAny_pure ⟨rfl, H'', kA.push u2, c2, ws ++ [w], J3, st.trans st2, un_same (U.trans un) gk kk, hc2, kk _ _ hka.symm oa2, nk2, na2, ?_, ?_⟩
        · rw [Array.toList_push]
          exact r1.append (.cons rw2 .nil)
        · rw [take_one hx, List.map_append]
          exact reps_snoc (st2.reps r2) rk
  case done =>
    rintro s' ⟨H', kA, e, ws, J, st, U, ok', oa', nk', na', r1, r2⟩
    have e3 : xs.take (0 + vs.length) = xs := List.take_of_length_le (by omega)
    rw [e3] at r2
    have hks : kA.size = vs.length := by
      have q1 : ws.length = kA.size := (Paired.length r1).trans Array.length_toList
      have q2 := reps_len r2
      rw [List.length_map] at q2
      omega
    refine wpAny_bind (listItems_at ok' rfl ?_)
    have hk' : EachIs (fun v k => ∃ as, Reads s'.heap v k as) kA.toList (xs.map fun x => kEnc (key x)) := by
      have go : ∀ {us2 : List Value} {vs2 : List V} {ps : List P2}, Vals vs2 us2 → Reps X.K m.M H' vs2 ps → EachIs (fun v k => ∃ as, Reads s'.heap v k as) us2 (ps.map kEnc) := by
        intro us2 vs2 ps r
        induction r generalizing ps with
        | nil => intro q; cases q; exact .nil
        | cons r t ih =>
          intro q
          cases q with
          | cons q q2 => exact .cons (Dp.reads J _ _ _ (Dat.dp (α := P2) q) r) (ih q2)
      have z := go r1 r2
      rw [List.map_map] at z
      exact z
    have hal : AllAlike (xs.map fun x => kEnc (key x)) := AllAlike.of (enc := fun x => kEnc (key x)) fun _ _ => by simp [alike, PySem.W.alikeAll, kEnc]
    have hso : Sortable (xs.map fun x => kEnc (key x)) := Sortable.tuples (enc := fun x => kEnc (key x)) fun _ => ⟨_, _, rfl⟩
    have S : SortsAt X.prog X.w X.A.in1.in1 s' (dataKind s'.heap (xs.map fun x => kEnc (key x))) kA.toList := SortsAt.data hk' hal hso fun d hd => by
      obtain ⟨x, _, rfl⟩ := List.mem_map.mp hd
      have h2 := hr.un
      show X.A.units + 1 + 1 + (kEnc (key x)).depth < cLine
      have : (kEnc (key x)).depth = 1 := by simp [kEnc, PyData.depth, PyData.depthAll]
      omega
    refine keyH_end (h₁ := hideAll s'.heap [kS]) (fun b o hb q => PySem.W.of_hideAll _ q) (PySem.W.hideAll_none _ (by simp)) ok' oa' hka S hks (by omega) fun h3 tk3 c k3 n3 => ⟨rfl, ?_⟩
    have ko : KeyedOut false (xs.map fun x => kEnc (key x)) vs (PySem.W.sortVals (dataKind s'.heap (xs.map fun x => kEnc (key x))) false kA.toList vs) := ⟨s'.heap, kA.toList, hal, rfl, hk'⟩
    have eo := keyedOut_each (fun x => kEnc (key x)) ko (each_of rv (st.reps rs))
    obtain ⟨us', v1, v2⟩ := of_each eo
    have kk : ∀ b o, b ≠ kS → b ≠ a → s'.heap.get? b = some o → h3.get? b = some o := fun b o h1 h2 q => k3 b o h2 (PySem.W.hideAll_get _ q (by simpa using h1))
    refine h _ H' a us' st na' ?_ v2
    have hll : us'.length ≤ sizeLine := by
      rw [reps_len v2, List.length_mergeSort]
      omega
    have ntr : ∀ b o, H' b = some o → b ≠ kS ∧ b ≠ a := fun b o q => ⟨fun z => (by rw [z, nk'] at q; cases q), fun z => (by rw [z, na'] at q; cases q)⟩
    have up : ∀ b o, H' b = some o → upd H' a (.lst us') b = some o := fun b o q => by rw [upd_ne (ntr b o q).2]; exact q
    refine J.step (g' := s'.gens) (d' := s'.drawn) (t' := tk3) (ch := [kS, a]) (fun b hb => ?_) (fun b o _ _ hc e2 _ => kk b o (fun z => hc (by simp [z])) (fun z => hc (by simp [z])) e2) (fun b o _ _ hc e2 _ => ⟨o.slots, kk b o (fun z => hc (by simp [z])) (fun z => hc (by simp [z])) e2⟩)
      (fun b o hc _ n => by rw [upd_ne fun z => hc (by simp [z])]; exact n) (fun b o hc e2 => ⟨o, kk b o (fun z => hc (by simp [z])) (fun z => hc (by simp [z])) e2⟩) (fun b ys q => up b _ q) (fun b o u q => up b _ q) (fun b ps q => ⟨#[], by rw [up b _ q]; simp⟩) (fun m2 hm => ?_) (fun b u q => ?_) J.bare
    · rcases List.mem_cons.mp hb with rfl | hb
      · exact ⟨.inr Fk.ab, Fk.loc, Fk.cel, Fk.pin⟩
      · have : b = a := by simpa using hb
        subst this
        exact ⟨.inr Fa.ab, Fa.loc, Fa.cel, Fa.pin⟩
    · obtain ⟨o, es, ep, ho', r'⟩ := hm
      exact ⟨o, es, ep, kk _ o Fk.loc.symm Fa.loc.symm ho', r'⟩
    · by_cases hb : b = a
      · subst hb
        rw [upd_same] at q
        cases q
        exact ⟨hll, _, c, v1, n3⟩
      · rw [upd_ne hb] at q
        refine (J.hok b u q).stay (fun c2 w hc2 q2 => kk c2 w ?_ ?_ q2) (fun c2 q2 => up c2 _ q2) fun c2 ys q2 => up c2 _ q2
        · rcases hc2 with rfl | hc2
          · exact (ntr _ _ q).1
          · exact (ntr _ _ hc2).1
        · rcases hc2 with rfl | hc2
          · exact (ntr _ _ q).2
          · exact (ntr _ _ hc2).2
end
end HK
set_option Elab.async false
set_option linter.all false
set_option maxRecDepth 100000
/-! E8: sorted(xs, key=lambda ..) as an expression; modes with a table of code objects; defs that write their table. -/
namespace HK
open PySem PySem.Spec PyProof.Rows L2 LamX PySem.Calls
open Rep Arg
open NdefX (NF CellsAt slotAt Caps cells_of startF ncx NScope envF)
open PySem.W (dataLe)
/-- the table at P may grow -/
structure HasTab (m : Mode) (P : Addr) (q : Str) : Prop where
  mem : m.M P
  tab : ∀ H, m.J H → TabS H P q
  upd : ∀ H H', m.J H → ExP P H H' → TabS H' P q → m.J H'
  nc : ∀ H c r, m.J H → H c = some (CodeO c r) → ¬ m.M c
theorem HasTab.step {m : Mode} {P : Addr} {q : Str} (t : HasTab m P q) {H H' : Hp} (j : m.J H) (e : ExP P H H') (t' : TabS H' P q) : Step m H H' :=
  ⟨fun b o n h => e b o (fun z => n (z ▸ t.mem)) h, t.upd H H' j e t'⟩
section
variable {X : Cx} {m : Mode} {σ : L2.St} {H : Hp} {β : Type} [Rep β] {c P : Addr} {params : Arguments} {body iter : Expr} {scope : Scope} {lpos p pos kp : Pos} {fr N : List Str} {js : List Nat} {k : Nat} {n x : Str}
theorem ev_sortedLam {xs : List β} {key : β → P2} (ha : EvD X m iter σ H xs) (hlen : xs.length ≤ 1000000) (hT : HasTab m P (X.env.qual ++ "<lambda>")) (TB : TabB X.base X.mg c P) (hcode : X.env.code = .ref c) (hr : Room (k + 3) X.A) (S : NScope N [n] fr scope)
    (hfree : ∀ y ∈ scope.names, y.2 = .free → X.env.scope.names.lookup y.1 = some .cell ∨ X.env.scope.names.lookup y.1 = some .free) (hfr : ∀ y ∈ fr, (y, NameKind.free) ∈ scope.names)
    (hb : ∀ c', LBinds (lamF X params scope c') body [n])
    (hbody : ∀ (A : Around) (outer : List Env) (s' : Shared) (H' : Hp) (f c' : Addr) (v : V) (x : β), Room k (A.deeper (envF (lamF X params scope c') f s'.heap.objs.size)) → Step m H H' → x ∈ xs → rep X.K m.M H' v x →
      EvD (ncx CX0 X.prog X.w X.K X.mg X.base N (lamF X params scope c') f A outer s' H' E0).nox m body (startF N [v] (js.map (slotAt σ))) H' (key x))
    (hm : X.mg "sorted" = none) (hjs : js.map (fun j => X.N[j]?) = fr.map some := by rfl) (hdef : defaultsOf params X.env = ([], []) := by rfl) (hg : Gl X "sorted" := by rfl) (hv : bootBuiltins "sorted" = some (.builtin "sorted") := by decide +kernel) (na : NS iter := by exact fun _ _ => rfl)
    (he : backTo pos (starEach [iter] X.env) = (false, eval iter X.env) :: backTo pos (starEach [] X.env) := by rfl) (hpl : (backTo pos (starEach [iter] X.env)).any (·.1) = false := by rfl)
    (hall : (backToKw pos (keywordEach [⟨some "key", .Lambda params body scope lpos, kp⟩] X.env)).all (·.1.isSome) = true := by rfl) (hnone : (backToKw pos (keywordEach [⟨some "key", .Lambda params body scope lpos, kp⟩] X.env)).any (·.1.isNone) = false := by rfl)
    (hks : (backToKw pos (keywordEach [⟨some "key", .Lambda params body scope lpos, kp⟩] X.env)).filterMap (·.1) = [Str.ofString "key"] := by rfl) :
    EvD X m (.Call (.Name "sorted" p) [iter] [⟨some "key", .Lambda params body scope lpos, kp⟩] pos) σ H (xs.mergeSort (dataLe false fun x => kEnc (key x))) := fun H1 s1 Q q pins s I => by
  refine wpAny_Call_Name_kw (ld_blt I hg hm hv ?_ (by decide) (by decide))
  refine PyProof.Rows.callWith_kw ?_ he hpl hall hnone
  refine thn ((el_cons ha el_nil na) H1 s1 (fun vs H2 => Step m H1 H2 ∧ ∃ v, vs = [v] ∧ rep X.K m.M H2 v xs) (fun vs H2 s2 ⟨v, ws, e, r, e2⟩ => ⟨s2, v, by rw [e, show ws = [] from e2], r⟩) pos pins s I) fun us sB ⟨vs, H2, I2, rv, s2, v, ev, r⟩ => ?_
  subst ev
  obtain ⟨l, xsV, el, hl, rs⟩ := r
  subst el
  obtain rfl := Vals.ref1 rv
  show wpAny _ _ (evalAll ((do let v ← eval (.Lambda params body scope lpos) X.env; standAt pos; pure v) :: (backToKw pos (keywordEach [] X.env)).map (·.2))) _ _ sB
  refine wpAny_evalAll_cons (wpAny_bind (lam_mk (fr := fr) (js := js) I2 TB hcode (hT.tab _ s2.j) hdef hfree hfr hjs fun f c' H3 sC M => wpAny_bind (wpAny_standAt (wpAny_pure ?_))))
  refine wpAny_evalAll_nil ?_
  rw [hks]
  have s3 : Step m H2 H3 := hT.step s2.j M.ex M.tab
  have nM : ¬ m.M c' := hT.nc _ _ _ s3.j M.clo.code
  obtain ⟨its, rvs, pl, hz⟩ := M.inv.list (hl.mono s3.keep).sq
  refine sorted_keyI (xs := xs) (key := key) (m := m) (k0 := k + 1) M.inv hr s3.j rvs (s3.reps rs) pl hlen (fun x v u s' H' hx J st U ru rx => ?_) fun s' H' p us' st np J r' => ?_
  · have e0 := J.env0.in1.in1
    have hcode' : H' c' = some (CodeO c' (lamF X params scope c').qual) := st.keep _ _ nM M.clo.code
    have C := M.clo.later (s := s') U hcode'
    exact run_lam (ps := [n]) S (hb c') C hr.in1.in1 e0 (.cons ru .nil) rfl fun hr' => hbody X.A.in1.in1 X.stack s' H' f c' v x hr' ((s1.trans (s2.trans s3)).trans st) hx rx H' (Step.refl st.j) _ fun w H'' z s4 pz rz => by
      subst pz
      exact ⟨s4, rz⟩
  · have s5 : Step m H' (upd H' p (.lst us')) := Step.new st.j np
    exact ⟨V.ref p, _, J, rfl, q (.ref p) _ _ ((s2.trans (s3.trans st)).trans s5) rfl ⟨p, us', rfl, ⟨m.notM st.j np, upd_same⟩, s5.reps r'⟩⟩
end

/-! ### the promise of a def that writes its table -/
section
/-- the arguments' mode: M fixed but for the table at P -/
def mQ (M : Addr → Prop) (P : Addr) (q : Str) (H0 : Hp) (hl : ∀ b, M b → H0 b ≠ none) (h0 : TabS H0 P q) : Mode := ⟨M, fun H => TabS H P q ∧ ∀ b o, M b → b ≠ P → H0 b = some o → H b = some o,
  fun e ⟨t, j⟩ => ⟨t.ext e, fun b o hm n h => e b o (j b o hm n h)⟩, fun {H a} ⟨t, j⟩ hm z => by
    by_cases h : a = P
    · subst h
      obtain ⟨ps, h1, _⟩ := t
      rw [h1] at z
      cases z
    · cases e : H0 a with
      | none => exact hl a hm e
      | some o =>
        rw [j a o hm h e] at z
        exact (nomatch z), fun {H a vs ws} n e ⟨t, j⟩ => ⟨by
    obtain ⟨ps, h1, h2, h3⟩ := t
    have na : ∀ b o, H b = some o → (∀ vs, o ≠ .lst vs) → upd H a (.lst ws) b = some o := fun b o hb ho => by
      rw [upd_ne fun z => ho vs (Option.some.inj (by rw [← hb, z, e]))]
      exact hb
    refine ⟨ps, na _ _ h1 (fun _ z => by cases z), h2, fun pos cv hc => ?_⟩
    obtain ⟨c, e1, e2⟩ := h3 pos cv hc
    exact ⟨c, e1, na _ _ e2 fun _ z => by unfold CodeO at z; cases z⟩, fun b o hm nb h => by
    have nba : b ≠ a := fun z => by
      subst z
      exact n hm
    exact (upd_ne nba).trans (j b o hm nb h)⟩⟩
variable {M : Addr → Prop} {P : Addr} {q : Str} {H0 H H' : Hp} {hl : ∀ b, M b → H0 b ≠ none} {h0 : TabS H0 P q}
theorem mQ_j : (mQ M P q H0 hl h0).J H0 := ⟨h0, fun _ _ _ _ h => h⟩
theorem mQ_ex (s : Step (mQ M P q H0 hl h0) H0 H) : ExP P H0 H := fun b o n h => by
  by_cases hm : M b
  · exact s.j.2 b o hm n h
  · exact s.keep b o hm h
theorem mQ_tab (hP : M P) (nc : ∀ b r, M b → H0 b = some (CodeO b r) → False) : HasTab (mQ M P q H0 hl h0) P q := ⟨hP, fun _ j => j.1, fun H H' j e t => ⟨t, fun b o hm n h => e b o n (j.2 b o hm n h)⟩, fun H c r j h hm => by
  by_cases e : c = P
  · subst e
    obtain ⟨ps, h1, _⟩ := j.1
    rw [h1] at h
    exact codeO_ne _ (Option.some.inj h).symm
  · cases z : H0 c with
    | none => exact hl c hm z
    | some o =>
      have w := j.2 c o hm e z
      rw [h] at w
      exact nc c r hm (by rw [z, Option.some.inj w])⟩
/-- its arguments stand for x of which pre holds; only the table at P is written -/
def spQ (K : PySem.W.Frag) (P : Addr) (q : Str) {τ β : Type} [Arg τ] [Rep β] (pre : τ → Prop) (post : τ → β → Prop) : Sp := fun vs H Q _ => ∃ (M : Addr → Prop) (x : τ), (∀ b, M b → H b ≠ none) ∧ M P ∧ TabS H P q ∧ (∀ b r, M b → H b = some (CodeO b r) → False) ∧ rp K M H vs x ∧ pre x ∧
  ∀ u H' z, ExP P H H' → TabS H' P q → post x z → rep K M H' u z → Q u H'
theorem ev_callQ {X : Cx} {m : Mode} {σ : L2.St} {e : Expr} {es : List Expr} {pos : Pos} {τ β : Type} [Arg τ] [Rep β] {t : τ} {n : Str} {p : Pos} {k : Nat} {f : Addr} {fd : FuncData} {ps : List Str} {pre : τ → Prop} {post : τ → β → Prop} (hT : HasTab m P q) (F : FnOk X.prog X.w X.K X.mg X.base CX0 k f fd ps (spQ X.K P q pre post)) (hr : Room k X.A) (hm : X.mg n = some (.ref f)) (hk : PySem.W.keepIn X.K (.ref f) = true) (hb : Binds X.K fd ps [])
    (ha : EvL X m (e :: es) σ H t) (hp : pre t)
    (hg : Gl X n := by rfl) (hdb : (n == ("__debug__" : Str)) = false := by decide) (he : starEach (e :: es) X.env = (false, eval e X.env) :: starEach es X.env := by rfl) (hpl : (backTo pos (starEach es X.env)).any (·.1) = false := by rfl) : Ev X m (.Call (.Name n p) (e :: es) [] pos) σ H (post t) :=
  ev_callS F hr hm hk hb ha (fun vs H1 Q s1 rs q => ⟨m.M, t, fun b hb => m.live s1.j hb, hT.mem, hT.tab _ s1.j, fun b r hm h => hT.nc _ _ _ s1.j h hm, rs, hp, fun u H' z ex tb pz rz => q u H' z (hT.step s1.j ex tb) pz rz⟩) hg hdb he hpl
end
/-! ### a def whose code object is known -/
section
variable {P : Program} {w : World} {K : PySem.W.Frag} {mg : Str → Option Value} {base : Heap} {nm : Str} {st : Stmt} {ps N : List Str} {k : Nat}
theorem fn_okC {sp : Sp} (F : FnX K mg nm st ps) (S : FnScope N ps (defScope st)) (len : ∀ vs H Q E, sp vs H Q E → vs.length = ps.length)
    (body : ∀ (cdv : Value) (A : Around) (outer : List Env) (s : Shared) (H : Hp) (vs : List V) (Q : VK) (E : XK), F.fd.code = cdv → Room k (A.deeper (envOfC nm (defScope st) s.heap.objs.size F.f cdv)) → sp vs H Q E →
      WB (bcx P w K mg base N nm st F.f cdv A outer s H E) (defBody st) { nx := fun _ H' => Q .non H', rt := Q } (L2.start N vs) H) : FnOk P w K mg base CX0 (k + 1) F.f F.fd ps sp := by
  obtain ⟨f, fd, F, g, b⟩ := F
  obtain ⟨oc, od, kV, doc, pm, an, cdv, ct, osl, rfl, lk, hcd⟩ := F.ex
  refine fn_of lk hcd S len fun A outer s H vs Q E hr hsp => ?_
  exact ⟨_, pss_w.nox, body cdv A outer s H vs Q E rfl hr hsp⟩
theorem fn_okQ {Pt : Addr} {q : Str} {τ β : Type} [Arg τ] [Rep β] {pre : τ → Prop} {post : τ → β → Prop} (F : FnX K mg nm st ps) (S : FnScope N ps (defScope st)) (len : ∀ (K : PySem.W.Frag) (M : Addr → Prop) H vs (x : τ), rp K M H vs x → vs.length = ps.length)
    (body : ∀ (cdv : Value) (A : Around) (outer : List Env) (s : Shared) (H : Hp) (E : XK) (m : Mode) (vs : List V) (x : τ) (Q : VK), F.fd.code = cdv → Room k (A.deeper (envOfC nm (defScope st) s.heap.objs.size F.f cdv)) → m.J H → HasTab m Pt q → rp K m.M H vs x → pre x →
      (∀ u H' z, Step m H H' → post x z → rep K m.M H' u z → Q u H') → WB (bcx P w K mg base N nm st F.f cdv A outer s H E) (defBody st) { nx := fun _ H' => Q .non H', rt := Q } (L2.start N vs) H) : FnOk P w K mg base CX0 (k + 1) F.f F.fd ps (spQ K Pt q pre post) :=
  fn_okC F S (fun vs H Q E ⟨M, x, _, _, _, _, r, _⟩ => len K M H vs x r) fun cdv A outer s H vs Q E hc hr ⟨M, x, hl, hP, hT, nc, r, hp, h⟩ =>
    body cdv A outer s H E (mQ M Pt q H hl hT) vs x Q hc hr mQ_j (mQ_tab hP nc) r hp fun u H' z s pz rz => h u H' z (mQ_ex s) s.j.1 pz rz
end
end HK
set_option Elab.async false
set_option linter.all false
set_option maxRecDepth 100000
/-! F0: the text by its places; sizes; calls of defs that change nothing. -/
namespace HK
open PySem PySem.Spec PyProof.Rows L2
open Rep Arg
def topS (i : Nat) : Stmt := PySem.Challenge.pw_hitclocks_k24_whole_fronts_by_asking.main.body.getD i (.Pass ⟨0, 0, 0, 0⟩)
theorem pow_s (n : Nat) : 2 ^ (n + 1) = 2 * 2 ^ n := by rw [Nat.pow_succ, Nat.mul_comm]
theorem Sm.add {n : Nat} {x y : Int} (h : Sm n x) (k : Sm n y) : Sm (n + 1) (x + y) := by
  unfold Sm at *
  have := pow_s n
  omega
theorem Sm.sub {n : Nat} {x y : Int} (h : Sm n x) (k : Sm n y) : Sm (n + 1) (x - y) := by
  unfold Sm at *
  have := pow_s n
  omega
theorem Sm.neg {n : Nat} {x : Int} (h : Sm n x) : Sm n (-x) := by
  unfold Sm at *
  omega
theorem Sm.mul {n k : Nat} {x y : Int} (h : Sm n x) (g : Sm k y) : Sm (n + k) (x * y) := wide_lt h g
theorem Sm.mono {n k : Nat} {x : Int} (h : Sm n x) (e : n ≤ k) : Sm k x := Nat.lt_of_lt_of_le h (Nat.pow_le_pow_right (by decide) e)
theorem Sm2.mono {n k : Nat} {p : P2} (h : Sm2 n p) (e : n ≤ k) : Sm2 k p := ⟨h.1.mono e, h.2.mono e⟩
theorem Sm.cmul {n k : Nat} {x y : Int} (h : Sm n x) (g : Sm k y) (h0 : 0 < n := by decide) (h1 : 0 < k := by decide) (hk : n + k ≤ 1000000 := by decide) : CMulW x y := wide_mul h g h0 h1 hk
theorem Sm.cdiv {k : Nat} {x y : Int} (h : 0 < y) (g : Sm k y) (h1 : 0 < k := by decide) (hk : k ≤ 9000 := by decide) : CDivW x y := wide_div h g h1 hk
theorem Sm.le {n : Nat} {x y : Int} (h0 : 0 ≤ x) (h : x ≤ y) (g : Sm n y) : Sm n x := wide_le h0 h g
theorem Sm.abs {n : Nat} {x : Int} (h : Sm n x) : Sm n (iabs x) := by
  unfold iabs Sm at *
  split <;> omega
theorem wt_sm {n k : Nat} {c t : P2} (h : Sm2 n c) (g : Sm2 k t) : Sm (k + n + 1) (wt c t) := (g.1.mul h.1).add (g.2.mul h.2)
theorem gcdI_pos {p q : Int} (h : ¬ (p = 0 ∧ q = 0)) : 0 < gcdI p q := by
  unfold gcdI
  have : 0 < Nat.gcd p.natAbs q.natAbs := by
    rcases Nat.eq_zero_or_pos (Nat.gcd p.natAbs q.natAbs) with z | z
    · have h1 := Nat.eq_zero_of_gcd_eq_zero_left z
      have h2 := Nat.eq_zero_of_gcd_eq_zero_right z
      omega
    · exact z
  omega
theorem gcdI_sm {n : Nat} {p q : Int} (h : ¬ (p = 0 ∧ q = 0)) (hp : Sm n p) (hq : Sm n q) : Sm n (gcdI p q) := by
  unfold gcdI Sm at *
  show Nat.gcd p.natAbs q.natAbs < 2 ^ n
  by_cases z : p.natAbs = 0
  · have hq0 : 0 < q.natAbs := by omega
    exact Nat.lt_of_le_of_lt (Nat.le_of_dvd hq0 (Nat.gcd_dvd_right _ _)) hq
  · exact Nat.lt_of_le_of_lt (Nat.le_of_dvd (by omega) (Nat.gcd_dvd_left _ _)) hp
/-! ### calls -/
structure CalP (P : Program) (w : World) (K : PySem.W.Frag) (mg : Str → Option Value) (base : Heap) (k : Nat) (n : Str) {τ β : Type} [Arg τ] [Rep β] (pre : τ → Prop) (post : τ → β → Prop) : Prop where
  ex : ∃ (f : Addr) (fd : FuncData) (ps : List Str), FnOk P w K mg base CX0 k f fd ps (spP K pre post) ∧ mg n = some (.ref f) ∧ PySem.W.keepIn K (.ref f) = true ∧ Binds K fd ps []
section
variable {P : Program} {w : World} {K : PySem.W.Frag} {mg : Str → Option Value} {base : Heap} {k j : Nat} {n : Str} {τ β : Type} [Arg τ] [Rep β] {pre : τ → Prop} {post : τ → β → Prop} {st : Stmt} {ps : List Str}
theorem CalP.of (F : FnX K mg n st ps) (o : FnOk P w K mg base CX0 k F.f F.fd ps (spP K pre post)) : CalP P w K mg base k n pre post := ⟨F.f, F.fd, ps, o, F.g, F.F.kp, F.b⟩
theorem ev_call {X : Cx} {m : Mode} {σ : L2.St} {H : Hp} {e : Expr} {es : List Expr} {pos p : Pos} {t : τ} (c : CalP X.prog X.w X.K X.mg X.base k n pre post) (hr : Room j X.A) (ha : EvL X m (e :: es) σ H t) (hp : pre t) (hk : k ≤ j := by decide)
    (hg : Gl X n := by rfl) (hdb : (n == ("__debug__" : Str)) = false := by decide) (he : starEach (e :: es) X.env = (false, eval e X.env) :: starEach es X.env := by rfl) (hpl : (backTo pos (starEach es X.env)).any (·.1) = false := by rfl) : Ev X m (.Call (.Name n p) (e :: es) [] pos) σ H (post t) := by
  obtain ⟨f, fd, ps, o, hm, hkp, hb⟩ := c.ex
  exact ev_callP o (hr.mono hk) hm hkp hb ha hp hg hdb he hpl
end
section
variable {X : Cx} {m : Mode} {σ : L2.St} {H : Hp} {a b c d e : Expr} {pos : Pos} {α β γ δ : Type} [Rep α] [Rep β] [Rep γ] [Rep δ] {x : α} {y : β}
theorem ev_some2 {x : α × β} (h : EvD X m e σ H x) : EvD X m e σ H (some x) := fun H1 s1 Q q => h H1 s1 Q fun v H2 z s2 pz rz => by
  obtain ⟨a, v1, v2, e, t⟩ := rz
  exact q v H2 (some z) s2 (by rw [pz]) ⟨⟨a, e⟩, a, v1, v2, e, t⟩
theorem ev_some1 {z : Option (α × β)} {x : α × β} (h : EvD X m e σ H z) (hz : z = some x) : EvD X m e σ H x := fun H1 s1 Q q => h H1 s1 Q fun v H2 y s2 py ry => by
  rw [hz] at py
  subst py
  exact q v H2 x s2 rfl ry.2
abbrev A1 (α : Type) := A α Unit
abbrev A2 (α β : Type) := A α (A β Unit)
abbrev A3 (α β γ : Type) := A α (A β (A γ Unit))
abbrev A4 (α β γ δ : Type) := A α (A β (A γ (A δ Unit)))
theorem el1 (ha : EvD X m a σ H x) (na : NS a := by exact fun _ _ => rfl) : EvL X m [a] σ H (A.mk x () : A1 α) := el_cons ha el_nil na
theorem el2 (ha : EvD X m a σ H x) (hb : EvD X m b σ H y) (na : NS a := by exact fun _ _ => rfl) (nb : NS b := by exact fun _ _ => rfl) : EvL X m [a, b] σ H (A.mk x (A.mk y ()) : A2 α β) := el_cons ha (el1 hb nb) na
theorem el3 {z : γ} (ha : EvD X m a σ H x) (hb : EvD X m b σ H y) (hc : EvD X m c σ H z) (na : NS a := by exact fun _ _ => rfl) (nb : NS b := by exact fun _ _ => rfl) (nc : NS c := by exact fun _ _ => rfl) : EvL X m [a, b, c] σ H (A.mk x (A.mk y (A.mk z ())) : A3 α β γ) := el_cons ha (el2 hb hc nb nc) na
theorem el4 {z : γ} {u : δ} (ha : EvD X m a σ H x) (hb : EvD X m b σ H y) (hc : EvD X m c σ H z) (hd : EvD X m d σ H u) (na : NS a := by exact fun _ _ => rfl) (nb : NS b := by exact fun _ _ => rfl) (nc : NS c := by exact fun _ _ => rfl) (nd : NS d := by exact fun _ _ => rfl) : EvL X m [a, b, c, d] σ H (A.mk x (A.mk y (A.mk z (A.mk u ()))) : A4 α β γ δ) := el_cons ha (el3 hb hc hd nb nc nd) na
end
section
variable {α β γ δ : Type} [Rep α] [Rep β] [Rep γ] [Rep δ] {K : PySem.W.Frag} {M : Addr → Prop} {H : Hp} {vs : List V}
theorem rp1 {x : A1 α} (r : rp K M H vs x) : ∃ v, vs = [v] ∧ rep K M H v x.h := by
  obtain ⟨v, ws, e, r1, e2⟩ := r
  exact ⟨v, by rw [e, show ws = [] from e2], r1⟩
theorem rp2 {x : A2 α β} (r : rp K M H vs x) : ∃ v1 v2, vs = [v1, v2] ∧ rep K M H v1 x.h ∧ rep K M H v2 x.t.h := by
  obtain ⟨v, ws, e, r1, r2⟩ := r
  obtain ⟨v2, e2, r2⟩ := rp1 r2
  exact ⟨v, v2, by rw [e, e2], r1, r2⟩
theorem rp3 {x : A3 α β γ} (r : rp K M H vs x) : ∃ v1 v2 v3, vs = [v1, v2, v3] ∧ rep K M H v1 x.h ∧ rep K M H v2 x.t.h ∧ rep K M H v3 x.t.t.h := by
  obtain ⟨v, ws, e, r1, r2⟩ := r
  obtain ⟨v2, v3, e2, r2, r3⟩ := rp2 r2
  exact ⟨v, v2, v3, by rw [e, e2], r1, r2, r3⟩
theorem rp4 {x : A4 α β γ δ} (r : rp K M H vs x) : ∃ v1 v2 v3 v4, vs = [v1, v2, v3, v4] ∧ rep K M H v1 x.h ∧ rep K M H v2 x.t.h ∧ rep K M H v3 x.t.t.h ∧ rep K M H v4 x.t.t.t.h := by
  obtain ⟨v, ws, e, r1, r2⟩ := r
  obtain ⟨v2, v3, v4, e2, r2, r3, r4⟩ := rp3 r2
  exact ⟨v, v2, v3, v4, by rw [e, e2], r1, r2, r3, r4⟩
theorem rl1 (x : A1 α) (r : rp K M H vs x) : vs.length = 1 := by obtain ⟨_, e, _⟩ := rp1 r; rw [e]; rfl
theorem rl2 (x : A2 α β) (r : rp K M H vs x) : vs.length = 2 := by obtain ⟨_, _, e, _⟩ := rp2 r; rw [e]; rfl
theorem rl3 (x : A3 α β γ) (r : rp K M H vs x) : vs.length = 3 := by obtain ⟨_, _, _, e, _⟩ := rp3 r; rw [e]; rfl
theorem rl4 (x : A4 α β γ δ) (r : rp K M H vs x) : vs.length = 4 := by obtain ⟨_, _, _, _, e, _⟩ := rp4 r; rw [e]; rfl
end
/-! ### the written constants -/
structure Consts (K : PySem.W.Frag) (mg : Str → Option Value) : Prop where
  first : ∃ (v : V) (u : Value), mg "FIRST" = some u ∧ L2.RelV v u ∧ ∀ M H, rep K M H v FIRST
  last : ∃ (v : V) (u : Value), mg "LAST" = some u ∧ L2.RelV v u ∧ ∀ M H, rep K M H v LAST
  endless : ∃ (v : V) (u : Value), mg "ENDLESS" = some u ∧ L2.RelV v u ∧ ∀ M H, rep K M H v Fr.endless
  gcd : mg "gcd" = some (.builtin "math.gcd")
  none : ∀ n ∈ (["abs", "max", "min", "len", "range", "sorted", "tuple", "int", "isinstance", "bool", "repr"] : List Str), mg n = none
section
variable {X : Cx} {m : Mode} {σ : L2.St} {H : Hp} {pos : Pos}
theorem ev_first (c : Consts X.K X.mg) (hg : Gl X "FIRST" := by rfl) : EvD X m (.Name "FIRST" pos) σ H FIRST := by
  obtain ⟨v, u, h1, h2, h3⟩ := c.first
  exact ev_glob h1 h2 (h3 _ _) hg
theorem ev_last (c : Consts X.K X.mg) (hg : Gl X "LAST" := by rfl) : EvD X m (.Name "LAST" pos) σ H LAST := by
  obtain ⟨v, u, h1, h2, h3⟩ := c.last
  exact ev_glob h1 h2 (h3 _ _) hg
theorem ev_endless (c : Consts X.K X.mg) (hg : Gl X "ENDLESS" := by rfl) : EvD X m (.Name "ENDLESS" pos) σ H Fr.endless := by
  obtain ⟨v, u, h1, h2, h3⟩ := c.endless
  exact ev_glob h1 h2 (h3 _ _) hg
end
end HK
set_option Elab.async false
set_option linter.all false
set_option maxRecDepth 100000
/-! F1: the program's small defs. -/
namespace HK
open PySem PySem.Spec PyProof.Rows L2
open Rep Arg
abbrev sLeastTerms : Stmt := topS 4
abbrev sLeads : Stmt := topS 5
abbrev sWeight : Stmt := topS 6
abbrev sAlikeAt : Stmt := topS 7
abbrev sIsBent : Stmt := topS 10
abbrev sCommon : Stmt := topS 13
abbrev sFreeStretch : Stmt := topS 14
abbrev sFreeWithin : Stmt := topS 15
theorem scLeastTerms : FnScope ["p", "q", "common"] ["p", "q"] (defScope sLeastTerms) := ⟨rfl, rfl, rfl, by decide +kernel, rfl, by decide +kernel, by decide +kernel⟩
theorem scLeads : FnScope ["one", "other"] ["one", "other"] (defScope sLeads) := ⟨rfl, rfl, rfl, by decide +kernel, rfl, by decide +kernel, by decide +kernel⟩
theorem scWeight : FnScope ["pair", "price"] ["pair", "price"] (defScope sWeight) := ⟨rfl, rfl, rfl, by decide +kernel, rfl, by decide +kernel, by decide +kernel⟩
theorem scAlikeAt : FnScope ["one", "other", "more", "less"] ["one", "other"] (defScope sAlikeAt) := ⟨rfl, rfl, rfl, by decide +kernel, rfl, by decide +kernel, by decide +kernel⟩
theorem scIsBent : FnScope ["one", "middle", "other", "low", "high", "across", "whole"] ["one", "middle", "other", "low", "high"] (defScope sIsBent) := ⟨rfl, rfl, rfl, by decide +kernel, rfl, by decide +kernel, by decide +kernel⟩
theorem scCommon : FnScope ["one", "other", "low", "high"] ["one", "other"] (defScope sCommon) := ⟨rfl, rfl, rfl, by decide +kernel, rfl, by decide +kernel, by decide +kernel⟩
theorem scFreeStretch : FnScope ["pair", "a", "b"] ["pair"] (defScope sFreeStretch) := ⟨rfl, rfl, rfl, by decide +kernel, rfl, by decide +kernel, by decide +kernel⟩
theorem scFreeWithin : FnScope ["stretch", "pairs", "pair", "free"] ["stretch", "pairs"] (defScope sFreeWithin) := ⟨rfl, rfl, rfl, by decide +kernel, rfl, by decide +kernel, by decide +kernel⟩
section
variable (P : Program) (w : World) (K : PySem.W.Frag) (mg : Str → Option Value) (base : Heap)
abbrev CLeast := CalP P w K mg base 1 "least_terms" (fun x : A2 Int Int => Sm 101 x.h ∧ Sm 101 x.t.h ∧ ¬ (x.h = 0 ∧ x.t.h = 0)) (fun x z => z = leastT x.h x.t.h)
abbrev CLeads := CalP P w K mg base 1 "leads" (fun x : A2 P2 P2 => Sm2 100 x.h ∧ Sm2 100 x.t.h) (fun x z => z = leadsB x.h x.t.h)
abbrev CWeight := CalP P w K mg base 1 "weight" (fun x : A2 P2 P2 => Sm2 100 x.h ∧ Sm2 100 x.t.h) (fun x z => z = wt x.h x.t.h)
abbrev CAlike := CalP P w K mg base 2 "alike_at" (fun x : A2 P2 P2 => Sm2 100 x.h ∧ Sm2 100 x.t.h) (fun x z => z = alikeAt x.h x.t.h)
abbrev A5P := A P2 (A P2 (A P2 (A P2 (A P2 Unit))))
abbrev CBent := CalP P w K mg base 2 "is_bent" (fun x : A5P => Sm2 100 x.h ∧ Sm2 100 x.t.h ∧ Sm2 100 x.t.t.h ∧ Sm2 100 x.t.t.t.h ∧ Sm2 100 x.t.t.t.t.h) (fun x z => z = isBent x.h x.t.h x.t.t.h x.t.t.t.h x.t.t.t.t.h)
abbrev CCommon := CalP P w K mg base 2 "common" (fun x : A2 Str2 Str2 => Sm2 100 x.h.1 ∧ Sm2 100 x.h.2 ∧ Sm2 100 x.t.h.1 ∧ Sm2 100 x.t.h.2) (fun x z => z = commonF x.h x.t.h)
abbrev CFreeS := CalP P w K mg base 2 "free_stretch" (fun x : A1 P2 => Sm2 100 x.h) (fun x z => z = freeStr x.h)
abbrev CFreeW := CalP P w K mg base 3 "free_within" (fun x : A2 Str2 (List P2) => Sm2 100 x.h.1 ∧ Sm2 100 x.h.2 ∧ ∃ g, x.t.h = [g] ∧ Sm2 99 g) (fun x z => z = freeW (some x.h) x.t.h)
end
section
variable {X : Cx} {m : Mode} {σ : L2.St} {H : Hp} {a b c d e : Expr} {pos p : Pos} {j : Nat}
theorem e_wt {u t : P2} (c1 : CWeight X.prog X.w X.K X.mg X.base) (hr : Room j X.A) (ha : EvD X m a σ H u) (hb : EvD X m b σ H t) (h1 : Sm2 100 u) (h2 : Sm2 100 t) (hk : 1 ≤ j := by decide) (na : NS a := by exact fun _ _ => rfl) (nb : NS b := by exact fun _ _ => rfl) (hg : Gl X "weight" := by rfl) (he : starEach [a, b] X.env = (false, eval a X.env) :: starEach [b] X.env := by rfl) (hpl : (backTo pos (starEach [b] X.env)).any (·.1) = false := by rfl) :
    EvD X m (.Call (.Name "weight" p) [a, b] [] pos) σ H (wt u t) := ev_call c1 hr (el2 ha hb na nb) ⟨h1, h2⟩ hk hg (by decide) he hpl
theorem e_leads {u t : P2} (c1 : CLeads X.prog X.w X.K X.mg X.base) (hr : Room j X.A) (ha : EvD X m a σ H u) (hb : EvD X m b σ H t) (h1 : Sm2 100 u) (h2 : Sm2 100 t) (hk : 1 ≤ j := by decide) (na : NS a := by exact fun _ _ => rfl) (nb : NS b := by exact fun _ _ => rfl) (hg : Gl X "leads" := by rfl) (he : starEach [a, b] X.env = (false, eval a X.env) :: starEach [b] X.env := by rfl) (hpl : (backTo pos (starEach [b] X.env)).any (·.1) = false := by rfl) :
    EvD X m (.Call (.Name "leads" p) [a, b] [] pos) σ H (leadsB u t) := ev_call c1 hr (el2 ha hb na nb) ⟨h1, h2⟩ hk hg (by decide) he hpl
theorem t_leads {u t : P2} (c1 : CLeads X.prog X.w X.K X.mg X.base) (hr : Room j X.A) (ha : EvD X m a σ H u) (hb : EvD X m b σ H t) (h1 : Sm2 100 u) (h2 : Sm2 100 t) (hk : 1 ≤ j := by decide) (na : NS a := by exact fun _ _ => rfl) (nb : NS b := by exact fun _ _ => rfl) (hg : Gl X "leads" := by rfl) (he : starEach [a, b] X.env = (false, eval a X.env) :: starEach [b] X.env := by rfl) (hpl : (backTo pos (starEach [b] X.env)).any (·.1) = false := by rfl) :
    EvT X m (.Call (.Name "leads" p) [a, b] [] pos) σ H (leadsB u t) := et_val (e_leads c1 hr ha hb h1 h2 hk na nb hg he hpl)
theorem e_least {u t : Int} (c1 : CLeast X.prog X.w X.K X.mg X.base) (hr : Room j X.A) (ha : EvD X m a σ H u) (hb : EvD X m b σ H t) (h1 : Sm 101 u) (h2 : Sm 101 t) (h3 : ¬ (u = 0 ∧ t = 0)) (hk : 1 ≤ j := by decide) (na : NS a := by exact fun _ _ => rfl) (nb : NS b := by exact fun _ _ => rfl) (hg : Gl X "least_terms" := by rfl) (he : starEach [a, b] X.env = (false, eval a X.env) :: starEach [b] X.env := by rfl) (hpl : (backTo pos (starEach [b] X.env)).any (·.1) = false := by rfl) :
    EvD X m (.Call (.Name "least_terms" p) [a, b] [] pos) σ H (leastT u t) := ev_call c1 hr (el2 ha hb na nb) ⟨h1, h2, h3⟩ hk hg (by decide) he hpl
end
section
variable {P : Program} {w : World} {K : PySem.W.Frag} {mg : Str → Option Value} {base : Heap}
theorem ok_leads (F : FnX K mg "leads" sLeads ["one", "other"]) : CLeads P w K mg base := .of F <| by
  have S := scLeads
  refine fn_okP F S (fun K M H vs x r => rl2 x r) fun cdv A outer s H E m vs x Q hr j r ⟨b1, b2⟩ q => ?_
  obtain ⟨v1, v2, rfl, r1, r2⟩ := rp2 r
  exact wb_one (ws_ret (ev_gt (ev_mul (ev_fst (ev_var 0 r1) ev_int) (ev_snd (ev_var 1 r2) ev_int) (b1.1.cmul b2.2)) (ev_mul (ev_fst (ev_var 1 r2) ev_int) (ev_snd (ev_var 0 r1) ev_int) (b2.1.cmul b1.2))) j q)
theorem ok_weight (F : FnX K mg "weight" sWeight ["pair", "price"]) : CWeight P w K mg base := .of F <| by
  have S := scWeight
  refine fn_okP F S (fun K M H vs x r => rl2 x r) fun cdv A outer s H E m vs x Q hr j r ⟨b1, b2⟩ q => ?_
  obtain ⟨v1, v2, rfl, r1, r2⟩ := rp2 r
  exact wb_one (ws_ret (ev_add (ev_mul (ev_fst (ev_var 1 r2) ev_int) (ev_fst (ev_var 0 r1) ev_int) (b2.1.cmul b1.1)) (ev_mul (ev_snd (ev_var 1 r2) ev_int) (ev_snd (ev_var 0 r1) ev_int) (b2.2.cmul b1.2))) j q)
theorem ok_least (C : Consts K mg) (F : FnX K mg "least_terms" sLeastTerms ["p", "q"]) : CLeast P w K mg base := .of F <| by
  have S := scLeastTerms
  refine fn_okP F S (fun K M H vs x r => rl2 x r) fun cdv A outer s H E m vs x Q hr j r ⟨b1, b2, b3⟩ q => ?_
  obtain ⟨v1, v2, rfl, r1, r2⟩ := rp2 r
  have g0 := gcdI_pos b3
  have g1 := gcdI_sm b3 b1 b2
  refine wb_cons (ws_set 2 (ev_gcd C.gcd (ev_var 0 r1) (ev_var 1 r2)) j fun v H' z s' pz rz => ?_)
  subst pz
  exact wb_one (ws_ret (ev_pair (ev_fdiv (ev_var 0 (s'.rep r1)) (ev_var 2 rz) (Sm.cdiv g0 g1)) (ev_fdiv (ev_var 1 (s'.rep r2)) (ev_var 2 rz) (Sm.cdiv g0 g1))) s'.j fun v H2 z s2 pz rz => q v H2 z (s'.trans s2) (by rw [pz]; rfl) rz)
theorem ok_alike (C : Consts K mg) (c1 : CLeast P w K mg base) (F : FnX K mg "alike_at" sAlikeAt ["one", "other"]) : CAlike P w K mg base := .of F <| by
  have S := scAlikeAt
  refine fn_okP F S (fun K M H vs x r => rl2 x r) fun cdv A outer s H E m vs x Q hr j r ⟨b1, b2⟩ q => ?_
  obtain ⟨v1, v2, rfl, r1, r2⟩ := rp2 r
  refine wb_cons (ws_par 2 3 (ev_sub (ev_fst (ev_var 0 r1) ev_int) (ev_fst (ev_var 1 r2) ev_int)) (ev_sub (ev_snd (ev_var 1 r2) ev_int) (ev_snd (ev_var 0 r1) ev_int)) j fun v3 v4 H1 z u s1 pz pu r3 r4 => ?_)
  have m1 : Sm 101 z := by rw [pz]; exact b1.1.sub b2.1
  have m2 : Sm 101 u := by rw [pu]; exact b2.2.sub b1.2
  refine wb_cons (ws_if (et_or (et_eqD (α := P2) hr (ev_pair (ev_var 2 r3) (ev_var 3 r4)) (ev_pair ev_int ev_int)) fun _ => et_lt (ev_mul (ev_var 2 r3) (ev_var 3 r4) (m1.cmul m2)) ev_int) s1.j (fun H2 s2 hk => ?_) fun H2 s2 hk => wb_nil ?_)
  · refine wb_one (ws_ret (ev_none (α := P2)) s2.j fun v H3 z3 s3 p3 r3 => q v H3 z3 (s1.trans (s2.trans s3)) ?_ r3)
    rw [p3]
    unfold alikeAt
    rw [if_pos]
    simp only [Bool.or_eq_true, decide_eq_true_eq] at hk
    rw [pz, pu] at hk
    exact hk
  · have hk' : ¬ (((x.h.1 - x.t.h.1, x.t.h.2 - x.h.2) : P2) = (0, 0) ∨ (x.h.1 - x.t.h.1) * (x.t.h.2 - x.h.2) < 0) := by
      rw [← pz, ← pu]
      simpa only [Bool.or_eq_false_iff, decide_eq_false_iff_not, not_or] using hk
    have n0 : ¬ (iabs u = 0 ∧ iabs z = 0) := fun ⟨e1, e2⟩ => hk' (.inl (by
      unfold iabs at e1 e2
      have h1 : u = 0 := by split at e1 <;> omega
      have h2 : z = 0 := by split at e2 <;> omega
      rw [← pz, ← pu, h1, h2]))
    refine wb_one (ws_ret (ev_some2 (ev_call c1 hr (el2 (ev_abs (C.none _ (by decide)) (ev_var 3 (s2.rep r4))) (ev_abs (C.none _ (by decide)) (ev_var 2 (s2.rep r3)))) ⟨m2.abs, m1.abs, n0⟩)) s2.j fun v H3 z3 s3 p3 r3 => q v H3 z3 (s1.trans (s2.trans s3)) ?_ r3)
    rw [p3]
    unfold alikeAt
    rw [if_neg hk', ← pz, ← pu]
    rfl
theorem div_sm {n : Nat} {p g : Int} (h : Sm n p) (hg : 0 < g) : Sm n (p / g) := by
  unfold Sm at *
  refine Nat.lt_of_le_of_lt ?_ h
  exact Int.natAbs_ediv_le_natAbs p g
theorem leastT_sm {n : Nat} {p q : Int} (hp : Sm n p) (hq : Sm n q) (h : ¬ (p = 0 ∧ q = 0)) : Sm2 n (leastT p q) := ⟨div_sm hp (gcdI_pos h), div_sm hq (gcdI_pos h)⟩
theorem sm_first : Sm2 100 FIRST := by decide
theorem sm_last : Sm2 100 LAST := by decide
theorem freeStr_sm {p : P2} {f : Str2} (h : Sm2 99 p) (e : freeStr p = some f) : Sm2 100 f.1 ∧ Sm2 100 f.2 := by
  unfold freeStr at e
  split at e
  · cases e
  · split at e
    · cases e
      exact ⟨sm_first, sm_last⟩
    · split at e
      · cases e
        exact ⟨leastT_sm (h.2.neg.mono (by omega)) (h.1.mono (by omega)) (by omega), sm_last⟩
      · cases e
        exact ⟨sm_first, leastT_sm (h.2.mono (by omega)) (h.1.neg.mono (by omega)) (by omega)⟩
theorem ev_ifD {X : Cx} {m : Mode} {σ : L2.St} {H : Hp} {a b c : Expr} {pos : Pos} {α : Type} [Rep α] {x y : α} {k : Bool} (hc : EvT X m c σ H k) (ha : k = true → EvD X m a σ H x) (hb : k = false → EvD X m b σ H y) : EvD X m (.IfExp c a b pos) σ H (if k then x else y) :=
  ev_if hc (fun h => (ha h).to (by rw [if_pos h])) fun h => (hb h).to (by rw [h]; rfl)
theorem ok_bent (c1 : CWeight P w K mg base) (F : FnX K mg "is_bent" sIsBent ["one", "middle", "other", "low", "high"]) : CBent P w K mg base := .of F <| by
  have S := scIsBent
  refine fn_okP F S (fun K M H vs x ⟨v1, w1, e1, r1, r⟩ => by rw [e1, List.length_cons, rl4 _ r]; rfl) fun cdv A outer s H E m vs x Q hr j r ⟨b1, b2, b3, b4, b5⟩ q => ?_
  obtain ⟨v1, w1, e1, r1, r⟩ := r
  obtain ⟨v2, v3, v4, v5, e2, r2, r3, r4, r5⟩ := rp4 r
  subst e2
  subst e1
  have hw : ∀ {c t : P2}, Sm2 100 c → Sm2 100 t → Sm 201 (wt c t) := fun a b => wt_sm a b
  have wb1 : ∀ {c t : P2}, Sm2 100 c → Sm2 100 t → Sm2 100 c ∧ Sm2 100 t := fun a b => ⟨a, b⟩
  refine wb_cons (ws_set (α := P2) 5 (P := fun y => y = (wt x.h x.t.t.t.h - wt x.t.h x.t.t.t.h, wt x.t.h x.t.t.t.t.h - wt x.h x.t.t.t.t.h)) ?a j fun v6 H1 z6 s1 p6 r6 => ?_)
  case a => exact ev_pair (ev_sub (e_wt c1 hr (ev_var 0 r1) (ev_var 3 r4) b1 b4) (e_wt c1 hr (ev_var 1 r2) (ev_var 3 r4) b2 b4)) (ev_sub (e_wt c1 hr (ev_var 1 r2) (ev_var 4 r5) b2 b5) (e_wt c1 hr (ev_var 0 r1) (ev_var 4 r5) b1 b5))
  refine wb_cons (ws_set (α := P2) 6 (P := fun y => y = (wt x.h x.t.t.t.h - wt x.t.t.h x.t.t.t.h, wt x.t.t.h x.t.t.t.t.h - wt x.h x.t.t.t.t.h)) ?a s1.j fun v7 H2 z7 s2 p7 r7 => ?_)
  case a => exact ev_pair (ev_sub (e_wt c1 hr (ev_var 0 (s1.rep r1)) (ev_var 3 (s1.rep r4)) b1 b4) (e_wt c1 hr (ev_var 2 (s1.rep r3)) (ev_var 3 (s1.rep r4)) b3 b4)) (ev_sub (e_wt c1 hr (ev_var 2 (s1.rep r3)) (ev_var 4 (s1.rep r5)) b3 b5) (e_wt c1 hr (ev_var 0 (s1.rep r1)) (ev_var 4 (s1.rep r5)) b1 b5))
  subst p6
  subst p7
  exact wb_one (ws_ret (ev_gt (ev_mul (ev_snd (ev_var 5 (s2.rep r6)) ev_int) (ev_fst (ev_var 6 r7) ev_int) (((hw b2 b5).sub (hw b1 b5)).cmul ((hw b1 b4).sub (hw b3 b4)))) (ev_mul (ev_fst (ev_var 5 (s2.rep r6)) ev_int) (ev_snd (ev_var 6 r7) ev_int) (((hw b1 b4).sub (hw b2 b4)).cmul ((hw b3 b5).sub (hw b1 b5))))) s2.j fun v H' z s' pz rz => q v H' z (s1.trans (s2.trans s')) (by rw [pz]; rfl) rz)
theorem ok_common (c1 : CLeads P w K mg base) (F : FnX K mg "common" sCommon ["one", "other"]) : CCommon P w K mg base := .of F <| by
  have S := scCommon
  refine fn_okP F S (fun K M H vs x r => rl2 x r) fun cdv A outer s H E m vs x Q hr j r ⟨b1, b2, b3, b4⟩ q => ?_
  obtain ⟨v1, v2, rfl, r1, r2⟩ := rp2 r
  refine wb_cons (ws_set 2 (ev_ifD (t_leads c1 hr (ev_fst (ev_var 0 r1) ev_int) (ev_fst (ev_var 1 r2) ev_int) b1 b3) (fun _ => ev_fst (ev_var 1 r2) ev_int) fun _ => ev_fst (ev_var 0 r1) ev_int) j fun v3 H1 lo s1 p3 r3 => ?_)
  refine wb_cons (ws_set 3 (ev_ifD (t_leads c1 hr (ev_snd (ev_var 0 (s1.rep r1)) ev_int) (ev_snd (ev_var 1 (s1.rep r2)) ev_int) b2 b4) (fun _ => ev_snd (ev_var 0 (s1.rep r1)) ev_int) fun _ => ev_snd (ev_var 1 (s1.rep r2)) ev_int) s1.j fun v4 H2 hi s2 p4 r4 => ?_)
  have hlo : Sm2 100 lo := by rw [p3]; split <;> assumption
  have hhi : Sm2 100 hi := by rw [p4]; split <;> assumption
  refine wb_one (ws_ret (ev_ifD (t_leads c1 hr (ev_var 3 r4) (ev_var 2 (s2.rep r3)) hhi hlo) (fun _ => ev_none) fun _ => ev_some2 (ev_pair (ev_var 2 (s2.rep r3)) (ev_var 3 r4))) s2.j fun v H' z s' pz rz => q v H' z (s1.trans (s2.trans s')) ?_ rz)
  rw [pz]
  unfold commonF
  simp only
  rw [← p3, ← p4]
theorem ok_freeS (C : Consts K mg) (c1 : CLeast P w K mg base) (F : FnX K mg "free_stretch" sFreeStretch ["pair"]) : CFreeS P w K mg base := .of F <| by
  have S := scFreeStretch
  refine fn_okP F S (fun K M H vs x r => rl1 x r) fun cdv A outer s H E m vs x Q hr j r b1 q => ?_
  obtain ⟨v1, rfl, r1⟩ := rp1 r
  refine wb_cons (ws_unp2 1 2 (ev_var 0 r1) j fun v2 v3 H1 z s1 pz r2 r3 => ?_)
  subst pz
  refine wb_cons (ws_if (et_and (et_gt (ev_var 1 r2) ev_int) fun _ => et_gt (ev_var 2 r3) ev_int) s1.j (fun H2 s2 hk => ?_) fun H2 s2 hk => wb_nil ?_)
  · simp only [Bool.and_eq_true, decide_eq_true_eq] at hk
    refine wb_one (ws_ret (ev_none (α := Str2)) s2.j fun v H3 z3 s3 p3 r3 => q v H3 z3 (s1.trans (s2.trans s3)) ?_ r3)
    rw [p3]
    unfold freeStr
    rw [if_pos hk]
  have h1 : ¬ (0 < x.h.1 ∧ 0 < x.h.2) := fun h => by simp [h.1, h.2] at hk
  refine wb_cons (ws_if (et_and (et_le (ev_var 1 (s2.rep r2)) ev_int) fun _ => et_le (ev_var 2 (s2.rep r3)) ev_int) s2.j (fun H3 s3 hk => ?_) fun H3 s3 hk => wb_nil ?_)
  · simp only [Bool.and_eq_true, decide_eq_true_eq] at hk
    refine wb_one (ws_ret (ev_some2 (ev_pair (ev_first C) (ev_last C))) s3.j fun v H4 z4 s4 p4 r4 => q v H4 z4 (s1.trans (s2.trans (s3.trans s4))) ?_ r4)
    rw [p4]
    unfold freeStr
    rw [if_neg h1, if_pos hk]
  have h2 : ¬ (x.h.1 ≤ 0 ∧ x.h.2 ≤ 0) := fun h => by simp [h.1, h.2] at hk
  have s23 := s2.trans s3
  refine wb_one (ws_ret (ev_ifD (et_gt (ev_var 1 (s23.rep r2)) ev_int) (fun hk => ev_some2 (ev_pair (e_least c1 hr (ev_neg (ev_var 2 (s23.rep r3))) (ev_var 1 (s23.rep r2)) (b1.2.neg.mono (by omega)) (b1.1.mono (by omega)) ?_) (ev_last C))) fun hk => ev_some2 (ev_pair (ev_first C) (e_least c1 hr (ev_var 2 (s23.rep r3)) (ev_neg (ev_var 1 (s23.rep r2))) (b1.2.mono (by omega)) (b1.1.neg.mono (by omega)) ?_))) s3.j fun v H4 z4 s4 p4 r4 => q v H4 z4 (s1.trans (s23.trans s4)) ?_ r4)
  · have := of_decide_eq_true hk
    show ¬ (-x.h.2 = 0 ∧ x.h.1 = 0)
    omega
  · have := of_decide_eq_false hk
    show ¬ (x.h.2 = 0 ∧ -x.h.1 = 0)
    omega
  · rw [p4]
    unfold freeStr
    rw [if_neg h1, if_neg h2]
    by_cases h : 0 < x.h.1
    · simp [h]
    · simp [h]
theorem ok_freeW (c1 : CFreeS P w K mg base) (c2 : CCommon P w K mg base) (F : FnX K mg "free_within" sFreeWithin ["stretch", "pairs"]) : CFreeW P w K mg base := .of F <| by
  have S := scFreeWithin
  refine fn_okP F S (fun K M H vs x r => rl2 x r) fun cdv A outer s H E m vs x Q hr j r ⟨b1, b2, g, hg, b3⟩ q => ?_
  obtain ⟨v1, v2, rfl, r1, r2⟩ := rp2 r
  rw [hg] at r2
  have r1' : rep K m.M H v1 (some x.h) := by
    obtain ⟨a, w1, w2, e, t⟩ := r1
    exact ⟨⟨a, e⟩, a, w1, w2, e, t⟩
  refine wb_cons (ws_forL 2 (ev_var 1 r2) j (fun k σ' H' => ∃ v w3 w4, σ' = [some v, some v2, w3, w4] ∧ rep K m.M H' v (freeW (some x.h) ([g].take k))) (fun H' s' => ⟨v1, none, none, rfl, s'.rep r1'⟩) (fun k p v σ' H' hp s1 ⟨v0, w3, w4, eσ, r0⟩ rv => ?_) fun σ' H' s1 ⟨v0, w3, w4, eσ, r0⟩ => ?_)
  · have hk : k = 0 ∧ p = g := by
      cases k with
      | zero => exact ⟨rfl, by simpa using hp.symm⟩
      | succ k => simp at hp
    obtain ⟨rfl, rfl⟩ := hk
    subst eσ
    have r0 : rep K m.M H' v0 (some x.h) := r0
    refine wb_cons (ws_set 3 (ev_call c1 hr (el1 (ev_var 2 rv)) (b3.mono (by omega))) s1.j fun v4 H1 z s2 pz r4 => ?_)
    refine wb_one (ws_if (et_isNotN (ev_var 0 (s2.rep r0))) s2.j (fun H2 s3 _ => ?_) fun H2 s3 hk => (by simp at hk))
    have r5 := s3.rep r4
    refine wb_one (ws_set 0 (P := fun y => y = freeStep (some x.h) p) (ev_if (et_isN (ev_var 3 r5)) (fun hk => ?_) fun hk => ?_) s3.j fun v5 H3 z5 s4 p5 r6 => ⟨s2.trans (s3.trans s4), v5, some v, some v4, rfl, ?_⟩)
    · have e : z = none := by simpa using hk
      refine (ev_none).to ?_
      unfold freeStep
      rw [← pz, e]
    · obtain ⟨f, e⟩ : ∃ f, z = some f := by
        cases z with
        | none => simp at hk
        | some f => exact ⟨f, rfl⟩
      have hf := freeStr_sm b3 (pz.symm.trans e)
      refine (ev_call c2 hr (el2 (ev_some1 (ev_var 0 (s3.rep (s2.rep r0))) rfl) (ev_some1 (ev_var 3 r5) e)) ⟨b1, b2, hf.1, hf.2⟩).to ?_
      unfold freeStep
      rw [← pz, e]
    · rw [p5] at r6
      exact r6
  · subst eσ
    exact wb_one (ws_ret (ev_var 0 r0) s1.j fun v H4 z4 s4 p4 r4 => q v H4 z4 (s1.trans s4) (by rw [p4, hg]; rfl) r4)
end
end HK
set_option Elab.async false
set_option linter.all false
set_option maxRecDepth 100000
/-! F2: envelope, over. -/
namespace HK
open PySem PySem.Spec PyProof.Rows L2 LamX
open Rep Arg
open NdefX (NF CellsAt slotAt Caps cells_of startF ncx NScope envF nscope_by ndef_free ndef_fr)
open PySem.W (dataLe)
abbrev sEnvelope : Stmt := topS 11
abbrev sOverD : Stmt := topS 12
theorem scEnvelope : FnScope ["low", "high", "pairs", "found", "pair"] ["low", "high", "pairs"] (defScope sEnvelope) := ⟨rfl, rfl, rfl, by decide +kernel, rfl, by decide +kernel, by decide +kernel⟩
theorem scOver : FnScope ["low", "high", "pairs", "pair"] ["low", "high", "pairs"] (defScope sOverD) := ⟨rfl, rfl, rfl, by decide +kernel, rfl, by decide +kernel, by decide +kernel⟩
def qEnv : Str := (("envelope" : Str) ++ ".<locals>.") ++ "<lambda>"
/-! ### own lists, read and written -/
section
variable {m : Mode} {l : Addr} {H H' : Hp} {vs : List V} {α : Type} [Rep α] {K : PySem.W.Frag}
theorem HasTab.mL {P : Addr} {q : Str} (t : HasTab m P q) : HasTab (mL m l) P q := ⟨.inl t.mem, fun H j => t.tab H j.1, fun H H' ⟨j, vs, h⟩ e t' => ⟨t.upd H H' j e t', vs, e l _ (fun z => by
    obtain ⟨ps, h1, _⟩ := t.tab H j
    rw [z, h1] at h
    cases h) h⟩, fun H c r ⟨j, vs, h⟩ hc hm => hm.elim (t.nc H c r j hc) fun z => by
    rw [z, h] at hc
    exact absurd (Option.some.inj hc) (by unfold CodeO; nofun)⟩
theorem HasTab.mLP {P : Addr} {q : Str} (t : HasTab m P q) : HasTab (mLP m l vs) P q := ⟨.inl t.mem, fun H j => t.tab H j.1, fun H H' ⟨j, h⟩ e t' => ⟨t.upd H H' j e t', e l _ (fun z => by
    obtain ⟨ps, h1, _⟩ := t.tab H j
    rw [z, h1] at h
    cases h) h⟩, fun H c r ⟨j, h⟩ hc hm => hm.elim (t.nc H c r j hc) fun z => by
    rw [z, h] at hc
    exact absurd (Option.some.inj hc) (by unfold CodeO; nofun)⟩
/-- nothing but what m may write was written: the own list is as it was -/
theorem mL_up (s : Step m H H') (n : ¬ m.M l) (h : H l = some (.lst vs)) : Step (mL m l) H H' ∧ H' l = some (.lst vs) := by
  have h' := s.keep l _ n h
  exact ⟨⟨fun b o hb e => s.keep b o (fun z => hb (.inl z)) e, s.j, vs, h'⟩, h'⟩
/-- the own list as data -/
theorem mL_dat {xs : List α} (n : ¬ m.M l) (h : H l = some (.lst vs)) (r : Reps K (mL m l).M H vs xs) : rep K m.M H (.ref l) xs := ⟨l, vs, rfl, ⟨n, h⟩, Paired.mapP r fun _ _ z => mL_back z⟩
theorem reps_unsnoc {M : Addr → Prop} : ∀ {xs : List α} {x : α} {vs : List V}, Reps K M H vs (xs ++ [x]) → ∃ vs' v, vs = vs' ++ [v] ∧ Reps K M H vs' xs ∧ rep K M H v x
  | [], x, vs, r => by
    cases r with
    | cons r t =>
      cases t
      exact ⟨[], _, rfl, .nil, r⟩
  | y :: xs, x, vs, r => by
    cases r with
    | cons r t =>
      obtain ⟨vs', v, e, r', rx⟩ := reps_unsnoc t
      exact ⟨_ :: vs', v, by rw [e]; rfl, .cons r r', rx⟩
theorem atI_neg {xs : List α} {k : Nat} (h1 : 1 ≤ k) (h2 : k ≤ xs.length) : atI xs (-(k : Int)) = xs[xs.length - k]? := by
  unfold atI ixN
  rw [if_neg (by omega), if_pos (by omega)]
  show xs[(-(k : Int) + (xs.length : Nat)).toNat]? = _
  congr 1
  omega
theorem atI_pos {xs : List α} {i : Int} (h0 : 0 ≤ i) : atI xs i = xs[i.toNat]? := by
  unfold atI ixN
  rw [if_pos h0]
  by_cases h : i < xs.length
  · rw [if_pos h]
    rfl
  · rw [if_neg h]
    show none = _
    rw [List.getElem?_eq_none (by omega)]
theorem atI_last {xs : List α} {x : α} : atI (xs ++ [x]) (-1) = some x := by
  rw [show (-1 : Int) = -((1 : Nat) : Int) from rfl, atI_neg (by omega) (by simp)]
  simp
theorem atI_last2 {xs : List α} {x y : α} : atI (xs ++ [y] ++ [x]) (-2) = some y := by
  rw [show (-2 : Int) = -((2 : Nat) : Int) from rfl, atI_neg (by omega) (by simp)]
  simp
end
section
variable {X : Cx} {m mi : Mode} {σ : L2.St} {H : Hp} {D : Ends} {iter : Expr} {body : List Stmt} {pos px : Pos} {xn : Str} {α : Type} [Rep α]
/-- for x in xs, the list evaluated in a mode of its own -/
theorem ws_forLP (i : Nat) {xs : List α} (he : EvD X mi iter σ H xs) (ji : mi.J H) (hM : mi.M = m.M) (hS : ∀ H', Step mi H H' → Step m H H') (I : Nat → L2.St → Hp → Prop) (h0 : ∀ H', Step mi H H' → I 0 σ H')
    (turn : ∀ (k : Nat) (x : α) (v : V) (σ' : L2.St) (H' : Hp), xs[k]? = some x → Step m H H' → I k σ' H' → rep X.K m.M H' v x →
      WB X body { D with nx := fun σ2 H2 => Step m H' H2 ∧ I (k + 1) σ2 H2, ct := fun σ2 H2 => Step m H' H2 ∧ I (k + 1) σ2 H2, bk := D.nx } (σ'.set i (some v)) H')
    (hend : ∀ σ' H', Step m H H' → I xs.length σ' H' → D.nx σ' H') (hN : X.N.Nodup := by first | assumption | exact FnScope.nd (by assumption)) (hc : X.calm = true := by rfl) (hp : PassesOwn (model X.prog X.w) X.A X.env X.xe := by exact PassesOwn.never)
    (hi : X.N[i]? = some xn := by rfl) (hx : Loc X.env.scope xn := by first | exact Or.inl rfl | exact Or.inr rfl) (hf : X.fn xn = true ∨ X.env.scope.names.lookup xn = some .local := by first | exact .inl rfl | exact .inr rfl)
    (hs : ∀ x, foldedSetIterable iter X.env x = pure x := by intro _; rfl) : WS X (.For (.Name xn px) iter body [] pos) D σ H :=
  ws_of (ps_for hp hc (pi_list pe_w) (pg_name hN hi hx hf) pss_w hs) (he H (Step.refl ji) _ fun v H1 x s1 pe rr => by
    rw [hM] at rr
    obtain ⟨a, vs, e, t, rs⟩ := rr
    subst pe
    have s1' := hS H1 s1
    refine ⟨a, e, ⟨vs, t.sq⟩, for_list (xs := vs) (fun k σ' H' => Step m H1 H' ∧ I k σ' H') ⟨Step.refl s1'.j, h0 H1 s1⟩ (fun k σ' H' _ p => (t.mono p.1.keep).sq) (fun k w σ' H' hk p => ?_) fun σ' H' p => ?_⟩
    · obtain ⟨y, hy, ry⟩ := reps_back (p.1.reps rs) hk
      exact wb_mono (turn k y w σ' H' hy (s1'.trans p.1) p.2 ry) (fun _ _ q => ⟨p.1.trans q.1, q.2⟩) (fun _ _ q => q) (fun _ _ q => q) fun _ _ q => ⟨p.1.trans q.1, q.2⟩
    · rw [reps_len rs] at p
      exact hend σ' H' (s1'.trans p.1) p.2)
end
section
variable (P : Program) (w : World) (K : PySem.W.Frag) (mg : Str → Option Value) (base : Heap)
/-- many pairs of some size -/
def okL (ps : List P2) : Prop := ps.length ≤ 100000 ∧ ∀ c, c ∈ ps → Sm2 100 c
/-- a def that writes envelope's table -/
structure CalQ (k : Nat) (n : Str) (Pt : Addr) (q : Str) {τ β : Type} [Arg τ] [Rep β] (pre : τ → Prop) (post : τ → β → Prop) : Prop where
  ex : ∃ (f : Addr) (fd : FuncData) (ps : List Str), FnOk P w K mg base CX0 k f fd ps (spQ K Pt q pre post) ∧ mg n = some (.ref f) ∧ PySem.W.keepIn K (.ref f) = true ∧ Binds K fd ps []
abbrev CEnv (Pt : Addr) := CalQ P w K mg base 5 "envelope" Pt qEnv (fun x : A3 P2 P2 (List P2) => Sm2 100 x.h ∧ Sm2 100 x.t.h ∧ okL x.t.t.h) (fun x z => z = Tup.mk (envelopeF x.h x.t.h x.t.t.h))
abbrev COver (Pt : Addr) := CalQ P w K mg base 6 "over" Pt qEnv (fun x : A3 P2 P2 (List P2) => Sm2 100 x.h ∧ Sm2 100 x.t.h ∧ okL x.t.t.h ∧ x.t.t.h ≠ []) (fun x z => z = overF x.h x.t.h x.t.t.h)
end
section
variable {P : Program} {w : World} {K : PySem.W.Frag} {mg : Str → Option Value} {base : Heap} {k j : Nat} {n : Str} {Pt : Addr} {q : Str} {τ β : Type} [Arg τ] [Rep β] {pre : τ → Prop} {post : τ → β → Prop} {st : Stmt} {ps : List Str}
theorem CalQ.of (F : FnX K mg n st ps) (o : FnOk P w K mg base CX0 k F.f F.fd ps (spQ K Pt q pre post)) : CalQ P w K mg base k n Pt q pre post := ⟨F.f, F.fd, ps, o, F.g, F.F.kp, F.b⟩
theorem ev_callq {X : Cx} {m : Mode} {σ : L2.St} {H : Hp} {e : Expr} {es : List Expr} {pos p : Pos} {t : τ} (c : CalQ X.prog X.w X.K X.mg X.base k n Pt q pre post) (hT : HasTab m Pt q) (hr : Room j X.A) (ha : EvL X m (e :: es) σ H t) (hp : pre t) (hk : k ≤ j := by decide)
    (hg : Gl X n := by rfl) (hdb : (n == ("__debug__" : Str)) = false := by decide) (he : starEach (e :: es) X.env = (false, eval e X.env) :: starEach es X.env := by rfl) (hpl : (backTo pos (starEach es X.env)).any (·.1) = false := by rfl) : Ev X m (.Call (.Name n p) (e :: es) [] pos) σ H (post t) := by
  obtain ⟨f, fd, ps, o, hm, hkp, hb⟩ := c.ex
  exact ev_callQ hT o (hr.mono hk) hm hkp hb ha hp hg hdb he hpl
end
/-! ### envelope in plain words -/
theorem env_sub {lo hi : P2} : ∀ (ps st : List P2) {c : P2}, c ∈ ps.foldl (envStep lo hi) st → c ∈ ps ∨ c ∈ st
  | [], st, c, h => .inr h
  | p :: ps, st, c, h => by
    rcases env_sub ps (envStep lo hi st p) h with z | z
    · exact .inl (List.mem_cons_of_mem _ z)
    · have pw : ∀ (l : List P2) c, c ∈ popW lo hi p l → c ∈ l := by
        intro l
        induction l with
        | nil => intro c h; exact h
        | cons a r ih =>
          intro c h
          cases r with
          | nil => exact h
          | cons b r =>
            unfold popW at h
            split at h
            · exact h
            · exact List.mem_cons_of_mem _ (ih c h)
      unfold envStep at z
      cases st with
      | nil =>
        simp at z
        exact .inl (z ▸ List.mem_cons_self)
      | cons a r =>
        simp only at z
        split at z
        · exact .inr z
        · rcases List.mem_cons.mp z with rfl | z
          · exact .inl List.mem_cons_self
          · exact .inr (pw _ _ z)
theorem env_len {lo hi : P2} : ∀ (ps st : List P2), (ps.foldl (envStep lo hi) st).length ≤ ps.length + st.length
  | [], st => by simp
  | p :: ps, st => by
    have h := env_len (lo := lo) (hi := hi) ps (envStep lo hi st p)
    have pw : ∀ (l : List P2), (popW lo hi p l).length ≤ l.length := by
      intro l
      induction l with
      | nil => exact Nat.le_refl _
      | cons a r ih =>
        cases r with
        | nil => exact Nat.le_refl _
        | cons b r =>
          unfold popW
          split
          · exact Nat.le_refl _
          · exact Nat.le_trans ih (Nat.le_succ _)
    have h2 : (envStep lo hi st p).length ≤ st.length + 1 := by
      unfold envStep
      cases st with
      | nil => simp
      | cons a r =>
        simp only
        split
        · simp
        · have := pw (a :: r)
          simp only [List.length_cons] at this ⊢
          omega
    simp only [List.foldl_cons, List.length_cons]
    omega
/-- is p left out? -/
def skipB (hi : P2) (st : List P2) (p : P2) : Bool := match st with
  | [] => false
  | a :: _ => decide (wt p hi ≤ wt a hi)
theorem envStep_eq (lo hi : P2) (st : List P2) (p : P2) : envStep lo hi st p = if skipB hi st p then st else p :: popW lo hi p st := by
  unfold envStep skipB
  cases st with
  | nil => simp [popW]
  | cons a r => simp
/-- is the last popped? -/
def popB (lo hi : P2) (p : P2) (st : List P2) : Bool := match st with
  | a :: b :: _ => !isBent b a p lo hi
  | _ => false
theorem popW_stop {lo hi p : P2} {st : List P2} (h : popB lo hi p st = false) : popW lo hi p st = st := by
  match st with
  | [] => rfl
  | [a] => rfl
  | a :: b :: r =>
    unfold popB at h
    unfold popW
    simp at h
    rw [if_pos h]
theorem popW_go {lo hi p a b : P2} {r : List P2} (h : popB lo hi p (a :: b :: r) = true) : popW lo hi p (a :: b :: r) = popW lo hi p (b :: r) := by
  unfold popB at h
  conv => lhs; unfold popW
  simp at h
  rw [if_neg (by rw [h]; decide)]
end HK
set_option Elab.async false
set_option linter.all false
set_option maxRecDepth 100000
/-! F3: envelope walked. -/
namespace HK
open PySem PySem.Spec PyProof.Rows L2 LamX
open Rep Arg
open NdefX (NF CellsAt slotAt Caps cells_of startF ncx NScope envF nscope_by ndef_free ndef_fr ndefB)
open PySem.W (dataLe dataLe_ii)
section
variable {X : Cx} {m : Mode} {σ : L2.St} {H : Hp} {a b c d e : Expr} {pos p : Pos} {j : Nat}
theorem t_bent {u1 u2 u3 u4 u5 : P2} (c1 : CBent X.prog X.w X.K X.mg X.base) (hr : Room j X.A) (h1 : EvD X m a σ H u1) (h2 : EvD X m b σ H u2) (h3 : EvD X m c σ H u3) (h4 : EvD X m d σ H u4) (h5 : EvD X m e σ H u5) (k : Sm2 100 u1 ∧ Sm2 100 u2 ∧ Sm2 100 u3 ∧ Sm2 100 u4 ∧ Sm2 100 u5) (hk : 2 ≤ j := by decide)
    (na : NS a := by exact fun _ _ => rfl) (nb : NS b := by exact fun _ _ => rfl) (nc : NS c := by exact fun _ _ => rfl) (nd : NS d := by exact fun _ _ => rfl) (ne : NS e := by exact fun _ _ => rfl) (hg : Gl X "is_bent" := by rfl) (he : starEach [a, b, c, d, e] X.env = (false, eval a X.env) :: starEach [b, c, d, e] X.env := by rfl) (hpl : (backTo pos (starEach [b, c, d, e] X.env)).any (·.1) = false := by rfl) :
    EvT X m (.Call (.Name "is_bent" p) [a, b, c, d, e] [] pos) σ H (isBent u1 u2 u3 u4 u5) := et_val (ev_call (t := A.mk u1 (A.mk u2 (A.mk u3 (A.mk u4 (A.mk u5 ()))))) c1 hr (el_cons h1 (el4 h2 h3 h4 h5 nb nc nd ne) na) k hk hg (by decide) he hpl)
end
section
variable {P : Program} {w : World} {K : PySem.W.Frag} {mg : Str → Option Value} {base : Heap}
theorem ok_envelope {c Pt : Addr} (C : Consts K mg) (TB : TabB base mg c Pt) (c1 : CWeight P w K mg base) (c2 : CBent P w K mg base) (F : FnX K mg "envelope" sEnvelope ["low", "high", "pairs"]) (hF : F.fd.code = .ref c) : CEnv P w K mg base Pt := .of F <| by
  have S := scEnvelope
  refine fn_okQ F S (fun K M H vs x r => rl3 x r) fun cdv A outer s H E m vs x Q hcd hr j hT r ⟨b1, b2, b3⟩ q => ?_
  obtain ⟨v1, v2, v3, rfl, r1, r2, r3⟩ := rp3 r
  have hcode : cdv = .ref c := by rw [← hcd, hF]
  refine wb_cons (ws_new 3 fun l nl => ?_)
  have nM : ¬ m.M l := m.notM j nl
  have r1 := mL_rep (o := .lst []) nl r1
  have r2 := mL_rep (o := .lst []) nl r2
  have r3 := mL_rep (o := .lst []) nl r3
  have jP : (mLP m l []).J (upd H l (.lst [])) := ⟨m.ex (Ex.new nl) j, upd_same⟩
  have hmem : ∀ {c}, c ∈ x.t.t.h.mergeSort (envLe x.h x.t.h) → Sm2 100 c := fun h => b3.2 _ (List.mem_mergeSort.mp h)
  refine wb_cons (ws_forLP (m := mL m l) (mi := mLP m l []) (xs := x.t.t.h.mergeSort (envLe x.h x.t.h)) 4 ?it jP rfl (fun H' s => mLP_st s)
    (fun k σ' H' => ∃ w5 vs, σ' = [some v1, some v2, some v3, some (.ref l), w5] ∧ H' l = some (.lst vs) ∧ Reps K (mL m l).M H' vs (((x.t.t.h.mergeSort (envLe x.h x.t.h)).take k).foldl (envStep x.h x.t.h) []).reverse) ?h0 ?turn ?hend)
  case it =>
    have e : (fun p q : P2 => envLe x.h x.t.h p q) = dataLe false fun z => kEnc (-wt z x.h, -wt z x.t.h) := by
      rw [dataLe_ii (fun z : P2 => -wt z x.h) (fun z : P2 => -wt z x.t.h)]
      rfl
    show EvD _ _ _ _ _ (x.t.t.h.mergeSort fun p q => envLe x.h x.t.h p q)
    rw [e]
    refine ev_sortedLam (P := Pt) (c := c) (fr := ["low", "high"]) (N := ["pair", "low", "high"]) (js := [0, 1]) (n := "pair") (k := 1) (ev_var 2 r3) (Nat.le_trans b3.1 (by decide)) hT.mLP TB hcode hr (nscope_by (by decide +kernel)) (ndef_free (sc := defScope sEnvelope) (fr := ["low", "high"]) (by decide +kernel)) (ndef_fr (sc := defScope sEnvelope) (by decide +kernel)) (fun c' pm ctv us hl => by
      match us, hl with
      | [_], _ => rfl) (fun A' outer' s' H' f' c' v p hr' st hp rv => ?_) (C.none _ (by decide))
    have hp2 := b3.2 _ hp
    exact ev_pair (ev_neg (e_wt c1 hr' (ev_var 0 rv) (ev_var 1 (st.rep r1)) hp2 b1)) (ev_neg (e_wt c1 hr' (ev_var 0 rv) (ev_var 2 (st.rep r2)) hp2 b2))
  case h0 => exact fun H' s' => ⟨none, [], rfl, s'.j.2, by exact .nil⟩
  case hend =>
    rintro σ' H' s1 ⟨w5, vs, rfl, hH, rs⟩
    have d := mL_dat nM hH rs
    refine wb_one (ws_ret (ev_tupleOf (C.none _ (by decide)) (ev_var 3 d)) s1.j.1 fun v H2 z s2 pz rz => q v H2 z ((mL_step nl s1).trans s2) ?_ rz)
    rw [pz, List.take_of_length_le (Nat.le_refl _)]
    rfl
  case turn =>
    rintro k p v σ' H' hx s1 ⟨w5, vs, rfl, hH, rs⟩ rv
    have hp := hmem (List.mem_of_getElem? hx)
    have hk : k < x.t.t.h.length := by
      have h := (List.getElem?_eq_some_iff.mp hx).1
      rwa [List.length_mergeSort] at h
    have hst : ∀ c, c ∈ ((x.t.t.h.mergeSort (envLe x.h x.t.h)).take k).foldl (envStep x.h x.t.h) [] → Sm2 100 c := fun c hc => by
      rcases env_sub _ _ hc with z | z
      · exact hmem (List.mem_of_mem_take z)
      · cases z
    have hln : (((x.t.t.h.mergeSort (envLe x.h x.t.h)).take k).foldl (envStep x.h x.t.h) []).length ≤ 100000 := by
      refine Nat.le_trans (env_len _ _) ?_
      have h1 := b3.1
      simp only [List.length_take, List.length_mergeSort, List.length_nil]
      omega
    have hnext : (((x.t.t.h.mergeSort (envLe x.h x.t.h)).take (k + 1)).foldl (envStep x.h x.t.h) []) = envStep x.h x.t.h (((x.t.t.h.mergeSort (envLe x.h x.t.h)).take k).foldl (envStep x.h x.t.h) []) p := by
      rw [take_one hx, List.foldl_append]
      rfl
    rw [hnext]
    generalize ((x.t.t.h.mergeSort (envLe x.h x.t.h)).take k).foldl (envStep x.h x.t.h) [] = st at rs hst hln ⊢
    have d := mL_dat nM hH rs
    have r1' := mL_back (s1.rep r1)
    have r2' := mL_back (s1.rep r2)
    have rv' := mL_back rv
    show WB (bcx P w K mg base ["low", "high", "pairs", "found", "pair"] "envelope" sEnvelope F.f cdv A outer s H E) _ _ [some v1, some v2, some v3, some (.ref l), some v] H'
    refine wb_cons (ws_if (m := m) (k := skipB x.t.h st p) ?c s1.j.1 (fun H2 s2 hk2 => wb_one (ws_cont ?_)) fun H2 s2 hk2 => wb_nil ?_)
    case c =>
      cases st with
      | nil => exact (et_and (l := false) (et_neD hr (ev_var 3 d) (ev_lst0 (α := P2))) fun h => (by simp at h)).to (by simp [skipB])
      | cons a r =>
        rw [List.reverse_cons] at d
        exact (et_and (et_neD hr (ev_var 3 d) (ev_lst0 (α := P2))) fun h => et_le (e_wt c1 hr (ev_var 4 rv') (ev_var 1 r2') hp b2) (e_wt c1 hr (ev_ixL (ev_var 3 d) (ev_neg ev_int) atI_last) (ev_var 1 r2') (hst a List.mem_cons_self) b2)).to (by simp [skipB])
    · obtain ⟨sU, hH2⟩ := mL_up s2 nM hH
      refine ⟨sU, some v, vs, rfl, hH2, ?_⟩
      rw [envStep_eq, if_pos hk2]
      exact sU.reps rs
    · obtain ⟨sU, hH2⟩ := mL_up s2 nM hH
      refine wb_cons (ws_while (fun n σ'' H'' => ∃ st' vs', σ'' = [some v1, some v2, some v3, some (.ref l), some v] ∧ n = st'.length ∧ Step (mL m l) H2 H'' ∧ H'' l = some (.lst vs') ∧ Reps K (mL m l).M H'' vs' st'.reverse ∧ popW x.h x.t.h p st' = popW x.h x.t.h p st ∧ (∀ c, c ∈ st' → Sm2 100 c) ∧ st'.length ≤ 100000)
        ⟨st, vs, rfl, rfl, Step.refl sU.j, hH2, sU.reps rs, rfl, hst, hln⟩ ?_)
      rintro n σ'' H'' ⟨st', vs', rfl, rfl, s3, hH3, rs3, hpop, hst3, hln3⟩
      have d3 := mL_dat nM hH3 rs3
      have s13 := s1.trans (sU.trans s3)
      have r1c := mL_back (s13.rep r1)
      have r2c := mL_back (s13.rep r2)
      have rvc := mL_back ((sU.trans s3).rep rv)
      refine ⟨m, popB x.h x.t.h p st', s3.j.1, ?_, fun H4 s4 hk4 => ?_, fun H4 s4 hk4 => ?_⟩
      · match st', d3, hst3 with
        | [], d3, hst3 => exact (et_and (l := false) (et_gt (ev_len (C.none _ (by decide)) (ev_var 3 d3)) ev_int) fun h => (by simp at h)).to (by simp [popB])
        | [a], d3, hst3 => exact (et_and (l := false) (et_gt (ev_len (C.none _ (by decide)) (ev_var 3 d3)) ev_int) fun h => (by simp at h)).to (by simp [popB])
        | a :: b :: r, d3, hst3 =>
          rw [List.reverse_cons, List.reverse_cons] at d3
          exact (et_and (et_gt (ev_len (C.none _ (by decide)) (ev_var 3 d3)) ev_int) fun _ => et_not (t_bent c2 hr (ev_ixL (ev_var 3 d3) (ev_neg ev_int) atI_last2) (ev_ixL (ev_var 3 d3) (ev_neg ev_int) atI_last) (ev_var 4 rvc) (ev_var 0 r1c) (ev_var 1 r2c) ⟨hst3 b (by simp), hst3 a (by simp), hp, b1, b2⟩)).to (by simp [popB]; omega)
      · obtain ⟨sV, hH4⟩ := mL_up s4 nM hH3
        match st', hk4, rs3, hpop, hst3, hln3 with
        | a :: b :: r, hk4, rs3, hpop, hst3, hln3 =>
          rw [List.reverse_cons] at rs3
          obtain ⟨vs2, va, rfl, rs4, ra⟩ := reps_unsnoc rs3
          have su : Step (mL m l) H4 (upd H4 l (.lst vs2)) := mL_upd sV.j nM
          refine wb_one (ws_pop 3 hH4 ⟨(b :: r).length, Nat.lt_succ_self _, b :: r, vs2, rfl, rfl, s3.trans (sV.trans su), upd_same, (sV.trans su).reps rs4, ?_, fun c hc => hst3 c (List.mem_cons_of_mem _ hc), ?_⟩)
          · rw [← hpop, popW_go hk4]
          · simp only [List.length_cons] at hln3 ⊢
            omega
      · obtain ⟨sV, hH4⟩ := mL_up s4 nM hH3
        have hlen : vs'.length < 1000000 := by
          rw [reps_len rs3, List.length_reverse]
          omega
        refine wb_one (ws_append (m := mL m l) (j := sV.j) 3 hH4 hlen (ev_var 4 ((sU.trans (s3.trans sV)).rep rv)) fun u H5 z ex pz rz => ?_)
        have s5 : Step (mL m l) H4 H5 := Step.ex sV.j ex
        have su : Step (mL m l) H5 (upd H5 l (.lst (vs' ++ [u]))) := mL_upd s5.j nM
        refine ⟨sU.trans (s3.trans (sV.trans (s5.trans su))), some v, _, rfl, upd_same, ?_⟩
        rw [envStep_eq, if_neg (by rw [hk2]; decide), ← hpop, popW_stop hk4, List.reverse_cons]
        subst pz
        exact reps_snoc ((sV.trans (s5.trans su)).reps rs3) (su.rep rz)
end
end HK
set_option Elab.async false
set_option linter.all false
set_option maxRecDepth 100000
/-! F4: over walked. -/
namespace HK
open PySem PySem.Spec PyProof.Rows L2 LamX
open Rep Arg
section
variable {X : Cx} {m : Mode} {σ : L2.St} {H : Hp} {a b c d e : Expr} {pos p : Pos} {j : Nat}
theorem ev_maxL {n : Str} {p : Pos} {ns : List Int} (C : Consts X.K X.mg) (ha : EvD X m a σ H ns) (h0 : ns ≠ []) (hn0 : n = "max" := by rfl) (hc : X.calm = true := by rfl) (hg : Gl X n := by rfl) (na : NS a := by exact fun _ _ => rfl) : EvD X m (.Call (.Name n p) [a] [] pos) σ H (maxL ns) := by
  subst hn0
  exact (ev_max (C.none _ (by decide)) ha (List.length_pos_iff.mpr h0) hc (by decide +kernel) hg (by decide) (by decide) na).imp fun z h => maxL_eq h.1 h.2
theorem e_env {Pt : Addr} {u1 u2 : P2} {u3 : List P2} (c1 : CEnv X.prog X.w X.K X.mg X.base Pt) (hT : HasTab m Pt qEnv) (hr : Room j X.A) (h1 : EvD X m a σ H u1) (h2 : EvD X m b σ H u2) (h3 : EvD X m c σ H u3) (k : Sm2 100 u1 ∧ Sm2 100 u2 ∧ okL u3) (hk : 5 ≤ j := by decide)
    (na : NS a := by exact fun _ _ => rfl) (nb : NS b := by exact fun _ _ => rfl) (nc : NS c := by exact fun _ _ => rfl) (hg : Gl X "envelope" := by rfl) (he : starEach [a, b, c] X.env = (false, eval a X.env) :: starEach [b, c] X.env := by rfl) (hpl : (backTo pos (starEach [b, c] X.env)).any (·.1) = false := by rfl) :
    EvD X m (.Call (.Name "envelope" p) [a, b, c] [] pos) σ H (Tup.mk (envelopeF u1 u2 u3)) := ev_callq (t := A.mk u1 (A.mk u2 (A.mk u3 ()))) c1 hT hr (el3 h1 h2 h3 na nb nc) k hk hg (by decide) he hpl
theorem e_over {Pt : Addr} {u1 u2 : P2} {u3 : List P2} (c1 : COver X.prog X.w X.K X.mg X.base Pt) (hT : HasTab m Pt qEnv) (hr : Room j X.A) (h1 : EvD X m a σ H u1) (h2 : EvD X m b σ H u2) (h3 : EvD X m c σ H u3) (k : Sm2 100 u1 ∧ Sm2 100 u2 ∧ okL u3 ∧ u3 ≠ []) (hk : 6 ≤ j := by decide)
    (na : NS a := by exact fun _ _ => rfl) (nb : NS b := by exact fun _ _ => rfl) (nc : NS c := by exact fun _ _ => rfl) (hg : Gl X "over" := by rfl) (he : starEach [a, b, c] X.env = (false, eval a X.env) :: starEach [b, c] X.env := by rfl) (hpl : (backTo pos (starEach [b, c] X.env)).any (·.1) = false := by rfl) :
    EvD X m (.Call (.Name "over" p) [a, b, c] [] pos) σ H (overF u1 u2 u3) := ev_callq (t := A.mk u1 (A.mk u2 (A.mk u3 ()))) c1 hT hr (el3 h1 h2 h3 na nb nc) k hk hg (by decide) he hpl
end
section
variable {P : Program} {w : World} {K : PySem.W.Frag} {mg : Str → Option Value} {base : Heap}
theorem ok_over {Pt : Addr} (C : Consts K mg) (c1 : CWeight P w K mg base) (c2 : CEnv P w K mg base Pt) (F : FnX K mg "over" sOverD ["low", "high", "pairs"]) : COver P w K mg base Pt := .of F <| by
  have S := scOver
  refine fn_okQ F S (fun K M H vs x r => rl3 x r) fun cdv A outer s H E m vs x Q hcd hr j hT r ⟨b1, b2, b3, b4⟩ q => ?_
  obtain ⟨v1, v2, v3, rfl, r1, r2, r3⟩ := rp3 r
  refine wb_cons (ws_if (et_eqD (α := P2) hr (ev_var 0 r1) (ev_var 1 r2)) j (fun H1 s1 hk => ?_) fun H1 s1 hk => wb_nil ?_)
  · have he : x.h = x.t.h := by simpa using hk
    refine wb_one (ws_ret (ev_frAt (ev_var 0 (s1.rep r1)) (ev_maxL C (ev_lc0L 3 (fun c => wt c x.h) (ev_var 2 (s1.rep r3)) (Nat.le_trans b3.1 (by decide)) (show BlkOk ["low", "high", "pairs", "pair"] (defScope sOverD) _ [("pair", 3)] from blkOk_by (by decide +kernel)) fun m' s0 H0 C' cl fp v c H' up j' hc rv => ?_) ?_)) s1.j fun v H2 z s2 pz rz => q v H2 z (s1.trans s2) ?_ rz)
    · exact e_wt c1 hr (ev_var 3 rv) (ev_var 0 (up (s1.rep r1))) (b3.2 _ hc) b1
    · simpa using b4
    · rw [pz]
      unfold overF
      rw [if_pos he]
  · have he : ¬ x.h = x.t.h := by simpa using hk
    refine wb_one (ws_ret (ev_frOver (cs := envelopeF x.h x.t.h x.t.t.h) (ev_var 0 (s1.rep r1)) (ev_var 1 (s1.rep r2)) (e_env c2 hT hr (ev_var 0 (s1.rep r1)) (ev_var 1 (s1.rep r2)) (ev_var 2 (s1.rep r3)) ⟨b1, b2, b3⟩)) s1.j fun v H2 z s2 pz rz => q v H2 z (s1.trans s2) ?_ rz)
    rw [pz]
    unfold overF
    rw [if_neg he]
end
end HK
set_option Elab.async false
set_option linter.all false
set_option maxRecDepth 100000
/-! E9: expressions that change what may change: families of modes. -/
namespace HK
open PySem PySem.Spec PyProof.Rows L2 LamX
open Rep Arg
/-- what M does not hold is kept -/
abbrev Kp (M : Addr → Prop) (H H' : Hp) : Prop := ∀ b o, ¬ M b → H b = some o → H' b = some o
theorem Kp.trans {M : Addr → Prop} {H H1 H2 : Hp} (a : Kp M H H1) (b : Kp M H1 H2) : Kp M H H2 := fun c o n h => b c o n (a c o n h)
theorem Kp.refl {M : Addr → Prop} {H : Hp} : Kp M H H := fun _ _ _ h => h
structure Fam where
  M : Addr → Prop
  J : Nat → Hp → Prop
  ex : ∀ (n : Nat) {H H' : Hp}, Ex H H' → J n H → J n H'
  live : ∀ (n : Nat) {H : Hp} {a : Addr}, J n H → M a → H a ≠ none
  lst : ∀ (n : Nat) {H : Hp} {a : Addr} {vs ws : List V}, ¬ M a → H a = some (.lst vs) → J n H → J n (upd H a (.lst ws))
abbrev Fam.at (F : Fam) (n : Nat) : Mode := ⟨F.M, F.J n, F.ex n, F.live n, F.lst n⟩
/-- e goes from the n-th mode to the n'-th -/
def Ev2 (X : Cx) (F : Fam) (n n' : Nat) (e : Expr) (σ : L2.St) (H : Hp) {α : Type} [Rep α] (P : α → Prop) : Prop :=
  ∀ H1, Step (F.at n) H H1 → ∀ Q : VK, (∀ v H2 x, Kp F.M H1 H2 → F.J n' H2 → P x → rep X.K F.M H2 v x → Q v H2) → WE X e σ H1 Q
def EvT2 (X : Cx) (F : Fam) (n n' : Nat) (e : Expr) (σ : L2.St) (H : Hp) (b : Bool) : Prop :=
  ∀ H1, Step (F.at n) H H1 → ∀ Q : Bool → Hp → Prop, (∀ H2, Kp F.M H1 H2 → F.J n' H2 → Q b H2) → WT X e σ H1 Q
section
variable {X : Cx} {F : Fam} {n n' n1 n2 : Nat} {σ : L2.St} {H : Hp} {D : Ends} {a b c e iter : Expr} {body orelse : List Stmt} {pos p2 px : Pos} {xn : Str} {α β : Type} [Rep α] [Rep β]
theorem ev2_of {P : α → Prop} (h : Ev X (F.at n) e σ H P) : Ev2 X F n n e σ H P := fun H1 s1 Q q => h H1 s1 Q fun v H2 x s2 px rx => q v H2 x s2.keep s2.j px rx
theorem Ev2.up {P : α → Prop} (h : Ev2 X F n n1 e σ H P) (k : ∀ H, F.J n1 H → F.J n2 H) : Ev2 X F n n2 e σ H P := fun H1 s1 Q q => h H1 s1 Q fun v H2 x k2 j2 px rx => q v H2 x k2 (k H2 j2) px rx
theorem Ev2.imp {P P' : α → Prop} (h : Ev2 X F n n1 e σ H P) (k : ∀ x, P x → P' x) : Ev2 X F n n1 e σ H P' := fun H1 s1 Q q => h H1 s1 Q fun v H2 x k2 j2 px rx => q v H2 x k2 j2 (k x px) rx
/-- an answer's pair -/
theorem ev2_most1 {p : P2} {k : Nat} (ha : Ev2 X F n n' a σ H (fun y => y = Ans.most p)) : Ev2 X F n n' (.Subscript a (.Constant (.int 1) k p2) pos) σ H (fun y : P2 => y = p) := fun H1 s1 Q q =>
  we_of (pe_ix ix_tup pe_w pe_w (by exact fun _ _ => rfl)) (ha H1 s1 _ fun v H2 x' k2 j2 pe rx => we_of pe_int (by
    subst pe
    obtain ⟨w, v1, e, t, r⟩ := rx
    subst e
    exact ⟨w, _, 1, v1, rfl, rfl, t.sq, rfl, q v1 H2 p k2 j2 rfl r⟩))
theorem et2_isNA {x : Ans} {k : Nat} (ha : Ev2 X F n n' a σ H (fun y => y = x)) : EvT2 X F n n' (.Compare a [.Is] [.Constant .none k p2] pos) σ H (isNoneA x) := fun H1 s1 Q q =>
  wt_of (pt_cmpR op_isN pe_w pe_w (nomark _)) (ha H1 s1 _ fun v H2 x' k2 j2 pe rx => we_of pe_non ⟨rfl, _, rfl, by
    subst pe
    cases x' with
    | none => cases (show v = V.non from rx); exact q H2 k2 j2
    | gains p => obtain ⟨p, v1, e, _⟩ := rx; subst e; exact q H2 k2 j2
    | most p => obtain ⟨p, v1, e, _⟩ := rx; subst e; exact q H2 k2 j2⟩)
theorem ws2_set (i : Nat) {x : Str} {pos' : Pos} {P : α → Prop} (he : Ev2 X F n n' e σ H P) (j : F.J n H) (k : ∀ v H' z, Kp F.M H H' → F.J n' H' → P z → rep X.K F.M H' v z → D.nx (σ.set i (some v)) H') (hN : X.N.Nodup := by first | assumption | exact FnScope.nd (by assumption)) (hi : X.N[i]? = some x := by rfl) (hx : Loc X.env.scope x := by first | exact Or.inl rfl | exact Or.inr rfl)
    (hs : swapsWith e (some (.Name x pos')) pos.line X.env = pure false := by rfl) (hf : X.fn x = true ∨ X.env.scope.names.lookup x = some .local := by first | exact .inl rfl | exact .inr rfl) : WS X (.Assign [.Name x pos'] e pos) D σ H :=
  ws_of (ps_set hN hi hx pe_w hs hf) (he H (Step.refl j) _ fun v H' z k2 j2 pz rz => k v H' z k2 j2 pz rz)
theorem ws2_if {k : Bool} (hc : EvT2 X F n n' c σ H k) (j : F.J n H) (h1 : ∀ H', Kp F.M H H' → F.J n' H' → k = true → WB X body D σ H') (h2 : ∀ H', Kp F.M H H' → F.J n' H' → k = false → WB X orelse D σ H') : WS X (.If c body orelse pos) D σ H :=
  ws_of (ps_if pt_w pss_w pss_w) (hc H (Step.refl j) _ fun H' k2 j2 => by
    cases k with
    | true => exact iteT (h1 H' k2 j2 rfl)
    | false => exact iteF (h2 H' k2 j2 rfl))
/-- x = [a, b], a list of one's own -/
theorem ws2_lst2 (i : Nat) {x : Str} {pos' lp : Pos} {Pa Pb : α → Prop} (ha : Ev2 X F n n1 a σ H Pa) (hb : ∀ H', Kp F.M H H' → F.J n1 H' → Ev2 X F n1 n2 b σ H' Pb) (j : F.J n H) (k : ∀ v1 v2 H' x1 x2 l, Kp F.M H H' → F.J n2 H' → Pa x1 → Pb x2 → rep X.K F.M H' v1 x1 → rep X.K F.M H' v2 x2 → H' l = none → D.nx (σ.set i (some (.ref l))) (upd H' l (.lst [v1, v2])))
    (hN : X.N.Nodup := by first | assumption | exact FnScope.nd (by assumption)) (hi : X.N[i]? = some x := by rfl) (hx : Loc X.env.scope x := by first | exact Or.inl rfl | exact Or.inr rfl) (na : NS a := by exact fun _ _ => rfl) (nb : NS b := by exact fun _ _ => rfl)
    (hs : swapsWith (.List [a, b] lp) (some (.Name x pos')) pos.line X.env = pure false := by rfl) (hf : X.fn x = true ∨ X.env.scope.names.lookup x = some .local := by first | exact .inl rfl | exact .inr rfl) : WS X (.Assign [.Name x pos'] (.List [a, b] lp) pos) D σ H :=
  ws_of (ps_set hN hi hx (pe_lst (pa_cons pe_w (pa_cons pe_w pa_nil (nb _ _)) (na _ _))) hs hf) (ha H (Step.refl j) _ fun v1 H1 x1 k1 j1 p1 r1 => hb H1 k1 j1 H1 (Step.refl j1) _ fun v2 H2 x2 k2 j2 p2 r2 => ⟨two_le, fun l nl => k v1 v2 H2 x1 x2 l (k1.trans k2) j2 p1 p2 (mono k2 r1) r2 nl⟩)
/-- x = [a], a list of one's own -/
theorem ws_lst1 {m : Mode} (i : Nat) {x : Str} {pos' lp : Pos} {Pa : α → Prop} (ha : Ev X m a σ H Pa) (j : m.J H) (k : ∀ v H' z l, Step m H H' → Pa z → rep X.K m.M H' v z → H' l = none → D.nx (σ.set i (some (.ref l))) (upd H' l (.lst [v])))
    (hN : X.N.Nodup := by first | assumption | exact FnScope.nd (by assumption)) (hi : X.N[i]? = some x := by rfl) (hx : Loc X.env.scope x := by first | exact Or.inl rfl | exact Or.inr rfl) (na : NS a := by exact fun _ _ => rfl)
    (hs : swapsWith (.List [a] lp) (some (.Name x pos')) pos.line X.env = pure false := by rfl) (hf : X.fn x = true ∨ X.env.scope.names.lookup x = some .local := by first | exact .inl rfl | exact .inr rfl) : WS X (.Assign [.Name x pos'] (.List [a] lp) pos) D σ H :=
  ws_of (ps_set hN hi hx (pe_lst (pa_cons pe_w pa_nil (na _ _))) hs hf) (ha H (Step.refl j) _ fun v1 H1 x1 s1 p1 r1 => ⟨one_le, fun l nl => k v1 H1 x1 l s1 p1 r1 nl⟩)
/-- for x in xs, a tuple; the body may change what it may -/
theorem ws_forT2 {m : Mode} (i : Nat) {xs : Tup α} (he : EvD X m iter σ H xs) (j : m.J H) (I : Nat → L2.St → Hp → Prop) (h0 : ∀ H', Step m H H' → I 0 σ H')
    (turn : ∀ (k : Nat) (x : α) (v : V) (σ' : L2.St) (H' : Hp), xs.l[k]? = some x → Kp m.M H H' → I k σ' H' → rep X.K m.M H' v x →
      WB X body { D with nx := fun σ2 H2 => Kp m.M H' H2 ∧ I (k + 1) σ2 H2, ct := fun σ2 H2 => Kp m.M H' H2 ∧ I (k + 1) σ2 H2, bk := D.nx } (σ'.set i (some v)) H')
    (hend : ∀ σ' H', Kp m.M H H' → I xs.l.length σ' H' → D.nx σ' H') (hN : X.N.Nodup := by first | assumption | exact FnScope.nd (by assumption)) (hc : X.calm = true := by rfl) (hp : PassesOwn (model X.prog X.w) X.A X.env X.xe := by exact PassesOwn.never)
    (hi : X.N[i]? = some xn := by rfl) (hx : Loc X.env.scope xn := by first | exact Or.inl rfl | exact Or.inr rfl) (hf : X.fn xn = true ∨ X.env.scope.names.lookup xn = some .local := by first | exact .inl rfl | exact .inr rfl)
    (hs : ∀ x, foldedSetIterable iter X.env x = pure x := by intro _; rfl) : WS X (.For (.Name xn px) iter body [] pos) D σ H :=
  ws_of (ps_for hp hc (pi_tup pe_w) (pg_name hN hi hx hf) pss_w hs) (he H (Step.refl j) _ fun v H1 x s1 pe ⟨a, vs, e, t, rs⟩ => by
    subst pe
    refine ⟨a, e, ⟨vs, t.sq⟩, for_tup (xs := vs) (fun k σ' H' => Kp m.M H1 H' ∧ I k σ' H') ⟨.refl, h0 H1 s1⟩ (fun k σ' H' _ p => (t.mono p.1).sq) (fun k w σ' H' hk p => ?_) fun σ' H' p => ?_⟩
    · obtain ⟨y, hy, ry⟩ := reps_back (reps_mono p.1 rs) hk
      exact wb_mono (turn k y w σ' H' hy (Kp.trans s1.keep p.1) p.2 ry) (fun _ _ q => ⟨Kp.trans p.1 q.1, q.2⟩) (fun _ _ q => q) (fun _ _ q => q) fun _ _ q => ⟨Kp.trans p.1 q.1, q.2⟩
    · rw [reps_len rs] at p
      exact hend σ' H' (Kp.trans s1.keep p.1) p.2)
end
/-- a pair of ints: its tuple is no list -/
theorem p2_shift {K : PySem.W.Frag} {M M' : Addr → Prop} {H : Hp} {v : V} {x : P2} (hs : ∀ b xs, M' b → H b = some (.tup xs) → M b) (r : rep K M H v x) : rep K M' H v x := by
  obtain ⟨a, v1, v2, e, t, r1, r2⟩ := r
  refine ⟨a, v1, v2, e, ?_, r1, r2⟩
  rcases t with ⟨n, h⟩ | h
  · exact .inl ⟨fun z => n (hs a _ z h), h⟩
  · exact .inr h
end HK
set_option Elab.async false
set_option linter.all false
set_option maxRecDepth 100000
/-! F5: by_asking walked. -/
namespace HK
open PySem PySem.Spec PyProof.Rows L2 LamX
open Rep Arg
abbrev sByAsking : Stmt := topS 17
abbrev nBy : List Str := ["asks", "stretch", "end", "answer", "low", "high", "found", "waiting", "ahead", "one", "behind", "other", "price", "most"]
theorem scByAsking : FnScope nBy ["asks"] (defScope sByAsking) := ⟨rfl, rfl, rfl, by decide +kernel, rfl, by decide +kernel, by decide +kernel⟩
theorem okP_sm {t : P2} (h : okP t = true) : Sm2 100 t := by
  unfold okP at h
  simp only [Bool.and_eq_true, decide_eq_true_eq] at h
  exact h.2.mono (by omega)
theorem okC_sm {t : P2} (h : okC t = true) : Sm2 45 t := by
  unfold okC at h
  exact of_decide_eq_true h
section
variable {X : Cx} {m : Mode} {σ : L2.St} {H : Hp} {a b c d e : Expr} {pos p : Pos} {j : Nat}
theorem e_alike {u t : P2} (c1 : CAlike X.prog X.w X.K X.mg X.base) (hr : Room j X.A) (ha : EvD X m a σ H u) (hb : EvD X m b σ H t) (h1 : Sm2 100 u) (h2 : Sm2 100 t) (hk : 2 ≤ j := by decide) (na : NS a := by exact fun _ _ => rfl) (nb : NS b := by exact fun _ _ => rfl) (hg : Gl X "alike_at" := by rfl) (he : starEach [a, b] X.env = (false, eval a X.env) :: starEach [b] X.env := by rfl) (hpl : (backTo pos (starEach [b] X.env)).any (·.1) = false := by rfl) :
    EvD X m (.Call (.Name "alike_at" p) [a, b] [] pos) σ H (alikeAt u t) := ev_call c1 hr (el2 ha hb na nb) ⟨h1, h2⟩ hk hg (by decide) he hpl
theorem e_freeW {u : Str2} {g : P2} (c1 : CFreeW X.prog X.w X.K X.mg X.base) (hr : Room j X.A) (ha : EvD X m a σ H u) (hb : EvD X m b σ H [g]) (h1 : Sm2 100 u.1) (h2 : Sm2 100 u.2) (h3 : Sm2 99 g) (hk : 3 ≤ j := by decide) (na : NS a := by exact fun _ _ => rfl) (nb : NS b := by exact fun _ _ => rfl) (hg : Gl X "free_within" := by rfl) (he : starEach [a, b] X.env = (false, eval a X.env) :: starEach [b] X.env := by rfl) (hpl : (backTo pos (starEach [b] X.env)).any (·.1) = false := by rfl) :
    EvD X m (.Call (.Name "free_within" p) [a, b] [] pos) σ H (freeW (some u) [g]) := ev_call c1 hr (el2 ha hb na nb) ⟨h1, h2, g, rfl, h3⟩ hk hg (by decide) he hpl
/-- stretch[end] -/
theorem ev_end {st : Str2} {k : Bool} {n : Int} (ha : EvD X m a σ H st) (hb : EvD X m b σ H n) (hn : n = if k then 1 else 0) (hs : PlainIx b := by exact fun _ _ => rfl) : EvD X m (.Subscript a b pos) σ H (if k then st.2 else st.1) :=
  ev_ixT ha hb (fun H1 v ⟨p, v1, v2, e, t, r1, r2⟩ => by
    cases k with
    | true => subst hn; exact ⟨p, _, v2, e, t, rfl, r2⟩
    | false => subst hn; exact ⟨p, _, v1, e, t, rfl, r1⟩) hs
end
/-- the rule for asks(e) -/
def AskR (X : Cx) (F : Fam) (f : Addr) (ans : P2 → Ans) (B : Nat) : Prop := ∀ (n : Nat) (σ : L2.St) (H : Hp) (e : Expr) (t : P2) (p1 pos : Pos), n < B → σ[0]? = some (some (.ref f)) → okP t = true → EvD X (F.at n) e σ H t → NS e → Ev2 X F n (n + 1) (.Call (.Name "asks" p1) [e] [] pos) σ H (fun y => y = ans t)
theorem tagA_g {m : Mode} {X : Cx} {σ : L2.St} {H : Hp} {a : Expr} {pos p1 p2 p3 : Pos} {k k2 : Nat} {g : P2} (ha : EvD X m a σ H (Ans.gains g)) : EvT X m (.Compare (.Subscript a (.Constant (.int 0) k p1) pos) [.Eq] [.Constant (.str "gains") k2 p2] p3) σ H true :=
  (et_eqV (ev_tagA (F := Ans.gains g) (fun h => nomatch h) ha ev_int) ev_str rfl).to rfl
theorem tagA_m {m : Mode} {X : Cx} {σ : L2.St} {H : Hp} {a : Expr} {pos p1 p2 p3 : Pos} {k k2 : Nat} {g : P2} (ha : EvD X m a σ H (Ans.most g)) : EvT X m (.Compare (.Subscript a (.Constant (.int 0) k p1) pos) [.Eq] [.Constant (.str "gains") k2 p2] p3) σ H false :=
  (et_eqV (ev_tagA (F := Ans.most g) (fun h => nomatch h) ha ev_int) ev_str rfl).to rfl
section
variable {P : Program} {w : World} {K : PySem.W.Frag} {mg : Str → Option Value} {base : Heap}
abbrev xBy (P : Program) (w : World) (K : PySem.W.Frag) (mg : Str → Option Value) (base : Heap) (g : Addr) (cdv : Value) (A : Around) (outer : List Env) (s : Shared) (H : Hp) (E : XK) : Cx := bcx P w K mg base nBy "by_asking" sByAsking g cdv A outer s H E
abbrev slots10 : L2.St := [none, none, none, none, none, none, none, none, none, none]
/-- one end of the free stretch: the body of the for -/
def endBody : List Stmt := match (defBody sByAsking)[2]? with
  | some (Stmt.For _ _ b _ _) => b
  | _ => []
theorem ph1_ok {ans : P2 → Ans} {k : Bool} {n : Nat} {st : Str2} {r : Option Str2} (h : ph1 ans k (n + 1) st = some r) : okP (if k then st.2 else st.1) = true ∧ okP st.1 = true ∧ okP st.2 = true ∧
    ((∃ g, ans (if k then st.2 else st.1) = .gains g ∧ okC g = true ∧ ((freeW (some st) [g] = none ∧ r = none) ∨ ∃ st2, freeW (some st) [g] = some st2 ∧ ph1 ans k n st2 = some r)) ∨ ∃ p, ans (if k then st.2 else st.1) = .most p ∧ r = some st) := by
  rw [ph1] at h
  by_cases c : (okP (if k = true then st.2 else st.1) && okP st.1 && okP st.2) = true
  · rw [if_pos c] at h
    simp only [Bool.and_eq_true] at c
    refine ⟨c.1.1, c.1.2, c.2, ?_⟩
    cases ha : ans (if k = true then st.2 else st.1) with
    | none => rw [ha] at h; simp at h
    | most p => rw [ha] at h; exact .inr ⟨p, rfl, by simpa using h.symm⟩
    | gains g =>
      rw [ha] at h
      simp only at h
      by_cases cg : okC g = true
      · rw [if_pos cg] at h
        refine .inl ⟨g, rfl, cg, ?_⟩
        cases hf : freeW (some st) [g] with
        | none => rw [hf] at h; exact .inl ⟨rfl, by simpa using h.symm⟩
        | some st2 => rw [hf] at h; exact .inr ⟨st2, rfl, h⟩
      · rw [if_neg cg] at h
        cases h
  · rw [if_neg c] at h
    cases h
theorem ph1_succ {ans : P2 → Ans} {k : Bool} {n : Nat} {st : Str2} {r : Option Str2} (h : ph1 ans k n st = some r) : ∃ n', n = n' + 1 := by
  cases n with
  | zero => simp [ph1] at h
  | succ n => exact ⟨n, rfl⟩
theorem end_walk {g f : Addr} {cdv : Value} {A : Around} {outer : List Env} {s : Shared} {H0 H : Hp} {E : XK} {F : Fam} {ans : P2 → Ans} {B : Nat} {D : Ends} {v1 v2 : V} {w3 : Option V} {st : Str2} {k : Bool} {x : Int} {n idx : Nat} {r : Option Str2}
    (C : Consts K mg) (c1 : CFreeW P w K mg base) (hr : Room 6 (A.deeper (envOfC "by_asking" (defScope sByAsking) s.heap.objs.size g cdv))) (ask : AskR (xBy P w K mg base g cdv A outer s H0 E) F f ans B)
    (hx : x = if k then 1 else 0) (hph : ph1 ans k n st = some r) (hB : idx + n ≤ B) (j : F.J idx H) (r1 : rep K F.M H v1 st) (r2 : rep K F.M H v2 x)
    (hn : ∀ v1' v3 H' st' idx', r = some st' → idx ≤ idx' → idx' ≤ idx + n → Kp F.M H H' → F.J idx' H' → rep K F.M H' v1' st' → D.nx (some (.ref f) :: some v1' :: some v2 :: some v3 :: slots10) H')
    (he : ∀ v H' idx', r = none → idx ≤ idx' → idx' ≤ idx + n → Kp F.M H H' → F.J idx' H' → rep K F.M H' v Fr.endless → D.rt v H') :
    WB (xBy P w K mg base g cdv A outer s H0 E) endBody D (some (.ref f) :: some v1 :: some v2 :: w3 :: slots10) H := by
  have S := scByAsking
  obtain ⟨n, rfl⟩ := ph1_succ hph
  have hok := (ph1_ok hph).1
  show WB _ (_ :: _ :: []) D _ H
  refine wb_cons (ws2_set 3 (ask idx _ _ _ _ _ _ (by omega) rfl hok (ev_end (ev_var 1 r1) (ev_var 2 r2) hx) (by exact fun _ _ => rfl)) j fun v3 H1 a k1 j1 pa ra => ?_)
  refine wb_one (ws_while (fun μ σ' H' => ∃ v1' v3' st' a' idx', σ' = some (.ref f) :: some v1' :: some v2 :: some v3' :: slots10 ∧ a' = ans (if k then st'.2 else st'.1) ∧ ph1 ans k (μ + 1) st' = some r ∧ idx ≤ idx' ∧ idx' + μ ≤ idx + (n + 1) ∧ Kp F.M H H' ∧ F.J idx' H' ∧ rep K F.M H' v1' st' ∧ rep K F.M H' v3' a')
    ⟨v1, v3, st, a, idx + 1, rfl, pa, hph, by omega, by omega, k1, j1, mono k1 r1, ra⟩ ?_)
  rintro μ σ' H' ⟨v1', v3', st', a', idx', rfl, ha', hph', hi1, hi2, kp, j', r1', r3'⟩
  obtain ⟨_, hk1, hk2, hca⟩ := ph1_ok hph'
  rcases hca with ⟨gp, hag, hg, hfr⟩ | ⟨p, hap, hrr⟩
  · rw [← ha'] at hag
    subst hag
    refine ⟨F.at idx', true, j', tagA_g (ev_var 3 r3'), fun H2 s2 _ => ?_, fun _ _ h => (by simp at h)⟩
    have sg := okC_sm hg
    refine wb_cons (ws_set 1 (e_freeW c1 hr (ev_var 1 (s2.rep r1')) (ev_lst1 (ev_gains1 (ev_var 3 (s2.rep r3')) ev_int)) (okP_sm hk1) (okP_sm hk2) (sg.mono (by omega))) s2.j fun v4 H3 z s3 pz rz => ?_)
    have kp3 : Kp F.M H H3 := Kp.trans kp (Kp.trans s2.keep s3.keep)
    rw [← pz] at hfr
    refine wb_cons (ws_if (et_isN (ev_var 1 rz)) s3.j (fun H4 s4 hz => ?_) fun H4 s4 hz => wb_nil ?_)
    · have e : z = none := by simpa using hz
      have hr0 : r = none := by
        rcases hfr with h | ⟨st2, h, _⟩
        · exact h.2
        · rw [e] at h; cases h
      exact wb_one (ws_ret (ev_endless C) s4.j fun v H5 z5 s5 p5 r5 => he v H5 idx' hr0 hi1 (by omega) (Kp.trans kp3 (Kp.trans s4.keep s5.keep)) s5.j (by rw [← p5]; exact r5))
    · obtain ⟨st2, e, hph2⟩ : ∃ st2, z = some st2 ∧ ph1 ans k μ st2 = some r := by
        rcases hfr with h | h
        · rw [h.1] at hz; simp at hz
        · exact h
      subst e
      obtain ⟨μ, rfl⟩ := ph1_succ hph2
      have r4 : rep K F.M H4 v4 st2 := (s4.rep rz).2
      refine wb_one (ws2_set 3 (ask idx' _ _ _ _ _ _ (by omega) rfl (ph1_ok hph2).1 (ev_end (ev_var 1 r4) (ev_var 2 (show rep K F.M H4 v2 x from r2)) hx) (by exact fun _ _ => rfl)) s4.j fun v5 H5 a5 k5 j5 pa5 ra5 => ?_)
      exact ⟨μ, Nat.lt_succ_self _, v4, v5, st2, a5, idx' + 1, rfl, pa5, hph2, by omega, by omega, Kp.trans kp3 (Kp.trans s4.keep k5), j5, mono k5 r4, ra5⟩
  · rw [← ha'] at hap
    subst hap
    refine ⟨F.at idx', false, j', tagA_m (ev_var 3 r3'), fun _ _ h => (by simp at h), fun H2 s2 _ => ?_⟩
    exact hn v1' v3' H2 st' idx' hrr hi1 (by omega) (Kp.trans kp s2.keep) s2.j (s2.rep r1')
end
end HK
set_option Elab.async false
set_option linter.all false
set_option maxRecDepth 100000
/-! F6: by_asking's search walked; the whole. -/
namespace HK
open PySem PySem.Spec PyProof.Rows L2 LamX
open Rep Arg
/-- a mode for its M alone -/
def mM (M : Addr → Prop) : Mode := ⟨M, fun _ => False, fun _ h => h, fun h => h.elim, fun _ _ h => h.elim⟩
theorem w4_shift {K : PySem.W.Frag} {M M' : Addr → Prop} {H : Hp} {v : V} {x : Wait} (hs : ∀ b xs, M' b → H b = some (.tup xs) → M b) (r : rep K M H v x) : rep K M' H v x := by
  obtain ⟨a, v1, v2, v3, v4, e, t, r1, r2, r3, r4⟩ := r
  refine ⟨a, v1, v2, v3, v4, e, ?_, p2_shift hs r1, p2_shift hs r2, p2_shift hs r3, p2_shift hs r4⟩
  rcases t with ⟨n, h⟩ | h
  · exact .inl ⟨fun z => n (hs a _ z h), h⟩
  · exact .inr h
theorem ph2_ok {ans : P2 → Ans} {n : Nat} {found : List P2} {w : Wait} {ws : List Wait} {r : List P2} (h : ph2 ans (n + 1) found (w :: ws) = some r) : okP w.a = true ∧ okP w.c = true ∧ okC w.b = true ∧ okC w.d = true ∧ found.length + ws.length < 100000 ∧
    ((alikeAt w.b w.d = none ∧ ph2 ans n found ws = some r) ∨ ∃ p, alikeAt w.b w.d = some p ∧ okP p = true ∧ (((leadsB w.a p && leadsB p w.c) = false ∧ ph2 ans n found ws = some r) ∨ ((leadsB w.a p && leadsB p w.c) = true ∧ ∃ m, ans p = .most m ∧ okC m = true ∧
      ((wt w.b p < wt m p ∧ ph2 ans n (found ++ [m]) (⟨p, m, w.c, w.d⟩ :: ⟨w.a, w.b, p, m⟩ :: ws) = some r) ∨ (¬ wt w.b p < wt m p ∧ ph2 ans n found ws = some r))))) := by
  rw [ph2] at h
  split at h
  · rename_i c
    simp only [Bool.and_eq_true, decide_eq_true_eq] at c
    refine ⟨c.1.1.1.1, c.1.1.1.2, c.1.1.2, c.1.2, c.2, ?_⟩
    cases ha : alikeAt w.b w.d with
    | none => rw [ha] at h; exact .inl ⟨rfl, h⟩
    | some p =>
      rw [ha] at h
      simp only at h
      split at h
      · rename_i cp
        refine .inr ⟨p, rfl, cp, ?_⟩
        split at h
        · rename_i cl
          refine .inr ⟨cl, ?_⟩
          cases hm : ans p with
          | none => rw [hm] at h; simp at h
          | gains g => rw [hm] at h; simp at h
          | most m =>
            rw [hm] at h
            simp only at h
            split at h
            · rename_i cm
              refine ⟨m, rfl, cm, ?_⟩
              split at h
              · rename_i cw; exact .inl ⟨cw, h⟩
              · rename_i cw; exact .inr ⟨cw, h⟩
            · cases h
        · rename_i cl
          exact .inl ⟨by simpa using cl, h⟩
      · cases h
  · cases h
theorem ph2_succ {ans : P2 → Ans} {n : Nat} {found : List P2} {ws : List Wait} {r : List P2} (h : ph2 ans n found ws = some r) : ∃ n', n = n' + 1 := by
  cases n with
  | zero => simp [ph2] at h
  | succ n => exact ⟨n, rfl⟩
section
variable {P : Program} {w : World} {K : PySem.W.Frag} {mg : Str → Option Value} {base : Heap}
def seekBody : List Stmt := match (defBody sByAsking)[6]? with
  | some (Stmt.While _ b _ _) => b
  | _ => []
/-- one turn of the search -/
theorem seek_walk {g f : Addr} {cdv : Value} {A : Around} {outer : List Env} {s : Shared} {H0 H : Hp} {E : XK} {F : Fam} {ans : P2 → Ans} {B : Nat} {D : Ends} {v4 v5 : V} {v1 v2 v3 w8 w9 w10 w11 w12 w13 : Option V} {lf lw : Addr} {vf vw : List V} {n idx : Nat} {found r : List P2} {x : Wait} {ws : List Wait}
    (c1 : CAlike P w K mg base) (c2 : CLeads P w K mg base) (c3 : CWeight P w K mg base) (hr : Room 6 (A.deeper (envOfC "by_asking" (defScope sByAsking) s.heap.objs.size g cdv))) (ask : AskR (xBy P w K mg base g cdv A outer s H0 E) F f ans B)
    (hph : ph2 ans (n + 1) found (x :: ws) = some r) (hB : idx < B) (j : F.J idx H) (nf : ¬ F.M lf) (nw : ¬ F.M lw) (hlf : H lf = some (.lst vf)) (hlw : H lw = some (.lst vw)) (hfw : lf ≠ lw) (rf : Reps K (fun b => F.M b ∨ b = lf ∨ b = lw) H vf found) (rw' : Reps K (fun b => F.M b ∨ b = lf ∨ b = lw) H vw (x :: ws).reverse)
    (hn : ∀ w8 w9 w10 w11 w12 w13 H' idx' vf' vw' found' ws', ph2 ans n found' ws' = some r → idx' ≤ idx + 1 → idx ≤ idx' → Kp (fun b => F.M b ∨ b = lf ∨ b = lw) H H' → F.J idx' H' → H' lf = some (.lst vf') → H' lw = some (.lst vw') → Reps K (fun b => F.M b ∨ b = lf ∨ b = lw) H' vf' found' → Reps K (fun b => F.M b ∨ b = lf ∨ b = lw) H' vw' ws'.reverse →
      D.nx [some (.ref f), v1, v2, v3, some v4, some v5, some (.ref lf), some (.ref lw), w8, w9, w10, w11, w12, w13] H') (hct : D.ct = D.nx) :
    WB (xBy P w K mg base g cdv A outer s H0 E) seekBody D [some (.ref f), v1, v2, v3, some v4, some v5, some (.ref lf), some (.ref lw), w8, w9, w10, w11, w12, w13] H := by
  have S := scByAsking
  obtain ⟨ok1, ok2, ok3, ok4, hlen, hcase⟩ := ph2_ok hph
  rw [List.reverse_cons] at rw'
  obtain ⟨vw2, vx, rfl, rw2, rx⟩ := reps_unsnoc rw'
  show WB _ (_ :: _ :: _ :: _ :: _ :: []) D _ H
  refine wb_cons (ws_pop4 (m := mM fun b => F.M b ∨ b = lf ∨ b = lw) 7 8 9 10 11 hlw rx (.inr (.inr rfl)) fun u8 u9 u10 u11 kp0 q8 q9 q10 q11 => ?_)
  have j0 : F.J idx (upd H lw (.lst vw2)) := F.lst idx nw hlw j
  have hlf0 : upd H lw (.lst vw2) lf = some (.lst vf) := (upd_ne hfw).trans hlf
  have hlw0 : upd H lw (.lst vw2) lw = some (.lst vw2) := upd_same
  have rf0 := reps_mono kp0 rf
  have rw0 := reps_mono kp0 rw2
  generalize upd H lw (.lst vw2) = H1 at kp0 q8 q9 q10 q11 j0 hlf0 hlw0 rf0 rw0 ⊢
  have bk : ∀ {H : Hp} {v : V} {p : P2}, rep K (fun b => F.M b ∨ b = lf ∨ b = lw) H v p → rep K F.M H v p := fun r => shift (fun b hb => .inl (.inl hb)) r
  have up : ∀ {H : Hp}, Kp F.M H1 H → ∀ {H' : Hp} {v : V} {p : P2}, Kp F.M H H' → rep K F.M H' v p → rep K (fun b => F.M b ∨ b = lf ∨ b = lw) H' v p := fun k1 H' v p k2 r => p2_shift (fun b xs hb h => by
    rcases hb with hb | rfl | rfl
    · exact hb
    · have z := k2 _ _ nf (k1 _ _ nf hlf0); rw [h] at z; cases z
    · have z := k2 _ _ nw (k1 _ _ nw hlw0); rw [h] at z; cases z) r
  have wk : ∀ {H H' : Hp}, Kp F.M H H' → Kp (fun b => F.M b ∨ b = lf ∨ b = lw) H H' := fun k b o n h => k b o (fun z => n (.inl z)) h
  refine wb_cons (ws_set (m := F.at idx) 12 (e_alike c1 hr (ev_var 9 (bk q9)) (ev_var 11 (bk q11)) ((okC_sm ok3).mono (by omega)) ((okC_sm ok4).mono (by omega))) j0 fun u12 H2 z s2 pz rz => ?_)
  have fin : ∀ {w13 : Option V} {H' : Hp} {idx' : Nat}, Kp F.M H2 H' → F.J idx' H' → idx' ≤ idx + 1 → idx ≤ idx' → ph2 ans n found ws = some r → D.nx [some (.ref f), v1, v2, v3, some v4, some v5, some (.ref lf), some (.ref lw), some u8, some u9, some u10, some u11, some u12, w13] H' := fun {w13 H' idx'} k j' h1 h2 hp => by
    have k2 := Kp.trans s2.keep k
    exact hn _ _ _ _ _ _ H' idx' vf vw2 found ws hp h1 h2 (Kp.trans kp0 (wk k2)) j' (k2 _ _ nf hlf0) (k2 _ _ nw hlw0) (reps_mono (wk k2) rf0) (reps_mono (wk k2) rw0)
  rcases hcase with ⟨ha, hp⟩ | ⟨p, ha, hokp, hcase⟩
  · rw [ha] at pz
    subst pz
    refine wb_cons (ws_if (m := F.at idx) (et_or3 (l := false) (n := false) (et_isN (ev_var 12 rz)) (fun h => (by simp at h)) fun h => (by simp at h)) s2.j (fun H3 s3 _ => wb_one (ws_cont ?_)) fun H3 s3 h => (by simp at h))
    rw [hct]
    exact fin s3.keep s3.j (by omega) (by omega) hp
  · rw [ha] at pz
    subst pz
    have rp : rep K F.M H2 u12 p := rz.2
    have sp := okP_sm hokp
    refine wb_cons (ws_if (m := F.at idx) (et_or3 (et_isN (ev_var 12 rz)) (fun _ => et_not (t_leads c2 hr (ev_var 8 (s2.rep (bk q8))) (ev_var 12 rp) (okP_sm ok1) sp)) fun _ _ => et_not (t_leads c2 hr (ev_var 12 rp) (ev_var 10 (s2.rep (bk q10))) sp (okP_sm ok2))) s2.j (fun H3 s3 h => wb_one (ws_cont ?_)) fun H3 s3 h => wb_nil ?_)
    · rw [hct]
      rcases hcase with ⟨_, hp⟩ | ⟨hl, _⟩
      · exact fin s3.keep s3.j (by omega) (by omega) hp
      · simp only [Bool.and_eq_true] at hl
        simp [hl.1, hl.2] at h
    rcases hcase with ⟨hl, _⟩ | ⟨hl, m, hm, hokm, hcase⟩
    · simp at h hl
      rw [hl h.1] at h
      exact absurd h.2 (by decide)
    refine wb_cons (ws2_set 13 (ev2_most1 ((ask idx _ _ _ _ _ _ hB rfl hokp (ev_var 12 (s3.rep rp)) (by exact fun _ _ => rfl)).imp fun y hy => hy.trans hm)) s3.j fun u13 H4 m' k4 j4 pm rm => ?_)
    subst pm
    have k24 : Kp F.M H2 H4 := Kp.trans s3.keep k4
    have sm := (okC_sm hokm).mono (show 45 ≤ 100 by omega)
    refine wb_one (ws_if (m := F.at (idx + 1)) (et_gt (e_wt c3 hr (ev_var 13 rm) (ev_var 12 (mono k24 rp)) sm sp) (e_wt c3 hr (ev_var 9 (mono k24 (s2.rep (bk q9)))) (ev_var 12 (mono k24 rp)) ((okC_sm ok3).mono (by omega)) sp)) j4 (fun H5 s5 h => ?_) fun H5 s5 h => wb_nil ?_)
    · have hp := hcase.elim (fun q => q.2) fun q => absurd (of_decide_eq_true h) q.1
      have k25 : Kp F.M H2 H5 := Kp.trans k24 s5.keep
      have k15 : Kp F.M H1 H5 := Kp.trans s2.keep k25
      have hlf5 := k15 _ _ nf hlf0
      have hlw5 := k15 _ _ nw hlw0
      have hvf : vf.length < 1000000 := by rw [reps_len rf]; omega
      have hvw : vw2.length < 1000000 := by rw [reps_len rw2, List.length_reverse]; omega
      refine wb_cons (ws_append (m := F.at (idx + 1)) (j := s5.j) 6 hlf5 hvf (ev_var 13 (s5.rep rm)) fun ua H6 za ex6 pza rza => ?_)
      subst pza
      have k56 : Kp F.M H5 H6 := fun b o _ hb => ex6 b o hb
      have k16 : Kp F.M H1 H6 := Kp.trans k15 k56
      have ra : rep K (fun b => F.M b ∨ b = lf ∨ b = lw) H6 ua za := up k15 k56 rza
      -- the pairs and prices, safe from both lists
      have q8' : rep K (fun b => F.M b ∨ b = lf ∨ b = lw) H6 u8 x.a := mono (wk k16) q8
      have q9' : rep K (fun b => F.M b ∨ b = lf ∨ b = lw) H6 u9 x.b := mono (wk k16) q9
      have q10' : rep K (fun b => F.M b ∨ b = lf ∨ b = lw) H6 u10 x.c := mono (wk k16) q10
      have q11' : rep K (fun b => F.M b ∨ b = lf ∨ b = lw) H6 u11 x.d := mono (wk k16) q11
      have q12' : rep K (fun b => F.M b ∨ b = lf ∨ b = lw) H6 u12 p := up k15 k56 (mono (Kp.trans k25 k56) rp)
      have q13' : rep K (fun b => F.M b ∨ b = lf ∨ b = lw) H6 u13 za := up k15 k56 (mono (Kp.trans s5.keep k56) rm)
      have rf6 := reps_mono (wk k16) rf0
      have rw6 := reps_mono (wk k16) rw0
      have hlw6 := k56 _ _ nw hlw5
      have hlf6 := k56 _ _ nf hlf5
      have j6 : F.J (idx + 1) H6 := F.ex _ ex6 s5.j
      have ku : Kp (fun b => F.M b ∨ b = lf ∨ b = lw) H6 (upd H6 lf (.lst (vf ++ [ua]))) := fun b o n h => (upd_ne fun z => n (.inr (.inl z))).trans h
      have j7 : F.J (idx + 1) (upd H6 lf (.lst (vf ++ [ua]))) := F.lst _ nf hlf6 j6
      have hlw7 : upd H6 lf (.lst (vf ++ [ua])) lw = some (.lst vw2) := (upd_ne hfw.symm).trans hlw6
      have hlf7 : upd H6 lf (.lst (vf ++ [ua])) lf = some (.lst (vf ++ [ua])) := upd_same
      have rf7 := reps_mono ku (reps_snoc rf6 ra)
      have rw7 := reps_mono ku rw6
      have kall : Kp (fun b => F.M b ∨ b = lf ∨ b = lw) H (upd H6 lf (.lst (vf ++ [ua]))) := Kp.trans kp0 (Kp.trans (wk k16) ku)
      replace q8' := mono ku q8'
      replace q9' := mono ku q9'
      replace q10' := mono ku q10'
      replace q11' := mono ku q11'
      replace q12' := mono ku q12'
      replace q13' := mono ku q13'
      generalize upd H6 lf (.lst (vf ++ [ua])) = H7 at q8' q9' q10' q11' q12' q13' j7 hlw7 hlf7 rf7 rw7 kall ⊢
      refine wb_one (ws_extend2 (m := F.at (idx + 1)) (j := j7) 7 hlw7 hvw (x := (⟨x.a, x.b, p, za⟩ : Wait)) (y := (⟨p, za, x.c, x.d⟩ : Wait)) (ev_t4 (ev_var 8 (bk q8')) (ev_var 9 (bk q9')) (ev_var 12 (bk q12')) (ev_var 13 (bk q13'))) (ev_t4 (ev_var 12 (bk q12')) (ev_var 13 (bk q13')) (ev_var 10 (bk q10')) (ev_var 11 (bk q11'))) fun ub uc H8 ex8 rb rc => ?_)
      have k78 : Kp (fun b => F.M b ∨ b = lf ∨ b = lw) H7 H8 := fun b o _ hb => ex8 b o hb
      have hlf8 := ex8 _ _ hlf7
      have hlw8 := ex8 _ _ hlw7
      have sh : ∀ b xs, (F.M b ∨ b = lf ∨ b = lw) → H8 b = some (.tup xs) → F.M b := fun b xs hb h => by
        rcases hb with hb | rfl | rfl
        · exact hb
        · rw [hlf8] at h; cases h
        · rw [hlw8] at h; cases h
      have kv : Kp (fun b => F.M b ∨ b = lf ∨ b = lw) H8 (upd H8 lw (.lst (vw2 ++ [ub, uc]))) := fun b o n h => (upd_ne fun z => n (.inr (.inr z))).trans h
      refine hn _ _ _ _ _ _ _ (idx + 1) (vf ++ [ua]) (vw2 ++ [ub, uc]) _ _ hp (by omega) (by omega) (Kp.trans kall (Kp.trans k78 kv)) (F.lst _ nw hlw8 (F.ex _ ex8 j7)) ((upd_ne hfw).trans hlf8) upd_same (reps_mono kv (reps_mono k78 rf7)) ?_
      rw [List.reverse_cons, List.reverse_cons, List.append_assoc]
      exact reps_mono kv (reps_app (reps_mono k78 rw7) (.cons (w4_shift sh rb) (.cons (w4_shift sh rc) .nil)))
    · have hp := hcase.elim (fun q => absurd q.1 (of_decide_eq_false h)) fun q => q.2
      exact fin (Kp.trans k24 s5.keep) s5.j (by omega) (by omega) hp
end
end HK
set_option Elab.async false
set_option linter.all false
set_option maxRecDepth 100000
/-! F7: by_asking, the whole. -/
namespace HK
open PySem PySem.Spec PyProof.Rows L2 LamX
open Rep Arg
theorem byAsk_ok {ans : P2 → Ans} {n1 n2 n3 : Nat} {R : Fr} (h : byAsk ans n1 n2 n3 = some R) : (ans FIRST = .none ∧ R = .none) ∨ (ans FIRST ≠ .none ∧ ((ph1 ans false n1 (FIRST, LAST) = some none ∧ R = .endless) ∨ ∃ st, ph1 ans false n1 (FIRST, LAST) = some (some st) ∧
    ((ph1 ans true n2 st = some none ∧ R = .endless) ∨ ∃ st2, ph1 ans true n2 st = some (some st2) ∧ ∃ m1 m2 found, ans st2.1 = .most m1 ∧ ans st2.2 = .most m2 ∧ okP st2.1 = true ∧ okP st2.2 = true ∧ okC m1 = true ∧ okC m2 = true ∧
      ph2 ans n3 [m1, m2] [⟨st2.1, m1, st2.2, m2⟩] = some found ∧ (∀ c, c ∈ found → okC c = true) ∧ found.length < 100000 ∧ R = overF st2.1 st2.2 found))) := by
  unfold byAsk at h
  by_cases h0 : ans FIRST = .none
  · rw [h0] at h
    exact .inl ⟨h0, by simpa using h.symm⟩
  refine .inr ⟨h0, ?_⟩
  have h1 : (match ph1 ans false n1 (FIRST, LAST) with
    | none => none
    | some none => some .endless
    | some (some st) => match ph1 ans true n2 st with
      | none => none
      | some none => some .endless
      | some (some st2) => match ans st2.1, ans st2.2 with
        | .most m1, .most m2 => if okP st2.1 && okP st2.2 && okC m1 && okC m2 then match ph2 ans n3 [m1, m2] [⟨st2.1, m1, st2.2, m2⟩] with
            | none => none
            | some found => if found.all okC && decide (found.length < 100000) then some (overF st2.1 st2.2 found) else none
          else none
        | _, _ => none) = some R := by
    cases ha : ans FIRST with
    | none => exact absurd ha h0
    | gains g => rw [ha] at h; exact h
    | most p => rw [ha] at h; exact h
  clear h
  cases e1 : ph1 ans false n1 (FIRST, LAST) with
  | none => rw [e1] at h1; cases h1
  | some o =>
    rw [e1] at h1
    cases o with
    | none => exact .inl ⟨rfl, by simpa using h1.symm⟩
    | some st =>
      refine .inr ⟨st, rfl, ?_⟩
      simp only at h1
      cases e2 : ph1 ans true n2 st with
      | none => rw [e2] at h1; cases h1
      | some o =>
        rw [e2] at h1
        cases o with
        | none => exact .inl ⟨rfl, by simpa using h1.symm⟩
        | some st2 =>
          refine .inr ⟨st2, rfl, ?_⟩
          simp only at h1
          cases a1 : ans st2.1 with
          | none => rw [a1] at h1; simp at h1
          | gains g => rw [a1] at h1; simp at h1
          | most m1 =>
            rw [a1] at h1
            cases a2 : ans st2.2 with
            | none => rw [a2] at h1; simp at h1
            | gains g => rw [a2] at h1; simp at h1
            | most m2 =>
              rw [a2] at h1
              simp only at h1
              split at h1
              · rename_i c
                simp only [Bool.and_eq_true] at c
                cases e3 : ph2 ans n3 [m1, m2] [⟨st2.1, m1, st2.2, m2⟩] with
                | none => rw [e3] at h1; cases h1
                | some found =>
                  rw [e3] at h1
                  simp only at h1
                  split at h1
                  · rename_i d
                    simp only [Bool.and_eq_true, List.all_eq_true, decide_eq_true_eq] at d
                    exact ⟨m1, m2, found, rfl, rfl, c.1.1.1, c.1.1.2, c.1.2, c.2, e3, d.1, d.2, by simpa using h1.symm⟩
                  · cases h1
              · cases h1
theorem ph2_len {ans : P2 → Ans} : ∀ {n : Nat} {found : List P2} {ws : List Wait} {r : List P2}, ph2 ans n found ws = some r → found.length ≤ r.length
  | 0, _, _, _, h => by simp [ph2] at h
  | n + 1, found, [], r, h => by
    have e : found = r := by simpa [ph2] using h
    rw [e]
    exact Nat.le_refl _
  | n + 1, found, w :: ws, r, h => by
    obtain ⟨_, _, _, _, _, hc⟩ := ph2_ok h
    rcases hc with ⟨_, h⟩ | ⟨p, _, _, ⟨_, h⟩ | ⟨_, m, _, _, ⟨_, h⟩ | ⟨_, h⟩⟩⟩
    · exact ph2_len h
    · exact ph2_len h
    · have := ph2_len h
      rw [List.length_append] at this
      omega
    · exact ph2_len h
section
variable {P : Program} {w : World} {K : PySem.W.Frag} {mg : Str → Option Value} {base : Heap}
theorem by_walk {g f Pt : Addr} {cdv : Value} {A : Around} {outer : List Env} {s : Shared} {H : Hp} {E : XK} {F : Fam} {ans : P2 → Ans} {B n1 n2 n3 : Nat} {R : Fr} {Q : VK}
    (C : Consts K mg) (cA : CAlike P w K mg base) (cL : CLeads P w K mg base) (cW : CWeight P w K mg base) (cF : CFreeW P w K mg base) (cO : COver P w K mg base Pt) (hr : Room 6 (A.deeper (envOfC "by_asking" (defScope sByAsking) s.heap.objs.size g cdv))) (ask : AskR (xBy P w K mg base g cdv A outer s H E) F f ans B)
    (hT : ∀ n, HasTab (F.at n) Pt qEnv) (hby : byAsk ans n1 n2 n3 = some R) (hB : n1 + n2 + n3 + 4 ≤ B) (j : F.J 0 H)
    (q : ∀ v H' idx, 1 ≤ idx → idx ≤ B → Kp F.M H H' → F.J idx H' → rep K F.M H' v R → Q v H') :
    WB (xBy P w K mg base g cdv A outer s H E) (defBody sByAsking) { nx := fun _ H' => Q .non H', rt := Q } (L2.start nBy [.ref f]) H := by
  have S := scByAsking
  refine wb_cons (ws2_if (F := F) (n := 0) (et2_isNA (ask 0 _ _ _ FIRST _ _ (by omega) rfl (by decide) (ev_first C) (by exact fun _ _ => rfl))) j (fun H1 k1 j1 h => ?_) fun H1 k1 j1 h => wb_nil ?_)
  · have ha : ans FIRST = .none := by
      cases e : ans FIRST with
      | none => rfl
      | gains g => rw [e] at h; cases h
      | most g => rw [e] at h; cases h
    rcases byAsk_ok hby with ⟨_, hR⟩ | ⟨h0, _⟩
    · subst hR
      exact wb_one (ws_ret (m := F.at 1) ev_noneF j1 fun v H2 z s2 pz rz => q v H2 1 (by omega) (by omega) (Kp.trans k1 s2.keep) s2.j (by rw [← pz]; exact rz))
    · exact absurd ha h0
  rcases byAsk_ok hby with ⟨h0, _⟩ | ⟨_, hcase⟩
  · rw [h0] at h; cases h
  refine wb_cons (ws_set (m := F.at 1) 1 (ev_pair (ev_first C) (ev_last C)) j1 fun v1 H2 z1 s2 pz1 r1 => ?_)
  have k02 : Kp F.M H H2 := Kp.trans k1 s2.keep
  -- the two ends
  refine wb_cons (ws_forT2 (m := F.at 1) (xs := (Tup.mk [0, 1] : Tup Int)) 2 (ev_tupL (el_cons (ev_int (i := 0)) (el_cons (ev_int (i := 1)) el_nil)) ?hz) s2.j
    (fun k σ' H' => ∃ w1 w2 w3 st idx, σ' = some (.ref f) :: some w1 :: w2 :: w3 :: slots10 ∧ 1 ≤ idx ∧ Kp F.M H H' ∧ F.J idx H' ∧ rep K F.M H' w1 (st : Str2) ∧
      ((k = 0 ∧ st = (FIRST, LAST) ∧ idx = 1) ∨ (k = 1 ∧ ph1 ans false n1 (FIRST, LAST) = some (some st) ∧ idx ≤ 1 + n1) ∨ (k = 2 ∧ idx ≤ 1 + n1 + n2 ∧ ∃ st1, ph1 ans false n1 (FIRST, LAST) = some (some st1) ∧ ph1 ans true n2 st1 = some (some st)))) ?h0 ?turn ?hend)
  case hz =>
    intro H1 vs p ⟨v1, w1, e1, r1, v2, w2, e2, r2, e3⟩
    cases (show w2 = [] from e3)
    subst e2
    subst e1
    exact ⟨two_le, fun t => ⟨p, _, rfl, t, .cons r1 (.cons r2 .nil)⟩⟩
  case h0 => exact fun H3 s3 => ⟨v1, none, none, z1, 1, rfl, Nat.le_refl _, Kp.trans k02 s3.keep, s3.j, s3.rep r1, .inl ⟨rfl, pz1, rfl⟩⟩
  case turn =>
    rintro k x v σ' H' hx kp ⟨w1, w2, w3, st, idx, rfl, hi, k0, j', rst, hk⟩ rv
    rcases hk with ⟨rfl, rfl, rfl⟩ | ⟨rfl, hp1, hi1⟩ | ⟨rfl, _⟩
    · obtain rfl : (0 : Int) = x := by simpa using hx
      rcases hcase with ⟨hp, hR⟩ | ⟨st1, hp, _⟩
      · exact end_walk C cF hr ask (k := false) rfl hp (by omega) j' rst rv (fun _ _ _ _ _ hc => nomatch hc) fun v H3 idx' _ h1 h2 k3 j3 r3 => by subst hR; exact q v H3 idx' (by omega) (by omega) (Kp.trans k0 k3) j3 r3
      · exact end_walk C cF hr ask (k := false) rfl hp (by omega) j' rst rv (fun v1' v3 H3 st' idx' hc h1 h2 k3 j3 r3 => ⟨k3, v1', some v, some v3, st', idx', rfl, by omega, Kp.trans k0 k3, j3, r3, .inr (.inl ⟨rfl, by rw [hp, hc], by omega⟩)⟩) fun v H3 idx' hc => nomatch hc
    · obtain rfl : (1 : Int) = x := by simpa using hx
      rcases hcase with ⟨hp, hR⟩ | ⟨st1, hp, hcase⟩
      · rw [hp] at hp1; cases hp1
      · have e : st1 = st := by rw [hp] at hp1; cases hp1; rfl
        subst e
        rcases hcase with ⟨hp2, hR⟩ | ⟨st2, hp2, _⟩
        · exact end_walk C cF hr ask (k := true) rfl hp2 (by omega) j' rst rv (fun _ _ _ _ _ hc => nomatch hc) fun v H3 idx' _ h1 h2 k3 j3 r3 => by subst hR; exact q v H3 idx' (by omega) (by omega) (Kp.trans k0 k3) j3 r3
        · exact end_walk C cF hr ask (k := true) rfl hp2 (by omega) j' rst rv (fun v1' v3 H3 st' idx' hc h1 h2 k3 j3 r3 => ⟨k3, v1', some v, some v3, st', idx', rfl, by omega, Kp.trans k0 k3, j3, r3, .inr (.inr ⟨rfl, by omega, st1, hp, by rw [hp2, hc]⟩)⟩) fun v H3 idx' hc => nomatch hc
    · simp at hx
  case hend =>
    rintro σ' H3 kp ⟨w1, w2, w3, st, idx, rfl, hi, k0, j3, rst, hk⟩
    rcases hk with ⟨h, _⟩ | ⟨h, _⟩ | ⟨_, hi2, st1, hp1, hp2⟩
    · cases h
    · cases h
    rcases hcase with ⟨hp, _⟩ | ⟨st1', hp, hcase⟩
    · rw [hp] at hp1; cases hp1
    rw [hp] at hp1
    cases hp1
    rcases hcase with ⟨hp', _⟩ | ⟨st2, hp', m1, m2, found, ha1, ha2, ok1, ok2, ok3, ok4, hph, hfc, hfl, hR⟩
    · rw [hp'] at hp2; cases hp2
    rw [hp'] at hp2
    cases hp2
    refine wb_cons (ws_unp2 (m := F.at idx) 4 5 (ev_var 1 rst) j3 fun vl vh H4 z s4 pz rl rh => ?_)
    subst pz
    -- found
    refine wb_cons (ws2_lst2 (F := F) (n := idx) 6 (ev2_most1 ((ask idx _ _ _ _ _ _ (by omega) rfl ok1 (ev_var 4 rl) (by exact fun _ _ => rfl)).imp fun y hy => hy.trans ha1)) (fun H5 k5 j5 => ev2_most1 ((ask (idx + 1) _ _ _ _ _ _ (by omega) rfl ok2 (ev_var 5 (mono k5 rh)) (by exact fun _ _ => rfl)).imp fun y hy => hy.trans ha2)) s4.j fun u1 u2 H5 x1 x2 lf k5 j5 p1 p2 q1 q2 nlf => ?_)
    have nef : ∀ b o, ¬ F.M b → H b = some o → b ≠ lf := fun b o hb h => ne_of_none (Kp.trans k0 (Kp.trans s4.keep k5) b o hb h) nlf
    subst p1
    subst p2
    have nf : ¬ F.M lf := fun z => F.live _ j5 z nlf
    have kn : Kp F.M H5 (upd H5 lf (.lst [u1, u2])) := fun b o _ h => Ex.new nlf b o h
    have j6 : F.J (idx + 1 + 1) (upd H5 lf (.lst [u1, u2])) := F.ex _ (Ex.new nlf) j5
    have hlf6 : upd H5 lf (.lst [u1, u2]) lf = some (.lst [u1, u2]) := upd_same
    have q1 := mono kn q1
    have q2 := mono kn q2
    have rl6 := mono kn (mono k5 rl)
    have rh6 := mono kn (mono k5 rh)
    have k06 : Kp F.M H (upd H5 lf (.lst [u1, u2])) := Kp.trans k0 (Kp.trans s4.keep (Kp.trans k5 kn))
    generalize upd H5 lf (.lst [u1, u2]) = H6 at j6 hlf6 q1 q2 rl6 rh6 k06 ⊢
    have d6 : rep K F.M H6 (.ref lf) [x1, x2] := ⟨lf, _, rfl, ⟨nf, hlf6⟩, .cons q1 (.cons q2 .nil)⟩
    refine wb_cons (ws_lst1 (m := F.at (idx + 1 + 1)) 7 (ev_t4 (ev_var 4 rl6) (ev_ixL (x := x1) (ev_var 6 d6) (ev_int (i := 0)) rfl) (ev_var 5 rh6) (ev_ixL (x := x2) (ev_var 6 d6) (ev_int (i := 1)) rfl)) j6 fun uw H7 zw lw s7 pw rw7 nlw => ?_)
    subst pw
    have new : ∀ b o, ¬ F.M b → H b = some o → b ≠ lw := fun b o hb h => ne_of_none (Kp.trans k06 s7.keep b o hb h) nlw
    have nw : ¬ F.M lw := fun z => F.live _ s7.j z nlw
    have hlf7 := s7.keep _ _ nf hlf6
    have hfw : lf ≠ lw := ne_of_none hlf7 nlw
    have kn : Kp F.M H7 (upd H7 lw (.lst [uw])) := fun b o _ h => Ex.new nlw b o h
    have j8 : F.J (idx + 1 + 1) (upd H7 lw (.lst [uw])) := F.ex _ (Ex.new nlw) s7.j
    have hlw8 : upd H7 lw (.lst [uw]) lw = some (.lst [uw]) := upd_same
    have hlf8 : upd H7 lw (.lst [uw]) lf = some (.lst [u1, u2]) := Ex.new nlw _ _ hlf7
    have k78 : Kp F.M H6 (upd H7 lw (.lst [uw])) := Kp.trans s7.keep kn
    have sh : ∀ b xs, (F.M b ∨ b = lf ∨ b = lw) → upd H7 lw (.lst [uw]) b = some (.tup xs) → F.M b := fun b xs hb h => by
      rcases hb with hb | rfl | rfl
      · exact hb
      · rw [hlf8] at h; cases h
      · rw [hlw8] at h; cases h
    have q1 := p2_shift sh (mono k78 q1)
    have q2 := p2_shift sh (mono k78 q2)
    have qw := w4_shift sh (mono kn rw7)
    have rl8 := mono k78 rl6
    have rh8 := mono k78 rh6
    have rl8' := p2_shift sh rl8
    have rh8' := p2_shift sh rh8
    have k08 : Kp F.M H (upd H7 lw (.lst [uw])) := Kp.trans k06 k78
    generalize upd H7 lw (.lst [uw]) = H8 at j8 hlw8 hlf8 q1 q2 qw rl8' rh8' k08 ⊢
    clear rl8 rh8
    have bk : ∀ {H : Hp} {v : V} {p : P2}, rep K (fun b => F.M b ∨ b = lf ∨ b = lw) H v p → rep K F.M H v p := fun r => shift (fun b hb => .inl (.inl hb)) r
    refine wb_cons (ws_while (fun μ σ' H' => ∃ w8 w9 w10 w11 w12 w13 idx' vf vw found' ws', σ' = [some (.ref f), some w1, w2, w3, some vl, some vh, some (.ref lf), some (.ref lw), w8, w9, w10, w11, w12, w13] ∧ ph2 ans μ found' ws' = some found ∧ idx' + μ ≤ idx + 2 + n3 ∧ idx ≤ idx' ∧
        Kp (fun b => F.M b ∨ b = lf ∨ b = lw) H8 H' ∧ F.J idx' H' ∧ H' lf = some (.lst vf) ∧ H' lw = some (.lst vw) ∧ Reps K (fun b => F.M b ∨ b = lf ∨ b = lw) H' vf found' ∧ Reps K (fun b => F.M b ∨ b = lf ∨ b = lw) H' vw ws'.reverse)
      (n0 := n3) ⟨none, none, none, none, none, none, idx + 2, [u1, u2], [uw], [x1, x2], [⟨z.1, x1, z.2, x2⟩], ?hσ, hph, by omega, by omega, .refl, j8, hlf8, hlw8, .cons q1 (.cons q2 .nil), .cons qw .nil⟩ ?_)
    case hσ => rfl
    rintro μ σ' H9 ⟨w8, w9, w10, w11, w12, w13, idx', vf, vw, found', ws', rfl, hp, hi3, hi4, k9, j9, hlf9, hlw9, rf, rww⟩
    have dw : rep K F.M H9 (.ref lw) ws'.reverse := ⟨lw, vw, rfl, ⟨nw, hlw9⟩, Paired.mapP rww fun _ _ z => shift (fun b hb => .inl (.inl hb)) z⟩
    refine ⟨F.at idx', !decide (ws'.reverse = []), j9, et_neD (α := List Wait) hr (ev_var 7 dw) (ev_lst0 (α := Wait)), fun H10 s10 h => ?_, fun H10 s10 h => ?_⟩
    · obtain ⟨x, ws, rfl⟩ : ∃ x ws, ws' = x :: ws := by
        cases ws' with
        | nil => simp at h
        | cons x ws => exact ⟨x, ws, rfl⟩
      obtain ⟨μ, rfl⟩ := ph2_succ hp
      have k10 : Kp (fun b => F.M b ∨ b = lf ∨ b = lw) H9 H10 := fun b o n h => s10.keep b o (fun z => n (.inl z)) h
      exact seek_walk cA cL cW hr ask hp (by omega) s10.j nf nw (s10.keep _ _ nf hlf9) (s10.keep _ _ nw hlw9) hfw (reps_mono k10 rf) (reps_mono k10 rww)
        (fun w8 w9 w10 w11 w12 w13 H11 i2 vf' vw' f' ws2 hp2 h1 h2 k11 j11 e1 e2 e3 e4 => ⟨μ, Nat.lt_succ_self _, w8, w9, w10, w11, w12, w13, i2, vf', vw', f', ws2, rfl, hp2, by omega, by omega, Kp.trans k9 (Kp.trans k10 k11), j11, e1, e2, e3, e4⟩) rfl
    · have e : ws' = [] := by simpa using h
      subst e
      obtain ⟨μ, rfl⟩ := ph2_succ hp
      have hf : found' = found := by simpa [ph2] using hp
      subst hf
      have df : rep K F.M H10 (.ref lf) found' := s10.rep ⟨lf, vf, rfl, ⟨nf, hlf9⟩, Paired.mapP rf fun _ _ z => shift (fun b hb => .inl (.inl hb)) z⟩
      have rl10 := s10.rep (bk (mono k9 rl8'))
      have rh10 := s10.rep (bk (mono k9 rh8'))
      have hne : found' ≠ [] := fun e => by
        have h := ph2_len hph
        rw [e] at h
        simp at h
      refine wb_one (ws_ret (m := F.at idx') (e_over cO (hT idx') hr (ev_var 4 rl10) (ev_var 5 rh10) (ev_var 6 df) ⟨okP_sm ok1, okP_sm ok2, ⟨by omega, fun c hc => (okC_sm (hfc c hc)).mono (by omega)⟩, hne⟩) s10.j fun v H11 z s11 pz rz => ?_)
      subst pz
      rw [hR] at q
      refine q v H11 idx' (by omega) (by omega) ?_ s11.j rz
      exact fun b o hb h => s11.keep b o hb (s10.keep b o hb (k9 b o (fun z => z.elim hb fun z => z.elim (nef b o hb h) (new b o hb h)) (k08 b o hb h)))
end
end HK
set_option Elab.async false
set_option linter.all false
set_option maxRecDepth 100000
/-! F8: the law's small defs: kinds, gcd, terms, leads, worth, prices. -/
namespace HK
open PySem PySem.Spec PyProof.Rows L2 LamX
open Rep Arg
abbrev sIsNumber : Stmt := topS 23
abbrev sGcd : Stmt := topS 24
abbrev sTerms : Stmt := topS 25
abbrev sLLeads : Stmt := topS 26
abbrev sIsPair : Stmt := topS 27
abbrev sIsPrice : Stmt := topS 28
abbrev sWorth : Stmt := topS 29
theorem scIsNumber : FnScope ["_law_item"] ["_law_item"] (defScope sIsNumber) := ⟨rfl, rfl, rfl, by decide +kernel, rfl, by decide +kernel, by decide +kernel⟩
theorem scGcd : FnScope ["_law_one", "_law_two", "_law_turn"] ["_law_one", "_law_two"] (defScope sGcd) := ⟨rfl, rfl, rfl, by decide +kernel, rfl, by decide +kernel, by decide +kernel⟩
theorem scTerms : FnScope ["_law_one", "_law_two", "_law_deep"] ["_law_one", "_law_two"] (defScope sTerms) := ⟨rfl, rfl, rfl, by decide +kernel, rfl, by decide +kernel, by decide +kernel⟩
theorem scLLeads : FnScope ["_law_one", "_law_two"] ["_law_one", "_law_two"] (defScope sLLeads) := ⟨rfl, rfl, rfl, by decide +kernel, rfl, by decide +kernel, by decide +kernel⟩
theorem scIsPair : FnScope ["_law_item"] ["_law_item"] (defScope sIsPair) := ⟨rfl, rfl, rfl, by decide +kernel, rfl, by decide +kernel, by decide +kernel⟩
theorem scIsPrice : FnScope ["_law_item"] ["_law_item"] (defScope sIsPrice) := ⟨rfl, rfl, rfl, by decide +kernel, rfl, by decide +kernel, by decide +kernel⟩
theorem scWorth : FnScope ["_law_pair_here", "_law_spot_here"] ["_law_pair_here", "_law_spot_here"] (defScope sWorth) := ⟨rfl, rfl, rfl, by decide +kernel, rfl, by decide +kernel, by decide +kernel⟩
/-! ### gcd by steps -/
theorem euc_gcd : ∀ (k n : Nat) (a b : Int), 0 ≤ a → 0 ≤ b → b < 2 ^ k → 2 * k + 1 ≤ n → euc n a b = gcdI a b
  | k, 0, a, b, _, _, _, h => by omega
  | k, n + 1, a, b, ha, hb, hk, h => by
    unfold euc
    by_cases hb0 : b = 0
    · rw [if_pos hb0, hb0]
      unfold gcdI
      simp
      omega
    · rw [if_neg hb0]
      have hbp : 0 < b := by omega
      have r0 := Int.emod_nonneg a hb0
      have r1 := Int.emod_lt_of_pos a hbp
      have g1 : gcdI b (a % b) = gcdI a b := by
        obtain ⟨x, rfl⟩ : ∃ x : Nat, a = x := ⟨a.toNat, by omega⟩
        obtain ⟨y, rfl⟩ : ∃ y : Nat, b = y := ⟨b.toNat, by omega⟩
        unfold gcdI
        rw [← Int.natCast_emod]
        simp only [Int.natAbs_natCast]
        rw [Nat.gcd_comm y, ← Nat.gcd_rec, Nat.gcd_comm]
      obtain ⟨k, rfl⟩ : ∃ k', k = k' + 1 := by
        cases k with
        | zero => simp at hk; omega
        | succ k => exact ⟨k, rfl⟩
      obtain ⟨n, rfl⟩ : ∃ n', n = n' + 1 := ⟨n - 1, by omega⟩
      rw [← g1]
      unfold euc
      by_cases hr0 : a % b = 0
      · rw [if_pos hr0, hr0]
        unfold gcdI
        simp
        omega
      · rw [if_neg hr0]
        have hrp : 0 < a % b := by omega
        have t0 := Int.emod_nonneg b hr0
        have t1 := Int.emod_lt_of_pos b hrp
        have g2 : gcdI (a % b) (b % (a % b)) = gcdI b (a % b) := by
          generalize a % b = c at *
          obtain ⟨x, rfl⟩ : ∃ x : Nat, c = x := ⟨c.toNat, by omega⟩
          obtain ⟨y, rfl⟩ : ∃ y : Nat, b = y := ⟨b.toNat, by omega⟩
          unfold gcdI
          rw [← Int.natCast_emod]
          simp only [Int.natAbs_natCast]
          rw [Nat.gcd_comm x, ← Nat.gcd_rec, Nat.gcd_comm]
        rw [← g2]
        refine euc_gcd k n (a % b) (b % (a % b)) r0 t0 ?_ (by omega)
        have hq : 1 ≤ b / (a % b) := by
          have h1 := Int.mul_ediv_add_emod b (a % b)
          rcases Int.lt_or_le 0 (b / (a % b)) with z | z
          · omega
          · have := Int.mul_le_mul_of_nonneg_left z r0
            omega
        have h1 := Int.mul_ediv_add_emod b (a % b)
        have h2 : a % b * 1 ≤ a % b * (b / (a % b)) := Int.mul_le_mul_of_nonneg_left hq r0
        have h3 : (2 : Int) ^ (k + 1) = 2 * 2 ^ k := by rw [Int.pow_succ, Int.mul_comm]
        omega
section
variable {X : Cx} {m : Mode} {σ : L2.St} {H : Hp} {a b c d e : Expr} {es : List Expr} {pos p : Pos} {j : Nat}
/-- a built-in type as a value -/
theorem ev_ty {n : Str} {T : String} (hm : X.mg n = none) (hv : bootBuiltins n = some (.type T)) (hg : Gl X n := by rfl) (hn : n ≠ "__name__" := by decide) (hd : (n == ("__debug__" : Str)) = false := by decide) : EvD X m (.Name n pos) σ H (V.ty T) := fun H1 s1 Q q =>
  we_of (pe_bltn hg hm hv (show L2.RelV (V.ty T) (.type T) from rfl) hn hd) (q _ H1 _ (Step.refl s1.j) rfl rfl)
theorem ev_isiI {i : Int} {n T : Str} {U : String} {r : Bool} (C : Consts X.K X.mg) (ha : EvD X m a σ H i) (hT : X.mg T = none) (hv : bootBuiltins T = some (.type U)) (hk : kitB "int" U = some r) (hn0 : n = "isinstance" := by rfl) (hg : Gl X n := by rfl) (hgT : Gl X T := by rfl) (hnT : T ≠ "__name__" := by decide) (hdT : (T == ("__debug__" : Str)) = false := by decide)
    {pT : Pos} (na : NS a := by exact fun _ _ => rfl) (he : starEach [a, .Name T pT] X.env = (false, eval a X.env) :: starEach [.Name T pT] X.env := by rfl) (hpl : (backTo pos (starEach [.Name T pT] X.env)).any (·.1) = false := by rfl) : EvD X m (.Call (.Name n p) [a, .Name T pT] [] pos) σ H r := by
  subst hn0
  refine ev_callB call_isi (C.none _ (by decide)) (by decide +kernel) (el2 ha (ev_ty hT hv hgT hnT hdT) na) (fun vs H1 Q s1 rs q => ?_) hg (by decide) (by decide) he hpl
  obtain ⟨v1, v2, rfl, r1, r2⟩ := rp2 rs
  cases (show v1 = V.int i from r1)
  cases (show v2 = V.ty U from r2)
  exact ⟨V.int i, V.ty U, .type "int", .type U, r, rfl, .ty _, .base (.int i), kit_ty hk, q _ H1 _ (Step.refl s1.j) rfl rfl⟩
theorem ev_isiT {x : P2} {n T : Str} (C : Consts X.K X.mg) (ha : EvD X m a σ H x) (hT0 : T = "tuple" := by rfl) (hn0 : n = "isinstance" := by rfl) (hg : Gl X n := by rfl) (hgT : Gl X T := by rfl)
    {pT : Pos} (na : NS a := by exact fun _ _ => rfl) (he : starEach [a, .Name T pT] X.env = (false, eval a X.env) :: starEach [.Name T pT] X.env := by rfl) (hpl : (backTo pos (starEach [.Name T pT] X.env)).any (·.1) = false := by rfl) : EvD X m (.Call (.Name n p) [a, .Name T pT] [] pos) σ H true := by
  subst hn0
  subst hT0
  refine ev_callB call_isi (C.none _ (by decide)) (by decide +kernel) (el2 ha (ev_ty (T := "tuple") (C.none _ (by decide)) (by decide +kernel) hgT) na) (fun vs H1 Q s1 rs q => ?_) hg (by decide) (by decide) he hpl
  obtain ⟨v1, v2, rfl, r1, r2⟩ := rp2 rs
  cases (show v2 = V.ty "tuple" from r2)
  obtain ⟨w, w1, w2, e, t, _, _⟩ := r1
  subst e
  have ty : TyX X.K H1 (.ref w) (.type "tuple") := by
    rcases t with ⟨_, h⟩ | h | ⟨o, its, n, hk, hc, _⟩
    · exact .base (.tup h)
    · exact (no_rd h).elim
    · exact .kTuple hk hc
  exact ⟨_, V.ty "tuple", .type "tuple", .type "tuple", true, rfl, .ty _, ty, kit_ty (by decide +kernel), q _ H1 _ (Step.refl s1.j) rfl rfl⟩
theorem ev_len2 {α β : Type} [Rep α] [Rep β] {x : α × β} {n : Str} {p : Pos} (C : Consts X.K X.mg) (ha : EvD X m a σ H x) (hn0 : n = "len" := by rfl) (hg : Gl X n := by rfl) (na : NS a := by exact fun _ _ => rfl) : EvD X m (.Call (.Name n p) [a] [] pos) σ H (2 : Int) := by
  subst hn0
  refine ev_callB call_len_seq (C.none _ (by decide)) (by decide +kernel) (el1 ha na) (fun vs H1 Q s1 rs q => ?_) hg (by decide) (by decide) (na _ _)
  obtain ⟨v, rfl, r⟩ := rp1 rs
  obtain ⟨w, w1, w2, e, t, _, _⟩ := r
  subst e
  exact ⟨w, _, rfl, .inr t.sq, q _ H1 _ (Step.refl s1.j) rfl rfl⟩
theorem ev_eqI {x y : Int} (ha : EvD X m a σ H x) (hb : EvD X m b σ H y) : EvD X m (.Compare a [.Eq] [b] pos) σ H (decide (x = y)) := ev_cmp op_eq (nomark _) ha hb fun v w x y H1 Q s1 px py rx ry q => by
  cases rx
  cases ry
  cases px
  cases py
  refine ⟨rfl, ?_⟩
  have e : decide (V.int x = V.int y) = decide (x = y) := decide_eq_decide.mpr ⟨fun z => V.int.inj z, fun z => by rw [z]⟩
  rw [e]
  exact q _ H1 _ (Step.refl s1.j) rfl rfl
theorem ev_geI {x y : Int} (ha : EvD X m a σ H x) (hb : EvD X m b σ H y) : EvD X m (.Compare a [.GtE] [b] pos) σ H (decide (y ≤ x)) := ev_cmp op_ge (nomark _) ha hb fun v w x y H1 Q s1 px py rx ry q => by
  cases rx
  cases ry
  cases px
  cases py
  exact ⟨x, y, rfl, rfl, q _ H1 _ (Step.refl s1.j) rfl rfl⟩
end
section
variable (P : Program) (w : World) (K : PySem.W.Frag) (mg : Str → Option Value) (base : Heap)
abbrev CIsNum := CalP P w K mg base 1 "_law_is_number" (fun _ : A1 Int => True) (fun _ z => z = true)
abbrev CGcd := CalP P w K mg base 1 "_law_gcd" (fun x : A2 Int Int => 0 ≤ x.h ∧ 0 ≤ x.t.h ∧ Sm 1000 x.t.h) (fun x z => z = gcdI x.h x.t.h)
abbrev CTerms := CalP P w K mg base 2 "_law_terms" (fun x : A2 Int Int => 0 ≤ x.h ∧ 0 ≤ x.t.h ∧ Sm 101 x.h ∧ Sm 101 x.t.h ∧ ¬ (x.h = 0 ∧ x.t.h = 0)) (fun x z => z = leastT x.h x.t.h)
abbrev CLLeads := CalP P w K mg base 1 "_law_leads" (fun x : A2 P2 P2 => Sm2 101 x.h ∧ Sm2 101 x.t.h) (fun x z => z = leadsB x.h x.t.h)
abbrev CIsPair := CalP P w K mg base 2 "_law_is_pair" (fun _ : A1 P2 => True) (fun _ z => z = true)
abbrev CIsPrice := CalP P w K mg base 3 "_law_is_price" (fun x : A1 P2 => Sm2 100 x.h) (fun x z => z = isPriceB x.h)
abbrev CWorth := CalP P w K mg base 1 "_law_worth" (fun x : A2 P2 P2 => Sm2 100 x.h ∧ Sm2 100 x.t.h) (fun x z => z = wt x.h x.t.h)
end
section
variable {X : Cx} {m : Mode} {σ : L2.St} {H : Hp} {a b c d e : Expr} {pos p : Pos} {j : Nat}
theorem e_isNum {u : Int} (c1 : CIsNum X.prog X.w X.K X.mg X.base) (hr : Room j X.A) (ha : EvD X m a σ H u) (hp : True) (hk : 1 ≤ j := by decide) (na : NS a := by exact fun _ _ => rfl) (hg : Gl X "_law_is_number" := by rfl) (he : starEach [a] X.env = (false, eval a X.env) :: starEach [] X.env := by rfl) (hpl : (backTo pos (starEach [] X.env)).any (·.1) = false := by rfl) :
    EvD X m (.Call (.Name "_law_is_number" p) [a] [] pos) σ H true := ev_call (t := (A.mk u ())) c1 hr (el1 ha na) hp hk hg (by decide) he hpl
theorem e_isPair {u : P2} (c1 : CIsPair X.prog X.w X.K X.mg X.base) (hr : Room j X.A) (ha : EvD X m a σ H u) (hp : True) (hk : 2 ≤ j := by decide) (na : NS a := by exact fun _ _ => rfl) (hg : Gl X "_law_is_pair" := by rfl) (he : starEach [a] X.env = (false, eval a X.env) :: starEach [] X.env := by rfl) (hpl : (backTo pos (starEach [] X.env)).any (·.1) = false := by rfl) :
    EvD X m (.Call (.Name "_law_is_pair" p) [a] [] pos) σ H true := ev_call (t := (A.mk u ())) c1 hr (el1 ha na) hp hk hg (by decide) he hpl
theorem e_gcdL {u : Int} {t : Int} (c1 : CGcd X.prog X.w X.K X.mg X.base) (hr : Room j X.A) (ha : EvD X m a σ H u) (hb : EvD X m b σ H t) (hp : 0 ≤ u ∧ 0 ≤ t ∧ Sm 1000 t) (hk : 1 ≤ j := by decide) (na : NS a := by exact fun _ _ => rfl) (nb : NS b := by exact fun _ _ => rfl) (hg : Gl X "_law_gcd" := by rfl) (he : starEach [a, b] X.env = (false, eval a X.env) :: starEach [b] X.env := by rfl) (hpl : (backTo pos (starEach [b] X.env)).any (·.1) = false := by rfl) :
    EvD X m (.Call (.Name "_law_gcd" p) [a, b] [] pos) σ H (gcdI u t) := ev_call (t := (A.mk u (A.mk t ()))) c1 hr (el2 ha hb na nb) hp hk hg (by decide) he hpl
theorem e_terms {u : Int} {t : Int} (c1 : CTerms X.prog X.w X.K X.mg X.base) (hr : Room j X.A) (ha : EvD X m a σ H u) (hb : EvD X m b σ H t) (hp : 0 ≤ u ∧ 0 ≤ t ∧ Sm 101 u ∧ Sm 101 t ∧ ¬ (u = 0 ∧ t = 0)) (hk : 2 ≤ j := by decide) (na : NS a := by exact fun _ _ => rfl) (nb : NS b := by exact fun _ _ => rfl) (hg : Gl X "_law_terms" := by rfl) (he : starEach [a, b] X.env = (false, eval a X.env) :: starEach [b] X.env := by rfl) (hpl : (backTo pos (starEach [b] X.env)).any (·.1) = false := by rfl) :
    EvD X m (.Call (.Name "_law_terms" p) [a, b] [] pos) σ H (leastT u t) := ev_call (t := (A.mk u (A.mk t ()))) c1 hr (el2 ha hb na nb) hp hk hg (by decide) he hpl
theorem e_lleads {u : P2} {t : P2} (c1 : CLLeads X.prog X.w X.K X.mg X.base) (hr : Room j X.A) (ha : EvD X m a σ H u) (hb : EvD X m b σ H t) (hp : Sm2 101 u ∧ Sm2 101 t) (hk : 1 ≤ j := by decide) (na : NS a := by exact fun _ _ => rfl) (nb : NS b := by exact fun _ _ => rfl) (hg : Gl X "_law_leads" := by rfl) (he : starEach [a, b] X.env = (false, eval a X.env) :: starEach [b] X.env := by rfl) (hpl : (backTo pos (starEach [b] X.env)).any (·.1) = false := by rfl) :
    EvD X m (.Call (.Name "_law_leads" p) [a, b] [] pos) σ H (leadsB u t) := ev_call (t := (A.mk u (A.mk t ()))) c1 hr (el2 ha hb na nb) hp hk hg (by decide) he hpl
theorem e_isPrice {u : P2} (c1 : CIsPrice X.prog X.w X.K X.mg X.base) (hr : Room j X.A) (ha : EvD X m a σ H u) (hp : Sm2 100 u) (hk : 3 ≤ j := by decide) (na : NS a := by exact fun _ _ => rfl) (hg : Gl X "_law_is_price" := by rfl) (he : starEach [a] X.env = (false, eval a X.env) :: starEach [] X.env := by rfl) (hpl : (backTo pos (starEach [] X.env)).any (·.1) = false := by rfl) :
    EvD X m (.Call (.Name "_law_is_price" p) [a] [] pos) σ H (isPriceB u) := ev_call (t := (A.mk u ())) c1 hr (el1 ha na) hp hk hg (by decide) he hpl
theorem e_worth {u : P2} {t : P2} (c1 : CWorth X.prog X.w X.K X.mg X.base) (hr : Room j X.A) (ha : EvD X m a σ H u) (hb : EvD X m b σ H t) (hp : Sm2 100 u ∧ Sm2 100 t) (hk : 1 ≤ j := by decide) (na : NS a := by exact fun _ _ => rfl) (nb : NS b := by exact fun _ _ => rfl) (hg : Gl X "_law_worth" := by rfl) (he : starEach [a, b] X.env = (false, eval a X.env) :: starEach [b] X.env := by rfl) (hpl : (backTo pos (starEach [b] X.env)).any (·.1) = false := by rfl) :
    EvD X m (.Call (.Name "_law_worth" p) [a, b] [] pos) σ H (wt u t) := ev_call (t := (A.mk u (A.mk t ()))) c1 hr (el2 ha hb na nb) hp hk hg (by decide) he hpl
end
section
variable {P : Program} {w : World} {K : PySem.W.Frag} {mg : Str → Option Value} {base : Heap}
theorem ok_isNumber (C : Consts K mg) (F : FnX K mg "_law_is_number" sIsNumber ["_law_item"]) : CIsNum P w K mg base := .of F <| by
  have S := scIsNumber
  refine fn_okP F S (fun K M H vs x r => rl1 x r) fun cdv A outer s H E m vs x Q hr j r _ q => ?_
  obtain ⟨v1, rfl, r1⟩ := rp1 r
  refine wb_one (ws_ret (ev_and (ev_isiI (U := "int") (r := true) C (ev_var 0 r1) (C.none _ (by decide)) (by decide +kernel) (by decide +kernel)) fun _ => ev_one (ev_not (ev_isiI (U := "bool") (r := false) C (ev_var 0 r1) (C.none _ (by decide)) (by decide +kernel) (by decide +kernel)))) j fun v H' z s' pz rz => q v H' z s' pz rz)
theorem ok_gcd (C : Consts K mg) (F : FnX K mg "_law_gcd" sGcd ["_law_one", "_law_two"]) : CGcd P w K mg base := .of F <| by
  have S := scGcd
  refine fn_okP F S (fun K M H vs x r => rl2 x r) fun cdv A outer s H E m vs x Q hr j r ⟨b1, b2, b3⟩ q => ?_
  obtain ⟨v1, v2, rfl, r1, r2⟩ := rp2 r
  cases (show v1 = V.int x.h from r1)
  cases (show v2 = V.int x.t.h from r2)
  have hg : euc 3000 x.h x.t.h = gcdI x.h x.t.h := euc_gcd 1000 3000 _ _ b1 b2 (by
    have h := b3
    unfold Sm at h
    have e : ((2 ^ 1000 : Nat) : Int) = 2 ^ 1000 := Int.natCast_pow 2 1000
    omega) (by omega)
  refine wb_cons (ws_forR 2 (n := 3000) (ev_int (i := 3000)) (by decide) j (fun k σ' H' => ∃ a b w3, σ' = [some (.int a), some (.int b), w3] ∧ 0 ≤ a ∧ 0 ≤ b ∧ euc (3000 - k) a b = gcdI x.h x.t.h ∧ Step m H H') (fun H' s' => ⟨_, _, _, rfl, b1, b2, hg, s'⟩) ?turn ?hend (C.none _ (by decide)))
  case turn =>
    rintro k σ' H' hk ⟨a, b, w3, rfl, ha, hb, he, s1⟩
    have ra : rep K m.M H' (V.int a) a := rfl
    have rb : rep K m.M H' (V.int b) b := rfl
    refine wb_cons (ws_if (et_eqI (ev_var 1 rb) (ev_int (i := 0))) s1.j (fun H2 s2 hz => ?_) fun H2 s2 hz => wb_nil ?_)
    · have hb0 := of_decide_eq_true hz
      refine wb_one (ws_ret (ev_var 0 (s2.rep ra)) s2.j fun v H3 z s3 pz rz => q v H3 z (s1.trans (s2.trans s3)) ?_ rz)
      obtain ⟨n, hn⟩ : ∃ n, 3000 - k = n + 1 := ⟨3000 - k - 1, by omega⟩
      rw [hn] at he
      unfold euc at he
      rw [if_pos hb0] at he
      rw [pz, he]
    · have hb0 := of_decide_eq_false hz
      obtain ⟨n, hn⟩ : ∃ n, 3000 - k = n + 1 := ⟨3000 - k - 1, by omega⟩
      rw [hn] at he
      unfold euc at he
      rw [if_neg hb0] at he
      refine wb_one (ws_par 0 1 (ev_var 1 (s2.rep rb)) (ev_mod (ev_toInt (C.none _ (by decide)) (ev_var 0 (s2.rep ra))) (ev_var 1 (s2.rep rb)) (by omega)) s2.j fun v w' H3 z u s3 pz pu rz ru => ?_)
      cases (show v = V.int z from rz)
      cases (show w' = V.int u from ru)
      subst pz
      subst pu
      exact ⟨z, a % z, some (.int k), rfl, hb, Int.emod_nonneg _ hb0, by rw [show 3000 - (k + 1) = n by omega]; exact he, s1.trans (s2.trans s3)⟩
  case hend =>
    rintro σ' H' ⟨a, b, w3, rfl, ha, hb, he, s1⟩
    refine wb_one (ws_ret (ev_var 0 (show rep K m.M H' (V.int a) a from rfl)) s1.j fun v H3 z s3 pz rz => q v H3 z (s1.trans s3) ?_ rz)
    rw [pz, ← he]
    rfl
theorem ok_terms (c1 : CGcd P w K mg base) (F : FnX K mg "_law_terms" sTerms ["_law_one", "_law_two"]) : CTerms P w K mg base := .of F <| by
  have S := scTerms
  refine fn_okP F S (fun K M H vs x r => rl2 x r) fun cdv A outer s H E m vs x Q hr j r ⟨a1, a2, b1, b2, b3⟩ q => ?_
  obtain ⟨v1, v2, rfl, r1, r2⟩ := rp2 r
  have g0 := gcdI_pos b3
  have g1 := gcdI_sm b3 b1 b2
  refine wb_cons (ws_set 2 (e_gcdL c1 hr (ev_var 0 r1) (ev_var 1 r2) ⟨a1, a2, b2.mono (by omega)⟩) j fun v H' z s' pz rz => ?_)
  subst pz
  exact wb_one (ws_ret (ev_pair (ev_fdiv (ev_var 0 (s'.rep r1)) (ev_var 2 rz) (Sm.cdiv g0 g1)) (ev_fdiv (ev_var 1 (s'.rep r2)) (ev_var 2 rz) (Sm.cdiv g0 g1))) s'.j fun v H2 z s2 pz rz => q v H2 z (s'.trans s2) (by rw [pz]; rfl) rz)
theorem ok_lleads (F : FnX K mg "_law_leads" sLLeads ["_law_one", "_law_two"]) : CLLeads P w K mg base := .of F <| by
  have S := scLLeads
  refine fn_okP F S (fun K M H vs x r => rl2 x r) fun cdv A outer s H E m vs x Q hr j r ⟨b1, b2⟩ q => ?_
  obtain ⟨v1, v2, rfl, r1, r2⟩ := rp2 r
  exact wb_one (ws_ret (ev_gt (ev_mul (ev_fst (ev_var 0 r1) ev_int) (ev_snd (ev_var 1 r2) ev_int) (b1.1.cmul b2.2)) (ev_mul (ev_fst (ev_var 1 r2) ev_int) (ev_snd (ev_var 0 r1) ev_int) (b2.1.cmul b1.2))) j q)
theorem ok_worth (F : FnX K mg "_law_worth" sWorth ["_law_pair_here", "_law_spot_here"]) : CWorth P w K mg base := .of F <| by
  have S := scWorth
  refine fn_okP F S (fun K M H vs x r => rl2 x r) fun cdv A outer s H E m vs x Q hr j r ⟨b1, b2⟩ q => ?_
  obtain ⟨v1, v2, rfl, r1, r2⟩ := rp2 r
  exact wb_one (ws_ret (ev_add (ev_mul (ev_fst (ev_var 1 r2) ev_int) (ev_fst (ev_var 0 r1) ev_int) (b2.1.cmul b1.1)) (ev_mul (ev_snd (ev_var 1 r2) ev_int) (ev_snd (ev_var 0 r1) ev_int) (b2.2.cmul b1.2))) j q)
theorem ok_isPair (C : Consts K mg) (c1 : CIsNum P w K mg base) (F : FnX K mg "_law_is_pair" sIsPair ["_law_item"]) : CIsPair P w K mg base := .of F <| by
  have S := scIsPair
  refine fn_okP F S (fun K M H vs x r => rl1 x r) fun cdv A outer s H E m vs x Q hr j r _ q => ?_
  obtain ⟨v1, rfl, r1⟩ := rp1 r
  refine wb_one (ws_ret (ev_and (ev_isiT C (ev_var 0 r1)) fun _ => ev_and (ev_eqI (ev_len2 C (ev_var 0 r1)) (ev_int (i := 2))) fun _ => ev_and (e_isNum c1 hr (ev_fst (ev_var 0 r1) ev_int) trivial) fun _ => ev_one (e_isNum c1 hr (ev_snd (ev_var 0 r1) ev_int) trivial)) j fun v H' z s' pz rz => q v H' z s' (by rw [pz]; rfl) rz)
theorem ok_isPrice (c1 : CIsPair P w K mg base) (c2 : CGcd P w K mg base) (F : FnX K mg "_law_is_price" sIsPrice ["_law_item"]) : CIsPrice P w K mg base := .of F <| by
  have S := scIsPrice
  refine fn_okP F S (fun K M H vs x r => rl1 x r) fun cdv A outer s H E m vs x Q hr j r b1 q => ?_
  obtain ⟨v1, rfl, r1⟩ := rp1 r
  refine wb_one (ws_ret (ev_and (e_isPair c1 hr (ev_var 0 r1) trivial) fun _ => ev_and (ev_geI (ev_fst (ev_var 0 r1) ev_int) (ev_int (i := 0))) fun h1 => ev_and (ev_geI (ev_snd (ev_var 0 r1) ev_int) (ev_int (i := 0))) fun h2 => ev_one (ev_eqI (e_gcdL c2 hr (ev_fst (ev_var 0 r1) ev_int) (ev_snd (ev_var 0 r1) ev_int) ⟨of_decide_eq_true h1, of_decide_eq_true h2, b1.2.mono (by omega)⟩) (ev_int (i := 1)))) j fun v H' z s' pz rz => q v H' z s' ?_ rz)
  rw [pz]
  rfl
end
end HK
set_option Elab.async false
set_option linter.all false
set_option maxRecDepth 100000
/-! F9: the law's alone, corners. -/
namespace HK
open PySem PySem.Spec PyProof.Rows L2 LamX
open Rep Arg
open PySem.W (dataLe dataLt)
abbrev sAlone : Stmt := topS 34
abbrev sCorners : Stmt := topS 35
theorem scAlone : FnScope ["_law_pair_here", "_law_others", "_law_low", "_law_high", "_law_other", "_law_more", "_law_less"] ["_law_pair_here", "_law_others", "_law_low", "_law_high"] (defScope sAlone) := ⟨rfl, rfl, rfl, by decide +kernel, rfl, by decide +kernel, by decide +kernel⟩
abbrev nCorners : List Str := ["_law_pairs_here", "_law_low", "_law_high", "_law_some", "_law_found", "_law_pair_here", "_law_part", "_law_order", "_law_other", "_law_one"]
theorem scCorners : FnScope nCorners ["_law_pairs_here", "_law_low", "_law_high"] (defScope sCorners) := ⟨rfl, rfl, rfl, by decide +kernel, rfl, by decide +kernel, by decide +kernel⟩
section
variable (P : Program) (w : World) (K : PySem.W.Frag) (mg : Str → Option Value) (base : Heap)
abbrev CAlone := CalP P w K mg base 3 "_law_alone" (fun x : A4 P2 (List P2) P2 P2 => Sm2 99 x.h ∧ (∀ c, c ∈ x.t.h → Sm2 99 c) ∧ Sm2 100 x.t.t.h ∧ Sm2 100 x.t.t.t.h) (fun x z => z = lawAlone x.h x.t.h x.t.t.h x.t.t.t.h)
abbrev CCorners := CalP P w K mg base 4 "_law_corners" (fun x : A3 (List P2) P2 P2 => x.h.length ≤ 1000 ∧ (∀ c, c ∈ x.h → Sm2 99 c) ∧ Sm2 100 x.t.h ∧ Sm2 100 x.t.t.h) (fun x z => z = Tup.mk (lawCorners x.h x.t.h x.t.t.h))
end
section
variable {P : Program} {w : World} {K : PySem.W.Frag} {mg : Str → Option Value} {base : Heap}
theorem lawAlone_cons {p o : P2} {r : List P2} {lo hi : P2} (h : ¬ (p.1 - o.1 ≤ 0 ∧ p.2 - o.2 ≤ 0)) : lawAlone p (o :: r) lo hi = lawAlone p r (if p.1 - o.1 < 0 ∧ leadsB lo (leastT (p.2 - o.2) (0 - (p.1 - o.1))) = true then leastT (p.2 - o.2) (0 - (p.1 - o.1)) else lo)
    (if p.2 - o.2 < 0 ∧ leadsB (leastT (0 - (p.2 - o.2)) (p.1 - o.1)) hi = true then leastT (0 - (p.2 - o.2)) (p.1 - o.1) else hi) := by
  rw [lawAlone, if_neg h]
def aloneBody : List Stmt := match (defBody sAlone)[0]? with
  | some (Stmt.For _ _ b _ _) => b
  | _ => []
theorem ok_alone (c1 : CTerms P w K mg base) (c2 : CLLeads P w K mg base) (F : FnX K mg "_law_alone" sAlone ["_law_pair_here", "_law_others", "_law_low", "_law_high"]) : CAlone P w K mg base := .of F <| by
  have S := scAlone
  refine fn_okP F S (fun K M H vs x r => rl4 x r) fun cdv A outer s H E m vs x Q hr j r ⟨b1, b2, b3, b4⟩ q => ?_
  obtain ⟨v1, v2, v3, v4, rfl, r1, r2, r3, r4⟩ := rp4 r
  refine wb_cons (ws_forL 4 (ev_var 1 r2) j (fun k σ' H' => ∃ u3 u4 w5 w6 w7 lo hi, σ' = [some v1, some v2, some u3, some u4, w5, w6, w7] ∧ rep K m.M H' u3 lo ∧ rep K m.M H' u4 hi ∧ Sm2 100 lo ∧ Sm2 100 hi ∧ lawAlone x.h (x.t.h.drop k) lo hi = lawAlone x.h x.t.h x.t.t.h x.t.t.t.h)
    (fun H' s' => ⟨v3, v4, none, none, none, _, _, rfl, s'.rep r3, s'.rep r4, b3, b4, rfl⟩) ?turn ?hend)
  case turn =>
    rintro k o v σ' H' hx s1 ⟨u3, u4, w5, w6, w7, lo, hi, rfl, q3, q4, sl, sh, he⟩ rv
    have so := b2 o (List.mem_of_getElem? hx)
    have hd : x.t.h.drop k = o :: x.t.h.drop (k + 1) := by
      obtain ⟨hk, e⟩ := List.getElem?_eq_some_iff.mp hx
      rw [← e]
      exact List.drop_eq_getElem_cons hk
    rw [hd] at he
    refine wb_cons (ws_par 5 6 (ev_sub (ev_fst (ev_var 0 (s1.rep r1)) ev_int) (ev_fst (ev_var 4 rv) ev_int)) (ev_sub (ev_snd (ev_var 0 (s1.rep r1)) ev_int) (ev_snd (ev_var 4 rv) ev_int)) s1.j fun v5 v6 H1 z u s2 pz pu r5 r6 => ?_)
    have sz : Sm 100 z := by rw [pz]; exact b1.1.sub so.1
    have su : Sm 100 u := by rw [pu]; exact b1.2.sub so.2
    refine wb_cons (ws_if (et_and (et_le (ev_var 5 r5) ev_int) fun _ => et_le (ev_var 6 r6) ev_int) s2.j (fun H2 s3 hk => ?_) fun H2 s3 hk => wb_nil ?_)
    · refine wb_one (ws_ret (ev_none (α := Str2)) s3.j fun v H3 z3 s4 p3 r3 => q v H3 z3 (s1.trans (s2.trans (s3.trans s4))) ?_ r3)
      rw [p3, ← he, lawAlone, if_pos]
      rw [← pz, ← pu]
      simpa using hk
    have hn : ¬ (z ≤ 0 ∧ u ≤ 0) := fun h => by simp [h.1, h.2] at hk
    rw [lawAlone_cons (by rw [← pz, ← pu]; exact hn), ← pz, ← pu] at he
    have s12 := s2.trans s3
    -- the rest, from any high
    have rest : ∀ (D' : Ends) (u4' : V) (hi' : P2) (H3 : Hp), (∀ σ2 H2, (Step m H' H2 ∧ ∃ u3 u4 w5 w6 w7 lo hi, σ2 = [some v1, some v2, some u3, some u4, w5, w6, w7] ∧ rep K m.M H2 u3 lo ∧ rep K m.M H2 u4 hi ∧ Sm2 100 lo ∧ Sm2 100 hi ∧ lawAlone x.h (x.t.h.drop (k + 1)) lo hi = lawAlone x.h x.t.h x.t.t.h x.t.t.t.h) → D'.nx σ2 H2) →
        hi' = (if u < 0 ∧ leadsB (leastT (0 - u) z) hi = true then leastT (0 - u) z else hi) → Step m H2 H3 → rep K m.M H3 u4' hi' → Sm2 100 hi' →
        WB (bcx P w K mg base ["_law_pair_here", "_law_others", "_law_low", "_law_high", "_law_other", "_law_more", "_law_less"] "_law_alone" sAlone F.f cdv A outer s H E) (aloneBody.drop 3) D' [some v1, some v2, some u3, some u4', some v, some v5, some v6] H3 := fun D' u4' hi' H3 hD e4 s4 r4' sh' => by
      show WB _ [_] _ _ _
      have s14 := s12.trans s4
      refine wb_one (ws_if (et_and (et_lt (ev_var 5 (s3.trans s4 |>.rep r5)) ev_int) fun h => et_val (e_lleads c2 hr (ev_var 2 (s14.rep q3)) (e_terms c1 hr (ev_var 6 (s3.trans s4 |>.rep r6)) (ev_sub (ev_int (i := 0)) (ev_var 5 (s3.trans s4 |>.rep r5))) ?p1) ?p2)) s4.j (fun H4 s5 hk2 => ?_) fun H4 s5 hk2 => wb_nil ?_)
      case p1 =>
        have := of_decide_eq_true h
        exact ⟨by omega, by omega, su.mono (by omega), (show Sm 101 (0 - z) by rw [Int.zero_sub]; exact sz.neg.mono (by omega)), by omega⟩
      case p2 =>
        have := of_decide_eq_true h
        exact ⟨sl.mono (by omega), leastT_sm (su.mono (by omega)) (show Sm 101 (0 - z) by rw [Int.zero_sub]; exact sz.neg.mono (by omega)) (by omega)⟩
      · simp only [Bool.and_eq_true, decide_eq_true_eq] at hk2
        refine wb_one (ws_set 2 (e_terms c1 hr (ev_var 6 (s3.trans (s4.trans s5) |>.rep r6)) (ev_sub (ev_int (i := 0)) (ev_var 5 (s3.trans (s4.trans s5) |>.rep r5))) ⟨by omega, by omega, su.mono (by omega), (show Sm 101 (0 - z) by rw [Int.zero_sub]; exact sz.neg.mono (by omega)), by omega⟩) s5.j fun v7 H5 z7 s6 p7 r7 => ?_)
        refine hD _ _ ⟨s14.trans (s5.trans s6), v7, u4', _, _, _, z7, hi', rfl, r7, s6.rep (s5.rep r4'), ?_, sh', ?_⟩
        · rw [p7]
          exact leastT_sm su (show Sm 100 (0 - z) by rw [Int.zero_sub]; exact sz.neg) (by omega)
        · rw [← he, if_pos hk2, ← e4, p7]
      · have hk3 : ¬ (z < 0 ∧ leadsB lo (leastT u (0 - z)) = true) := fun h => (by rw [h.2, decide_eq_true h.1] at hk2; exact absurd hk2 (by decide))
        refine hD _ _ ⟨s14.trans s5, u3, u4', _, _, _, lo, hi', rfl, (s14.trans s5).rep q3, s5.rep r4', sl, sh', ?_⟩
        rw [← he, if_neg hk3, ← e4]
    refine wb_cons (ws_if (et_and (et_lt (ev_var 6 (s3.rep r6)) ev_int) fun h => et_val (e_lleads c2 hr (e_terms c1 hr (ev_sub (ev_int (i := 0)) (ev_var 6 (s3.rep r6))) (ev_var 5 (s3.rep r5)) ?p1) (ev_var 3 (s12.rep q4)) ?p2)) s3.j (fun H3 s4 hk2 => ?_) fun H3 s4 hk2 => wb_nil ?_)
    case p1 =>
      have := of_decide_eq_true h
      exact ⟨by omega, by omega, (show Sm 101 (0 - u) by rw [Int.zero_sub]; exact su.neg.mono (by omega)), sz.mono (by omega), by omega⟩
    case p2 =>
      have := of_decide_eq_true h
      exact ⟨leastT_sm (show Sm 101 (0 - u) by rw [Int.zero_sub]; exact su.neg.mono (by omega)) (sz.mono (by omega)) (by omega), sh.mono (by omega)⟩
    · simp only [Bool.and_eq_true, decide_eq_true_eq] at hk2
      refine wb_one (ws_set 3 (e_terms c1 hr (ev_sub (ev_int (i := 0)) (ev_var 6 (s3.trans s4 |>.rep r6))) (ev_var 5 (s3.trans s4 |>.rep r5)) ⟨by omega, by omega, (show Sm 101 (0 - u) by rw [Int.zero_sub]; exact su.neg.mono (by omega)), sz.mono (by omega), by omega⟩) s4.j fun v7 H4 z7 s5 p7 r7 => ?_)
      exact rest _ v7 z7 H4 (fun _ _ h => h) (by rw [if_pos hk2, p7]) (s4.trans s5) r7 (by rw [p7]; exact leastT_sm (show Sm 100 (0 - u) by rw [Int.zero_sub]; exact su.neg) sz (by omega))
    · have hk3 : ¬ (u < 0 ∧ leadsB (leastT (0 - u) z) hi = true) := fun h => (by rw [h.2, decide_eq_true h.1] at hk2; exact absurd hk2 (by decide))
      exact rest _ u4 hi H3 (fun _ _ h => h) (by rw [if_neg hk3]) s4 ((s12.trans s4).rep q4) sh
  case hend =>
    rintro σ' H' s1 ⟨u3, u4, w5, w6, w7, lo, hi, rfl, q3, q4, sl, sh, he⟩
    refine wb_one (ws_ret (ev_ifD (et_val (e_lleads c2 hr (ev_var 2 q3) (ev_var 3 q4) ⟨sl.mono (by omega), sh.mono (by omega)⟩)) (fun _ => ev_some2 (ev_pair (ev_var 2 q3) (ev_var 3 q4))) fun _ => ev_none) s1.j fun v H3 z s2 pz rz => q v H3 z (s1.trans s2) ?_ rz)
    rw [List.drop_of_length_le (Nat.le_refl _)] at he
    rw [pz, ← he]
    rfl
end
end HK
set_option Elab.async false
set_option linter.all false
set_option maxRecDepth 100000
/-! F10: the law's corners. -/
namespace HK
open PySem PySem.Spec PyProof.Rows L2 LamX
open Rep Arg
open PySem.W (dataLe dataLt alike alikeAll)
/-! ### the order of (count, pair) -/
theorem lt3 (a b c a' b' c' : Int) : dataLt (.tuple [.int a, .tuple [.int b, .int c]]) (.tuple [.int a', .tuple [.int b', .int c']]) = decide (a < a' ∨ (a = a' ∧ (b < b' ∨ (b = b' ∧ c < c')))) := by
  have al : ∀ x y : Int, alike (.int x) (.int y) = true := fun x y => by simp [alike]
  have al2 : alike (.tuple [.int b, .int c]) (.tuple [.int b', .int c']) = true := by simp [alike, alikeAll]
  rw [PySem.W.dataLt_tuple]
  by_cases h : a = a'
  · rw [PySem.W.dataLt_all_yes (al a a') (by rw [h]; simp [PyData.eqv])]
    by_cases h2 : b = b' ∧ c = c'
    · rw [PySem.W.dataLt_all_yes al2 (by rw [h2.1, h2.2]; simp [PyData.eqv, PyData.eqvAll])]
      have e : decide (a < a' ∨ (a = a' ∧ (b < b' ∨ (b = b' ∧ c < c')))) = false := decide_eq_false (by omega)
      rw [e]
      exact lex_irrefl _
    · rw [PySem.W.dataLt_all_no al2 (by
        by_cases hb : b = b'
        · have hc : ¬ c = c' := fun z => h2 ⟨hb, z⟩
          simp [PyData.eqv, PyData.eqvAll, hb, hc]
        · simp [PyData.eqv, PyData.eqvAll, hb]), PySem.W.dataLt_ii]
      rw [decide_eq_decide]
      omega
  · rw [PySem.W.dataLt_all_no (al a a') (by simp [PyData.eqv, h]), PySem.W.dataLt_int, decide_eq_decide]
    omega
theorem ordLe_eq : dataLe false (Dat.enc : Int × P2 → PyData) = ordLe := by
  funext p q
  show (!dataLt (.tuple [.int q.1, .tuple [.int q.2.1, .int q.2.2]]) (.tuple [.int p.1, .tuple [.int p.2.1, .int p.2.2]])) = ordLe p q
  rw [lt3]
  unfold ordLe
  rw [← decide_not, decide_eq_decide]
  omega
section
variable {X : Cx} {m : Mode} {σ : L2.St} {H : Hp} {iter elt test : Expr} {pos px : Pos} {xn : Str} {α : Type} [Rep α]
/-- [x for x in xs if test] -/
theorem ev_lcF (i : Nat) {scope : Scope} {xs : List α} (p : α → Bool) (hi : EvD X m iter σ H xs) (hlen : xs.length ≤ 1000000) (ok : BlkOk X.N X.env.scope scope [(xn, i)])
    (ht : ∀ (m' : Mode) (s0 : Shared) (H0 : Hp) (C : Addr) (cl : List (Str × Addr)) (fp : List Addr) (v : V) (x : α) (H' : Hp), Up X.K m H m' H' → m'.J H' → x ∈ xs → rep X.K m'.M H' v x → EvT (X.blk s0 H0 scope (compEnvC scope cl C X.env) fp) m' test ((wipe σ [i]).set i (some v)) H' (p x))
    (he : ∀ (m' : Mode) (s0 : Shared) (H0 : Hp) (C : Addr) (cl : List (Str × Addr)) (fp : List Addr) (v : V) (x : α) (H' : Hp), m'.J H' → rep X.K m'.M H' v x → EvD (X.blk s0 H0 scope (compEnvC scope cl C X.env) fp) m' elt ((wipe σ [i]).set i (some v)) H' x)
    (hN : X.N.Nodup := by first | assumption | exact FnScope.nd (by assumption)) (hc : X.calm = true := by rfl)
    (hg : ∀ (s : Shared) (H : Hp) (C : Addr) (cl : List (Str × Addr)) (fp : List Addr), PG (X.blk s H scope (compEnvC scope cl C X.env) fp) (.Name xn px) (gName i) := by first | exact fun _ _ _ _ _ => pg_name (FnScope.nd (by assumption)) rfl (Or.inl rfl) | exact fun _ _ _ _ _ => pg_name (FnScope.nd (by assumption)) rfl (Or.inr rfl))
    (hs : ∀ x, foldedSetIterable iter X.env x = pure x := by intro _; rfl) : EvD X m (.ListComp elt [⟨.Name xn px, iter, [test], 0⟩] scope pos) σ H (xs.filter p) :=
  (ev_lc1L i p (fun x => x) hi hlen ok ht (fun m' s0 H0 C cl fp v x H' _ j _ _ r => he m' s0 H0 C cl fp v x H' j r) hN hc hg hs).to (List.map_id' _)
end
section
variable {X : Cx} {m : Mode} {σ : L2.St} {H : Hp} {D : Ends} {pos : Pos}
/-- x, y = [], [] -/
theorem ws_new2 (i j : Nat) {x y : Str} {px py pt p1 p2 pt2 : Pos} {kt kt2} (k : ∀ l1 l2 H', H l1 = none → H l2 = none → l1 ≠ l2 → Ex H H' → H' l1 = some (.lst []) → H' l2 = some (.lst []) → D.nx ((σ.set i (some (.ref l1))).set j (some (.ref l2))) H')
    (hN : X.N.Nodup := by first | assumption | exact FnScope.nd (by assumption)) (hc : X.calm = true := by rfl) (hi : X.N[i]? = some x := by rfl) (hj : X.N[j]? = some y := by rfl) (hx : Loc X.env.scope x := by first | exact Or.inl rfl | exact Or.inr rfl) (hy : Loc X.env.scope y := by first | exact Or.inl rfl | exact Or.inr rfl)
    (fx : X.fn x = true ∨ X.env.scope.names.lookup x = some .local := by first | exact .inl rfl | exact .inr rfl) (fy : X.fn y = true ∨ X.env.scope.names.lookup y = some .local := by first | exact .inl rfl | exact .inr rfl)
    (hs : swapsWithSole [.Tuple [.Name x px, .Name y py] kt pt] (.Tuple [.List [] p1, .List [] p2] kt2 pt2) pos.line X.env = pure false := by rfl) (hw : swappedStores [.Tuple [.Name x px, .Name y py] kt pt] (.Tuple [.List [] p1, .List [] p2] kt2 pt2) X.env = pure none := by rfl) :
    WS X (.Assign [.Tuple [.Name x px, .Name y py] kt pt] (.Tuple [.List [] p1, .List [] p2] kt2 pt2) pos) D σ H :=
  ws_of (ps_asg (pe_tup (pa_cons (pe_lst pa_nil) (pa_cons (pe_lst pa_nil) pa_nil rfl) rfl)) (pg_tup hc (pgs_cons (pg_name hN hi hx fx) (pgs_cons (pg_name hN hj hy fy) pgs_nil))) hs hw)
    ⟨Nat.zero_le _, fun l1 n1 => ⟨Nat.zero_le _, fun l2 n2 => ⟨two_le, fun p np => by
      have h1 : upd H l1 (.lst []) l1 = some (.lst []) := upd_same
      have e12 : l1 ≠ l2 := ne_of_none h1 n2
      have h1' : upd (upd H l1 (.lst [])) l2 (.lst []) l1 = some (.lst []) := Ex.new n2 _ _ h1
      have h2' : upd (upd H l1 (.lst [])) l2 (.lst []) l2 = some (.lst []) := upd_same
      have n2' : H l2 = none := by
        cases e : H l2 with
        | none => rfl
        | some o => rw [Ex.new n1 _ _ e] at n2; cases n2
      exact ⟨p, [.ref l1, .ref l2], rfl, .inl (.inl upd_same), rfl, _, _, rfl, _, _, rfl, rfl, k l1 l2 _ n1 n2' e12 (fun b o h => Ex.new np _ _ (Ex.new n2 _ _ (Ex.new n1 _ _ h))) (Ex.new np _ _ h1') (Ex.new np _ _ h2')⟩⟩⟩⟩
end
theorem dedup_snoc (ps : List P2) (p : P2) : dedup (ps ++ [p]) = if p ∈ dedup ps then dedup ps else dedup ps ++ [p] := by
  unfold dedup
  rw [List.foldl_append]
  rfl
theorem dedup_len_aux : ∀ (ps acc : List P2), (ps.foldl (fun acc p => if p ∈ acc then acc else acc ++ [p]) acc).length ≤ ps.length + acc.length
  | [], acc => by simp
  | p :: ps, acc => by
    rw [List.foldl_cons]
    refine Nat.le_trans (dedup_len_aux ps _) ?_
    split
    · simp only [List.length_cons]
      omega
    · simp only [List.length_cons, List.length_append, List.length_nil]
      omega
theorem dedup_len (ps : List P2) : (dedup ps).length ≤ ps.length := by
  have := dedup_len_aux ps []
  simpa [dedup] using this
theorem dedup_mem_aux : ∀ (ps acc : List P2) (c : P2), c ∈ ps.foldl (fun acc p => if p ∈ acc then acc else acc ++ [p]) acc ↔ c ∈ ps ∨ c ∈ acc
  | [], acc, c => by simp
  | p :: ps, acc, c => by
    rw [List.foldl_cons, dedup_mem_aux ps]
    split
    · rename_i h
      simp only [List.mem_cons]
      constructor
      · rintro (h | h)
        · exact .inl (.inr h)
        · exact .inr h
      · rintro ((rfl | h) | h)
        · exact .inr h
        · exact .inl h
        · exact .inr h
    · simp only [List.mem_append, List.mem_cons, List.not_mem_nil, or_false]
      constructor
      · rintro (h | h | h)
        · exact .inl (.inr h)
        · exact .inr h
        · exact .inl (.inl h)
      · rintro ((h | h) | h)
        · exact .inr (.inr h)
        · exact .inl h
        · exact .inr (.inl h)
theorem dedup_mem {ps : List P2} {c : P2} (h : c ∈ dedup ps) : c ∈ ps := by
  have := (dedup_mem_aux ps [] c).mp h
  simpa using this
theorem mem_dedup {ps : List P2} {c : P2} : c ∈ dedup ps ↔ c ∈ ps := by
  have := dedup_mem_aux ps [] c
  simpa [dedup] using this
section
variable {X : Cx} {m : Mode} {σ : L2.St} {H : Hp} {a b c d e : Expr} {pos p : Pos} {j : Nat}
theorem e_alone {u : P2} {t : List P2} {lo : P2} {hi : P2} (c1 : CAlone X.prog X.w X.K X.mg X.base) (hr : Room j X.A) (ha : EvD X m a σ H u) (hb : EvD X m b σ H t) (hc : EvD X m c σ H lo) (hd : EvD X m d σ H hi) (hp : Sm2 99 u ∧ (∀ c, c ∈ t → Sm2 99 c) ∧ Sm2 100 lo ∧ Sm2 100 hi) (hk : 3 ≤ j := by decide) (na : NS a := by exact fun _ _ => rfl) (nb : NS b := by exact fun _ _ => rfl) (nc : NS c := by exact fun _ _ => rfl) (nd : NS d := by exact fun _ _ => rfl) (hg : Gl X "_law_alone" := by rfl) (he : starEach [a, b, c, d] X.env = (false, eval a X.env) :: starEach [b, c, d] X.env := by rfl) (hpl : (backTo pos (starEach [b, c, d] X.env)).any (·.1) = false := by rfl) :
    EvD X m (.Call (.Name "_law_alone" p) [a, b, c, d] [] pos) σ H (lawAlone u t lo hi) := ev_call (t := (A.mk u (A.mk t (A.mk lo (A.mk hi ()))))) c1 hr (el4 ha hb hc hd na nb nc nd) hp hk hg (by decide) he hpl
end
theorem lawAlone_sm : ∀ {ps : List P2} {p lo hi : P2} {st : Str2}, Sm2 99 p → (∀ c, c ∈ ps → Sm2 99 c) → Sm2 100 lo → Sm2 100 hi → lawAlone p ps lo hi = some st → Sm2 100 st.1 ∧ Sm2 100 st.2
  | [], p, lo, hi, st, _, _, h1, h2, h => by
    unfold lawAlone at h
    split at h
    · cases h; exact ⟨h1, h2⟩
    · cases h
  | o :: r, p, lo, hi, st, hp, hr, h1, h2, h => by
    by_cases hn : p.1 - o.1 ≤ 0 ∧ p.2 - o.2 ≤ 0
    · rw [lawAlone, if_pos hn] at h
      cases h
    · rw [lawAlone_cons hn] at h
      have ho := hr o List.mem_cons_self
      have m1 : Sm 100 (p.1 - o.1) := hp.1.sub ho.1
      have m2 : Sm 100 (p.2 - o.2) := hp.2.sub ho.2
      refine lawAlone_sm hp (fun c hc => hr c (List.mem_cons_of_mem _ hc)) ?_ ?_ h
      · split
        · rename_i z
          exact leastT_sm m2 (by rw [Int.zero_sub]; exact m1.neg) (by omega)
        · exact h1
      · split
        · rename_i z
          exact leastT_sm (by rw [Int.zero_sub]; exact m2.neg) m1 (by omega)
        · exact h2
theorem lawFound_sm {some : List P2} {lo hi : P2} (hs : ∀ c, c ∈ some → Sm2 99 c) (h1 : Sm2 100 lo) (h2 : Sm2 100 hi) : ∀ o, o ∈ lawFound some lo hi → Sm2 100 o.1 ∧ Sm2 99 o.2 := fun o ho => by
  obtain ⟨p, hp, e⟩ := List.mem_filterMap.mp ho
  obtain ⟨st, e1, e2⟩ := Option.map_eq_some_iff.mp e
  subst e2
  exact ⟨(lawAlone_sm (hs p hp) (fun c hc => hs c (List.mem_filter.mp hc).1) h1 h2 e1).1, hs p hp⟩
theorem fm_len {α β : Type} (f : α → Option β) : ∀ l : List α, (l.filterMap f).length ≤ l.length
  | [] => by simp
  | x :: l => by
    have := fm_len f l
    rw [List.filterMap_cons]
    split
    · simp only [List.length_cons]; omega
    · simp only [List.length_cons]; omega
section
variable {P : Program} {w : World} {K : PySem.W.Frag} {mg : Str → Option Value} {base : Heap}
theorem ok_corners (C : Consts K mg) (c1 : CAlone P w K mg base) (c2 : CLLeads P w K mg base) (F : FnX K mg "_law_corners" sCorners ["_law_pairs_here", "_law_low", "_law_high"]) : CCorners P w K mg base := .of F <| by
  have S := scCorners
  refine fn_okP F S (fun K M H vs x r => rl3 x r) fun cdv A outer s H E m vs x Q hr j r ⟨b0, b1, b2, b3⟩ q => ?_
  obtain ⟨v1, v2, v3, rfl, r1, r2, r3⟩ := rp3 r
  refine wb_cons (ws_new2 3 4 fun l1 l2 H1 n1 n2 n12 ex hl1 hl2 => ?_)
  have nM1 : ¬ m.M l1 := m.notM j n1
  have nM2 : ¬ m.M l2 := m.notM j n2
  have sh : ∀ {v : V} {α : Type} [Rep α] {x : α}, rep K m.M H v x → rep K (mL (mL m l1) l2).M H1 v x := fun r => mono (fun b o _ h => ex b o h) (shift (fun b hb => hb.elim (fun hb => hb.elim .inl fun e => .inr (e ▸ n1)) fun e => .inr (e ▸ n2)) r)
  have bk1 : ∀ {H : Hp} {v : V} {α : Type} [Rep α] {x : α}, rep K (mL (mL m l1) l2).M H v x → rep K (mL m l2).M H v x := fun r => shift (fun b hb => .inl (hb.elim (fun z => .inl (.inl z)) .inr)) r
  have bk : ∀ {H : Hp} {v : V} {α : Type} [Rep α] {x : α}, rep K (mL (mL m l1) l2).M H v x → rep K m.M H v x := fun r => shift (fun b hb => .inl (.inl (.inl hb))) r
  have r1 := sh r1
  have r2 := sh r2
  have r3 := sh r3
  have j1 : m.J H1 := m.ex ex j
  -- a step that leaves both lists
  have up : ∀ {H2 H3 : Hp} {as bs : List V}, Step m H2 H3 → H2 l1 = some (.lst as) → H2 l2 = some (.lst bs) → Step (mL (mL m l1) l2) H2 H3 ∧ H3 l1 = some (.lst as) ∧ H3 l2 = some (.lst bs) := fun {H2 H3 as bs} s e1 e2 => by
    have f1 := s.keep _ _ nM1 e1
    have f2 := s.keep _ _ nM2 e2
    exact ⟨⟨fun b o hb h => s.keep b o (fun z => hb (.inl (.inl z))) h, ⟨s.j, as, f1⟩, bs, f2⟩, f1, f2⟩
  -- the pairs, each once
  refine wb_cons (ws_forLP (m := mL (mL m l1) l2) (mi := mLP (mLP m l1 []) l2 []) 5 (ev_var 0 r1) ⟨⟨j1, hl1⟩, hl2⟩ rfl (fun H' s' => ⟨s'.keep, ⟨s'.j.1.1, [], s'.j.1.2⟩, [], s'.j.2⟩)
    (fun k σ' H' => ∃ w5 w6 w7 w8 w9 vs, σ' = [some v1, some v2, some v3, some (.ref l1), some (.ref l2), w5, w6, w7, w8, w9] ∧ H' l1 = some (.lst vs) ∧ H' l2 = some (.lst []) ∧ Reps K (mL (mL m l1) l2).M H' vs (dedup (x.h.take k)))
    (fun H' s' => ⟨none, none, none, none, none, [], rfl, s'.j.1.2, s'.j.2, .nil⟩) ?turn1 ?end1)
  case turn1 =>
    rintro k p v σ' H' hx s1 ⟨w5, w6, w7, w8, w9, vs, rfl, e1, e2, rs⟩ rv
    have hd : dedup (x.h.take (k + 1)) = if p ∈ dedup (x.h.take k) then dedup (x.h.take k) else dedup (x.h.take k) ++ [p] := by
      unfold dedup
      rw [take_one hx, List.foldl_append]
      rfl
    have hlen : (dedup (x.h.take k)).length ≤ 1000 := Nat.le_trans (dedup_len _) (by rw [List.length_take]; omega)
    have ds : rep K m.M H' (.ref l1) (dedup (x.h.take k)) := ⟨l1, vs, rfl, ⟨nM1, e1⟩, Paired.mapP rs fun _ _ z => bk z⟩
    refine wb_one (ws_if (m := m) (et_notInD hr (ev_var 5 (bk rv)) (ev_var 3 ds)) s1.j.1.1 (fun H2 s2 hk => ?_) fun H2 s2 hk => wb_nil ?_)
    · obtain ⟨sU, f1, f2⟩ := up s2 e1 e2
      have hv : vs.length < 1000000 := by rw [reps_len rs]; omega
      refine wb_one (ws_append (m := mL (mL m l1) l2) (j := sU.j) 3 f1 hv (ev_var 5 (sU.rep rv)) fun u H3 z ex3 pz rz => ?_)
      have s3 : Step (mL (mL m l1) l2) H2 H3 := Step.ex sU.j ex3
      have g1 := ex3 _ _ f1
      have g2 := ex3 _ _ f2
      have su : Step (mL (mL m l1) l2) H3 (upd H3 l1 (.lst (vs ++ [u]))) := ⟨fun b o hb h => (upd_ne fun z => hb (.inl (.inr z))).trans h, ⟨m.lst nM1 g1 s3.j.1.1, _, upd_same⟩, [], (upd_ne n12.symm).trans g2⟩
      refine ⟨sU.trans (s3.trans su), some v, w6, w7, w8, w9, vs ++ [u], rfl, upd_same, (upd_ne n12.symm).trans g2, ?_⟩
      have hk2 : ¬ p ∈ dedup (x.h.take k) := by simpa using hk
      rw [hd, if_neg hk2]
      subst pz
      exact reps_snoc ((sU.trans (s3.trans su)).reps rs) (su.rep rz)
    · obtain ⟨sU, f1, f2⟩ := up s2 e1 e2
      have hk2 : p ∈ dedup (x.h.take k) := by simpa using hk
      refine ⟨sU, some v, w6, w7, w8, w9, vs, rfl, f1, f2, ?_⟩
      rw [hd, if_pos hk2]
      exact sU.reps rs
  case end1 =>
    rintro σ' H2 s2 ⟨w5, w6, w7, w8, w9, vs, rfl, e1, e2, rs⟩
    rw [List.take_of_length_le (Nat.le_refl _)] at rs
    have hlen : (dedup x.h).length ≤ 1000 := Nat.le_trans (dedup_len _) b0
    have hsz : ∀ c, c ∈ dedup x.h → Sm2 99 c := fun c hc => b1 c (dedup_mem hc)
    have ds : rep K (mL m l2).M H2 (.ref l1) (dedup x.h) := ⟨l1, vs, rfl, ⟨fun z => z.elim nM1 n12, e1⟩, Paired.mapP rs fun _ _ z => bk1 z⟩
    have r2' := bk1 (s2.rep r2)
    have r3' := bk1 (s2.rep r3)
    refine wb_cons (ws_forLP (m := mL m l2) (mi := mLP m l2 []) 5 (ev_var 3 ds) ⟨s2.j.1.1, e2⟩ rfl (fun H' s' => mLP_st s')
      (fun k σ' H' => ∃ w5 w6 w7 w8 w9 vs, σ' = [some v1, some v2, some v3, some (.ref l1), some (.ref l2), w5, w6, w7, w8, w9] ∧ H' l2 = some (.lst vs) ∧ Reps K (mL m l2).M H' vs (((dedup x.h).take k).filterMap fun p => (lawAlone p ((dedup x.h).filter fun o => !decide (o = p)) x.t.h x.t.t.h).map fun part => (part.1, p)))
      (fun H' s' => ⟨w5, w6, w7, w8, w9, [], rfl, s'.j.2, .nil⟩) ?turn2 ?end2)
    case turn2 =>
      rintro k p v σ' H' hx s3 ⟨w5, w6, w7, w8, w9, vf, rfl, f2, rf⟩ rv
      have hp : Sm2 99 p := hsz p (List.mem_of_getElem? hx)
      have r2c := s3.rep r2'
      have r3c := s3.rep r3'
      have dsc := s3.rep ds
      have hfl : vf.length < 1000000 := by
        rw [reps_len rf]
        refine Nat.lt_of_le_of_lt (fm_len _ _) ?_
        rw [List.length_take]
        omega
      refine wb_cons (ws_set (m := mLP m l2 vf) 6 (e_alone c1 hr (ev_var 5 rv) (ev_lcF 8 (fun o => !decide (o = p)) (ev_var 3 dsc) (by omega) (show BlkOk nCorners (defScope sCorners) _ [("_law_other", 8)] from blkOk_by (by decide +kernel))
        (fun m' s0 H0 C' cl fp u o H' up' j' ho ru => et_neD hr (ev_var 8 ru) (ev_var 5 (up' rv))) fun m' s0 H0 C' cl fp u o H' j' ru => ev_var 8 ru) (ev_var 1 r2c) (ev_var 2 r3c) ⟨hp, fun c hc => hsz c (List.mem_filter.mp hc).1, b2, b3⟩) ⟨s3.j.1, f2⟩ fun u6 H4 z s4 pz rz => ?_)
      have hnext : (((dedup x.h).take (k + 1)).filterMap fun p => (lawAlone p ((dedup x.h).filter fun o => !decide (o = p)) x.t.h x.t.t.h).map fun part => (part.1, p)) = (((dedup x.h).take k).filterMap fun p => (lawAlone p ((dedup x.h).filter fun o => !decide (o = p)) x.t.h x.t.t.h).map fun part => (part.1, p)) ++ (z.map fun part => (part.1, p)).toList := by
        rw [take_one hx, List.filterMap_append]
        congr 1
        rw [pz]
        simp only [List.filterMap_cons, List.filterMap_nil]
        cases lawAlone p ((dedup x.h).filter fun o => !decide (o = p)) x.t.h x.t.t.h <;> rfl
      rw [hnext]
      clear hnext pz
      refine wb_one (ws_if (m := mLP m l2 vf) (et_isNotN (ev_var 6 rz)) s4.j (fun H5 s5 hz => ?_) fun H5 s5 hz => wb_nil ?_)
      · obtain ⟨st, rfl⟩ : ∃ st, z = some st := by
          cases z with
          | none => simp at hz
          | some f => exact ⟨f, rfl⟩
        have rs6 : rep K (mLP m l2 vf).M H5 u6 st := (s5.rep rz).2
        have s45 := s4.trans s5
        refine wb_one (ws_append (m := mLP m l2 vf) (j := s5.j) 4 s5.j.2 hfl (ev_pair (ev_fst (ev_var 6 rs6) ev_int) (ev_var 5 (s45.rep rv))) fun u H6 z6 ex6 pz6 rz6 => ?_)
        subst pz6
        have s6 : Step (mLP m l2 vf) H5 H6 := Step.ex s5.j ex6
        have su : Step (mL m l2) H6 (upd H6 l2 (.lst (vf ++ [u]))) := mL_upd ⟨s6.j.1, _, s6.j.2⟩ nM2
        have sall := (mLP_st (s45.trans s6)).trans su
        exact ⟨sall, some v, some u6, w7, w8, w9, vf ++ [u], rfl, upd_same, reps_snoc (sall.reps rf) (su.rep rz6)⟩
      · have hz0 : z = none := by
          cases z with
          | none => rfl
          | some f => simp at hz
        subst hz0
        have s45 := s4.trans s5
        refine ⟨mLP_st s45, some v, some u6, w7, w8, w9, vf, rfl, s5.j.2, ?_⟩
        show Reps K _ _ _ (_ ++ [])
        rw [List.append_nil]
        exact s45.reps rf
    case end2 =>
      rintro σ' H3 s3 ⟨w5, w6, w7, w8, w9, vf, rfl, f2, rf⟩
      rw [List.take_of_length_le (Nat.le_refl _)] at rf
      have hfd : ((dedup x.h).filterMap fun p => (lawAlone p ((dedup x.h).filter fun o => !decide (o = p)) x.t.h x.t.t.h).map fun part => (part.1, p)) = lawFound (dedup x.h) x.t.h x.t.t.h := rfl
      rw [hfd] at rf
      have hfs := lawFound_sm hsz b2 b3
      have hfl : (lawFound (dedup x.h) x.t.h x.t.t.h).length ≤ 1000 := Nat.le_trans (fm_len _ _) hlen
      have hres : lawCorners x.h x.t.h x.t.t.h = ((lawOrder (lawFound (dedup x.h) x.t.h x.t.t.h)).mergeSort (dataLe false (Dat.enc : Int × P2 → PyData))).map (·.2) := by
        rw [ordLe_eq]
        rfl
      rw [hres] at q
      clear hres hfd
      generalize lawFound (dedup x.h) x.t.h x.t.t.h = found at rf hfs hfl q
      have df : rep K m.M H3 (.ref l2) found := ⟨l2, vf, rfl, ⟨nM2, f2⟩, Paired.mapP rf fun _ _ z => shift (fun b hb => .inl (.inl hb)) z⟩
      have sfin : Step m H H3 := ⟨fun b o hb h => s3.keep b o (fun z => z.elim hb fun e => by rw [e, n2] at h; cases h) (s2.keep b o (fun z => z.elim (fun z => z.elim hb fun e => by rw [e, n1] at h; cases h) fun e => by rw [e, n2] at h; cases h) (ex b o h)), s3.j.1⟩
      refine wb_cons (ws_lc0L (m := m) (β := Int × P2) 7 9 (fun one => (((found.filter fun o => leadsB o.1 one.1).length : Int), one.2)) (ev_var 4 df) (by omega) (show BlkOk nCorners (defScope sCorners) _ [("_law_one", 9)] from blkOk_by (by decide +kernel))
        ?elt s3.j.1 fun u7 H4 s4 rz => ?_)
      case elt =>
        intro m' s0 H0 C' cl fp u one H' up' j' ho ru
        show EvD _ m' _ _ H' ((((found.filter fun o => leadsB o.1 one.1).length : Int), one.2) : Int × P2)
        have df' := up' df
        refine ev_pair (ev_len (α := P2 × P2) (xs := found.filter fun o => leadsB o.1 one.1) (C.none _ (by decide)) ?in1) (ev_snd (ev_var 9 ru) ev_int)
        refine ev_lcF (α := P2 × P2) 8 (fun o => leadsB o.1 one.1) ?it (by omega) ?ok2 ?t2 ?e2
        case it => exact ev_var 4 df'
        case ok2 => exact (show BlkOk nCorners ⟨.function, [(".0", .local), ("_law_one", .cell), ("len", .globalImplicit), ("_law_found", .cell)], false, false, []⟩ _ [("_law_other", 8)] from blkOk_by (by decide +kernel))
        case t2 => exact fun m2 s1 H1 C2 cl2 fp2 u2 o H4 up2 j2 ho2 ru2 => et_val (e_lleads c2 hr (ev_fst (ev_var 8 ru2) ev_int) (ev_fst (ev_var 9 (up2 ru)) ev_int) ⟨(hfs o ho2).1.mono (by omega), (hfs one ho).1.mono (by omega)⟩)
        case e2 => exact fun m2 s1 H1 C2 cl2 fp2 u2 o H4 j2 ru2 => ev_var 8 ru2
      refine wb_one (ws_ret (ev_tupleOf (C.none _ (by decide)) (ev_lc0L 9 (fun one : Int × P2 => one.2) (ev_sortedD hr (fun _ _ => ?al) (fun _ => ⟨_, _, rfl⟩) (C.none _ (by decide)) (ev_var 7 rz) ?hl) ?hl2 (show BlkOk nCorners (defScope sCorners) _ [("_law_one", 9)] from blkOk_by (by decide +kernel)) fun m' s0 H0 C' cl fp u one H' up' j' ho ru => ev_snd (ev_var 9 ru) ev_int)) s4.j fun v H5 z5 s5 p5 r5 => q v H5 z5 (sfin.trans (s4.trans s5)) (by rw [p5]; rfl) r5)
      case al => simp [alike, alikeAll, Dat.enc]
      case hl => rw [List.length_map]; omega
      case hl2 => rw [List.length_mergeSort, List.length_map]; omega
end
end HK
set_option Elab.async false
set_option linter.all false
set_option maxRecDepth 100000
/-! F11: the law's over, value, gain. -/
namespace HK
open PySem PySem.Spec PyProof.Rows L2 LamX
open Rep Arg
abbrev sLOver : Stmt := topS 36
abbrev sValue : Stmt := topS 37
abbrev sGain : Stmt := topS 42
theorem scLOver : FnScope ["_law_pairs_here", "_law_low", "_law_high", "_law_pair_here"] ["_law_pairs_here", "_law_low", "_law_high"] (defScope sLOver) := ⟨rfl, rfl, rfl, by decide +kernel, rfl, by decide +kernel, by decide +kernel⟩
theorem scValue : FnScope ["_law_front_here", "_law_spot_here", "_law_pair_here"] ["_law_front_here", "_law_spot_here"] (defScope sValue) := ⟨rfl, rfl, rfl, by decide +kernel, rfl, by decide +kernel, by decide +kernel⟩
theorem scGain : FnScope ["_law_marks", "_law_spot_here", "_law_way", "_law_some", "_law_mark"] ["_law_marks", "_law_spot_here", "_law_way"] (defScope sGain) := ⟨rfl, rfl, rfl, by decide +kernel, rfl, by decide +kernel, by decide +kernel⟩
/-- a front of some size -/
def frOk : Fr → Prop
  | .at lo _ => Sm2 100 lo
  | .over lo hi cs => Sm2 100 lo ∧ Sm2 100 hi ∧ cs ≠ [] ∧ cs.length ≤ 1000 ∧ ∀ c, c ∈ cs → Sm2 100 c
  | _ => True
section
variable (P : Program) (w : World) (K : PySem.W.Frag) (mg : Str → Option Value) (base : Heap)
abbrev CLOver := CalP P w K mg base 5 "_law_over" (fun x : A3 (List P2) P2 P2 => x.h.length ≤ 1000 ∧ x.h ≠ [] ∧ (∀ c, c ∈ x.h → Sm2 99 c) ∧ Sm2 100 x.t.h ∧ Sm2 100 x.t.t.h) (fun x z => z = lawOver x.h x.t.h x.t.t.h)
abbrev CValue := CalP P w K mg base 2 "_law_value" (fun x : A2 Fr P2 => frOk x.h ∧ Sm2 100 x.t.h) (fun x z => z = lawValue x.h x.t.h)
abbrev CGain := CalP P w K mg base 2 "_law_gain" (fun x : A3 (List P2) P2 Int => x.h.length ≤ 1000 ∧ (∀ c, c ∈ x.h → Sm2 100 c) ∧ Sm2 100 x.t.h) (fun x z => z = lawGain x.h x.t.h x.t.t.h)
end
section
variable {X : Cx} {m : Mode} {σ : L2.St} {H : Hp} {a b c d e : Expr} {pos p : Pos} {j : Nat}
theorem e_corners {u : List P2} {lo : P2} {hi : P2} (c1 : CCorners X.prog X.w X.K X.mg X.base) (hr : Room j X.A) (ha : EvD X m a σ H u) (hb : EvD X m b σ H lo) (hc : EvD X m c σ H hi) (hp : u.length ≤ 1000 ∧ (∀ c, c ∈ u → Sm2 99 c) ∧ Sm2 100 lo ∧ Sm2 100 hi) (hk : 4 ≤ j := by decide) (na : NS a := by exact fun _ _ => rfl) (nb : NS b := by exact fun _ _ => rfl) (nc : NS c := by exact fun _ _ => rfl) (hg : Gl X "_law_corners" := by rfl) (he : starEach [a, b, c] X.env = (false, eval a X.env) :: starEach [b, c] X.env := by rfl) (hpl : (backTo pos (starEach [b, c] X.env)).any (·.1) = false := by rfl) :
    EvD X m (.Call (.Name "_law_corners" p) [a, b, c] [] pos) σ H (Tup.mk (lawCorners u lo hi)) := ev_call (t := (A.mk u (A.mk lo (A.mk hi ())))) c1 hr (el3 ha hb hc na nb nc) hp hk hg (by decide) he hpl
theorem e_lover {u : List P2} {lo : P2} {hi : P2} (c1 : CLOver X.prog X.w X.K X.mg X.base) (hr : Room j X.A) (ha : EvD X m a σ H u) (hb : EvD X m b σ H lo) (hc : EvD X m c σ H hi) (hp : u.length ≤ 1000 ∧ u ≠ [] ∧ (∀ c, c ∈ u → Sm2 99 c) ∧ Sm2 100 lo ∧ Sm2 100 hi) (hk : 5 ≤ j := by decide) (na : NS a := by exact fun _ _ => rfl) (nb : NS b := by exact fun _ _ => rfl) (nc : NS c := by exact fun _ _ => rfl) (hg : Gl X "_law_over" := by rfl) (he : starEach [a, b, c] X.env = (false, eval a X.env) :: starEach [b, c] X.env := by rfl) (hpl : (backTo pos (starEach [b, c] X.env)).any (·.1) = false := by rfl) :
    EvD X m (.Call (.Name "_law_over" p) [a, b, c] [] pos) σ H (lawOver u lo hi) := ev_call (t := (A.mk u (A.mk lo (A.mk hi ())))) c1 hr (el3 ha hb hc na nb nc) hp hk hg (by decide) he hpl
theorem e_value {u : Fr} {t : P2} (c1 : CValue X.prog X.w X.K X.mg X.base) (hr : Room j X.A) (ha : EvD X m a σ H u) (hb : EvD X m b σ H t) (hp : frOk u ∧ Sm2 100 t) (hk : 2 ≤ j := by decide) (na : NS a := by exact fun _ _ => rfl) (nb : NS b := by exact fun _ _ => rfl) (hg : Gl X "_law_value" := by rfl) (he : starEach [a, b] X.env = (false, eval a X.env) :: starEach [b] X.env := by rfl) (hpl : (backTo pos (starEach [b] X.env)).any (·.1) = false := by rfl) :
    EvD X m (.Call (.Name "_law_value" p) [a, b] [] pos) σ H (lawValue u t) := ev_call (t := (A.mk u (A.mk t ()))) c1 hr (el2 ha hb na nb) hp hk hg (by decide) he hpl
theorem e_gain {u : List P2} {t : P2} {i : Int} (c1 : CGain X.prog X.w X.K X.mg X.base) (hr : Room j X.A) (ha : EvD X m a σ H u) (hb : EvD X m b σ H t) (hc : EvD X m c σ H i) (hp : u.length ≤ 1000 ∧ (∀ c, c ∈ u → Sm2 100 c) ∧ Sm2 100 t) (hk : 2 ≤ j := by decide) (na : NS a := by exact fun _ _ => rfl) (nb : NS b := by exact fun _ _ => rfl) (nc : NS c := by exact fun _ _ => rfl) (hg : Gl X "_law_gain" := by rfl) (he : starEach [a, b, c] X.env = (false, eval a X.env) :: starEach [b, c] X.env := by rfl) (hpl : (backTo pos (starEach [b, c] X.env)).any (·.1) = false := by rfl) :
    EvD X m (.Call (.Name "_law_gain" p) [a, b, c] [] pos) σ H (lawGain u t i) := ev_call (t := (A.mk u (A.mk t (A.mk i ())))) c1 hr (el3 ha hb hc na nb nc) hp hk hg (by decide) he hpl
theorem ev_cat {α : Type} [Rep α] {xs ys : List α} (ha : EvD X m a σ H xs) (hb : EvD X m b σ H ys) (hl : xs.length + ys.length ≤ 1000000) : EvD X m (.BinOp a .Add b pos) σ H (xs ++ ys) := ev_op op_cat ha hb fun v w x y H1 Q s1 px py rx ry q => by
  subst px
  subst py
  obtain ⟨l, vs, e1, t1, r1⟩ := rx
  obtain ⟨l2, ws, e2, t2, r2⟩ := ry
  subst e1
  subst e2
  have hle : vs.length + ws.length ≤ sizeLine := by
    rw [reps_len r1, reps_len r2]
    exact Nat.le_trans hl (by decide)
  refine ⟨l, l2, vs, ws, rfl, rfl, t1.2, t2.2, hle, fun p np => ?_⟩
  have s2 : Step m H1 (upd H1 p (.lst (vs ++ ws))) := Step.new s1.j np
  exact q _ _ _ s2 rfl ⟨p, _, rfl, ⟨m.notM s1.j np, upd_same⟩, s2.reps (reps_app r1 r2)⟩
theorem ev_noneT {k : Nat} : EvD X m (.Constant .none k pos) σ H Told.none := fun H1 s1 Q q => we_of pe_non (q _ H1 Told.none (Step.refl s1.j) rfl rfl)
theorem ev_endT {k : Nat} {z : Str} (hz : z = sEndless := by rfl) : EvD X m (.Constant (.str z) k pos) σ H Told.endless := fun H1 s1 Q q => we_of pe_str (q _ H1 _ (Step.refl s1.j) rfl (by subst hz; rfl))
theorem ev_numT {n : Int} (ha : EvD X m a σ H n) : EvD X m a σ H (Told.num n) := fun H1 s1 Q q => ha H1 s1 Q fun v H2 x s2 px rx => by
  subst px
  exact q v H2 (Told.num x) s2 rfl rx
/-- front[0] == "…" -/
theorem et_tagE {F : Fr} {z : Str} {k : Nat} {p2 p3 : Pos} (hF : F ≠ .none) (ha : EvD X m a σ H F) (hz : z = sEndless := by rfl) : EvT X m (.Compare (.Subscript a (.Constant (.int 0) k pos) p2) [.Eq] [.Constant (.str z) k p] p3) σ H (match F with | .endless => true | _ => false) := by
  subst hz
  refine (et_eqV (ev_tagF hF ha ev_int) ev_str ?_).to ?_
  · cases F <;> first | rfl | exact absurd rfl hF
  · cases F <;> first | rfl | exact absurd rfl hF
theorem et_tagAt {F : Fr} {z : Str} {k : Nat} {p2 p3 : Pos} (hF : F ≠ .none) (ha : EvD X m a σ H F) (hz : z = sAt := by rfl) : EvT X m (.Compare (.Subscript a (.Constant (.int 0) k pos) p2) [.Eq] [.Constant (.str z) k p] p3) σ H (match F with | .at _ _ => true | _ => false) := by
  subst hz
  refine (et_eqV (ev_tagF hF ha ev_int) ev_str ?_).to ?_
  · cases F <;> first | rfl | exact absurd rfl hF
  · cases F <;> first | rfl | exact absurd rfl hF
end
section
variable {P : Program} {w : World} {K : PySem.W.Frag} {mg : Str → Option Value} {base : Heap}
theorem ok_lover (C : Consts K mg) (c1 : CWorth P w K mg base) (c2 : CCorners P w K mg base) (F : FnX K mg "_law_over" sLOver ["_law_pairs_here", "_law_low", "_law_high"]) : CLOver P w K mg base := .of F <| by
  have S := scLOver
  refine fn_okP F S (fun K M H vs x r => rl3 x r) fun cdv A outer s H E m vs x Q hr j r ⟨b0, b1, b2, b3, b4⟩ q => ?_
  obtain ⟨v1, v2, v3, rfl, r1, r2, r3⟩ := rp3 r
  refine wb_cons (ws_if (et_eqD (α := P2) hr (ev_var 1 r2) (ev_var 2 r3)) j (fun H1 s1 hk => ?_) fun H1 s1 hk => wb_nil ?_)
  · have he : x.t.h = x.t.t.h := by simpa using hk
    refine wb_one (ws_ret (ev_frAt (ev_var 1 (s1.rep r2)) (ev_maxL C (ev_lc0L 3 (fun c => wt c x.t.h) (ev_var 0 (s1.rep r1)) (by omega) (show BlkOk ["_law_pairs_here", "_law_low", "_law_high", "_law_pair_here"] (defScope sLOver) _ [("_law_pair_here", 3)] from blkOk_by (by decide +kernel)) fun m' s0 H0 C' cl fp v c H' up j' hc rv => ?_) ?_)) s1.j fun v H2 z s2 pz rz => q v H2 z (s1.trans s2) ?_ rz)
    · exact e_worth c1 hr (ev_var 3 rv) (ev_var 1 (up (s1.rep r2))) ⟨(b2 _ hc).mono (by omega), b3⟩
    · simpa using b1
    · rw [pz]
      unfold lawOver
      rw [if_pos he]
  · have he : ¬ x.t.h = x.t.t.h := by simpa using hk
    refine wb_one (ws_ret (ev_frOver (cs := lawCorners x.h x.t.h x.t.t.h) (ev_var 1 (s1.rep r2)) (ev_var 2 (s1.rep r3)) (e_corners c2 hr (ev_var 0 (s1.rep r1)) (ev_var 1 (s1.rep r2)) (ev_var 2 (s1.rep r3)) ⟨b0, b2, b3, b4⟩)) s1.j fun v H2 z s2 pz rz => q v H2 z (s1.trans s2) ?_ rz)
    rw [pz]
    unfold lawOver
    rw [if_neg he]
theorem ok_value (C : Consts K mg) (c1 : CWorth P w K mg base) (c2 : CLLeads P w K mg base) (F : FnX K mg "_law_value" sValue ["_law_front_here", "_law_spot_here"]) : CValue P w K mg base := .of F <| by
  have S := scValue
  refine fn_okP F S (fun K M H vs x r => rl2 x r) fun cdv A outer s H E m vs x Q hr j r ⟨b1, b2⟩ q => ?_
  obtain ⟨v1, v2, rfl, r1, r2⟩ := rp2 r
  obtain ⟨F0, t, un⟩ := x
  simp only at r1 r2 b1 b2 q
  refine wb_cons (ws_if (et_isNF (ev_var 0 r1)) j (fun H1 s1 hk => ?_) fun H1 s1 hk => wb_nil ?_)
  · have e : F0 = .none := by cases F0 <;> simp [isNoneF] at hk <;> rfl
    subst e
    exact wb_one (ws_ret ev_noneT s1.j fun v H2 z s2 pz rz => q v H2 z (s1.trans s2) pz rz)
  have hF : F0 ≠ .none := fun e => by subst e; simp [isNoneF] at hk
  have r1 := s1.rep r1
  have r2 := s1.rep r2
  refine wb_cons (ws_if (et_tagE hF (ev_var 0 r1)) s1.j (fun H2 s2 hk => ?_) fun H2 s2 hk => wb_nil ?_)
  · have e : F0 = .endless := by cases F0 <;> simp at hk <;> rfl
    subst e
    exact wb_one (ws_ret ev_endT s2.j fun v H3 z s3 pz rz => q v H3 z (s1.trans (s2.trans s3)) pz rz)
  have r1 := s2.rep r1
  have r2 := s2.rep r2
  refine wb_cons (ws_if (et_tagAt hF (ev_var 0 r1)) s2.j (fun H3 s3 hk => ?_) fun H3 s3 hk2 => wb_nil ?_)
  · cases F0 with
    | «at» lo n =>
      have r1 := s3.rep r1
      have r2 := s3.rep r2
      refine wb_one (ws_ret (ev_ifD (x := Told.num n) (y := Told.endless) (et_eqD (α := P2) hr (ev_var 1 r2) (ev_at1 (ev_var 0 r1) ev_int)) (fun _ => ev_numT (ev_at2 (ev_var 0 r1) ev_int)) fun _ => ev_endT) s3.j fun v H4 z s4 pz rz => q v H4 z (s1.trans (s2.trans (s3.trans s4))) ?_ rz)
      rw [pz]
      unfold lawValue
      simp
    | _ => simp at hk
  cases F0 with
  | over lo hi cs =>
    obtain ⟨g1, g2, g3, g4, g5⟩ := b1
    have r1 := s3.rep r1
    have r2 := s3.rep r2
    refine wb_cons (ws_if (et_or (et_val (e_lleads c2 hr (ev_var 1 r2) (ev_over1 (ev_var 0 r1) ev_int) ⟨b2.mono (by omega), g1.mono (by omega)⟩)) fun _ => et_val (e_lleads c2 hr (ev_over2 (ev_var 0 r1) ev_int) (ev_var 1 r2) ⟨g2.mono (by omega), b2.mono (by omega)⟩)) s3.j (fun H4 s4 hk => ?_) fun H4 s4 hk => wb_nil ?_)
    · refine wb_one (ws_ret ev_endT s4.j fun v H5 z s5 pz rz => q v H5 z (s1.trans (s2.trans (s3.trans (s4.trans s5)))) ?_ rz)
      rw [pz]
      unfold lawValue
      simp only
      rw [if_pos hk]
    · have r1 := s4.rep r1
      have r2 := s4.rep r2
      refine wb_one (ws_ret (ev_numT (ev_maxL C (ev_lc0T 2 (xs := Tup.mk cs) (fun c => wt c t) (ev_over3 (ev_var 0 r1) ev_int) (Nat.le_trans g4 (by decide)) (show BlkOk ["_law_front_here", "_law_spot_here", "_law_pair_here"] (defScope sValue) _ [("_law_pair_here", 2)] from blkOk_by (by decide +kernel)) fun m' s0 H0 C' cl fp v c H' up j' hc rv => ?e) (by simpa using g3))) s4.j fun v H5 z s5 pz rz => q v H5 z (s1.trans (s2.trans (s3.trans (s4.trans s5)))) ?_ rz)
      case e => exact e_worth c1 hr (ev_var 2 rv) (ev_var 1 (up r2)) ⟨g5 _ hc, b2⟩
      rw [pz]
      unfold lawValue
      simp only
      rw [if_neg (by rw [hk]; decide)]
  | none => exact absurd rfl hF
  | endless => simp at hk
  | «at» lo n => simp at hk2
end
end HK
set_option Elab.async false
set_option linter.all false
set_option maxRecDepth 100000
/-! F12: the law's gain. -/
namespace HK
open PySem PySem.Spec PyProof.Rows L2 LamX
open Rep Arg
def gainBody : List Stmt := match (defBody sGain)[1]? with
  | some (Stmt.For _ _ b _ _) => b
  | _ => []
/-- what one mark adds -/
def gain1 (t : P2) (way : Int) (k : P2) : List P2 := if way = 1 ∧ leadsB t k = true then [(k.2, 0 - k.1)] else []
def gain2 (t : P2) (way : Int) (k : P2) : List P2 := if way = -1 ∧ leadsB k t = true then [(0 - k.2, k.1)] else []
theorem gain_snoc (ks : List P2) (k t : P2) (way : Int) : lawGain (ks ++ [k]) t way = lawGain ks t way ++ gain1 t way k ++ gain2 t way k := by
  unfold lawGain gain1 gain2
  rw [List.foldl_append]
  rfl
theorem gain_len (t : P2) (way : Int) : ∀ ks : List P2, (lawGain ks t way).length ≤ 2 * ks.length := fun ks => by
  have go : ∀ (n : Nat) (ks : List P2), ks.length = n → (lawGain ks t way).length ≤ 2 * ks.length := by
    intro n
    induction n with
    | zero =>
      intro ks h
      have : ks = [] := List.length_eq_zero_iff.mp h
      subst this
      simp [lawGain]
    | succ n ih =>
      intro ks h
      obtain ⟨l, k, rfl⟩ : ∃ l k, ks = l ++ [k] := by
        have hne : ks ≠ [] := fun e => by rw [e] at h; simp at h
        exact ⟨ks.dropLast, ks.getLast hne, (List.dropLast_concat_getLast hne).symm⟩
      rw [gain_snoc]
      have h1 := ih l (by simpa using h)
      have h2 : (gain1 t way k).length ≤ 1 := by unfold gain1; split <;> simp
      have h3 : (gain2 t way k).length ≤ 1 := by unfold gain2; split <;> simp
      simp only [List.length_append, List.length_cons, List.length_nil]
      omega
  exact go ks.length ks rfl
section
variable {P : Program} {w : World} {K : PySem.W.Frag} {mg : Str → Option Value} {base : Heap}
theorem ok_gain (c2 : CLLeads P w K mg base) (F : FnX K mg "_law_gain" sGain ["_law_marks", "_law_spot_here", "_law_way"]) : CGain P w K mg base := .of F <| by
  have S := scGain
  refine fn_okP F S (fun K M H vs x r => rl3 x r) fun cdv A outer s H E m vs x Q hr j r ⟨b0, b1, b2⟩ q => ?_
  obtain ⟨v1, v2, v3, rfl, r1, r2, r3⟩ := rp3 r
  obtain ⟨ks, t, way, un⟩ := x
  simp only at r1 r2 r3 b0 b1 b2 q
  refine wb_cons (ws_new 3 fun l nl => ?_)
  have nM : ¬ m.M l := m.notM j nl
  have r1 := mL_rep (o := .lst []) nl r1
  have r2 := mL_rep (o := .lst []) nl r2
  have r3 : ∀ H, rep K m.M H v3 way := fun _ => r3
  refine wb_cons (ws_forLP (m := mL m l) (mi := mLP m l []) 4 (ev_var 0 r1) ⟨m.ex (Ex.new nl) j, upd_same⟩ rfl (fun H' s => mLP_st s)
    (fun k σ' H' => ∃ w4 vs, σ' = [some v1, some v2, some v3, some (.ref l), w4] ∧ H' l = some (.lst vs) ∧ Reps K (mL m l).M H' vs (lawGain (ks.take k) t way))
    (fun H' s' => ⟨none, [], rfl, s'.j.2, .nil⟩) ?turn ?hend)
  case turn =>
    rintro k p v σ' H' hx s1 ⟨w4, vs, rfl, hH, rs⟩ rv
    have hp := b1 p (List.mem_of_getElem? hx)
    have hn : ks.take (k + 1) = ks.take k ++ [p] := take_one hx
    rw [hn, gain_snoc]
    have hlen : (lawGain (ks.take k) t way).length ≤ 2000 := by
      have := gain_len t way (ks.take k)
      rw [List.length_take] at this
      omega
    generalize lawGain (ks.take k) t way = acc at rs hlen ⊢
    have rest : ∀ (D' : Ends) (H2 : Hp) (vs2 : List V), Step (mL m l) H' H2 → H2 l = some (.lst vs2) → Reps K (mL m l).M H2 vs2 (acc ++ gain1 t way p) →
        (∀ H3 vs3, Step (mL m l) H' H3 → H3 l = some (.lst vs3) → Reps K (mL m l).M H3 vs3 (acc ++ gain1 t way p ++ gain2 t way p) → D'.nx [some v1, some v2, some v3, some (.ref l), some v] H3) →
        WB (bcx P w K mg base ["_law_marks", "_law_spot_here", "_law_way", "_law_some", "_law_mark"] "_law_gain" sGain F.f cdv A outer s H E) (gainBody.drop 1) D' [some v1, some v2, some v3, some (.ref l), some v] H2 := fun D' H2 vs2 s2 h2 rs2 hD => by
      have l1 : (gain1 t way p).length ≤ 1 := by unfold gain1; split <;> simp
      have rvb := mL_back (s2.rep rv)
      have r2b := mL_back ((s1.trans s2).rep r2)
      show WB _ [_] _ _ _
      refine wb_one (ws_if (m := m) (et_and (et_eqI (ev_var 2 (r3 _)) (ev_neg (ev_int (i := 1)))) fun _ => et_val (e_lleads c2 hr (ev_var 4 rvb) (ev_var 1 r2b) ⟨hp.mono (by omega), b2.mono (by omega)⟩)) s2.j.1 (fun H3 s3 hk => ?_) fun H3 s3 hk => wb_nil ?_)
      · obtain ⟨sU, h3⟩ := mL_up s3 nM h2
        simp only [Bool.and_eq_true, decide_eq_true_eq] at hk
        have hv : vs2.length < 1000000 := by rw [reps_len rs2, List.length_append]; omega
        have rv3 := (s2.trans sU).rep rv
        refine wb_one (ws_append (m := mL m l) (j := sU.j) 3 h3 hv (ev_pair (ev_sub (ev_int (i := 0)) (ev_snd (ev_var 4 rv3) ev_int)) (ev_fst (ev_var 4 rv3) ev_int)) fun u H4 z ex4 pz rz => ?_)
        have s4 : Step (mL m l) H3 H4 := Step.ex sU.j ex4
        have su : Step (mL m l) H4 (upd H4 l (.lst (vs2 ++ [u]))) := mL_upd s4.j nM
        refine hD _ _ (s2.trans (sU.trans (s4.trans su))) upd_same ?_
        have e : gain2 t way p = [(0 - p.2, p.1)] := by unfold gain2; rw [if_pos hk]
        rw [e]
        subst pz
        exact reps_snoc ((sU.trans (s4.trans su)).reps rs2) (su.rep rz)
      · obtain ⟨sU, h3⟩ := mL_up s3 nM h2
        refine hD _ _ (s2.trans sU) h3 ?_
        have e : gain2 t way p = [] := by
          unfold gain2
          rw [if_neg]
          intro h
          rw [decide_eq_true h.1, h.2] at hk
          exact absurd hk (by decide)
        rw [e, List.append_nil]
        exact sU.reps rs2
    have rvb := mL_back rv
    have r2b := mL_back (s1.rep r2)
    refine wb_cons (ws_if (m := m) (et_and (et_eqI (ev_var 2 (r3 _)) (ev_int (i := 1))) fun _ => et_val (e_lleads c2 hr (ev_var 1 r2b) (ev_var 4 rvb) ⟨b2.mono (by omega), hp.mono (by omega)⟩)) s1.j.1 (fun H3 s3 hk => ?_) fun H3 s3 hk => wb_nil ?_)
    · obtain ⟨sU, h3⟩ := mL_up s3 nM hH
      simp only [Bool.and_eq_true, decide_eq_true_eq] at hk
      have hv : vs.length < 1000000 := by rw [reps_len rs]; omega
      have rv3 := sU.rep rv
      refine wb_one (ws_append (m := mL m l) (j := sU.j) 3 h3 hv (ev_pair (ev_snd (ev_var 4 rv3) ev_int) (ev_sub (ev_int (i := 0)) (ev_fst (ev_var 4 rv3) ev_int))) fun u H4 z ex4 pz rz => ?_)
      have s4 : Step (mL m l) H3 H4 := Step.ex sU.j ex4
      have su : Step (mL m l) H4 (upd H4 l (.lst (vs ++ [u]))) := mL_upd s4.j nM
      refine rest _ _ _ (sU.trans (s4.trans su)) upd_same ?_ fun H5 vs5 s5 h5 r5 => ⟨s5, some v, vs5, rfl, h5, r5⟩
      have e : gain1 t way p = [(p.2, 0 - p.1)] := by unfold gain1; rw [if_pos hk]
      rw [e]
      subst pz
      exact reps_snoc ((sU.trans (s4.trans su)).reps rs) (su.rep rz)
    · obtain ⟨sU, h3⟩ := mL_up s3 nM hH
      refine rest _ _ _ sU h3 ?_ fun H5 vs5 s5 h5 r5 => ⟨s5, some v, vs5, rfl, h5, r5⟩
      have e : gain1 t way p = [] := by
        unfold gain1
        rw [if_neg]
        intro h
        rw [decide_eq_true h.1, h.2] at hk
        exact absurd hk (by decide)
      rw [e, List.append_nil]
      exact sU.reps rs
  case hend =>
    rintro σ' H' s1 ⟨w4, vs, rfl, hH, rs⟩
    rw [List.take_of_length_le (Nat.le_refl _)] at rs
    have d := mL_dat nM hH rs
    exact wb_one (ws_ret (ev_var 3 d) s1.j.1 fun v H2 z s2 pz rz => q v H2 z ((mL_step nl s1).trans s2) pz rz)
end
end HK
set_option Elab.async false
set_option linter.all false
set_option maxRecDepth 100000
set_option maxHeartbeats 4000000
/-! F13: the law's answer. -/
namespace HK
open PySem PySem.Spec PyProof.Rows L2 LamX
open Rep Arg
abbrev sAnswer : Stmt := topS 43
abbrev nAns : List Str := ["_law_scene", "_law_more", "_law_asked", "_law_spot_here", "_law_front_here", "_law_pairs_here", "_law_first", "_law_last", "_law_told", "_law_some", "_law_pair_here", "_law_part", "_law_step", "_law_one", "_law_two", "_law_deep"]
theorem scAnswer : FnScope nAns ["_law_scene", "_law_more", "_law_asked", "_law_spot_here"] (defScope sAnswer) := ⟨rfl, rfl, rfl, by decide +kernel, rfl, by decide +kernel, by decide +kernel⟩
theorem gain_mem {t : P2} {way : Int} : ∀ {ks : List P2} {g : P2}, g ∈ lawGain ks t way → ∃ k, k ∈ ks ∧ (g = (k.2, 0 - k.1) ∨ g = (0 - k.2, k.1)) := fun {ks g} => by
  have go : ∀ (ks acc : List P2), g ∈ ks.foldl (fun acc k => (acc ++ (if way = 1 ∧ leadsB t k = true then [(k.2, 0 - k.1)] else [])) ++ (if way = -1 ∧ leadsB k t = true then [(0 - k.2, k.1)] else [])) acc → g ∈ acc ∨ ∃ k, k ∈ ks ∧ (g = (k.2, 0 - k.1) ∨ g = (0 - k.2, k.1)) := by
    intro ks
    induction ks with
    | nil => intro acc h; exact .inl h
    | cons k ks ih =>
      intro acc h
      rw [List.foldl_cons] at h
      rcases ih _ h with h | ⟨k', h1, h2⟩
      · rcases List.mem_append.mp h with h | h
        · rcases List.mem_append.mp h with h | h
          · exact .inl h
          · split at h
            · exact .inr ⟨k, List.mem_cons_self, .inl (by simpa using h)⟩
            · cases h
        · split at h
          · exact .inr ⟨k, List.mem_cons_self, .inr (by simpa using h)⟩
          · cases h
      · exact .inr ⟨k', List.mem_cons_of_mem _ h1, h2⟩
  intro h
  rcases go ks [] h with h | h
  · cases h
  · exact h
theorem gain_sm {t : P2} {way : Int} {ks : List P2} {g : P2} (hk : ∀ c, c ∈ ks → Sm2 100 c) (h : g ∈ lawGain ks t way) : Sm2 100 g := by
  obtain ⟨k, h1, h2 | h2⟩ := gain_mem h
  · rw [h2]
    exact ⟨(hk k h1).2, by show Sm 100 (0 - k.1); rw [Int.zero_sub]; exact (hk k h1).1.neg⟩
  · rw [h2]
    exact ⟨by show Sm 100 (0 - k.2); rw [Int.zero_sub]; exact (hk k h1).2.neg, (hk k h1).1⟩
structure ScOk (sc : Scene) : Prop where
  fr : frOk sc.a
  bl : sc.b.length ≤ 1000
  bs : ∀ c, c ∈ sc.b → Sm2 99 c
  cl : sc.c.length ≤ 1000
  cs : ∀ c, c ∈ sc.c → Sm2 100 c
  dl : sc.d.length ≤ 1000
  ds : ∀ c, c ∈ sc.d → Sm2 100 c
/-- the promise of the law's answer: asked grows by the price -/
def spAns (K : PySem.W.Frag) : Sp := fun vs H Q _ => ∃ (M : Addr → Prop) (v1 v4 : V) (sc : Scene) (more : Int) (la : Addr) (va : List V) (t : P2) (an : Ans), vs = [v1, .int more, .ref la, v4] ∧ (∀ b, M b → H b ≠ none) ∧ M la ∧ rep K M H v1 sc ∧ rep K M H v4 t ∧ H la = some (.lst va) ∧ va.length < 1000000 ∧ okP t = true ∧ ScOk sc ∧ 0 ≤ more ∧ Sm 20 more ∧
  lawAns sc more t = some an ∧ ∀ u v H', ExP la H H' → H' la = some (.lst (va ++ [v])) → rep K M H' v t → rep K M H' u an → Q u H'
section
variable {X : Cx} {m : Mode} {σ : L2.St} {H : Hp} {a b : Expr} {pos p p2 : Pos}
theorem ev_noneA {k : Nat} : EvD X m (.Constant .none k pos) σ H Ans.none := fun H1 s1 Q q => we_of pe_non (q _ H1 Ans.none (Step.refl s1.j) rfl rfl)
theorem et_toldE {x : Told} {z : Str} {k : Nat} (hx : x ≠ .none) (ha : EvD X m a σ H x) (hz : z = sEndless := by rfl) : EvT X m (.Compare a [.Eq] [.Constant (.str z) k p] p2) σ H (match x with | .endless => true | _ => false) := by
  subst hz
  refine et_cmp op_eq (nomark _) ha ev_str fun v w x' y H1 Q s1 px py rx ry q => ?_
  subst px
  cases (show w = V.str sEndless from ry.trans py)
  cases x' with
  | none => exact absurd rfl hx
  | endless =>
    cases (show v = V.str sEndless from rx)
    exact ⟨rfl, q H1 (Step.refl s1.j)⟩
  | num n =>
    cases (show v = V.int n from rx)
    exact ⟨rfl, q H1 (Step.refl s1.j)⟩
end
theorem atI_cons {α : Type} [Rep α] {x : α} {xs : List α} : atI (x :: xs) 0 = some x := by
  rw [atI_pos (Int.le_refl 0)]
  rfl
theorem sm_mod {i k : Int} (hk : 0 < k) {n : Nat} (h : Sm n k) : Sm n (i % k) ∧ 0 ≤ i % k := by
  have h1 := Int.emod_nonneg i (by omega : k ≠ 0)
  have h2 := Int.emod_lt_of_pos i hk
  unfold Sm at *
  omega
theorem isPrice_ok {t : P2} (h : okP t = true) : isPriceB t = true := by
  unfold okP at h
  simp only [Bool.and_eq_true] at h
  exact h.1
section
variable {P : Program} {w : World} {K : PySem.W.Frag} {mg : Str → Option Value} {base : Heap}
theorem ok_answer (C : Consts K mg) (c1 : CIsPrice P w K mg base) (c2 : CValue P w K mg base) (c3 : CGain P w K mg base) (c4 : CWorth P w K mg base) (c5 : CGcd P w K mg base) (F : FnX K mg "_law_answer" sAnswer ["_law_scene", "_law_more", "_law_asked", "_law_spot_here"]) :
    FnOk P w K mg base CX0 4 F.f F.fd ["_law_scene", "_law_more", "_law_asked", "_law_spot_here"] (spAns K) := by
  have S := scAnswer
  refine fn_ok F S (fun vs H Q E ⟨M, v1, v4, sc, more, la, va, t, an, e, _⟩ => by rw [e]; rfl) fun cdv A outer s H vs Q E hr ⟨M, v1, v4, sc, more, la, va, t, an, e, hl, hM, r1, r4, hla, hva, ht, hsc, m0, m1, han, q⟩ => ?_
  subst e
  have st := okP_sm ht
  have nla : ∀ b, ¬ M b → b ≠ la := fun b n z => n (by rw [z]; exact hM)
  -- the scene, the list of what is asked
  refine wb_cons (ws_unp4 (m := mF M H hl) 4 5 6 7 (ev_var 0 r1) mF_j fun v5 v6 v7 v8 H1 z s1 pz r5 r6 r7 r8 => ?_)
  have pz := pz.symm
  subst pz
  have ex1 := mF_ex s1
  have hla1 := ex1 _ _ hla
  refine wb_cons (ws_append (m := mF M H hl) (j := s1.j) 2 hla1 hva (ev_var 3 (s1.rep r4)) fun va1 H2 z2 ex2 pz2 rz2 => ?_)
  have pz2 := pz2.symm
  subst pz2
  have hla2 := ex2 _ _ hla1
  have kp : ∀ b o, ¬ M b → H1 b = some o → upd H2 la (.lst (va ++ [va1])) b = some o := fun b o n h => (upd_ne (nla b n)).trans (ex2 b o h)
  have kq : ∀ b o, b ≠ la → H b = some o → upd H2 la (.lst (va ++ [va1])) b = some o := fun b o n h => (upd_ne n).trans (ex2 b o (ex1 b o h))
  have kr : ∀ b o, ¬ M b → H2 b = some o → upd H2 la (.lst (va ++ [va1])) b = some o := fun b o n h => (upd_ne (nla b n)).trans h
  have hl3 : ∀ b, M b → upd H2 la (.lst (va ++ [va1])) b ≠ none := fun b hb e => by
    by_cases z : b = la
    · rw [z, upd_same] at e; cases e
    · cases h : H b with
      | none => exact hl b hb h
      | some o => rw [kq b o z h] at e; cases e
  have hla3 : upd H2 la (.lst (va ++ [va1])) la = some (.lst (va ++ [va1])) := upd_same
  have r4 : rep K M (upd H2 la (.lst (va ++ [va1]))) v4 t := mono kp (s1.rep r4)
  have r5 : rep K M (upd H2 la (.lst (va ++ [va1]))) v5 sc.a := mono kp r5
  have r6 : rep K M (upd H2 la (.lst (va ++ [va1]))) v6 sc.b := mono kp r6
  have r7 : rep K M (upd H2 la (.lst (va ++ [va1]))) v7 sc.c := mono kp r7
  have r8 : rep K M (upd H2 la (.lst (va ++ [va1]))) v8 sc.d := mono kp r8
  have rva : rep K M (upd H2 la (.lst (va ++ [va1]))) va1 t := mono kr rz2
  generalize upd H2 la (.lst (va ++ [va1])) = H3 at kq hl3 hla3 r4 r5 r6 r7 r8 rva ⊢
  have fin : ∀ {u : V} {H' : Hp}, Step (mF M H3 hl3) H3 H' → rep K M H' u an → Q u H' := fun {u H'} s' ru => by
    have ex := mF_ex s'
    exact q u va1 H' (fun b o n h => ex b o (kq b o n h)) (ex _ _ hla3) (mono (fun b o _ h => ex b o h) rva) ru
  have rm : ∀ H, rep K M H (V.int more) more := fun _ => rfl
  generalize hmo : mF M H3 hl3 = mo at fin
  have hmM : mo.M = M := by rw [← hmo]; rfl
  have jo : mo.J H3 := by rw [← hmo]; exact mF_j
  subst hmM
  clear hmo
  refine wb_cons (ws_if (m := mo) (et_not (et_val (e_isPrice c1 hr (ev_var 3 r4) st))) jo (fun H4 s4 hk => (by rw [isPrice_ok ht] at hk; simp at hk)) fun H4 s4 hk => wb_nil ?_)
  refine wb_cons (ws_set 8 (e_value c2 hr (ev_var 4 (s4.rep r5)) (ev_var 3 (s4.rep r4)) ⟨hsc.fr, st⟩) s4.j fun v9 H5 told s5 pz r9 => ?_)
  have s45 := s4.trans s5
  have r4 := s45.rep r4
  have r5 := s45.rep r5
  have r6 := s45.rep r6
  have r7 := s45.rep r7
  have r8 := s45.rep r8
  have fin : ∀ {u : V} {H' : Hp}, Step mo H5 H' → rep K mo.M H' u an → Q u H' := fun s' ru => fin (s45.trans s') ru
  have j5 := s5.j
  clear kq hla3 s4 jo s5 s45 rva kp kr hl3 nla
  unfold lawAns at han
  rw [← pz] at han
  refine wb_cons (ws_if (m := mo) (et_isNT (ev_var 8 r9)) j5 (fun H6 s6 hk => ?_) fun H6 s6 hk => wb_nil ?_)
  · have e : told = .none := by cases told <;> simp [isNoneT] at hk <;> rfl
    subst e
    have ean : an = .none := by simpa using han.symm
    subst ean
    exact wb_one (ws_ret ev_noneA s6.j fun v H7 z s7 pz rz => fin (s6.trans s7) (by rw [← pz]; exact rz))
  have hT : told ≠ .none := fun e => by subst e; simp [isNoneT] at hk
  have hF : sc.a ≠ .none := fun e => by rw [e] at pz; exact hT pz
  refine wb_cons (ws_if (m := mo) (et_toldE hT (ev_var 8 (s6.rep r9))) s6.j (fun H7 s7 hk7 => ?_) fun H7 s7 hk7 => wb_nil ?_)
  · have e : told = .endless := by cases told <;> simp at hk7 <;> rfl
    subst e
    simp only at han
    have s57 := s6.trans s7
    have l1 : (lawGain sc.c t 1).length ≤ 2000 := Nat.le_trans (gain_len _ _ _) (by have := hsc.cl; omega)
    have l2 : (lawGain sc.d t (-1)).length ≤ 2000 := Nat.le_trans (gain_len _ _ _) (by have := hsc.dl; omega)
    refine wb_cons (ws_set (m := mo) 9 (ev_cat (e_gain c3 hr (ev_var 6 (s57.rep r7)) (ev_var 3 (s57.rep r4)) (ev_int (i := 1)) ⟨hsc.cl, hsc.cs, st⟩) (e_gain c3 hr (ev_var 7 (s57.rep r8)) (ev_var 3 (s57.rep r4)) (ev_neg (ev_int (i := 1))) ⟨hsc.dl, hsc.ds, st⟩) (by omega)) s7.j fun v10 H8 gs s8 pgs r10 => ?_)
    rw [← pgs] at han
    have hg : ∀ g, g ∈ gs → Sm2 100 g := fun g hg => by
      rw [pgs] at hg
      rcases List.mem_append.mp hg with h | h
      · exact gain_sm hsc.cs h
      · exact gain_sm hsc.ds h
    cases hix : gs[((t.1 + 2 * t.2 + more) % (gs.length : Int)).toNat]? with
    | none => rw [hix] at han; cases han
    | some g =>
      rw [hix] at han
      have ean : an = .gains ((1 + (t.1 + more) % 3) * g.1, (1 + (t.1 + more) % 3) * g.2) := by simpa using han.symm
      have sg := hg g (List.mem_of_getElem? hix)
      have hpos : 0 < (gs.length : Int) := by
        have := (List.getElem?_eq_some_iff.mp hix).1
        omega
      have s58 := s57.trans s8
      have hat : atI gs ((t.1 + 2 * t.2 + more) % (gs.length : Int)) = some g := by
        rw [atI_pos (Int.emod_nonneg _ (by omega))]
        exact hix
      refine wb_cons (ws_set (m := mo) 10 (ev_ixL (ev_var 9 r10) (ev_mod (ev_toInt (C.none _ (by decide)) (ev_add (ev_add (ev_fst (ev_var 3 (s58.rep r4)) ev_int) (ev_mul (ev_int (i := 2)) (ev_snd (ev_var 3 (s58.rep r4)) ev_int) (Sm.cmul (n := 2) (by decide) st.2))) (ev_var 1 (rm _)))) (ev_len (C.none _ (by decide)) (ev_var 9 r10)) hpos) hat) s8.j fun v11 H9 g' s9 pg r11 => ?_)
      have pg := pg.symm
      subst pg
      have s59 := s58.trans s9
      refine wb_cons (ws_set (m := mo) 11 (ev_add (ev_int (i := 1)) (ev_mod (ev_toInt (C.none _ (by decide)) (ev_add (ev_fst (ev_var 3 (s59.rep r4)) ev_int) (ev_var 1 (rm _)))) (ev_int (i := 3)) (by decide))) s9.j fun v12 H10 k s10 pk r12 => ?_)
      have sk : Sm 4 k := by
        rw [pk]
        have h1 := Int.emod_nonneg (t.1 + more) (by decide : (3 : Int) ≠ 0)
        have h2 := Int.emod_lt_of_pos (t.1 + more) (by decide : (0 : Int) < 3)
        unfold Sm
        omega
      refine wb_one (ws_ret (ev_gains (ev_pair (ev_mul (ev_var 11 r12) (ev_fst (ev_var 10 (s10.rep r11)) ev_int) (sk.cmul sg.1)) (ev_mul (ev_var 11 r12) (ev_snd (ev_var 10 (s10.rep r11)) ev_int) (sk.cmul sg.2)))) s10.j fun v H11 z s11 pz rz => fin (s59.trans (s10.trans s11)) ?_)
      rw [ean, ← pk, ← pz]
      exact rz
  obtain ⟨n, e⟩ : ∃ n, told = .num n := by cases told <;> simp at hk7 <;> first | exact ⟨_, rfl⟩ | exact absurd rfl hT
  subst e
  simp only at han
  have s57 := s6.trans s7
  have r4 := s57.rep r4
  have r5 := s57.rep r5
  have r6 := s57.rep r6
  have r9 : rep K mo.M H7 v9 n := s57.rep r9
  have fin : ∀ {u : V} {H' : Hp}, Step mo H7 H' → rep K mo.M H' u an → Q u H' := fun s' ru => fin (s57.trans s') ru
  have j7 := s7.j
  clear r7 r8 hk hk7 s6 s7 s57 j5
  refine wb_cons (ws_lc1L (m := mo) 9 10 (fun c => decide (wt c t = n)) (fun c => c) (ev_var 5 r6) (Nat.le_trans hsc.bl (by decide)) (show BlkOk nAns (defScope sAnswer) _ [("_law_pair_here", 10)] from blkOk_by (by decide +kernel))
    (fun m' s0 H0 C' cl fp u c H' up j' hc ru => et_eqI (e_worth c4 hr (ev_var 10 ru) (ev_var 3 (up r4)) ⟨(hsc.bs c hc).mono (by omega), st⟩) (ev_var 8 (up r9))) (fun m' s0 H0 C' cl fp u c H' up j' hc hk ru => ev_var 10 ru) j7 fun v10 H8 s8 r10 => ?_)
  rw [List.map_id'] at r10
  have r4 := s8.rep r4
  have r5 := s8.rep r5
  have r9 := s8.rep r9
  have fin : ∀ {u : V} {H' : Hp}, Step mo H8 H' → rep K mo.M H' u an → Q u H' := fun s' ru => fin (s8.trans s') ru
  have j8 := s8.j
  clear r6 s8 j7
  have hfr := hsc.fr
  cases hsa : sc.a with
  | none => exact absurd hsa hF
  | endless => rw [hsa] at pz; simp [lawValue] at pz
  | «at» lo nn =>
    rw [hsa] at r5 han
    simp only at han
    refine wb_cons (ws_if (m := mo) (et_tagAt (F := Fr.at lo nn) (fun h => nomatch h) (ev_var 4 r5)) j8 (fun H9 s9 _ => ?_) fun _ _ h => (by simp at h))
    cases hxs : sc.b.filter fun c => decide (wt c t = n) with
    | nil => rw [hxs] at han; cases han
    | cons h0 tl =>
      rw [hxs] at han r10
      have ean : an = .most (h0.1 + ((t.1 + more) % 7 - 3) * t.2, h0.2 - ((t.1 + more) % 7 - 3) * t.1) := by simpa using han.symm
      have sh : Sm2 99 h0 := hsc.bs h0 (List.mem_filter.mp (by rw [hxs]; exact List.mem_cons_self)).1
      refine wb_cons (ws_set (m := mo) 12 (ev_sub (ev_mod (ev_toInt (C.none _ (by decide)) (ev_add (ev_fst (ev_var 3 (s9.rep r4)) ev_int) (ev_var 1 (rm _)))) (ev_int (i := 7)) (by decide)) (ev_int (i := 3))) s9.j fun v13 H10 k s10 pk r13 => ?_)
      have s910 := s9.trans s10
      have sk : Sm 4 k := by
        rw [pk]
        have h1 := Int.emod_nonneg (t.1 + more) (by decide : (7 : Int) ≠ 0)
        have h2 := Int.emod_lt_of_pos (t.1 + more) (by decide : (0 : Int) < 7)
        unfold Sm
        omega
      refine wb_one (ws_ret (ev_most (ev_pair (ev_add (ev_fst (ev_ixL (x := h0) (ev_var 9 (s910.rep r10)) (ev_int (i := 0)) atI_cons) ev_int) (ev_mul (ev_var 12 r13) (ev_snd (ev_var 3 (s910.rep r4)) ev_int) (sk.cmul st.2))) (ev_sub (ev_snd (ev_ixL (x := h0) (ev_var 9 (s910.rep r10)) (ev_int (i := 0)) atI_cons) ev_int) (ev_mul (ev_var 12 r13) (ev_fst (ev_var 3 (s910.rep r4)) ev_int) (sk.cmul st.1))))) s10.j fun v H11 z s11 pz rz => fin (s910.trans s11) ?_)
      rw [ean, ← pk, ← pz]
      exact rz
  | over lo hi cs =>
    rw [hsa] at r5 han hfr
    simp only at han
    obtain ⟨g1, g2, g3, g4, g5⟩ := hfr
    refine wb_cons (ws_if (m := mo) (et_tagAt (F := Fr.over lo hi cs) (fun h => nomatch h) (ev_var 4 r5)) j8 (fun _ _ h => (by simp at h)) fun H9 s9 _ => wb_nil ?_)
    refine wb_cons (ws_lc1T (m := mo) 9 10 (xs := Tup.mk cs) (fun c => decide (wt c t = n)) (fun c => c) (ev_over3 (ev_var 4 (s9.rep r5)) ev_int) (Nat.le_trans g4 (by decide)) (show BlkOk nAns (defScope sAnswer) _ [("_law_pair_here", 10)] from blkOk_by (by decide +kernel))
      (fun m' s0 H0 C' cl fp u c H' up j' hc ru => et_eqI (e_worth c4 hr (ev_var 10 ru) (ev_var 3 (up (s9.rep r4))) ⟨g5 c hc, st⟩) (ev_var 8 (up (s9.rep r9)))) (fun m' s0 H0 C' cl fp u c H' up j' hc hk ru => ev_var 10 ru) s9.j fun v11 H10 s10 r11 => ?_)
    rw [List.map_id'] at r11
    have s910 := s9.trans s10
    have r4 := s910.rep r4
    have r5 := s910.rep r5
    have fin : ∀ {u : V} {H' : Hp}, Step mo H10 H' → rep K mo.M H' u an → Q u H' := fun s' ru => fin (s910.trans s') ru
    have j10 := s10.j
    clear r10 s9 s10 s910 j8 r9
    cases hxs : cs.filter fun c => decide (wt c t = n) with
    | nil => rw [hxs] at han; cases han
    | cons one tl =>
      have hmem : ∀ c, c ∈ one :: tl → Sm2 100 c := fun c hc => g5 c (List.mem_filter.mp (by rw [hxs]; exact hc)).1
      rw [hxs] at han
      have r11 : rep K mo.M H10 v11 (one :: tl) := by rw [← hxs]; exact r11
      simp only at han
      have hlast : atI (one :: tl) (-1) = some ((one :: tl).getLast (by simp)) := by
        have e := (List.dropLast_concat_getLast (l := one :: tl) (by simp)).symm
        conv => lhs; rw [e]
        exact atI_last
      have htwo : Sm2 100 ((one :: tl).getLast (by simp)) := hmem _ (List.getLast_mem _)
      have hone : Sm2 100 one := hmem one List.mem_cons_self
      generalize (one :: tl).getLast (by simp) = two at han hlast htwo
      refine wb_cons (ws_par (m := mo) 13 14 (ev_ixL (x := one) (ev_var 9 r11) (ev_int (i := 0)) atI_cons) (ev_ixL (x := two) (ev_var 9 r11) (ev_neg (ev_int (i := 1))) hlast) j10 fun v12 v13 H11 z1 z2 s11 p1 p2 r12 r13 => ?_)
      have p1 := p1.symm
      have p2 := p2.symm
      subst p1
      subst p2
      have r4 := s11.rep r4
      have r5 := s11.rep r5
      refine wb_cons (ws_if (m := mo) (et_neD (α := P2) hr (ev_var 13 r12) (ev_var 14 r13)) s11.j (fun H12 s12 hk => ?_) fun H12 s12 hk => wb_nil ?_)
      · have hne : one ≠ two := by simpa using hk
        rw [if_pos hne] at han
        have ean := (Option.some.inj han).symm
        have r12 := s12.rep r12
        have r13 := s12.rep r13
        have d1 : Sm 101 (two.1 - one.1) := htwo.1.sub hone.1
        have d2 : Sm 101 (two.2 - one.2) := htwo.2.sub hone.2
        have hnz : ¬ (two.1 - one.1 = 0 ∧ two.2 - one.2 = 0) := fun ⟨a, b⟩ => hne (Prod.ext (by omega) (by omega))
        have g0 := gcdI_pos hnz
        have g1' := gcdI_sm hnz d1 d2
        have eg : gcdI (iabs (two.1 - one.1)) (iabs (two.2 - one.2)) = gcdI (two.1 - one.1) (two.2 - one.2) := by
          have ab : ∀ i : Int, (iabs i).natAbs = i.natAbs := fun i => by unfold iabs; split <;> omega
          unfold gcdI
          rw [ab, ab]
        have nn : ∀ i : Int, 0 ≤ iabs i := fun i => by unfold iabs; split <;> omega
        refine wb_cons (ws_set (m := mo) 15 ((e_gcdL c5 hr (ev_abs (C.none _ (by decide)) (ev_sub (ev_fst (ev_var 14 r13) ev_int) (ev_fst (ev_var 13 r12) ev_int))) (ev_abs (C.none _ (by decide)) (ev_sub (ev_snd (ev_var 14 r13) ev_int) (ev_snd (ev_var 13 r12) ev_int))) ⟨nn _, nn _, (d2.abs).mono (by omega)⟩)) s12.j fun v14 H13 dp s13 pdp r14 => ?_)
        have edp : dp = gcdI (two.1 - one.1) (two.2 - one.2) := pdp.trans eg
        rw [← edp] at ean g0 g1'
        have hd1 : 0 < dp + 1 := by omega
        refine wb_cons (ws_set (m := mo) 11 (ev_mod (ev_toInt (C.none _ (by decide)) (ev_add (ev_add (ev_fst (ev_var 3 (s13.rep (s12.rep r4))) ev_int) (ev_snd (ev_var 3 (s13.rep (s12.rep r4))) ev_int)) (ev_var 1 (rm _)))) (ev_add (ev_var 15 r14) (ev_int (i := 1))) hd1) s13.j fun v15 H14 pt s14 ppt r15 => ?_)
        have spt : Sm 102 pt := by
          rw [ppt]
          have h1 := Int.emod_nonneg (t.1 + t.2 + more) (by omega : dp + 1 ≠ 0)
          have h2 := Int.emod_lt_of_pos (t.1 + t.2 + more) hd1
          unfold Sm at *
          have := pow_s 101
          omega
        have s134 := s13.trans s14
        refine wb_one (ws_ret (ev_most (ev_pair (ev_add (ev_fst (ev_var 13 (s134.rep r12)) ev_int) (ev_mul (ev_fdiv (ev_sub (ev_fst (ev_var 14 (s134.rep r13)) ev_int) (ev_fst (ev_var 13 (s134.rep r12)) ev_int)) (ev_var 15 (s14.rep r14)) (Sm.cdiv g0 g1')) (ev_var 11 r15) ((div_sm d1 g0).cmul spt)))
          (ev_add (ev_snd (ev_var 13 (s134.rep r12)) ev_int) (ev_mul (ev_fdiv (ev_sub (ev_snd (ev_var 14 (s134.rep r13)) ev_int) (ev_snd (ev_var 13 (s134.rep r12)) ev_int)) (ev_var 15 (s14.rep r14)) (Sm.cdiv g0 g1')) (ev_var 11 r15) ((div_sm d2 g0).cmul spt))))) s14.j fun v H15 z s15 pz rz => fin (s11.trans (s12.trans (s134.trans s15))) ?_)
        rw [ean, ← ppt, ← pz]
        exact rz
      · have heq : one = two := by simpa using hk
        rw [if_neg (by simpa using heq)] at han
        have r4 := s12.rep r4
        have r5 := s12.rep r5
        have r12 := s12.rep r12
        refine wb_cons (ws_set (m := mo) 12 (ev_mod (ev_toInt (C.none _ (by decide)) (ev_add (ev_fst (ev_var 3 r4) ev_int) (ev_var 1 (rm _)))) (ev_int (i := 4)) (by decide)) s12.j fun v14 H13 k s13 pk r14 => ?_)
        have sk : Sm 4 k := by
          rw [pk]
          have h1 := Int.emod_nonneg (t.1 + more) (by decide : (4 : Int) ≠ 0)
          have h2 := Int.emod_lt_of_pos (t.1 + more) (by decide : (0 : Int) < 4)
          unfold Sm
          omega
        rw [← pk] at han
        have fin : ∀ {u : V} {H' : Hp}, Step mo H13 H' → rep K mo.M H' u an → Q u H' := fun s' ru => fin (s11.trans (s12.trans (s13.trans s'))) ru
        have r4 := s13.rep r4
        have r5 := s13.rep r5
        have r12 := s13.rep r12
        refine wb_cons (ws_if (m := mo) (et_eqD (α := P2) hr (ev_var 3 r4) (ev_over1 (ev_var 4 r5) ev_int)) s13.j (fun H14 s14 hk2 => ?_) fun H14 s14 hk2 => wb_nil ?_)
        · rw [if_pos (of_decide_eq_true hk2)] at han
          have ean := (Option.some.inj han).symm
          refine wb_one (ws_ret (ev_most (ev_pair (ev_add (ev_fst (ev_var 13 (s14.rep r12)) ev_int) (ev_mul (ev_var 12 (s14.rep r14)) (ev_snd (ev_var 3 (s14.rep r4)) ev_int) (sk.cmul st.2))) (ev_sub (ev_snd (ev_var 13 (s14.rep r12)) ev_int) (ev_mul (ev_var 12 (s14.rep r14)) (ev_fst (ev_var 3 (s14.rep r4)) ev_int) (sk.cmul st.1))))) s14.j fun v H15 z s15 pz rz => fin (s14.trans s15) ?_)
          rw [ean, ← pz]
          exact rz
        · rw [if_neg (of_decide_eq_false hk2)] at han
          refine wb_cons (ws_if (m := mo) (et_eqD (α := P2) hr (ev_var 3 (s14.rep r4)) (ev_over2 (ev_var 4 (s14.rep r5)) ev_int)) s14.j (fun H15 s15 hk3 => ?_) fun H15 s15 hk3 => wb_nil ?_)
          · rw [if_pos (of_decide_eq_true hk3)] at han
            have ean := (Option.some.inj han).symm
            have s145 := s14.trans s15
            refine wb_one (ws_ret (ev_most (ev_pair (ev_sub (ev_fst (ev_var 13 (s145.rep r12)) ev_int) (ev_mul (ev_var 12 (s145.rep r14)) (ev_snd (ev_var 3 (s145.rep r4)) ev_int) (sk.cmul st.2))) (ev_add (ev_snd (ev_var 13 (s145.rep r12)) ev_int) (ev_mul (ev_var 12 (s145.rep r14)) (ev_fst (ev_var 3 (s145.rep r4)) ev_int) (sk.cmul st.1))))) s15.j fun v H16 z s16 pz rz => fin (s145.trans s16) ?_)
            rw [ean, ← pz]
            exact rz
          · rw [if_neg (of_decide_eq_false hk3)] at han
            have ean := (Option.some.inj han).symm
            have s145 := s14.trans s15
            refine wb_one (ws_ret (ev_most (ev_var 13 (s145.rep r12))) s15.j fun v H16 z s16 pz rz => fin (s145.trans s16) ?_)
            rw [ean, ← pz]
            exact rz
end
end HK
set_option Elab.async false
set_option linter.all false
set_option maxRecDepth 100000
/-! F14: the draw: begun, mixed. -/
namespace HK
open PySem PySem.Spec PyProof.Rows L2 LamX
open Rep Arg
abbrev sBegun : Stmt := topS 19
abbrev sMixed : Stmt := topS 20
theorem scBegun : FnScope ["_law_script", "_law_great", "_law_cell"] ["_law_script"] (defScope sBegun) := ⟨rfl, rfl, rfl, by decide +kernel, rfl, by decide +kernel, by decide +kernel⟩
abbrev nMixed : List Str := ["_law_draw", "_law_turn", "_law_found", "_law_prime", "_law_blend", "_law_cell"]
theorem scMixed : FnScope nMixed ["_law_draw"] (defScope sMixed) := ⟨rfl, rfl, rfl, by decide +kernel, rfl, by decide +kernel, by decide +kernel⟩
/-- the draw's dict -/
def dkOf (g c : Addr) (left turn : Int) : List (L2.Key × V) := [(.inr "great", .ref g), (.inr "cells", .ref c), (.inr "left", .int left), (.inr "turn", .int turn)]
/-- the draw at d, its great cells at g; at most n turns were made -/
def DrawAt (n : Nat) (H : Hp) (d g c : Addr) : Prop := ∃ (left turn : Int) (gs : List Int), H d = some (.dK (dkOf g c left turn)) ∧ H g = some (.lst (gs.map V.int)) ∧ 0 ≤ turn ∧ turn ≤ n
theorem DrawAt.up {n k : Nat} {H : Hp} {d g c : Addr} (h : DrawAt n H d g c) (hk : n ≤ k) : DrawAt k H d g c := by
  obtain ⟨left, turn, gs, h1, h2, h3, h4⟩ := h
  exact ⟨left, turn, gs, h1, h2, h3, by omega⟩
theorem DrawAt.ne {n : Nat} {H : Hp} {d g c : Addr} (h : DrawAt n H d g c) : d ≠ g := by
  obtain ⟨left, turn, gs, h1, h2, h3, h4⟩ := h
  exact ne_of h1 h2 (by nofun)
section
variable {X : Cx} {m : Mode} {σ : L2.St} {H : Hp} {D : Ends} {a b c e : Expr} {pos p p2 p3 : Pos} {j : Nat}
/-- d["…"] -/
theorem ev_dget {d : Addr} {kvs : List (L2.Key × V)} {key : Str} {v : V} {k : Nat} (hr : Room j X.A) (hd : ∀ H1, Step m H H1 → H1 d = some (.dK kvs)) (ha : EvD X m a σ H (V.ref d)) (hk : valV kvs (.inr key) = some v) : EvD X m (.Subscript a (.Constant (.str key) k p) pos) σ H v := fun H1 s1 Q q =>
  we_of (pe_dget (hu_of hr) pe_w pe_str (by intro _ _; rfl)) (ha H1 s1 _ fun w H2 x s2 px rx => ⟨d, v, (show w = x from rx).trans px, by
    have g := DGet.k (k := (.inr key : L2.Key)) (hd H2 (s1.trans s2))
    rw [hk] at g
    exact g, q v H2 v s2 rfl rfl⟩)
theorem ev_asI {v : V} {i : Int} (ha : EvD X m a σ H v) (hv : v = .int i) : EvD X m a σ H i := fun H1 s1 Q q => ha H1 s1 Q fun w H2 x s2 px rx => q w H2 i s2 rfl ((show w = x from rx).trans (px.trans hv))
/-- a value that is known to stand for x -/
theorem ev_asR {α : Type} [Rep α] {v : V} {x : α} (ha : EvD X m a σ H v) (hv : rep X.K m.M H v x) : EvD X m a σ H x := fun H1 s1 Q q => ha H1 s1 Q fun w H2 y s2 py ry => by
  have e : w = v := (show w = y from ry).trans py
  subst e
  exact q w H2 x s2 rfl ((s1.trans s2).rep hv)
/-- d["…"] = e -/
theorem ws_dput {d : Addr} {key : Str} {k : Nat} (hr : Room j X.A) (he : WE X e σ H fun v H1 => WE X a σ H1 fun w H2 => ∃ kvs, w = .ref d ∧ H2 d = some (.dK kvs) ∧ kvs.length < 1000 ∧ D.nx σ (upd H2 d (.dK (putK kvs (.inr key) v))))
    (hs : swapsWith e (some (.Subscript a (.Constant (.str key) k p) p2)) pos.line X.env = pure false := by rfl) : WS X (.Assign [.Subscript a (.Constant (.str key) k p) p2] e pos) D σ H :=
  ws_of (ps_dput (hu_of hr) pe_w pe_str pe_w hs) (fun pins s I => thn (he pins s I) fun u s' ⟨v, H1, I1, r1, q1⟩ => ⟨v, H1, I1, r1, fun pins2 s2 I2 => thn (q1 pins2 s2 I2) fun u2 s3 ⟨w, H2, I3, r2, kvs, e1, e2, hl, e3⟩ => ⟨w, H2, I3, r2, d, _, e1, DPut.k (k := (.inr key : L2.Key)) e2 (Nat.lt_trans hl (by decide)), e3⟩⟩)
end
/-- the promise of a def that draws: at most k turns -/
def spD (K : PySem.W.Frag) (k : Nat) {τ β : Type} [Arg τ] [Rep β] (pre : τ → Prop) (post : τ → β → Prop) : Sp := fun vs H Q _ => ∃ (M : Addr → Prop) (d g c : Addr) (cs : List Int) (n : Nat) (ws : List V) (x : τ), vs = .ref d :: ws ∧ (∀ b, M b → H b ≠ none) ∧ M d ∧ M g ∧ DrawAt n H d g c ∧ rep K M H (.ref c) cs ∧ n + k ≤ 1000000 ∧ rp K M H ws x ∧ pre x ∧
  ∀ u H' z, (∀ b o, b ≠ d → b ≠ g → H b = some o → H' b = some o) → DrawAt (n + k) H' d g c → post x z → rep K M H' u z → Q u H'
section
variable {P : Program} {w : World} {K : PySem.W.Frag} {mg : Str → Option Value} {base : Heap}
theorem ok_mixed (C : Consts K mg) (F : FnX K mg "_law_mixed" sMixed ["_law_draw"]) : FnOk P w K mg base CX0 1 F.f F.fd ["_law_draw"] (spD K 1 (fun _ : Unit => True) (fun _ (_ : Int) => True)) := by
  have S := scMixed
  refine fn_ok F S (fun vs H Q E ⟨M, d, g, c, cs, n, ws, x, e, _, _, _, _, _, _, r, _⟩ => by rw [e, show ws = [] from r]; rfl) fun cdv A outer s H vs Q E hr ⟨M, d, g, c, cs, n, ws, x, e, hl, hd, hg, hD, rc, hn, r, _, q⟩ => ?_
  subst e
  cases (show ws = [] from r)
  obtain ⟨left, turn, gs, h1, h2, h3, h4⟩ := hD
  have hdg := ne_of h1 h2 (by nofun)
  refine wb_cons (ws_par (m := mF M H hl) 1 2 (ev_add (ev_asI (ev_dget (d := d) hr (fun H1 s1 => mF_ex s1 _ _ h1) (ev_var (x := V.ref d) 0 rfl) (show valV (dkOf g c left turn) (.inr "turn") = some (.int turn) from rfl)) rfl) (ev_int (i := 1))) (ev_int (i := 0)) mF_j fun v1 v2 H1 z u s1 pz pu r1 r2 => ?_)
  cases (show v1 = V.int z from r1)
  cases (show v2 = V.int u from r2)
  subst pz
  subst pu
  have ex1 := mF_ex s1
  refine wb_cons (ws_dput (d := d) hr ((ev_var (m := mF M H hl) (x := turn + 1) 1 rfl) H1 s1 _ fun v H2 x s2 px rx => (ev_var (m := mF M H hl) (x := V.ref d) 0 rfl) H2 (s1.trans s2) _ fun w' H3 y s3 py ry => ?_))
  cases (show v = V.int x from rx)
  subst px
  have e3 := mF_ex (s1.trans (s2.trans s3))
  refine ⟨_, (show w' = y from ry).trans py, e3 _ _ h1, (show 4 < 1000 by decide), ?_⟩
  have hput : putK (dkOf g c left turn) (.inr "turn") (.int (turn + 1)) = dkOf g c left (turn + 1) := rfl
  rw [hput]
  -- the state behind: H4
  have g2 := e3 _ _ h2
  have kq : ∀ b o, b ≠ d → H b = some o → upd H3 d (.dK (dkOf g c left (turn + 1))) b = some o := fun b o nb h => (upd_ne nb).trans (e3 b o h)
  have hd4 : upd H3 d (.dK (dkOf g c left (turn + 1))) d = some (.dK (dkOf g c left (turn + 1))) := upd_same
  have hg4 : upd H3 d (.dK (dkOf g c left (turn + 1))) g = some (.lst (gs.map V.int)) := (upd_ne hdg.symm).trans g2
  have hl4 : ∀ b, M b → upd H3 d (.dK (dkOf g c left (turn + 1))) b ≠ none := fun b hb e => by
    by_cases z : b = d
    · rw [z, hd4] at e; cases e
    · cases h : H b with
      | none => exact hl b hb h
      | some o => rw [kq b o z h] at e; cases e
  have rc4 : rep K M (upd H3 d (.dK (dkOf g c left (turn + 1)))) (.ref c) cs := mono (fun b o nb h => kq b o (fun z => nb (by rw [z]; exact hd)) h) rc
  generalize upd H3 d (.dK (dkOf g c left (turn + 1))) = H4 at kq hd4 hg4 hl4 rc4 ⊢
  have fin : ∀ {z : Int} {v : V} {H' : Hp}, Step (mF M H4 hl4) H4 H' → rep K M H' v z → Q v H' := fun {z v H'} s' rz => by
    have ex := mF_ex s'
    exact q v H' z (fun b o nb _ h => ex b o (kq b o nb h)) ⟨left, turn + 1, gs, ex _ _ hd4, ex _ _ hg4, by omega, by omega⟩ trivial rz
  have st : Sm 40 (turn + 1) := by
    unfold Sm
    have : (2 : Nat) ^ 40 = 1099511627776 := by decide
    omega
  refine wb_cons (ws_forL (m := mF M H4 hl4) (xs := ([2147483647, 2147483629, 2147483587, 2147483579] : List Int)) 3 (ev_lstL (el4 (ev_int (i := 2147483647)) (ev_int (i := 2147483629)) (ev_int (i := 2147483587)) (ev_int (i := 2147483579))) ?hz) mF_j
    (fun k σ' H' => ∃ f w3 w4 w5, σ' = [some (.ref d), some (.int (turn + 1)), some (.int f), w3, w4, w5] ∧ Sm (80 * (k + 1)) f) (fun H' s' => ⟨0, none, none, none, rfl, by unfold Sm; exact Nat.pow_pos (by decide)⟩) ?turn ?hend)
  case hz =>
    intro H1 vs rr
    obtain ⟨v1, v2, v3, v4, e, q1, q2, q3, q4⟩ := rp4 rr
    subst e
    exact ⟨four_le, .cons q1 (.cons q2 (.cons q3 (.cons q4 .nil)))⟩
  case turn =>
    rintro k p v σ' H5 hx s5 ⟨f, w3, w4, w5, rfl, sf⟩ rv
    have hk4 : k < 4 := (List.getElem?_eq_some_iff.mp hx).1
    have hp : 2147483579 ≤ p ∧ p ≤ 2147483647 := by
      have := List.mem_of_getElem? hx
      simp at this
      omega
    cases (show v = V.int p from rv)
    have sp : Sm 32 p := by unfold Sm; have : (2 : Nat) ^ 32 = 4294967296 := by decide
                            omega
    have rt : ∀ H, rep K M H (V.int (turn + 1)) (turn + 1) := fun _ => rfl
    have rp' : ∀ H, rep K M H (V.int p) p := fun _ => rfl
    refine wb_cons (ws_set (m := mF M H4 hl4) 4 (ev_add (ev_mul (ev_int (i := 48271)) (ev_var 1 (rt _)) (Sm.cmul (n := 16) (by decide) st)) (ev_fdiv (ev_var 3 (rp' _)) (ev_int (i := 37)) (Sm.cdiv (k := 6) (by decide) (by decide)))) s5.j fun v4 H6 b s6 pb rb => ?_)
    cases (show v4 = V.int b from rb)
    have sb : Sm 60 b := by
      rw [pb]
      have m1 : Sm 56 (48271 * (turn + 1)) := (show Sm 16 (48271 : Int) by decide).mul st
      have m2 : Sm 32 (p / 37) := div_sm sp (by decide)
      exact (m1.add (m2.mono (by omega))).mono (by omega)
    have s56 := s5.trans s6
    have hdc : ∀ H', Step (mF M H4 hl4) H6 H' → H' d = some (.dK (dkOf g c left (turn + 1))) := fun H' s' => mF_ex (s56.trans s') _ _ hd4
    refine wb_cons (ws_forL (m := mF M H4 hl4) (xs := cs) 5 (ev_asR (v := V.ref c) (ev_dget (d := d) hr hdc (ev_var (x := V.ref d) 0 rfl) (show valV (dkOf g c left (turn + 1)) (.inr "cells") = some (.ref c) from rfl)) (s56.rep rc4)) s6.j
      (fun k σ' H' => ∃ b w5, σ' = [some (.ref d), some (.int (turn + 1)), some (.int f), some (.int p), some (.int b), w5] ∧ Sm 60 b) (fun H' s' => ⟨b, w5, rfl, sb⟩) ?turn2 ?hend2)
    case turn2 =>
      rintro k2 cell v5 σ' H7 _ s7 ⟨b', w5, rfl, sb'⟩ rcell
      have rb' : ∀ H, rep K M H (V.int b') b' := fun _ => rfl
      refine wb_one (ws_set (m := mF M H4 hl4) 4 (ev_mod (ev_toInt (C.none _ (by decide)) (ev_add (ev_add (ev_mul (ev_var 4 (rb' _)) (ev_int (i := 69621)) (Sm.cmul (k := 17) sb' (by decide))) (ev_var 5 rcell)) (ev_var 1 (rt _)))) (ev_var 3 (rp' _)) (by omega)) s7.j fun v6 H8 b2 s8 pb2 rb2 => ?_)
      cases (show v6 = V.int b2 from rb2)
      refine ⟨s8, b2, some v5, rfl, ?_⟩
      rw [pb2]
      exact (sm_mod (by omega) sp).1.mono (by omega)
    case hend2 =>
      rintro σ' H7 s7 ⟨b', w5, rfl, sb'⟩
      have rb' : ∀ H, rep K M H (V.int b') b' := fun _ => rfl
      have rf : ∀ H, rep K M H (V.int f) f := fun _ => rfl
      have hpw : CPow b' 5 := ⟨by decide, by decide, Nat.lt_trans sb' (by decide)⟩
      have sf' : Sm 400 f := sf.mono (by omega)
      refine wb_one (ws_set (m := mF M H4 hl4) 2 (ev_add (ev_mul (ev_var 2 (rf _)) (ev_int (i := 2147483647)) (Sm.cmul (k := 31) sf' (by decide))) (ev_mod (ev_toInt (C.none _ (by decide)) (ev_pow (ev_var 4 (rb' _)) (ev_int (i := 5)) hpw)) (ev_var 3 (rp' _)) (by omega))) s7.j fun v6 H8 f2 s8 pf2 rf2 => ?_)
      cases (show v6 = V.int f2 from rf2)
      refine ⟨s6.trans (s7.trans s8), f2, some (.int p), some (.int b'), w5, rfl, ?_⟩
      rw [pf2]
      have m1 : Sm (80 * (k + 1) + 31) (f * 2147483647) := sf.mul (show Sm 31 (2147483647 : Int) by decide)
      have m2 : Sm 32 ((b' ^ (5 : Int).toNat) % p) := (sm_mod (by omega) sp).1
      exact (m1.add (m2.mono (by omega))).mono (by omega)
  case hend =>
    rintro σ' H5 s5 ⟨f, w3, w4, w5, rfl, sf⟩
    exact wb_one (ws_ret (m := mF M H4 hl4) (ev_var (x := f) 2 rfl) s5.j fun v H6 z s6 pz rz => fin (s5.trans s6) rz)
end
end HK
set_option Elab.async false
set_option linter.all false
set_option maxRecDepth 100000
/-! F15: the draw: take; draws as expressions. -/
namespace HK
open PySem PySem.Spec PyProof.Rows L2 LamX
open Rep Arg
abbrev sTake : Stmt := topS 21
theorem scTake : FnScope ["_law_draw", "_law_many", "_law_found"] ["_law_draw", "_law_many"] (defScope sTake) := ⟨rfl, rfl, rfl, by decide +kernel, rfl, by decide +kernel, by decide +kernel⟩
section
variable (P : Program) (w : World) (K : PySem.W.Frag) (mg : Str → Option Value) (base : Heap)
structure CalD (lvl : Nat) (n : Str) (k : Nat) {τ β : Type} [Arg τ] [Rep β] (pre : τ → Prop) (post : τ → β → Prop) : Prop where
  ex : ∃ (f : Addr) (fd : FuncData) (ps : List Str), FnOk P w K mg base CX0 lvl f fd ps (spD K k pre post) ∧ mg n = some (.ref f) ∧ PySem.W.keepIn K (.ref f) = true ∧ Binds K fd ps []
abbrev DMixed := CalD P w K mg base 1 "_law_mixed" 1 (fun _ : Unit => True) (fun _ (_ : Int) => True)
abbrev DTake := CalD P w K mg base 2 "_law_take" 1 (fun x : A1 Int => 0 < x.h ∧ Sm 9000 x.h) (fun x (z : Int) => 0 ≤ z ∧ z < x.h)
end
theorem CalD.of {P : Program} {w : World} {K : PySem.W.Frag} {mg : Str → Option Value} {base : Heap} {lvl k : Nat} {n : Str} {τ β : Type} [Arg τ] [Rep β] {pre : τ → Prop} {post : τ → β → Prop} {st : Stmt} {ps : List Str} (F : FnX K mg n st ps) (o : FnOk P w K mg base CX0 lvl F.f F.fd ps (spD K k pre post)) : CalD P w K mg base lvl n k pre post := ⟨F.f, F.fd, ps, o, F.g, F.F.kp, F.b⟩
section
variable {P : Program} {w : World} {K : PySem.W.Frag} {mg : Str → Option Value} {base : Heap}
theorem draw_live {M : Addr → Prop} {H H' : Hp} {d g c : Addr} {n : Nat} (hl : ∀ b, M b → H b ≠ none) (k : ∀ b o, b ≠ d → b ≠ g → H b = some o → H' b = some o) (D : DrawAt n H' d g c) : ∀ b, M b → H' b ≠ none := fun b hb e => by
  obtain ⟨left, turn, gs, h1, h2, _⟩ := D
  by_cases z : b = d
  · rw [z, h1] at e; cases e
  · by_cases z2 : b = g
    · rw [z2, h2] at e; cases e
    · cases h : H b with
      | none => exact hl b hb h
      | some o => rw [k b o z z2 h] at e; cases e
theorem ok_take (C : Consts K mg) (c1 : DMixed P w K mg base) (F : FnX K mg "_law_take" sTake ["_law_draw", "_law_many"]) : DTake P w K mg base := .of F <| by
  have S := scTake
  refine fn_ok F S (fun vs H Q E ⟨M, d, g, c, cs, n, ws, x, e, _, _, _, _, _, _, r, _⟩ => by rw [e, List.length_cons, rl1 x r]; rfl) fun cdv A outer s H vs Q E hr ⟨M, d, g, c, cs, n, ws, x, e, hl, hd, hg, hD, rc, hn, r, ⟨p1, p2⟩, q⟩ => ?_
  subst e
  obtain ⟨v2, rfl, r2⟩ := rp1 r
  cases (show v2 = V.int x.h from r2)
  have rm : ∀ M H, rep K M H (V.int x.h) x.h := fun _ _ => rfl
  -- behind the first statement
  have rest : ∀ H', (∀ b o, b ≠ d → b ≠ g → H b = some o → H' b = some o) → DrawAt (n + 1) H' d g c → WB (bcx P w K mg base ["_law_draw", "_law_many", "_law_found"] "_law_take" sTake F.f cdv A outer s H E) ((defBody sTake).drop 1) { nx := fun _ H' => Q .non H', rt := Q } [some (.ref d), some (.int x.h), none] H' := fun H1 k1 D1 => by
    have hl1 := draw_live hl k1 D1
    obtain ⟨left, turn, gs, h1, h2, h3, h4⟩ := D1
    have hdg := ne_of h1 h2 (by nofun)
    show WB _ (_ :: _ :: _ :: []) _ _ _
    refine wb_cons (ws_set (m := mF M H1 hl1) 2 (ev_mod (ev_toInt (C.none _ (by decide)) (ev_asI (ev_dget (d := d) hr (fun H1 s1 => mF_ex s1 _ _ h1) (ev_var (x := V.ref d) 0 rfl) (show valV (dkOf g c left turn) (.inr "left") = some (.int left) from rfl)) rfl)) (ev_var 1 (rm _ _)) p1) mF_j fun v3 H2 f s2 pf rf => ?_)
    cases (show v3 = V.int f from rf)
    refine wb_cons (ws_dput (d := d) hr ((ev_fdiv (m := mF M H1 hl1) (ev_asI (ev_dget (d := d) hr (fun H3 s3 => mF_ex (s2.trans s3) _ _ h1) (ev_var (x := V.ref d) 0 rfl) (show valV (dkOf g c left turn) (.inr "left") = some (.int left) from rfl)) rfl) (ev_var 1 (rm M H2)) (Sm.cdiv p1 p2)) H2 (Step.refl s2.j) _ fun v H3 y s3 py ry => (ev_var (m := mF M H1 hl1) (x := V.ref d) 0 rfl) H3 s3 _ fun w' H4 y2 s4 py2 ry2 => ?_))
    cases (show v = V.int y from ry)
    have e4 := mF_ex (s2.trans (s3.trans s4))
    refine ⟨_, (show w' = y2 from ry2).trans py2, e4 _ _ h1, (show 4 < 1000 by decide), ?_⟩
    have hput : putK (dkOf g c left turn) (.inr "left") (.int y) = dkOf g c y turn := rfl
    rw [hput]
    have kq : ∀ b o, b ≠ d → b ≠ g → H b = some o → upd H4 d (.dK (dkOf g c y turn)) b = some o := fun b o nb ng h => (upd_ne nb).trans (e4 b o (k1 b o nb ng h))
    have D5 : DrawAt (n + 1) (upd H4 d (.dK (dkOf g c y turn))) d g c := ⟨y, turn, gs, upd_same, (upd_ne hdg.symm).trans (e4 _ _ h2), h3, h4⟩
    have hl5 := draw_live hl kq D5
    refine wb_one (ws_ret (m := mF M (upd H4 d (.dK (dkOf g c y turn))) hl5) (ev_var (x := f) 2 rfl) mF_j fun v H6 z s6 pz rz => ?_)
    have e6 := mF_ex s6
    refine q v H6 z (fun b o nb ng h => e6 b o (kq b o nb ng h)) ?_ ?_ rz
    · obtain ⟨l', t', g', a1, a2, a3, a4⟩ := D5
      exact ⟨l', t', g', e6 _ _ a1, e6 _ _ a2, a3, a4⟩
    · have h5 := Int.emod_nonneg left (by omega : x.h ≠ 0)
      have h6 := Int.emod_lt_of_pos left p1
      rw [pz, pf]
      exact ⟨h5, h6⟩
  obtain ⟨left, turn, gs, h1, h2, h3, h4⟩ := id hD
  have hdg := ne_of h1 h2 (by nofun)
  refine wb_cons (ws_if (m := mF M H hl) (et_eqI (ev_asI (ev_dget (d := d) hr (fun H1 s1 => mF_ex s1 _ _ h1) (ev_var (x := V.ref d) 0 rfl) (show valV (dkOf g c left turn) (.inr "left") = some (.int left) from rfl)) rfl) (ev_int (i := 0))) mF_j (fun H1 s1 hk => ?_) fun H1 s1 hk => wb_nil ?_)
  · have ex1 := mF_ex s1
    have k1 : ∀ b o, H b = some o → H1 b = some o := ex1
    have g1 := ex1 _ _ h1
    have g2 := ex1 _ _ h2
    have hlg : ∀ b, (M b ∧ b ≠ g) → H1 b ≠ none := fun b hb => draw_live (c := c) hl (fun b o _ _ h => ex1 b o h) ⟨left, turn, gs, g1, g2, h3, h4⟩ b hb.1
    have rgs : rep K m0.M H1 (.ref g) gs := ⟨g, _, rfl, ⟨fun z => z.elim, g2⟩, ints_reps⟩
    have hroom : Room 1 (A.deeper (envOfC "_law_take" (defScope sTake) s.heap.objs.size F.f cdv)) := hr
    -- what is stored
    have store : ∀ {H2 : Hp} {l0 l2 t2 : Int} {gs2 : List Int}, (∀ b o, b ≠ d → b ≠ g → H b = some o → H2 b = some o) → H2 d = some (.dK (dkOf g c l0 t2)) → H2 g = some (.lst (gs2.map V.int)) → 0 ≤ t2 → t2 ≤ (n + 1 : Nat) → ∀ {pp : Pos},
        WE (bcx P w K mg base ["_law_draw", "_law_many", "_law_found"] "_law_take" sTake F.f cdv A outer s H E) (.Name "_law_draw" pp) [some (.ref d), some (.int x.h), none] H2 (fun w' H3 => ∃ kvs, w' = .ref d ∧ H3 d = some (.dK kvs) ∧ kvs.length < 1000 ∧
          WB (bcx P w K mg base ["_law_draw", "_law_many", "_law_found"] "_law_take" sTake F.f cdv A outer s H E) ((defBody sTake).drop 1) { nx := fun _ H' => Q .non H', rt := Q } [some (.ref d), some (.int x.h), none] (upd H3 d (.dK (putK kvs (.inr "left") (.int l2))))) := fun {H2 l0 l2 t2 gs2} k2 e1 e2 a1 a2 {pp} =>
      (ev_var (m := m0) (x := V.ref d) 0 rfl) H2 (Step.refl trivial) _ fun w' H3 y s3 py ry => by
        have ex3 : Ex H2 H3 := fun b o h => s3.keep b o (fun z => z.elim) h
        have hn' := ne_of e1 e2 (by nofun)
        refine ⟨_, (show w' = y from ry).trans py, ex3 _ _ e1, (show 4 < 1000 by decide), rest _ (fun b o nb ng h => (upd_ne nb).trans (ex3 b o (k2 b o nb ng h))) ⟨l2, t2, gs2, upd_same, (upd_ne hn'.symm).trans (ex3 _ _ e2), a1, a2⟩⟩
    refine wb_one (ws_dput (d := d) hr (we_of (pe_ifExp pt_w pe_w pe_w) ((et_neD (m := m0) (α := List Int) hr (ev_asR (α := List Int) (x := gs) (v := V.ref g) (ev_dget (d := d) hr (fun H2 s2 => s2.keep _ _ (fun z => z.elim) g1) (ev_var (x := V.ref d) 0 rfl) (show valV (dkOf g c left turn) (.inr "great") = some (.ref g) from rfl)) rgs) (ev_lst0 (α := Int))) H1 (Step.refl trivial) _ fun H2 s2 => ?_)))
    have ex2 : Ex H1 H2 := fun b o h => s2.keep b o (fun z => z.elim) h
    cases hgs : gs with
    | nil =>
      refine iteF ?_
      obtain ⟨f, fd, ps, o, hm, hkp, hb⟩ := c1.ex
      refine we_of (pe_call o hr rfl hm hkp hb .nil pass0 (pa_cons pe_w pa_nil rfl)) ((ev_var (m := m0) (x := V.ref d) 0 rfl) H2 (Step.refl trivial) _ fun v H3 y s3 py ry => ?_)
      have ex3 : Ex H2 H3 := fun b o h => s3.keep b o (fun z => z.elim) h
      have ev : v = .ref d := (show v = y from ry).trans py
      subst ev
      have exa : ∀ b o, H b = some o → H3 b = some o := fun b o h => ex3 b o (ex2 b o (ex1 b o h))
      refine ⟨M, d, g, c, cs, n, [], (), rfl, draw_live (c := c) hl (fun b o _ _ h => exa b o h) ⟨left, turn, gs, exa _ _ h1, exa _ _ h2, h3, h4⟩, hd, hg, ⟨left, turn, gs, exa _ _ h1, exa _ _ h2, h3, h4⟩, mono (fun b o _ h => exa b o h) rc, hn, rfl, trivial, fun u H4 z k4 D4 _ rz => ?_⟩
      obtain ⟨l4, t4, gs4, a1, a2, a3, a4⟩ := D4
      cases (show u = V.int z from rz)
      exact store (fun b o nb ng h => k4 b o nb ng (exa b o h)) a1 a2 a3 a4
    | cons g0 gr =>
      refine iteT ?_
      have hg3 := ex2 _ _ g2
      rw [hgs] at hg3
      refine we_of (pe_bm PySem.F.plainAttrs_list PySem.F.slot_list_pop PySem.F.type_list_pop mt_popAt (pe_dget (hu_of hr) pe_w pe_str (by intro _ _; rfl)) (pa_cons pe_int pa_nil rfl)) ((ev_var (m := m0) (x := V.ref d) 0 rfl) H2 (Step.refl trivial) _ fun v H3 y s3 py ry => ?_)
      have ex3 : Ex H2 H3 := fun b o h => s3.keep b o (fun z => z.elim) h
      have hg4 := ex3 _ _ hg3
      refine ⟨d, .ref g, (show v = y from ry).trans py, DGet.k (k := (.inr "great" : L2.Key)) (ex3 _ _ (ex2 _ _ g1)), .inl ⟨rfl, _, SqL.of hg4⟩, g, _, 0, 0, .int g0, rfl, rfl, hg4, by decide, by decide, ?_, rfl, ?_⟩
      · show seqIndex? 0 ((g0 :: gr).map V.int).length = some 0
        rw [List.length_map, List.length_cons]
        simp [seqIndex?]
      · have hH : H3 d = some (.dK (dkOf g c left turn)) := ex3 _ _ (ex2 _ _ g1)
        exact store (fun b o nb ng h => (upd_ne ng).trans (ex3 b o (ex2 b o (ex1 b o h)))) ((upd_ne hdg).trans hH) upd_same h3 (by omega)
  · have ex1 := mF_ex s1
    exact rest H1 (fun b o _ _ h => ex1 b o h) ⟨left, turn, gs, ex1 _ _ h1, ex1 _ _ h2, h3, by omega⟩
end
end HK
set_option Elab.async false
set_option linter.all false
set_option maxRecDepth 100000
/-! F16: expressions that draw. -/
namespace HK
open PySem PySem.Spec PyProof.Rows L2 LamX
open Rep Arg
/-- the family's n-th mode: at most n turns of the draw at d -/
structure IsDraw (F : Fam) (d g c : Addr) : Prop where
  md : F.M d
  mg : F.M g
  at_ : ∀ n H, F.J n H → DrawAt n H d g c
  back : ∀ n n' H H', F.J n H → (∀ b o, b ≠ d → b ≠ g → H b = some o → H' b = some o) → DrawAt n' H' d g c → F.J n' H'
theorem IsDraw.up {F : Fam} {d g c : Addr} (h : IsDraw F d g c) {n k : Nat} {H : Hp} (j : F.J n H) (hk : n ≤ k) : F.J k H := h.back n k H H j (fun _ _ _ _ h => h) ((h.at_ n H j).up hk)
theorem DrawAt.ex {n : Nat} {H H' : Hp} {d g c : Addr} (e : Ex H H') (h : DrawAt n H d g c) : DrawAt n H' d g c := by
  obtain ⟨left, turn, gs, h1, h2, h3, h4⟩ := h
  exact ⟨left, turn, gs, e _ _ h1, e _ _ h2, h3, h4⟩
theorem DrawAt.live {n : Nat} {H : Hp} {d g c a : Addr} (h : DrawAt n H d g c) (e : a = d ∨ a = g) : H a ≠ none := fun z => by
  obtain ⟨left, turn, gs, h1, h2, _⟩ := h
  rcases e with e | e
  · rw [e, h1] at z; cases z
  · rw [e, h2] at z; cases z
theorem DrawAt.lst {n : Nat} {H : Hp} {d g c a : Addr} {ws : List V} (h : DrawAt n H d g c) (e1 : a ≠ d) (e2 : a ≠ g) : DrawAt n (upd H a (.lst ws)) d g c := by
  obtain ⟨left, turn, gs, h1, h2, h3, h4⟩ := h
  exact ⟨left, turn, gs, (upd_ne e1.symm).trans h1, (upd_ne e2.symm).trans h2, h3, h4⟩
def famD (M : Addr → Prop) (H0 : Hp) (hl : ∀ b, M b → H0 b ≠ none) (d g c : Addr) (hd : M d) (hg : M g) : Fam := ⟨M, fun n H => DrawAt n H d g c ∧ ∀ b o, M b → b ≠ d → b ≠ g → H0 b = some o → H b = some o,
  fun n {H H'} e ⟨D, k⟩ => ⟨D.ex e, fun b o m n1 n2 h => e b o (k b o m n1 n2 h)⟩, fun n {H a} ⟨D, k⟩ m z => by
    by_cases e1 : a = d
    · exact D.live (.inl e1) z
    · by_cases e2 : a = g
      · exact D.live (.inr e2) z
      · cases h : H0 a with
        | none => exact hl a m h
        | some o =>
          rw [k a o m e1 e2 h] at z
          exact (nomatch z), fun n {H a vs ws} na ha ⟨D, k⟩ => ⟨D.lst (fun e => na (by rw [e]; exact hd)) (fun e => na (by rw [e]; exact hg)), fun b o m n1 n2 h => by
    have nb : b ≠ a := fun e => na (by rw [← e]; exact m)
    exact (upd_ne nb).trans (k b o m n1 n2 h)⟩⟩
theorem famD_is {M : Addr → Prop} {H0 : Hp} {hl : ∀ b, M b → H0 b ≠ none} {d g c : Addr} {hd : M d} {hg : M g} : IsDraw (famD M H0 hl d g c hd hg) d g c :=
  ⟨hd, hg, fun n H j => j.1, fun n n' H H' j k D => ⟨D, fun b o m n1 n2 h => k b o n1 n2 (j.2 b o m n1 n2 h)⟩⟩
/-- arguments, from mode to mode -/
def EvL2 (X : Cx) (F : Fam) (n n' : Nat) (es : List Expr) (σ : L2.St) (H : Hp) {τ : Type} [Arg τ] (P : τ → Prop) : Prop :=
  ∀ H1, Step (F.at n) H H1 → ∀ Q : List V → Hp → Prop, (∀ vs H2 x, Kp F.M H1 H2 → F.J n' H2 → P x → rp X.K F.M H2 vs x → Q vs H2) → WA X es σ H1 Q
section
variable {X : Cx} {F : Fam} {n n' n1 n2 j k : Nat} {σ : L2.St} {H : Hp} {D : Ends} {a b c e iter : Expr} {es : List Expr} {body orelse : List Stmt} {pos p p2 px : Pos} {xn : Str} {α β γ τ : Type} [Rep α] [Rep β] [Rep γ] [Arg τ]
theorem el2_nil : EvL2 X F n n [] σ H (fun _ : Unit => True) := fun H1 s1 Q q => wa_of pa_nil (q [] H1 () .refl s1.j trivial rfl)
theorem el2_cons {Pa : α → Prop} {Pt : τ → Prop} (ha : Ev2 X F n n1 e σ H Pa) (hr : ∀ H', Kp F.M H H' → F.J n1 H' → EvL2 X F n1 n2 es σ H' Pt) (hs : NS e := by exact fun _ _ => rfl) : EvL2 X F n n2 (e :: es) σ H (fun x : A α τ => Pa x.h ∧ Pt x.t) := fun H1 s1 Q q =>
  wa_of (pa_cons pe_w pa_w (hs _ _)) (ha H1 s1 _ fun v H2 z k2 j2 pz rz => hr H2 (Kp.trans s1.keep k2) j2 H2 (Step.refl j2) _ fun ws H3 t k3 j3 pt rs => q _ H3 ⟨z, t⟩ (Kp.trans k2 k3) j3 ⟨pz, pt⟩ ⟨v, ws, rfl, mono k3 rz, rs⟩)
theorem el2_of {x : τ} (h : EvL X (F.at n) es σ H x) : EvL2 X F n n es σ H (fun y => y = x) := fun H1 s1 Q q => h H1 s1 Q fun vs H2 s2 rs => q vs H2 x s2.keep s2.j rfl rs
/-- a def that draws -/
theorem ev2_draw {d g c : Addr} {cs : List Int} {lvl : Nat} {nm dn : Str} {p1 : Pos} {pre : τ → Prop} {post : τ → β → Prop} {Pa : τ → Prop} (i : Nat) (hD : IsDraw F d g c) (c1 : CalD X.prog X.w X.K X.mg X.base lvl nm k pre post) (hr : Room j X.A) (rc : rep X.K F.M H (.ref c) cs) (hn : n1 + k ≤ 1000000) (ha : EvL2 X F n n1 es σ H Pa) (hp : ∀ x, Pa x → pre x)
    (hk : lvl ≤ j := by decide) (hs : σ[i]? = some (some (.ref d)) := by rfl) (hN : X.N[i]? = some dn := by rfl) (hv : Vis X.env.scope dn := by first | exact Or.inl rfl | exact Or.inr (Or.inl rfl) | exact Or.inr (Or.inr rfl)) (hd : (dn == ("__debug__" : Str)) = false := by decide) (hcd : (dn == ("__classdict__" : Str)) = false := by decide)
    (hg : Gl X nm := by rfl) (hdb : (nm == ("__debug__" : Str)) = false := by decide) (hpl : (backTo pos (starEach es X.env)).any (·.1) = false := by rfl) : Ev2 X F n (n1 + k) (.Call (.Name nm p) (.Name dn p1 :: es) [] pos) σ H (fun z : β => ∃ x, Pa x ∧ post x z) := fun H1 s1 Q q => by
  obtain ⟨f, fd, ps, o, hm, hkp, hb⟩ := c1.ex
  refine we_of (pe_call o (hr.mono hk) hg hm hkp hb .nil pass0 (pa_cons pe_w pa_w rfl) hdb rfl hpl) ((ev_var (m := F.at n) (x := V.ref d) i rfl hs hN hv hd hcd) H1 s1 _ fun v H2 y s2 py ry => ?_)
  have ev : v = .ref d := (show v = y from ry).trans py
  subst ev
  refine ha H2 (s1.trans s2) _ fun ws H3 x k3 j3 px rx => ?_
  show spD X.K k pre post ((V.ref d :: ws) ++ []) H3 Q E0
  rw [List.append_nil]
  refine ⟨F.M, d, g, c, cs, n1, ws, x, rfl, fun b hb => F.live _ j3 hb, hD.md, hD.mg, hD.at_ _ _ j3, mono (Kp.trans s1.keep (Kp.trans s2.keep k3)) rc, hn, rx, hp x px, fun u H4 z k4 D4 pz rz => q u H4 z (Kp.trans s2.keep (Kp.trans k3 fun b o nb h => k4 b o (fun e => nb (by rw [e]; exact hD.md)) (fun e => nb (by rw [e]; exact hD.mg)) h)) (hD.back _ _ _ _ j3 k4 D4) ⟨x, px, pz⟩ rz⟩
/-- a def that changes nothing, its arguments drawn -/
theorem ev2_callP {lvl : Nat} {nm : Str} {pre : τ → Prop} {post : τ → β → Prop} {Pa : τ → Prop} (c1 : CalP X.prog X.w X.K X.mg X.base lvl nm pre post) (hr : Room j X.A) (ha : EvL2 X F n n1 (e :: es) σ H Pa) (hp : ∀ x, Pa x → pre x)
    (hk : lvl ≤ j := by decide) (hg : Gl X nm := by rfl) (hdb : (nm == ("__debug__" : Str)) = false := by decide) (he : starEach (e :: es) X.env = (false, eval e X.env) :: starEach es X.env := by rfl) (hpl : (backTo pos (starEach es X.env)).any (·.1) = false := by rfl) : Ev2 X F n n1 (.Call (.Name nm p) (e :: es) [] pos) σ H (fun z : β => ∃ x, Pa x ∧ post x z) := fun H1 s1 Q q => by
  obtain ⟨f, fd, ps, o, hm, hkp, hb⟩ := c1.ex
  refine we_of (pe_call o (hr.mono hk) hg hm hkp hb .nil pass0 pa_w hdb he hpl) (ha H1 s1 _ fun ws H3 x k3 j3 px rx => ?_)
  show spP X.K pre post (ws ++ []) H3 Q E0
  rw [List.append_nil]
  exact ⟨F.M, x, fun b hb => F.live _ j3 hb, rx, hp x px, fun u H4 z ex pz rz => q u H4 z (Kp.trans k3 fun b o _ h => ex b o h) (F.ex _ ex j3) ⟨x, px, pz⟩ rz⟩
/-- two-place operations of ints, either side drawn -/
theorem ev2_opI0 {op : Operator} {g : Int → Int → Int} {Pa Pb : Int → Prop} (ho : OpR X (binaryOp op) (rI0 fun i j => .int (g i j))) (ha : Ev2 X F n n1 a σ H Pa) (hb : ∀ H', Kp F.M H H' → F.J n1 H' → Ev2 X F n1 n2 b σ H' Pb) : Ev2 X F n n2 (.BinOp a op b pos) σ H (fun z => ∃ x y, Pa x ∧ Pb y ∧ z = g x y) := fun H1 s1 Q q =>
  we_of (pe_op ho pe_w pe_w) (ha H1 s1 _ fun v H2 x k2 j2 px rx => hb H2 (Kp.trans s1.keep k2) j2 H2 (Step.refl j2) _ fun w H3 y k3 j3 py ry => by
    cases rx
    cases ry
    exact ⟨x, y, rfl, rfl, q _ H3 _ (Kp.trans k2 k3) j3 ⟨x, y, px, py, rfl⟩ rfl⟩)
/-- a pair, both drawn -/
theorem ev2_pair {k0 : Nat} {Pa : α → Prop} {Pb : β → Prop} (ha : Ev2 X F n n1 a σ H Pa) (hb : ∀ H', Kp F.M H H' → F.J n1 H' → Ev2 X F n1 n2 b σ H' Pb) (na : NS a := by exact fun _ _ => rfl) (nb : NS b := by exact fun _ _ => rfl) : Ev2 X F n n2 (.Tuple [a, b] k0 pos) σ H (fun z : α × β => Pa z.1 ∧ Pb z.2) := fun H1 s1 Q q =>
  we_of (pe_tup (pa_cons pe_w (pa_cons pe_w pa_nil (nb _ _)) (na _ _))) (ha H1 s1 _ fun v H2 x k2 j2 px rx => hb H2 (Kp.trans s1.keep k2) j2 H2 (Step.refl j2) _ fun w H3 y k3 j3 py ry => ⟨two_le, fun p hp => by
    have ex : Ex H3 (upd H3 p (.tup [v, w])) := Ex.new hp
    exact q _ _ (x, y) (Kp.trans k2 (Kp.trans k3 fun b o _ h => ex b o h)) (F.ex _ ex j3) ⟨px, py⟩ ⟨p, v, w, rfl, .inl ⟨fun z => F.live _ j3 z hp, upd_same⟩, mono (fun b o _ h => ex b o h) (mono k3 rx), mono (fun b o _ h => ex b o h) ry⟩⟩)
/-- a list at an index that is drawn -/
theorem ev2_ixLP {xs : List α} {Pb : Int → Prop} {P : α → Prop} (ha : EvD X (F.at n) a σ H xs) (hb : Ev2 X F n n1 b σ H Pb) (h : ∀ i, Pb i → ∃ x, atI xs i = some x ∧ P x) (hs : PlainIx b := by exact fun _ _ => rfl) : Ev2 X F n n1 (.Subscript a b pos) σ H P := fun H1 s1 Q q =>
  we_of (pe_ix ix_list pe_w pe_w hs) (ha H1 s1 _ fun v H2 x' s2 px rx => hb H2 (s1.trans s2) _ fun w H3 i k3 j3 pi ri => by
    subst px
    cases (show w = V.int i from ri)
    obtain ⟨p, vs, e, t, rs⟩ := mono k3 rx
    subst e
    obtain ⟨x, hx, px⟩ := h i pi
    obtain ⟨u, hu, ru⟩ := reps_atI rs hx
    exact ⟨p, vs, i, u, rfl, rfl, t.sq, hu, q u H3 x (Kp.trans s2.keep k3) j3 px ru⟩)
theorem ws2_ret {P : α → Prop} (he : Ev2 X F n n' e σ H P) (j : F.J n H) (k : ∀ v H' z, Kp F.M H H' → F.J n' H' → P z → rep X.K F.M H' v z → D.rt v H') : WS X (.Return (some e) pos) D σ H := ws_of (ps_ret pe_w) (he H (Step.refl j) _ k)
theorem ws2_par (i j : Nat) {x y : Str} {px py pt : Pos} {kt k2 pt2} {Pa : α → Prop} {Pb : β → Prop} (ha : Ev2 X F n n1 a σ H Pa) (hb : ∀ H', Kp F.M H H' → F.J n1 H' → Ev2 X F n1 n2 b σ H' Pb) (jh : F.J n H) (k : ∀ v w H' z u, Kp F.M H H' → F.J n2 H' → Pa z → Pb u → rep X.K F.M H' v z → rep X.K F.M H' w u → D.nx ((σ.set i (some v)).set j (some w)) H')
    (hN : X.N.Nodup := by first | assumption | exact FnScope.nd (by assumption)) (hc : X.calm = true := by rfl) (hi : X.N[i]? = some x := by rfl) (hj : X.N[j]? = some y := by rfl) (hij : i ≠ j := by decide) (hx : X.env.scope.names.lookup x = some .local := by rfl) (hy : X.env.scope.names.lookup y = some .local := by rfl)
    (hw : swappedStores [.Tuple [.Name x px, .Name y py] kt pt] (.Tuple [a, b] k2 pt2) X.env = pure (some [x, y]) := by rfl)
    (hs : swapsWithSole [.Tuple [.Name x px, .Name y py] kt pt] (.Tuple [a, b] k2 pt2) pos.line X.env = pure false := by rfl) (na : NS a := by exact fun _ _ => rfl) (nb : NS b := by exact fun _ _ => rfl) :
    WS X (.Assign [.Tuple [.Name x px, .Name y py] kt pt] (.Tuple [a, b] k2 pt2) pos) D σ H :=
  ws_of (ps_par hc hN hi hj hij hx hy (pa_cons pe_w (pa_cons pe_w pa_nil (nb _ _)) (na _ _)) hw hs) (ha H (Step.refl jh) _ fun v H2 z k2 j2 pz rz => hb H2 k2 j2 H2 (Step.refl j2) _ fun w H3 u k3 j3 pu ru => ⟨v, w, rfl, k v w H3 z u (Kp.trans k2 k3) j3 pz pu (mono k3 rz) ru⟩)
theorem ws2_unp2 (i j : Nat) {x y : Str} {px py pt : Pos} {kt} {P : α × β → Prop} (he : Ev2 X F n n' e σ H P) (jh : F.J n H) (k : ∀ v w H' z, Kp F.M H H' → F.J n' H' → P z → rep X.K F.M H' v z.1 → rep X.K F.M H' w z.2 → D.nx ((σ.set i (some v)).set j (some w)) H')
    (hN : X.N.Nodup := by first | assumption | exact FnScope.nd (by assumption)) (hc : X.calm = true := by rfl) (hi : X.N[i]? = some x := by rfl) (hj : X.N[j]? = some y := by rfl) (hx : Loc X.env.scope x := by first | exact Or.inl rfl | exact Or.inr rfl) (hy : Loc X.env.scope y := by first | exact Or.inl rfl | exact Or.inr rfl)
    (fx : X.fn x = true ∨ X.env.scope.names.lookup x = some .local := by first | exact .inl rfl | exact .inr rfl) (fy : X.fn y = true ∨ X.env.scope.names.lookup y = some .local := by first | exact .inl rfl | exact .inr rfl)
    (hs : swapsWithSole [.Tuple [.Name x px, .Name y py] kt pt] e pos.line X.env = pure false := by rfl) (hw : swappedStores [.Tuple [.Name x px, .Name y py] kt pt] e X.env = pure none := by rfl) : WS X (.Assign [.Tuple [.Name x px, .Name y py] kt pt] e pos) D σ H :=
  ws_of (ps_asg pe_w (pg_tup hc (pgs_cons (pg_name hN hi hx fx) (pgs_cons (pg_name hN hj hy fy) pgs_nil))) hs hw) (he H (Step.refl jh) _ fun v H2 z k2 j2 pz ⟨p, v1, v2, e, t, r1, r2⟩ => ⟨p, [v1, v2], e, t.sq, rfl, v1, [v2], rfl, v2, [], rfl, rfl, k v1 v2 H2 z k2 j2 pz r1 r2⟩)
end
section
variable {P : Program} {w : World} {K : PySem.W.Frag} {mg : Str → Option Value} {base : Heap} {nm : Str} {st : Stmt} {ps N : List Str} {j k : Nat}
theorem fn_okD {τ β : Type} [Arg τ] [Rep β] {pre : τ → Prop} {post : τ → β → Prop} (F0 : FnX K mg nm st ps) (S : FnScope N ps (defScope st)) (len : ∀ (K : PySem.W.Frag) (M : Addr → Prop) H vs (x : τ), rp K M H vs x → vs.length + 1 = ps.length)
    (body : ∀ (cdv : Value) (A : Around) (outer : List Env) (s : Shared) (H : Hp) (E : XK) (F : Fam) (d g c : Addr) (cs : List Int) (n : Nat) (ws : List V) (x : τ) (Q : VK), Room j (A.deeper (envOfC nm (defScope st) s.heap.objs.size F0.f cdv)) → IsDraw F d g c → F.J n H → rep K F.M H (.ref c) cs → n + k ≤ 1000000 → rp K F.M H ws x → pre x →
      (∀ u H' z, Kp F.M H H' → F.J (n + k) H' → post x z → rep K F.M H' u z → Q u H') → WB (bcx P w K mg base N nm st F0.f cdv A outer s H E) (defBody st) { nx := fun _ H' => Q .non H', rt := Q } (L2.start N (.ref d :: ws)) H) : FnOk P w K mg base CX0 (j + 1) F0.f F0.fd ps (spD K k pre post) :=
  fn_ok F0 S (fun vs H Q E ⟨M, d, g, c, cs, n, ws, x, e, _, _, _, _, _, _, r, _⟩ => by rw [e, List.length_cons]; exact len K M H ws x r) fun cdv A outer s H vs Q E hr ⟨M, d, g, c, cs, n, ws, x, e, hl, hd, hg, hD, rc, hn, r, hp, q⟩ => by
    subst e
    exact body cdv A outer s H E (famD M H hl d g c hd hg) d g c cs n ws x Q hr famD_is ⟨hD, fun _ _ _ _ _ h => h⟩ rc hn r hp fun u H' z kp j' pz rz => q u H' z (fun b o nd ng h => by
      by_cases hm : M b
      · exact j'.2 b o hm nd ng h
      · exact kp b o hm h) j'.1 pz rz
end
end HK
set_option Elab.async false
set_option linter.all false
set_option maxRecDepth 100000
set_option maxHeartbeats 4000000
/-! F17: pick, peak, spot, two spots, pair. -/
namespace HK
open PySem PySem.Spec PyProof.Rows L2 LamX
open Rep Arg
abbrev sPick : Stmt := topS 22
abbrev sSpot : Stmt := topS 30
abbrev sTwoSpots : Stmt := topS 31
abbrev sPair : Stmt := topS 32
abbrev sPeak : Stmt := topS 39
theorem scPick : FnScope ["_law_draw", "_law_some"] ["_law_draw", "_law_some"] (defScope sPick) := ⟨rfl, rfl, rfl, by decide +kernel, rfl, by decide +kernel, by decide +kernel⟩
abbrev nSpot : List Str := ["_law_draw", "_law_way", "_law_one", "_law_two"]
theorem scSpot : FnScope nSpot ["_law_draw"] (defScope sSpot) := ⟨rfl, rfl, rfl, by decide +kernel, rfl, by decide +kernel, by decide +kernel⟩
theorem scTwoSpots : FnScope ["_law_draw", "_law_one", "_law_two"] ["_law_draw"] (defScope sTwoSpots) := ⟨rfl, rfl, rfl, by decide +kernel, rfl, by decide +kernel, by decide +kernel⟩
theorem scPair : FnScope ["_law_draw", "_law_peak_here"] ["_law_draw", "_law_peak_here"] (defScope sPair) := ⟨rfl, rfl, rfl, by decide +kernel, rfl, by decide +kernel, by decide +kernel⟩
theorem scPeak : FnScope ["_law_draw"] ["_law_draw"] (defScope sPeak) := ⟨rfl, rfl, rfl, by decide +kernel, rfl, by decide +kernel, by decide +kernel⟩
/-- a price as the law draws it -/
def goodP (t : P2) : Prop := isPriceB t = true ∧ Sm2 40 t
def inPeak (peak : Int) (c : P2) : Prop := iabs c.1 ≤ peak ∧ iabs c.2 ≤ peak
theorem gcd_leastT {p q : Int} (h0 : 0 ≤ p) (h1 : 0 ≤ q) (h : ¬ (p = 0 ∧ q = 0)) : isPriceB (leastT p q) = true := by
  have g0 := gcdI_pos h
  unfold isPriceB leastT
  simp only [Bool.and_eq_true, decide_eq_true_eq]
  refine ⟨Int.ediv_nonneg h0 (by omega), Int.ediv_nonneg h1 (by omega), ?_⟩
  obtain ⟨x, rfl⟩ : ∃ x : Nat, p = x := ⟨p.toNat, by omega⟩
  obtain ⟨y, rfl⟩ : ∃ y : Nat, q = y := ⟨q.toNat, by omega⟩
  unfold gcdI at *
  simp only [Int.natAbs_natCast] at *
  rw [← Int.natCast_ediv, ← Int.natCast_ediv]
  simp only [Int.natAbs_natCast]
  have hp : 0 < Nat.gcd x y := by omega
  rw [Nat.gcd_div (Nat.gcd_dvd_left x y) (Nat.gcd_dvd_right x y), Nat.div_self hp]
  rfl
/-- two prices on one ray are the same -/
theorem price_eq {a b : P2} (ha : isPriceB a = true) (hb : isPriceB b = true) (h : a.1 * b.2 = b.1 * a.2) : a = b := by
  unfold isPriceB at ha hb
  simp only [Bool.and_eq_true, decide_eq_true_eq] at ha hb
  obtain ⟨a0, a1, a2⟩ := ha
  obtain ⟨b0, b1, b2⟩ := hb
  obtain ⟨x, y⟩ := a
  obtain ⟨z, t⟩ := b
  simp only at *
  obtain ⟨x, rfl⟩ : ∃ n : Nat, x = n := ⟨x.toNat, by omega⟩
  obtain ⟨y, rfl⟩ : ∃ n : Nat, y = n := ⟨y.toNat, by omega⟩
  obtain ⟨z, rfl⟩ : ∃ n : Nat, z = n := ⟨z.toNat, by omega⟩
  obtain ⟨t, rfl⟩ : ∃ n : Nat, t = n := ⟨t.toNat, by omega⟩
  unfold gcdI at a2 b2
  simp only [Int.natAbs_natCast] at a2 b2
  have c1 : Nat.gcd x y = 1 := by omega
  have c2 : Nat.gcd z t = 1 := by omega
  have e : x * t = z * y := by
    have := h
    rw [← Int.natCast_mul, ← Int.natCast_mul] at this
    exact Int.ofNat.inj this
  have d1 : x ∣ z := by
    have : x ∣ z * y := ⟨t, e.symm⟩
    exact (Nat.Coprime.dvd_of_dvd_mul_right c1 this)
  have d2 : z ∣ x := by
    have : z ∣ x * t := ⟨y, e⟩
    exact (Nat.Coprime.dvd_of_dvd_mul_right c2 this)
  have e1 : x = z := Nat.dvd_antisymm d1 d2
  have d3 : y ∣ t := by
    have : y ∣ t * x := ⟨z, by rw [Nat.mul_comm t x, e, Nat.mul_comm]⟩
    exact (Nat.Coprime.dvd_of_dvd_mul_right (by rw [Nat.Coprime, Nat.gcd_comm]; exact c1) this)
  have d4 : t ∣ y := by
    have : t ∣ y * z := ⟨x, by rw [Nat.mul_comm y z, ← e, Nat.mul_comm]⟩
    exact (Nat.Coprime.dvd_of_dvd_mul_right (by rw [Nat.Coprime, Nat.gcd_comm]; exact c2) this)
  rw [e1, Nat.dvd_antisymm d3 d4]
theorem sm_small {x : Int} (h0 : 0 ≤ x) (h1 : x < 2 ^ 60) : Sm 9000 x := by
  have h : Sm 60 x := by
    unfold Sm
    omega
  exact h.mono (by omega)
section
variable (P : Program) (w : World) (K : PySem.W.Frag) (mg : Str → Option Value) (base : Heap)
abbrev DPick (α : Type) [Rep α] := CalD P w K mg base 3 "_law_pick" 1 (fun x : A1 (List α) => x.h ≠ [] ∧ x.h.length ≤ 1000) (fun x (z : α) => z ∈ x.h)
abbrev DPeak := CalD P w K mg base 4 "_law_peak" 1 (fun _ : Unit => True) (fun _ (z : Int) => 1 ≤ z ∧ z ≤ 99999999999)
abbrev DSpot := CalD P w K mg base 3 "_law_spot" 5 (fun _ : Unit => True) (fun _ (z : P2) => goodP z)
abbrev DTwoSpots := CalD P w K mg base 4 "_law_two_spots" 10 (fun _ : Unit => True) (fun _ (z : Str2) => goodP z.1 ∧ goodP z.2 ∧ leadsB z.1 z.2 = true)
abbrev DPair := CalD P w K mg base 3 "_law_pair" 2 (fun x : A1 Int => 0 ≤ x.h ∧ Sm 38 x.h) (fun x (z : P2) => inPeak x.h z)
end
section
variable {X : Cx} {F : Fam} {n j : Nat} {σ : L2.St} {H : Hp} {a b e : Expr} {pos p : Pos}
theorem ev2_take {d g c : Addr} {cs : List Int} {dn : Str} {p1 : Pos} {u : Int} (i : Nat) (hD : IsDraw F d g c) (c1 : DTake X.prog X.w X.K X.mg X.base) (hr : Room j X.A) (rc : rep X.K F.M H (.ref c) cs) (ha : EvD X (F.at n) e σ H u) (h1 : 0 < u ∧ Sm 9000 u) (hn : n + 1 ≤ 1000000)
    (hk : 2 ≤ j := by decide) (hs : σ[i]? = some (some (.ref d)) := by rfl) (hN : X.N[i]? = some dn := by rfl) (hv : Vis X.env.scope dn := by first | exact Or.inl rfl | exact Or.inr (Or.inl rfl) | exact Or.inr (Or.inr rfl)) (hd : (dn == ("__debug__" : Str)) = false := by decide) (hcd : (dn == ("__classdict__" : Str)) = false := by decide)
    (hg : Gl X "_law_take" := by rfl) (na : NS e := by exact fun _ _ => rfl) (hpl : (backTo pos (starEach [e] X.env)).any (·.1) = false := by rfl) : Ev2 X F n (n + 1) (.Call (.Name "_law_take" p) [.Name dn p1, e] [] pos) σ H (fun z : Int => 0 ≤ z ∧ z < u) :=
  (ev2_draw (τ := A1 Int) i hD c1 hr rc hn (el2_of (el1 ha na)) (fun x hx => by rw [hx]; exact h1) hk hs hN hv hd hcd hg (by decide) hpl).imp fun z ⟨x, hx, h⟩ => by rw [hx] at h; exact h
end
section
variable {P : Program} {w : World} {K : PySem.W.Frag} {mg : Str → Option Value} {base : Heap}
theorem ok_pick {α : Type} [Rep α] (C : Consts K mg) (c1 : DTake P w K mg base) (F0 : FnX K mg "_law_pick" sPick ["_law_draw", "_law_some"]) : DPick P w K mg base α := .of F0 <| by
  have S := scPick
  refine fn_okD F0 S (fun K M H vs x r => by rw [rl1 x r]; rfl) fun cdv Ar outer s H E F d g c cs n ws x Q hr hD j rc hn r ⟨h1, h2⟩ q => ?_
  obtain ⟨v2, rfl, r2⟩ := rp1 r
  have hl : 0 < x.h.length := List.length_pos_iff.mpr h1
  refine wb_one (ws2_ret (ev2_ixLP (ev_var 1 r2) (ev2_take 0 hD c1 hr rc (ev_len (C.none _ (by decide)) (ev_var 1 r2)) ⟨by omega, sm_small (by omega) (by omega)⟩ hn) fun i ⟨i0, i1⟩ => ?_) j fun v H' z kp j' pz rz => q v H' z kp j' pz rz)
  rw [atI_pos i0]
  have hi : i.toNat < x.h.length := by omega
  exact ⟨x.h[i.toNat], List.getElem?_eq_getElem hi, List.getElem_mem hi⟩
theorem ok_peak (c1 : DPick P w K mg base Int) (F0 : FnX K mg "_law_peak" sPeak ["_law_draw"]) : DPeak P w K mg base := .of F0 <| by
  have S := scPeak
  refine fn_okD F0 S (fun K M H vs x r => by rw [show vs = [] from r]; rfl) fun cdv Ar outer s H E F d g c cs n ws x Q hr hD j rc hn r _ q => ?_
  cases (show ws = [] from r)
  generalize hL : [1, 2, 3, 3, 9, (10 : Int) ^ (11 : Int).toNat - 1] = L
  have hLl : L.length = 6 := by rw [← hL]; rfl
  refine wb_one (ws2_ret (ev2_draw (τ := A1 (List Int)) (β := Int) (Pa := fun x => x = (A.mk L () : A1 (List Int))) 0 hD c1 hr rc hn (el2_of (el1 ?li)) (fun x hx => by rw [hx]; exact ⟨fun e => by rw [show L = [] from e] at hLl; simp at hLl, by show L.length ≤ 1000; omega⟩)) j fun v H' z kp j' pz rz => q v H' z kp j' ?_ rz)
  case li =>
    refine ev_lstL (el_cons (ev_int (i := 1)) (el_cons (ev_int (i := 2)) (el4 (ev_int (i := 3)) (ev_int (i := 3)) (ev_int (i := 9)) (ev_sub (ev_pow (ev_int (i := 10)) (ev_int (i := 11)) ⟨by decide, by decide, by decide⟩) (ev_int (i := 1)))))) ?_
    intro H1 vs ⟨v1, w1, e1, r1, v2, w2, e2, r2, r3⟩
    obtain ⟨v3, v4, v5, v6, e3, q3, q4, q5, q6⟩ := rp4 r3
    subst e3
    subst e2
    subst e1
    refine ⟨show (6 : Nat) ≤ sizeLine by decide, ?_⟩
    rw [← hL]
    exact .cons r1 (.cons r2 (.cons q3 (.cons q4 (.cons q5 (.cons q6 .nil)))))
  · obtain ⟨x, hx, hz⟩ := pz
    rw [hx] at hz
    have hz : z ∈ L := hz
    have e : (10 : Int) ^ (11 : Int).toNat - 1 = 99999999999 := by decide
    rw [← hL, e] at hz
    simp at hz
    omega
theorem ok_spot (C : Consts K mg) (c1 : DTake P w K mg base) (c2 : CTerms P w K mg base) (F0 : FnX K mg "_law_spot" sSpot ["_law_draw"]) : DSpot P w K mg base := .of F0 <| by
  have S := scSpot
  refine fn_okD F0 S (fun K M H vs x r => by rw [show vs = [] from r]; rfl) fun cdv Ar outer s H E F d g c cs n ws x Q hr hD j rc hn r _ q => ?_
  cases (show ws = [] from r)
  refine wb_cons (ws2_set 1 (ev2_take 0 hD c1 hr rc (ev_int (i := 8)) ⟨by decide, sm_small (by decide) (by decide)⟩ (by omega)) j fun v1 H1 wy k1 j1 pw r1 => ?_)
  refine wb_cons (ws_if (m := F.at (n + 1)) (et_lt (ev_var 1 r1) (ev_int (i := 2))) j1 (fun H2 s2 hk => ?_) fun H2 s2 hk => wb_nil ?_)
  · have hw := of_decide_eq_true hk
    have hor : wy = 0 ∨ wy = 1 := by omega
    have hat : ∃ z : P2, atI [((1, 0) : P2), (0, 1)] wy = some z ∧ goodP z := by
      rcases hor with e | e
      · subst e; exact ⟨(1, 0), rfl, by decide, by decide⟩
      · subst e; exact ⟨(0, 1), rfl, by decide, by decide⟩
    obtain ⟨z, hz, gz⟩ := hat
    refine wb_one (ws_ret (m := F.at (n + 1)) (ev_ixL (ev_lst2 (ev_pair (ev_int (i := 1)) (ev_int (i := 0))) (ev_pair (ev_int (i := 0)) (ev_int (i := 1)))) (ev_var 1 (s2.rep r1)) hz) s2.j fun v H3 y s3 py ry => q v H3 y (Kp.trans k1 (Kp.trans s2.keep s3.keep)) (hD.up s3.j (by omega)) (by rw [py]; exact gz) ry)
  have k2 : Kp F.M H H2 := Kp.trans k1 s2.keep
  -- the end, from any two numbers
  have fin : ∀ (D' : Ends) (H5 : Hp) (one two : Int), D'.rt = Q → Kp F.M H H5 → F.J (n + 5) H5 → 0 ≤ one → 0 ≤ two → Sm 38 one → Sm 38 two → WB (bcx P w K mg base nSpot "_law_spot" sSpot F0.f cdv Ar outer s H E) ((defBody sSpot).drop 4) D' [some (.ref d), some v1, some (.int one), some (.int two)] H5 := fun D' H5 one two hD' k5 j5 h1 h2 s1 s2' => by
    show WB _ [_] _ _ _
    refine wb_one (ws_ret (m := F.at (n + 5)) (P := fun z => goodP z) (ev_if (et_eqI (ev_add (ev_var (x := one) 2 rfl) (ev_var (x := two) 3 rfl)) (ev_int (i := 0))) (fun hk => (ev_pair (ev_int (i := 1)) (ev_int (i := 1))).imp fun z hz => by rw [hz]; exact ⟨by decide, by decide⟩) fun hk => (e_terms c2 hr (ev_var (x := one) 2 rfl) (ev_var (x := two) 3 rfl) ⟨h1, h2, s1.mono (by omega), s2'.mono (by omega), ?_⟩).imp fun z hz => ?_) j5 fun v H6 z s6 pz rz => ?_)
    · have := of_decide_eq_false hk
      omega
    · have := of_decide_eq_false hk
      rw [hz]
      exact ⟨gcd_leastT h1 h2 (by omega), leastT_sm (s1.mono (by omega)) (s2'.mono (by omega)) (by omega)⟩
    · rw [hD']
      exact q v H6 z (Kp.trans k5 s6.keep) s6.j pz rz
  refine wb_cons (ws2_par 2 3 (ev2_take 0 hD c1 hr (mono k2 rc) (ev_int (i := 6)) ⟨by decide, sm_small (by decide) (by decide)⟩ (by omega)) (fun H' k' j' => ev2_take 0 hD c1 hr (mono (Kp.trans k2 k') rc) (ev_int (i := 6)) ⟨by decide, sm_small (by decide) (by decide)⟩ (by omega)) s2.j fun v2 v3 H3 one two k3 j3 p2 p3 r2 r3 => ?_)
  cases (show v2 = V.int one from r2)
  cases (show v3 = V.int two from r3)
  have k03 : Kp F.M H H3 := Kp.trans k2 k3
  refine wb_cons (ws_if (m := F.at (n + 1 + 1 + 1)) (et_eqI (ev_var 1 (mono k3 (s2.rep r1))) (ev_int (i := 7))) j3 (fun H4 s4 hk4 => ?_) fun H4 s4 hk4 => wb_nil ?_)
  · have e11 : (10 : Int) ^ (11 : Int).toNat = 100000000000 := by decide
    have k04 : Kp F.M H H4 := Kp.trans k03 s4.keep
    have sm11 : Sm 9000 ((10 : Int) ^ (11 : Int).toNat) := by rw [e11]; exact sm_small (by decide) (by decide)
    refine wb_one (ws2_par 2 3 (ev2_take 0 hD c1 hr (mono k04 rc) (ev_pow (ev_int (i := 10)) (ev_int (i := 11)) ⟨by decide, by decide, by decide⟩) ⟨by rw [e11]; decide, sm11⟩ (by omega)) (fun H' k' j' => ev2_take 0 hD c1 hr (mono (Kp.trans k04 k') rc) (ev_pow (ev_int (i := 10)) (ev_int (i := 11)) ⟨by decide, by decide, by decide⟩) ⟨by rw [e11]; decide, sm11⟩ (by omega)) s4.j fun v4 v5 H5 one' two' k5 j5 p4 p5 r4 r5 => ?_)
    cases (show v4 = V.int one' from r4)
    cases (show v5 = V.int two' from r5)
    rw [e11] at p4 p5
    exact fin _ H5 one' two' rfl (Kp.trans k04 k5) j5 p4.1 p5.1 (by unfold Sm; omega) (by unfold Sm; omega)
  · exact fin _ H4 one two rfl (Kp.trans k03 s4.keep) (hD.up s4.j (by omega)) p2.1 p3.1 (by unfold Sm; omega) (by unfold Sm; omega)
end
end HK
set_option Elab.async false
set_option linter.all false
set_option maxRecDepth 100000
set_option maxHeartbeats 4000000
/-! F18: two spots, pair, pairs. -/
namespace HK
open PySem PySem.Spec PyProof.Rows L2 LamX
open Rep Arg
abbrev sPairs : Stmt := topS 33
abbrev nPairs : List Str := ["_law_draw", "_law_many", "_law_peak_here", "_law_found", "_law_turn", "_law_pair_here", "_law_way", "_law_one", "_law_two"]
theorem scPairs : FnScope nPairs ["_law_draw", "_law_many", "_law_peak_here"] (defScope sPairs) := ⟨rfl, rfl, rfl, by decide +kernel, rfl, by decide +kernel, by decide +kernel⟩
theorem goodP_sm {t : P2} (h : goodP t) : Sm2 100 t := h.2.mono (by omega)
section
variable (P : Program) (w : World) (K : PySem.W.Frag) (mg : Str → Option Value) (base : Heap)
abbrev DPairs := CalD P w K mg base 4 "_law_pairs" 24 (fun x : A2 Int Int => 1 ≤ x.h ∧ x.h ≤ 6 ∧ 0 ≤ x.t.h ∧ Sm 38 x.t.h) (fun x (z : List P2) => (z.length : Int) = x.h ∧ ∀ c, c ∈ z → inPeak x.t.h c)
end
theorem leads_or {a b : P2} (ha : isPriceB a = true) (hb : isPriceB b = true) (hne : a ≠ b) (h : leadsB a b = false) : leadsB b a = true := by
  unfold leadsB at *
  have h1 := of_decide_eq_false h
  refine decide_eq_true ?_
  rcases Int.lt_trichotomy (a.1 * b.2) (b.1 * a.2) with z | z | z
  · exact z
  · exact absurd (price_eq ha hb z) hne
  · exact absurd z h1
section
variable {P : Program} {w : World} {K : PySem.W.Frag} {mg : Str → Option Value} {base : Heap}
theorem ok_twoSpots (c1 : DSpot P w K mg base) (c2 : CLLeads P w K mg base) (F0 : FnX K mg "_law_two_spots" sTwoSpots ["_law_draw"]) : DTwoSpots P w K mg base := .of F0 <| by
  have S := scTwoSpots
  refine fn_okD F0 S (fun K M H vs x r => by rw [show vs = [] from r]; rfl) fun cdv Ar outer s H E F d g c cs n ws x Q hr hD j rc hn r _ q => ?_
  cases (show ws = [] from r)
  refine wb_cons (ws2_par (Pa := goodP) (Pb := goodP) 1 2 ((ev2_draw (τ := Unit) (β := P2) 0 hD c1 hr rc (by omega) el2_nil (fun _ _ => trivial)).imp fun z ⟨_, _, h⟩ => h) (fun H' k' j' => (ev2_draw (τ := Unit) (β := P2) 0 hD c1 hr (mono k' rc) (by omega) el2_nil (fun _ _ => trivial)).imp fun z ⟨_, _, h⟩ => h) j fun v2 v3 H1 a b k1 j1 ga gb ra rb => ?_)
  have j1 : F.J (n + 10) H1 := j1
  have sa := goodP_sm ga
  have sb := goodP_sm gb
  refine wb_cons (ws_if (m := F.at (n + 10)) (et_eqD (α := P2) hr (ev_var 1 ra) (ev_var 2 rb)) j1 (fun H2 s2 hk => ?_) fun H2 s2 hk => wb_nil ?_)
  · refine wb_one (ws_ret (m := F.at (n + 10)) (ev_pair (ev_pair (ev_int (i := 1)) (ev_int (i := 0))) (ev_pair (ev_int (i := 0)) (ev_int (i := 1)))) s2.j fun v H3 z s3 pz rz => q v H3 z (Kp.trans k1 (Kp.trans s2.keep s3.keep)) s3.j ?_ rz)
    rw [pz]
    exact ⟨⟨by decide, by decide⟩, ⟨by decide, by decide⟩, by decide⟩
  · have hne : a ≠ b := of_decide_eq_false hk
    refine wb_one (ws_ret (m := F.at (n + 10)) (P := fun z : Str2 => goodP z.1 ∧ goodP z.2 ∧ leadsB z.1 z.2 = true) (ev_if (et_val (e_lleads c2 hr (ev_var 1 (s2.rep ra)) (ev_var 2 (s2.rep rb)) ⟨sa.mono (by omega), sb.mono (by omega)⟩)) (fun h => (ev_pair (ev_var 1 (s2.rep ra)) (ev_var 2 (s2.rep rb))).imp fun z hz => ?_) fun h => (ev_pair (ev_var 2 (s2.rep rb)) (ev_var 1 (s2.rep ra))).imp fun z hz => ?_) s2.j fun v H3 z s3 pz rz => q v H3 z (Kp.trans k1 (Kp.trans s2.keep s3.keep)) s3.j pz rz)
    · rw [hz]; exact ⟨ga, gb, h⟩
    · rw [hz]; exact ⟨gb, ga, leads_or ga.1 gb.1 hne h⟩
theorem ok_pair (c1 : DTake P w K mg base) (F0 : FnX K mg "_law_pair" sPair ["_law_draw", "_law_peak_here"]) : DPair P w K mg base := .of F0 <| by
  have S := scPair
  refine fn_okD F0 S (fun K M H vs x r => by rw [rl1 x r]; rfl) fun cdv Ar outer s H E F d g c cs n ws x Q hr hD j rc hn r ⟨h1, h2⟩ q => ?_
  obtain ⟨v2, rfl, r2⟩ := rp1 r
  obtain ⟨peak, un⟩ := x
  cases (show v2 = V.int peak from r2)
  simp only at h1 h2 q
  have rp' : ∀ H, rep K F.M H (V.int peak) peak := fun _ => rfl
  have hm : 0 < 2 * peak + 1 ∧ Sm 9000 (2 * peak + 1) := ⟨by omega, sm_small (by omega) (by unfold Sm at h2; omega)⟩
  have hc2 : CMulW 2 peak := Sm.cmul (n := 2) (by decide) h2
  refine wb_one (ws2_ret (P := fun z : P2 => inPeak peak z) ((ev2_pair (Pa := fun z : Int => iabs z ≤ peak) (Pb := fun z : Int => iabs z ≤ peak) ((ev2_opI0 op_sub (ev2_take 0 hD c1 hr rc (ev_add (ev_mul (ev_int (i := 2)) (ev_var (x := peak) 1 rfl) hc2) (ev_int (i := 1))) hm (by omega)) (fun H' k' j' => ev2_of (ev_var (x := peak) 1 rfl))).imp fun z ⟨a, b, ⟨a0, a1⟩, hb, e⟩ => ?e1) (fun H' k' j' => (ev2_opI0 op_sub (ev2_take 0 hD c1 hr (mono k' rc) (ev_add (ev_mul (ev_int (i := 2)) (ev_var (x := peak) 1 rfl) hc2) (ev_int (i := 1))) hm (by omega)) (fun H' k' j' => ev2_of (ev_var (x := peak) 1 rfl))).imp fun z ⟨a, b, ⟨a0, a1⟩, hb, e⟩ => ?e2)).imp fun z hz => hz) j fun v H' z kp j' pz rz => q v H' z kp j' pz rz)
  case e1 => subst hb; rw [e]; unfold iabs; split <;> omega
  case e2 => subst hb; rw [e]; unfold iabs; split <;> omega
def pairsBody : List Stmt := match (defBody sPairs)[1]? with
  | some (Stmt.For _ _ b _ _) => b
  | _ => []
theorem inPeak_sm {peak : Int} {c : P2} (h0 : Sm 38 peak) (h : inPeak peak c) : Sm2 38 c := by
  obtain ⟨a, b⟩ := h
  unfold Sm2 Sm at *
  unfold iabs at a b
  constructor
  · split at a <;> omega
  · split at b <;> omega
theorem ok_pairs (C : Consts K mg) (c1 : DTake P w K mg base) (c2 : DPair P w K mg base) (c3 : DPick P w K mg base P2) (F0 : FnX K mg "_law_pairs" sPairs ["_law_draw", "_law_many", "_law_peak_here"]) : DPairs P w K mg base := .of F0 <| by
  have S := scPairs
  refine fn_okD F0 S (fun K M H vs x r => by rw [rl2 x r]; rfl) fun cdv Ar outer s H E F d g c cs n ws x Q hr hD j rc hn r ⟨h1, h2, h3, h4⟩ q => ?_
  obtain ⟨v2, v3, rfl, r2, r3⟩ := rp2 r
  obtain ⟨many, peak, un⟩ := x
  cases (show v2 = V.int many from r2)
  cases (show v3 = V.int peak from r3)
  simp only at h1 h2 h3 h4 q
  obtain ⟨mm, rfl⟩ : ∃ mm : Nat, many = mm := ⟨many.toNat, by omega⟩
  refine wb_cons (ws_new 3 fun l nl => ?_)
  have nM : ¬ F.M l := fun z => F.live _ j z nl
  have k0 : Kp F.M H (upd H l (.lst [])) := fun b o _ h => Ex.new nl b o h
  have j1 : F.J n (upd H l (.lst [])) := F.ex _ (Ex.new nl) j
  have hnl : ∀ b o, H b = some o → b ≠ l := fun b o h e => by rw [e, nl] at h; cases h
  have rcM : rep K (fun b => F.M b ∨ b = l) (upd H l (.lst [])) (.ref c) cs := mL_rep (m := F.at n) nl rc
  have hl0 : upd H l (.lst []) l = some (.lst []) := upd_same
  have kH : ∀ b o, ¬ F.M b → H b = some o → upd H l (.lst []) b = some o := k0
  generalize upd H l (.lst []) = H1 at kH rcM j1 hl0 ⊢
  have bk : ∀ {H : Hp} {v : V} {p : P2}, rep K (fun b => F.M b ∨ b = l) H v p → rep K F.M H v p := fun r => shift (fun b hb => .inl (.inl hb)) r
  refine wb_cons (ws_forR (m := F.at n) 4 (n := mm) (ev_var (x := (mm : Int)) 1 rfl) (by omega) j1 (fun k σ' H' => ∃ w4 w5 w6 w7 w8 vs ps, σ' = [some (.ref d), some (.int mm), some (.int peak), some (.ref l), w4, w5, w6, w7, w8] ∧ H' l = some (.lst vs) ∧ Reps K (fun b => F.M b ∨ b = l) H' vs ps ∧ ps.length = k ∧ (∀ c, c ∈ ps → inPeak peak c) ∧ F.J (n + 4 * k) H' ∧ Kp (fun b => F.M b ∨ b = l) H1 H')
    (fun H' s' => ⟨none, none, none, none, none, [], [], rfl, s'.keep _ _ nM hl0, .nil, rfl, (fun _ h => nomatch h), s'.j, fun b o hb h => s'.keep b o (fun z => hb (.inl z)) h⟩) ?turn ?hend (C.none _ (by decide)))
  case turn =>
    rintro k σ' H2 hk ⟨w4, w5, w6, w7, w8, vs, ps, rfl, hl2, rs, hlen, hps, j2, k2⟩
    have hps38 : ∀ c, c ∈ ps → Sm2 38 c := fun c hc => inPeak_sm h4 (hps c hc)
    have hvl : vs.length < 1000000 := by rw [reps_len rs]; omega
    have rc2 : rep K F.M H2 (.ref c) cs := shift (fun b hb => .inl (.inl hb)) (mono k2 rcM)
    have e4 : n + 4 * (k + 1) = n + 4 * k + 4 := by omega
    have dd : ∀ {H3 : Hp}, Kp F.M H2 H3 → rep K F.M H3 (.ref l) ps := fun kk => mono kk ⟨l, vs, rfl, ⟨nM, hl2⟩, Paired.mapP rs fun _ _ z => bk z⟩
    have wk : ∀ {H3 H4 : Hp}, Kp F.M H3 H4 → Kp (fun b => F.M b ∨ b = l) H3 H4 := fun kk b o hb h => kk b o (fun z => hb (.inl z)) h
    -- the last statement
    have rest4 : ∀ (D' : Ends) (H3 : Hp) (v5 : V) (pr : P2) (w6 w7 w8 : Option V), Kp F.M H2 H3 → F.J (n + 4 * (k + 1)) H3 → rep K F.M H3 v5 pr → D'.nx = (fun σ2 H2 => ∃ w4 w5 w6 w7 w8 vs ps, σ2 = [some (.ref d), some (.int mm), some (.int peak), some (.ref l), w4, w5, w6, w7, w8] ∧ H2 l = some (.lst vs) ∧ Reps K (fun b => F.M b ∨ b = l) H2 vs ps ∧ ps.length = k + 1 ∧ (∀ c, c ∈ ps → inPeak peak c) ∧ F.J (n + 4 * (k + 1)) H2 ∧ Kp (fun b => F.M b ∨ b = l) H1 H2) →
        WB (bcx P w K mg base nPairs "_law_pairs" sPairs F0.f cdv Ar outer s H E) (pairsBody.drop 3) D' [some (.ref d), some (.int mm), some (.int peak), some (.ref l), some (.int k), some v5, w6, w7, w8] H3 := fun D' H3 v5 pr w6 w7 w8 k3 j3 rv hD' => by
      have hl3 := k3 _ _ nM hl2
      show WB _ [_] _ _ _
      refine wb_one (ws_append (m := F.at (n + 4 * (k + 1))) (j := j3) 3 hl3 hvl (P := fun z => inPeak peak z) (ev_if (et_and (et_le (ev_abs (C.none _ (by decide)) (ev_fst (ev_var 5 rv) ev_int)) (ev_var (x := peak) 2 rfl)) fun _ => et_le (ev_abs (C.none _ (by decide)) (ev_snd (ev_var 5 rv) ev_int)) (ev_var (x := peak) 2 rfl)) (fun h => (ev_var 5 rv).imp fun z hz => ?_) fun h => (ev_pair (ev_int (i := 0)) (ev_int (i := 0))).imp fun z hz => ?_) fun u H4 z ex4 pz rz => ?_)
      · simp only [Bool.and_eq_true, decide_eq_true_eq] at h
        rw [hz]
        exact h
      · rw [hz]
        exact ⟨h3, h3⟩
      · have hl4 := ex4 _ _ hl3
        have k34 : Kp F.M H3 H4 := fun b o _ h => ex4 b o h
        have ku : Kp (fun b => F.M b ∨ b = l) H4 (upd H4 l (.lst (vs ++ [u]))) := fun b o hb h => (upd_ne fun z => hb (.inr z)).trans h
        have rz' : rep K (fun b => F.M b ∨ b = l) H4 u z := p2_shift (fun b xs hb h => by
          rcases hb with hb | rfl
          · exact hb
          · rw [hl4] at h; cases h) rz
        rw [hD']
        refine ⟨_, _, _, _, _, vs ++ [u], ps ++ [z], rfl, upd_same, reps_mono ku (reps_snoc (reps_mono (wk (Kp.trans k3 k34)) rs) rz'), by rw [List.length_append, hlen]; rfl, fun c hc => ?_, F.lst _ nM hl4 (F.ex _ ex4 j3), Kp.trans k2 (Kp.trans (wk (Kp.trans k3 k34)) ku)⟩
        rcases List.mem_append.mp hc with hc | hc
        · exact hps c hc
        · rw [show c = z by simpa using hc]
          exact pz
    -- the third
    have rest3 : ∀ (D' : Ends) (H3 : Hp) (v5 : V) (pr : P2) (wy : Int), Kp F.M H2 H3 → F.J (n + 4 * (k + 1)) H3 → rep K F.M H3 v5 pr → D'.nx = (fun σ2 H2 => ∃ w4 w5 w6 w7 w8 vs ps, σ2 = [some (.ref d), some (.int mm), some (.int peak), some (.ref l), w4, w5, w6, w7, w8] ∧ H2 l = some (.lst vs) ∧ Reps K (fun b => F.M b ∨ b = l) H2 vs ps ∧ ps.length = k + 1 ∧ (∀ c, c ∈ ps → inPeak peak c) ∧ F.J (n + 4 * (k + 1)) H2 ∧ Kp (fun b => F.M b ∨ b = l) H1 H2) →
        WB (bcx P w K mg base nPairs "_law_pairs" sPairs F0.f cdv Ar outer s H E) (pairsBody.drop 2) D' [some (.ref d), some (.int mm), some (.int peak), some (.ref l), some (.int k), some v5, some (.int wy), w7, w8] H3 := fun D' H3 v5 pr wy k3 j3 rv hD' => by
      show WB _ (_ :: pairsBody.drop 3) _ _ _
      by_cases hlong : 1 < ps.length
      · obtain ⟨qs, b, a, rfl⟩ : ∃ qs b a, ps = qs ++ [b] ++ [a] := by
          have hne : ps ≠ [] := fun e => by rw [e] at hlong; simp at hlong
          have hne2 : ps.dropLast ≠ [] := fun e => by
            have := congrArg List.length e
            rw [List.length_dropLast] at this
            simp at this
            omega
          refine ⟨ps.dropLast.dropLast, ps.dropLast.getLast hne2, ps.getLast hne, ?_⟩
          rw [List.dropLast_concat_getLast, List.dropLast_concat_getLast]
        have sa := hps38 a (by simp)
        have sb := hps38 b (by simp)
        refine wb_cons (ws_if (m := F.at (n + 4 * (k + 1))) (et_and (et_gt (ev_len (C.none _ (by decide)) (ev_var 3 (dd k3))) (ev_int (i := 1))) fun _ => et_eqI (ev_var (x := wy) 6 rfl) (ev_int (i := 1))) j3 (fun H4 s4 hk4 => ?_) fun H4 s4 hk4 => wb_nil (rest4 D' H4 v5 pr _ _ _ (Kp.trans k3 s4.keep) s4.j (s4.rep rv) hD'))
        have k4 : Kp F.M H2 H4 := Kp.trans k3 s4.keep
        refine wb_cons (ws_par (m := F.at (n + 4 * (k + 1))) 7 8 (ev_ixL (x := a) (ev_var 3 (dd k4)) (ev_neg (ev_int (i := 1))) atI_last) (ev_ixL (x := b) (ev_var 3 (dd k4)) (ev_neg (ev_int (i := 2))) atI_last2) s4.j fun v7 v8 H5 a' b' s5 pa pb ra rb => ?_)
        subst pa
        subst pb
        have c2m : ∀ {i : Int}, Sm 38 i → CMulW 2 i := fun h => Sm.cmul (n := 2) (by decide) h
        refine wb_one (ws_set (m := F.at (n + 4 * (k + 1))) 5 (ev_pair (ev_sub (ev_mul (ev_int (i := 2)) (ev_fst (ev_var 7 ra) ev_int) (c2m sa.1)) (ev_fst (ev_var 8 rb) ev_int)) (ev_sub (ev_mul (ev_int (i := 2)) (ev_snd (ev_var 7 ra) ev_int) (c2m sa.2)) (ev_snd (ev_var 8 rb) ev_int))) s5.j fun v9 H6 z s6 pz rz => ?_)
        exact rest4 D' H6 v9 z _ _ _ (Kp.trans k4 (Kp.trans s5.keep s6.keep)) s6.j rz hD'
      · have hsh : ¬ 1 < (ps.length : Int) := by omega
        refine wb_cons (ws_if (m := F.at (n + 4 * (k + 1))) (et_and (l := false) (et_gt (ev_len (C.none _ (by decide)) (ev_var 3 (dd k3))) (ev_int (i := 1))) fun h => absurd (of_decide_eq_true h) hsh) j3 (fun H4 s4 hk4 => (by simp at hk4)) fun H4 s4 hk4 => wb_nil (rest4 D' H4 v5 pr _ _ _ (Kp.trans k3 s4.keep) s4.j (s4.rep rv) hD'))
    -- the first two
    refine wb_cons (ws2_par (Pa := fun z : P2 => inPeak peak z) 5 6 ((ev2_draw (τ := A1 Int) (β := P2) 0 hD c2 hr rc2 (by omega) (el2_of (x := (⟨peak, ()⟩ : A1 Int)) (el1 (ev_var (x := peak) 2 rfl))) (fun x hx => by rw [hx]; exact ⟨h3, h4⟩)).imp fun z ⟨x, hx, hz⟩ => by rw [hx] at hz; exact hz)
      (fun H' k' j' => ev2_take 0 hD c1 hr (mono k' rc2) (ev_int (i := 5)) ⟨by decide, sm_small (by decide) (by decide)⟩ (by omega)) j2 fun v5 v6 H3 pr wy k3 j3 ppr pwy r5 r6 => ?_)
    cases (show v6 = V.int wy from r6)
    by_cases hne : ps = []
    · subst hne
      refine wb_cons (ws_if (m := F.at (n + 4 * k + 2 + 1)) (et_and (l := false) (et_neD (α := List P2) hr (ev_var 3 (dd k3)) (ev_lst0 (α := P2))) fun h => (by simp at h)) j3 (fun H4 s4 hk4 => (by simp at hk4)) fun H4 s4 hk4 => wb_nil (rest3 _ H4 v5 pr wy (Kp.trans k3 s4.keep) (hD.up s4.j (by omega)) (s4.rep r5) rfl))
    · refine wb_cons (ws_if (m := F.at (n + 4 * k + 2 + 1)) (et_and (et_neD (α := List P2) hr (ev_var 3 (dd k3)) (ev_lst0 (α := P2))) fun _ => et_eqI (ev_var (x := wy) 6 rfl) (ev_int (i := 0))) j3 (fun H4 s4 hk4 => ?_) fun H4 s4 hk4 => wb_nil (rest3 _ H4 v5 pr wy (Kp.trans k3 s4.keep) (hD.up s4.j (by omega)) (s4.rep r5) rfl))
      have k4 : Kp F.M H2 H4 := Kp.trans k3 s4.keep
      refine wb_one (ws2_set (P := fun _ : P2 => True) 5 ((ev2_draw (τ := A1 (List P2)) (β := P2) 0 hD c3 hr (mono k4 rc2) (by omega) (el2_of (x := (⟨ps, ()⟩ : A1 (List P2))) (el1 (ev_var 3 (dd k4)))) (fun x hx => by rw [hx]; exact ⟨hne, by show ps.length ≤ 1000; omega⟩)).imp fun _ _ => trivial) s4.j fun v7 H5 z k5 j5 _ rz => ?_)
      exact rest3 _ H5 v7 z wy (Kp.trans k4 k5) (hD.up j5 (by omega)) rz rfl
  case hend =>
    rintro σ' H2 ⟨w4, w5, w6, w7, w8, vs, ps, rfl, hl2, rs, hlen, hps, j2, k2⟩
    have dd : rep K F.M H2 (.ref l) ps := ⟨l, vs, rfl, ⟨nM, hl2⟩, Paired.mapP rs fun _ _ z => bk z⟩
    refine wb_one (ws_ret (m := F.at (n + 4 * mm)) (ev_var 3 dd) j2 fun v H3 z s3 pz rz => q v H3 z (fun b o hb h => s3.keep b o hb (k2 b o (fun z => z.elim hb (hnl b o h)) (kH b o hb h))) (hD.up s3.j (by omega)) ?_ rz)
    rw [pz]
    exact ⟨by omega, hps⟩
end
end HK
set_option Elab.async false
set_option linter.all false
set_option maxRecDepth 100000
set_option maxHeartbeats 4000000
/-! F19: front; the draw begun. -/
namespace HK
open PySem PySem.Spec PyProof.Rows L2 LamX
open Rep Arg
abbrev sFront : Stmt := topS 38
abbrev nFront : List Str := ["_law_draw", "_law_peak_here", "_law_way", "_law_low", "_law_high"]
theorem scFront : FnScope nFront ["_law_draw", "_law_peak_here"] (defScope sFront) := ⟨rfl, rfl, rfl, by decide +kernel, rfl, by decide +kernel, by decide +kernel⟩
/-- a front as the law draws it -/
def dueOk (peak : Int) : Fr → Prop
  | .at lo _ => goodP lo
  | .over lo hi cs => goodP lo ∧ goodP hi ∧ leadsB lo hi = true ∧ ∃ ps : List P2, ps ≠ [] ∧ ps.length ≤ 6 ∧ (∀ c, c ∈ ps → inPeak peak c) ∧ cs = lawCorners ps lo hi
  | _ => True
theorem leads_ne {a b : P2} (h : leadsB a b = true) : a ≠ b := fun e => by
  subst e
  unfold leadsB at h
  have := of_decide_eq_true h
  omega
section
variable (P : Program) (w : World) (K : PySem.W.Frag) (mg : Str → Option Value) (base : Heap)
abbrev DFront := CalD P w K mg base 6 "_law_front" 36 (fun x : A1 Int => 0 ≤ x.h ∧ Sm 38 x.h) (fun x (z : Fr) => dueOk x.h z)
end
section
variable {X : Cx} {F : Fam} {n n1 : Nat} {σ : L2.St} {H : Hp} {a b : Expr} {pos : Pos}
theorem ev2_frAt {k k' : Nat} {pz : Pos} {z : Str} {t : P2} {P : Int → Prop} (ha : EvD X (F.at n) a σ H t) (hb : Ev2 X F n n1 b σ H P) (hz : z = sAt := by rfl) (na : NS a := by exact fun _ _ => rfl) (nb : NS b := by exact fun _ _ => rfl) : Ev2 X F n n1 (.Tuple [.Constant (.str z) k' pz, a, b] k pos) σ H (fun y : Fr => ∃ m, P m ∧ y = .at t m) := fun H1 s1 Q q =>
  we_of (pe_tup (pa_cons pe_str (pa_cons pe_w (pa_cons pe_w pa_nil (nb _ _)) (na _ _)) rfl)) (ha H1 s1 _ fun v H2 x s2 px rx => hb H2 (s1.trans s2) _ fun w H3 y k3 j3 py ry => ⟨three_le, fun p hp => by
    subst hz
    subst px
    cases (show w = V.int y from ry)
    have ex : Ex H3 (upd H3 p (.tup [.str sAt, v, .int y])) := Ex.new hp
    exact q _ _ (.at x y) (Kp.trans s2.keep (Kp.trans k3 fun b o _ h => ex b o h)) (F.ex _ ex j3) ⟨y, py, rfl⟩ ⟨p, v, rfl, .inl ⟨fun z => F.live _ j3 z hp, upd_same⟩, mono (fun b o _ h => ex b o h) (mono k3 rx)⟩⟩)
end
section
variable {P : Program} {w : World} {K : PySem.W.Frag} {mg : Str → Option Value} {base : Heap}
theorem ok_front (c1 : DTake P w K mg base) (c2 : DTwoSpots P w K mg base) (c3 : DPairs P w K mg base) (c4 : CLOver P w K mg base) (F0 : FnX K mg "_law_front" sFront ["_law_draw", "_law_peak_here"]) : DFront P w K mg base := .of F0 <| by
  have S := scFront
  refine fn_okD F0 S (fun K M H vs x r => by rw [rl1 x r]; rfl) fun cdv Ar outer s H E F d g c cs n ws x Q hr hD j rc hn r ⟨h1, h2⟩ q => ?_
  obtain ⟨v2, rfl, r2⟩ := rp1 r
  obtain ⟨peak, un⟩ := x
  cases (show v2 = V.int peak from r2)
  simp only at h1 h2 q
  have hm : 0 < 2 * peak + 1 ∧ Sm 9000 (2 * peak + 1) := ⟨by omega, sm_small (by omega) (by unfold Sm at h2; omega)⟩
  have hc2 : CMulW 2 peak := Sm.cmul (n := 2) (by decide) h2
  refine wb_cons (ws2_set 2 (ev2_take 0 hD c1 hr rc (ev_int (i := 10)) ⟨by decide, sm_small (by decide) (by decide)⟩ (by omega)) j fun v1 H1 wy k1 j1 pw r1 => ?_)
  cases (show v1 = V.int wy from r1)
  refine wb_cons (ws_if (m := F.at (n + 1)) (et_lt (ev_var (x := wy) 2 rfl) (ev_int (i := 2))) j1 (fun H2 s2 hk => ?_) fun H2 s2 hk => wb_nil ?_)
  · have hw := of_decide_eq_true hk
    have hat : ∃ z : Fr, atI [Fr.none, Fr.endless] wy = some z ∧ dueOk peak z := by
      rcases (show wy = 0 ∨ wy = 1 by omega) with e | e
      · subst e; exact ⟨.none, rfl, trivial⟩
      · subst e; exact ⟨.endless, rfl, trivial⟩
    obtain ⟨z, hz, gz⟩ := hat
    exact wb_one (ws_ret (m := F.at (n + 1)) (ev_ixL (ev_lst2 ev_noneF ev_frEndless) (ev_var (x := wy) 2 rfl) hz) s2.j fun v H3 y s3 py ry => q v H3 y (Kp.trans k1 (Kp.trans s2.keep s3.keep)) (hD.up s3.j (by omega)) (by rw [py]; exact gz) ry)
  have k2 : Kp F.M H H2 := Kp.trans k1 s2.keep
  refine wb_cons (ws2_unp2 (P := fun z : Str2 => goodP z.1 ∧ goodP z.2 ∧ leadsB z.1 z.2 = true) 3 4 ((ev2_draw (τ := Unit) (β := Str2) 0 hD c2 hr (mono k2 rc) (by omega) el2_nil (fun _ _ => trivial)).imp fun z ⟨_, _, h⟩ => h) s2.j fun v3 v4 H3 st k3 j3 ⟨g1, g2, g3⟩ r3 r4 => ?_)
  have k03 : Kp F.M H H3 := Kp.trans k2 k3
  refine wb_cons (ws_if (m := F.at (n + 1 + 10)) (et_eqI (ev_var (x := wy) 2 rfl) (ev_int (i := 2))) j3 (fun H4 s4 hk => ?_) fun H4 s4 hk => wb_nil ?_)
  · have k04 : Kp F.M H H4 := Kp.trans k03 s4.keep
    refine wb_one (ws2_ret (ev2_frAt (P := fun _ => True) (ev_var 3 (s4.rep r3)) ((ev2_opI0 op_sub (ev2_take 0 hD c1 hr (mono k04 rc) (ev_add (ev_mul (ev_int (i := 2)) (ev_var (x := peak) 1 rfl) hc2) (ev_int (i := 1))) hm (by omega)) (fun H' k' j' => ev2_of (ev_var (x := peak) 1 rfl))).imp fun _ _ => trivial)) s4.j fun v H5 z k5 j5 ⟨m, _, ez⟩ rz => q v H5 z (Kp.trans k04 k5) (hD.up j5 (by omega)) (by rw [ez]; exact g1) rz)
  -- the end
  have fin : ∀ (D' : Ends) (H5 : Hp) (w3 w4 : V) (lo hi : P2), D'.rt = Q → Kp F.M H H5 → F.J (n + 11) H5 → rep K F.M H5 w3 lo → rep K F.M H5 w4 hi → goodP lo → goodP hi → leadsB lo hi = true → WB (bcx P w K mg base nFront "_law_front" sFront F0.f cdv Ar outer s H E) ((defBody sFront).drop 5) D' [some (.ref d), some (.int peak), some (.int wy), some w3, some w4] H5 := fun D' H5 w3 w4 lo hi hD' k5 j5 q3 q4 gl gh gg => by
    show WB _ [_] _ _ _
    refine wb_one (ws2_ret (P := fun z : Fr => dueOk peak z) ((ev2_callP (τ := A3 (List P2) P2 P2) (β := Fr) (Pa := fun x => (x.h ≠ [] ∧ x.h.length ≤ 6 ∧ ∀ c, c ∈ x.h → inPeak peak c) ∧ x.t = ⟨lo, ⟨hi, ()⟩⟩) (n1 := n + 12 + 24) c4 hr
      (el2_cons (Pa := fun z : List P2 => z ≠ [] ∧ z.length ≤ 6 ∧ ∀ c, c ∈ z → inPeak peak c) (n1 := n + 12 + 24) ((ev2_draw (τ := A2 Int Int) (β := List P2) (Pa := fun x => (1 ≤ x.h ∧ x.h ≤ 6) ∧ x.t = ⟨peak, ()⟩) 0 hD c3 hr (mono k5 rc) (by omega)
        (el2_cons (Pa := fun z : Int => 1 ≤ z ∧ z ≤ 6) (n1 := n + 12) ((ev2_opI0 op_add (ev2_of (ev_int (i := 1))) (fun H' k' j' => ev2_take 0 hD c1 hr (mono (Kp.trans k5 k') rc) (ev_int (i := 5)) ⟨by decide, sm_small (by decide) (by decide)⟩ (by omega))).imp fun z ⟨a, b, ha, ⟨b0, b1⟩, e⟩ => ?e1) (fun H' k' j' => el2_of (x := (⟨peak, ()⟩ : A1 Int)) (el1 (ev_var (x := peak) 1 rfl)))) (fun x hx => ?e2)).imp fun z hz => ?e3)
        (fun H' k' j' => el2_of (x := (⟨lo, ⟨hi, ()⟩⟩ : A2 P2 P2)) (el2 (ev_var 3 (mono k' q3)) (ev_var 4 (mono k' q4))))) (fun x hx => ?e4)).imp fun z hz => ?e5) j5 fun v H6 z k6 j6 pz rz => ?e6)
    case e1 => subst ha; omega
    case e2 => obtain ⟨hx1, hx2⟩ := hx; rw [hx2]; exact ⟨hx1.1, hx1.2, h1, h2⟩
    case e3 =>
      obtain ⟨x, ⟨hx1, hx2⟩, hz1, hz2⟩ := hz
      rw [hx2] at hz2
      refine ⟨fun e => ?_, by omega, hz2⟩
      rw [e] at hz1
      simp at hz1
      omega
    case e4 =>
      obtain ⟨⟨hx1, hx2, hx3⟩, hx4⟩ := hx
      rw [hx4]
      exact ⟨by omega, hx1, fun c hc => (inPeak_sm h2 (hx3 c hc)).mono (by omega), goodP_sm gl, goodP_sm gh⟩
    case e5 =>
      obtain ⟨x, ⟨⟨hx1, hx2, hx3⟩, hx4⟩, hz⟩ := hz
      rw [hx4] at hz
      rw [hz]
      unfold lawOver
      rw [if_neg (leads_ne gg)]
      exact ⟨gl, gh, gg, x.h, hx1, hx2, hx3, rfl⟩
    case e6 =>
      rw [hD']
      exact q v H6 z (Kp.trans k5 k6) j6 pz rz
  refine wb_cons (ws_if (m := F.at (n + 11)) (et_lt (ev_var (x := wy) 2 rfl) (ev_int (i := 6))) s4.j (fun H5 s5 hk => ?_) fun H5 s5 hk => wb_nil ?_)
  · refine wb_one (ws_unp2 (m := F.at (n + 11)) 3 4 (ev_pair (ev_pair (ev_int (i := 1)) (ev_int (i := 0))) (ev_pair (ev_int (i := 0)) (ev_int (i := 1)))) s5.j fun u3 u4 H6 z1 s6 p1 q3 q4 => ?_)
    subst p1
    exact fin _ H6 u3 u4 (1, 0) (0, 1) rfl (Kp.trans k03 (Kp.trans s4.keep (Kp.trans s5.keep s6.keep))) s6.j q3 q4 ⟨by decide, by decide⟩ ⟨by decide, by decide⟩ (by decide)
  · exact fin _ H5 v3 v4 st.1 st.2 rfl (Kp.trans k03 (Kp.trans s4.keep s5.keep)) s5.j (s5.rep (s4.rep r3)) (s5.rep (s4.rep r4)) g1 g2 g3
end
end HK
set_option Elab.async false
set_option linter.all false
set_option maxRecDepth 100000
set_option maxHeartbeats 4000000
/-! F20: the law's scene. -/
namespace HK
open PySem PySem.Spec PyProof.Rows L2 LamX
open Rep Arg
section
variable {X : Cx} {F : Fam} {n n1 : Nat} {σ : L2.St} {H : Hp} {D : Ends} {a elt : Expr} {pos px py pr p2 pr2 : Pos} {xn y : Str}
/-- y = [elt for x in range(a)], drawn -/
theorem ws2_lcR (i0 i : Nat) {scope : Scope} {b cN : Nat} {P : P2 → Prop} (hm : X.mg "range" = none) (ha : Ev2 X F n n1 a σ H (fun z : Int => 0 ≤ z ∧ z ≤ b)) (hb : b ≤ 1000) (ok : BlkOk X.N X.env.scope scope [(xn, i)])
    (he : ∀ (k : Nat) (s0 : Shared) (H0 : Hp) (C : Addr) (cl : List (Str × Addr)) (fp : List Addr) (H' : Hp), k < b → Kp F.M H H' → F.J (n1 + cN * k) H' → Ev2 (X.blk s0 H0 scope (compEnvC scope cl C X.env) fp) F (n1 + cN * k) (n1 + cN * (k + 1)) elt ((wipe σ [i]).set i (some (.int k))) H' P)
    (j : F.J n H) (hup : ∀ m m' H, m ≤ m' → F.J m H → F.J m' H) (k : ∀ (v : V) (H' : Hp) (zs : List P2), Kp F.M H H' → F.J (n1 + cN * b) H' → zs.length ≤ b → (∀ z, z ∈ zs → P z) → rep X.K F.M H' v zs → D.nx (σ.set i0 (some v)) H')
    (hsw : swapsWith (.ListComp elt [⟨.Name xn px, .Call (.Name "range" pr) [a] [] pr2, [], 0⟩] scope pos) (some (.Name y py)) p2.line X.env = pure true := by rfl) (hy : X.N[i0]? = some y := by rfl) (hyl : X.env.scope.names.lookup y = some .local := by rfl)
    (hN : X.N.Nodup := by first | assumption | exact FnScope.nd (by assumption)) (hc : X.calm = true := by rfl) (hgr : Gl X "range" := by rfl) (na : NS a := by exact fun _ _ => rfl)
    (hg : ∀ (s : Shared) (H : Hp) (C : Addr) (cl : List (Str × Addr)) (fp : List Addr), PG (X.blk s H scope (compEnvC scope cl C X.env) fp) (.Name xn px) (gName i) := by first | exact fun _ _ _ _ _ => pg_name (FnScope.nd (by assumption)) rfl (Or.inl rfl) | exact fun _ _ _ _ _ => pg_name (FnScope.nd (by assumption)) rfl (Or.inr rfl))
    (hs : ∀ x, foldedSetIterable (.Call (.Name "range" pr) [a] [] pr2) X.env x = pure x := by intro _; rfl) : WS X (.Assign [.Name y py] (.ListComp elt [⟨.Name xn px, .Call (.Name "range" pr) [a] [] pr2, [], 0⟩] scope pos) p2) D σ H :=
  ws_of (ps_setLc (own := [(xn, i)]) (g := gName i) (te := blkE X scope elt) hc hN hy hyl hsw (pi_range1 hgr hm (pa_cons pe_w pa_nil (na _ _)) (na _ _)) ok hg (fun _ _ _ _ _ => pts_nil) (fun s0 H0 C cl fp => ⟨fun pins s σ H Q I h => h s0 H0 C cl fp pins s I⟩) hs)
    (ha H (Step.refl j) _ fun v H1 z k1 j1 pz rz => by
      cases (show v = V.int z from rz)
      obtain ⟨z, rfl⟩ : ∃ m : Nat, z = m := ⟨z.toNat, by omega⟩
      refine ⟨(z : Int), rfl, by omega, by omega, fun L nL => ?_⟩
      rw [Int.toNat_natCast]
      have nM : ¬ F.M L := fun h => F.live _ j1 h nL
      have hex : Ex H1 (upd H1 L (.lst [])) := Ex.new nL
      refine lc_range (lo := 0) (n := z) (g := gName i) (tt := tYes) (te := blkE X scope elt) (vs := [i]) (σ := σ) (Qd := fun H => D.nx (σ.set i0 (some (.ref L))) H) (fun k H' => ∃ acc zs, H' L = some (.lst acc) ∧ Reps X.K (fun b => F.M b ∨ b = L) H' acc zs ∧ zs.length = k ∧ (∀ z, z ∈ zs → P z) ∧ F.J (n1 + cN * k) H' ∧ Kp (fun b => F.M b ∨ b = L) (upd H1 L (.lst [])) H')
        ⟨[], [], upd_same, .nil, rfl, (fun _ h => nomatch h), F.ex _ hex j1, .refl⟩ (fun k' H' hk q1 => ?_) fun H' q1 => ?_
      · obtain ⟨acc, zs, hL, ra, hl, hP, j', k'⟩ := q1
        have kH : Kp F.M H H' := fun b o hb h => k' b o (fun z => z.elim hb fun e => by have := k1 b o hb h; rw [e, nL] at this; cases this) (hex b o (k1 b o hb h))
        refine ⟨wipe_one σ i _, ?_⟩
        show blkE X scope elt _ _ _
        intro s0 H0 C cl fp
        rw [Int.zero_add]
        refine he _ s0 H0 C cl fp H' (by omega) kH j' H' (Step.refl j') _ fun u H4 w k4 j4 pw rw4 => ?_
        have hL4 := k4 _ _ nM hL
        have ru : rep X.K (fun b => F.M b ∨ b = L) H4 u w := p2_shift (fun b xs hb h => by
          rcases hb with hb | rfl
          · exact hb
          · rw [hL4] at h; cases h) rw4
        have wk : Kp (fun b => F.M b ∨ b = L) H' H4 := fun b o hb h => k4 b o (fun z => hb (.inl z)) h
        have ku : Kp (fun b => F.M b ∨ b = L) H4 (upd H4 L (.lst (acc ++ [u]))) := fun b o hb h => (upd_ne fun z => hb (.inr z)).trans h
        refine ⟨acc, hL4, ?_, acc ++ [u], zs ++ [w], upd_same, reps_mono ku (reps_snoc (reps_mono wk ra) ru), by rw [List.length_append, hl]; rfl, fun z' hz' => ?_, F.lst _ nM hL4 j4, Kp.trans k' (Kp.trans wk ku)⟩
        · rw [reps_len ra, hl]
          exact Nat.lt_of_lt_of_le (show _ < 1001 by omega) (by decide)
        · rcases List.mem_append.mp hz' with h | h
          · exact hP z' h
          · rw [show z' = w by simpa using h]
            exact pw
      · obtain ⟨acc, zs, hL, ra, hl, hP, j', k'⟩ := q1
        refine k (.ref L) H' zs (fun b o hb h => k' b o (fun z => z.elim hb fun e => by have := k1 b o hb h; rw [e, nL] at this; cases this) (hex b o (k1 b o hb h))) (hup _ _ _ (Nat.add_le_add_left (Nat.mul_le_mul_left _ (by omega)) _) j') (by omega) hP ⟨L, acc, rfl, ⟨nM, hL⟩, Paired.mapP ra fun _ _ z => shift (fun b hb => .inl (.inl hb)) z⟩)
end
end HK
set_option Elab.async false
set_option linter.all false
set_option maxRecDepth 100000
set_option maxHeartbeats 4000000
/-! F21: hidden. -/
namespace HK
open PySem PySem.Spec PyProof.Rows L2 LamX
open Rep Arg
abbrev sHidden : Stmt := topS 41
abbrev nHidden : List Str := ["_law_draw", "_law_peak_here", "_law_way", "_law_low", "_law_high", "_law_ahead", "_law_behind", "_law_pairs_here", "_law_first", "_law_last", "_law_turn", "_law_spot_here"]
theorem scHidden : FnScope nHidden ["_law_draw", "_law_peak_here"] (defScope sHidden) := ⟨rfl, rfl, rfl, by decide +kernel, rfl, by decide +kernel, by decide +kernel⟩
/-- what the law draws as its scene -/
inductive ScIs (peak : Int) : Scene → Prop
  | none : ScIs peak ⟨.none, [], [], []⟩
  | endless {lo hi : P2} {ah be : List P2} (gl : goodP lo) (gh : goodP hi) (g : leadsB lo hi = true) (la : ah.length ≤ 3) (lb : be.length ≤ 3) (ga : ∀ t, t ∈ ah → goodP t) (gb : ∀ t, t ∈ be → goodP t) : ScIs peak ⟨.endless, [], hi :: ah, lo :: be⟩
  | some {lo hi : P2} {ah be ps : List P2} (gl : goodP lo) (gh : goodP hi) (g : lo = hi ∨ leadsB lo hi = true) (la : ah.length ≤ 3) (lb : be.length ≤ 3) (ga : ∀ t, t ∈ ah → goodP t) (gb : ∀ t, t ∈ be → goodP t) (hp : ps ≠ []) (lp : ps.length ≤ 6) (pk : ∀ c, c ∈ ps → inPeak peak c) :
      ScIs peak ⟨lawOver ps lo hi, ps, lo :: ah.filter (fun t => leadsB t lo), hi :: be.filter (fun t => leadsB hi t)⟩
theorem good10 {t : P2} (h : goodP t) : (1, 0) = t ∨ leadsB (1, 0) t = true := by
  obtain ⟨h, _⟩ := h
  have h' := h
  unfold isPriceB at h
  simp only [Bool.and_eq_true, decide_eq_true_eq] at h
  by_cases z : t.2 = 0
  · exact .inl (price_eq (by decide) h' (by rw [z]; simp))
  · refine .inr (decide_eq_true ?_)
    show t.1 * 0 < 1 * t.2
    rw [Int.mul_zero, Int.one_mul]
    omega
theorem good01 {t : P2} (h : goodP t) : t = (0, 1) ∨ leadsB t (0, 1) = true := by
  obtain ⟨h, _⟩ := h
  have h' := h
  unfold isPriceB at h
  simp only [Bool.and_eq_true, decide_eq_true_eq] at h
  by_cases z : t.1 = 0
  · exact .inl (price_eq h' (by decide) (by rw [z]; simp))
  · refine .inr (decide_eq_true ?_)
    show 0 * t.2 < t.1 * 1
    rw [Int.zero_mul, Int.mul_one]
    omega
theorem g10 : goodP (1, 0) := ⟨by decide, by decide⟩
theorem g01 : goodP (0, 1) := ⟨by decide, by decide⟩
section
variable (P : Program) (w : World) (K : PySem.W.Frag) (mg : Str → Option Value) (base : Heap)
abbrev DHidden := CalD P w K mg base 6 "_law_hidden" 68 (fun x : A1 Int => 0 ≤ x.h ∧ Sm 38 x.h) (fun x (z : Scene) => ScIs x.h z)
end
theorem ev2_sp {α τ : Type} [Rep α] {X : Cx} {F : Fam} {n n1 : Nat} {e : Expr} {σ : L2.St} {H : Hp} {P : τ → Prop} {p : α → Prop} (h : Ev2 X F n n1 e σ H (fun z : α => ∃ x : τ, P x ∧ p z)) : Ev2 X F n n1 e σ H p := h.imp fun z ⟨_, _, h⟩ => h
section
variable {P : Program} {w : World} {K : PySem.W.Frag} {mg : Str → Option Value} {base : Heap}
theorem ok_hidden (C : Consts K mg) (c1 : DTake P w K mg base) (c2 : DTwoSpots P w K mg base) (c3 : DPairs P w K mg base) (c4 : CLOver P w K mg base) (c5 : DSpot P w K mg base) (c6 : CLLeads P w K mg base) (F0 : FnX K mg "_law_hidden" sHidden ["_law_draw", "_law_peak_here"]) : DHidden P w K mg base := .of F0 <| by
  have S := scHidden
  refine fn_okD F0 S (fun K M H vs x r => by rw [rl1 x r]; rfl) fun cdv Ar outer s H E F d g c cs n ws x Q hr hD j rc hn r ⟨h1, h2⟩ q => ?_
  obtain ⟨v2, rfl, r2⟩ := rp1 r
  obtain ⟨peak, un⟩ := x
  cases (show v2 = V.int peak from r2)
  simp only at h1 h2 q
  have up : ∀ m m' H, m ≤ m' → F.J m H → F.J m' H := fun m m' H hm h => hD.up h hm
  refine wb_cons (ws2_set 2 (ev2_take 0 hD c1 hr rc (ev_int (i := 8)) ⟨by decide, sm_small (by decide) (by decide)⟩ (by omega)) j fun v1 H1 wy k1 j1 pw r1 => ?_)
  cases (show v1 = V.int wy from r1)
  refine wb_cons (ws_if (m := F.at (n + 1)) (et_eqI (ev_var (x := wy) 2 rfl) (ev_int (i := 0))) j1 (fun H2 s2 hk => ?_) fun H2 s2 hk => wb_nil ?_)
  · exact wb_one (ws_ret (m := F.at (n + 1)) (ev_t4 ev_noneF (ev_lst0 (α := P2)) (ev_lst0 (α := P2)) (ev_lst0 (α := P2))) s2.j fun v H3 y s3 py ry => q v H3 y (Kp.trans k1 (Kp.trans s2.keep s3.keep)) (hD.up s3.j (by omega)) (by rw [py]; exact .none) ry)
  have k2 : Kp F.M H H2 := Kp.trans k1 s2.keep
  refine wb_cons (ws2_unp2 (P := fun z : Str2 => goodP z.1 ∧ goodP z.2 ∧ leadsB z.1 z.2 = true) 3 4 ((ev2_draw (τ := Unit) (β := Str2) 0 hD c2 hr (mono k2 rc) (by omega) el2_nil (fun _ _ => trivial)).imp fun z ⟨_, _, h⟩ => h) s2.j fun v3 v4 H3 st k3 j3 ⟨g1, g2, g3⟩ r3 r4 => ?_)
  have k03 : Kp F.M H H3 := Kp.trans k2 k3
  refine wb_cons (ws2_lcR (P := goodP) (b := 3) (cN := 5) 5 10 (C.none _ (by decide)) ((ev2_take 0 hD c1 hr (mono k03 rc) (ev_int (i := 4)) ⟨by decide, sm_small (by decide) (by decide)⟩ (by omega)).imp fun z hz => by omega) (by decide) (show BlkOk nHidden (defScope sHidden) _ [("_law_turn", 10)] from blkOk_by (by decide +kernel)) ?sp1 j3 up fun v5 H4 ah k4 j4 la ga r5 => ?_)
  case sp1 =>
    intro k s0 H0 C' cl fp H' hk k' j'
    rw [show n + 1 + 10 + 1 + 5 * (k + 1) = n + 1 + 10 + 1 + 5 * k + 5 by omega]
    exact ev2_sp (ev2_draw (τ := Unit) (β := P2) (post := fun _ z => goodP z) 0 hD c5 hr (mono (Kp.trans k03 k') rc) (by omega) el2_nil (fun _ _ => trivial))
  have k04 : Kp F.M H H4 := Kp.trans k03 k4
  refine wb_cons (ws2_lcR (P := goodP) (b := 3) (cN := 5) 6 10 (C.none _ (by decide)) ((ev2_take 0 hD c1 hr (mono k04 rc) (ev_int (i := 4)) ⟨by decide, sm_small (by decide) (by decide)⟩ (by omega)).imp fun z hz => by omega) (by decide) (show BlkOk nHidden (defScope sHidden) _ [("_law_turn", 10)] from blkOk_by (by decide +kernel)) ?sp2 j4 up fun v6 H5 be k5 j5 lb gb r6 => ?_)
  case sp2 =>
    intro k s0 H0 C' cl fp H' hk k' j'
    rw [show n + 1 + 10 + 1 + 5 * 3 + 1 + 5 * (k + 1) = n + 1 + 10 + 1 + 5 * 3 + 1 + 5 * k + 5 by omega]
    exact ev2_sp (ev2_draw (τ := Unit) (β := P2) (post := fun _ z => goodP z) 0 hD c5 hr (mono (Kp.trans k04 k') rc) (by omega) el2_nil (fun _ _ => trivial))
  have k05 : Kp F.M H H5 := Kp.trans k04 k5
  have k35 : Kp F.M H3 H5 := Kp.trans k4 k5
  have r5' := mono k5 r5
  have j5' : F.J (n + 43) H5 := up _ _ _ (by omega) j5
  refine wb_cons (ws_if (m := F.at (n + 43)) (et_eqI (ev_var (x := wy) 2 rfl) (ev_int (i := 1))) j5' (fun H6 s6 hk => ?_) fun H6 s6 hk => wb_nil ?_)
  · refine wb_one (ws_ret (m := F.at (n + 43)) (ev_t4 ev_frEndless (ev_lst0 (α := P2)) (ev_cat (ev_lst1 (ev_var 4 (s6.rep (mono k35 r4)))) (ev_var 5 (s6.rep r5')) (by simp only [List.length_cons, List.length_nil]; omega)) (ev_cat (ev_lst1 (ev_var 3 (s6.rep (mono k35 r3)))) (ev_var 6 (s6.rep r6)) (by simp only [List.length_cons, List.length_nil]; omega))) s6.j fun v H7 y s7 py ry => q v H7 y (Kp.trans k05 (Kp.trans s6.keep s7.keep)) (hD.up s7.j (by omega)) (by rw [py]; exact .endless g1 g2 g3 la lb ga gb) ry)
  -- the end
  have fin : ∀ (D' : Ends) (H7 : Hp) (w3 w4 : V) (lo hi : P2), D'.rt = Q → Kp F.M H5 H7 → F.J (n + 43) H7 → rep K F.M H7 w3 lo → rep K F.M H7 w4 hi → goodP lo → goodP hi → (lo = hi ∨ leadsB lo hi = true) → WB (bcx P w K mg base nHidden "_law_hidden" sHidden F0.f cdv Ar outer s H E) ((defBody sHidden).drop 8) D' [some (.ref d), some (.int peak), some (.int wy), some w3, some w4, some v5, some v6, none, none, none, none, none] H7 := fun D' H7 w3 w4 lo hi hD' k7 j7 q3 q4 gl gh gg => by
    have k07 : Kp F.M H H7 := Kp.trans k05 k7
    show WB _ [_, _, _, _] _ _ _
    refine wb_cons (ws2_set (P := fun z : List P2 => z ≠ [] ∧ z.length ≤ 6 ∧ ∀ c, c ∈ z → inPeak peak c) 7 ((ev2_draw (τ := A2 Int Int) (β := List P2) (Pa := fun x => (1 ≤ x.h ∧ x.h ≤ 6) ∧ x.t = ⟨peak, ()⟩) 0 hD c3 hr (mono k07 rc) (by omega)
        (el2_cons (Pa := fun z : Int => 1 ≤ z ∧ z ≤ 6) (n1 := n + 44) ((ev2_opI0 op_add (ev2_of (ev_int (i := 1))) (fun H' k' j' => ev2_take 0 hD c1 hr (mono (Kp.trans k07 k') rc) (ev_int (i := 6)) ⟨by decide, sm_small (by decide) (by decide)⟩ (by omega))).imp fun z ⟨a, b, ha, ⟨b0, b1⟩, e⟩ => ?e1) (fun H' k' j' => el2_of (x := (⟨peak, ()⟩ : A1 Int)) (el1 (ev_var (x := peak) 1 rfl)))) (fun x hx => ?e2)).imp fun z hz => ?e3) j7 fun v7 H8 ps k8 j8 ⟨hp, lp, pk⟩ r7 => ?_)
    case e1 => subst ha; omega
    case e2 => obtain ⟨hx1, hx2⟩ := hx; rw [hx2]; exact ⟨hx1.1, hx1.2, h1, h2⟩
    case e3 =>
      obtain ⟨x, ⟨hx1, hx2⟩, hz1, hz2⟩ := hz
      rw [hx2] at hz2
      refine ⟨fun e => ?_, by omega, hz2⟩
      rw [e] at hz1
      simp at hz1
      omega
    have k58 : Kp F.M H5 H8 := Kp.trans k7 k8
    refine wb_cons (ws_set (m := F.at (n + 68)) (j := j8) 8 (ev_cat (ev_lst1 (ev_var 3 (mono k8 q3))) (ev_lcF 11 (fun t => leadsB t lo) (ev_var 5 (mono k58 r5')) (by omega) (show BlkOk nHidden (defScope sHidden) _ [("_law_spot_here", 11)] from blkOk_by (by decide +kernel))
        (fun m' s0 H0 C' cl fp u o H' up' j' ho ru => et_val (e_lleads c6 hr (ev_var 11 ru) (ev_var 3 (up' (mono k8 q3))) ⟨(goodP_sm (ga o ho)).mono (by omega), (goodP_sm gl).mono (by omega)⟩)) fun m' s0 H0 C' cl fp u o H' j' ru => ev_var 11 ru) ?l1) fun v8 H9 z8 s9 p8 r8 => ?_)
    case l1 =>
      have := List.length_filter_le (fun t => leadsB t lo) ah
      simp only [List.length_cons, List.length_nil]
      omega
    refine wb_cons (ws_set (m := F.at (n + 68)) (j := s9.j) 9 (ev_cat (ev_lst1 (ev_var 4 (s9.rep (mono k8 q4)))) (ev_lcF 11 (fun t => leadsB hi t) (ev_var 6 (s9.rep (mono k58 r6))) (by omega) (show BlkOk nHidden (defScope sHidden) _ [("_law_spot_here", 11)] from blkOk_by (by decide +kernel))
        (fun m' s0 H0 C' cl fp u o H' up' j' ho ru => et_val (e_lleads c6 hr (ev_var 4 (up' (s9.rep (mono k8 q4)))) (ev_var 11 ru) ⟨(goodP_sm gh).mono (by omega), (goodP_sm (gb o ho)).mono (by omega)⟩)) fun m' s0 H0 C' cl fp u o H' j' ru => ev_var 11 ru) ?l2) fun v9 H10 z9 s10 p9 r9 => ?_)
    case l2 =>
      have := List.length_filter_le (fun t => leadsB hi t) be
      simp only [List.length_cons, List.length_nil]
      omega
    have s910 := s9.trans s10
    refine wb_one (ws_ret (m := F.at (n + 68)) (ev_t4 (e_lover c4 hr (ev_var 7 (s910.rep r7)) (ev_var 3 (s910.rep (mono k8 q3))) (ev_var 4 (s910.rep (mono k8 q4))) ⟨by omega, hp, fun c hc => (inPeak_sm h2 (pk c hc)).mono (by omega), goodP_sm gl, goodP_sm gh⟩) (ev_var 7 (s910.rep r7)) (ev_var 8 (s10.rep r8)) (ev_var 9 r9)) s10.j fun v H11 y s11 py ry => ?_)
    rw [hD']
    refine q v H11 y (Kp.trans k05 (Kp.trans k58 (Kp.trans s910.keep s11.keep))) s11.j ?_ ry
    rw [py, p8, p9]
    exact .some gl gh gg la lb ga gb hp lp pk
  -- from the third test
  have third : ∀ (D' : Ends) (H7 : Hp) (w4 : V) (hi : P2), D'.rt = Q → Kp F.M H5 H7 → F.J (n + 43) H7 → rep K F.M H7 w4 hi → goodP hi → (st.1 = hi ∨ leadsB st.1 hi = true) → WB (bcx P w K mg base nHidden "_law_hidden" sHidden F0.f cdv Ar outer s H E) ((defBody sHidden).drop 7) D' [some (.ref d), some (.int peak), some (.int wy), some v3, some w4, some v5, some v6, none, none, none, none, none] H7 := fun D' H7 w4 hi hD' k7 j7 q4 gh gg => by
    show WB _ (_ :: (defBody sHidden).drop 8) _ _ _
    refine wb_cons (ws_if (m := F.at (n + 43)) (et_gt (ev_var (x := wy) 2 rfl) (ev_int (i := 5))) j7 (fun H8 s8 hk => ?_) fun H8 s8 hk => ?_)
    · refine wb_one (ws_unp2 (m := F.at (n + 43)) 3 4 (ev_pair (ev_pair (ev_int (i := 1)) (ev_int (i := 0))) (ev_pair (ev_int (i := 0)) (ev_int (i := 1)))) s8.j fun u3 u4 H9 z1 s9 p1 q3' q4' => ?_)
      subst p1
      exact fin _ H9 u3 u4 (1, 0) (0, 1) hD' (Kp.trans k7 (Kp.trans s8.keep s9.keep)) s9.j q3' q4' g10 g01 (.inr (by decide))
    · refine wb_one (ws_if (m := F.at (n + 43)) (et_gt (ev_var (x := wy) 2 rfl) (ev_int (i := 3))) s8.j (fun H9 s9 hk2 => ?_) fun H9 s9 hk2 => wb_nil ?_)
      · have s89 := s8.trans s9
        have q3 := s89.rep (mono (Kp.trans k35 k7) r3)
        have q4' := s89.rep q4
        refine wb_one (ws_unp2 (m := F.at (n + 43)) (P := fun z : Str2 => goodP z.1 ∧ goodP z.2 ∧ (z.1 = z.2 ∨ leadsB z.1 z.2 = true)) 3 4 (ev_if (et_eqI (ev_var (x := wy) 2 rfl) (ev_int (i := 4))) (fun h => (ev_pair (ev_pair (ev_int (i := 1)) (ev_int (i := 0))) (ev_var 4 q4')).imp fun z hz => ?_) fun h => (ev_pair (ev_var 3 q3) (ev_pair (ev_int (i := 0)) (ev_int (i := 1)))).imp fun z hz => ?_) s9.j fun u3 u4 H10 z1 s10 ⟨p1, p2, p3⟩ q5 q6 => ?_)
        · rw [hz]
          exact ⟨g10, gh, good10 gh⟩
        · rw [hz]
          exact ⟨g1, g01, good01 g1⟩
        · exact fin _ H10 u3 u4 z1.1 z1.2 hD' (Kp.trans k7 (Kp.trans s89.keep s10.keep)) s10.j q5 q6 p1 p2 p3
      · have s89 := s8.trans s9
        exact fin _ H9 v3 w4 st.1 hi hD' (Kp.trans k7 s89.keep) s9.j (s89.rep (mono (Kp.trans k35 k7) r3)) (s89.rep q4) g1 gh gg
  refine wb_cons (ws_if (m := F.at (n + 43)) (et_eqI (ev_var (x := wy) 2 rfl) (ev_int (i := 2))) s6.j (fun H7 s7 hk2 => ?_) fun H7 s7 hk2 => wb_nil ?_)
  · have q3 := s7.rep (s6.rep (mono k35 r3))
    refine wb_one (ws_set (m := F.at (n + 43)) (j := s7.j) 4 (ev_var 3 q3) fun v7 H8 z s8 pz rz => ?_)
    subst pz
    exact third _ H8 v7 st.1 rfl (Kp.trans s6.keep (Kp.trans s7.keep s8.keep)) s8.j rz g1 (.inl rfl)
  · exact third _ H7 v4 st.2 rfl (Kp.trans s6.keep s7.keep) s7.j (s7.rep (s6.rep (mono k35 r4))) g2 (.inr g3)
end
end HK
set_option Elab.async false
set_option linter.all false
set_option maxRecDepth 100000
set_option maxHeartbeats 4000000
/-! F22: the draw begun. -/
namespace HK
open PySem PySem.Spec PyProof.Rows L2 LamX
open Rep Arg
/-- from the script: a draw, all new -/
def spBegun (K : PySem.W.Frag) : Sp := fun vs H Q _ => ∃ (v : V) (xs : List Int), vs = [v] ∧ rep K (fun b => ∃ ws, H b = some (.lst ws)) H v (Sq.mk xs) ∧ xs.length ≤ 1000000 ∧
  ∀ (d g c : Addr) (gs cs : List Int) (H' : Hp), Ex H H' → g ≠ c → H' d = some (.dK (dkOf g c 0 0)) → H' g = some (.lst (gs.map V.int)) → H' c = some (.lst (cs.map V.int)) → Q (.ref d) H'
theorem ints_of {K : PySem.W.Frag} {M : Addr → Prop} {H : Hp} {vs : List V} {xs : List Int} (r : Reps K M H vs xs) : vs = xs.map V.int := by
  induction r with
  | nil => rfl
  | cons h t ih => rw [List.map_cons, ← ih, show _ = V.int _ from h]
theorem m0_ex {H H' : Hp} (s : Step m0 H H') : Ex H H' := fun b o h => s.keep b o (fun z => z.elim) h
section
variable {P : Program} {w : World} {K : PySem.W.Frag} {mg : Str → Option Value} {base : Heap}
theorem ok_begun (C : Consts K mg) (F0 : FnX K mg "_law_begun" sBegun ["_law_script"]) : FnOk P w K mg base CX0 1 F0.f F0.fd ["_law_script"] (spBegun K) := by
  have S := scBegun
  refine fn_ok F0 S (fun vs H Q E ⟨v, xs, e, _⟩ => by rw [e]; rfl) fun cdv A outer s H vs Q E hr ⟨v, xs, e, r, hl, q⟩ => ?_
  subst e
  have r0 : rep K m0.M H v (Sq.mk xs) := shift (fun b hb => hb.elim) r
  have cp : CPow 10 18 := ⟨by decide, by decide, by decide⟩
  refine wb_cons (ws_lc1Z (m := m0) (xs := Sq.mk xs) 1 2 (fun z => decide ((10 : Int) ^ (18 : Int).toNat ≤ iabs z)) (fun z => iabs z - (10 : Int) ^ (18 : Int).toNat) (ev_var 0 r0) hl (show BlkOk ["_law_script", "_law_great", "_law_cell"] (defScope sBegun) _ [("_law_cell", 2)] from blkOk_by (by decide +kernel))
    (fun m' s0 H0 C' cl fp u z H' up' j' hz ru => et_ge (ev_abs (C.none _ (by decide)) (ev_var 2 ru)) (ev_pow (ev_int (i := 10)) (ev_int (i := 18)) cp))
    (fun m' s0 H0 C' cl fp u z H' up' j' hz _ ru => ev_sub (ev_abs (C.none _ (by decide)) (ev_var 2 ru)) (ev_pow (ev_int (i := 10)) (ev_int (i := 18)) cp)) trivial fun v1 H1 s1 r1 => ?_)
  generalize (List.filter _ xs).map _ = gs at r1
  refine wb_one (ws_of (ps_ret (pe_disp (pps_cons pe_str pe_w (pps_cons pe_str pe_w (pps_cons pe_str pe_int (pps_cons pe_str pe_int pps_nil)))) rfl rfl (by nofun) (by decide))) ?_)
  intro d hd
  have ed : Ex H1 (upd H1 d (.dK [])) := Ex.new hd
  have e1 := m0_ex s1
  have sd : Step m0 H1 (upd H1 d (.dK [])) := ⟨fun b o _ h => ed b o h, trivial⟩
  refine (ev_var (m := m0) (x := v1) 1 rfl) _ sd _ fun v2 H2 g' s2 pg rg => ?_
  cases (show v2 = g' from rg)
  subst pg
  obtain ⟨g, us, eg, ⟨_, hg1⟩, rg'⟩ := r1
  subst eg
  rw [ints_of rg'] at hg1
  have hgd : g ≠ d := fun z => by rw [z, hd] at hg1; cases hg1
  have e2 := m0_ex s2
  have hg2 := e2 _ _ ((upd_ne hgd).trans hg1)
  have hd2 := e2 _ _ (upd_same : upd H1 d (.dK []) d = _)
  have hlM : ∀ b, (b = g ∨ b = d) → H2 b ≠ none := fun b hb z => by
    rcases hb with hb | hb
    · rw [hb, hg2] at z; cases z
    · rw [hb, hd2] at z; cases z
  have r2 : rep K (fun b => b = g ∨ b = d) H2 v (Sq.mk xs) := mono (fun b o _ h => e2 b o (ed b o (e1 b o h))) (shift (fun b hb => ?sh) r)
  case sh =>
    cases hz : H b with
    | none => exact .inr rfl
    | some o =>
      have h1 := e1 b o hz
      rcases hb with hb | hb
      · rw [hb, hg1] at h1
        cases h1
        exact .inl ⟨_, rfl⟩
      · rw [hb, hd] at h1
        cases h1
  refine (ev_lc0Z (m := mF (fun b => b = g ∨ b = d) H2 hlM) (xs := Sq.mk xs) 2 (fun z => iabs z % 2147483629) (ev_var 0 r2) hl (show BlkOk ["_law_script", "_law_great", "_law_cell"] (defScope sBegun) _ [("_law_cell", 2)] from blkOk_by (by decide +kernel))
    (fun m' s0 H0 C' cl fp u z H' up' j' hz ru => ev_mod (ev_toInt (C.none _ (by decide)) (ev_abs (C.none _ (by decide)) (ev_var 2 ru))) (ev_int (i := 2147483629)) (by decide))) _ (Step.refl mF_j) _ fun v3 H3 c' s3 pc rc => ?_
  have e3 := mF_ex s3
  obtain ⟨c, ws, ec, ⟨hcM, hc⟩, rc'⟩ := rc
  subst ec
  rw [ints_of rc'] at hc
  have hcd : c ≠ d := fun z => hcM (.inr z)
  refine ⟨e3 _ _ hd2, [(.inr "great", .ref g), (.inr "cells", .ref c), (.inr "left", .int 0), (.inr "turn", .int 0)], rfl, (show (4 : Nat) ≤ 15 by decide), ?_⟩
  exact q d g c gs c' _ (fun b o h => (upd_ne (show b ≠ d from fun z => by rw [z] at h; have := e1 _ _ h; rw [hd] at this; cases this)).trans (e3 b o (e2 b o (ed b o (e1 b o h))))) (fun z => hcM (.inl z.symm)) upd_same ((upd_ne hgd).trans (e3 _ _ hg2)) ((upd_ne hcd).trans hc)
end
end HK
set_option Elab.async false
set_option linter.all false
set_option maxRecDepth 100000
set_option maxHeartbeats 4000000
/-! F23: same: two fronts shown alike; calls where nothing is being shown. -/
namespace HK
open PySem PySem.Spec PyProof.Rows L2 LamX
open Rep Arg
/-! ### a front as data -/
def encF : Fr → PyData
  | .none => .none
  | .endless => .tuple [.str sEndless]
  | .at p n => .tuple [.str sAt, Dat.enc p, .int n]
  | .over lo hi cs => .tuple [.str sOver, Dat.enc lo, Dat.enc hi, .tuple (cs.map Dat.enc)]
theorem dpF {K : PySem.W.Frag} {M : Addr → Prop} {H : Hp} {v : V} {x : Fr} (r : rep K M H v x) : Dp K H v (encF x) := by
  cases x with
  | none => cases (show v = .non from r); exact .non
  | endless =>
    obtain ⟨a, e, t⟩ := r
    subst e
    exact .tup t.sq (.cons (.str _) .nil)
  | «at» p n =>
    obtain ⟨a, v1, e, t, r1⟩ := r
    subst e
    exact .tup t.sq (.cons (.str _) (.cons (Dat.dp r1) (.cons (.int _) .nil)))
  | over lo hi cs =>
    obtain ⟨a, v1, v2, v3, e, t, r1, r2, b, vs, e3, t3, r3⟩ := r
    subst e
    subst e3
    exact .tup t.sq (.cons (.str _) (.cons (Dat.dp r1) (.cons (Dat.dp r2) (.cons (.tup t3.sq (dpAll r3)) .nil))))
/-- a front that can be shown -/
def okF : Fr → Prop
  | .none => True
  | .endless => True
  | .at p n => Sm2 1000 p ∧ Sm 1000 n
  | .over lo hi cs => Sm2 1000 lo ∧ Sm2 1000 hi ∧ cs.length ≤ 100 ∧ ∀ c, c ∈ cs → Sm2 1000 c
theorem sm_log {i : Int} (h : Sm 1000 i) : i.natAbs.log2 < 1920 := by
  unfold Sm at h
  by_cases z : i.natAbs = 0
  · rw [z]; decide
  · have := (Nat.log2_lt z).mpr h
    omega
theorem int_show {i : Int} (h : Sm 1000 i) : (PyData.shown (.int i)).length ≤ 1921 := by
  simp only [PyData.shown]
  exact int_text_len_1921 (sm_log h)
theorem tup_show (ds : List PyData) : (PyData.shown (.tuple ds)).length ≤ piled (PyData.shownAll ds) + 2 := by
  simp only [PyData.shown]
  exact fmt_text _
theorem pair_show {p : P2} (h : Sm2 1000 p) : (PyData.shown (Dat.enc p)).length ≤ 4000 := by
  have h1 := tup_show [.int p.1, .int p.2]
  have h2 := int_show h.1
  have h3 := int_show h.2
  simp only [PyData.shownAll, piled_cons] at h1
  have h4 : piled ([] : List Str) = 0 := rfl
  show (PyData.shown (.tuple [.int p.1, .int p.2])).length ≤ 4000
  omega
theorem pairs_show : ∀ cs : List P2, (∀ c, c ∈ cs → Sm2 1000 c) → piled (PyData.shownAll (cs.map Dat.enc)) ≤ 4002 * cs.length
  | [], _ => by simp only [List.map_nil, PyData.shownAll]; exact Nat.le_refl 0
  | c :: cs, h => by
    have h1 := pair_show (h c List.mem_cons_self)
    have h2 := pairs_show cs fun z hz => h z (List.mem_cons_of_mem _ hz)
    simp only [List.map_cons, PyData.shownAll, piled_cons, List.length_cons]
    omega
theorem pair_able {p : P2} (h : Sm2 1000 p) : (Dat.enc p : PyData).showable = true := by
  show PyData.showable (.tuple [.int p.1, .int p.2]) = true
  simp only [PyData.showable, PyData.showableAll, decide_eq_true (sm_log h.1), decide_eq_true (sm_log h.2), Bool.and_true]
theorem pairs_able : ∀ cs : List P2, (∀ c, c ∈ cs → Sm2 1000 c) → PyData.showableAll (cs.map Dat.enc) = true
  | [], _ => by simp only [List.map_nil, PyData.showableAll]
  | c :: cs, h => by
    simp only [List.map_cons, PyData.showableAll, pair_able (h c List.mem_cons_self), pairs_able cs fun z hz => h z (List.mem_cons_of_mem _ hz), Bool.and_true]
theorem encF_lay : ∀ x : Fr, (encF x).canLay0 = true
  | .none => by simp only [encF, PyData.canLay0]
  | .endless => by simp only [encF, PyData.canLay0, PyData.canLayAll0, Bool.and_true]; decide +kernel
  | .at p n => by simp only [encF, PyData.canLay0, PyData.canLayAll0, Bool.and_true, Dat.lay p]; decide +kernel
  | .over lo hi cs => by simp only [encF, PyData.canLay0, PyData.canLayAll0, Bool.and_true, Dat.lay lo, Dat.lay hi, layAll cs]; decide +kernel
theorem encF_depth : ∀ x : Fr, (encF x).depth ≤ 3
  | .none => by simp only [encF, PyData.depth]; omega
  | .endless => by simp only [encF, PyData.depth, PyData.depthAll]; omega
  | .at p n => by
    have h := Dat.depth p
    have e : Dat.dep P2 = 1 := rfl
    simp only [encF, PyData.depth, PyData.depthAll]
    omega
  | .over lo hi cs => by
    have h1 := Dat.depth lo
    have h2 := Dat.depth hi
    have h3 := depthAll cs
    have e : Dat.dep P2 = 1 := rfl
    simp only [encF, PyData.depth, PyData.depthAll]
    omega
theorem encF_able : ∀ {x : Fr}, okF x → (encF x).showable = true
  | .none, _ => by simp only [encF, PyData.showable]
  | .endless, _ => by simp only [encF, PyData.showable, PyData.showableAll, Bool.and_true]
  | .at p n, ⟨h1, h2⟩ => by simp only [encF, PyData.showable, PyData.showableAll, Bool.and_true, pair_able h1, decide_eq_true (sm_log h2)]
  | .over lo hi cs, ⟨h1, h2, _, h4⟩ => by simp only [encF, PyData.showable, PyData.showableAll, Bool.and_true, pair_able h1, pair_able h2, pairs_able cs h4]
theorem tag_show : (PyData.shown (.str sEndless)).length ≤ 50 ∧ (PyData.shown (.str sAt)).length ≤ 50 ∧ (PyData.shown (.str sOver)).length ≤ 50 := by
  simp only [PyData.shown]
  decide +kernel
theorem encF_len : ∀ {x : Fr}, okF x → (encF x).shown.length ≤ 500000
  | .none, _ => by simp only [encF, PyData.shown]; decide +kernel
  | .endless, _ => by
    have h1 := tup_show [.str sEndless]
    have h2 := tag_show
    have h4 : piled ([] : List Str) = 0 := rfl
    simp only [PyData.shownAll, piled_cons] at h1
    show (PyData.shown (.tuple [.str sEndless])).length ≤ 500000
    omega
  | .at p n, ⟨h1, h2⟩ => by
    have g1 := tup_show [.str sAt, Dat.enc p, .int n]
    have g2 := tag_show
    have g3 := pair_show h1
    have g5 := int_show h2
    have h4 : piled ([] : List Str) = 0 := rfl
    simp only [PyData.shownAll, piled_cons] at g1
    show (PyData.shown (.tuple [.str sAt, Dat.enc p, .int n])).length ≤ 500000
    omega
  | .over lo hi cs, ⟨h1, h2, h3, h5⟩ => by
    have g1 := tup_show [.str sOver, Dat.enc lo, Dat.enc hi, .tuple (cs.map Dat.enc)]
    have g2 := tag_show
    have g3 := pair_show h1
    have g4 := pair_show h2
    have g5 := tup_show (cs.map Dat.enc)
    have g6 := pairs_show cs h5
    have h4 : piled ([] : List Str) = 0 := rfl
    simp only [PyData.shownAll, piled_cons] at g1
    show (PyData.shown (.tuple [.str sOver, Dat.enc lo, Dat.enc hi, .tuple (cs.map Dat.enc)])).length ≤ 500000
    omega
theorem call_reprF {X : Cx} {k : Nat} (hg : X.A.guards = some []) (hr : Room k X.A) : CallR X (.builtin "repr") (fun xs H Q => ∃ (v : V) (M : Addr → Prop) (x : Fr), xs = [v] ∧ rep X.K M H v x ∧ okF x ∧ Q (.str (encF x).shown) H) := by
  intro pins s σ H xs us Q I r ⟨v, M, x, e, rx, ok, q⟩
  subst e
  obtain ⟨u, rfl, ru⟩ := vals1 r
  by_cases hx : x = .none
  · subst hx
    cases (show v = .non from rx)
    cases ru
    refine PySem.P.repr_of_none ⟨.str _, H, I.tok _, ⟨_, rfl⟩, q⟩
  · obtain ⟨as, rd⟩ := Dp.reads I (encF x) v u (dpF rx) ru
    have hv : ∃ a, v = .ref a := by
      cases x with
      | none => exact absurd rfl hx
      | endless => obtain ⟨a, e, _⟩ := rx; exact ⟨a, e⟩
      | «at» p n => obtain ⟨a, v1, e, _⟩ := rx; exact ⟨a, e⟩
      | over lo hi cs => obtain ⟨a, v1, v2, v3, e, _⟩ := rx; exact ⟨a, e⟩
    obtain ⟨a, rfl⟩ := hv
    cases ru
    have hd := encF_depth x
    have hl := encF_len ok
    have hu := hr.un
    refine repr_of_reads' rd (encF_able ok) (PyData.noDict_hsm (PyData.hasDict_of_canLay _ (encF_lay x))) hg (by omega) (fun b o h => h) (fun h' u tk hk => ⟨.str _, H, I.kept hk, ⟨_, rfl⟩, q⟩) (by rw [sizeLine_eq]; omega)
/-! ### defs that want that nothing is being shown -/
structure FnOkG (P : Program) (w : World) (K : PySem.W.Frag) (mg : Str → Option Value) (base : Heap) (k : Nat) (f : Addr) (fd : FuncData) (ps : List Str) (sp : Sp) : Prop where
  len : ∀ vs H Q E, sp vs H Q E → vs.length = ps.length
  run : ∀ (A : Around) (outer : List Env) (s : Shared) (H : Hp) (args : Args) (us : List Value) (vs : List V) (Q : VK) (E : XK), A.guards = some [] → Room k A → Env0 P w K mg base A outer s H → BindsTo s fd args (ps.zip us) → Vals vs us → sp vs H Q E →
    codeAny (model P w) A (.call (.ref f) args) (CR CX0 outer P w H s Q E) s
section
variable {P : Program} {w : World} {K : PySem.W.Frag} {mg : Str → Option Value} {base : Heap} {nm : Str} {st : Stmt} {ps N : List Str} {k : Nat}
theorem deeper_guards {A : Around} (e : Env) : (A.deeper e).guards = A.guards := rfl
theorem fn_okG {sp : Sp} (F : FnX K mg nm st ps) (S : FnScope N ps (defScope st)) (len : ∀ vs H Q E, sp vs H Q E → vs.length = ps.length)
    (body : ∀ (cdv : Value) (A : Around) (outer : List Env) (s : Shared) (H : Hp) (vs : List V) (Q : VK) (E : XK), A.guards = some [] → Room k (A.deeper (envOfC nm (defScope st) s.heap.objs.size F.f cdv)) → sp vs H Q E →
      WB (bcx P w K mg base N nm st F.f cdv A outer s H E) (defBody st) { nx := fun _ H' => Q .non H', rt := Q } (L2.start N vs) H) : FnOkG P w K mg base (k + 1) F.f F.fd ps sp := by
  obtain ⟨f, fd, FF, gg, bb⟩ := F
  refine ⟨len, fun A outer s H args us vs Q E hg hr e0 hb r h => ?_⟩
  have hl := len _ _ _ _ h
  obtain ⟨⟨oc, od, kV, doc, pm, an, cdv, ct, osl, efd, lk, hcd⟩, kp⟩ := FF
  simp only at hb lk
  subst efd
  exact LamX.run_ofS lk hcd S hr e0 hb r hl fun hr' => ⟨_, PSs.nox pss_w, body cdv A outer s H vs Q E hg hr' h⟩
end
section
variable {X : Cx} {k : Nat} {f : Addr} {fd : FuncData} {ps : List Str} {sp : Sp} {ds : List Value} {x : Str} {p pos : Pos} {e : Expr} {es : List Expr} {t : TA}
theorem pe_callG (F : FnOkG X.prog X.w X.K X.mg X.base k f fd ps sp) (hG : X.A.guards = some []) (hr : Room k X.A) (hg : Gl X x) (hm : X.mg x = some (.ref f)) (hk : PySem.W.keepIn X.K (.ref f) = true) (hb : Binds X.K fd ps [])
    (ha : PA X (e :: es) t) (hdb : (x == ("__debug__" : Str)) = false := by decide) (he : starEach (e :: es) X.env = (false, eval e X.env) :: starEach es X.env := by rfl) (hpl : (backTo pos (starEach es X.env)).any (·.1) = false := by rfl) :
    PE X (.Call (.Name x p) (e :: es) [] pos) (tCall sp [] E0 t) := by
  refine ⟨fun pins s σ H Q I h => ?_⟩
  refine wpAny_Call_Name_kw (ld_glob I hg hm ?_ hdb)
  refine PySem.W.callWith_K (h₀ := X.base) I.ok.mod.kin hk (thn (ha.run pos pins s σ H _ I h) fun us s1 ⟨vs, H1, I1, r, q⟩ => ⟨I1.kIn, ?_⟩) he hpl
  have q' : sp vs H1 Q E0 := by
    have z : sp (vs ++ []) H1 Q E0 := q
    rw [List.append_nil] at z
    exact z
  have hl : us.length = ps.length := by rw [← r.length]; exact F.len _ _ _ _ q'
  refine wpAny_call (codeAny_mono (F.run X.A X.stack s1 H1 ⟨us, []⟩ us vs Q E0 hG hr I1.env0 (by have := hb s1 us I1.kIn (by rw [List.append_nil]; exact hl); rw [List.append_nil] at this; exact this) r q') fun r s' hq => ?_)
  cases r with
  | error e => exact pass0 pins σ H1 s1 e s' I1 hq
  | ok fl =>
    cases fl with
    | ret u => exact I1.after hq
    | next => exact False.elim hq
    | brk => exact False.elim hq
    | cont => exact False.elim hq
end
/-! ### same -/
abbrev sSame : Stmt := topS 40
theorem scSame : FnScope ["_law_found", "_law_due"] ["_law_found", "_law_due"] (defScope sSame) := ⟨rfl, rfl, rfl, by decide +kernel, rfl, by decide +kernel, by decide +kernel⟩
/-- two fronts that are alike -/
def spSame (K : PySem.W.Frag) : Sp := fun vs H Q _ => ∃ (M : Addr → Prop) (v w : V) (x : Fr), vs = [v, w] ∧ (∀ b, M b → H b ≠ none) ∧ rep K M H v x ∧ rep K M H w x ∧ okF x ∧ ∀ H', Ex H H' → Q (.bl true) H'
section
variable {X : Cx} {m : Mode} {σ : L2.St} {H : Hp} {e : Expr} {pos p : Pos} {k : Nat} {x : Fr}
theorem ev_eqS {a b : Expr} {x y : Str} (ha : EvD X m a σ H (V.str x)) (hb : EvD X m b σ H (V.str y)) : EvD X m (.Compare a [.Eq] [b] pos) σ H (decide (V.str x = V.str y)) := ev_cmp op_eq (nomark _) ha hb fun v w x y H1 Q s1 px py rx ry q => by
  cases rx
  cases ry
  cases px
  cases py
  exact ⟨rfl, q _ H1 _ (Step.refl s1.j) rfl rfl⟩
theorem ev_reprF {n : Str} (hG : X.A.guards = some []) (hr : Room k X.A) (hm : X.mg n = none) (ha : EvD X m e σ H x) (ok : okF x) (hv : bootBuiltins n = some (.builtin "repr") := by decide +kernel) (hg : Gl X n := by rfl) (hn : n ≠ "__name__" := by decide) (hdb : (n == ("__debug__" : Str)) = false := by decide)
    (na : NS e := by exact fun _ _ => rfl) : EvD X m (.Call (.Name n p) [e] [] pos) σ H (V.str (encF x).shown) :=
  ev_callB (call_reprF hG hr) hm hv (el_cons ha el_nil na) (fun vs H1 Q s1 ⟨v, ws, e1, r1, e2⟩ q => by
    subst e2; subst e1
    exact ⟨v, m.M, x, rfl, r1, ok, q _ H1 _ (Step.refl s1.j) rfl rfl⟩) hg hn hdb (na _ _)
end
section
variable {P : Program} {w : World} {K : PySem.W.Frag} {mg : Str → Option Value} {base : Heap}
theorem ok_same (C : Consts K mg) (F0 : FnX K mg "_law_same" sSame ["_law_found", "_law_due"]) : FnOkG P w K mg base 2 F0.f F0.fd ["_law_found", "_law_due"] (spSame K) := by
  have S := scSame
  refine fn_okG F0 S (fun vs H Q E ⟨M, v, w, x, e, _⟩ => by rw [e]; rfl) fun cdv A outer s H vs Q E hG hr ⟨M, v, w, x, e, hl, r1, r2, ok, q⟩ => ?_
  subst e
  refine wb_one (ws_ret (m := mF M H hl) (ev_eqS (ev_reprF hG hr (C.none _ (by decide)) (ev_var 0 r1) ok) (ev_reprF hG hr (C.none _ (by decide)) (ev_var 1 r2) ok)) mF_j fun v H' z s' pz rz => ?_)
  have e : z = true := pz.trans (decide_eq_true rfl)
  subst e
  cases (show v = .bl true from rz)
  exact q H' (mF_ex s')
end
end HK
set_option Elab.async false
set_option linter.all false
set_option maxRecDepth 100000
set_option maxHeartbeats 4000000
/-! F24: the end of the row, for a law that wants that nothing is being shown. -/
namespace HK
open PySem PySem.Spec PyProof.Rows L2 LamX
section
variable {P : Program} {w : World} {K : PySem.W.Frag} {mg mb : Str → Option Value} {k : Nat} {fa a : Addr} {cs : List (Addr × Addr)} {fd : FuncData} {x : Str} {sp : Sp} {s₁ : Shared} {vs : List Value} {ns : List Int}
/-- what is tracked as the law begins: the tables, and the script if the kept part does not hold it -/
noncomputable def H00 (K : PySem.W.Frag) (cs : List (Addr × Addr)) (a : Addr) (vs : List Value) (ns : List Int) : Hp := fun b =>
  if b ∈ cs.map (·.2) then some (.tbl #[]) else if b = a ∧ K.lookup a = none then some (.frz { cls := .type "list", data := .seq vs.toArray } (.lst (ns.map V.int))) else none
theorem H00_cases {b : Addr} {u : HO} (h : H00 K cs a vs ns b = some u) : (b ∈ cs.map (·.2) ∧ u = .tbl #[]) ∨ (b = a ∧ K.lookup a = none ∧ u = .frz { cls := .type "list", data := .seq vs.toArray } (.lst (ns.map V.int))) := by
  unfold H00 at h
  split at h
  · next hb => cases h; exact .inl ⟨hb, rfl⟩
  · split at h
    · next hb => cases h; exact .inr ⟨hb.1, hb.2, rfl⟩
    · cases h
theorem law_callG (KX : K.In s₁.heap) (hns : s₁.heap.Ns mainGlobals mg) (hb : s₁.heap.Ns builtinsNs mb) (hbb : ∀ x : Str, x ≠ "__name__" → mb x = bootBuiltins x) (hlim : s₁.heap.NoLimit) (hg : s₁.gens = #[])
    (hT : ∀ p ∈ cs, s₁.heap.get? p.2 = some { cls := .none, data := .fields #[] }) (nT : ∀ p ∈ cs, K.lookup p.2 = none) (C : ∀ p ∈ cs, PySem.W.CodeHd s₁.heap p.1 p.2)
    (hbm : ∃ (bm : Addr) (ob : Obj), mg "__builtins__" = some (.ref bm) ∧ bm ≠ builtinsNs ∧ s₁.heap.get? bm = some ob ∧ ob.cls = .type "module" ∧ ob.dict = some builtinsNs ∧ ob.data = .plain)
    (ha : s₁.heap.get? a = some { cls := .type "list", data := .seq vs.toArray }) (hi : IntsAre vs ns) (hl : ns.length ≤ sizeLine) (hr : Room k callerA)
    (F : ∀ base : Heap, K.In base → base.Ns mainGlobals mg → (∀ p ∈ cs, TabB base mg p.1 p.2) → FnOkG P w K mg base k fa fd [x] sp) (hbind : ∀ (s : Shared) (u : Value), BindsTo s fd ⟨[u], []⟩ [(x, u)])
    (hsp : ∀ H : Hp, (∀ p ∈ cs, H p.2 = some (.tbl #[])) → (∀ b o, H b = some o → (∃ us, o = .tbl us) ∨ ∃ q xs, o = .frz q (.lst xs)) → SqL K H a (ns.map V.int) → sp [.ref a] H (fun v _ => v = .bl true) E0) :
    codeAny (model P w) callerA (.call (.ref fa) ⟨[.ref a], []⟩) (fun r s' => r = .ok (.ret (.bool true)) ∧ OldK s₁.heap s'.heap ∧ s'.os = s₁.os ∧ AllBare s'.gens) s₁ := by
  have rv := vals_ints hi
  have lenV := hi.length
  have isT : ∀ b : Addr, b ∈ cs.map (·.2) → s₁.heap.get? b = some { cls := .none, data := .fields #[] } := fun b hb => by
    obtain ⟨p, hp, e⟩ := List.mem_map.mp hb
    rw [← e]
    exact hT p hp
  have atT : ∀ p ∈ cs, H00 K cs a vs ns p.2 = some (.tbl #[]) := fun p hp => if_pos (List.mem_map.mpr ⟨p, hp, rfl⟩)
  have aT : a ∉ cs.map (·.2) := fun z => by
    have e := (isT a z).symm.trans ha
    cases e
  -- the heap as tracked
  have hok : HOk P w (H00 K cs a vs ns) s₁.heap := fun b u z => by
    rcases H00_cases z with ⟨hb, e⟩ | ⟨hb, _, e⟩
    · subst e
      exact isT b hb
    · subst e
      rw [hb]
      exact ⟨ha, by rw [List.length_map]; exact hl, vs, _, rv, ha⟩
  have hN : ∀ b o, s₁.heap.get? b = some o → (K.lookup b ≠ none ∨ ((∀ v n, o.data ≠ .seq v n) ∧ o.data ≠ .fields #[])) → H00 K cs a vs ns b = none := fun b o e h => by
    cases z : H00 K cs a vs ns b with
    | none => rfl
    | some u =>
      rcases H00_cases z with ⟨hb, _⟩ | ⟨hb, hk, _⟩
      · rcases h with h | ⟨_, h⟩
        · obtain ⟨p, hp, ep⟩ := List.mem_map.mp hb
          exact absurd (by rw [← ep]; exact nT p hp) h
        · rw [isT b hb] at e
          cases e
          exact absurd rfl h
      · rcases h with h | ⟨h, _⟩
        · exact absurd (by rw [hb]; exact hk) h
        · rw [hb, ha] at e
          cases e
          exact absurd rfl (h _ _)
  have hN2 : ∀ {b o}, s₁.heap.get? b = some o → (∀ v n, o.data ≠ .seq v n) → o.data ≠ .fields #[] → (hidT s₁.heap (H00 K cs a vs ns)).get? b = some o := fun e h1 h2 => hidT_get e (hN _ _ e (.inr ⟨h1, h2⟩))
  have nsK : ∀ {b : Addr} {m : Str → Option Value}, s₁.heap.Ns b m → (hidT s₁.heap (H00 K cs a vs ns)).Ns b m := fun {b m} ⟨o, es, ep, e, d, r⟩ => ⟨o, es, ep, hN2 e (fun v n z => by rw [d] at z; cases z) (fun z => by rw [d] at z; cases z), d, r⟩
  have hKb : K.In (hidT s₁.heap (H00 K cs a vs ns)) := fun b o e => hidT_get (KX b o e) (hN b o (KX b o e) (.inl (by rw [e]; exact Option.some_ne_none o)))
  have hM : L2.Mod K mg (hidT s₁.heap (H00 K cs a vs ns)) := ⟨hKb, nsK hns, ⟨mb, nsK hb, hbb⟩, let ⟨mc, h1, h2⟩ := hlim; ⟨mc, nsK h1, h2⟩⟩
  -- the tables of code objects, below
  have TB : ∀ p ∈ cs, TabB (hidT s₁.heap (H00 K cs a vs ns)) mg p.1 p.2 := fun p hp => by
    have tp := hT p hp
    obtain ⟨bm, ob, b1, b2, b3, b4, b5, b6⟩ := hbm
    obtain ⟨og, eg, pg, g1, g2, _⟩ := hns
    refine ⟨?_, ⟨bm, ob, b1, b2, fun z => ?_, fun z => ?_, hN2 b3 (fun v n z => by rw [b6] at z; cases z) (fun z => by rw [b6] at z; cases z), b4, b5, b6⟩, fun z => ?_⟩
    · obtain ⟨o, us, file, tf, flags, tg, inF, text, tt, e1, e2, e3, e4, r⟩ := C p hp
      exact ⟨o, us, file, tf, flags, tg, inF, text, tt, hN2 e1 (fun v n z => by rw [e3] at z; cases z) (fun z => by rw [e3] at z; cases z; simp at e4), e2, e3, e4, r⟩
    · rw [z, g1] at b3
      cases b3
      rw [b6] at g2
      cases g2
    · rw [z, tp] at b3
      cases b3
      cases b6
    · rw [z, tp] at g1
      cases g1
      cases g2
  have hS : SqL K (H00 K cs a vs ns) a (ns.map V.int) := by
    cases hk : K.lookup a with
    | some o =>
      have e := (KX a o hk).symm.trans ha
      cases e
      exact .inr ⟨_, vs.toArray, _, hk, rfl, rfl, rfl, by rw [List.size_toArray, lenV]; exact hl, by simpa using rv⟩
    | none => exact .inl (.inr ⟨_, (if_neg aT).trans (if_pos ⟨rfl, hk⟩)⟩)
  have e0 : Env0 P w K mg (hidT s₁.heap (H00 K cs a vs ns)) callerA [] s₁ (H00 K cs a vs ns) := ⟨rfl, hM, fun b o e => of_hidT e, Nat.le_of_eq (hidT_size _ _), trivial, fun b hb => absurd (show b ∈ ([] : List Addr) from hb) (by simp), hok, .of_eq hg⟩
  refine codeAny_mono ((F _ hKb (nsK hns) TB).run callerA [] s₁ (H00 K cs a vs ns) ⟨[.ref a], []⟩ [.ref a] [.ref a] _ _ rfl hr e0 (hbind s₁ (.ref a)) (.cons rfl .nil) (hsp _ atT (fun b o z => ?_) hS)) fun r s' h => ?_
  · rcases H00_cases z with ⟨_, e⟩ | ⟨_, _, e⟩
    · exact .inl ⟨_, e⟩
    · exact .inr ⟨_, _, e⟩
  cases r with
  | error e => exact False.elim h
  | ok fl =>
    cases fl with
    | next => exact False.elim h
    | brk => exact False.elim h
    | cont => exact False.elim h
    | ret u =>
      obtain ⟨v, H', os, bare, un, hok', r', q⟩ := h
      cases (show v = .bl true from q)
      cases (show u = Value.bool true from r')
      have tab : ∀ b, b ∈ cs.map (·.2) → ∃ (p : Addr × Addr) (more : Array Value), p ∈ cs ∧ p.2 = b ∧ s'.heap.get? b = some { cls := .none, data := .fields more } := fun b hb => by
        obtain ⟨p, hp, e⟩ := List.mem_map.mp hb
        obtain ⟨more, z⟩ := un.tbls p.2 #[] (atT p hp)
        have z2 := hok' p.2 _ z
        rw [e] at z2
        exact ⟨p, _, hp, e, z2⟩
      have stay : ∀ b o, b ∉ cs.map (·.2) → s₁.heap.get? b = some o → s'.heap.get? b = some o := fun b o nb e => by
        cases z : H00 K cs a vs ns b with
        | none => exact un.keep b o e z (by intro y; exact absurd (show b ∈ ([] : List Addr) from y) (by simp)) (by simp)
        | some u =>
          rcases H00_cases z with ⟨hb, _⟩ | ⟨_, _, eu⟩
          · exact absurd hb nb
          · subst eu
            have e2 := (hok b _ z).1
            rw [e] at e2
            cases e2
            exact (hok' b _ (un.frzs b _ _ z)).1
      refine ⟨rfl, ⟨fun b o e => ?_, fun b o e => ?_⟩, os, bare⟩
      · by_cases nb : b ∈ cs.map (·.2)
        · obtain ⟨p, more, hp, ep, z⟩ := tab b nb
          rw [isT b nb] at e
          cases e
          exact .inr (.inl ⟨by rw [← ep]; exact ((C p hp).tab (hT p hp)).isCodeTable, rfl, #[], more, rfl, by rw [Array.empty_append]; exact z⟩)
        · exact .inl (stay b o nb e)
      · by_cases nb : b ∈ cs.map (·.2)
        · obtain ⟨p, more, hp, ep, z⟩ := tab b nb
          exact ⟨_, z⟩
        · exact ⟨o, stay b o nb e⟩
/-- what is to be known of the law -/
def LawAtG (l : PySem.W.OpenLaw) (w : World) (K : PySem.W.Frag) (k n : Nat) (x : Str) (mg : Str → Option Value) (fa : Addr) (h : Heap) : Prop :=
  ∃ (fd : FuncData) (cs : List (Addr × Addr)) (sp : Sp), (∀ p ∈ cs, h.get? p.2 = some { cls := .none, data := .fields #[] }) ∧ (∀ p ∈ cs, K.lookup p.2 = none) ∧ (∀ p ∈ cs, PySem.W.CodeHd h p.1 p.2) ∧ (∀ (s : Shared) (u : Value), BindsTo s fd ⟨[u], []⟩ [(x, u)]) ∧
    (∀ (H : Hp) (a : Addr) (ns : List Int), ns.length ≤ n → (∀ z ∈ ns, Builtin.Int.intBits z ≤ 1048576) → (∀ p ∈ cs, H p.2 = some (.tbl #[])) → (∀ b o, H b = some o → (∃ us, o = .tbl us) ∨ ∃ q xs, o = .frz q (.lst xs)) → SqL K H a (ns.map V.int) → sp [.ref a] H (fun v _ => v = .bl true) E0) ∧
    ∀ base : Heap, K.In base → base.Ns mainGlobals mg → (∀ p ∈ cs, TabB base mg p.1 p.2) → FnOkG l.prog w K mg base k fa fd [x] sp
theorem walk_ofG {l : PySem.W.OpenLaw} {n k : Nat} {q : Program} {loose : List Str} {XP : (Str → Option Value) → Heap → Prop} {YP : World → Heap → Prop} {d : DefRec} {K : Params → PySem.W.Frag} {x : Str}
    (hn : l.most = some n) (hn2 : n ≤ sizeLine) (hdf : d.params.defaults = []) (hr : Room k callerA) (hY : ∀ (w : World) (h : Heap), YP w h → (K w.params).In h)
    (F : ∀ (w : World) (mg : Str → Option Value) (fa : Addr) (h : Heap), YP w h → (K w.params).In h → h.Ns mainGlobals mg → mg d.name = some (.ref fa) → LawAtG l w (K w.params) k n x mg fa h) :
    PySem.W.WalkO q loose XP YP l.row.toRowW d [] (fun f vs => PySem.call f vs) := by
  refine Att.attach_callB hn hdf fun w s₀ s₁ mg mb fa o pm cd doc a vs ns G Y ho hd hcd hmg hobj hints hlen hbits hg => ?_
  obtain ⟨fd, cs, sp, hT, nT, C, hb, hsp, hF⟩ := F w mg fa _ Y (hY w _ Y) G.T.g hmg
  exact law_callG (hY w _ Y) G.T.g G.T.b G.T.builtins G.T.nolimit hg hT nT C G.T.bmain hobj hints (Nat.le_trans hlen hn2) hr hF hb fun H h1 h2 h3 => hsp H a ns hlen hbits h1 h2 h3
end
end HK
set_option Elab.async false
set_option linter.all false
set_option maxRecDepth 100000
/-! P1: prices and pairs in the plane. -/
namespace HK
def X (a b : P2) : Int := a.1 * b.2 - b.1 * a.2
def sb (p q : P2) : P2 := (p.1 - q.1, p.2 - q.2)
/-- n times t and u -/
def cb (n : Int) (t u : P2) : P2 := (n * t.1 + u.1, n * t.2 + u.2)
theorem leads_X {a b : P2} : leadsB a b = true ↔ 0 < X a b := by
  unfold leadsB X
  rw [decide_eq_true_iff]
  omega
theorem X_self (a : P2) : X a a = 0 := by unfold X; grind
theorem X_neg (a b : P2) : X b a = - X a b := by unfold X; grind
theorem wt_sb (p q t : P2) : wt (sb p q) t = wt p t - wt q t := by unfold wt sb; grind
theorem wt_cb (c t u : P2) (n : Int) : wt c (cb n t u) = n * wt c t + wt c u := by unfold wt cb; grind
theorem X_cb (a t u : P2) (n : Int) : X a (cb n t u) = n * X a t + X a u := by unfold X cb; grind
theorem X_cb' (a t u : P2) (n : Int) : X (cb n t u) a = n * X t a + X u a := by unfold X cb; grind
/-- a price in a cone, as its ends weigh it -/
theorem cone (lo hi t c : P2) : X lo hi * wt c t = X t hi * wt c lo + X lo t * wt c hi := by unfold X wt; grind
theorem coneX (lo hi t c : P2) : X lo hi * X c t = X t hi * X c lo + X lo t * X c hi := by unfold X; grind
theorem zero_of {lo hi d : P2} (h : X lo hi ≠ 0) (h1 : wt d lo = 0) (h2 : wt d hi = 0) : d.1 = 0 ∧ d.2 = 0 := by
  have e1 : X lo hi * d.1 = hi.2 * wt d lo - lo.2 * wt d hi := by unfold X wt; grind
  have e2 : X lo hi * d.2 = lo.1 * wt d hi - hi.1 * wt d lo := by unfold X wt; grind
  rw [h1, h2] at e1 e2
  simp only [Int.mul_zero, Int.sub_zero] at e1 e2
  exact ⟨(Int.mul_eq_zero.mp e1).resolve_left h, (Int.mul_eq_zero.mp e2).resolve_left h⟩
theorem eq_of_wt {lo hi p q : P2} (h : X lo hi ≠ 0) (h1 : wt p lo = wt q lo) (h2 : wt p hi = wt q hi) : p = q := by
  have := zero_of (d := sb p q) h (by rw [wt_sb]; omega) (by rw [wt_sb]; omega)
  unfold sb at this
  simp only at this
  exact Prod.ext (by omega) (by omega)
/-- strictly inside -/
def Ins (lo hi t : P2) : Prop := 0 < X lo t ∧ 0 < X t hi
theorem Ins.D {lo hi t : P2} (h0 : 0 ≤ t.1) (h1 : 0 ≤ t.2) (a0 : 0 ≤ lo.1) (a1 : 0 ≤ lo.2) (b0 : 0 ≤ hi.1) (b1 : 0 ≤ hi.2) (h : Ins lo hi t) : 0 < X lo hi := by
  obtain ⟨i1, i2⟩ := h
  have e1 : t.1 * X lo hi = lo.1 * X t hi + hi.1 * X lo t := by unfold X; grind
  have e2 : t.2 * X lo hi = lo.2 * X t hi + hi.2 * X lo t := by unfold X; grind
  by_cases z : 0 < lo.1
  · have h3 : 0 < lo.1 * X t hi := Int.mul_pos z i2
    have h4 : 0 ≤ hi.1 * X lo t := Int.mul_nonneg b0 (by omega)
    refine Int.lt_of_not_ge fun h5 => ?_
    have h6 : t.1 * X lo hi ≤ 0 := Int.mul_nonpos_of_nonneg_of_nonpos h0 h5
    omega
  · have z1 : lo.1 = 0 := by omega
    have i1' : X lo t = - (t.1 * lo.2) := by unfold X; rw [z1]; grind
    have := Int.mul_nonneg h0 a1
    omega
/-- a weight that is positive at t is positive near t -/
theorem big1 {A B : Int} (h : 0 < A ∨ (A = 0 ∧ 0 < B)) : ∃ n0 : Int, 0 ≤ n0 ∧ ∀ n, n0 ≤ n → 0 < n * A + B := by
  refine ⟨(B.natAbs : Int) + 1, by omega, fun n hn => ?_⟩
  rcases h with h | ⟨h1, h2⟩
  · have : n * 1 ≤ n * A := Int.mul_le_mul_of_nonneg_left (by omega) (by omega)
    omega
  · rw [h1]
    omega
theorem bigL {α : Type} (A B : α → Int) : ∀ l : List α, (∀ q, q ∈ l → 0 < A q ∨ (A q = 0 ∧ 0 < B q)) → ∃ n0 : Int, 0 ≤ n0 ∧ ∀ n, n0 ≤ n → ∀ q, q ∈ l → 0 < n * A q + B q
  | [], _ => ⟨0, by omega, fun _ _ _ h => nomatch h⟩
  | q :: l, h => by
    obtain ⟨n1, p1, h1⟩ := big1 (h q List.mem_cons_self)
    obtain ⟨n2, p2, h2⟩ := bigL A B l fun z hz => h z (List.mem_cons_of_mem _ hz)
    refine ⟨n1 + n2, by omega, fun n hn z hz => ?_⟩
    rcases List.mem_cons.mp hz with rfl | hz
    · exact h1 n (by omega)
    · exact h2 n (by omega) z hz
theorem bigL0 {α : Type} (A B : α → Int) (l : List α) (h : ∀ q, q ∈ l → 0 < A q) : ∃ n0 : Int, 0 ≤ n0 ∧ ∀ n, n0 ≤ n → ∀ q, q ∈ l → 0 < n * A q + B q := bigL A B l fun q hq => .inl (h q hq)
/-- p is better than all others at t -/
def Best (S : List P2) (p t : P2) : Prop := p ∈ S ∧ ∀ q, q ∈ S → q ≠ p → wt q t < wt p t
def Dom (lo hi : P2) (S F : List P2) : Prop := ∀ t, Ins lo hi t → ∀ s, s ∈ S → ∃ m, m ∈ F ∧ wt s t ≤ wt m t
theorem Dom.refl {lo hi : P2} {S : List P2} : Dom lo hi S S := fun t _ s hs => ⟨s, hs, Int.le_refl _⟩
theorem Dom.trans {lo hi : P2} {S F G : List P2} (h1 : Dom lo hi S F) (h2 : Dom lo hi F G) : Dom lo hi S G := fun t ht s hs => by
  obtain ⟨m, hm, l1⟩ := h1 t ht s hs
  obtain ⟨k, hk, l2⟩ := h2 t ht m hm
  exact ⟨k, hk, by omega⟩
theorem Dom.sub {lo hi : P2} {S F : List P2} (h : ∀ s, s ∈ S → s ∈ F) : Dom lo hi S F := fun t _ s hs => ⟨s, h s hs, Int.le_refl _⟩
/-- what is better than all others near t: there it stays so -/
theorem best_same {lo hi p t : P2} {S F : List P2} (D : 0 < X lo hi) (h1 : Dom lo hi S F) (h2 : Dom lo hi F S) (ht : Ins lo hi t) (hb : Best F p t) : Best S p t := by
  obtain ⟨hp, hq⟩ := hb
  have le : ∀ q, q ∈ F → wt q t ≤ wt p t := fun q hm => by
    by_cases e : q = p
    · rw [e]; exact Int.le_refl _
    · exact Int.le_of_lt (hq q hm e)
  -- what touches p at t, is p
  have key : ∀ s, s ∈ S → wt s t = wt p t → s = p := fun s hs e => by
    obtain ⟨n1, p1, b1⟩ := bigL0 (fun q => wt p t - wt q t) (fun q => wt p lo - wt q lo) (F.filter fun q => !decide (q = p)) fun q hm => by
      have := hq q (List.mem_filter.mp hm).1 (by simpa using (List.mem_filter.mp hm).2)
      omega
    obtain ⟨n2, p2, b2⟩ := bigL0 (fun q => wt p t - wt q t) (fun q => wt p hi - wt q hi) (F.filter fun q => !decide (q = p)) fun q hm => by
      have := hq q (List.mem_filter.mp hm).1 (by simpa using (List.mem_filter.mp hm).2)
      omega
    obtain ⟨i1, i2⟩ := ht
    have a1 : 0 ≤ wt p lo - wt s lo := by
      have hin : Ins lo hi (cb (n1 + 1) t lo) := ⟨by rw [X_cb, X_self]; have := Int.mul_pos (show 0 < n1 + 1 by omega) i1; omega, by rw [X_cb']; have := Int.mul_pos (show 0 < n1 + 1 by omega) i2; omega⟩
      obtain ⟨m, hm, l1⟩ := h1 _ hin s hs
      rw [wt_cb, wt_cb] at l1
      by_cases z : m = p
      · rw [z, e] at l1; omega
      · have := b1 (n1 + 1) (by omega) m (List.mem_filter.mpr ⟨hm, by simpa using z⟩)
        rw [e] at l1
        have e3 : (n1 + 1) * (wt p t - wt m t) = (n1 + 1) * wt p t - (n1 + 1) * wt m t := Int.mul_sub _ _ _
        omega
    have a2 : 0 ≤ wt p hi - wt s hi := by
      have hin : Ins lo hi (cb (n2 + 1) t hi) := ⟨by rw [X_cb]; have := Int.mul_pos (show 0 < n2 + 1 by omega) i1; omega, by rw [X_cb', X_self]; have := Int.mul_pos (show 0 < n2 + 1 by omega) i2; omega⟩
      obtain ⟨m, hm, l1⟩ := h1 _ hin s hs
      rw [wt_cb, wt_cb] at l1
      by_cases z : m = p
      · rw [z, e] at l1; omega
      · have := b2 (n2 + 1) (by omega) m (List.mem_filter.mpr ⟨hm, by simpa using z⟩)
        rw [e] at l1
        have e3 : (n2 + 1) * (wt p t - wt m t) = (n2 + 1) * wt p t - (n2 + 1) * wt m t := Int.mul_sub _ _ _
        omega
    have c := cone lo hi t (sb p s)
    rw [wt_sb, wt_sb, wt_sb, e, Int.sub_self, Int.mul_zero] at c
    have m1 := Int.mul_nonneg (Int.le_of_lt i2) a1
    have m2 := Int.mul_nonneg (Int.le_of_lt i1) a2
    have z1 : X t hi * (wt p lo - wt s lo) = 0 := by omega
    have z2 : X lo t * (wt p hi - wt s hi) = 0 := by omega
    have y1 := (Int.mul_eq_zero.mp z1).resolve_left (by omega)
    have y2 := (Int.mul_eq_zero.mp z2).resolve_left (by omega)
    exact eq_of_wt (lo := lo) (hi := hi) (by omega) (by omega) (by omega)
  have top : ∀ s, s ∈ S → wt s t ≤ wt p t := fun s hs => by
    obtain ⟨m, hm, l1⟩ := h1 t ht s hs
    have := le m hm
    omega
  obtain ⟨s, hs, l1⟩ := h2 t ht p hp
  have := top s hs
  have es := key s hs (by omega)
  refine ⟨by rw [← es]; exact hs, fun q hq' ne => ?_⟩
  have := top q hq'
  have h3 : wt q t ≠ wt p t := fun e => ne (key q hq' e)
  omega
end HK
set_option Elab.async false
set_option linter.all false
set_option maxRecDepth 100000
/-! P2: where a pair is alone. -/
namespace HK
def Pos (t : P2) : Prop := 0 ≤ t.1 ∧ 0 ≤ t.2 ∧ 0 < t.1 + t.2
theorem pos_price {t : P2} (h : isPriceB t = true) : Pos t := by
  unfold isPriceB at h
  simp only [Bool.and_eq_true, decide_eq_true_eq] at h
  obtain ⟨h0, h1, h2⟩ := h
  refine ⟨h0, h1, ?_⟩
  refine Int.lt_of_not_ge fun z => ?_
  have e1 : t.1 = 0 := by omega
  have e2 : t.2 = 0 := by omega
  unfold gcdI at h2
  rw [e1, e2] at h2
  simp at h2
theorem trans_ll {u v w : P2} (hu : Pos u) (hv : Pos v) (hw : Pos w) (h1 : 0 ≤ X u v) (h2 : 0 < X v w) : 0 < X u w := by
  have e : (v.1 + v.2) * X u w = (u.1 + u.2) * X v w + (w.1 + w.2) * X u v := by unfold X; grind
  have m1 := Int.mul_pos hu.2.2 h2
  have m2 := Int.mul_nonneg (Int.le_of_lt hw.2.2) h1
  refine Int.lt_of_not_ge fun z => ?_
  have := Int.mul_nonpos_of_nonneg_of_nonpos (Int.le_of_lt hv.2.2) z
  omega
theorem trans_lr {u v w : P2} (hu : Pos u) (hv : Pos v) (hw : Pos w) (h1 : 0 < X u v) (h2 : 0 ≤ X v w) : 0 < X u w := by
  have e : (v.1 + v.2) * X u w = (u.1 + u.2) * X v w + (w.1 + w.2) * X u v := by unfold X; grind
  have m1 := Int.mul_pos hw.2.2 h1
  have m2 := Int.mul_nonneg (Int.le_of_lt hu.2.2) h2
  refine Int.lt_of_not_ge fun z => ?_
  have := Int.mul_nonpos_of_nonneg_of_nonpos (Int.le_of_lt hv.2.2) z
  omega
theorem trans_le {u v w : P2} (hu : Pos u) (hv : Pos v) (hw : Pos w) (h1 : 0 ≤ X u v) (h2 : 0 ≤ X v w) : 0 ≤ X u w := by
  have e : (v.1 + v.2) * X u w = (u.1 + u.2) * X v w + (w.1 + w.2) * X u v := by unfold X; grind
  have m1 := Int.mul_nonneg (Int.le_of_lt hw.2.2) h1
  have m2 := Int.mul_nonneg (Int.le_of_lt hu.2.2) h2
  refine Int.le_of_not_gt fun z => ?_
  have := Int.mul_neg_of_pos_of_neg hv.2.2 z
  omega
theorem least_mul {p q : Int} : gcdI p q * (leastT p q).1 = p ∧ gcdI p q * (leastT p q).2 = q := by
  unfold leastT gcdI
  exact ⟨Int.mul_ediv_cancel' (Int.ofNat_dvd_left.mpr (Nat.gcd_dvd_left _ _)), Int.mul_ediv_cancel' (Int.ofNat_dvd_left.mpr (Nat.gcd_dvd_right _ _))⟩
theorem least_X {p q : Int} (t : P2) : gcdI p q * X (leastT p q) t = p * t.2 - t.1 * q := by
  obtain ⟨e1, e2⟩ := least_mul (p := p) (q := q)
  have : gcdI p q * X (leastT p q) t = (gcdI p q * (leastT p q).1) * t.2 - t.1 * (gcdI p q * (leastT p q).2) := by unfold X; grind
  rw [this, e1, e2]
theorem sgn_pos {g x y : Int} (hg : 0 < g) (e : g * x = y) : (0 < x ↔ 0 < y) ∧ (0 ≤ x ↔ 0 ≤ y) := by
  subst e
  refine ⟨⟨fun h => Int.mul_pos hg h, fun h => Int.lt_of_not_ge fun z => ?_⟩, fun h => Int.mul_nonneg (Int.le_of_lt hg) h, fun h => Int.le_of_not_gt fun z => ?_⟩
  · have := Int.mul_nonpos_of_nonneg_of_nonpos (Int.le_of_lt hg) z
    omega
  · have := Int.mul_neg_of_pos_of_neg hg z
    omega
theorem ins_pos {lo hi t : P2} (hl : Pos lo) (hh : Pos hi) (ht : Pos t) (h : Ins lo hi t) : 0 < t.1 ∧ 0 < t.2 := by
  obtain ⟨h1, h2⟩ := h
  unfold X at h1 h2
  constructor
  · refine Int.lt_of_not_ge fun z => ?_
    have e : t.1 = 0 := by have := ht.1; omega
    rw [e] at h2
    have := Int.mul_nonneg hh.1 ht.2.1
    omega
  · refine Int.lt_of_not_ge fun z => ?_
    have e : t.2 = 0 := by have := ht.2.1; omega
    rw [e] at h1
    have := Int.mul_nonneg ht.1 hl.2.1
    omega
theorem alone_some {p : P2} : ∀ {O : List P2} {lo hi a b : P2}, isPriceB lo = true → isPriceB hi = true → lawAlone p O lo hi = some (a, b) →
    isPriceB a = true ∧ isPriceB b = true ∧ 0 ≤ X lo a ∧ 0 ≤ X b hi ∧ 0 < X a b ∧ ∀ t, Pos t → Ins a b t → ∀ o, o ∈ O → wt o t < wt p t
  | [], lo, hi, a, b, pl, ph, h => by
    unfold lawAlone at h
    split at h
    · next hl =>
      cases h
      exact ⟨pl, ph, by rw [X_self]; exact Int.le_refl _, by rw [X_self]; exact Int.le_refl _, leads_X.mp hl, fun _ _ _ _ h => nomatch h⟩
    · cases h
  | o :: r, lo, hi, a, b, pl, ph, h => by
    unfold lawAlone at h
    split at h
    · cases h
    next hd =>
    -- the new ends
    have L : ∃ lo', (if p.1 - o.1 < 0 ∧ leadsB lo (leastT (p.2 - o.2) (0 - (p.1 - o.1))) = true then leastT (p.2 - o.2) (0 - (p.1 - o.1)) else lo) = lo' ∧ isPriceB lo' = true ∧ 0 ≤ X lo lo' ∧ (p.1 - o.1 < 0 → 0 ≤ X (leastT (p.2 - o.2) (0 - (p.1 - o.1))) lo') := by
      split
      · next hc =>
        exact ⟨_, rfl, gcd_leastT (by omega) (by omega) (by omega), Int.le_of_lt (leads_X.mp hc.2), fun _ => by rw [X_self]; exact Int.le_refl _⟩
      · next hc =>
        refine ⟨_, rfl, pl, by rw [X_self]; exact Int.le_refl _, fun hn => ?_⟩
        have hx : ¬ 0 < X lo (leastT (p.2 - o.2) (0 - (p.1 - o.1))) := fun z => hc ⟨hn, leads_X.mpr z⟩
        rw [X_neg]
        omega
    have R : ∃ hi', (if p.2 - o.2 < 0 ∧ leadsB (leastT (0 - (p.2 - o.2)) (p.1 - o.1)) hi = true then leastT (0 - (p.2 - o.2)) (p.1 - o.1) else hi) = hi' ∧ isPriceB hi' = true ∧ 0 ≤ X hi' hi ∧ (p.2 - o.2 < 0 → 0 ≤ X hi' (leastT (0 - (p.2 - o.2)) (p.1 - o.1))) := by
      split
      · next hc =>
        exact ⟨_, rfl, gcd_leastT (by omega) (by omega) (by omega), Int.le_of_lt (leads_X.mp hc.2), fun _ => by rw [X_self]; exact Int.le_refl _⟩
      · next hc =>
        refine ⟨_, rfl, ph, by rw [X_self]; exact Int.le_refl _, fun hn => ?_⟩
        have hx : ¬ 0 < X (leastT (0 - (p.2 - o.2)) (p.1 - o.1)) hi := fun z => hc ⟨hn, leads_X.mpr z⟩
        rw [X_neg]
        omega
    obtain ⟨lo', el, pl', xl, ql⟩ := L
    obtain ⟨hi', er, ph', xr, qr⟩ := R
    rw [el, er] at h
    obtain ⟨pa, pb, xa, xb, xab, hall⟩ := alone_some pl' ph' h
    have Plo := pos_price pl
    have Phi := pos_price ph
    have Plo' := pos_price pl'
    have Phi' := pos_price ph'
    have Pa := pos_price pa
    have Pb := pos_price pb
    refine ⟨pa, pb, trans_le Plo Plo' Pa xl xa, trans_le Pb Phi' Phi xb xr, xab, fun t pt ht q hq => ?_⟩
    rcases List.mem_cons.mp hq with rfl | hq
    · have hlt : 0 < X lo' t := trans_ll Plo' Pa pt xa ht.1
      have hth : 0 < X t hi' := trans_lr pt Pb Phi' ht.2 xb
      have hd' : wt p t - wt q t = (p.1 - q.1) * t.1 + (p.2 - q.2) * t.2 := by unfold wt; grind
      have hp := ins_pos Plo' Phi' pt ⟨hlt, hth⟩
      by_cases d1 : p.1 - q.1 < 0
      · have hx : 0 < X (leastT (p.2 - q.2) (0 - (p.1 - q.1))) t := trans_ll (pos_price (gcd_leastT (by omega) (by omega) (by omega))) Plo' pt (ql d1) hlt
        have g0 := gcdI_pos (p := p.2 - q.2) (q := 0 - (p.1 - q.1)) (by omega)
        have hs := (sgn_pos g0 (least_X t)).1.mp hx
        have e3 : (p.2 - q.2) * t.2 - t.1 * (0 - (p.1 - q.1)) = (p.1 - q.1) * t.1 + (p.2 - q.2) * t.2 := by grind
        omega
      · by_cases d2 : p.2 - q.2 < 0
        · have hx : 0 < X t (leastT (0 - (p.2 - q.2)) (p.1 - q.1)) := trans_lr pt Phi' (pos_price (gcd_leastT (by omega) (by omega) (by omega))) hth (qr d2)
          have g0 := gcdI_pos (p := 0 - (p.2 - q.2)) (q := p.1 - q.1) (by omega)
          have e4 : gcdI (0 - (p.2 - q.2)) (p.1 - q.1) * X t (leastT (0 - (p.2 - q.2)) (p.1 - q.1)) = (p.1 - q.1) * t.1 + (p.2 - q.2) * t.2 := by
            have := least_X (p := 0 - (p.2 - q.2)) (q := p.1 - q.1) t
            rw [X_neg, Int.mul_neg, this]
            grind
          have hs := (sgn_pos g0 e4).1.mp hx
          omega
        · have m1 := Int.mul_nonneg (show 0 ≤ p.1 - q.1 by omega) pt.1
          have m2 := Int.mul_nonneg (show 0 ≤ p.2 - q.2 by omega) pt.2.1
          by_cases z : 0 < p.1 - q.1
          · have := Int.mul_pos z hp.1
            omega
          · have := Int.mul_pos (show 0 < p.2 - q.2 by omega) hp.2
            omega
    · exact hall t pt ht q hq
theorem alone_of {p t : P2} (pt : Pos t) : ∀ {O : List P2} {lo hi : P2}, isPriceB lo = true → isPriceB hi = true → Ins lo hi t → (∀ o, o ∈ O → wt o t < wt p t) → ∃ a b, lawAlone p O lo hi = some (a, b) ∧ Ins a b t
  | [], lo, hi, pl, ph, h, _ => by
    unfold lawAlone
    have Pl := pos_price pl
    have Ph := pos_price ph
    exact ⟨lo, hi, if_pos (leads_X.mpr (h.D pt.1 pt.2.1 Pl.1 Pl.2.1 Ph.1 Ph.2.1)), h⟩
  | o :: r, lo, hi, pl, ph, h, ho => by
    have hw := ho o List.mem_cons_self
    have hd' : wt p t - wt o t = (p.1 - o.1) * t.1 + (p.2 - o.2) * t.2 := by unfold wt; grind
    have nb : ¬ (p.1 - o.1 ≤ 0 ∧ p.2 - o.2 ≤ 0) := fun ⟨z1, z2⟩ => by
      have := Int.mul_nonpos_of_nonpos_of_nonneg z1 pt.1
      have := Int.mul_nonpos_of_nonpos_of_nonneg z2 pt.2.1
      omega
    unfold lawAlone
    rw [if_neg nb]
    refine alone_of pt ?_ ?_ ⟨?_, ?_⟩ fun o' h' => ho o' (List.mem_cons_of_mem _ h')
    · split
      · exact gcd_leastT (by omega) (by omega) (by omega)
      · exact pl
    · split
      · exact gcd_leastT (by omega) (by omega) (by omega)
      · exact ph
    · split
      · have g0 := gcdI_pos (p := p.2 - o.2) (q := 0 - (p.1 - o.1)) (by omega)
        refine (sgn_pos g0 (least_X t)).1.mpr ?_
        have e3 : (p.2 - o.2) * t.2 - t.1 * (0 - (p.1 - o.1)) = (p.1 - o.1) * t.1 + (p.2 - o.2) * t.2 := by grind
        omega
      · exact h.1
    · split
      · have g0 := gcdI_pos (p := 0 - (p.2 - o.2)) (q := p.1 - o.1) (by omega)
        have e4 : gcdI (0 - (p.2 - o.2)) (p.1 - o.1) * X t (leastT (0 - (p.2 - o.2)) (p.1 - o.1)) = (p.1 - o.1) * t.1 + (p.2 - o.2) * t.2 := by
          have := least_X (p := 0 - (p.2 - o.2)) (q := p.1 - o.1) t
          rw [X_neg, Int.mul_neg, this]
          grind
        refine (sgn_pos g0 e4).1.mpr ?_
        omega
      · exact h.2
end HK
set_option Elab.async false
set_option linter.all false
set_option maxRecDepth 100000
/-! P3: the law's corners. -/
namespace HK
theorem sorted_eq (f : P2 → Int) : ∀ {l m : List P2}, l.Pairwise (fun a b => f a < f b) → m.Pairwise (fun a b => f a < f b) → (∀ x, x ∈ l ↔ x ∈ m) → l = m
  | [], [], _, _, _ => rfl
  | [], y :: m, _, _, h => absurd ((h y).mpr List.mem_cons_self) (fun z => nomatch z)
  | x :: l, [], _, _, h => absurd ((h x).mp List.mem_cons_self) (fun z => nomatch z)
  | x :: l, y :: m, h1, h2, h => by
    obtain ⟨a1, a2⟩ := List.pairwise_cons.mp h1
    obtain ⟨b1, b2⟩ := List.pairwise_cons.mp h2
    have e : x = y := by
      rcases List.mem_cons.mp ((h x).mp List.mem_cons_self) with e | e
      · exact e
      · rcases List.mem_cons.mp ((h y).mpr List.mem_cons_self) with e' | e'
        · exact e'.symm
        · have := b1 x e
          have := a1 y e'
          omega
    subst e
    rw [sorted_eq f a2 b2 fun z => ⟨fun hz => ?_, fun hz => ?_⟩]
    · rcases List.mem_cons.mp ((h z).mp (List.mem_cons_of_mem _ hz)) with e | e
      · have := a1 z hz
        rw [e] at this
        omega
      · exact e
    · rcases List.mem_cons.mp ((h z).mpr (List.mem_cons_of_mem _ hz)) with e | e
      · have := b1 z hz
        rw [e] at this
        omega
      · exact e
theorem filter_lt {α : Type} {P Q : α → Bool} : ∀ {l : List α}, (∀ x, x ∈ l → P x = true → Q x = true) → (∃ x, x ∈ l ∧ Q x = true ∧ P x = false) → (l.filter P).length < (l.filter Q).length
  | [], _, ⟨x, h, _⟩ => nomatch h
  | y :: l, h, ⟨x, hx, hq, hp⟩ => by
    have hle : ∀ {l : List α}, (∀ x, x ∈ l → P x = true → Q x = true) → (l.filter P).length ≤ (l.filter Q).length := fun {l} => by
      induction l with
      | nil => intro _; exact Nat.le_refl _
      | cons z l ih =>
        intro h
        have := ih fun x hx => h x (List.mem_cons_of_mem _ hx)
        rw [List.filter_cons, List.filter_cons]
        by_cases e : P z = true
        · rw [if_pos e, if_pos (h z List.mem_cons_self e), List.length_cons, List.length_cons]
          omega
        · rw [if_neg e]
          split
          · rw [List.length_cons]; omega
          · exact this
    have ht : ∀ x, x ∈ l → P x = true → Q x = true := fun x hx => h x (List.mem_cons_of_mem _ hx)
    rw [List.filter_cons, List.filter_cons]
    rcases List.mem_cons.mp hx with rfl | hx
    · rw [if_neg (by rw [hp]; decide), if_pos hq, List.length_cons]
      have := hle ht
      omega
    · have ih := filter_lt ht ⟨x, hx, hq, hp⟩
      by_cases e : P y = true
      · rw [if_pos e, if_pos (h y List.mem_cons_self e), List.length_cons, List.length_cons]
        omega
      · rw [if_neg e]
        split
        · rw [List.length_cons]; omega
        · exact ih
theorem dedup_nodup (ps : List P2) : (dedup ps).Nodup := by
  have go : ∀ (ps acc : List P2), acc.Nodup → (ps.foldl (fun acc p => if p ∈ acc then acc else acc ++ [p]) acc).Nodup := by
    intro ps
    induction ps with
    | nil => intro acc h; exact h
    | cons p ps ih =>
      intro acc h
      rw [List.foldl_cons]
      refine ih _ ?_
      split
      · exact h
      · next hp => exact List.nodup_append.mpr ⟨h, by simp, fun a ha b hb => by
          rw [show b = p by simpa using hb]
          intro e
          exact hp (by rw [← e]; exact ha)⟩
  exact go ps [] List.nodup_nil
theorem found_mem {ps : List P2} {lo hi a p : P2} : (a, p) ∈ lawFound (dedup ps) lo hi ↔ p ∈ ps ∧ ∃ b, lawAlone p ((dedup ps).filter fun o => !decide (o = p)) lo hi = some (a, b) := by
  unfold lawFound
  rw [List.mem_filterMap]
  constructor
  · rintro ⟨q, hq, e⟩
    cases z : lawAlone q ((dedup ps).filter fun o => !decide (o = q)) lo hi with
    | none => rw [z] at e; cases e
    | some part =>
      rw [z] at e
      have e := Option.some.inj e
      have e1 : part.1 = a := congrArg Prod.fst e
      have e2 : q = p := congrArg Prod.snd e
      subst e2
      exact ⟨mem_dedup.mp hq, part.2, by rw [z, ← e1]⟩
  · rintro ⟨hp, b, e⟩
    exact ⟨p, mem_dedup.mpr hp, by rw [e]; rfl⟩
theorem best_alone {ps : List P2} {lo hi p t : P2} (pl : isPriceB lo = true) (ph : isPriceB hi = true) (pt : Pos t) (ht : Ins lo hi t) (hb : Best ps p t) : ∃ a b, lawAlone p ((dedup ps).filter fun o => !decide (o = p)) lo hi = some (a, b) ∧ Ins a b t :=
  alone_of pt pl ph ht fun o ho => hb.2 o (mem_dedup.mp (List.mem_filter.mp ho).1) (by simpa using (List.mem_filter.mp ho).2)
theorem alone_best {ps : List P2} {lo hi p a b : P2} (pl : isPriceB lo = true) (ph : isPriceB hi = true) (hp : p ∈ ps) (h : lawAlone p ((dedup ps).filter fun o => !decide (o = p)) lo hi = some (a, b)) :
    isPriceB a = true ∧ isPriceB b = true ∧ 0 ≤ X lo a ∧ 0 ≤ X b hi ∧ 0 < X a b ∧ ∀ t, Pos t → Ins a b t → Ins lo hi t ∧ Best ps p t := by
  obtain ⟨pa, pb, h1, h2, h3, h4⟩ := alone_some pl ph h
  refine ⟨pa, pb, h1, h2, h3, fun t pt ht => ⟨⟨trans_ll (pos_price pl) (pos_price pa) pt h1 ht.1, trans_lr pt (pos_price pb) (pos_price ph) ht.2 h2⟩, hp, fun q hq ne => h4 t pt ht q (List.mem_filter.mpr ⟨mem_dedup.mpr hq, by simpa using ne⟩)⟩⟩
theorem pos_add {a b : P2} (ha : Pos a) (hb : Pos b) : Pos (cb 1 a b) := by
  obtain ⟨a1, a2, a3⟩ := ha
  obtain ⟨b1, b2, b3⟩ := hb
  unfold cb
  refine ⟨?_, ?_, ?_⟩ <;> simp only <;> omega
theorem ins_add {a b : P2} (h : 0 < X a b) : Ins a b (cb 1 a b) := ⟨by rw [X_cb, X_self]; omega, by rw [X_cb', X_self]; omega⟩
end HK
set_option Elab.async false
set_option linter.all false
set_option maxRecDepth 100000
/-! P4: the law's corners: who they are, and in which order. -/
namespace HK
section
variable {ps : List P2} {lo hi : P2}
theorem ordLe_trans : ∀ a b c : Int × P2, ordLe a b = true → ordLe b c = true → ordLe a c = true := fun a b c h1 h2 => by
  unfold ordLe at *
  simp only [decide_eq_true_eq] at *
  omega
theorem ordLe_total : ∀ a b : Int × P2, (ordLe a b || ordLe b a) = true := fun a b => by
  unfold ordLe
  simp only [Bool.or_eq_true, decide_eq_true_eq]
  omega
theorem corner_mem {p : P2} : p ∈ lawCorners ps lo hi ↔ ∃ a, (a, p) ∈ lawFound (dedup ps) lo hi := by
  unfold lawCorners lawOrder
  rw [List.mem_map]
  constructor
  · rintro ⟨x, hx, e⟩
    obtain ⟨⟨a, q⟩, hq, e2⟩ := List.mem_map.mp ((List.mergeSort_perm _ _).mem_iff.mp hx)
    subst e2
    simp only at e
    subst e
    exact ⟨a, hq⟩
  · rintro ⟨a, h⟩
    exact ⟨_, (List.mergeSort_perm _ _).mem_iff.mpr (List.mem_map.mpr ⟨(a, p), h, rfl⟩), rfl⟩
/-- who the corners are -/
theorem corner_iff (pl : isPriceB lo = true) (ph : isPriceB hi = true) {p : P2} : p ∈ lawCorners ps lo hi ↔ ∃ t, Pos t ∧ Ins lo hi t ∧ Best ps p t := by
  rw [corner_mem]
  constructor
  · rintro ⟨a, h⟩
    obtain ⟨hp, b, e⟩ := found_mem.mp h
    obtain ⟨pa, pb, _, _, h3, h4⟩ := alone_best pl ph hp e
    have pt := pos_add (pos_price pa) (pos_price pb)
    obtain ⟨i, z⟩ := h4 _ pt (ins_add h3)
    exact ⟨_, pt, i, z⟩
  · rintro ⟨t, pt, it, hb⟩
    obtain ⟨a, b, e, _⟩ := best_alone pl ph pt it hb
    exact ⟨a, found_mem.mpr ⟨hb.1, b, e⟩⟩
/-- two that are alone: not at the same place -/
theorem alone_apart (pl : isPriceB lo = true) (ph : isPriceB hi = true) {p o a b a' b' : P2} (hp : p ∈ ps) (ho : o ∈ ps) (ne : p ≠ o) (h : lawAlone p ((dedup ps).filter fun q => !decide (q = p)) lo hi = some (a, b))
    (h' : lawAlone o ((dedup ps).filter fun q => !decide (q = o)) lo hi = some (a', b')) : ∀ t, Pos t → Ins a b t → Ins a' b' t → False := fun t pt i1 i2 => by
  obtain ⟨_, _, _, _, _, h4⟩ := alone_best pl ph hp h
  obtain ⟨_, _, _, _, _, h4'⟩ := alone_best pl ph ho h'
  have z1 := (h4 t pt i1).2.2 o ho fun e => ne e.symm
  have z2 := (h4' t pt i2).2.2 p hp ne
  omega
/-- the ends of the parts tell the order at the far end -/
theorem alone_order (pl : isPriceB lo = true) (ph : isPriceB hi = true) {p o a b a' b' : P2} (hp : p ∈ ps) (ho : o ∈ ps) (ne : p ≠ o) (h : lawAlone p ((dedup ps).filter fun q => !decide (q = p)) lo hi = some (a, b))
    (h' : lawAlone o ((dedup ps).filter fun q => !decide (q = o)) lo hi = some (a', b')) : (X a a' ≠ 0) ∧ (0 < X a a' → wt p hi < wt o hi) := by
  obtain ⟨pa, pb, x1, x2, x3, h4⟩ := alone_best pl ph hp h
  obtain ⟨pa', pb', y1, y2, y3, h4'⟩ := alone_best pl ph ho h'
  have Pa := pos_price pa
  have Pb := pos_price pb
  have Pa' := pos_price pa'
  have Pb' := pos_price pb'
  have Ph := pos_price ph
  have ap := alone_apart pl ph hp ho ne h h'
  -- from a place where both would be alone
  have both : 0 ≤ X a a' → 0 < X a' b → False := fun g1 g2 => by
    by_cases z : 0 < X b' b
    · have i2 := ins_add y3
      have pt := pos_add Pa' Pb'
      exact ap _ pt ⟨trans_ll Pa Pa' pt g1 i2.1, trans_lr pt Pb' Pb i2.2 (by omega)⟩ i2
    · have i1 := ins_add g2
      have pt := pos_add Pa' Pb
      exact ap _ pt ⟨trans_ll Pa Pa' pt g1 i1.1, i1.2⟩ ⟨i1.1, trans_lr pt Pb Pb' i1.2 (by have := X_neg b' b; omega)⟩
  refine ⟨fun z => both (by omega) (trans_ll Pa' Pa Pb (by have := X_neg a a'; omega) x3), fun g => ?_⟩
  have hba : 0 ≤ X b a' := by
    refine Int.le_of_not_gt fun z => both (by omega) (by have := X_neg b a'; omega)
  have t1 := ins_add x3
  have t2 := ins_add y3
  have P1 := pos_add Pa Pb
  have P2' := pos_add Pa' Pb'
  have z1 := (h4 _ P1 t1).2.2 o ho fun e => ne e.symm
  have z2 := (h4' _ P2' t2).2.2 p hp ne
  have i2 := (h4' _ P2' t2).1
  generalize cb 1 a b = u at *
  generalize cb 1 a' b' = v at *
  -- u before v before hi
  have huv : 0 < X u v := trans_lr P1 Pb P2' t1.2 (Int.le_of_lt (trans_ll Pb Pa' P2' hba t2.1))
  have c := cone u hi v (sb p o)
  rw [wt_sb, wt_sb, wt_sb] at c
  have hu : 0 < X u hi := trans_lr P1 P2' Ph huv (Int.le_of_lt i2.2)
  refine Int.lt_of_not_ge fun z => ?_
  have m1 := Int.mul_neg_of_pos_of_neg hu (show wt p v - wt o v < 0 by omega)
  have m2 := Int.mul_pos i2.2 (show 0 < wt p u - wt o u by omega)
  have m3 := Int.mul_nonneg (Int.le_of_lt huv) (show 0 ≤ wt p hi - wt o hi by omega)
  omega
theorem found_nodup : ((lawFound (dedup ps) lo hi).map (·.2)).Nodup := by
  unfold lawFound
  have go : ∀ l : List P2, l.Nodup → ∀ (f : P2 → Option Str2), ((l.filterMap fun p => (f p).map fun part => (part.1, p)).map (·.2)).Nodup ∧ ∀ x, x ∈ (l.filterMap fun p => (f p).map fun part => (part.1, p)).map (·.2) → x ∈ l := by
    intro l
    induction l with
    | nil => intro _ f; exact ⟨List.nodup_nil, fun x h => h⟩
    | cons p l ih =>
      intro h f
      obtain ⟨h1, h2⟩ := List.nodup_cons.mp h
      obtain ⟨i1, i2⟩ := ih h2 f
      rw [List.filterMap_cons]
      cases z : f p with
      | none => exact ⟨i1, fun x hx => List.mem_cons_of_mem _ (i2 x hx)⟩
      | some part =>
        simp only [Option.map_some, List.map_cons]
        refine ⟨List.nodup_cons.mpr ⟨fun hm => h1 (i2 p hm), i1⟩, fun x hx => ?_⟩
        rcases List.mem_cons.mp hx with e | e
        · rw [e]; exact List.mem_cons_self
        · exact List.mem_cons_of_mem _ (i2 x e)
  exact (go _ (dedup_nodup ps) _).1
/-- their order -/
theorem corner_sorted (pl : isPriceB lo = true) (ph : isPriceB hi = true) : (lawCorners ps lo hi).Pairwise fun p o => wt p hi < wt o hi := by
  unfold lawCorners
  rw [List.pairwise_map]
  have s1 := List.pairwise_mergeSort ordLe_trans ordLe_total (lawOrder (lawFound (dedup ps) lo hi))
  have n0 : ((lawOrder (lawFound (dedup ps) lo hi)).map (·.2)).Nodup := by
    have e : (lawOrder (lawFound (dedup ps) lo hi)).map (·.2) = (lawFound (dedup ps) lo hi).map (·.2) := by
      unfold lawOrder
      rw [List.map_map]
      rfl
    rw [e]
    exact found_nodup
  have n1 : (((lawOrder (lawFound (dedup ps) lo hi)).mergeSort ordLe).map (·.2)).Nodup := ((List.mergeSort_perm _ _).map _).nodup_iff.mpr n0
  have n2 := List.pairwise_map.mp n1
  refine (List.Pairwise.and s1 n2).imp_of_mem fun {x y} hx hy ⟨h1, h2⟩ => ?_
  obtain ⟨⟨a, p⟩, hp, ex⟩ := List.mem_map.mp ((List.mergeSort_perm _ _).mem_iff.mp hx)
  obtain ⟨⟨a', o⟩, ho, ey⟩ := List.mem_map.mp ((List.mergeSort_perm _ _).mem_iff.mp hy)
  subst ex
  subst ey
  simp only at h1 h2 ⊢
  obtain ⟨mp, b, e1⟩ := found_mem.mp hp
  obtain ⟨mo, b', e2⟩ := found_mem.mp ho
  obtain ⟨nz, od⟩ := alone_order pl ph mp mo h2 e1 e2
  refine od (Int.lt_of_not_ge fun z => ?_)
  have lt : 0 < X a' a := by have := X_neg a a'; omega
  have Pa := pos_price (alone_best pl ph mp e1).1
  have Pa' := pos_price (alone_best pl ph mo e2).1
  have hr := filter_lt (P := fun q : P2 × P2 => leadsB q.1 a') (Q := fun q : P2 × P2 => leadsB q.1 a) (l := lawFound (dedup ps) lo hi) (fun q hq h => ?_) ⟨(a', o), ho, leads_X.mpr lt, ?_⟩
  · unfold ordLe at h1
    simp only [decide_eq_true_eq] at h1
    omega
  · obtain ⟨mq, bq, eq⟩ := found_mem.mp (show (q.1, q.2) ∈ _ from hq)
    exact leads_X.mpr (trans_lr (pos_price (alone_best pl ph mq eq).1) Pa' Pa (leads_X.mp h) (Int.le_of_lt lt))
  · cases z : leadsB a' a' with
    | false => rfl
    | true => have := leads_X.mp z; rw [X_self] at this; omega
end
end HK
set_option Elab.async false
set_option linter.all false
set_option maxRecDepth 100000
/-! P5: the envelope. -/
namespace HK
theorem flat {x y u v a b : Int} (hx : 0 < x) (hy : y < v) (ha : 0 < a) (hb : 0 < b) (h : y * u ≤ x * v) (h1 : a * x < b * y) (h2 : b * (v - y) < a * (u - x)) (hu : 0 < u) (hv : 0 < v) : False := by
  have e1 : a * x * u < b * y * u := Int.mul_lt_mul_of_pos_right h1 hu
  have e2 : b * (y * u) ≤ b * (x * v) := Int.mul_le_mul_of_nonneg_left h (Int.le_of_lt hb)
  have e3 : x * (a * u) < x * (b * v) := by
    have z1 : a * x * u = x * (a * u) := by grind
    have z2 : b * y * u = b * (y * u) := by grind
    have z3 : b * (x * v) = x * (b * v) := by grind
    omega
  have f1 : a * u < b * v := Int.lt_of_mul_lt_mul_left e3 (Int.le_of_lt hx)
  have g1 : b * (v - y) * v < a * (u - x) * v := Int.mul_lt_mul_of_pos_right h2 hv
  have g2 : a * (y * u) ≤ a * (x * v) := Int.mul_le_mul_of_nonneg_left h (Int.le_of_lt ha)
  have g3 : (v - y) * (b * v) < (v - y) * (a * u) := by
    have z1 : b * (v - y) * v = (v - y) * (b * v) := by grind
    have z2 : a * (u - x) * v = a * (u * v) - a * (x * v) := by grind
    have z3 : (v - y) * (a * u) = a * (u * v) - a * (y * u) := by grind
    omega
  have f2 : b * v < a * u := Int.lt_of_mul_lt_mul_left g3 (by omega)
  omega
section
variable {lo hi : P2}
/-- a chain, its last first -/
def RC (lo hi : P2) : List P2 → Prop
  | a :: b :: r => wt a lo < wt b lo ∧ wt b hi < wt a hi ∧ (∀ c, r.head? = some c → isBent c b a lo hi = true) ∧ RC lo hi (b :: r)
  | _ => True
theorem dom_one {S : List P2} {a : P2} (h : ∀ t, Ins lo hi t → ∃ m, m ∈ S ∧ wt a t ≤ wt m t) : Dom lo hi (a :: S) S := fun t ht s hs => by
  rcases List.mem_cons.mp hs with e | e
  · rw [e]; exact h t ht
  · exact ⟨s, e, Int.le_refl _⟩
/-- a weight at t by those at the ends -/
theorem wt_le (D : 0 < X lo hi) {t a b : P2} (h : X t hi * wt a lo + X lo t * wt a hi ≤ X t hi * wt b lo + X lo t * wt b hi) : wt a t ≤ wt b t := by
  have c1 := cone lo hi t a
  have c2 := cone lo hi t b
  refine Int.le_of_mul_le_mul_left (a := X lo hi) ?_ D
  omega
theorem not_bent (D : 0 < X lo hi) {a b p t : P2} (ht : Ins lo hi t) (h1 : wt p lo < wt a lo) (h2 : wt a lo < wt b lo) (h3 : wt b hi < wt a hi) (h4 : wt a hi < wt p hi) (h : isBent b a p lo hi = false) : wt a t ≤ wt b t ∨ wt a t ≤ wt p t := by
  unfold isBent at h
  have h := of_decide_eq_false h
  by_cases z : wt a t ≤ wt b t
  · exact .inl z
  refine .inr (Int.le_of_not_gt fun z2 => ?_)
  have c1 := cone lo hi t a
  have c2 := cone lo hi t b
  have c3 := cone lo hi t p
  have d1 := Int.mul_lt_mul_of_pos_left (show wt b t < wt a t by omega) D
  have d2 := Int.mul_lt_mul_of_pos_left z2 D
  obtain ⟨i1, i2⟩ := ht
  refine flat (x := wt b lo - wt a lo) (y := wt a hi - wt b hi) (u := wt b lo - wt p lo) (v := wt p hi - wt b hi) (a := X t hi) (b := X lo t) (by omega) (by omega) i2 i1 (by omega) ?_ ?_ (by omega) (by omega)
  · have e1 : X t hi * (wt b lo - wt a lo) = X t hi * wt b lo - X t hi * wt a lo := Int.mul_sub _ _ _
    have e2 : X lo t * (wt a hi - wt b hi) = X lo t * wt a hi - X lo t * wt b hi := Int.mul_sub _ _ _
    omega
  · have e0 : wt p hi - wt b hi - (wt a hi - wt b hi) = wt p hi - wt a hi := by omega
    have e3 : wt b lo - wt p lo - (wt b lo - wt a lo) = wt a lo - wt p lo := by omega
    have e1 : X t hi * (wt a lo - wt p lo) = X t hi * wt a lo - X t hi * wt p lo := Int.mul_sub _ _ _
    have e2 : X lo t * (wt p hi - wt a hi) = X lo t * wt p hi - X lo t * wt a hi := Int.mul_sub _ _ _
    rw [e0, e3]
    omega
theorem pop_chain (D : 0 < X lo hi) {p : P2} : ∀ {st : List P2}, RC lo hi st → (∀ a, st.head? = some a → wt p lo < wt a lo ∧ wt a hi < wt p hi) → RC lo hi (p :: popW lo hi p st) ∧ Dom lo hi (p :: st) (p :: popW lo hi p st) ∧ ∀ c, c ∈ popW lo hi p st → c ∈ st
  | [], _, _ => ⟨trivial, .refl, fun _ h => h⟩
  | [a], _, h => ⟨⟨(h a rfl).1, (h a rfl).2, (fun _ h => nomatch h), trivial⟩, .refl, fun _ h => h⟩
  | a :: b :: r, hc, h => by
    obtain ⟨h1, h2⟩ := h a rfl
    unfold popW
    by_cases hb : isBent b a p lo hi = true
    · rw [if_pos hb]
      refine ⟨⟨h1, h2, fun c e => ?_, hc⟩, .refl, fun _ h => h⟩
      have e : b = c := Option.some.inj e
      subst e
      exact hb
    · rw [if_neg hb]
      obtain ⟨c1, c2, c3, c4⟩ := hc
      obtain ⟨i1, i2, i3⟩ := pop_chain D (p := p) (st := b :: r) c4 fun x e => by
        have e : b = x := Option.some.inj e
        subst e
        exact ⟨by omega, by omega⟩
      refine ⟨i1, Dom.trans (fun t ht s hs => ?_) i2, fun c hc => List.mem_cons_of_mem _ (i3 c hc)⟩
      have hb' : isBent b a p lo hi = false := by simpa using hb
      rcases List.mem_cons.mp hs with e | e
      · exact ⟨s, by rw [e]; exact List.mem_cons_self, Int.le_refl _⟩
      · rcases List.mem_cons.mp e with e | e
        · subst e
          rcases not_bent D ht h1 c1 c2 h2 hb' with z | z
          · exact ⟨b, List.mem_cons_of_mem _ List.mem_cons_self, z⟩
          · exact ⟨p, List.mem_cons_self, z⟩
        · exact ⟨s, List.mem_cons_of_mem _ e, Int.le_refl _⟩
end
end HK
set_option Elab.async false
set_option linter.all false
set_option maxRecDepth 100000
/-! P6: the envelope: all of it. -/
namespace HK
section
variable {lo hi : P2}
theorem step_inv (D : 0 < X lo hi) {pre st : List P2} {p : P2} (hs : ∀ a, a ∈ pre → envLe lo hi a p = true) (h1 : ∀ c, c ∈ st → c ∈ pre) (h2 : Dom lo hi pre st) (h3 : RC lo hi st) (h4 : st = [] → pre = []) :
    (∀ c, c ∈ envStep lo hi st p → c ∈ pre ++ [p]) ∧ Dom lo hi (pre ++ [p]) (envStep lo hi st p) ∧ RC lo hi (envStep lo hi st p) ∧ envStep lo hi st p ≠ [] := by
  cases st with
  | nil =>
    rw [h4 rfl]
    exact ⟨fun c h => h, .refl, trivial, by simp [envStep]⟩
  | cons a r =>
    have ha := hs a (h1 a List.mem_cons_self)
    unfold envLe at ha
    have ha := of_decide_eq_true ha
    unfold envStep
    simp only
    by_cases z : wt p hi ≤ wt a hi
    · rw [if_pos z]
      refine ⟨fun c hc => List.mem_append_left _ (h1 c hc), fun t ht s hm => ?_, h3, by simp⟩
      rcases List.mem_append.mp hm with e | e
      · exact h2 t ht s e
      · rw [show s = p by simpa using e]
        refine ⟨a, List.mem_cons_self, wt_le D ?_⟩
        have m1 := Int.mul_le_mul_of_nonneg_left (show wt p lo ≤ wt a lo by omega) (Int.le_of_lt ht.2)
        have m2 := Int.mul_le_mul_of_nonneg_left z (Int.le_of_lt ht.1)
        omega
    · rw [if_neg z]
      obtain ⟨c1, c2, c3⟩ := pop_chain D (p := p) (st := a :: r) h3 fun x e => by
        have e : a = x := Option.some.inj e
        subst e
        exact ⟨by omega, by omega⟩
      refine ⟨fun c hc => ?_, fun t ht s hm => ?_, c1, by simp⟩
      · rcases List.mem_cons.mp hc with e | e
        · rw [e]; simp
        · exact List.mem_append_left _ (h1 c (c3 c e))
      · rcases List.mem_append.mp hm with e | e
        · obtain ⟨m, hm, l1⟩ := h2 t ht s e
          obtain ⟨m2, hm2, l2⟩ := c2 t ht m (List.mem_cons_of_mem _ hm)
          exact ⟨m2, hm2, by omega⟩
        · rw [show s = p by simpa using e]
          exact c2 t ht p List.mem_cons_self
theorem fold_inv (D : 0 < X lo hi) : ∀ (ps pre st : List P2), (pre ++ ps).Pairwise (fun a b => envLe lo hi a b = true) → (∀ c, c ∈ st → c ∈ pre) → Dom lo hi pre st → RC lo hi st → (st = [] → pre = []) →
    (∀ c, c ∈ ps.foldl (envStep lo hi) st → c ∈ pre ++ ps) ∧ Dom lo hi (pre ++ ps) (ps.foldl (envStep lo hi) st) ∧ RC lo hi (ps.foldl (envStep lo hi) st)
  | [], pre, st, _, h1, h2, h3, _ => by
    rw [List.append_nil]
    exact ⟨h1, h2, h3⟩
  | p :: ps, pre, st, hw, h1, h2, h3, h4 => by
    have hs : ∀ a, a ∈ pre → envLe lo hi a p = true := fun a ha => (List.pairwise_append.mp hw).2.2 a ha p List.mem_cons_self
    obtain ⟨g1, g2, g3, g4⟩ := step_inv D hs h1 h2 h3 h4
    have e : pre ++ p :: ps = (pre ++ [p]) ++ ps := by simp
    rw [e] at hw ⊢
    rw [List.foldl_cons]
    exact fold_inv D ps (pre ++ [p]) _ hw g1 g2 g3 fun z => absurd z g4
theorem envLe_trans (a b c : P2) (h1 : envLe lo hi a b = true) (h2 : envLe lo hi b c = true) : envLe lo hi a c = true := by
  unfold envLe at *
  simp only [decide_eq_true_eq] at *
  omega
theorem envLe_total (a b : P2) : (envLe lo hi a b || envLe lo hi b a) = true := by
  unfold envLe
  simp only [Bool.or_eq_true, decide_eq_true_eq]
  omega
theorem env_all (D : 0 < X lo hi) (ps : List P2) : ∃ st, envelopeF lo hi ps = st.reverse ∧ (∀ c, c ∈ st → c ∈ ps) ∧ Dom lo hi ps st ∧ RC lo hi st := by
  unfold envelopeF envL
  obtain ⟨h1, h2, h3⟩ := fold_inv D (ps.mergeSort (envLe lo hi)) [] [] (List.pairwise_mergeSort (le := envLe lo hi) envLe_trans envLe_total ps) (fun _ h => h) .refl trivial (fun h => h)
  refine ⟨_, rfl, fun c hc => (List.mergeSort_perm _ _).mem_iff.mp (h1 c hc), Dom.trans (Dom.sub fun c hc => (List.mergeSort_perm _ _).mem_iff.mpr hc) h2, h3⟩
/-- a chain is falling at the far end, its last first -/
theorem chain_sorted : ∀ {st : List P2}, RC lo hi st → st.Pairwise fun a b => wt b hi < wt a hi
  | [], _ => .nil
  | [a], _ => by simp
  | a :: b :: r, h => by
    obtain ⟨h1, h2, h3, h4⟩ := h
    have ih := chain_sorted (st := b :: r) h4
    refine List.pairwise_cons.mpr ⟨fun c hc => ?_, ih⟩
    rcases List.mem_cons.mp hc with e | e
    · rw [e]; exact h2
    · have := (List.pairwise_cons.mp ih).1 c e
      omega
end
end HK
set_option Elab.async false
set_option linter.all false
set_option maxRecDepth 100000
/-! P7: each of a chain is the best somewhere. -/
namespace HK
section
variable {lo hi : P2}
def mx (lo hi : P2) (a b : Int) : P2 := (a * lo.1 + b * hi.1, a * lo.2 + b * hi.2)
theorem wt_mx (c : P2) (a b : Int) : wt c (mx lo hi a b) = a * wt c lo + b * wt c hi := by unfold wt mx; grind
theorem ins_mx (D : 0 < X lo hi) {a b : Int} (ha : 0 < a) (hb : 0 < b) : Ins lo hi (mx lo hi a b) := by
  have e1 : X lo (mx lo hi a b) = b * X lo hi := by unfold X mx; grind
  have e2 : X (mx lo hi a b) hi = a * X lo hi := by unfold X mx; grind
  exact ⟨by rw [e1]; exact Int.mul_pos hb D, by rw [e2]; exact Int.mul_pos ha D⟩
/-- the bend of three, in steps -/
theorem bent_steps {c b a : P2} (h : isBent c b a lo hi = true) : (wt c lo - wt b lo) * (wt a hi - wt b hi) < (wt b hi - wt c hi) * (wt b lo - wt a lo) := by
  unfold isBent at h
  have h := of_decide_eq_true h
  have e1 : (wt c lo - wt b lo) * (wt a hi - wt c hi) = (wt c lo - wt b lo) * (wt a hi - wt b hi) + (wt c lo - wt b lo) * (wt b hi - wt c hi) := by grind
  have e2 : (wt b hi - wt c hi) * (wt c lo - wt a lo) = (wt b hi - wt c hi) * (wt b lo - wt a lo) + (wt c lo - wt b lo) * (wt b hi - wt c hi) := by grind
  omega
/-- who is not behind the one before, is ahead of all before -/
theorem left_all {a b : Int} (ha : 0 < a) (hb : 0 < b) : ∀ {st : List P2} {p q : P2}, RC lo hi (p :: q :: st) → wt q (mx lo hi a b) ≤ wt p (mx lo hi a b) → ∀ c, c ∈ st → wt c (mx lo hi a b) < wt p (mx lo hi a b)
  | [], _, _, _, _, _, h => nomatch h
  | r :: st, p, q, hc, h, c, hm => by
    obtain ⟨c1, c2, c3, c4⟩ := hc
    have c4' := c4
    obtain ⟨d1, d2, d3, d4⟩ := c4'
    have bs := bent_steps (c3 r rfl)
    have hr : wt r (mx lo hi a b) < wt q (mx lo hi a b) := by
      rw [wt_mx, wt_mx] at h ⊢
      -- x y' < y x', a x' <= b y'  ⊢  a x < b y
      have f1 : a * (wt q lo - wt p lo) ≤ b * (wt p hi - wt q hi) := by grind
      have f2 := Int.mul_lt_mul_of_pos_left bs ha
      have f3 := Int.mul_le_mul_of_nonneg_left f1 (show 0 ≤ wt q hi - wt r hi by omega)
      have f4 : (wt p hi - wt q hi) * (a * (wt r lo - wt q lo)) < (wt p hi - wt q hi) * (b * (wt q hi - wt r hi)) := by grind
      have f5 := Int.lt_of_mul_lt_mul_left f4 (by omega)
      grind
    rcases List.mem_cons.mp hm with e | e
    · rw [e]; omega
    · have := left_all ha hb c4 (Int.le_of_lt hr) c e
      omega
theorem chain_best (D : 0 < X lo hi) : ∀ {st : List P2}, RC lo hi st → ∀ c, c ∈ st → ∃ a b : Int, 0 < a ∧ 0 < b ∧ ∀ q, q ∈ st → q ≠ c → wt q (mx lo hi a b) < wt c (mx lo hi a b)
  | [], _, _, h => nomatch h
  | [p], _, c, hc => ⟨1, 1, by omega, by omega, fun q hq ne => absurd ((by simpa using hq : q = p).trans (by simpa using hc : c = p).symm) ne⟩
  | p :: a :: r, h, c, hc => by
    have h' := h
    obtain ⟨c1, c2, c3, c4⟩ := h'
    rcases List.mem_cons.mp hc with e | e
    · subst e
      refine ⟨wt c hi - wt a hi, wt a lo - wt c lo + 1, by omega, by omega, fun q hq ne => ?_⟩
      have ha : wt a (mx lo hi (wt c hi - wt a hi) (wt a lo - wt c lo + 1)) < wt c (mx lo hi (wt c hi - wt a hi) (wt a lo - wt c lo + 1)) := by
        rw [wt_mx, wt_mx]
        grind
      rcases List.mem_cons.mp hq with e | e
      · exact absurd e ne
      · rcases List.mem_cons.mp e with e | e
        · rw [e]; exact ha
        · exact left_all (by omega) (by omega) h (Int.le_of_lt ha) q e
    · obtain ⟨α, β, ha, hb, ih⟩ := chain_best D c4 c e
      by_cases ec : c = a
      · subst ec
        cases r with
        | nil =>
          refine ⟨wt p hi - wt c hi + 1, wt c lo - wt p lo, by omega, by omega, fun q hq ne => ?_⟩
          rcases List.mem_cons.mp hq with e | e
          · rw [e, wt_mx, wt_mx]
            grind
          · exact absurd (by simpa using e) ne
        | cons b r =>
          have bs := bent_steps (c3 b rfl)
          obtain ⟨d1, d2, d3, d4⟩ := c4
          have z1 : wt p (mx lo hi ((wt c hi - wt b hi) + (wt p hi - wt c hi)) ((wt b lo - wt c lo) + (wt c lo - wt p lo))) < wt c (mx lo hi ((wt c hi - wt b hi) + (wt p hi - wt c hi)) ((wt b lo - wt c lo) + (wt c lo - wt p lo))) := by
            rw [wt_mx, wt_mx]
            grind
          have z2 : wt b (mx lo hi ((wt c hi - wt b hi) + (wt p hi - wt c hi)) ((wt b lo - wt c lo) + (wt c lo - wt p lo))) < wt c (mx lo hi ((wt c hi - wt b hi) + (wt p hi - wt c hi)) ((wt b lo - wt c lo) + (wt c lo - wt p lo))) := by
            rw [wt_mx, wt_mx]
            grind
          refine ⟨(wt c hi - wt b hi) + (wt p hi - wt c hi), (wt b lo - wt c lo) + (wt c lo - wt p lo), by omega, by omega, fun q hq ne => ?_⟩
          rcases List.mem_cons.mp hq with e | e
          · rw [e]; exact z1
          · rcases List.mem_cons.mp e with e | e
            · exact absurd e ne
            · rcases List.mem_cons.mp e with e | e
              · rw [e]; exact z2
              · exact left_all (p := c) (q := b) (by omega) (by omega) ⟨d1, d2, d3, d4⟩ (Int.le_of_lt z2) q e
      · refine ⟨α, β, ha, hb, fun q hq ne => ?_⟩
        have hac := ih a List.mem_cons_self fun z => ec z.symm
        rcases List.mem_cons.mp hq with e' | e'
        · rw [e']
          have hr : c ∈ r := (List.mem_cons.mp e).resolve_left ec
          cases r with
          | nil => exact nomatch hr
          | cons b r =>
            have hab : wt a (mx lo hi α β) < wt b (mx lo hi α β) := by
              refine Int.lt_of_not_ge fun z => ?_
              rcases List.mem_cons.mp hr with e2 | e2
              · rw [← e2] at z; omega
              · have := left_all ha hb c4 z c e2
                omega
            have bs := bent_steps (c3 b rfl)
            have hpa : wt p (mx lo hi α β) < wt a (mx lo hi α β) := by
              rw [wt_mx, wt_mx] at hab ⊢
              obtain ⟨d1, d2, d3, d4⟩ := c4
              have f1 : β * (wt a hi - wt b hi) < α * (wt b lo - wt a lo) := by grind
              have f2 := Int.mul_lt_mul_of_pos_left bs ha
              have f3 := Int.mul_lt_mul_of_pos_right f1 (show 0 < wt p hi - wt a hi by omega)
              have f4 : (wt a hi - wt b hi) * (β * (wt p hi - wt a hi)) < (wt a hi - wt b hi) * (α * (wt a lo - wt p lo)) := by grind
              have f5 := Int.lt_of_mul_lt_mul_left f4 (by omega)
              grind
            omega
        · exact ih q e' ne
end
end HK
set_option Elab.async false
set_option linter.all false
set_option maxRecDepth 100000
/-! P8: the program's envelope of what is found is the law's corners of what is hidden. -/
namespace HK
section
variable {lo hi : P2}
theorem pos_mx (hl : Pos lo) (hh : Pos hi) {a b : Int} (ha : 0 < a) (hb : 0 < b) : Pos (mx lo hi a b) := by
  obtain ⟨l1, l2, l3⟩ := hl
  obtain ⟨h1, h2, h3⟩ := hh
  have m1 := Int.mul_nonneg (Int.le_of_lt ha) l1
  have m2 := Int.mul_nonneg (Int.le_of_lt hb) h1
  have m3 := Int.mul_nonneg (Int.le_of_lt ha) l2
  have m4 := Int.mul_nonneg (Int.le_of_lt hb) h2
  have m5 := Int.mul_pos ha l3
  rw [Int.mul_add] at m5
  unfold mx
  refine ⟨?_, ?_, ?_⟩ <;> simp only <;> omega
theorem env_eq {ps found : List P2} (pl : isPriceB lo = true) (ph : isPriceB hi = true) (D : 0 < X lo hi) (h1 : Dom lo hi ps found) (h2 : Dom lo hi found ps) : envelopeF lo hi found = lawCorners ps lo hi := by
  obtain ⟨st, e, hs, hd, hc⟩ := env_all D found
  have hd' : Dom lo hi st found := .sub hs
  rw [e]
  refine sorted_eq (fun c => wt c hi) (List.pairwise_reverse.mpr (chain_sorted hc)) (corner_sorted pl ph) fun c => ?_
  rw [List.mem_reverse, corner_iff pl ph]
  constructor
  · intro hm
    obtain ⟨a, b, ha, hb, hq⟩ := chain_best D hc c hm
    have it := ins_mx D ha hb
    exact ⟨_, pos_mx (pos_price pl) (pos_price ph) ha hb, it, best_same D h1 h2 it (best_same D hd hd' it ⟨hm, hq⟩)⟩
  · rintro ⟨t, pt, it, hb⟩
    exact (best_same D hd' hd it (best_same D h2 h1 it hb)).1
end
end HK
set_option Elab.async false
set_option linter.all false
set_option maxRecDepth 100000
/-! P9: the free stretch, narrowed by gains. -/
namespace HK
theorem okP_price {t : P2} (h : okP t = true) : isPriceB t = true ∧ Sm2 45 t := by
  unfold okP at h
  simp only [Bool.and_eq_true, decide_eq_true_eq] at h
  exact h
theorem first_price : isPriceB FIRST = true := by decide
theorem last_price : isPriceB LAST = true := by decide
theorem X_last (t : P2) : X t LAST = t.1 := by unfold X LAST; simp
theorem X_first (t : P2) : X FIRST t = t.2 := by unfold X FIRST; simp
/-- a price that is not ahead of the last is the last -/
theorem eq_last {t : P2} (h : isPriceB t = true) (z : leadsB t LAST = false) : t = LAST := by
  refine price_eq h last_price ?_
  have := pos_price h
  have hz : ¬ 0 < X t LAST := fun y => by rw [leads_X.mpr y] at z; cases z
  rw [X_last] at hz
  have e : t.1 = 0 := by have := this.1; omega
  rw [e]
  simp [LAST]
theorem eq_first {t : P2} (h : isPriceB t = true) (z : leadsB FIRST t = false) : t = FIRST := by
  refine price_eq h first_price ?_
  have := pos_price h
  have hz : ¬ 0 < X FIRST t := fun y => by rw [leads_X.mpr y] at z; cases z
  rw [X_first] at hz
  have e : t.2 = 0 := by have := this.2.1; omega
  rw [e]
  simp [FIRST]
theorem common_lo {lo hi k : P2} (ph : isPriceB hi = true) (h : leadsB lo k = true) : commonF (lo, hi) (k, LAST) = if leadsB hi k then none else some (k, hi) := by
  unfold commonF
  simp only
  rw [if_pos h]
  by_cases z : leadsB hi LAST = true
  · rw [if_pos z]
  · have e := eq_last ph (by simpa using z)
    rw [if_neg z, e]
theorem common_hi {lo hi k : P2} (pl : isPriceB lo = true) (h : leadsB k hi = true) : commonF (lo, hi) (FIRST, k) = if leadsB k lo then none else some (lo, k) := by
  unfold commonF
  simp only
  have e1 : leadsB lo FIRST = false := by
    cases z : leadsB lo FIRST with
    | false => rfl
    | true =>
      have := leads_X.mp z
      have h2 := X_neg FIRST lo
      rw [X_first] at h2
      have := (pos_price pl).2.1
      omega
  have e2 : leadsB hi k = false := by
    cases z : leadsB hi k with
    | false => rfl
    | true =>
      have a := leads_X.mp z
      have b := leads_X.mp h
      have := X_neg hi k
      omega
  rw [e1, e2]
  simp
/-- the gain of a mark behind a price -/
theorem free_one {k : P2} {m : Int} (pk : isPriceB k = true) (hm : 0 < m) (hk : 0 < k.2) : freeStr (m * k.2, m * (0 - k.1)) = some (k, LAST) := by
  have P := pos_price pk
  have e0 : 0 < m * k.2 := Int.mul_pos hm hk
  have e1 : m * (0 - k.1) = -(m * k.1) := by grind
  have e2 : 0 ≤ m * k.1 := Int.mul_nonneg (Int.le_of_lt hm) P.1
  unfold freeStr
  simp only
  rw [if_neg (by omega), if_neg (by omega), if_pos e0]
  have e3 : leastT (-(m * (0 - k.1))) (m * k.2) = k := by
    rw [e1, Int.neg_neg]
    refine price_eq (gcd_leastT e2 (Int.le_of_lt e0) (by omega)) pk ?_
    have hx := least_X (p := m * k.1) (q := m * k.2) k
    have g0 := gcdI_pos (p := m * k.1) (q := m * k.2) (by omega)
    have z : m * k.1 * k.2 - k.1 * (m * k.2) = 0 := by grind
    rw [z] at hx
    have := (Int.mul_eq_zero.mp hx).resolve_left (by omega)
    unfold X at this
    omega
  rw [e3]
/-- the gain of a mark ahead of a price -/
theorem free_two {k : P2} {m : Int} (pk : isPriceB k = true) (hm : 0 < m) (hk : 0 < k.1) : freeStr (m * (0 - k.2), m * k.1) = some (FIRST, k) := by
  have P := pos_price pk
  have e0 : 0 < m * k.1 := Int.mul_pos hm hk
  have e1 : m * (0 - k.2) = -(m * k.2) := by grind
  have e2 : 0 ≤ m * k.2 := Int.mul_nonneg (Int.le_of_lt hm) P.2.1
  unfold freeStr
  simp only
  rw [if_neg (by omega), if_neg (by omega), if_neg (by omega)]
  have e3 : leastT (m * k.1) (-(m * (0 - k.2))) = k := by
    rw [e1, Int.neg_neg]
    refine price_eq (gcd_leastT (Int.le_of_lt e0) e2 (by omega)) pk ?_
    have hx := least_X (p := m * k.1) (q := m * k.2) k
    have g0 := gcdI_pos (p := m * k.1) (q := m * k.2) (by omega)
    have z : m * k.1 * k.2 - k.1 * (m * k.2) = 0 := by grind
    rw [z] at hx
    have := (Int.mul_eq_zero.mp hx).resolve_left (by omega)
    unfold X at this
    omega
  rw [e3]
end HK
set_option Elab.async false
set_option linter.all false
set_option maxRecDepth 100000
/-! P10: the first part of the asking. -/
namespace HK
/-- a gain is told at t, by a mark of one of the lists -/
def GainAt (ans : P2 → Ans) (fs ls : List P2) (t : P2) : Prop := ∃ g, ans t = .gains g ∧ okC g = true ∧ ((∃ k, k ∈ fs ∧ okP k = true ∧ leadsB t k = true ∧ freeStr g = some (k, LAST)) ∨ (∃ k, k ∈ ls ∧ okP k = true ∧ leadsB k t = true ∧ freeStr g = some (FIRST, k)))
theorem leads_self (a : P2) : leadsB a a = false := by
  cases z : leadsB a a with
  | false => rfl
  | true => have := leads_X.mp z; rw [X_self] at this; omega
theorem free_w1 {st : Str2} {g : P2} {f : Str2} (h : freeStr g = some f) : freeW (some st) [g] = commonF st f := by
  unfold freeW
  simp only [List.foldl_cons, List.foldl_nil]
  unfold freeStep
  simp only [h]
theorem not_leads {a b : P2} (h : 0 ≤ X b a) : leadsB a b = false := by
  cases z : leadsB a b with
  | false => rfl
  | true => have := leads_X.mp z; have := X_neg a b; omega
theorem marks_less {fs : List P2} {lo k : P2} (pl : isPriceB lo = true) (pk : isPriceB k = true) (hk : k ∈ fs) (pf : ∀ x, x ∈ fs → isPriceB x = true) (h : leadsB lo k = true) : (fs.filter fun x => leadsB k x).length < (fs.filter fun x => leadsB lo x).length :=
  filter_lt (fun x hx z => leads_X.mpr (trans_lr (pos_price pl) (pos_price pk) (pos_price (pf x hx)) (leads_X.mp h) (Int.le_of_lt (leads_X.mp z)))) ⟨k, hk, h, leads_self k⟩
theorem marks_less' {ls : List P2} {hi k : P2} (ph : isPriceB hi = true) (pk : isPriceB k = true) (hk : k ∈ ls) (pf : ∀ x, x ∈ ls → isPriceB x = true) (h : leadsB k hi = true) : (ls.filter fun x => leadsB x k).length < (ls.filter fun x => leadsB x hi).length :=
  filter_lt (fun x hx z => leads_X.mpr (trans_lr (pos_price (pf x hx)) (pos_price pk) (pos_price ph) (leads_X.mp z) (Int.le_of_lt (leads_X.mp h)))) ⟨k, hk, h, leads_self k⟩
section
variable {ans : P2 → Ans} {fs ls : List P2}
/-- all is endless -/
theorem ph1_end (pf : ∀ x, x ∈ fs → isPriceB x = true) (hg : ∀ t, okP t = true → GainAt ans fs ls t) : ∀ (n : Nat) (lo hi : P2), okP lo = true → okP hi = true → 0 ≤ X lo hi → (fs.filter fun x => leadsB lo x).length < n → ph1 ans false n (lo, hi) = some none
  | 0, _, _, _, _, _, h => absurd h (Nat.not_lt_zero _)
  | n + 1, lo, hi, ol, oh, hx, h => by
    obtain ⟨g, hg1, hg2, hg3⟩ := hg lo ol
    have pl := (okP_price ol).1
    have ph := (okP_price oh).1
    unfold ph1
    simp only [ol, oh, Bool.and_self, if_true, Bool.false_eq_true, if_false, hg1, hg2]
    rcases hg3 with ⟨k, hk, ok, lk, e⟩ | ⟨k, hk, ok, lk, e⟩
    · have pk := (okP_price ok).1
      rw [free_w1 e, common_lo ph lk]
      by_cases z : leadsB hi k = true
      · rw [if_pos z]
      · rw [if_neg z]
        refine ph1_end pf hg n k hi ok oh ?_ (Nat.lt_of_lt_of_le (marks_less pl pk hk pf lk) (by omega))
        have : ¬ 0 < X hi k := fun y => z (leads_X.mpr y)
        have := X_neg hi k
        omega
    · have pk := (okP_price ok).1
      have lk2 : leadsB k hi = true := leads_X.mpr (trans_lr (pos_price pk) (pos_price pl) (pos_price ph) (leads_X.mp lk) hx)
      rw [free_w1 e, common_hi pl lk2, if_pos lk]
/-- up to the front's first price -/
theorem ph1_low {s : P2} {m : P2} (os : okP s = true) (hm : ans s = .most m) (pf : ∀ x, x ∈ fs → isPriceB x = true) (hf : ∀ x, x ∈ fs → 0 ≤ X x s) (hl : ∀ x, x ∈ ls → 0 ≤ X s x) (hg : ∀ t, okP t = true → leadsB t s = true → GainAt ans fs ls t) :
    ∀ (n : Nat) (lo hi : P2), okP lo = true → okP hi = true → 0 ≤ X lo s → 0 ≤ X s hi → (fs.filter fun x => leadsB lo x).length < n → ph1 ans false n (lo, hi) = some (some (s, hi))
  | 0, _, _, _, _, _, _, h => absurd h (Nat.not_lt_zero _)
  | n + 1, lo, hi, ol, oh, x1, x2, h => by
    have pl := (okP_price ol).1
    have ph := (okP_price oh).1
    have ps := (okP_price os).1
    by_cases e : lo = s
    · subst e
      unfold ph1
      simp only [ol, oh, Bool.and_self, if_true, Bool.false_eq_true, if_false, hm]
    · have hls : leadsB lo s = true := leads_X.mpr (by
        have : X lo s ≠ 0 := fun z => e (price_eq pl ps (by unfold X at z; omega))
        omega)
      obtain ⟨g, hg1, hg2, hg3⟩ := hg lo ol hls
      unfold ph1
      simp only [ol, oh, Bool.and_self, if_true, Bool.false_eq_true, if_false, hg1, hg2]
      rcases hg3 with ⟨k, hk, ok, lk, e⟩ | ⟨k, hk, ok, lk, e⟩
      · have pk := (okP_price ok).1
        have hkh : 0 ≤ X k hi := trans_le (pos_price pk) (pos_price ps) (pos_price ph) (hf k hk) x2
        rw [free_w1 e, common_lo ph lk, if_neg (by rw [not_leads hkh]; decide)]
        exact ph1_low os hm pf hf hl hg n k hi ok oh (hf k hk) x2 (Nat.lt_of_lt_of_le (marks_less pl pk hk pf lk) (by omega))
      · have pk := (okP_price ok).1
        have z1 := trans_lr (pos_price pk) (pos_price pl) (pos_price ps) (leads_X.mp lk) x1
        have z2 := hl k hk
        have := X_neg k s
        omega
/-- down to its last price -/
theorem ph1_high {s lo : P2} {m : P2} (os : okP s = true) (ol : okP lo = true) (hm : ans s = .most m) (pf : ∀ x, x ∈ ls → isPriceB x = true) (hf : ∀ x, x ∈ fs → 0 ≤ X x s) (hl : ∀ x, x ∈ ls → 0 ≤ X s x) (hls : 0 ≤ X lo s) (hg : ∀ t, okP t = true → leadsB s t = true → GainAt ans fs ls t) :
    ∀ (n : Nat) (hi : P2), okP hi = true → 0 ≤ X s hi → (ls.filter fun x => leadsB x hi).length < n → ph1 ans true n (lo, hi) = some (some (lo, s))
  | 0, _, _, _, h => absurd h (Nat.not_lt_zero _)
  | n + 1, hi, oh, x2, h => by
    have pl := (okP_price ol).1
    have ph := (okP_price oh).1
    have ps := (okP_price os).1
    by_cases e : hi = s
    · subst e
      unfold ph1
      simp only [ol, oh, Bool.and_self, if_true, hm]
    · have hsh : leadsB s hi = true := leads_X.mpr (by
        have : X s hi ≠ 0 := fun z => e (price_eq ps ph (by unfold X at z; omega)).symm
        omega)
      obtain ⟨g, hg1, hg2, hg3⟩ := hg hi oh hsh
      unfold ph1
      simp only [ol, oh, Bool.and_self, if_true, hg1, hg2]
      rcases hg3 with ⟨k, hk, ok, lk, e⟩ | ⟨k, hk, ok, lk, e⟩
      · have pk := (okP_price ok).1
        have z1 := trans_ll (pos_price ps) (pos_price ph) (pos_price pk) x2 (leads_X.mp lk)
        have z2 := hf k hk
        have := X_neg k s
        omega
      · have pk := (okP_price ok).1
        have hlk : 0 ≤ X lo k := trans_le (pos_price pl) (pos_price ps) (pos_price pk) hls (hl k hk)
        rw [free_w1 e, common_hi pl lk, if_neg (by rw [not_leads hlk]; decide)]
        exact ph1_high os ol hm pf hf hl hls hg n k ok (hl k hk) (Nat.lt_of_lt_of_le (marks_less' ph pk hk pf lk) (by omega))
end
end HK
set_option Elab.async false
set_option linter.all false
set_option maxRecDepth 100000
/-! P11: who is best just before and just behind a price. -/
namespace HK
/-- a pair that is greatest by two weights, one after the other -/
theorem lex_max (f g : P2 → Int) : ∀ {l : List P2}, l ≠ [] → ∃ c, c ∈ l ∧ ∀ q, q ∈ l → f q < f c ∨ (f q = f c ∧ g q ≤ g c)
  | [], h => absurd rfl h
  | [x], _ => ⟨x, List.mem_cons_self, fun q hq => .inr (by rw [show q = x by simpa using hq]; exact ⟨rfl, Int.le_refl _⟩)⟩
  | x :: y :: r, _ => by
    obtain ⟨c, hc, h⟩ := lex_max f g (l := y :: r) (by simp)
    by_cases z : f c < f x ∨ (f c = f x ∧ g c ≤ g x)
    · refine ⟨x, List.mem_cons_self, fun q hq => ?_⟩
      rcases List.mem_cons.mp hq with e | e
      · exact .inr (by rw [e]; exact ⟨rfl, Int.le_refl _⟩)
      · have := h q e
        omega
    · refine ⟨c, List.mem_cons_of_mem _ hc, fun q hq => ?_⟩
      rcases List.mem_cons.mp hq with e | e
      · rw [e]; omega
      · exact h q e
section
variable {lo hi : P2} {ps : List P2}
theorem lin_nonneg {A B n0 : Int} (h : ∀ n, n0 ≤ n → 0 < n * A + B) : 0 ≤ A := by
  refine Int.le_of_not_gt fun z => ?_
  have h1 := h ((n0.natAbs : Int) + B.natAbs + 1) (by omega)
  have h2 : ((n0.natAbs : Int) + B.natAbs + 1) * A ≤ ((n0.natAbs : Int) + B.natAbs + 1) * (-1) := Int.mul_le_mul_of_nonneg_left (by omega) (by omega)
  omega
theorem best_left (pl : isPriceB lo = true) (ph : isPriceB hi = true) (hne : ps ≠ []) {p : P2} (pp : Pos p) (ip : Ins lo hi p) :
    ∃ c a b, c ∈ ps ∧ lawAlone c ((dedup ps).filter fun o => !decide (o = c)) lo hi = some (a, b) ∧ (∀ q, q ∈ ps → wt q p ≤ wt c p) ∧ 0 < X a p ∧ 0 ≤ X p b := by
  have Pl := pos_price pl
  have Ph := pos_price ph
  have D := ip.D pp.1 pp.2.1 Pl.1 Pl.2.1 Ph.1 Ph.2.1
  obtain ⟨c, hc, hmax⟩ := lex_max (fun q => wt q p) (fun q => wt q lo) hne
  have nz : X lo p ≠ 0 := by have := ip.1; omega
  obtain ⟨n0, hn0, hb⟩ := bigL (fun q => wt c p - wt q p) (fun q => wt c lo - wt q lo) (ps.filter fun q => !decide (q = c)) fun q hq => by
    have hq1 := hmax q (List.mem_filter.mp hq).1
    have ne : q ≠ c := by simpa using (List.mem_filter.mp hq).2
    rcases hq1 with h | ⟨h1, h2⟩
    · exact .inl (by omega)
    · refine .inr ⟨by omega, ?_⟩
      have : wt q lo ≠ wt c lo := fun e => ne (eq_of_wt (lo := lo) (hi := p) nz e h1)
      omega
  have best : ∀ n, n0 + 1 ≤ n → Ins lo hi (cb n p lo) ∧ Best ps c (cb n p lo) := fun n hn => by
    refine ⟨⟨?_, ?_⟩, hc, fun q hq ne => ?_⟩
    · rw [X_cb, X_self]
      have := Int.mul_pos (show 0 < n by omega) ip.1
      omega
    · rw [X_cb']
      have := Int.mul_pos (show 0 < n by omega) ip.2
      omega
    · have := hb n (by omega) q (List.mem_filter.mpr ⟨hq, by simpa using ne⟩)
      rw [wt_cb, wt_cb]
      have e : n * (wt c p - wt q p) = n * wt c p - n * wt q p := Int.mul_sub _ _ _
      omega
  have pc : ∀ n, 0 < n → Pos (cb n p lo) := fun n hn => by
    obtain ⟨q1, q2, q3⟩ := pp
    have m1 := Int.mul_nonneg (Int.le_of_lt hn) q1
    have m2 := Int.mul_nonneg (Int.le_of_lt hn) q2
    have l1 := Pl.1
    have l2 := Pl.2.1
    have l3 := Pl.2.2
    refine ⟨?_, ?_, ?_⟩ <;> unfold cb <;> simp only <;> omega
  obtain ⟨i1, b1⟩ := best (n0 + 1) (Int.le_refl _)
  obtain ⟨a, b, e, j1⟩ := best_alone pl ph (pc _ (by omega)) i1 b1
  have hall : ∀ n, n0 + 1 ≤ n → Ins a b (cb n p lo) := fun n hn => by
    obtain ⟨i2, b2⟩ := best n hn
    obtain ⟨a', b', e', j2⟩ := best_alone pl ph (pc n (by omega)) i2 b2
    rw [e] at e'
    cases e'
    exact j2
  obtain ⟨pa, pb, x1, x2, x3, x4⟩ := alone_best pl ph hc e
  refine ⟨c, a, b, hc, e, fun q hq => by have := hmax q hq; omega, ?_, lin_nonneg (n0 := n0 + 1) (B := X lo b) fun n hn => by
    have := (hall n hn).2
    rw [X_cb'] at this
    exact this⟩
  have h1 := j1.1
  rw [X_cb] at h1
  have h2 : X a lo ≤ 0 := by have := X_neg lo a; omega
  refine Int.lt_of_not_ge fun z => ?_
  have := Int.mul_nonpos_of_nonneg_of_nonpos (show 0 ≤ n0 + 1 by omega) z
  omega
end
end HK
set_option Elab.async false
set_option linter.all false
set_option maxRecDepth 100000
/-! P12: the other side. -/
namespace HK
section
variable {lo hi : P2} {ps : List P2}
theorem best_right (pl : isPriceB lo = true) (ph : isPriceB hi = true) (hne : ps ≠ []) {p : P2} (pp : Pos p) (ip : Ins lo hi p) :
    ∃ c a b, c ∈ ps ∧ lawAlone c ((dedup ps).filter fun o => !decide (o = c)) lo hi = some (a, b) ∧ (∀ q, q ∈ ps → wt q p ≤ wt c p) ∧ 0 ≤ X a p ∧ 0 < X p b := by
  have Pl := pos_price pl
  have Ph := pos_price ph
  have D := ip.D pp.1 pp.2.1 Pl.1 Pl.2.1 Ph.1 Ph.2.1
  obtain ⟨c, hc, hmax⟩ := lex_max (fun q => wt q p) (fun q => wt q hi) hne
  have nz : X p hi ≠ 0 := by have := ip.2; omega
  obtain ⟨n0, hn0, hb⟩ := bigL (fun q => wt c p - wt q p) (fun q => wt c hi - wt q hi) (ps.filter fun q => !decide (q = c)) fun q hq => by
    have hq1 := hmax q (List.mem_filter.mp hq).1
    have ne : q ≠ c := by simpa using (List.mem_filter.mp hq).2
    rcases hq1 with h | ⟨h1, h2⟩
    · exact .inl (by omega)
    · refine .inr ⟨by omega, ?_⟩
      have : wt q hi ≠ wt c hi := fun e => ne (eq_of_wt (lo := p) (hi := hi) nz h1 e)
      omega
  have best : ∀ n, n0 + 1 ≤ n → Ins lo hi (cb n p hi) ∧ Best ps c (cb n p hi) := fun n hn => by
    refine ⟨⟨?_, ?_⟩, hc, fun q hq ne => ?_⟩
    · rw [X_cb]
      have := Int.mul_pos (show 0 < n by omega) ip.1
      omega
    · rw [X_cb', X_self]
      have := Int.mul_pos (show 0 < n by omega) ip.2
      omega
    · have := hb n (by omega) q (List.mem_filter.mpr ⟨hq, by simpa using ne⟩)
      rw [wt_cb, wt_cb]
      have e : n * (wt c p - wt q p) = n * wt c p - n * wt q p := Int.mul_sub _ _ _
      omega
  have pc : ∀ n, 0 < n → Pos (cb n p hi) := fun n hn => by
    obtain ⟨q1, q2, q3⟩ := pp
    have m1 := Int.mul_nonneg (Int.le_of_lt hn) q1
    have m2 := Int.mul_nonneg (Int.le_of_lt hn) q2
    have l1 := Ph.1
    have l2 := Ph.2.1
    have l3 := Ph.2.2
    refine ⟨?_, ?_, ?_⟩ <;> unfold cb <;> simp only <;> omega
  obtain ⟨i1, b1⟩ := best (n0 + 1) (Int.le_refl _)
  obtain ⟨a, b, e, j1⟩ := best_alone pl ph (pc _ (by omega)) i1 b1
  have hall : ∀ n, n0 + 1 ≤ n → Ins a b (cb n p hi) := fun n hn => by
    obtain ⟨i2, b2⟩ := best n hn
    obtain ⟨a', b', e', j2⟩ := best_alone pl ph (pc n (by omega)) i2 b2
    rw [e] at e'
    cases e'
    exact j2
  obtain ⟨pa, pb, x1, x2, x3, x4⟩ := alone_best pl ph hc e
  refine ⟨c, a, b, hc, e, fun q hq => by have := hmax q hq; omega, lin_nonneg (n0 := n0 + 1) (B := X a hi) (fun n hn => by
    have := (hall n hn).1
    rw [X_cb] at this
    exact this), ?_⟩
  have h1 := j1.2
  rw [X_cb'] at h1
  have h2 : X hi b ≤ 0 := by have := X_neg hi b; omega
  refine Int.lt_of_not_ge fun z => ?_
  have := Int.mul_nonpos_of_nonneg_of_nonpos (show 0 ≤ n0 + 1 by omega) z
  omega
end
end HK
set_option Elab.async false
set_option linter.all false
set_option maxRecDepth 100000
/-! P13: the search: where it turns, how long it takes. -/
namespace HK
theorem filter_le {α : Type} {P Q : α → Bool} : ∀ {l : List α}, (∀ x, x ∈ l → P x = true → Q x = true) → (l.filter P).length ≤ (l.filter Q).length
  | [], _ => Nat.le_refl _
  | z :: l, h => by
    have ih := filter_le (P := P) (Q := Q) (l := l) fun x hx => h x (List.mem_cons_of_mem _ hx)
    rw [List.filter_cons, List.filter_cons]
    by_cases e : P z = true
    · rw [if_pos e, if_pos (h z List.mem_cons_self e), List.length_cons, List.length_cons]
      omega
    · rw [if_neg e]
      split
      · rw [List.length_cons]; omega
      · exact ih
/-- the parts of the corners -/
def regs (ps : List P2) (lo hi : P2) : List Str2 := (dedup ps).filterMap fun p => lawAlone p ((dedup ps).filter fun o => !decide (o = p)) lo hi
theorem regs_mem {ps : List P2} {lo hi c a b : P2} (hc : c ∈ ps) (h : lawAlone c ((dedup ps).filter fun o => !decide (o = c)) lo hi = some (a, b)) : (a, b) ∈ regs ps lo hi := List.mem_filterMap.mpr ⟨c, mem_dedup.mpr hc, h⟩
theorem regs_price {ps : List P2} {lo hi : P2} (pl : isPriceB lo = true) (ph : isPriceB hi = true) {r : Str2} (h : r ∈ regs ps lo hi) : isPriceB r.1 = true ∧ isPriceB r.2 = true := by
  obtain ⟨p, hp, e⟩ := List.mem_filterMap.mp h
  obtain ⟨a, b⟩ := r
  have := alone_best pl ph (mem_dedup.mp hp) e
  exact ⟨this.1, this.2.1⟩
def kap (ps : List P2) (lo hi p : P2) : Nat := ((regs ps lo hi).filter fun r => leadsB r.1 p).length + ((regs ps lo hi).filter fun r => !leadsB p r.2).length
theorem kap_le (ps : List P2) (lo hi p : P2) : kap ps lo hi p ≤ 2 * ps.length := by
  have h1 : (regs ps lo hi).length ≤ (dedup ps).length := List.length_filterMap_le _ _
  have h2 := dedup_len ps
  have h3 := List.length_filter_le (fun r : Str2 => leadsB r.1 p) (regs ps lo hi)
  have h4 := List.length_filter_le (fun r : Str2 => !leadsB p r.2) (regs ps lo hi)
  unfold kap
  omega
section
variable {ps : List P2} {lo hi : P2} (pl : isPriceB lo = true) (ph : isPriceB hi = true)
include pl ph
theorem kap_left {u p : P2} (pu : Pos u) (pp : Pos p) (h : 0 < X u p) {r : Str2} (hr : r ∈ regs ps lo hi) (h1 : 0 < X r.1 p) (h2 : ¬ 0 < X r.1 u) : kap ps lo hi u < kap ps lo hi p := by
  have a1 := filter_lt (P := fun r : Str2 => leadsB r.1 u) (Q := fun r : Str2 => leadsB r.1 p) (l := regs ps lo hi) (fun x hx z => leads_X.mpr (trans_lr (pos_price (regs_price pl ph hx).1) pu pp (leads_X.mp z) (Int.le_of_lt h))) ⟨r, hr, leads_X.mpr h1, by
    cases z : leadsB r.1 u with
    | false => rfl
    | true => exact absurd (leads_X.mp z) h2⟩
  have a2 := filter_le (P := fun r : Str2 => !leadsB u r.2) (Q := fun r : Str2 => !leadsB p r.2) (l := regs ps lo hi) fun x hx z => by
    cases y : leadsB p x.2 with
    | false => rfl
    | true =>
      have := trans_ll pu pp (pos_price (regs_price pl ph hx).2) (Int.le_of_lt h) (leads_X.mp y)
      rw [leads_X.mpr this] at z
      cases z
  unfold kap
  omega
theorem kap_right {u p : P2} (pu : Pos u) (pp : Pos p) (h : 0 < X p u) {r : Str2} (hr : r ∈ regs ps lo hi) (h1 : 0 < X p r.2) (h2 : ¬ 0 < X u r.2) : kap ps lo hi p < kap ps lo hi u := by
  have a1 := filter_le (P := fun r : Str2 => leadsB r.1 p) (Q := fun r : Str2 => leadsB r.1 u) (l := regs ps lo hi) fun x hx z => leads_X.mpr (trans_lr (pos_price (regs_price pl ph hx).1) pp pu (leads_X.mp z) (Int.le_of_lt h))
  have a2 := filter_lt (P := fun r : Str2 => !leadsB p r.2) (Q := fun r : Str2 => !leadsB u r.2) (l := regs ps lo hi) (fun x hx z => by
    cases y : leadsB u x.2 with
    | false => rfl
    | true =>
      have := trans_ll pp pu (pos_price (regs_price pl ph hx).2) (Int.le_of_lt h) (leads_X.mp y)
      rw [leads_X.mpr this] at z
      cases z) ⟨r, hr, by
    cases y : leadsB u r.2 with
    | false => rfl
    | true => exact absurd (leads_X.mp y) h2, by rw [leads_X.mpr h1]; rfl⟩
  unfold kap
  omega
end
end HK
set_option Elab.async false
set_option linter.all false
set_option maxRecDepth 100000
/-! P14: the search finds all. -/
namespace HK
structure Land (ps : List P2) (lo hi : P2) (ans : P2 → Ans) : Prop where
  pl : isPriceB lo = true
  ph : isPriceB hi = true
  D : 0 < X lo hi
  ne : ps ≠ []
  touch : ∀ t, okP t = true → 0 ≤ X lo t → 0 ≤ X t hi → ∃ m, ans t = .most m ∧ Sm2 43 m ∧ (∀ q, q ∈ ps → wt q t ≤ wt m t) ∧ (∃ q, q ∈ ps ∧ wt q t = wt m t) ∧ ∀ u, Pos u → 0 ≤ X lo u → 0 ≤ X u hi → ∃ q, q ∈ ps ∧ wt m u ≤ wt q u
  own : ∀ c a b t, c ∈ ps → lawAlone c ((dedup ps).filter fun o => !decide (o = c)) lo hi = some (a, b) → okP t = true → Ins a b t → ans t = .most c
def Valid (ps : List P2) (lo hi m : P2) : Prop := ∀ u, Pos u → 0 ≤ X lo u → 0 ≤ X u hi → ∃ q, q ∈ ps ∧ wt m u ≤ wt q u
structure WaitOk (ps : List P2) (lo hi : P2) (ans : P2 → Ans) (found : List P2) (w : Wait) : Prop where
  oa : okP w.a = true
  oc : okP w.c = true
  xa : 0 ≤ X lo w.a
  xc : 0 ≤ X w.c hi
  x : 0 < X w.a w.c
  aa : ans w.a = .most w.b
  ac : ans w.c = .most w.d
  fb : w.b ∈ found
  fd : w.d ∈ found
def meas (ps : List P2) (lo hi : P2) : List Wait → Nat
  | [] => 0
  | w :: ws => 2 * (kap ps lo hi w.c - kap ps lo hi w.a - 1) + 1 + meas ps lo hi ws
/-- who is greatest at both ends is so between -/
theorem max_between {a c t q m : P2} (x : 0 < X a c) (h1 : 0 ≤ X a t) (h2 : 0 ≤ X t c) (e1 : wt q a ≤ wt m a) (e2 : wt q c ≤ wt m c) : wt q t ≤ wt m t := by
  refine wt_le x ?_
  have m1 := Int.mul_le_mul_of_nonneg_left e1 h2
  have m2 := Int.mul_le_mul_of_nonneg_left e2 h1
  omega
theorem ray {t p q m : P2} (pp : Pos p) (pt : Pos t) (h : X t p = 0) (e : wt q p ≤ wt m p) : wt q t ≤ wt m t := by
  have e1 : ∀ c : P2, (p.1 + p.2) * wt c t = (t.1 + t.2) * wt c p := fun c => by
    unfold X at h
    unfold wt
    have h' : t.1 * p.2 = p.1 * t.2 := by omega
    have z1 : (p.1 + p.2) * (t.1 * c.1 + t.2 * c.2) = t.1 * p.1 * c.1 + (t.1 * p.2) * c.1 + (p.1 * t.2) * c.2 + t.2 * p.2 * c.2 := by grind
    have z2 : (t.1 + t.2) * (p.1 * c.1 + p.2 * c.2) = t.1 * p.1 * c.1 + (p.1 * t.2) * c.1 + (t.1 * p.2) * c.2 + t.2 * p.2 * c.2 := by grind
    rw [z1, z2, h']
  have := Int.mul_le_mul_of_nonneg_left e (Int.le_of_lt pt.2.2)
  rw [← e1, ← e1] at this
  exact Int.le_of_mul_le_mul_left this pp.2.2
theorem most_inj {a b : P2} (h : Ans.most a = Ans.most b) : a = b := by cases h; rfl
section
variable {ps : List P2} {lo hi : P2} {ans : P2 → Ans}
/-- what is told at an end of a wait is greatest there -/
theorem Land.at_ (L : Land ps lo hi ans) {t m : P2} (o : okP t = true) (h1 : 0 ≤ X lo t) (h2 : 0 ≤ X t hi) (e : ans t = .most m) : Sm2 43 m ∧ (∀ q, q ∈ ps → wt q t ≤ wt m t) ∧ Valid ps lo hi m ∧ ∀ m', Valid ps lo hi m' → wt m' t ≤ wt m t := by
  obtain ⟨m', e', s, g, _, v⟩ := L.touch t o h1 h2
  rw [e] at e'
  have := most_inj e'
  subst this
  refine ⟨s, g, v, fun m' hv => ?_⟩
  obtain ⟨q, hq, l⟩ := hv t (pos_price (okP_price o).1) h1 h2
  have := g q hq
  omega
/-- a gain is made strictly between two turns -/
theorem Land.turn (L : Land ps lo hi ans) {found : List P2} {w : Wait} {p m : P2} (W : WaitOk ps lo hi ans found w) (op : okP p = true) (h1 : 0 < X w.a p) (h2 : 0 < X p w.c) (tie : wt w.b p = wt w.d p) (hm : ∃ q, q ∈ ps ∧ wt q p = wt m p) (hg : wt w.b p < wt m p) :
    kap ps lo hi w.a < kap ps lo hi p ∧ kap ps lo hi p < kap ps lo hi w.c := by
  have Pl := pos_price L.pl
  have Ph := pos_price L.ph
  have Pa := pos_price (okP_price W.oa).1
  have Pc := pos_price (okP_price W.oc).1
  have Pp := pos_price (okP_price op).1
  have ip : Ins lo hi p := ⟨trans_ll Pl Pa Pp W.xa h1, trans_lr Pp Pc Ph h2 W.xc⟩
  obtain ⟨q0, hq0, eq0⟩ := hm
  constructor
  · obtain ⟨c, a, b, hc, e, hmax, y1, y2⟩ := best_left L.pl L.ph L.ne Pp ip
    have al := alone_best L.pl L.ph hc e
    have Pb := pos_price al.2.1
    refine kap_left L.pl L.ph Pa Pp h1 (regs_mem hc e) y1 fun z => ?_
    have := L.own c a b w.a hc e W.oa ⟨z, trans_lr Pa Pp Pb h1 y2⟩
    rw [W.aa] at this
    have eb := most_inj this
    have := hmax q0 hq0
    rw [eb] at hg
    omega
  · obtain ⟨c, a, b, hc, e, hmax, y1, y2⟩ := best_right L.pl L.ph L.ne Pp ip
    have al := alone_best L.pl L.ph hc e
    have Pa' := pos_price al.1
    refine kap_right L.pl L.ph Pc Pp h2 (regs_mem hc e) y2 fun z => ?_
    have := L.own c a b w.c hc e W.oc ⟨trans_ll Pa' Pp Pc y1 h2, z⟩
    rw [W.ac] at this
    have eb := most_inj this
    have := hmax q0 hq0
    rw [tie, eb] at hg
    omega
end
end HK
set_option Elab.async false
set_option linter.all false
set_option maxRecDepth 100000
/-! P15: the search ends, and what it found covers all. -/
namespace HK
theorem wt_diff (a b t : P2) : wt a t - wt b t = t.1 * (a.1 - b.1) + t.2 * (a.2 - b.2) := by unfold wt; grind
theorem wt_pos {a b t : P2} (pt : Pos t) (h1 : 0 < a.1 - b.1) (h2 : 0 < a.2 - b.2) : wt b t < wt a t := by
  have e := wt_diff a b t
  have m1 := Int.mul_nonneg pt.1 (Int.le_of_lt h1)
  have m2 := Int.mul_nonneg pt.2.1 (Int.le_of_lt h2)
  by_cases z : 0 < t.1
  · have := Int.mul_pos z h1
    omega
  · have := Int.mul_pos (show 0 < t.2 by have := pt.1; have := pt.2.2; omega) h2
    omega
theorem ins_to_pos {lo hi t : P2} (Pl : Pos lo) (Ph : Pos hi) (D : 0 < X lo hi) (h : Ins lo hi t) : Pos t := by
  obtain ⟨h1, h2⟩ := h
  have e1 : X lo hi * t.1 = X t hi * lo.1 + X lo t * hi.1 := by unfold X; grind
  have e2 : X lo hi * t.2 = X t hi * lo.2 + X lo t * hi.2 := by unfold X; grind
  have e3 : X lo hi * (t.1 + t.2) = X t hi * (lo.1 + lo.2) + X lo t * (hi.1 + hi.2) := by unfold X; grind
  have m1 := Int.mul_nonneg (Int.le_of_lt h2) Pl.1
  have m2 := Int.mul_nonneg (Int.le_of_lt h1) Ph.1
  have m3 := Int.mul_nonneg (Int.le_of_lt h2) Pl.2.1
  have m4 := Int.mul_nonneg (Int.le_of_lt h1) Ph.2.1
  have m5 := Int.mul_pos h2 Pl.2.2
  have m6 := Int.mul_pos h1 Ph.2.2
  exact ⟨(sgn_pos D e1).2.mpr (by omega), (sgn_pos D e2).2.mpr (by omega), (sgn_pos D e3).1.mpr (by omega)⟩
theorem alike_none {one other : P2} (h : alikeAt one other = none) : one = other ∨ (0 < one.1 - other.1 ∧ 0 < one.2 - other.2) ∨ (0 < other.1 - one.1 ∧ 0 < other.2 - one.2) := by
  unfold alikeAt at h
  split at h
  · next hc =>
    rcases hc with hc | hc
    · have e1 : one.1 - other.1 = 0 := congrArg Prod.fst hc
      have e2 : other.2 - one.2 = 0 := congrArg Prod.snd hc
      exact .inl (Prod.ext (by omega) (by omega))
    · right
      rcases Int.lt_trichotomy 0 (one.1 - other.1) with z | z | z
      · refine .inl ⟨z, Int.lt_of_not_ge fun y => ?_⟩
        have := Int.mul_nonneg (Int.le_of_lt z) (show 0 ≤ other.2 - one.2 by omega)
        omega
      · rw [← z] at hc
        omega
      · refine .inr ⟨by omega, Int.lt_of_not_ge fun y => ?_⟩
        have := Int.mul_nonneg_of_nonpos_of_nonpos (Int.le_of_lt z) (show other.2 - one.2 ≤ 0 by omega)
        omega
  · cases h
theorem iabs_nonneg (i : Int) : 0 ≤ iabs i := by unfold iabs; split <;> omega
theorem iabs_zero {i : Int} (h : iabs i = 0) : i = 0 := by unfold iabs at h; split at h <;> omega
theorem alike_some {one other p : P2} (h : alikeAt one other = some p) (s1 : Sm2 43 one) (s2 : Sm2 43 other) : okP p = true ∧ wt one p = wt other p := by
  unfold alikeAt at h
  split at h
  · cases h
  · next hc =>
    have e := Option.some.inj h
    have nz : ¬ (iabs (other.2 - one.2) = 0 ∧ iabs (one.1 - other.1) = 0) := fun ⟨z1, z2⟩ => hc (.inl (by rw [iabs_zero z1, iabs_zero z2]))
    have n1 := iabs_nonneg (other.2 - one.2)
    have n2 := iabs_nonneg (one.1 - other.1)
    have hp : 0 ≤ (one.1 - other.1) * (other.2 - one.2) := Int.le_of_not_gt fun z => hc (.inr z)
    have g0 := gcdI_pos (p := iabs (other.2 - one.2)) (q := iabs (one.1 - other.1)) nz
    obtain ⟨l1, l2⟩ := least_mul (p := iabs (other.2 - one.2)) (q := iabs (one.1 - other.1))
    have sm : Sm2 44 p := by
      rw [← e]
      exact leastT_sm (Sm.abs (s2.2.sub s1.2)) (Sm.abs (s1.1.sub s2.1)) nz
    have pr : isPriceB p = true := by
      rw [← e]
      exact gcd_leastT n1 n2 nz
    refine ⟨?_, ?_⟩
    · unfold okP
      rw [pr, decide_eq_true (sm.mono (by omega))]
      rfl
    · rw [e] at l1 l2
      generalize gcdI (iabs (other.2 - one.2)) (iabs (one.1 - other.1)) = g at g0 l1 l2
      have e2 := wt_diff one other p
      have e3 : g * (wt one p - wt other p) = iabs (other.2 - one.2) * (one.1 - other.1) - iabs (one.1 - other.1) * (other.2 - one.2) := by
        rw [e2, ← l1, ← l2]
        grind
      have e4 : iabs (other.2 - one.2) * (one.1 - other.1) - iabs (one.1 - other.1) * (other.2 - one.2) = 0 := by
        generalize other.2 - one.2 = u at hp ⊢
        generalize one.1 - other.1 = v at hp ⊢
        have zero : ∀ a b : Int, a < 0 → 0 ≤ b → 0 ≤ a * b → b = 0 := fun a b h1 h2 h3 => by
          refine Int.le_antisymm (Int.le_of_not_gt fun z => ?_) h2
          have := Int.mul_neg_of_neg_of_pos h1 z
          omega
        unfold iabs
        by_cases z1 : u < 0
        · by_cases z2 : v < 0
          · rw [if_pos z1, if_pos z2]
            grind
          · have := zero u v z1 (by omega) (by rw [Int.mul_comm]; exact hp)
            subst this
            simp
        · by_cases z2 : v < 0
          · have := zero v u z2 (by omega) hp
            subst this
            simp
          · rw [if_neg z1, if_neg z2]
            grind
      rw [e4] at e3
      have := (Int.mul_eq_zero.mp e3).resolve_left (by omega)
      omega
section
variable {ps : List P2} {lo hi : P2} {ans : P2 → Ans} {found : List P2} {w : Wait}
/-- all between the ends of w is covered -/
def Covered (ps found : List P2) (w : Wait) : Prop := ∀ t, Pos t → 0 ≤ X w.a t → 0 ≤ X t w.c → ∃ m, m ∈ found ∧ ∀ q, q ∈ ps → wt q t ≤ wt m t
def Cov (ps : List P2) (lo hi : P2) (found : List P2) (ws : List Wait) : Prop := ∀ t, Pos t → 0 ≤ X lo t → 0 ≤ X t hi → (∃ m, m ∈ found ∧ ∀ q, q ∈ ps → wt q t ≤ wt m t) ∨ ∃ w, w ∈ ws ∧ 0 ≤ X w.a t ∧ 0 ≤ X t w.c
structure EndsOf (ps : List P2) (lo hi : P2) (w : Wait) : Prop where
  pa : Pos w.a
  pc : Pos w.c
  sb : Sm2 43 w.b
  sd : Sm2 43 w.d
  mb : ∀ q, q ∈ ps → wt q w.a ≤ wt w.b w.a
  md : ∀ q, q ∈ ps → wt q w.c ≤ wt w.d w.c
  fa : wt w.d w.a ≤ wt w.b w.a
  fc : wt w.b w.c ≤ wt w.d w.c
theorem Land.ends (L : Land ps lo hi ans) (W : WaitOk ps lo hi ans found w) : EndsOf ps lo hi w := by
  have Pl := pos_price L.pl
  have Ph := pos_price L.ph
  have Pa := pos_price (okP_price W.oa).1
  have Pc := pos_price (okP_price W.oc).1
  obtain ⟨a1, a2, a3, a4⟩ := L.at_ W.oa W.xa (Int.le_of_lt (trans_lr Pa Pc Ph W.x W.xc)) W.aa
  obtain ⟨b1, b2, b3, b4⟩ := L.at_ W.oc (Int.le_of_lt (trans_ll Pl Pa Pc W.xa W.x)) W.xc W.ac
  exact ⟨Pa, Pc, a1, b1, a2, b2, a4 _ b3, b4 _ a3⟩
theorem cov_same (L : Land ps lo hi ans) (W : WaitOk ps lo hi ans found w) (h : alikeAt w.b w.d = none) : Covered ps found w := by
  have E := L.ends W
  have e : w.b = w.d := by
    rcases alike_none h with h | ⟨h1, h2⟩ | ⟨h1, h2⟩
    · exact h
    · have := wt_pos E.pc h1 h2
      have := E.fc
      omega
    · have := wt_pos E.pa h1 h2
      have := E.fa
      omega
  exact fun t pt h1 h2 => ⟨w.b, W.fb, fun q hq => max_between W.x h1 h2 (E.mb q hq) (by rw [e]; exact E.md q hq)⟩
theorem cov_out (L : Land ps lo hi ans) (W : WaitOk ps lo hi ans found w) {p : P2} (pp : Pos p) (tie : wt w.b p = wt w.d p) (h : ¬ (0 < X w.a p ∧ 0 < X p w.c)) : Covered ps found w := by
  have E := L.ends W
  by_cases z : 0 < X w.a p
  · have z2 : ¬ 0 < X p w.c := fun y => h ⟨z, y⟩
    have z3 : 0 ≤ X w.c p := by have := X_neg p w.c; omega
    have c := cone w.a p w.c (HK.sb w.b w.d)
    rw [wt_sb, wt_sb, wt_sb, tie, Int.sub_self, Int.mul_zero, Int.add_zero] at c
    have m1 := Int.mul_nonneg z3 (show 0 ≤ wt w.b w.a - wt w.d w.a by have := E.fa; omega)
    have m2 := (sgn_pos z c).2.mpr m1
    exact fun t pt h1 h2 => ⟨w.b, W.fb, fun q hq => max_between W.x h1 h2 (E.mb q hq) (by have := E.md q hq; omega)⟩
  · have z3 : 0 ≤ X p w.a := by have := X_neg w.a p; omega
    have z4 := trans_ll pp E.pa E.pc z3 W.x
    have c := cone p w.c w.a (HK.sb w.d w.b)
    rw [wt_sb, wt_sb, wt_sb, tie, Int.sub_self, Int.mul_zero, Int.zero_add] at c
    have m1 := Int.mul_nonneg z3 (show 0 ≤ wt w.d w.c - wt w.b w.c by have := E.fc; omega)
    have m2 := (sgn_pos z4 c).2.mpr m1
    exact fun t pt h1 h2 => ⟨w.d, W.fd, fun q hq => max_between W.x h1 h2 (by have := E.mb q hq; omega) (E.md q hq)⟩
theorem cov_flat (L : Land ps lo hi ans) (W : WaitOk ps lo hi ans found w) {p : P2} (pp : Pos p) (tie : wt w.b p = wt w.d p) (h1 : 0 < X w.a p) (h2 : 0 < X p w.c) (hm : ∀ q, q ∈ ps → wt q p ≤ wt w.b p) : Covered ps found w := by
  have E := L.ends W
  intro t pt g1 g2
  by_cases z : 0 ≤ X t p
  · exact ⟨w.b, W.fb, fun q hq => max_between h1 g1 z (E.mb q hq) (hm q hq)⟩
  · exact ⟨w.d, W.fd, fun q hq => max_between h2 (show 0 ≤ X p t by have := X_neg t p; omega) g2 (by have := hm q hq; omega) (E.md q hq)⟩
theorem Cov.drop {ws : List Wait} (C : Cov ps lo hi found (w :: ws)) (h : Covered ps found w) : Cov ps lo hi found ws := fun t pt h1 h2 => by
  rcases C t pt h1 h2 with c | ⟨w', hw, g1, g2⟩
  · exact .inl c
  · rcases List.mem_cons.mp hw with e | hw
    · subst e
      exact .inl (h t pt g1 g2)
    · exact .inr ⟨w', hw, g1, g2⟩
theorem WaitOk.grow {m : P2} (W : WaitOk ps lo hi ans found w) : WaitOk ps lo hi ans (found ++ [m]) w := { W with fb := List.mem_append_left _ W.fb, fd := List.mem_append_left _ W.fd }
theorem ph2_all (L : Land ps lo hi ans) : ∀ (n : Nat) (found : List P2) (ws : List Wait), (∀ w, w ∈ ws → WaitOk ps lo hi ans found w) → (∀ m, m ∈ found → Valid ps lo hi m ∧ okC m = true) → Cov ps lo hi found ws → meas ps lo hi ws < n → found.length + ws.length + 2 * meas ps lo hi ws < 100000 →
    ∃ r, ph2 ans n found ws = some r ∧ (∀ m, m ∈ r → Valid ps lo hi m ∧ okC m = true) ∧ Cov ps lo hi r [] ∧ r.length < 100000
  | 0, _, _, _, _, _, h, _ => absurd h (Nat.not_lt_zero _)
  | n + 1, found, [], _, hf, hc, _, hb => ⟨found, by rw [ph2], hf, hc, by simp only [List.length_nil] at hb; omega⟩
  | n + 1, found, w :: ws, hw, hf, hc, hn, hb => by
    have W := hw w List.mem_cons_self
    have E := L.ends W
    have hws : ∀ w', w' ∈ ws → WaitOk ps lo hi ans found w' := fun w' h => hw w' (List.mem_cons_of_mem _ h)
    have hb' : found.length + ws.length + 2 * meas ps lo hi ws < 100000 := by
      simp only [List.length_cons, meas] at hb
      omega
    have hn' : meas ps lo hi ws < n := by
      simp only [meas] at hn
      omega
    have step : ∀ h : Covered ps found w, ∃ r, ph2 ans n found ws = some r ∧ (∀ m, m ∈ r → Valid ps lo hi m ∧ okC m = true) ∧ Cov ps lo hi r [] ∧ r.length < 100000 := fun h => ph2_all L n found ws hws hf (hc.drop h) hn' hb'
    rw [ph2]
    rw [if_pos (by
      simp only [Bool.and_eq_true, decide_eq_true_eq]
      exact ⟨⟨⟨⟨W.oa, W.oc⟩, (hf _ W.fb).2⟩, (hf _ W.fd).2⟩, by omega⟩)]
    cases ha : alikeAt w.b w.d with
    | none => exact step (cov_same L W ha)
    | some p =>
      obtain ⟨op, tie⟩ := alike_some ha E.sb E.sd
      have pp := pos_price (okP_price op).1
      simp only
      rw [if_pos op]
      by_cases hl : (leadsB w.a p && leadsB p w.c) = true
      · rw [if_pos hl]
        simp only [Bool.and_eq_true] at hl
        have h1 := leads_X.mp hl.1
        have h2 := leads_X.mp hl.2
        have Pl := pos_price L.pl
        have Ph := pos_price L.ph
        have g1 := trans_ll Pl E.pa pp W.xa h1
        have g2 := trans_lr pp E.pc Ph h2 W.xc
        obtain ⟨m, em, sm, mx, mt, mv⟩ := L.touch p op (Int.le_of_lt g1) (Int.le_of_lt g2)
        have okm : okC m = true := by
          unfold okC
          exact decide_eq_true (sm.mono (by omega))
        simp only [em]
        rw [if_pos okm]
        by_cases hg : wt w.b p < wt m p
        · rw [if_pos hg]
          obtain ⟨k1, k2⟩ := L.turn W op h1 h2 tie mt hg
          have mm : meas ps lo hi (⟨p, m, w.c, w.d⟩ :: ⟨w.a, w.b, p, m⟩ :: ws) < meas ps lo hi (w :: ws) := by
            simp only [meas]
            omega
          refine ph2_all L n (found ++ [m]) _ (fun w' h => ?_) (fun m' h => ?_) (fun t pt z1 z2 => ?_) (by omega) ?_
          · rcases List.mem_cons.mp h with e | h
            · subst e
              exact ⟨op, W.oc, Int.le_of_lt g1, W.xc, h2, em, W.ac, by simp, List.mem_append_left _ W.fd⟩
            · rcases List.mem_cons.mp h with e | h
              · subst e
                exact ⟨W.oa, op, W.xa, Int.le_of_lt g2, h1, W.aa, em, List.mem_append_left _ W.fb, by simp⟩
              · exact (hws w' h).grow
          · rcases List.mem_append.mp h with h | h
            · exact hf m' h
            · rw [show m' = m by simpa using h]
              exact ⟨mv, okm⟩
          · rcases hc t pt z1 z2 with ⟨m', hm', c⟩ | ⟨w', hw', y1, y2⟩
            · exact .inl ⟨m', List.mem_append_left _ hm', c⟩
            · rcases List.mem_cons.mp hw' with e | hw'
              · subst e
                by_cases z : 0 ≤ X t p
                · exact .inr ⟨_, List.mem_cons_of_mem _ List.mem_cons_self, y1, z⟩
                · exact .inr ⟨_, List.mem_cons_self, show 0 ≤ X p t by have := X_neg t p; omega, y2⟩
              · exact .inr ⟨w', List.mem_cons_of_mem _ (List.mem_cons_of_mem _ hw'), y1, y2⟩
          · simp only [List.length_append, List.length_cons, List.length_nil] at hb ⊢
            omega
        · rw [if_neg hg]
          exact step (cov_flat L W pp tie h1 h2 fun q hq => by have := mx q hq; omega)
      · rw [if_neg hl]
        exact step (cov_out L W pp tie fun ⟨y1, y2⟩ => hl (by rw [leads_X.mpr y1, leads_X.mpr y2]; rfl))
end
end HK
set_option Elab.async false
set_option linter.all false
set_option maxRecDepth 100000
/-! P16: what is told at a price of a front. -/
namespace HK
section
variable {ps : List P2} {lo hi : P2}
theorem corner_sub {c : P2} (h : c ∈ lawCorners ps lo hi) : c ∈ ps := by
  obtain ⟨a, h⟩ := corner_mem.mp h
  exact (found_mem.mp h).1
theorem corners_dom (pl : isPriceB lo = true) (ph : isPriceB hi = true) (D : 0 < X lo hi) (hne : ps ≠ []) : Dom lo hi ps (lawCorners ps lo hi) := fun t ht s hs => by
  obtain ⟨c, a, b, hc, e, hm, _⟩ := best_left pl ph hne (ins_to_pos (pos_price pl) (pos_price ph) D ht) ht
  exact ⟨c, corner_mem.mpr ⟨a, found_mem.mpr ⟨hc, b, e⟩⟩, hm s hs⟩
theorem corners_ne (pl : isPriceB lo = true) (ph : isPriceB hi = true) (D : 0 < X lo hi) (hne : ps ≠ []) : lawCorners ps lo hi ≠ [] := fun z => by
  obtain ⟨s, hs⟩ := List.exists_mem_of_ne_nil ps hne
  obtain ⟨m, hm, _⟩ := corners_dom pl ph D hne _ (ins_add D) s hs
  rw [z] at hm
  cases hm
theorem closed_dom (D : 0 < X lo hi) {S F : List P2} (h : Dom lo hi S F) {t : P2} (h1 : 0 ≤ X lo t) (h2 : 0 ≤ X t hi) {s : P2} (hs : s ∈ S) : ∃ m, m ∈ F ∧ wt s t ≤ wt m t := by
  refine Classical.byContradiction fun hn => ?_
  obtain ⟨n, hn0, hb⟩ := bigL0 (fun q => wt s t - wt q t) (fun q => wt s (cb 1 lo hi) - wt q (cb 1 lo hi)) F fun q hq => by
    have : ¬ wt s t ≤ wt q t := fun z => hn ⟨q, hq, z⟩
    omega
  have i := ins_add D
  have it : Ins lo hi (cb n t (cb 1 lo hi)) := by
    refine ⟨?_, ?_⟩
    · rw [X_cb]
      have := Int.mul_nonneg hn0 h1
      have := i.1
      omega
    · rw [X_cb']
      have := Int.mul_nonneg hn0 h2
      have := i.2
      omega
  obtain ⟨m, hm, l⟩ := h _ it s hs
  have := hb n (Int.le_refl _) m hm
  rw [wt_cb s t (cb 1 lo hi) n, wt_cb m t (cb 1 lo hi) n] at l
  have e : n * (wt s t - wt m t) = n * wt s t - n * wt m t := Int.mul_sub _ _ _
  omega
theorem maxL_map {cs : List P2} (h : cs ≠ []) (t : P2) : (∃ c, c ∈ cs ∧ wt c t = maxL (cs.map fun c => wt c t)) ∧ ∀ c, c ∈ cs → wt c t ≤ maxL (cs.map fun c => wt c t) := by
  obtain ⟨h1, h2⟩ := maxL_spec (l := cs.map fun c => wt c t) (by simpa using h)
  obtain ⟨c, hc, e⟩ := List.mem_map.mp h1
  exact ⟨⟨c, hc, e⟩, fun c hc => h2 _ (List.mem_map_of_mem hc)⟩
/-- a pair that may be told at t -/
structure Fits (ps : List P2) (lo hi t m : P2) : Prop where
  sm : Sm2 43 m
  ge : ∀ q, q ∈ ps → wt q t ≤ wt m t
  eq : ∃ q, q ∈ ps ∧ wt q t = wt m t
  va : Valid ps lo hi m
theorem mix_le {d k x y z B : Int} (hd : 0 < d) (k0 : 0 ≤ k) (k1 : k ≤ d) (e : d * z = (d - k) * x + k * y) (hx : x ≤ B) (hy : y ≤ B) : z ≤ B := by
  have m1 := Int.mul_le_mul_of_nonneg_left hx (show 0 ≤ d - k by omega)
  have m2 := Int.mul_le_mul_of_nonneg_left hy k0
  have e2 : (d - k) * B + k * B = d * B := by grind
  exact Int.le_of_mul_le_mul_left (a := d) (by omega) hd
theorem mix_ge {d k x y z B : Int} (hd : 0 < d) (k0 : 0 ≤ k) (k1 : k ≤ d) (e : d * z = (d - k) * x + k * y) (hx : B ≤ x) (hy : B ≤ y) : B ≤ z := by
  have := mix_le (x := -x) (y := -y) (z := -z) (B := -B) hd k0 k1 (by rw [Int.mul_neg, e]; grind) (by omega) (by omega)
  omega
theorem sm_mix {d k x y z : Int} (hd : 0 < d) (k0 : 0 ≤ k) (k1 : k ≤ d) (e : d * z = (d - k) * x + k * y) (hx : Sm 38 x) (hy : Sm 38 y) : Sm 43 z := by
  unfold Sm at *
  have h1 := mix_le (B := 2 ^ 38) hd k0 k1 e (by omega) (by omega)
  have h2 := mix_ge (B := -(2 ^ 38)) hd k0 k1 e (by omega) (by omega)
  omega
theorem sm_tilt {s x y : Int} (hs : s.natAbs ≤ 3) (hx : Sm 38 x) (hy : Sm 40 y) : Sm 43 (x + s * y) ∧ Sm 43 (x - s * y) := by
  have e : (s * y).natAbs = s.natAbs * y.natAbs := Int.natAbs_mul _ _
  have m := Nat.mul_le_mul_right y.natAbs hs
  rw [← e] at m
  generalize s * y = u at m ⊢
  unfold Sm at *
  constructor <;> omega
/-- between two that are greatest at t -/
theorem fits_mix {t one two : P2} {part : Int} (sm : ∀ c, c ∈ ps → Sm2 38 c) (h1 : one ∈ ps) (h2 : two ∈ ps) (ne : one ≠ two) (e1 : ∀ q, q ∈ ps → wt q t ≤ wt one t) (e2 : wt two t = wt one t) (p0 : 0 ≤ part) (p1 : part ≤ gcdI (two.1 - one.1) (two.2 - one.2)) :
    Fits ps lo hi t (one.1 + (two.1 - one.1) / gcdI (two.1 - one.1) (two.2 - one.2) * part, one.2 + (two.2 - one.2) / gcdI (two.1 - one.1) (two.2 - one.2) * part) := by
  have nz : ¬ (two.1 - one.1 = 0 ∧ two.2 - one.2 = 0) := fun ⟨z1, z2⟩ => ne (Prod.ext (by omega) (by omega))
  have g0 := gcdI_pos nz
  obtain ⟨l1, l2⟩ := least_mul (p := two.1 - one.1) (q := two.2 - one.2)
  unfold leastT at l1 l2
  simp only at l1 l2
  generalize gcdI (two.1 - one.1) (two.2 - one.2) = d at *
  generalize (two.1 - one.1) / d = dx at *
  generalize (two.2 - one.2) / d = dy at *
  have k1 : d * (one.1 + dx * part) = (d - part) * one.1 + part * two.1 := by
    have : two.1 = one.1 + d * dx := by omega
    rw [this]
    grind
  have k2 : d * (one.2 + dy * part) = (d - part) * one.2 + part * two.2 := by
    have : two.2 = one.2 + d * dy := by omega
    rw [this]
    grind
  have kw : ∀ u, d * wt (one.1 + dx * part, one.2 + dy * part) u = (d - part) * wt one u + part * wt two u := fun u => by
    have a1 : d * wt (one.1 + dx * part, one.2 + dy * part) u = u.1 * (d * (one.1 + dx * part)) + u.2 * (d * (one.2 + dy * part)) := by unfold wt; grind
    rw [a1, k1, k2]
    unfold wt
    grind
  have et : wt one t = wt (one.1 + dx * part, one.2 + dy * part) t := Int.le_antisymm (mix_ge g0 p0 p1 (kw t) (Int.le_refl _) (by omega)) (mix_le g0 p0 p1 (kw t) (Int.le_refl _) (by omega))
  refine ⟨⟨sm_mix g0 p0 p1 k1 (sm _ h1).1 (sm _ h2).1, sm_mix g0 p0 p1 k2 (sm _ h1).2 (sm _ h2).2⟩, fun q hq => by rw [← et]; exact e1 q hq, ⟨one, h1, et⟩, fun u pu x1 x2 => ?_⟩
  by_cases z : wt one u ≤ wt two u
  · exact ⟨two, h2, mix_le g0 p0 p1 (kw u) z (Int.le_refl _)⟩
  · exact ⟨one, h1, mix_le g0 p0 p1 (kw u) (Int.le_refl _) (by omega)⟩
theorem wt_tilt (one t u : P2) (s : Int) : wt (one.1 + s * t.2, one.2 - s * t.1) u = wt one u - s * X t u := by unfold wt X; grind
theorem wt_tilt' (one t u : P2) (s : Int) : wt (one.1 - s * t.2, one.2 + s * t.1) u = wt one u + s * X t u := by unfold wt X; grind
theorem fits_low {one : P2} {s : Int} (sm : Sm2 38 one) (gl : Sm2 40 lo) (h1 : one ∈ ps) (e1 : ∀ q, q ∈ ps → wt q lo ≤ wt one lo) (s0 : 0 ≤ s) (s1 : s ≤ 3) : Fits ps lo hi lo (one.1 + s * lo.2, one.2 - s * lo.1) := by
  have et := wt_tilt one lo lo s
  rw [X_self, Int.mul_zero, Int.sub_zero] at et
  refine ⟨⟨(sm_tilt (by omega) sm.1 gl.2).1, (sm_tilt (by omega) sm.2 gl.1).2⟩, fun q hq => by rw [et]; exact e1 q hq, ⟨one, h1, et.symm⟩, fun u pu x1 x2 => ⟨one, h1, ?_⟩⟩
  rw [wt_tilt]
  have := Int.mul_nonneg s0 x1
  omega
theorem fits_high {one : P2} {s : Int} (sm : Sm2 38 one) (gh : Sm2 40 hi) (h1 : one ∈ ps) (e1 : ∀ q, q ∈ ps → wt q hi ≤ wt one hi) (s0 : 0 ≤ s) (s1 : s ≤ 3) : Fits ps lo hi hi (one.1 - s * hi.2, one.2 + s * hi.1) := by
  have et := wt_tilt' one hi hi s
  rw [X_self, Int.mul_zero, Int.add_zero] at et
  refine ⟨⟨(sm_tilt (by omega) sm.1 gh.2).2, (sm_tilt (by omega) sm.2 gh.1).1⟩, fun q hq => by rw [et]; exact e1 q hq, ⟨one, h1, et.symm⟩, fun u pu x1 x2 => ⟨one, h1, ?_⟩⟩
  rw [wt_tilt']
  have h3 : X hi u ≤ 0 := by have := X_neg u hi; omega
  have := Int.mul_nonpos_of_nonneg_of_nonpos s0 h3
  omega
theorem fits_one {t one : P2} (sm : Sm2 38 one) (h1 : one ∈ ps) (e1 : ∀ q, q ∈ ps → wt q t ≤ wt one t) : Fits ps lo hi t one :=
  ⟨sm.mono (by omega), e1, ⟨one, h1, rfl⟩, fun u _ _ _ => ⟨one, h1, Int.le_refl _⟩⟩
/-- the corners that are greatest at t -/
theorem tops (pl : isPriceB lo = true) (ph : isPriceB hi = true) (D : 0 < X lo hi) (hne : ps ≠ []) {t : P2} (h1 : 0 ≤ X lo t) (h2 : 0 ≤ X t hi) :
    ∃ n, maxL ((lawCorners ps lo hi).map fun c => wt c t) = n ∧ (∀ q, q ∈ ps → wt q t ≤ n) ∧ ∃ one r, (lawCorners ps lo hi).filter (fun c => decide (wt c t = n)) = one :: r ∧ ∀ c, c ∈ one :: r → c ∈ lawCorners ps lo hi ∧ c ∈ ps ∧ wt c t = n := by
  obtain ⟨⟨c, hc, ec⟩, hm⟩ := maxL_map (corners_ne pl ph D hne) t
  refine ⟨_, rfl, fun q hq => ?_, ?_⟩
  · obtain ⟨m, hm', l⟩ := closed_dom D (corners_dom pl ph D hne) h1 h2 hq
    have := hm m hm'
    omega
  · have hf : c ∈ (lawCorners ps lo hi).filter (fun c' => decide (wt c' t = maxL ((lawCorners ps lo hi).map fun c => wt c t))) := List.mem_filter.mpr ⟨hc, decide_eq_true ec⟩
    cases hl : (lawCorners ps lo hi).filter (fun c' => decide (wt c' t = maxL ((lawCorners ps lo hi).map fun c => wt c t))) with
    | nil => rw [hl] at hf; cases hf
    | cons one r =>
      refine ⟨one, r, rfl, fun x hx => ?_⟩
      rw [← hl] at hx
      obtain ⟨x1, x2⟩ := List.mem_filter.mp hx
      exact ⟨x1, corner_sub x1, of_decide_eq_true x2⟩
theorem value_in {cs : List P2} {t : P2} (h1 : 0 ≤ X lo t) (h2 : 0 ≤ X t hi) : lawValue (.over lo hi cs) t = .num (maxL (cs.map fun c => wt c t)) := by
  unfold lawValue
  simp only [not_leads h1, not_leads h2, Bool.or_self, Bool.false_eq_true, if_false]
theorem ans_in (pl : isPriceB lo = true) (ph : isPriceB hi = true) (D : 0 < X lo hi) (hne : ps ≠ []) (sm : ∀ c, c ∈ ps → Sm2 38 c) (gl : Sm2 40 lo) (gh : Sm2 40 hi) {t : P2} (h1 : 0 ≤ X lo t) (h2 : 0 ≤ X t hi) (more : Int) (bs fs ls : List P2) :
    ∃ m, lawAns ⟨.over lo hi (lawCorners ps lo hi), bs, fs, ls⟩ more t = some (.most m) ∧ Fits ps lo hi t m ∧ ∀ c, Best ps c t → Ins lo hi t → m = c := by
  obtain ⟨n, en, hn, one, r, hf, hr⟩ := tops pl ph D hne h1 h2
  have hv := value_in (cs := lawCorners ps lo hi) h1 h2
  rw [en] at hv
  unfold lawAns
  simp only [hv, hf]
  obtain ⟨o1, o2, o3⟩ := hr one List.mem_cons_self
  have hL : (one :: r).getLast (by simp) ∈ one :: r := List.getLast_mem _
  generalize (one :: r).getLast (by simp) = two at hL ⊢
  obtain ⟨t1, t2, t3⟩ := hr two hL
  have e1 : ∀ q, q ∈ ps → wt q t ≤ wt one t := fun q hq => by have := hn q hq; omega
  have uniq : ∀ c, Best ps c t → ∀ x, x ∈ one :: r → x = c := fun c hb x hx => by
    obtain ⟨_, x2, x3⟩ := hr x hx
    refine Classical.byContradiction fun ne => ?_
    have := hb.2 x x2 ne
    have := hn c hb.1
    omega
  by_cases ne : one ≠ two
  · rw [if_pos ne]
    have nz : ¬ (two.1 - one.1 = 0 ∧ two.2 - one.2 = 0) := fun ⟨z1, z2⟩ => ne (Prod.ext (by omega) (by omega))
    have g0 := gcdI_pos nz
    have p0 := Int.emod_nonneg (t.1 + t.2 + more) (show gcdI (two.1 - one.1) (two.2 - one.2) + 1 ≠ 0 by omega)
    have p1 := Int.emod_lt_of_pos (t.1 + t.2 + more) (show 0 < gcdI (two.1 - one.1) (two.2 - one.2) + 1 by omega)
    exact ⟨_, rfl, fits_mix sm o2 t2 ne e1 (by omega) p0 (by omega), fun c hb _ => absurd ((uniq c hb one List.mem_cons_self).trans (uniq c hb two hL).symm) ne⟩
  · rw [if_neg ne]
    have s0 := Int.emod_nonneg (t.1 + more) (show (4 : Int) ≠ 0 by omega)
    have s1 := Int.emod_lt_of_pos (t.1 + more) (show (0 : Int) < 4 by omega)
    by_cases z1 : t = lo
    · rw [if_pos z1]
      subst z1
      exact ⟨_, rfl, fits_low (sm _ o2) gl o2 e1 s0 (by omega), fun c hb i => by have := i.1; rw [X_self] at this; omega⟩
    · rw [if_neg z1]
      by_cases z2 : t = hi
      · rw [if_pos z2]
        subst z2
        exact ⟨_, rfl, fits_high (sm _ o2) gh o2 e1 s0 (by omega), fun c hb i => by have := i.2; rw [X_self] at this; omega⟩
      · rw [if_neg z2]
        exact ⟨_, rfl, fits_one (sm _ o2) o2 e1, fun c hb _ => uniq c hb one List.mem_cons_self⟩
theorem due_in (pl : isPriceB lo = true) (ph : isPriceB hi = true) (D : 0 < X lo hi) (hne : ps ≠ []) (sm : ∀ c, c ∈ ps → Sm2 38 c) {t : P2} (h1 : 0 ≤ X lo t) (h2 : 0 ≤ X t hi) :
    ∃ m, dueAns (.over lo hi (lawCorners ps lo hi)) t = some (.most m) ∧ Fits ps lo hi t m ∧ ∀ c, Best ps c t → Ins lo hi t → m = c := by
  obtain ⟨n, en, hn, one, r, hf, hr⟩ := tops pl ph D hne h1 h2
  have hv := value_in (cs := lawCorners ps lo hi) h1 h2
  rw [en] at hv
  unfold dueAns
  simp only [hv, hf]
  obtain ⟨o1, o2, o3⟩ := hr one List.mem_cons_self
  refine ⟨_, rfl, fits_one (sm _ o2) o2 fun q hq => by have := hn q hq; omega, fun c hb _ => Classical.byContradiction fun ne => ?_⟩
  have := hb.2 one o2 ne
  have := hn c hb.1
  omega
theorem land_of {ans : P2 → Ans} (pl : isPriceB lo = true) (ph : isPriceB hi = true) (D : 0 < X lo hi) (hne : ps ≠ []) (h : ∀ t, okP t = true → 0 ≤ X lo t → 0 ≤ X t hi → ∃ m, ans t = .most m ∧ Fits ps lo hi t m ∧ ∀ c, Best ps c t → Ins lo hi t → m = c) : Land ps lo hi ans :=
  ⟨pl, ph, D, hne, fun t ot h1 h2 => by
    obtain ⟨m, e, F, _⟩ := h t ot h1 h2
    exact ⟨m, e, F.sm, F.ge, F.eq, F.va⟩, fun c a b t hc e ot it => by
    obtain ⟨pa, pb, x1, x2, x3, x4⟩ := alone_best pl ph hc e
    obtain ⟨i, hb⟩ := x4 t (pos_price (okP_price ot).1) it
    obtain ⟨m, em, _, hm⟩ := h t ot (Int.le_of_lt i.1) (Int.le_of_lt i.2)
    rw [em, hm c hb i]⟩
end
end HK
set_option Elab.async false
set_option linter.all false
set_option maxRecDepth 100000
/-! P17: the asking finds the front. -/
namespace HK
theorem good_ok {t : P2} (h : goodP t) : okP t = true := by
  unfold okP
  rw [h.1, decide_eq_true (h.2.mono (by omega))]
  rfl
theorem gain_any {t : P2} {way : Int} {g : P2} {ks : List P2} : g ∈ lawGain ks t way ↔ ∃ k, k ∈ ks ∧ ((way = 1 ∧ leadsB t k = true ∧ g = (k.2, 0 - k.1)) ∨ (way = -1 ∧ leadsB k t = true ∧ g = (0 - k.2, k.1))) := by
  have go : ∀ (ks acc : List P2), g ∈ ks.foldl (fun acc k => (acc ++ (if way = 1 ∧ leadsB t k = true then [(k.2, 0 - k.1)] else [])) ++ (if way = -1 ∧ leadsB k t = true then [(0 - k.2, k.1)] else [])) acc ↔
      g ∈ acc ∨ ∃ k, k ∈ ks ∧ ((way = 1 ∧ leadsB t k = true ∧ g = (k.2, 0 - k.1)) ∨ (way = -1 ∧ leadsB k t = true ∧ g = (0 - k.2, k.1))) := by
    intro ks
    induction ks with
    | nil => intro acc; simp
    | cons k ks ih =>
      intro acc
      have one : g ∈ (acc ++ (if way = 1 ∧ leadsB t k = true then [(k.2, 0 - k.1)] else [])) ++ (if way = -1 ∧ leadsB k t = true then [(0 - k.2, k.1)] else []) ↔ g ∈ acc ∨ ((way = 1 ∧ leadsB t k = true ∧ g = (k.2, 0 - k.1)) ∨ (way = -1 ∧ leadsB k t = true ∧ g = (0 - k.2, k.1))) := by
        rw [List.mem_append, List.mem_append]
        have a1 : g ∈ (if way = 1 ∧ leadsB t k = true then [((k.2, 0 - k.1) : P2)] else []) ↔ (way = 1 ∧ leadsB t k = true ∧ g = (k.2, 0 - k.1)) := by
          split
          · next h => simp [h]
          · next h => constructor
                      · intro z; cases z
                      · intro z; exact absurd ⟨z.1, z.2.1⟩ h
        have a2 : g ∈ (if way = -1 ∧ leadsB k t = true then [((0 - k.2, k.1) : P2)] else []) ↔ (way = -1 ∧ leadsB k t = true ∧ g = (0 - k.2, k.1)) := by
          split
          · next h => simp [h]
          · next h => constructor
                      · intro z; cases z
                      · intro z; exact absurd ⟨z.1, z.2.1⟩ h
        rw [a1, a2, or_assoc]
      rw [List.foldl_cons, ih, one]
      constructor
      · rintro ((h | h) | ⟨k', hk, h⟩)
        · exact .inl h
        · exact .inr ⟨k, List.mem_cons_self, h⟩
        · exact .inr ⟨k', List.mem_cons_of_mem _ hk, h⟩
      · rintro (h | ⟨k', hk, h⟩)
        · exact .inl (.inl h)
        · rcases List.mem_cons.mp hk with e | hk
          · subst e
            exact .inl (.inr h)
          · exact .inr ⟨k', hk, h⟩
  have := go ks []
  unfold lawGain
  rw [this]
  constructor
  · rintro (h | h)
    · cases h
    · exact h
  · exact .inr
theorem lead_snd {t k : P2} (pt : Pos t) (pk : Pos k) (h : leadsB t k = true) : 0 < k.2 := by
  have := leads_X.mp h
  unfold X at this
  refine Int.lt_of_not_ge fun z => ?_
  have e : k.2 = 0 := by have := pk.2.1; omega
  rw [e] at this
  have := Int.mul_nonneg pk.1 pt.2.1
  omega
theorem lead_fst {t k : P2} (pt : Pos t) (pk : Pos k) (h : leadsB k t = true) : 0 < k.1 := by
  have := leads_X.mp h
  unfold X at this
  refine Int.lt_of_not_ge fun z => ?_
  have e : k.1 = 0 := by have := pk.1; omega
  rw [e] at this
  have := Int.mul_nonneg pt.1 pk.2.1
  omega
theorem sm_part {s y : Int} (h0 : 0 < s) (h1 : s ≤ 3) (hy : Sm 40 y) : Sm 45 (s * y) ∧ Sm 45 (s * (0 - y)) := by
  have e1 : (s * y).natAbs = s.natAbs * y.natAbs := Int.natAbs_mul _ _
  have e2 : (s * (0 - y)).natAbs = s.natAbs * (0 - y).natAbs := Int.natAbs_mul _ _
  have m := Nat.mul_le_mul_right y.natAbs (show s.natAbs ≤ 3 by omega)
  have m2 := Nat.mul_le_mul_right (0 - y).natAbs (show s.natAbs ≤ 3 by omega)
  rw [← e1] at m
  rw [← e2] at m2
  generalize s * y = u at m ⊢
  generalize s * (0 - y) = v at m2 ⊢
  unfold Sm at *
  constructor <;> omega
/-- where all is endless, a gain is told -/
theorem ans_gain {sc : Scene} {more : Int} {t : P2} (hv : lawValue sc.a t = .endless) (pt : isPriceB t = true) (gf : ∀ k, k ∈ sc.c → goodP k) (gl : ∀ k, k ∈ sc.d → goodP k) (h : (∃ k, k ∈ sc.c ∧ leadsB t k = true) ∨ ∃ k, k ∈ sc.d ∧ leadsB k t = true) :
    ∃ g, lawAns sc more t = some (.gains g) ∧ okC g = true ∧ ((∃ k, k ∈ sc.c ∧ okP k = true ∧ leadsB t k = true ∧ freeStr g = some (k, LAST)) ∨ (∃ k, k ∈ sc.d ∧ okP k = true ∧ leadsB k t = true ∧ freeStr g = some (FIRST, k))) := by
  have Pt := pos_price pt
  have hne : 0 < (lawGain sc.c t 1 ++ lawGain sc.d t (-1)).length := by
    have : ∃ g, g ∈ lawGain sc.c t 1 ++ lawGain sc.d t (-1) := by
      rcases h with ⟨k, hk, l⟩ | ⟨k, hk, l⟩
      · exact ⟨(k.2, 0 - k.1), List.mem_append_left _ (gain_any.mpr ⟨k, hk, .inl ⟨rfl, l, rfl⟩⟩)⟩
      · exact ⟨(0 - k.2, k.1), List.mem_append_right _ (gain_any.mpr ⟨k, hk, .inr ⟨rfl, l, rfl⟩⟩)⟩
    obtain ⟨g, hg⟩ := this
    exact List.length_pos_of_mem hg
  unfold lawAns
  simp only [hv]
  have hall : ∀ g, g ∈ lawGain sc.c t 1 ++ lawGain sc.d t (-1) → (∃ k, k ∈ sc.c ∧ leadsB t k = true ∧ g = (k.2, 0 - k.1)) ∨ ∃ k, k ∈ sc.d ∧ leadsB k t = true ∧ g = (0 - k.2, k.1) := fun g hg => by
    rcases List.mem_append.mp hg with hg | hg
    · obtain ⟨k, hk, ⟨_, l, e⟩ | ⟨w, _⟩⟩ := gain_any.mp hg
      · exact .inl ⟨k, hk, l, e⟩
      · exact absurd w (by decide)
    · obtain ⟨k, hk, ⟨w, _⟩ | ⟨_, l, e⟩⟩ := gain_any.mp hg
      · exact absurd w (by decide)
      · exact .inr ⟨k, hk, l, e⟩
  generalize lawGain sc.c t 1 ++ lawGain sc.d t (-1) = gs at hne hall ⊢
  have i0 := Int.emod_nonneg (t.1 + 2 * t.2 + more) (show ((gs.length : Int)) ≠ 0 by omega)
  have i1 := Int.emod_lt_of_pos (t.1 + 2 * t.2 + more) (show 0 < ((gs.length : Int)) by omega)
  have hi : ((t.1 + 2 * t.2 + more) % (gs.length : Int)).toNat < gs.length := by omega
  rw [List.getElem?_eq_getElem hi]
  have hg := hall _ (List.getElem_mem hi)
  generalize gs[((t.1 + 2 * t.2 + more) % (gs.length : Int)).toNat] = g at hg
  have s0 := Int.emod_nonneg (t.1 + more) (show (3 : Int) ≠ 0 by omega)
  have s1 := Int.emod_lt_of_pos (t.1 + more) (show (0 : Int) < 3 by omega)
  have p0 : 0 < 1 + (t.1 + more) % 3 := by omega
  have p1 : 1 + (t.1 + more) % 3 ≤ 3 := by omega
  generalize 1 + (t.1 + more) % 3 = s at p0 p1 ⊢
  refine ⟨_, rfl, ?_, ?_⟩
  · unfold okC
    refine decide_eq_true ?_
    rcases hg with ⟨k, hk, l, e⟩ | ⟨k, hk, l, e⟩
    · rw [e]
      exact ⟨(sm_part p0 p1 (gf k hk).2.2).1, (sm_part p0 p1 (gf k hk).2.1).2⟩
    · rw [e]
      exact ⟨(sm_part p0 p1 (gl k hk).2.2).2, (sm_part p0 p1 (gl k hk).2.1).1⟩
  · rcases hg with ⟨k, hk, l, e⟩ | ⟨k, hk, l, e⟩
    · rw [e]
      exact .inl ⟨k, hk, good_ok (gf k hk), l, free_one (gf k hk).1 p0 (lead_snd Pt (pos_price (gf k hk).1) l)⟩
    · rw [e]
      exact .inr ⟨k, hk, good_ok (gl k hk), l, free_two (gl k hk).1 p0 (lead_fst Pt (pos_price (gl k hk).1) l)⟩
/-! ### the whole -/
theorem ok_first : okP FIRST = true := by decide
theorem ok_last : okP LAST = true := by decide
theorem byAsk_over {ans : P2 → Ans} {n1 n2 n3 : Nat} {st st2 : Str2} {m1 m2 : P2} {found : List P2} (h0 : ans FIRST ≠ .none) (h1 : ph1 ans false n1 (FIRST, LAST) = some (some st)) (h2 : ph1 ans true n2 st = some (some st2)) (a1 : ans st2.1 = .most m1) (a2 : ans st2.2 = .most m2)
    (o1 : okP st2.1 = true) (o2 : okP st2.2 = true) (o3 : okC m1 = true) (o4 : okC m2 = true) (h3 : ph2 ans n3 [m1, m2] [⟨st2.1, m1, st2.2, m2⟩] = some found) (f1 : ∀ m, m ∈ found → okC m = true) (f2 : found.length < 100000) : byAsk ans n1 n2 n3 = some (overF st2.1 st2.2 found) := by
  unfold byAsk
  have f1' : found.all okC = true := List.all_eq_true.mpr f1
  cases e : ans FIRST with
  | none => exact absurd e h0
  | gains g => simp only [h1, h2, a1, a2, o1, o2, o3, o4, h3, f1', f2, decide_true, Bool.and_self, if_true]
  | most g => simp only [h1, h2, a1, a2, o1, o2, o3, o4, h3, f1', f2, decide_true, Bool.and_self, if_true]
theorem byAsk_end {ans : P2 → Ans} {n1 n2 n3 : Nat} (h0 : ans FIRST ≠ .none) (h1 : ph1 ans false n1 (FIRST, LAST) = some none) : byAsk ans n1 n2 n3 = some .endless := by
  unfold byAsk
  cases e : ans FIRST with
  | none => exact absurd e h0
  | gains g => simp only [h1]
  | most g => simp only [h1]
section
variable {ans : P2 → Ans} {fs ls ps : List P2} {lo hi : P2}
/-- the free stretch is found -/
theorem ends_found {m1 m2 : P2} (ol : okP lo = true) (oh : okP hi = true) (hx : 0 ≤ X lo hi) (e1 : ans lo = .most m1) (e2 : ans hi = .most m2) (pf : ∀ x, x ∈ fs → isPriceB x = true) (pl : ∀ x, x ∈ ls → isPriceB x = true) (hf : ∀ x, x ∈ fs → 0 ≤ X x lo) (hl : ∀ x, x ∈ ls → 0 ≤ X hi x) (lf : fs.length < 10) (ll : ls.length < 10)
    (hg : ∀ t, okP t = true → leadsB t lo = true ∨ leadsB hi t = true → GainAt ans fs ls t) : ans FIRST ≠ .none ∧ ph1 ans false 10 (FIRST, LAST) = some (some (lo, LAST)) ∧ ph1 ans true 10 (lo, LAST) = some (some (lo, hi)) := by
  have Pl := pos_price (okP_price ol).1
  have Ph := pos_price (okP_price oh).1
  have q1 : 0 ≤ X FIRST lo := by rw [X_first]; exact Pl.2.1
  have q2 : 0 ≤ X lo LAST := by rw [X_last]; exact Pl.1
  have q3 : 0 ≤ X hi LAST := by rw [X_last]; exact Ph.1
  refine ⟨fun z => ?_, ph1_low ol e1 pf hf (fun x h => trans_le Pl Ph (pos_price (pl x h)) hx (hl x h)) (fun t o l => hg t o (.inl l)) 10 FIRST LAST ok_first ok_last q1 q2 (Nat.lt_of_le_of_lt (List.length_filter_le _ _) lf),
    ph1_high oh ol e2 pl (fun x h => trans_le (pos_price (pf x h)) Pl Ph (hf x h) hx) hl hx (fun t o l => hg t o (.inr l)) 10 LAST ok_last q3 (Nat.lt_of_le_of_lt (List.length_filter_le _ _) ll)⟩
  by_cases c : leadsB FIRST lo = true
  · obtain ⟨g, eg, _⟩ := hg FIRST ok_first (.inl c)
    rw [z] at eg
    cases eg
  · have := eq_first (okP_price ol).1 (by simpa using c)
    rw [this, z] at e1
    cases e1
theorem ask_over (L : Land ps lo hi ans) (lp : ps.length ≤ 6) (ol : okP lo = true) (oh : okP hi = true) (pf : ∀ x, x ∈ fs → isPriceB x = true) (pl : ∀ x, x ∈ ls → isPriceB x = true) (hf : ∀ x, x ∈ fs → 0 ≤ X x lo) (hl : ∀ x, x ∈ ls → 0 ≤ X hi x) (lf : fs.length < 10) (ll : ls.length < 10)
    (hg : ∀ t, okP t = true → leadsB t lo = true ∨ leadsB hi t = true → GainAt ans fs ls t) : byAsk ans 10 10 100 = some (.over lo hi (lawCorners ps lo hi)) := by
  have Dx := Int.le_of_lt L.D
  obtain ⟨m1, e1, s1, _, _, v1⟩ := L.touch lo ol (by rw [X_self]; exact Int.le_refl _) Dx
  obtain ⟨m2, e2, s2, _, _, v2⟩ := L.touch hi oh Dx (by rw [X_self]; exact Int.le_refl _)
  obtain ⟨h0, h1, h2⟩ := ends_found ol oh Dx e1 e2 pf pl hf hl lf ll hg
  have o1 : okC m1 = true := decide_eq_true (s1.mono (by omega))
  have o2 : okC m2 = true := decide_eq_true (s2.mono (by omega))
  have k1 := kap_le ps lo hi hi
  have hm : meas ps lo hi [⟨lo, m1, hi, m2⟩] ≤ 25 := by
    simp only [meas]
    omega
  obtain ⟨r, hr, hv, hc, hlen⟩ := ph2_all L 100 [m1, m2] [⟨lo, m1, hi, m2⟩] (fun w hw => by
    rw [show w = ⟨lo, m1, hi, m2⟩ by simpa using hw]
    exact ⟨ol, oh, by rw [X_self]; exact Int.le_refl _, by rw [X_self]; exact Int.le_refl _, L.D, e1, e2, by simp, by simp⟩) (fun m hm => by
    rcases List.mem_cons.mp hm with e | hm
    · rw [e]; exact ⟨v1, o1⟩
    · rw [show m = m2 by simpa using hm]; exact ⟨v2, o2⟩) (fun t pt x1 x2 => .inr ⟨_, List.mem_cons_self, x1, x2⟩) (by omega) (by simp only [List.length_cons, List.length_nil]; omega)
  rw [byAsk_over h0 h1 h2 e1 e2 ol oh o1 o2 hr (fun m hm => (hv m hm).2) hlen]
  have hne : lo ≠ hi := leads_ne (leads_X.mpr L.D)
  unfold overF
  rw [if_neg hne]
  have Pl := pos_price L.pl
  have Ph := pos_price L.ph
  rw [env_eq L.pl L.ph L.D (ps := ps) (fun t ht s hs => by
    rcases hc t (ins_to_pos Pl Ph L.D ht) (Int.le_of_lt ht.1) (Int.le_of_lt ht.2) with ⟨m, hm, c⟩ | ⟨w, hw, _⟩
    · exact ⟨m, hm, c s hs⟩
    · cases hw) fun t ht s hs => (hv s hs).1 t (ins_to_pos Pl Ph L.D ht) (Int.le_of_lt ht.1) (Int.le_of_lt ht.2)]
theorem ask_at {m : P2} (ol : okP lo = true) (e1 : ans lo = .most m) (om : okC m = true) (pf : ∀ x, x ∈ fs → isPriceB x = true) (pl : ∀ x, x ∈ ls → isPriceB x = true) (hf : ∀ x, x ∈ fs → 0 ≤ X x lo) (hl : ∀ x, x ∈ ls → 0 ≤ X lo x) (lf : fs.length < 10) (ll : ls.length < 10)
    (hg : ∀ t, okP t = true → leadsB t lo = true ∨ leadsB lo t = true → GainAt ans fs ls t) : byAsk ans 10 10 100 = some (.at lo (wt m lo)) := by
  obtain ⟨h0, h1, h2⟩ := ends_found ol ol (by rw [X_self]; exact Int.le_refl _) e1 e1 pf pl hf hl lf ll hg
  have h3 : ph2 ans 100 [m, m] [⟨lo, m, lo, m⟩] = some [m, m] := by
    have ha : alikeAt m m = none := by
      unfold alikeAt
      rw [if_pos]
      left
      rw [Int.sub_self, Int.sub_self]
    rw [ph2, if_pos (by simp [ol, om])]
    simp only [ha]
    rw [ph2]
  rw [byAsk_over h0 h1 h2 e1 e1 ol ol om om h3 (fun x hx => by
    have : x = m := by simpa using hx
    rw [this]; exact om) (by simp)]
  unfold overF
  rw [if_pos rfl]
  simp [maxL]
end
/-- what the scene answers -/
def ansOf (sc : Scene) (more : Int) (t : P2) : Ans := (lawAns sc more t).getD .none
def dueOf (F : Fr) (t : P2) : Ans := (dueAns F t).getD .none
theorem marks_two {t lo hi : P2} (pt : isPriceB t = true) (pl : isPriceB lo = true) (ph : isPriceB hi = true) (g : leadsB lo hi = true) : leadsB t hi = true ∨ leadsB lo t = true := by
  by_cases z : 0 < X t hi
  · exact .inl (leads_X.mpr z)
  · exact .inr (leads_X.mpr (trans_lr (pos_price pl) (pos_price ph) (pos_price pt) (leads_X.mp g) (by have := X_neg t hi; omega)))
theorem scene_ans {peak more : Int} {sc : Scene} (h : ScIs peak sc) (hp : Sm 38 peak) : (∀ t, okP t = true → ∃ an, lawAns sc more t = some an) ∧ byAsk (ansOf sc more) 10 10 100 = some sc.a := by
  cases h with
  | none =>
    refine ⟨fun t _ => ⟨.none, rfl⟩, rfl⟩
  | endless gl gh g la lb ga gb =>
    rename_i lo hi ah be
    have G : ∀ t, okP t = true → ∃ an, lawAns ⟨.endless, [], hi :: ah, lo :: be⟩ more t = some (.gains an) ∧ okC an = true ∧ ((∃ k, k ∈ hi :: ah ∧ okP k = true ∧ leadsB t k = true ∧ freeStr an = some (k, LAST)) ∨ (∃ k, k ∈ lo :: be ∧ okP k = true ∧ leadsB k t = true ∧ freeStr an = some (FIRST, k))) := fun t ot => by
      refine ans_gain (sc := ⟨.endless, [], hi :: ah, lo :: be⟩) rfl (okP_price ot).1 (fun k hk => ?_) (fun k hk => ?_) ?_
      · rcases List.mem_cons.mp hk with e | hk
        · rw [e]; exact gh
        · exact ga k hk
      · rcases List.mem_cons.mp hk with e | hk
        · rw [e]; exact gl
        · exact gb k hk
      · rcases marks_two (okP_price ot).1 gl.1 gh.1 g with z | z
        · exact .inl ⟨hi, List.mem_cons_self, z⟩
        · exact .inr ⟨lo, List.mem_cons_self, z⟩
    have GA : ∀ t, okP t = true → GainAt (ansOf ⟨.endless, [], hi :: ah, lo :: be⟩ more) (hi :: ah) (lo :: be) t := fun t ot => by
      obtain ⟨g, e, r⟩ := G t ot
      exact ⟨g, by unfold ansOf; rw [e]; rfl, r⟩
    refine ⟨fun t ot => ?_, byAsk_end ?_ (ph1_end (ls := lo :: be) (fun x hx => ?_) GA 10 FIRST LAST ok_first ok_last (by decide) (Nat.lt_of_le_of_lt (List.length_filter_le _ _) (by simp only [List.length_cons]; omega)))⟩
    · obtain ⟨g, e, _⟩ := G t ot
      exact ⟨_, e⟩
    · obtain ⟨g, e, _⟩ := GA FIRST ok_first
      rw [e]
      nofun
    · rcases List.mem_cons.mp hx with e | hx
      · rw [e]; exact gh.1
      · exact (ga x hx).1
  | some gl gh g la lb ga gb hne lp pk =>
    rename_i lo hi ah be ps
    have sm : ∀ c, c ∈ ps → Sm2 38 c := fun c hc => inPeak_sm hp (pk c hc)
    have ol := good_ok gl
    have oh := good_ok gh
    have gf : ∀ x, x ∈ lo :: ah.filter (fun t => leadsB t lo) → goodP x ∧ 0 ≤ X x lo := fun x hx => by
      rcases List.mem_cons.mp hx with e | hx
      · rw [e]; exact ⟨gl, by rw [X_self]; exact Int.le_refl _⟩
      · have z := List.mem_filter.mp hx
        exact ⟨ga x z.1, Int.le_of_lt (leads_X.mp z.2)⟩
    have gg : ∀ x, x ∈ hi :: be.filter (fun t => leadsB hi t) → goodP x ∧ 0 ≤ X hi x := fun x hx => by
      rcases List.mem_cons.mp hx with e | hx
      · rw [e]; exact ⟨gh, by rw [X_self]; exact Int.le_refl _⟩
      · have z := List.mem_filter.mp hx
        exact ⟨gb x z.1, Int.le_of_lt (leads_X.mp z.2)⟩
    have lf : (lo :: ah.filter (fun t => leadsB t lo)).length < 10 := by
      have := List.length_filter_le (fun t => leadsB t lo) ah
      simp only [List.length_cons]
      omega
    have ll : (hi :: be.filter (fun t => leadsB hi t)).length < 10 := by
      have := List.length_filter_le (fun t => leadsB hi t) be
      simp only [List.length_cons]
      omega
    have G : ∀ t, okP t = true → lawValue (lawOver ps lo hi) t = .endless → leadsB t lo = true ∨ leadsB hi t = true → ∃ an, lawAns ⟨lawOver ps lo hi, ps, lo :: ah.filter (fun t => leadsB t lo), hi :: be.filter (fun t => leadsB hi t)⟩ more t = some (.gains an) ∧ okC an = true ∧ ((∃ k, k ∈ lo :: ah.filter (fun t => leadsB t lo) ∧ okP k = true ∧ leadsB t k = true ∧ freeStr an = some (k, LAST)) ∨ (∃ k, k ∈ hi :: be.filter (fun t => leadsB hi t) ∧ okP k = true ∧ leadsB k t = true ∧ freeStr an = some (FIRST, k))) := fun t ot hv hl => by
      refine ans_gain (sc := ⟨lawOver ps lo hi, ps, lo :: ah.filter (fun t => leadsB t lo), hi :: be.filter (fun t => leadsB hi t)⟩) hv (okP_price ot).1 (fun k hk => (gf k hk).1) (fun k hk => (gg k hk).1) ?_
      rcases hl with z | z
      · exact .inl ⟨lo, List.mem_cons_self, z⟩
      · exact .inr ⟨hi, List.mem_cons_self, z⟩
    by_cases e : lo = hi
    · subst e
      have eo : lawOver ps lo lo = .at lo (maxL (ps.map fun c => wt c lo)) := if_pos rfl
      rw [eo] at G ⊢
      have hv : ∀ t, t ≠ lo → lawValue (.at lo (maxL (ps.map fun c => wt c lo))) t = .endless := fun t ne => by
        unfold lawValue
        simp only [if_neg ne]
      obtain ⟨⟨c, hc, ec⟩, hm⟩ := maxL_map hne lo
      have M : ∃ m, lawAns ⟨.at lo (maxL (ps.map fun c => wt c lo)), ps, lo :: ah.filter (fun t => leadsB t lo), lo :: be.filter (fun t => leadsB lo t)⟩ more lo = some (.most m) ∧ okC m = true ∧ wt m lo = maxL (ps.map fun c => wt c lo) := by
        generalize maxL (ps.map fun c => wt c lo) = n at ec ⊢
        have hv' : lawValue (.at lo n) lo = .num n := by
          unfold lawValue
          simp only [if_true]
        unfold lawAns
        simp only [hv']
        have hf : c ∈ ps.filter fun c => decide (wt c lo = n) := List.mem_filter.mpr ⟨hc, decide_eq_true ec⟩
        cases hl : ps.filter fun c => decide (wt c lo = n) with
        | nil => rw [hl] at hf; cases hf
        | cons h r =>
          have hh : h ∈ ps.filter fun c => decide (wt c lo = n) := by rw [hl]; exact List.mem_cons_self
          obtain ⟨h1, h2⟩ := List.mem_filter.mp hh
          have s0 := Int.emod_nonneg (lo.1 + more) (show (7 : Int) ≠ 0 by omega)
          have s1 := Int.emod_lt_of_pos (lo.1 + more) (show (0 : Int) < 7 by omega)
          have sa : ((lo.1 + more) % 7 - 3).natAbs ≤ 3 := by omega
          refine ⟨_, rfl, ?_, ?_⟩
          · unfold okC
            exact decide_eq_true ⟨(sm_tilt sa (sm h h1).1 gl.2.2).1.mono (by omega), (sm_tilt sa (sm h h1).2 gl.2.1).2.mono (by omega)⟩
          · rw [wt_tilt, X_self, Int.mul_zero, Int.sub_zero]
            exact of_decide_eq_true h2
      obtain ⟨m, em, om, wm⟩ := M
      refine ⟨fun t ot => ?_, ?_⟩
      · by_cases z : t = lo
        · rw [z]; exact ⟨_, em⟩
        · obtain ⟨g, e, _⟩ := G t ot (hv t z) (by
            rcases Int.lt_trichotomy 0 (X t lo) with y | y | y
            · exact .inl (leads_X.mpr y)
            · exact absurd (price_eq (okP_price ot).1 gl.1 (by unfold X at y; omega)) z
            · exact .inr (leads_X.mpr (by have := X_neg t lo; omega)))
          exact ⟨_, e⟩
      · have := ask_at (ans := ansOf ⟨.at lo (maxL (ps.map fun c => wt c lo)), ps, lo :: ah.filter (fun t => leadsB t lo), lo :: be.filter (fun t => leadsB lo t)⟩ more) (fs := lo :: ah.filter (fun t => leadsB t lo)) (ls := lo :: be.filter (fun t => leadsB lo t)) (m := m) ol (by unfold ansOf; rw [em]; rfl) om
          (fun x hx => (gf x hx).1.1) (fun x hx => (gg x hx).1.1) (fun x hx => (gf x hx).2) (fun x hx => (gg x hx).2) lf ll fun t ot hl => by
            obtain ⟨g, e, r⟩ := G t ot (hv t fun z => by rw [z, leads_self] at hl; simp at hl) hl
            exact ⟨g, by unfold ansOf; rw [e]; rfl, r⟩
        rw [this, wm]
    · have D : 0 < X lo hi := leads_X.mp (g.resolve_left e)
      have eo : lawOver ps lo hi = .over lo hi (lawCorners ps lo hi) := if_neg e
      rw [eo] at G ⊢
      have hv : ∀ t, leadsB t lo = true ∨ leadsB hi t = true → lawValue (.over lo hi (lawCorners ps lo hi)) t = .endless := fun t h => by
        unfold lawValue
        simp only
        rw [if_pos]
        rcases h with h | h
        · rw [h]; rfl
        · rw [h, Bool.or_true]
      have M : ∀ t, 0 ≤ X lo t → 0 ≤ X t hi → ∃ m, lawAns ⟨.over lo hi (lawCorners ps lo hi), ps, lo :: ah.filter (fun t => leadsB t lo), hi :: be.filter (fun t => leadsB hi t)⟩ more t = some (.most m) ∧ Fits ps lo hi t m ∧ ∀ c, Best ps c t → Ins lo hi t → m = c := fun t h1 h2 => ans_in gl.1 gh.1 D hne sm gl.2 gh.2 h1 h2 more _ _ _
      refine ⟨fun t ot => ?_, ?_⟩
      · by_cases z : leadsB t lo = true ∨ leadsB hi t = true
        · obtain ⟨g, e, _⟩ := G t ot (hv t z) z
          exact ⟨_, e⟩
        · have z1 : ¬ 0 < X t lo := fun y => z (.inl (leads_X.mpr y))
          have z2 : ¬ 0 < X hi t := fun y => z (.inr (leads_X.mpr y))
          obtain ⟨m, e, _⟩ := M t (by have := X_neg t lo; omega) (by have := X_neg hi t; omega)
          exact ⟨_, e⟩
      · refine ask_over (fs := lo :: ah.filter (fun t => leadsB t lo)) (ls := hi :: be.filter (fun t => leadsB hi t)) (land_of gl.1 gh.1 D hne fun t ot h1 h2 => ?_) lp ol oh (fun x hx => (gf x hx).1.1) (fun x hx => (gg x hx).1.1) (fun x hx => (gf x hx).2) (fun x hx => (gg x hx).2) lf ll fun t ot hl => ?_
        · obtain ⟨m, e, r⟩ := M t h1 h2
          exact ⟨m, by unfold ansOf; rw [e]; rfl, r⟩
        · obtain ⟨g, e, r⟩ := G t ot (hv t hl) hl
          exact ⟨g, by unfold ansOf; rw [e]; rfl, r⟩
theorem due_ans {peak : Int} {cs : List P2} (h : dueOk peak (.over FIRST LAST cs)) (hp : Sm 38 peak) : (∀ t, okP t = true → ∃ an, dueAns (.over FIRST LAST cs) t = some an) ∧ byAsk (dueOf (.over FIRST LAST cs)) 10 10 100 = some (.over FIRST LAST cs) := by
  obtain ⟨gl, gh, g, ps, hne, lp, pk, ec⟩ := h
  subst ec
  have sm : ∀ c, c ∈ ps → Sm2 38 c := fun c hc => inPeak_sm hp (pk c hc)
  have D := leads_X.mp g
  have q1 : ∀ t, okP t = true → 0 ≤ X FIRST t := fun t ot => by rw [X_first]; exact (pos_price (okP_price ot).1).2.1
  have q2 : ∀ t, okP t = true → 0 ≤ X t LAST := fun t ot => by rw [X_last]; exact (pos_price (okP_price ot).1).1
  refine ⟨fun t ot => ?_, ?_⟩
  · obtain ⟨m, e, _⟩ := due_in gl.1 gh.1 D hne sm (q1 t ot) (q2 t ot)
    exact ⟨_, e⟩
  · refine ask_over (fs := []) (ls := []) (land_of gl.1 gh.1 D hne fun t ot h1 h2 => ?_) lp ok_first ok_last (fun x hx => nomatch hx) (fun x hx => nomatch hx) (fun x hx => nomatch hx) (fun x hx => nomatch hx) (by simp) (by simp) fun t ot hl => ?_
    · obtain ⟨m, e, r⟩ := due_in gl.1 gh.1 D hne sm h1 h2
      exact ⟨m, by unfold dueOf; rw [e]; rfl, r⟩
    · rcases hl with hl | hl
      · rw [not_leads (q1 t ot)] at hl
        cases hl
      · rw [not_leads (q2 t ot)] at hl
        cases hl
end HK
set_option Elab.async false
set_option linter.all false
set_option maxRecDepth 100000
/-! L1: a front asked: what may change meanwhile. -/
namespace HK
open PySem PySem.Spec PyProof.Rows L2 LamX
open Rep Arg
theorem tabS_via {H H' : Hp} {P : Addr} {q : Str} (t : TabS H P q) (hP : ∀ ps, H P = some (.tbl ps) → H' P = some (.tbl ps)) (hc : ∀ c r, H c = some (CodeO c r) → H' c = some (CodeO c r)) : TabS H' P q := by
  obtain ⟨ps, h1, h2, h3⟩ := t
  refine ⟨ps, hP _ h1, h2, fun pos cv h => ?_⟩
  obtain ⟨c, e1, e2⟩ := h3 pos cv h
  exact ⟨c, e1, hc _ _ e2⟩
theorem code_lst {c : Addr} {r : Str} {vs : List V} : CodeO c r ≠ .lst vs := fun z => by unfold CodeO at z; cases z
theorem tabS_lst {H : Hp} {P a : Addr} {q : Str} {vs ws : List V} (t : TabS H P q) (ha : H a = some (.lst vs)) : TabS (upd H a (.lst ws)) P q :=
  tabS_via t (fun ps h => (upd_ne fun z => by rw [z, ha] at h; cases h).trans h) fun c r h => (upd_ne fun z => by rw [z, ha] at h; exact code_lst (Option.some.inj h).symm).trans h
theorem tabS_is {H : Hp} {P : Addr} {q : Str} (t : TabS H P q) : ∃ ps, H P = some (.tbl ps) := by
  obtain ⟨ps, h1, _⟩ := t
  exact ⟨ps, h1⟩
theorem p2_lst {K : PySem.W.Frag} {M : Addr → Prop} {H : Hp} {a : Addr} {vs ws : List V} {v : V} {p : P2} (ha : H a = some (.lst vs)) (r : rep K M H v p) : rep K M (upd H a (.lst ws)) v p := by
  obtain ⟨b, v1, v2, e, t, r1, r2⟩ := r
  refine ⟨b, v1, v2, e, ?_, r1, r2⟩
  rcases t with ⟨n, h⟩ | h
  · exact .inl ⟨n, (upd_ne fun z => by rw [z, ha] at h; cases h).trans h⟩
  · exact .inr h
theorem ans_shift {K : PySem.W.Frag} {M M' : Addr → Prop} {H : Hp} {v : V} {x : Ans} (hs : ∀ b xs, M' b → H b = some (.tup xs) → M b) (r : rep K M H v x) : rep K M' H v x := by
  cases x with
  | none => exact r
  | gains g =>
    obtain ⟨a, v1, e, t, r1⟩ := r
    refine ⟨a, v1, e, ?_, p2_shift hs r1⟩
    rcases t with ⟨n, h⟩ | h
    · exact .inl ⟨fun z => n (hs a _ z h), h⟩
    · exact .inr h
  | most g =>
    obtain ⟨a, v1, e, t, r1⟩ := r
    refine ⟨a, v1, e, ?_, p2_shift hs r1⟩
    rcases t with ⟨n, h⟩ | h
    · exact .inl ⟨fun z => n (hs a _ z h), h⟩
    · exact .inr h
/-! ### the family -/
def askM (H0 : Hp) (Pe b : Addr) : Prop := b = Pe ∨ ∃ vs, H0 b = some (.lst vs)
structure ZOk (H0 : Hp) (la Pe : Addr) (Z : Nat → Hp → Prop) : Prop where
  ex : ∀ (n : Nat) {H H' : Hp}, Ex H H' → Z n H → Z n H'
  live : ∀ (n : Nat) {H : Hp}, Z n H → la ≠ Pe → ∃ va, H la = some (.lst va)
  lst : ∀ (n : Nat) {H : Hp} {a : Addr} {vs ws : List V}, ¬ askM H0 Pe a → H a = some (.lst vs) → Z n H → Z n (upd H a (.lst ws))
  tab : ∀ (n : Nat) {H H' : Hp}, ExP Pe H H' → Z n H → Z n H'
def askJ (H0 : Hp) (la Pe : Addr) (Z : Nat → Hp → Prop) (n : Nat) (H : Hp) : Prop := (∀ b o, b ≠ la → b ≠ Pe → H0 b = some o → H b = some o) ∧ TabS H Pe qEnv ∧ Z n H
section
variable {H0 H : Hp} {la Pe : Addr} {Z : Nat → Hp → Prop} {n : Nat}
/-- what an object of the family is at a later time -/
theorem ask_is (hZ : ZOk H0 la Pe Z) {a : Addr} (j : askJ H0 la Pe Z n H) (h : askM H0 Pe a) : (a = Pe ∧ ∃ ps, H a = some (.tbl ps)) ∨ ∃ vs, H a = some (.lst vs) := by
  obtain ⟨k, t, z⟩ := j
  by_cases e : a = Pe
  · exact .inl ⟨e, by rw [e]; exact tabS_is t⟩
  · obtain ⟨vs, hv⟩ := h.resolve_left e
    by_cases e2 : a = la
    · exact .inr (by rw [e2]; exact hZ.live n z fun w => e (e2.trans w))
    · exact .inr ⟨vs, k a _ e2 e hv⟩
def askF (H0 : Hp) (la Pe : Addr) (Z : Nat → Hp → Prop) (hZ : ZOk H0 la Pe Z) (hla : la = Pe ∨ ∃ vs, H0 la = some (.lst vs)) : Fam := ⟨askM H0 Pe, askJ H0 la Pe Z, fun n {H H'} e ⟨k, t, z⟩ => ⟨fun b o n1 n2 h => e b o (k b o n1 n2 h), t.ext e, hZ.ex n e z⟩,
  fun n {H a} j hm z => (by
    rcases ask_is hZ j hm with ⟨_, ps, h⟩ | ⟨vs, h⟩
    · rw [h] at z
      cases z
    · rw [h] at z
      cases z),
  fun n {H a vs ws} na ha ⟨k, t, z⟩ => ⟨fun b o n1 n2 h => by
    have hb := k b o n1 n2 h
    refine (upd_ne fun e => na (.inr ?_)).trans hb
    rw [e, ha] at hb
    rw [← e]
    exact ⟨vs, h.trans hb.symm⟩, tabS_lst t ha, hZ.lst n na ha z⟩⟩
theorem askF_tab {hZ : ZOk H0 la Pe Z} {hla : la = Pe ∨ ∃ vs, H0 la = some (.lst vs)} (n : Nat) : HasTab ((askF H0 la Pe Z hZ hla).at n) Pe qEnv := ⟨.inl rfl, fun H j => j.2.1, fun H H' ⟨k, t, z⟩ e t' => ⟨fun b o n1 n2 h => e b o n2 (k b o n1 n2 h), t', hZ.tab n e z⟩, fun H c r j h hm => by
  rcases ask_is hZ j hm with ⟨_, ps, h'⟩ | ⟨vs, h'⟩
  · rw [h'] at h
    exact codeO_ne _ (Option.some.inj h).symm
  · rw [h'] at h
    exact code_lst (Option.some.inj h).symm⟩
/-- no tuple is of the family -/
theorem ask_tup (hZ : ZOk H0 la Pe Z) (j : askJ H0 la Pe Z n H) {M : Addr → Prop} : ∀ b xs, askM H0 Pe b → H b = some (.tup xs) → M b := fun b xs hb h => by
  rcases ask_is hZ j hb with ⟨_, ps, h'⟩ | ⟨vs, h'⟩
  · rw [h'] at h; cases h
  · rw [h'] at h; cases h
end
/-- what was asked so far, at la -/
def askZ (K : PySem.W.Frag) (la Pe : Addr) (n : Nat) (H : Hp) : Prop := ∃ (va : List V) (ts : List P2), H la = some (.lst va) ∧ va.length = n ∧ Reps K (fun b => b = la ∨ b = Pe) H va ts ∧ ∀ t, t ∈ ts → okP t = true
theorem askZ_ok {K : PySem.W.Frag} {H0 : Hp} {la Pe : Addr} (hla : ∃ vs, H0 la = some (.lst vs)) (ne : la ≠ Pe) : ZOk H0 la Pe (askZ K la Pe) :=
  ⟨fun n {H H'} e ⟨va, ts, h1, h2, h3, h4⟩ => ⟨va, ts, e _ _ h1, h2, reps_mono (fun b o _ h => e b o h) h3, h4⟩, fun n {H} ⟨va, ts, h1, _⟩ _ => ⟨va, h1⟩,
  fun n {H a vs ws} na ha ⟨va, ts, h1, h2, h3, h4⟩ => ⟨va, ts, (upd_ne fun e => na (.inr (by rw [← e]; exact hla))).trans h1, h2, Paired.mapP h3 fun _ _ z => p2_lst ha z, h4⟩,
  fun n {H H'} e ⟨va, ts, h1, h2, h3, h4⟩ => ⟨va, ts, e _ _ ne h1, h2, reps_mono (fun b o n h => e b o (fun z => n (.inr z)) h) h3, h4⟩⟩
theorem askT_ok {H0 : Hp} {Pe : Addr} : ZOk H0 Pe Pe (fun _ _ => True) := ⟨fun _ _ _ _ _ => trivial, fun _ _ _ h => absurd rfl h, fun _ _ _ _ _ _ _ _ => trivial, fun _ _ _ _ _ => trivial⟩
/-! ### what is asked, by a function at f -/
def spAsk (K : PySem.W.Frag) (F : Fam) (ans : P2 → Ans) (B : Nat) : List V → Hp → VK → Prop := fun vs H Q => ∃ (n : Nat) (v : V) (t : P2), vs = [v] ∧ n < B ∧ okP t = true ∧ F.J n H ∧ rep K F.M H v t ∧ ∀ u H' z, Kp F.M H H' → F.J (n + 1) H' → z = ans t → rep K F.M H' u z → Q u H'
theorem askR_of {P : Program} {w : World} {K : PySem.W.Frag} {mg : Str → Option Value} {base : Heap} {g f : Addr} {cdv : Value} {A : Around} {outer : List Env} {s : Shared} {H0 : Hp} {E : XK} {F : Fam} {ans : P2 → Ans} {B k : Nat}
    (Ak : Asks P w K mg base k f (spAsk K F ans B) (xBy P w K mg base g cdv A outer s H0 E).fs s H0) (hr : Room k (A.deeper (envOfC "by_asking" (defScope sByAsking) s.heap.objs.size g cdv))) : AskR (xBy P w K mg base g cdv A outer s H0 E) F f ans B :=
  fun n σ H e t p1 pos hn hs ho he ns H2 s2 Q q => we_ask (sp := spAsk K F ans B) (i := 0) Ak rfl hr hs ((el1 he ns) H2 s2 _ fun vs H3 s3 rs => by
    obtain ⟨v, rfl, rv⟩ := rp1 rs
    exact ⟨n, v, t, rfl, hn, ho, s3.j, rv, fun u H' z k j e r => q u H' z (Kp.trans s3.keep k) j e r⟩) (he := by
      rw [ns])
end HK
set_option Elab.async false
set_option linter.all false
set_option maxRecDepth 100000
set_option maxHeartbeats 4000000
/-! L2: law's first asking. -/
namespace HK
open PySem PySem.Spec PyProof.Rows L2 LamX
open Rep Arg
open NdefX (NF CellsAt slotAt Caps startF ncx NScope envF nscope_by ndef_free ndef_fr ndefB)
abbrev sLaw : Stmt := topS 44
abbrev nLaw : List Str := ["_law_script", "_law_draw", "_law_turn", "_law_scene", "_law_more", "_law_asked", "_law_due", "_law_spot_here"]
theorem scLaw : FnScope nLaw ["_law_script"] (defScope sLaw) := ⟨rfl, rfl, rfl, by decide +kernel, rfl, by decide +kernel, by decide +kernel⟩
def qLaw : Str := (("law" : Str) ++ ".<locals>.") ++ "<lambda>"
abbrev xLaw (P : Program) (w : World) (K : PySem.W.Frag) (mg : Str → Option Value) (base : Heap) (f : Addr) (cdv : Value) (A : Around) (outer : List Env) (s : Shared) (H : Hp) (E : XK) : Cx := bcx P w K mg base nLaw "law" sLaw f cdv A outer s H E
def turnBody : List Stmt := match (defBody sLaw)[1]? with
  | some (Stmt.For _ _ b _ _) => b
  | _ => []
/-- by_asking(lambda ..) -/
def ask1E : Expr := match turnBody[2]? with
  | some (Stmt.If (.UnaryOp .Not (.Call _ (e :: _) _ _) _) _ _ _) => e
  | _ => .Constant .none 0 ⟨0, 0, 0, 0⟩
/-- a def with a promise of its own -/
structure CalS (P : Program) (w : World) (K : PySem.W.Frag) (mg : Str → Option Value) (base : Heap) (k : Nat) (n : Str) (np : Nat) (sp : Sp) : Prop where
  ex : ∃ (f : Addr) (fd : FuncData) (ps : List Str), FnOk P w K mg base CX0 k f fd ps sp ∧ mg n = some (.ref f) ∧ PySem.W.keepIn K (.ref f) = true ∧ Binds K fd ps []
abbrev CAns (P : Program) (w : World) (K : PySem.W.Frag) (mg : Str → Option Value) (base : Heap) := CalS P w K mg base 4 "_law_answer" 4 (spAns K)
section
variable {P : Program} {w : World} {K : PySem.W.Frag} {mg : Str → Option Value} {base : Heap}
theorem lawAns_some {sc : Scene} {more : Int} {t : P2} (h : ∃ an, lawAns sc more t = some an) : lawAns sc more t = some (ansOf sc more t) := by
  obtain ⟨an, e⟩ := h
  unfold ansOf
  rw [e]
  rfl
theorem ask1 {f c Pe Pl la : Addr} {cdv : Value} {A : Around} {outer : List Env} {s : Shared} {H0 H : Hp} {E : XK} {sc : Scene} {more : Int} {R : Fr} {v0 v1 vsc : V} {w2 w6 w7 : Option V} {Q : VK}
    (C : Consts K mg) (cA : CAlike P w K mg base) (cL : CLeads P w K mg base) (cW : CWeight P w K mg base) (cF : CFreeW P w K mg base) (cO : COver P w K mg base Pe) (cB : FnX K mg "by_asking" sByAsking ["asks"]) (bB : ∀ (s : Shared) (u : Value), BindsTo s cB.fd ⟨[u], []⟩ [("asks", u)]) (cN : CAns P w K mg base)
    (TB : TabB base mg c Pl) (hcode : cdv = .ref c) (hr : Room 7 (A.deeper (envOfC "law" (defScope sLaw) s.heap.objs.size f cdv))) (hT : TabS H Pl qLaw) (hTe : TabS H Pe qEnv) (ne : Pe ≠ Pl)
    (hla : H la = some (.lst [])) (rsc : rep K (fun b => b = la ∨ b = Pe ∨ b = Pl) H vsc sc) (hsc : ScOk sc) (m0 : 0 ≤ more) (m1 : Sm 20 more) (hall : ∀ t, okP t = true → ∃ an, lawAns sc more t = some an) (hby : byAsk (ansOf sc more) 10 10 100 = some R)
    (q : ∀ v H' va ts, (∀ b o, b ≠ la → b ≠ Pe → b ≠ Pl → H b = some o → H' b = some o) → TabS H' Pe qEnv → TabS H' Pl qLaw → H' la = some (.lst va) → Reps K (fun b => b = la ∨ b = Pe) H' va ts → va ≠ [] → va.length ≤ 200 → (∀ t, t ∈ ts → okP t = true) → rep K (fun _ => False) H' v R → Q v H') :
    WE (xLaw P w K mg base f cdv A outer s H0 E) ask1E [some v0, some v1, w2, some vsc, some (.int more), some (.ref la), w6, w7] H Q := by
  have nPe : la ≠ Pe := fun z => by
    obtain ⟨ps, h⟩ := tabS_is hTe
    rw [← z, hla] at h
    cases h
  have nPl : la ≠ Pl := fun z => by
    obtain ⟨ps, h⟩ := tabS_is hT
    rw [← z, hla] at h
    cases h
  refine we_lam1 (Ng := nBy) (x := "by_asking") (st := sByAsking) (a := "asks") (k := 6) (fr := ["_law_scene", "_law_more", "_law_asked"]) (js := [3, 4, 5]) (P := Pl) (c := c) cB.F rfl cB.g bB scByAsking hr TB hcode hT (fun pins f' c' H1 s' cdv' M hr' => ?_) (ndef_free (sc := defScope sLaw) (fr := ["_law_scene", "_law_more", "_law_asked"]) (by decide +kernel)) (ndef_fr (sc := defScope sLaw) (by decide +kernel))
  have hla1 : H1 la = some (.lst []) := M.ex _ _ nPl hla
  have hTe1 : TabS H1 Pe qEnv := tabS_via hTe (fun ps h => M.ex _ _ ne h) fun c r h => M.ex _ _ (fun z => by
    obtain ⟨ps, h'⟩ := tabS_is hT
    rw [z, h'] at h
    exact codeO_ne _ (Option.some.inj h).symm) h
  have hT1 : TabS H1 Pl qLaw := M.tab
  have nc1 : ∀ c r, H1 c = some (CodeO c r) → c ≠ la ∧ c ≠ Pe := fun c r h => ⟨fun z => by
    rw [z, hla1] at h
    exact code_lst (Option.some.inj h).symm, fun z => by
    obtain ⟨ps, h'⟩ := tabS_is hTe1
    rw [z, h'] at h
    exact codeO_ne _ (Option.some.inj h).symm⟩
  have rsc1 : rep K (fun b => b = la ∨ b = Pe ∨ b = Pl) H1 vsc sc := mono (fun b o n h => M.ex b o (fun z => n (.inr (.inr z))) h) rsc
  have hZ : ZOk H1 la Pe (askZ K la Pe) := askZ_ok ⟨_, hla1⟩ nPe
  have Ak : Asks P w K mg base 5 f' (spAsk K (askF H1 la Pe (askZ K la Pe) hZ (.inr ⟨_, hla1⟩)) (ansOf sc more) 200) (xBy P w K mg base cB.f cdv' (A.deeper (envOfC "law" (defScope sLaw) s.heap.objs.size f cdv)) (xLaw P w K mg base f cdv A outer s H0 E).stack s' H1 E0).fs s' H1 := by
    refine asks_of (N := ["_law_spot_here", "_law_scene", "_law_more", "_law_asked"]) (ps := ["_law_spot_here"]) (nscope_by (by dsimp only [lamF]; decide +kernel)) (fun pm ctv us hl => by
      match us, hl with
      | [_], _ => rfl) M.clo (fun vs H Q h => ?_) (fun A' outer' s2 H2 vs Q hr2 h => ?_)
    · obtain ⟨n, v, t, e, _, _, j, _⟩ := h
      rw [e]
      have hc := M.clo.code
      exact ⟨rfl, j.1 _ _ (nc1 _ _ hc).1 (nc1 _ _ hc).2 hc⟩
    · obtain ⟨n, v, t, e, hn, ho, j, rv, q⟩ := h
      subst e
      obtain ⟨fa, fda, psa, oa, hma, hka, hba⟩ := cN.ex
      refine we_of (pe_call oa (hr2.mono (by decide)) rfl hma hka hba .nil pass0 pa_w (by decide) rfl rfl) ((el4 (m := (askF H1 la Pe (askZ K la Pe) hZ (.inr ⟨_, hla1⟩)).at n) (ev_var (x := vsc) 1 rfl) (ev_var (x := V.int more) 2 rfl) (ev_var (x := V.ref la) 3 rfl) (ev_var 0 rv)) H2 (Step.refl j) _ fun vs H3 s3 rs => ?_)
      obtain ⟨u1, u2, u3, u4, rfl, r1, r2, r3, r4⟩ := rp4 rs
      cases (show u1 = vsc from r1)
      cases (show u2 = V.int more from r2)
      cases (show u3 = V.ref la from r3)
      have j3 : askJ H1 la Pe (askZ K la Pe) n H3 := s3.j
      obtain ⟨k3, t3, va, ts, l3, n3, rt3, ok3⟩ := j3
      have nla : ∀ {b o}, (∀ vs, o ≠ HO.lst vs) → H3 b = some o → b ≠ la := fun ho h z => by
        rw [z, l3] at h
        exact ho _ (Option.some.inj h).symm
      show spAns K ([vsc, V.int more, V.ref la, u4] ++ []) H3 Q E0
      rw [List.append_nil]
      refine ⟨fun b => b = la, vsc, u4, sc, more, la, va, t, ansOf sc more t, rfl, fun b hb z => (by rw [hb, l3] at z; cases z), rfl, ?_, ?_, l3, by rw [n3]; omega, ho, hsc, m0, m1, lawAns_some (hall t ho), fun u v' H4 ex hl4 rt ru => ?_⟩
      · exact shift (fun b hb => .inl (.inl hb)) (mono (fun b o nb h => k3 b o (fun z => nb (.inl z)) (fun z => nb (.inr (.inl z))) h) rsc1)
      · exact shift (fun b hb => .inl (.inr ⟨_, by rw [hb]; exact hla1⟩)) r4
      · have t4 : TabS H4 Pe qEnv := tabS_via t3 (fun ps h => ex _ _ (nla (fun _ z => by cases z) h) h) fun c r h => ex _ _ (nla (fun _ z => code_lst z) h) h
        have j4 : askJ H1 la Pe (askZ K la Pe) (n + 1) H4 := ⟨fun b o n1 n2 h => ex b o n1 (k3 b o n1 n2 h), t4, va ++ [v'], ts ++ [t], hl4, by rw [List.length_append, n3]; rfl, reps_snoc (reps_mono (fun b o nb h => ex b o (fun z => nb (.inl z)) h) rt3) (p2_shift (fun b xs hb h => by
          rcases hb with hb | hb
          · exact hb
          · obtain ⟨ps, h'⟩ := tabS_is t4
            rw [hb, h'] at h
            cases h) rt), fun x hx => by
          rcases List.mem_append.mp hx with hx | hx
          · exact ok3 x hx
          · rw [show x = t by simpa using hx]
            exact ho⟩
        refine q u H4 _ (Kp.trans s3.keep fun b o nb h => ex b o (fun z => nb (.inr ⟨[], z ▸ hla1⟩)) h) j4 rfl (ans_shift (fun b xs hb h => ?_) ru)
        exact ask_tup hZ j4 (M := fun b => b = la) b xs hb h
  refine by_walk (F := askF H1 la Pe (askZ K la Pe) hZ (.inr ⟨_, hla1⟩)) (n1 := 10) (n2 := 10) (n3 := 100) (B := 200) C cA cL cW cF cO hr' (askR_of Ak (hr'.mono (by decide))) askF_tab hby (by decide) ⟨fun _ _ _ _ h => h, hTe1, [], [], hla1, rfl, .nil, fun _ h => nomatch h⟩ fun v H' idx i1 i2 kp j rv => ?_
  obtain ⟨k5, t5, va, ts, l5, n5, rt5, ok5⟩ := j
  refine q v H' va ts (fun b o n1 n2 n3 h => k5 b o n1 n2 (M.ex b o n3 h)) t5 (tabS_via hT1 (fun ps h => k5 _ _ (fun z => nPl z.symm) (fun z => ne z.symm) h) fun c r h => k5 _ _ (nc1 c r h).1 (nc1 c r h).2 h) l5 rt5 (fun z => by rw [z] at n5; simp at n5; omega) (by omega) ok5 (shift (fun _ h => h.elim) rv)
end
end HK
set_option Elab.async false
set_option linter.all false
set_option maxRecDepth 100000
set_option maxHeartbeats 4000000
/-! L3: law's second asking. -/
namespace HK
open PySem PySem.Spec PyProof.Rows L2 LamX
open Rep Arg
open NdefX (NF CellsAt slotAt Caps startF ncx NScope envF nscope_by ndef_free ndef_fr ndefB)
/-- by_asking(asks=lambda ..) -/
def ask2E : Expr := match turnBody[5]? with
  | some (Stmt.If _ (Stmt.If (.UnaryOp .Not (.Call _ (e :: _) _ _) _) _ _ _ :: _) _ _) => e
  | _ => .Constant .none 0 ⟨0, 0, 0, 0⟩
def lam2S : Scope := match ask2E with
  | .Call _ _ [⟨_, .Lambda _ _ sc _, _⟩] _ => sc
  | _ => defScope sLaw
abbrev nLam2 : List Str := ["_law_one", "_law_due", "_law_pair_here"]
theorem lam2C : CScope nLam2 "_law_one" ["_law_due"] lam2S := ⟨rfl, rfl, rfl, by decide +kernel, rfl, rfl, by decide +kernel, by decide +kernel, by decide +kernel, fun _ _ => rfl, fun _ => rfl⟩
theorem fr_shift {K : PySem.W.Frag} {M M' : Addr → Prop} {H : Hp} {v : V} {lo hi : P2} {cs : List P2} (hs : ∀ b xs, M' b → H b = some (.tup xs) → M b) (r : rep K M H v (Fr.over lo hi cs)) : rep K M' H v (Fr.over lo hi cs) := by
  have tp : ∀ {a xs}, TupA K M H a xs → TupA K M' H a xs := fun {a xs} t => by
    rcases t with ⟨n, h⟩ | h
    · exact .inl ⟨fun z => n (hs a _ z h), h⟩
    · exact .inr h
  obtain ⟨a, v1, v2, v3, e, t, r1, r2, b, vs, e3, t3, r3⟩ := r
  exact ⟨a, v1, v2, v3, e, tp t, p2_shift hs r1, p2_shift hs r2, b, vs, e3, tp t3, Paired.mapP r3 fun _ _ z => p2_shift hs z⟩
section
variable {X : Cx} {m : Mode} {σ : L2.St} {H : Hp} {e : Expr}
theorem ev_num {x : Told} {n : Int} (ha : EvD X m e σ H x) (hx : x = .num n) : EvD X m e σ H n := fun H1 s1 Q q => ha H1 s1 Q fun v H2 y s2 py ry => by
  subst hx
  subst py
  exact q v H2 n s2 rfl ry
end
theorem dueOf_ok {lo hi : P2} {cs : List P2} {t : P2} (h : ∃ an, dueAns (.over lo hi cs) t = some an) : ∃ n h r, lawValue (.over lo hi cs) t = .num n ∧ cs.filter (fun c => decide (wt c t = n)) = h :: r ∧ dueOf (.over lo hi cs) t = .most h := by
  obtain ⟨an, e⟩ := h
  have ed : dueOf (.over lo hi cs) t = an := by unfold dueOf; rw [e]; rfl
  unfold dueAns at e
  cases hv : lawValue (.over lo hi cs) t with
  | none => rw [hv] at e; simp at e
  | endless => rw [hv] at e; simp at e
  | num n =>
    rw [hv] at e
    simp only at e
    cases hf : cs.filter fun c => decide (wt c t = n) with
    | nil => rw [hf] at e; simp at e
    | cons h r =>
      rw [hf] at e
      exact ⟨n, h, r, rfl, hf, ed.trans (Option.some.inj e).symm⟩
section
variable {P : Program} {w : World} {K : PySem.W.Frag} {mg : Str → Option Value} {base : Heap}
theorem ask2 {f c Pe Pl : Addr} {cdv : Value} {A : Around} {outer : List Env} {s : Shared} {H0 H : Hp} {E : XK} {cs : List P2} {R : Fr} {v0 v1 vdue : V} {w2 w3 w4 w5 w7 : Option V} {Q : VK}
    (C : Consts K mg) (cA : CAlike P w K mg base) (cL : CLeads P w K mg base) (cW : CWeight P w K mg base) (cF : CFreeW P w K mg base) (cO : COver P w K mg base Pe) (cB : FnX K mg "by_asking" sByAsking ["asks"]) (bK : ∀ (s : Shared) (u : Value), BindsTo s cB.fd ⟨[], [("asks", u)]⟩ [("asks", u)]) (cH : CWorth P w K mg base) (cV : CValue P w K mg base)
    (TB : TabB base mg c Pl) (hcode : cdv = .ref c) (hr : Room 7 (A.deeper (envOfC "law" (defScope sLaw) s.heap.objs.size f cdv))) (hT : TabS H Pl qLaw) (hTe : TabS H Pe qEnv) (ne : Pe ≠ Pl)
    (rdue : rep K (fun b => b = Pe ∨ b = Pl) H vdue (Fr.over FIRST LAST cs)) (hfr : frOk (.over FIRST LAST cs)) (hall : ∀ t, okP t = true → ∃ an, dueAns (.over FIRST LAST cs) t = some an) (hby : byAsk (dueOf (.over FIRST LAST cs)) 10 10 100 = some R)
    (q : ∀ v H', (∀ b o, b ≠ Pe → b ≠ Pl → H b = some o → H' b = some o) → TabS H' Pe qEnv → TabS H' Pl qLaw → rep K (fun _ => False) H' v R → Q v H') :
    WE (xLaw P w K mg base f cdv A outer s H0 E) ask2E [some v0, some v1, w2, w3, w4, w5, some vdue, w7] H Q := by
  refine we_lamK (Ng := nBy) (x := "by_asking") (st := sByAsking) (a := "asks") (k := 6) (fr := ["_law_due"]) (js := [6]) (P := Pl) (c := c) cB.F rfl cB.g bK scByAsking hr TB hcode hT (fun pins f' c' H1 s' cdv' M hr' => ?_) (ndef_free (sc := defScope sLaw) (fr := ["_law_due"]) (by decide +kernel)) (ndef_fr (sc := defScope sLaw) (by decide +kernel))
  have hTe1 : TabS H1 Pe qEnv := tabS_via hTe (fun ps h => M.ex _ _ ne h) fun c r h => M.ex _ _ (fun z => by
    obtain ⟨ps, h'⟩ := tabS_is hT
    rw [z, h'] at h
    exact codeO_ne _ (Option.some.inj h).symm) h
  have hT1 : TabS H1 Pl qLaw := M.tab
  have nc1 : ∀ c r, H1 c = some (CodeO c r) → c ≠ Pe := fun c r h z => by
    obtain ⟨ps, h'⟩ := tabS_is hTe1
    rw [z, h'] at h
    exact codeO_ne _ (Option.some.inj h).symm
  have rdue1 : rep K (fun b => b = Pe ∨ b = Pl) H1 vdue (Fr.over FIRST LAST cs) := mono (fun b o n h => M.ex b o (fun z => n (.inr z)) h) rdue
  have Ak : Asks P w K mg base 5 f' (spAsk K (askF H1 Pe Pe (fun _ _ => True) askT_ok (.inl rfl)) (dueOf (.over FIRST LAST cs)) 200) (xBy P w K mg base cB.f cdv' (A.deeper (envOfC "law" (defScope sLaw) s.heap.objs.size f cdv)) (xLaw P w K mg base f cdv A outer s H0 E).stack s' H1 E0).fs s' H1 := by
    refine asks_ofC (N := nLam2) (n := "_law_one") (fr := ["_law_due"]) lam2C (fun pm ctv us hl => by
      match us, hl with
      | [_], _ => rfl) M.clo (fun c e => ?_) (fun vs H Q h => ?_) (fun A' outer' s2 H2 v' Q hr2 h => ?_)
    · cases e
    · obtain ⟨n, v, t, e, _, _, j, _⟩ := h
      have hc := M.clo.code
      exact ⟨v, e, j.1 _ _ (nc1 _ _ hc) (nc1 _ _ hc) hc⟩
    · obtain ⟨n, v, t, e, hn, ho, j, rv, q⟩ := h
      cases e
      obtain ⟨k, h, r, ev, ef, ed⟩ := dueOf_ok (hall t ho)
      have st := okP_sm ho
      have hN : nLam2.Nodup := by decide +kernel
      have rd2 : rep K (askF H1 Pe Pe (fun _ _ => True) askT_ok (.inl rfl)).M H2 vdue (Fr.over FIRST LAST cs) := fr_shift (fun b xs hb h => by
        rcases hb with hb | ⟨vs, hb⟩
        · exact .inl hb
        · by_cases z : b = Pe
          · exact .inl z
          · rw [j.1 b _ z z hb] at h
            cases h) (mono (fun b o nb h => j.1 b o (fun z => nb (.inl z)) (fun z => nb (.inl z)) h) rdue1)
      have hfr0 := hfr
      obtain ⟨g1, g2, g3, g4, g5⟩ := hfr
      refine (ev_most (p := h) (ev_ixL (xs := cs.filter fun c => decide (wt c t = k)) (n := 0) ((ev_lc1T (m := (askF H1 Pe Pe (fun _ _ => True) askT_ok (.inl rfl)).at n) (α := P2) (β := P2) (xs := Tup.mk cs) 2 (fun c => decide (wt c t = k)) (fun c => c) (ev_over3 (ev_var 1 rd2) ev_int) (by show cs.length ≤ 1000000; omega) (show BlkOk nLam2 lam2S _ [("_law_pair_here", 2)] from blkOk_by (by decide +kernel))
        (fun m' s0 H0 C' cl fp u x H' up' j' hx ru => et_eqI (e_worth cH hr2 (ev_var 2 ru) (ev_var 0 (up' rv)) ⟨g5 x hx, st⟩) (ev_num (e_value cV hr2 (ev_var 1 (up' rd2)) (ev_var 0 (up' rv)) ⟨hfr0, st⟩) ev))
        (fun m' s0 H0 C' cl fp u x H' up' j' hx hk ru => ev_var 2 ru) hN rfl (fun _ _ _ _ _ => pg_name hN rfl (Or.inl rfl))).to (List.map_id' _)) ev_int (by rw [ef]; exact atI_cons))) H2 (Step.refl j) Q fun u H3 z s3 pz rz => ?_
      exact q u H3 z s3.keep ⟨s3.j.1, s3.j.2.1, trivial⟩ (pz.trans ed.symm) rz
  refine by_walk (F := askF H1 Pe Pe (fun _ _ => True) askT_ok (.inl rfl)) (n1 := 10) (n2 := 10) (n3 := 100) (B := 200) C cA cL cW cF cO hr' (askR_of Ak (hr'.mono (by decide))) askF_tab hby (by decide) ⟨fun _ _ _ _ h => h, hTe1, trivial⟩ fun v H' idx i1 i2 kp j rv => ?_
  obtain ⟨k5, t5, _⟩ := j
  exact q v H' (fun b o n2 n3 h => k5 b o n2 n2 (M.ex b o n3 h)) t5 (tabS_via hT1 (fun ps h => k5 _ _ (fun z => ne z.symm) (fun z => ne z.symm) h) fun c r h => k5 _ _ (nc1 c r h) (nc1 c r h) h) (shift (fun _ h => h.elim) rv)
end
end HK
set_option Elab.async false
set_option linter.all false
set_option maxRecDepth 100000
/-! L4: sizes of what is drawn. -/
namespace HK
theorem corners_len (ps : List P2) (lo hi : P2) : (lawCorners ps lo hi).length ≤ ps.length := by
  unfold lawCorners lawOrder lawFound
  rw [List.length_map, List.length_mergeSort, List.length_map]
  exact Nat.le_trans (List.length_filterMap_le _ _) (dedup_len ps)
theorem corner_pk {peak : Int} {ps : List P2} {lo hi : P2} (hp : Sm 38 peak) (pk : ∀ c, c ∈ ps → inPeak peak c) : ∀ c, c ∈ lawCorners ps lo hi → Sm2 38 c := fun c hc => inPeak_sm hp (pk c (corner_sub hc))
theorem over_ok {peak : Int} {ps : List P2} {lo hi : P2} (hp : Sm 38 peak) (gl : goodP lo) (gh : goodP hi) (g : leadsB lo hi = true) (hne : ps ≠ []) (lp : ps.length ≤ 6) (pk : ∀ c, c ∈ ps → inPeak peak c) : frOk (.over lo hi (lawCorners ps lo hi)) ∧ okF (.over lo hi (lawCorners ps lo hi)) := by
  have hl := corners_len ps lo hi
  have hc := corner_pk (lo := lo) (hi := hi) hp pk
  exact ⟨⟨gl.2.mono (by omega), gh.2.mono (by omega), corners_ne gl.1 gh.1 (leads_X.mp g) hne, by omega, fun c h => (hc c h).mono (by omega)⟩, gl.2.mono (by omega), gh.2.mono (by omega), by omega, fun c h => (hc c h).mono (by omega)⟩
theorem scene_ok {peak : Int} {sc : Scene} (h : ScIs peak sc) (hp : Sm 38 peak) : ScOk sc ∧ okF sc.a := by
  cases h with
  | none => exact ⟨⟨trivial, by simp, (fun _ h => nomatch h), by simp, (fun _ h => nomatch h), by simp, (fun _ h => nomatch h)⟩, trivial⟩
  | endless gl gh g la lb ga gb =>
    refine ⟨⟨trivial, by simp, (fun _ h => nomatch h), by simp only [List.length_cons]; omega, fun c h => ?_, by simp only [List.length_cons]; omega, fun c h => ?_⟩, trivial⟩
    · rcases List.mem_cons.mp h with e | h
      · rw [e]; exact goodP_sm gh
      · exact goodP_sm (ga c h)
    · rcases List.mem_cons.mp h with e | h
      · rw [e]; exact goodP_sm gl
      · exact goodP_sm (gb c h)
  | some gl gh g la lb ga gb hne lp pk =>
    rename_i lo hi ah be ps
    have fo : frOk (lawOver ps lo hi) ∧ okF (lawOver ps lo hi) := by
      by_cases e : lo = hi
      · have eo : lawOver ps lo hi = .at lo (maxL (ps.map fun c => wt c lo)) := if_pos e
        rw [eo]
        obtain ⟨⟨c, hc, ec⟩, _⟩ := maxL_map hne lo
        refine ⟨goodP_sm gl, gl.2.mono (by omega), ?_⟩
        rw [← ec]
        exact (wt_sm (inPeak_sm hp (pk c hc)) gl.2).mono (by omega)
      · have eo : lawOver ps lo hi = .over lo hi (lawCorners ps lo hi) := if_neg e
        rw [eo]
        exact over_ok hp gl gh (g.resolve_left e) hne lp pk
    have l1 := List.length_filter_le (fun t => leadsB t lo) ah
    have l2 := List.length_filter_le (fun t => leadsB hi t) be
    refine ⟨⟨fo.1, by show ps.length ≤ 1000; omega, fun c h => (inPeak_sm hp (pk c h)).mono (by omega), by simp only [List.length_cons]; omega, fun c h => ?_, by simp only [List.length_cons]; omega, fun c h => ?_⟩, fo.2⟩
    · rcases List.mem_cons.mp h with e | h
      · rw [e]; exact goodP_sm gl
      · exact goodP_sm (ga c (List.mem_filter.mp h).1)
    · rcases List.mem_cons.mp h with e | h
      · rw [e]; exact goodP_sm gh
      · exact goodP_sm (gb c (List.mem_filter.mp h).1)
theorem due_ok {peak : Int} {lo hi : P2} {cs : List P2} (h : dueOk peak (.over lo hi cs)) (hp : Sm 38 peak) : frOk (.over lo hi cs) ∧ okF (.over lo hi cs) := by
  obtain ⟨gl, gh, g, ps, hne, lp, pk, ec⟩ := h
  subst ec
  exact over_ok hp gl gh g hne lp pk
end HK
set_option Elab.async false
set_option linter.all false
set_option maxRecDepth 100000
set_option maxHeartbeats 4000000
/-! L5: law: rules, its family. -/
namespace HK
open PySem PySem.Spec PyProof.Rows L2 LamX
open Rep Arg
/-! ### rules -/
section
variable {P : Program} {w : World} {K : PySem.W.Frag} {mg : Str → Option Value} {base : Heap} {nm : Str} {st : Stmt} {ps N : List Str} {k : Nat}
theorem fn_okGC {sp : Sp} (F : FnX K mg nm st ps) (S : FnScope N ps (defScope st)) (len : ∀ vs H Q E, sp vs H Q E → vs.length = ps.length)
    (body : ∀ (cdv : Value) (A : Around) (outer : List Env) (s : Shared) (H : Hp) (vs : List V) (Q : VK) (E : XK), F.fd.code = cdv → A.guards = some [] → Room k (A.deeper (envOfC nm (defScope st) s.heap.objs.size F.f cdv)) → sp vs H Q E →
      WB (bcx P w K mg base N nm st F.f cdv A outer s H E) (defBody st) { nx := fun _ H' => Q .non H', rt := Q } (L2.start N vs) H) : FnOkG P w K mg base (k + 1) F.f F.fd ps sp := by
  obtain ⟨f, fd, FF, gg, bb⟩ := F
  refine ⟨len, fun A outer s H args us vs Q E hg hr e0 hb r h => ?_⟩
  have hl := len _ _ _ _ h
  obtain ⟨⟨oc, od, kV, doc, pm, an, cdv, ct, osl, efd, lk, hcd⟩, kp⟩ := FF
  simp only at hb lk
  subst efd
  exact LamX.run_ofS lk hcd S hr e0 hb r hl fun hr' => ⟨_, PSs.nox pss_w, body cdv A outer s H vs Q E rfl hg hr' h⟩
structure CSame (P : Program) (w : World) (K : PySem.W.Frag) (mg : Str → Option Value) (base : Heap) : Prop where
  ex : ∃ (f : Addr) (fd : FuncData) (ps : List Str), FnOkG P w K mg base 2 f fd ps (spSame K) ∧ mg "_law_same" = some (.ref f) ∧ PySem.W.keepIn K (.ref f) = true ∧ Binds K fd ps []
end
section
variable {X : Cx} {m : Mode} {σ : L2.St} {H : Hp} {D : Ends} {a b : Expr} {body : List Stmt} {pos p p2 p3 : PySem.Pos} {j : Nat} {α β γ δ : Type} [Rep α] [Rep β] [Rep γ] [Rep δ]
/-- if not _law_same(a, b): .. -/
theorem ws_same (cS : CSame X.prog X.w X.K X.mg X.base) (hG : X.A.guards = some []) (hr : Room j X.A) (h : WE X a σ H fun v1 H1 => WE X b σ H1 fun v2 H2 => spSame X.K [v1, v2] H2 (fun u H3 => u = .bl true ∧ D.nx σ H3) E0) (hk : 2 ≤ j := by decide) (na : NS a := by exact fun _ _ => rfl) (nb : NS b := by exact fun _ _ => rfl)
    (hg : Gl X "_law_same" := by rfl) (he : starEach [a, b] X.env = (false, eval a X.env) :: starEach [b] X.env := by rfl) (hpl : (backTo pos (starEach [b] X.env)).any (·.1) = false := by rfl)
    (hv : ∀ whole, isTrue (.Call (.Name "_law_same" p) [a, b] [] pos) X.env whole = (do let v ← whole; standAt (Expr.pos (.Call (.Name "_law_same" p) [a, b] [] pos)); holding [v] (truthy v)) := by intro _; rfl) :
    WS X (.If (.UnaryOp .Not (.Call (.Name "_law_same" p) [a, b] [] pos) p2) body [] p3) D σ H := by
  obtain ⟨f, fd, ps, o, hm, hkp, hb⟩ := cS.ex
  refine ws_of (ps_if pt_w pss_w pss_w) (wt_of (pt_not pt_w) (wt_of (pt_val pe_w hv) (we_of (pe_callG o hG (hr.mono hk) hg hm hkp hb (pa_cons pe_w (pa_cons pe_w pa_nil (nb _ _)) (na _ _)) (by decide) he hpl) ?_)))
  intro pins s I
  refine wpAny_mono (h pins s I) (fun u s1 h1 => ?_) fun e s1 h1 => h1
  obtain ⟨v1, H1, I1, r1, q1⟩ := h1
  refine ⟨v1, H1, I1, r1, ?_⟩
  intro pins2 s2 I2
  refine wpAny_mono (q1 pins2 s2 I2) (fun u s3 h3 => ?_) fun e s3 h3 => h3
  obtain ⟨v2, H2, I3, r3, q3⟩ := h3
  refine ⟨v2, H2, I3, r3, ?_⟩
  unfold tNil
  simp only [List.append_nil]
  obtain ⟨M, v, w, x, e, hl, ra, rb, ok, q⟩ := q3
  refine ⟨M, v, w, x, e, hl, ra, rb, ok, fun H' ex => ?_⟩
  exact ⟨true, rfl, iteF (wb_nil (q H' ex).2)⟩
/-- x[0] of four -/
theorem ev_t4a {z : T4 α β γ δ} (ha : EvD X m a σ H z) (hb : EvD X m b σ H (0 : Int)) (hs : PlainIx b := by exact fun _ _ => rfl) : EvD X m (.Subscript a b pos) σ H z.a :=
  ev_ixT ha hb (fun H1 v ⟨p, v1, v2, v3, v4, e, t, r1, r2, r3, r4⟩ => ⟨p, _, v1, e, t, rfl, r1⟩) hs
theorem ev_lenZ {xs : Sq α} {n : Str} {p : PySem.Pos} (hm : X.mg n = none) (ha : EvD X m a σ H xs) (hv : bootBuiltins n = some (.builtin "len") := by decide +kernel) (hg : Gl X n := by rfl) (hn : n ≠ "__name__" := by decide) (hdb : (n == ("__debug__" : Str)) = false := by decide)
    (na : NS a := by exact fun _ _ => rfl) : EvD X m (.Call (.Name n p) [a] [] pos) σ H (xs.l.length : Int) :=
  ev_callB call_len_seq hm hv (el_cons ha el_nil na) (fun vs H1 Q s1 ⟨v, ws, e1, r1, e2⟩ q => by
    subst e2; subst e1
    obtain ⟨q1, us, e, t, rs⟩ := r1
    subst e
    refine ⟨q1, us, rfl, .inl t.sq, ?_⟩
    rw [show us.length = xs.l.length from Paired.length rs]
    exact q _ H1 _ (Step.refl s1.j) rfl rfl) hg hn hdb (na _ _)
end
/-! ### the family of law -/
def lawM (d g Pe Pl b : Addr) : Prop := b = d ∨ b = g ∨ b = Pe ∨ b = Pl
def lawJ (d g c Pe Pl : Addr) (n : Nat) (H : Hp) : Prop := DrawAt n H d g c ∧ TabS H Pe qEnv ∧ TabS H Pl qLaw
section
variable {d g c Pe Pl : Addr} {n : Nat} {H H' : Hp}
/-- what stands at an object of the family -/
theorem law_is {b : Addr} (j : lawJ d g c Pe Pl n H) (h : lawM d g Pe Pl b) : (∃ kvs, H b = some (.dK kvs)) ∨ (b = g ∧ ∃ vs, H b = some (.lst vs)) ∨ ∃ ps, H b = some (.tbl ps) := by
  obtain ⟨⟨left, turn, gs, h1, h2, _⟩, t1, t2⟩ := j
  rcases h with h | h | h | h
  · exact .inl ⟨_, by rw [h]; exact h1⟩
  · exact .inr (.inl ⟨h, _, by rw [h]; exact h2⟩)
  · exact .inr (.inr (by rw [h]; exact tabS_is t1))
  · exact .inr (.inr (by rw [h]; exact tabS_is t2))
theorem law_live {b : Addr} (j : lawJ d g c Pe Pl n H) (h : lawM d g Pe Pl b) : H b ≠ none := fun z => by
  rcases law_is j h with ⟨_, e⟩ | ⟨_, _, e⟩ | ⟨_, e⟩ <;> (rw [e] at z; cases z)
theorem law_tup {M : Addr → Prop} (j : lawJ d g c Pe Pl n H) : ∀ b xs, lawM d g Pe Pl b → H b = some (.tup xs) → M b := fun b xs h z => by
  rcases law_is j h with ⟨_, e⟩ | ⟨_, _, e⟩ | ⟨_, e⟩ <;> (rw [e] at z; cases z)
/-- the tables may be written to -/
theorem law_keep (j : lawJ d g c Pe Pl n H) (k : ∀ b o, b ≠ Pe → b ≠ Pl → H b = some o → H' b = some o) (t1 : TabS H' Pe qEnv) (t2 : TabS H' Pl qLaw) : lawJ d g c Pe Pl n H' := by
  obtain ⟨⟨left, turn, gs, h1, h2, h3, h4⟩, s1, s2⟩ := j
  obtain ⟨ps1, e1⟩ := tabS_is s1
  obtain ⟨ps2, e2⟩ := tabS_is s2
  exact ⟨⟨left, turn, gs, k _ _ (fun z => by rw [z, e1] at h1; cases h1) (fun z => by rw [z, e2] at h1; cases h1) h1, k _ _ (fun z => by rw [z, e1] at h2; cases h2) (fun z => by rw [z, e2] at h2; cases h2) h2, h3, h4⟩, t1, t2⟩
theorem code_dk {c : Addr} {r : Str} {kvs : List (L2.Key × V)} : CodeO c r ≠ .dK kvs := fun z => by unfold CodeO at z; cases z
theorem law_back {n' : Nat} (j : lawJ d g c Pe Pl n H) (k : ∀ b o, b ≠ d → b ≠ g → H b = some o → H' b = some o) (D : DrawAt n' H' d g c) : lawJ d g c Pe Pl n' H' := by
  obtain ⟨⟨left, turn, gs, h1, h2, _⟩, t1, t2⟩ := j
  have go : ∀ {P q}, TabS H P q → TabS H' P q := fun {P q} t => tabS_via t (fun ps h => k _ _ (fun z => by rw [z, h1] at h; cases h) (fun z => by rw [z, h2] at h; cases h) h) fun c r h => k _ _ (fun z => by
    rw [z, h1] at h
    exact code_dk (Option.some.inj h).symm) (fun z => by
    rw [z, h2] at h
    exact code_lst (Option.some.inj h).symm) h
  exact ⟨D, go t1, go t2⟩
end
def lawF (d g c Pe Pl : Addr) : Fam := ⟨lawM d g Pe Pl, lawJ d g c Pe Pl, fun n {H H'} e ⟨D, t1, t2⟩ => ⟨D.ex e, t1.ext e, t2.ext e⟩, fun n {H a} j h => law_live j h,
  fun n {H a vs ws} na ha ⟨D, t1, t2⟩ => ⟨D.lst (fun e => na (.inl e)) (fun e => na (.inr (.inl e))), tabS_lst t1 ha, tabS_lst t2 ha⟩⟩
theorem lawF_is {d g c Pe Pl : Addr} : IsDraw (lawF d g c Pe Pl) d g c := ⟨.inl rfl, .inr (.inl rfl), fun n H j => j.1, fun n n' H H' j k D => law_back j k D⟩
end HK
set_option Elab.async false
set_option linter.all false
set_option maxRecDepth 100000
set_option maxHeartbeats 4000000
/-! L6: law: one turn. -/
namespace HK
open PySem PySem.Spec PyProof.Rows L2 LamX
open Rep Arg
section
variable {X : Cx} {m : Mode} {σ : L2.St} {H : Hp} {a b c d e : Expr} {p1 p2 p3 p4 p5 p6 p7 p8 p9 q1 q2 q3 q4 q5 q6 : PySem.Pos} {j : Nat}
/-- is it a front over all prices -/
def isAll : Fr → Bool
  | .over lo hi _ => decide (((lo, hi) : Str2) = ((1, 0), (0, 1)))
  | _ => false
theorem tag_at : decide (V.str sAt = V.str sOver) = false := by decide +kernel
theorem tag_end : decide (V.str sEndless = V.str sOver) = false := by decide +kernel
theorem et_all {F : Fr} {ka kb kc kd ke kf kg kh ki kj kk kl km : Nat} {z : Str} (hr : Room j X.A) (ha : ∀ {p : PySem.Pos}, EvD X m (.Name "_law_due" p) σ H F) (hz : z = sOver := by rfl) :
    EvT X m (.BoolOp .And [.Compare (.Name "_law_due" p1) [.IsNot] [.Constant .none ka p2] p3, .Compare (.Subscript (.Name "_law_due" p4) (.Constant (.int 0) kb p5) p6) [.Eq] [.Constant (.str z) kc p7] p8,
      .Compare (.Tuple [.Subscript (.Name "_law_due" p9) (.Constant (.int 1) kd q1) q2, .Subscript (.Name "_law_due" q3) (.Constant (.int 2) ke q4) q5] kf q6) [.Eq] [.Tuple [.Tuple [.Constant (.int 1) kg p1', .Constant (.int 0) kh p2'] ki p3', .Tuple [.Constant (.int 0) kj p4', .Constant (.int 1) kk p5'] kl p6'] km p7'] p8'] p9') σ H (isAll F) := by
  subst hz
  cases F with
  | none => exact (et_and3 (l := false) (n := false) (et_isNotNF ha) (fun h => by simp [isNoneF] at h) fun h => by simp [isNoneF] at h).to rfl
  | endless => exact (et_and3 (n := false) (et_isNotNF ha) (fun _ => et_eqV (ev_tagF (by nofun) ha ev_int) ev_str rfl) fun _ h => by rw [show tagF Fr.endless = V.str sEndless from rfl, tag_end] at h; cases h).to (by rw [show tagF Fr.endless = V.str sEndless from rfl, tag_end]; rfl)
  | «at» lo n => exact (et_and3 (n := false) (et_isNotNF ha) (fun _ => et_eqV (ev_tagF (by nofun) ha ev_int) ev_str rfl) fun _ h => by rw [show tagF (Fr.at lo n) = V.str sAt from rfl, tag_at] at h; cases h).to (by rw [show tagF (Fr.at lo n) = V.str sAt from rfl, tag_at]; rfl)
  | over lo hi cs => exact (et_and3 (et_isNotNF ha) (fun _ => et_eqV (ev_tagF (by nofun) ha ev_int) ev_str rfl) fun _ _ => et_eqD (α := Str2) hr (ev_pair (ev_over1 ha ev_int) (ev_over2 ha ev_int)) (ev_pair (ev_pair ev_int ev_int) (ev_pair ev_int ev_int))).to (by
      show (true && (decide (V.str sOver = V.str sOver) && _)) = _
      rw [decide_eq_true rfl]
      rfl)
end
section
variable {P : Program} {w : World} {K : PySem.W.Frag} {mg : Str → Option Value} {base : Heap}
theorem turn_walk {f c' d g c Pe Pl : Addr} {cdv : Value} {A : Around} {outer : List Env} {s : Shared} {H0 H : Hp} {E : XK} {D : Ends} {cs : List Int} {n : Nat} {v0 vt : V} {w3 w4 w5 w6 w7 : Option V}
    (C : Consts K mg) (cA : CAlike P w K mg base) (cL : CLeads P w K mg base) (cW : CWeight P w K mg base) (cF : CFreeW P w K mg base) (cO : COver P w K mg base Pe) (cB : FnX K mg "by_asking" sByAsking ["asks"]) (bB : ∀ (s : Shared) (u : Value), BindsTo s cB.fd ⟨[u], []⟩ [("asks", u)]) (bK : ∀ (s : Shared) (u : Value), BindsTo s cB.fd ⟨[], [("asks", u)]⟩ [("asks", u)])
    (cN : CAns P w K mg base) (cH : CWorth P w K mg base) (cV : CValue P w K mg base) (cP : CIsPrice P w K mg base) (cS : CSame P w K mg base) (dH : DHidden P w K mg base) (dP : DPeak P w K mg base) (dT : DTake P w K mg base) (dF : DFront P w K mg base)
    (TB : TabB base mg c' Pl) (hcode : cdv = .ref c') (hG : A.guards = some []) (hr : Room 11 (A.deeper (envOfC "law" (defScope sLaw) s.heap.objs.size f cdv))) (ne : Pe ≠ Pl)
    (j : lawJ d g c Pe Pl n H) (rc : rep K (lawM d g Pe Pl) H (.ref c) cs) (hn : n + 106 ≤ 1000000)
    (k : ∀ H' w3 w4 w5 w6 w7, lawJ d g c Pe Pl (n + 106) H' → rep K (lawM d g Pe Pl) H' (.ref c) cs → D.nx [some v0, some (.ref d), some vt, w3, w4, w5, w6, w7] H') :
    WB (xLaw P w K mg base f cdv A outer s H0 E) turnBody D [some v0, some (.ref d), some vt, w3, w4, w5, w6, w7] H := by
  have S := scLaw
  have hD : IsDraw (lawF d g c Pe Pl) d g c := lawF_is
  show WB _ [_, _, _, _, _, _] _ _ _
  refine wb_cons (ws2_unp2 (F := lawF d g c Pe Pl) (n := n) (n' := n + 1 + 68 + 1) (α := Scene) (β := Int) (P := fun z : Scene × Int => (∃ peak, Sm 38 peak ∧ ScIs peak z.1) ∧ 0 ≤ z.2 ∧ Sm 20 z.2) 3 4 (ev2_pair (Pa := fun z : Scene => ∃ peak, Sm 38 peak ∧ ScIs peak z) (Pb := fun z : Int => 0 ≤ z ∧ Sm 20 z) (n1 := n + 1 + 68) ?ha ?hb) j fun vsc vmore H1 z k1 j1 hz rsc rmore => ?_)
  case ha =>
    refine Ev2.imp (ev2_draw (τ := A1 Int) (β := Scene) (n1 := n + 1) (Pa := fun x => (1 ≤ x.h ∧ x.h ≤ 99999999999) ∧ True) 1 hD dH hr rc (by omega) (el2_cons (Pa := fun z : Int => 1 ≤ z ∧ z ≤ 99999999999) (n1 := n + 1) ?hp (fun _ _ _ => el2_nil)) (fun x hx => ⟨by omega, by unfold Sm; omega⟩)) fun z hz => ?_
    · exact Ev2.imp (ev2_draw (τ := Unit) (β := Int) 1 hD dP hr rc (by omega) el2_nil (fun _ _ => trivial)) fun z ⟨_, _, h⟩ => h
    · obtain ⟨x, hx, hz⟩ := hz
      exact ⟨x.h, by unfold Sm; omega, hz⟩
  case hb =>
    exact fun H' k' j' => Ev2.imp (ev2_take 1 hD dT hr (mono k' rc) (ev_int (i := 1000)) ⟨by decide, sm_small (by decide) (by decide)⟩ (by omega)) fun z hz => ⟨hz.1, by unfold Sm; omega⟩
  obtain ⟨⟨peak, hpk, hsc⟩, mo0, mo1⟩ := hz
  obtain ⟨sc, more⟩ := z
  simp only at hsc mo0 mo1 rsc rmore
  cases (show vmore = V.int more from rmore)
  have j1 : lawJ d g c Pe Pl (n + 70) H1 := j1
  have rc1 : rep K (lawM d g Pe Pl) H1 (.ref c) cs := mono k1 rc
  refine wb_cons (ws_new 5 fun la nla => ?_)
  have ex2 : Ex H1 (upd H1 la (.lst [])) := Ex.new nla
  have hla2 : upd H1 la (.lst []) la = some (.lst []) := upd_same
  obtain ⟨D1, t1, t2⟩ := j1
  have j1 : lawJ d g c Pe Pl (n + 70) H1 := ⟨D1, t1, t2⟩
  have nM : ¬ lawM d g Pe Pl la := fun z => law_live j1 z nla
  have rsc2 : rep K (fun b => b = la ∨ b = Pe ∨ b = Pl) (upd H1 la (.lst [])) vsc sc := mono (fun b o _ h => ex2 b o h) (shift (fun b hb => by
    rcases hb with hb | hb | hb
    · exact .inr (by rw [hb]; exact nla)
    · exact .inl (.inr (.inr (.inl hb)))
    · exact .inl (.inr (.inr (.inr hb)))) rsc)
  obtain ⟨so, sf⟩ := scene_ok hsc hpk
  obtain ⟨sall, sby⟩ := scene_ans (more := more) hsc hpk
  have t12 := t1.ext ex2
  have t22 := t2.ext ex2
  generalize upd H1 la (.lst []) = H2 at ex2 hla2 rsc2 t12 t22 ⊢
  refine wb_cons (ws_same cS hG hr (ask1 C cA cL cW cF cO cB bB cN TB hcode (hr.mono (by decide)) t22 t12 ne hla2 rsc2 so mo0 mo1 sall sby fun v H3 va ts k3 t13 t23 hla3 rts hva hlv hts rv => ?_))
  have k13 : ∀ b o, b ≠ Pe → b ≠ Pl → H1 b = some o → H3 b = some o := fun b o n1 n2 h => k3 b o (fun z => by rw [z, nla] at h; cases h) n1 n2 (ex2 b o h)
  have j3 := law_keep j1 k13 t13 t23
  have rsc3 : rep K (fun _ => False) H3 vsc sc := shift (fun _ h => h.elim) (mono (M := fun b => b = la ∨ b = Pe ∨ b = Pl) (fun b o nb h => k3 b o (fun z => nb (.inl z)) (fun z => nb (.inr (.inl z))) (fun z => nb (.inr (.inr z))) h) rsc2)
  have rc3 : rep K (lawM d g Pe Pl) H3 (.ref c) cs := mono (fun b o nb h => k13 b o (fun z => nb (.inr (.inr (.inl z)))) (fun z => nb (.inr (.inr (.inr z)))) h) rc1
  refine (ev_t4a (m := m0) (ev_var (x := sc) 3 rsc3) ev_int) H3 (Step.refl trivial) _ fun v2 H4 z4 s4 p4 r4 => ?_
  have e4 := m0_ex s4
  subst p4
  refine ⟨fun _ => False, v, v2, sc.a, rfl, fun _ h => h.elim, mono (fun b o _ h => e4 b o h) rv, r4, sf, fun H5 e5 => ⟨rfl, ?_⟩⟩
  have e35 : Ex H3 H5 := fun b o h => e5 b o (e4 b o h)
  have j5 : lawJ d g c Pe Pl (n + 70) H5 := (lawF d g c Pe Pl).ex _ e35 j3
  have rc5 : rep K (lawM d g Pe Pl) H5 (.ref c) cs := mono (fun b o _ h => e35 b o h) rc3
  have hla5 := e35 _ _ hla3
  have ra5 : rep K (lawM d g Pe Pl) H5 (.ref la) ts := ⟨la, va, rfl, ⟨nM, hla5⟩, Paired.mapP rts fun _ _ z => p2_shift (M := fun b => b = la ∨ b = Pe) (law_tup j5) (mono (fun b o _ h => e35 b o h) z)⟩
  have hlts : va.length = ts.length := reps_len rts
  have hts0 : ts ≠ [] := fun z => hva (List.length_eq_zero_iff.mp (by rw [hlts, z]; rfl))
  have lts : ts.length ≤ 1000000 := by omega
  clear rsc2 rts k3 k13
  -- what was asked
  refine wb_cons (ws_if (m := (lawF d g c Pe Pl).at (n + 70)) (k := false) ((et_or (et_eqD (α := List P2) hr (ev_var 5 ra5) (ev_lst0 (α := P2))) fun _ => et_neD (α := List P2) hr (ev_lcF 7 (fun t => !isPriceB t) (ev_var 5 ra5) lts (show BlkOk nLaw (defScope sLaw) _ [("_law_spot_here", 7)] from blkOk_by (by decide +kernel))
    (fun m' s0 H0 C' cl fp u o H' up' j' ho ru => et_not (et_val (e_isPrice cP hr (ev_var 7 ru) (okP_sm (hts o ho))))) fun m' s0 H0 C' cl fp u o H' j' ru => ev_var 7 ru) (ev_lst0 (α := P2))).to ?c1) j5 (fun H6 s6 hk => by cases hk) fun H6 s6 _ => wb_nil ?_)
  case c1 =>
    have e1 : decide (ts = []) = false := decide_eq_false hts0
    have e2 : ts.filter (fun t => !isPriceB t) = [] := List.filter_eq_nil_iff.mpr fun t ht => by rw [(okP_price (hts t ht)).1]; decide
    rw [e1, e2]
    rfl
  have rc6 := s6.rep rc5
  -- the other front
  refine wb_cons (ws2_set (F := lawF d g c Pe Pl) (n := n + 70) (n' := n + 70 + 36) (α := Fr) (P := fun z : Fr => dueOk 9 z) 6 ?due s6.j fun vdue H7 F k7 j7 hdue rdue => ?_)
  case due =>
    refine Ev2.imp (ev2_draw (τ := A1 Int) (β := Fr) (n1 := n + 70) (Pa := fun x => x = ⟨9, ()⟩) 1 hD dF hr rc6 (by omega) (el2_of (el1 (ev_int (i := 9)))) (fun x hx => by rw [hx]; exact ⟨by decide, by decide⟩)) fun z hz => ?_
    obtain ⟨x, hx, hz⟩ := hz
    rw [hx] at hz
    exact hz
  have j7 : lawJ d g c Pe Pl (n + 106) H7 := j7
  have rc7 : rep K (lawM d g Pe Pl) H7 (.ref c) cs := mono k7 rc6
  refine wb_one (ws_if (m := (lawF d g c Pe Pl).at (n + 106)) (et_all hr (ev_var 6 rdue)) j7 (fun H8 s8 hk => ?_) fun H8 s8 _ => wb_nil (k H8 _ _ _ _ _ s8.j (s8.rep rc7)))
  obtain ⟨cs8, e8⟩ : ∃ cs8, F = .over FIRST LAST cs8 := by
    cases F with
    | none => cases hk
    | endless => cases hk
    | «at» lo n => cases hk
    | over lo hi cs8 =>
      have e := of_decide_eq_true hk
      cases e
      exact ⟨cs8, rfl⟩
  subst e8
  have j8 : lawJ d g c Pe Pl (n + 106) H8 := s8.j
  obtain ⟨D8, t18, t28⟩ := j8
  have j8 : lawJ d g c Pe Pl (n + 106) H8 := ⟨D8, t18, t28⟩
  have rc8 := s8.rep rc7
  have rd8 : rep K (fun b => b = Pe ∨ b = Pl) H8 vdue (Fr.over FIRST LAST cs8) := shift (fun b hb => .inl (.inr (.inr hb))) (s8.rep rdue)
  obtain ⟨dfr, dof⟩ := due_ok hdue (by decide)
  obtain ⟨dall, dby⟩ := due_ans hdue (by decide)
  refine wb_one (ws_same cS hG hr (ask2 C cA cL cW cF cO cB bK cH cV TB hcode (hr.mono (by decide)) t28 t18 ne rd8 dfr dall dby fun v H9 k9 t19 t29 rv => ?_))
  have j9 := law_keep j8 k9 t19 t29
  have rd9 : rep K (fun _ => False) H9 vdue (Fr.over FIRST LAST cs8) := shift (fun _ h => h.elim) (mono (M := fun b => b = Pe ∨ b = Pl) (fun b o nb h => k9 b o (fun z => nb (.inl z)) (fun z => nb (.inr z)) h) rd8)
  have rc9 : rep K (lawM d g Pe Pl) H9 (.ref c) cs := mono (fun b o nb h => k9 b o (fun z => nb (.inr (.inr (.inl z)))) (fun z => nb (.inr (.inr (.inr z)))) h) rc8
  refine (ev_var (m := m0) (x := Fr.over FIRST LAST cs8) 6 rd9) H9 (Step.refl trivial) _ fun v2 H10 z10 s10 p10 r10 => ?_
  have e10 := m0_ex s10
  subst p10
  refine ⟨fun _ => False, v, v2, _, rfl, fun _ h => h.elim, mono (fun b o _ h => e10 b o h) rv, r10, dof, fun H11 e11 => ⟨rfl, ?_⟩⟩
  exact k H11 _ _ _ _ _ ((lawF d g c Pe Pl).ex _ (fun b o h => e11 b o (e10 b o h)) j9) (mono (fun b o _ h => e11 b o (e10 b o h)) rc9)
end
end HK
set_option Elab.async false
set_option linter.all false
set_option maxRecDepth 100000
set_option maxHeartbeats 4000000
/-! L7: law, the whole. -/
namespace HK
open PySem PySem.Spec PyProof.Rows L2 LamX
open Rep Arg
/-- from a script and empty tables: True -/
def spLaw (K : PySem.W.Frag) (Pe Pl : Addr) : Sp := fun vs H Q _ => ∃ (a : Addr) (ns : List Int), vs = [.ref a] ∧ ns.length ≤ 63 ∧ H Pe = some (.tbl #[]) ∧ H Pl = some (.tbl #[]) ∧ (∀ b o, H b = some o → (∃ us, o = .tbl us) ∨ ∃ q xs, o = .frz q (.lst xs)) ∧ SqL K H a (ns.map V.int) ∧ ∀ H', Q (.bl true) H'
theorem tabS_new {H : Hp} {P : Addr} {q : Str} (h : H P = some (.tbl #[])) : TabS H P q := ⟨#[], h, trivial, fun pos cv h => by cases h⟩
section
variable {P : Program} {w : World} {K : PySem.W.Frag} {mg : Str → Option Value} {base : Heap}
abbrev CBegun (P : Program) (w : World) (K : PySem.W.Frag) (mg : Str → Option Value) (base : Heap) := CalS P w K mg base 1 "_law_begun" 1 (spBegun K)
theorem ok_law {c' Pe Pl : Addr}
    (C : Consts K mg) (cA : CAlike P w K mg base) (cL : CLeads P w K mg base) (cW : CWeight P w K mg base) (cF : CFreeW P w K mg base) (cO : COver P w K mg base Pe) (cB : FnX K mg "by_asking" sByAsking ["asks"]) (bB : ∀ (s : Shared) (u : Value), BindsTo s cB.fd ⟨[u], []⟩ [("asks", u)]) (bK : ∀ (s : Shared) (u : Value), BindsTo s cB.fd ⟨[], [("asks", u)]⟩ [("asks", u)])
    (cN : CAns P w K mg base) (cH : CWorth P w K mg base) (cV : CValue P w K mg base) (cP : CIsPrice P w K mg base) (cS : CSame P w K mg base) (dH : DHidden P w K mg base) (dP : DPeak P w K mg base) (dT : DTake P w K mg base) (dF : DFront P w K mg base) (cG : CBegun P w K mg base)
    (TB : TabB base mg c' Pl) (ne : Pe ≠ Pl) (F : FnX K mg "law" sLaw ["_law_script"]) (hF : F.fd.code = .ref c') : FnOkG P w K mg base 12 F.f F.fd ["_law_script"] (spLaw K Pe Pl) := by
  have S := scLaw
  refine fn_okGC F S (fun vs H Q E ⟨a, ns, e, _⟩ => by rw [e]; rfl) fun cdv A outer s H vs Q E hcd hG hr ⟨a, ns, e, hl, hPe, hPl, hall, hsq, q⟩ => ?_
  subst e
  have hcode : cdv = .ref c' := by rw [← hcd, hF]
  have rs : ∀ M : Addr → Prop, (∀ b, M b → ∀ o, H b = some o → ∃ ws, o = .lst ws) → rep K M H (V.ref a) (Sq.mk ns) := fun M hM => by
    refine ⟨a, ns.map V.int, rfl, ?_, ints_reps⟩
    rcases hsq with h | h
    · have hs : ∃ o, H a = some o := by
        rcases h with h | ⟨o, h⟩
        · exact ⟨_, h⟩
        · exact ⟨_, h⟩
      obtain ⟨o, ho⟩ := hs
      refine .inl ⟨fun z => ?_, h⟩
      obtain ⟨ws, hw⟩ := hM a z o ho
      rcases hall a _ ho with ⟨us, e⟩ | ⟨q, xs, e⟩ <;> (rw [e] at hw; cases hw)
    · exact .inr (.inr h)
  obtain ⟨fb, fdb, psb, ob, hmb, hkb, hbb⟩ := cG.ex
  refine wb_cons (ws_of (ps_set (i := 1) S.nd rfl (.inl rfl) (pe_call ob (hr.mono (by decide)) rfl hmb hkb hbb .nil pass0 pa_w (by decide) rfl rfl) rfl) ((el1 (m := m0) (ev_var (x := V.ref a) 0 rfl)) H (Step.refl trivial) _ fun vs H1 s1 rs1 => ?_))
  obtain ⟨v, rfl, rv⟩ := rp1 rs1
  cases (show v = V.ref a from rv)
  have e1 := m0_ex s1
  show spBegun K ([V.ref a] ++ []) H1 _ E0
  rw [List.append_nil]
  refine ⟨V.ref a, ns, rfl, ?_, by omega, fun d g c gs cs H2 e2 ngc hd hg hc => ?_⟩
  · exact mono (fun b o _ h => e1 b o h) (rs _ fun b hb o ho => by
      obtain ⟨ws, hb⟩ := hb
      exact ⟨ws, Option.some.inj ((e1 b o ho).symm.trans hb)⟩)
  have e12 : Ex H H2 := fun b o h => e2 b o (e1 b o h)
  have hPe2 := e12 _ _ hPe
  have hPl2 := e12 _ _ hPl
  have j0 : lawJ d g c Pe Pl 0 H2 := ⟨⟨0, 0, gs, hd, hg, Int.le_refl _, Int.le_refl _⟩, tabS_new hPe2, tabS_new hPl2⟩
  have nc : ¬ lawM d g Pe Pl c := fun z => by
    rcases z with z | z | z | z
    · rw [z, hd] at hc; cases hc
    · exact ngc z.symm
    · rw [z, hPe2] at hc; cases hc
    · rw [z, hPl2] at hc; cases hc
  have rc : rep K (lawM d g Pe Pl) H2 (.ref c) cs := ⟨c, cs.map V.int, rfl, ⟨nc, hc⟩, ints_reps⟩
  have rs2 : rep K (fun _ => False) H2 (V.ref a) (Sq.mk ns) := mono (fun b o _ h => e12 b o h) (rs _ fun _ h => h.elim)
  show WB _ [_, _] _ [some (V.ref a), some (V.ref d), none, none, none, none, none, none] H2
  refine wb_cons (ws_forR (m := m0) 2 (n := 4 + (if 18 < ns.length then 18 else ns.length)) ((ev_add (ev_int (i := 4)) (ev_min2 (C.none _ (by decide)) (ev_lenZ (C.none _ (by decide)) (ev_var (x := Sq.mk ns) 0 rs2)) (ev_int (i := 18)))).to ?len) ?hn trivial
    (fun k σ' H' => ∃ w2 w3 w4 w5 w6 w7, σ' = [some (V.ref a), some (V.ref d), w2, w3, w4, w5, w6, w7] ∧ lawJ d g c Pe Pl (106 * k) H' ∧ rep K (lawM d g Pe Pl) H' (.ref c) cs) ?h0 ?turn ?hend (C.none _ (by decide)))
  case len =>
    show (4 : Int) + (if (18 : Int) < (ns.length : Int) then 18 else (ns.length : Int)) = ((4 + (if 18 < ns.length then 18 else ns.length) : Nat) : Int)
    split <;> split <;> omega
  case hn => split <;> omega
  case h0 => exact fun H3 s3 => ⟨_, _, _, _, _, _, rfl, (lawF d g c Pe Pl).ex _ (m0_ex s3) j0, mono (fun b o _ h => m0_ex s3 b o h) rc⟩
  case turn =>
    rintro k σ' H3 hk ⟨w2, w3, w4, w5, w6, w7, rfl, j3, rc3⟩
    have hk22 : k < 22 := by
      have : (if 18 < ns.length then 18 else ns.length) ≤ 18 := by split <;> omega
      omega
    exact turn_walk C cA cL cW cF cO cB bB bK cN cH cV cP cS dH dP dT dF TB hcode hG hr ne j3 rc3 (by omega) fun H4 w3' w4' w5' w6' w7' j4 rc4 => ⟨_, _, _, _, _, _, rfl, j4, rc4⟩
  case hend =>
    rintro σ' H3 ⟨w2, w3, w4, w5, w6, w7, rfl, j3, rc3⟩
    refine wb_one (ws_ret (m := m0) ev_bl trivial fun v H4 z s4 pz rz => ?_)
    subst pz
    cases (show v = V.bl true from rz)
    exact q H4
end
end HK
set_option Elab.async false
set_option linter.all false
set_option maxRecDepth 100000
set_option maxHeartbeats 4000000
/-! L8: the defs' promises, joined; what the head is to tell. -/
namespace HK
open PySem PySem.Spec PyProof.Rows L2 LamX
open Rep Arg
section
variable {K : PySem.W.Frag} {mg : Str → Option Value} {h : Heap}
/-- a def as the head tells of it -/
theorem fnx_use {goal : Prop} {nm : Str} {st : Stmt} {ps : List Str} {f : Addr} {oc : Value} {od an : Option Addr} {osl : Array (Option Value)} {kV doc pm cdv ct : Value} (X : K.In h) (G : h.Ns mainGlobals mg) (a : PySem.W.nsIn K mainGlobals nm = some (some (.ref f)))
    (l : K.lookup f = some ⟨oc, od, .func (PySem.W.fnOf nm nm (defArgs st) (defBody st) (defScope st) .none kV doc pm an cdv ct), osl⟩) (c : PySem.W.codeIn K cdv nm = true) (k : PySem.W.keepIn K (.ref f) = true)
    (hb : ∀ (kV doc pm : Value) (an : Option Addr) (cdv ct : Value) (us : List Value), us.length = ps.length → bindArgs (PySem.W.fnOf nm nm (defArgs st) (defBody st) (defScope st) .none kV doc pm an cdv ct) ⟨us, []⟩ = pure (ps.zip us))
    (m : ∀ F : FnX K mg nm st ps, F.f = f → F.fd = PySem.W.fnOf nm nm (defArgs st) (defBody st) (defScope st) .none kV doc pm an cdv ct → F.fd.code = cdv → goal) : goal :=
  m ⟨f, _, fun_mk l c k, PySem.W.mg_of X G a, (fun_mk l c k).binds hb⟩ rfl rfl rfl
/-- a tuple as the head tells of it -/
theorem tup_use {goal : Prop} {nm : Str} {a : Addr} {od : Option Addr} {its : Array Value} {n : Nat} {osl : Array (Option Value)} {vs : List V} (X : K.In h) (G : h.Ns mainGlobals mg) (e : PySem.W.nsIn K mainGlobals nm = some (some (.ref a))) (l : K.lookup a = some ⟨.type "tuple", od, .seq its n, osl⟩) (hs : its.size ≤ sizeLine) (hv : Vals vs its.toList)
    (m : (mg nm = some (.ref a) ∧ SqT K (fun _ => none) a vs) → goal) : goal := m ⟨PySem.W.mg_of X G e, .inr ⟨_, its, n, l, rfl, rfl, hs, hv⟩⟩
theorem consts_of {a1 a2 a3 : Addr} (h1 : mg "FIRST" = some (.ref a1) ∧ SqT K (fun _ => none) a1 [.int 1, .int 0]) (h2 : mg "LAST" = some (.ref a2) ∧ SqT K (fun _ => none) a2 [.int 0, .int 1]) (h3 : mg "ENDLESS" = some (.ref a3) ∧ SqT K (fun _ => none) a3 [.str sEndless]) (h4 : mg "gcd" = some (.builtin "math.gcd"))
    (h5 : ∀ n ∈ (["abs", "max", "min", "len", "range", "sorted", "tuple", "int", "isinstance", "bool", "repr"] : List Str), mg n = none) : Consts K mg :=
  ⟨⟨.ref a1, _, h1.1, rfl, fun M H => ⟨a1, _, _, rfl, .inr h1.2, rfl, rfl⟩⟩, ⟨.ref a2, _, h2.1, rfl, fun M H => ⟨a2, _, _, rfl, .inr h2.2, rfl, rfl⟩⟩, ⟨.ref a3, _, h3.1, rfl, fun M H => ⟨a3, rfl, .inr h3.2⟩⟩, h4, h5⟩
theorem law_at {l : PySem.W.OpenLaw} {w : World} {fa cE cL Pe Pl : Addr} (X : K.In h) (C : Consts K mg)
    (f_least_terms : FnX K mg "least_terms" sLeastTerms ["p", "q"]) (f_leads : FnX K mg "leads" sLeads ["one", "other"]) (f_weight : FnX K mg "weight" sWeight ["pair", "price"]) (f_alike_at : FnX K mg "alike_at" sAlikeAt ["one", "other"]) (f_is_bent : FnX K mg "is_bent" sIsBent ["one", "middle", "other", "low", "high"]) (f_envelope : FnX K mg "envelope" sEnvelope ["low", "high", "pairs"]) (f_over : FnX K mg "over" sOverD ["low", "high", "pairs"]) (f_common : FnX K mg "common" sCommon ["one", "other"]) (f_free_stretch : FnX K mg "free_stretch" sFreeStretch ["pair"]) (f_free_within : FnX K mg "free_within" sFreeWithin ["stretch", "pairs"]) (f_by_asking : FnX K mg "by_asking" sByAsking ["asks"]) (f__law_begun : FnX K mg "_law_begun" sBegun ["_law_script"]) (f__law_mixed : FnX K mg "_law_mixed" sMixed ["_law_draw"]) (f__law_take : FnX K mg "_law_take" sTake ["_law_draw", "_law_many"]) (f__law_pick : FnX K mg "_law_pick" sPick ["_law_draw", "_law_some"]) (f__law_is_number : FnX K mg "_law_is_number" sIsNumber ["_law_item"]) (f__law_gcd : FnX K mg "_law_gcd" sGcd ["_law_one", "_law_two"]) (f__law_terms : FnX K mg "_law_terms" sTerms ["_law_one", "_law_two"]) (f__law_leads : FnX K mg "_law_leads" sLLeads ["_law_one", "_law_two"]) (f__law_is_pair : FnX K mg "_law_is_pair" sIsPair ["_law_item"]) (f__law_is_price : FnX K mg "_law_is_price" sIsPrice ["_law_item"]) (f__law_worth : FnX K mg "_law_worth" sWorth ["_law_pair_here", "_law_spot_here"]) (f__law_spot : FnX K mg "_law_spot" sSpot ["_law_draw"]) (f__law_two_spots : FnX K mg "_law_two_spots" sTwoSpots ["_law_draw"]) (f__law_pair : FnX K mg "_law_pair" sPair ["_law_draw", "_law_peak_here"]) (f__law_pairs : FnX K mg "_law_pairs" sPairs ["_law_draw", "_law_many", "_law_peak_here"]) (f__law_alone : FnX K mg "_law_alone" sAlone ["_law_pair_here", "_law_others", "_law_low", "_law_high"]) (f__law_corners : FnX K mg "_law_corners" sCorners ["_law_pairs_here", "_law_low", "_law_high"]) (f__law_over : FnX K mg "_law_over" sLOver ["_law_pairs_here", "_law_low", "_law_high"]) (f__law_value : FnX K mg "_law_value" sValue ["_law_front_here", "_law_spot_here"]) (f__law_front : FnX K mg "_law_front" sFront ["_law_draw", "_law_peak_here"]) (f__law_peak : FnX K mg "_law_peak" sPeak ["_law_draw"]) (f__law_same : FnX K mg "_law_same" sSame ["_law_found", "_law_due"]) (f__law_hidden : FnX K mg "_law_hidden" sHidden ["_law_draw", "_law_peak_here"]) (f__law_gain : FnX K mg "_law_gain" sGain ["_law_marks", "_law_spot_here", "_law_way"]) (f__law_answer : FnX K mg "_law_answer" sAnswer ["_law_scene", "_law_more", "_law_asked", "_law_spot_here"]) (f_law : FnX K mg "law" sLaw ["_law_script"])
    (aL : f_law.f = fa) (eE : f_envelope.fd.code = .ref cE) (eL : f_law.fd.code = .ref cL) (bB : ∀ (s : Shared) (u : Value), BindsTo s f_by_asking.fd ⟨[u], []⟩ [("asks", u)]) (bK : ∀ (s : Shared) (u : Value), BindsTo s f_by_asking.fd ⟨[], [("asks", u)]⟩ [("asks", u)]) (bL : ∀ (s : Shared) (u : Value), BindsTo s f_law.fd ⟨[u], []⟩ [("_law_script", u)])
    (tE : h.get? Pe = some { cls := .none, data := .fields #[] }) (tL : h.get? Pl = some { cls := .none, data := .fields #[] }) (nE : K.lookup Pe = none) (nL : K.lookup Pl = none) (CE : PySem.W.CodeHd h cE Pe) (CL : PySem.W.CodeHd h cL Pl) (ne : Pe ≠ Pl) : LawAtG l w K 12 63 "_law_script" mg fa h := by
  have two : ∀ {Q : Addr × Addr → Prop}, Q (cE, Pe) → Q (cL, Pl) → ∀ p ∈ [(cE, Pe), (cL, Pl)], Q p := fun {Q} q1 q2 p hp => by
    rcases List.mem_cons.mp hp with e | hp
    · rw [e]; exact q1
    · rw [show p = (cL, Pl) by simpa using hp]; exact q2
  refine ⟨f_law.fd, [(cE, Pe), (cL, Pl)], spLaw K Pe Pl, two tE tL, two nE nL, two CE CL, bL, fun H a ns hl _ hT hO hS => ⟨a, ns, rfl, hl, hT _ List.mem_cons_self, hT _ (List.mem_cons_of_mem _ List.mem_cons_self), hO, hS, fun _ => rfl⟩, fun base _ _ hTB => ?_⟩
  rw [← aL]
  have TE := hTB _ List.mem_cons_self
  have TL := hTB _ (List.mem_cons_of_mem _ List.mem_cons_self)
  have c_leads := ok_leads (P := l.prog) (w := w) (base := base) f_leads
  have c_weight := ok_weight (P := l.prog) (w := w) (base := base) f_weight
  have c_least := ok_least (P := l.prog) (w := w) (base := base) C f_least_terms
  have c_alike := ok_alike C c_least f_alike_at
  have c_bent := ok_bent c_weight f_is_bent
  have c_common := ok_common c_leads f_common
  have c_freeS := ok_freeS C c_least f_free_stretch
  have c_freeW := ok_freeW c_freeS c_common f_free_within
  have c_env := ok_envelope C TE c_weight c_bent f_envelope eE
  have c_over := ok_over C c_weight c_env f_over
  have c_num := ok_isNumber (P := l.prog) (w := w) (base := base) C f__law_is_number
  have c_gcd := ok_gcd (P := l.prog) (w := w) (base := base) C f__law_gcd
  have c_terms := ok_terms c_gcd f__law_terms
  have c_ll := ok_lleads (P := l.prog) (w := w) (base := base) f__law_leads
  have c_worth := ok_worth (P := l.prog) (w := w) (base := base) f__law_worth
  have c_pair := ok_isPair C c_num f__law_is_pair
  have c_price := ok_isPrice c_pair c_gcd f__law_is_price
  have c_alone := ok_alone c_terms c_ll f__law_alone
  have c_corners := ok_corners C c_alone c_ll f__law_corners
  have c_lover := ok_lover C c_worth c_corners f__law_over
  have c_value := ok_value C c_worth c_ll f__law_value
  have c_gain := ok_gain c_ll f__law_gain
  have c_ans : CAns l.prog w K mg base := ⟨f__law_answer.f, f__law_answer.fd, _, ok_answer C c_price c_value c_gain c_worth c_gcd f__law_answer, f__law_answer.g, f__law_answer.F.kp, f__law_answer.b⟩
  have c_mixed : DMixed l.prog w K mg base := .of f__law_mixed (ok_mixed C f__law_mixed)
  have c_take := ok_take C c_mixed f__law_take
  have c_pickI : DPick l.prog w K mg base Int := ok_pick C c_take f__law_pick
  have c_pickP : DPick l.prog w K mg base P2 := ok_pick C c_take f__law_pick
  have c_peak := ok_peak c_pickI f__law_peak
  have c_spot := ok_spot C c_take c_terms f__law_spot
  have c_two := ok_twoSpots c_spot c_ll f__law_two_spots
  have c_dpair := ok_pair c_take f__law_pair
  have c_pairs := ok_pairs C c_take c_dpair c_pickP f__law_pairs
  have c_front := ok_front c_take c_two c_pairs c_lover f__law_front
  have c_hidden := ok_hidden C c_take c_two c_pairs c_lover c_spot c_ll f__law_hidden
  have c_begun : CBegun l.prog w K mg base := ⟨f__law_begun.f, f__law_begun.fd, _, ok_begun C f__law_begun, f__law_begun.g, f__law_begun.F.kp, f__law_begun.b⟩
  have c_same : CSame l.prog w K mg base := ⟨f__law_same.f, f__law_same.fd, _, ok_same C f__law_same, f__law_same.g, f__law_same.F.kp, f__law_same.b⟩
  exact ok_law C c_alike c_leads c_weight c_freeW c_over f_by_asking bB bK c_ans c_worth c_value c_price c_same c_hidden c_peak c_take c_front c_begun TL ne f_law eL
end
end HK
set_option Elab.async false
set_option linter.all false
set_option maxRecDepth 100000
open PySem PySem.W PyProof.Rows
set_option maxHeartbeats 0 in
theorem PySem.Challenge.cw_hitclocks_k24_whole_fronts_by_asking_holds : PySem.Challenge.rw_hitclocks_k24_whole_fronts_by_asking.Holds := by
  w_on; o_law; k_head; (case hw => w_witness2)
  k_fill
  refine HK.walk_ofG (l := PySem.Challenge.rw_hitclocks_k24_whole_fronts_by_asking) (n := 63) (k := 12) (x := "_law_script") rfl (by decide) rfl ⟨rfl, by decide, by decide⟩ (fun w h Y => PySem.W.km_in_of Y) ?F
  case F =>
    intro w mg fa h Y KX G hmg
    have hT8 := PySem.W.km_tabs_of Y
    refine' HK.fnx_use (nm := "least_terms") (st := HK.sLeastTerms) (ps := ["p", "q"]) KX G ?a1 ?l1 ?c1 ?k1 (fun _ _ _ _ _ _ us hl => match us, hl with | [_, _], _ => rfl) ?m1
    (case a1 => k_is); (case l1 => k_is); (case c1 => k_is); (case k1 => k_is)
    intro f_least_terms a_least_terms e_least_terms c_least_terms
    refine' HK.fnx_use (nm := "leads") (st := HK.sLeads) (ps := ["one", "other"]) KX G ?a2 ?l2 ?c2 ?k2 (fun _ _ _ _ _ _ us hl => match us, hl with | [_, _], _ => rfl) ?m2
    (case a2 => k_is); (case l2 => k_is); (case c2 => k_is); (case k2 => k_is)
    intro f_leads a_leads e_leads c_leads
    refine' HK.fnx_use (nm := "weight") (st := HK.sWeight) (ps := ["pair", "price"]) KX G ?a3 ?l3 ?c3 ?k3 (fun _ _ _ _ _ _ us hl => match us, hl with | [_, _], _ => rfl) ?m3
    (case a3 => k_is); (case l3 => k_is); (case c3 => k_is); (case k3 => k_is)
    intro f_weight a_weight e_weight c_weight
    refine' HK.fnx_use (nm := "alike_at") (st := HK.sAlikeAt) (ps := ["one", "other"]) KX G ?a4 ?l4 ?c4 ?k4 (fun _ _ _ _ _ _ us hl => match us, hl with | [_, _], _ => rfl) ?m4
    (case a4 => k_is); (case l4 => k_is); (case c4 => k_is); (case k4 => k_is)
    intro f_alike_at a_alike_at e_alike_at c_alike_at
    refine' HK.fnx_use (nm := "is_bent") (st := HK.sIsBent) (ps := ["one", "middle", "other", "low", "high"]) KX G ?a5 ?l5 ?c5 ?k5 (fun _ _ _ _ _ _ us hl => match us, hl with | [_, _, _, _, _], _ => rfl) ?m5
    (case a5 => k_is); (case l5 => k_is); (case c5 => k_is); (case k5 => k_is)
    intro f_is_bent a_is_bent e_is_bent c_is_bent
    refine' HK.fnx_use (nm := "envelope") (st := HK.sEnvelope) (ps := ["low", "high", "pairs"]) KX G ?a6 ?l6 ?c6 ?k6 (fun _ _ _ _ _ _ us hl => match us, hl with | [_, _, _], _ => rfl) ?m6
    (case a6 => k_is); (case l6 => k_is); (case c6 => k_is); (case k6 => k_is)
    intro f_envelope a_envelope e_envelope c_envelope
    refine' HK.fnx_use (nm := "over") (st := HK.sOverD) (ps := ["low", "high", "pairs"]) KX G ?a7 ?l7 ?c7 ?k7 (fun _ _ _ _ _ _ us hl => match us, hl with | [_, _, _], _ => rfl) ?m7
    (case a7 => k_is); (case l7 => k_is); (case c7 => k_is); (case k7 => k_is)
    intro f_over a_over e_over c_over
    refine' HK.fnx_use (nm := "common") (st := HK.sCommon) (ps := ["one", "other"]) KX G ?a8 ?l8 ?c8 ?k8 (fun _ _ _ _ _ _ us hl => match us, hl with | [_, _], _ => rfl) ?m8
    (case a8 => k_is); (case l8 => k_is); (case c8 => k_is); (case k8 => k_is)
    intro f_common a_common e_common c_common
    refine' HK.fnx_use (nm := "free_stretch") (st := HK.sFreeStretch) (ps := ["pair"]) KX G ?a9 ?l9 ?c9 ?k9 (fun _ _ _ _ _ _ us hl => match us, hl with | [_], _ => rfl) ?m9
    (case a9 => k_is); (case l9 => k_is); (case c9 => k_is); (case k9 => k_is)
    intro f_free_stretch a_free_stretch e_free_stretch c_free_stretch
    refine' HK.fnx_use (nm := "free_within") (st := HK.sFreeWithin) (ps := ["stretch", "pairs"]) KX G ?a10 ?l10 ?c10 ?k10 (fun _ _ _ _ _ _ us hl => match us, hl with | [_, _], _ => rfl) ?m10
    (case a10 => k_is); (case l10 => k_is); (case c10 => k_is); (case k10 => k_is)
    intro f_free_within a_free_within e_free_within c_free_within
    refine' HK.fnx_use (nm := "by_asking") (st := HK.sByAsking) (ps := ["asks"]) KX G ?a11 ?l11 ?c11 ?k11 (fun _ _ _ _ _ _ us hl => match us, hl with | [_], _ => rfl) ?m11
    (case a11 => k_is); (case l11 => k_is); (case c11 => k_is); (case k11 => k_is)
    intro f_by_asking a_by_asking e_by_asking c_by_asking
    refine' HK.fnx_use (nm := "_law_begun") (st := HK.sBegun) (ps := ["_law_script"]) KX G ?a12 ?l12 ?c12 ?k12 (fun _ _ _ _ _ _ us hl => match us, hl with | [_], _ => rfl) ?m12
    (case a12 => k_is); (case l12 => k_is); (case c12 => k_is); (case k12 => k_is)
    intro f__law_begun a__law_begun e__law_begun c__law_begun
    refine' HK.fnx_use (nm := "_law_mixed") (st := HK.sMixed) (ps := ["_law_draw"]) KX G ?a13 ?l13 ?c13 ?k13 (fun _ _ _ _ _ _ us hl => match us, hl with | [_], _ => rfl) ?m13
    (case a13 => k_is); (case l13 => k_is); (case c13 => k_is); (case k13 => k_is)
    intro f__law_mixed a__law_mixed e__law_mixed c__law_mixed
    refine' HK.fnx_use (nm := "_law_take") (st := HK.sTake) (ps := ["_law_draw", "_law_many"]) KX G ?a14 ?l14 ?c14 ?k14 (fun _ _ _ _ _ _ us hl => match us, hl with | [_, _], _ => rfl) ?m14
    (case a14 => k_is); (case l14 => k_is); (case c14 => k_is); (case k14 => k_is)
    intro f__law_take a__law_take e__law_take c__law_take
    refine' HK.fnx_use (nm := "_law_pick") (st := HK.sPick) (ps := ["_law_draw", "_law_some"]) KX G ?a15 ?l15 ?c15 ?k15 (fun _ _ _ _ _ _ us hl => match us, hl with | [_, _], _ => rfl) ?m15
    (case a15 => k_is); (case l15 => k_is); (case c15 => k_is); (case k15 => k_is)
    intro f__law_pick a__law_pick e__law_pick c__law_pick
    refine' HK.fnx_use (nm := "_law_is_number") (st := HK.sIsNumber) (ps := ["_law_item"]) KX G ?a16 ?l16 ?c16 ?k16 (fun _ _ _ _ _ _ us hl => match us, hl with | [_], _ => rfl) ?m16
    (case a16 => k_is); (case l16 => k_is); (case c16 => k_is); (case k16 => k_is)
    intro f__law_is_number a__law_is_number e__law_is_number c__law_is_number
    refine' HK.fnx_use (nm := "_law_gcd") (st := HK.sGcd) (ps := ["_law_one", "_law_two"]) KX G ?a17 ?l17 ?c17 ?k17 (fun _ _ _ _ _ _ us hl => match us, hl with | [_, _], _ => rfl) ?m17
    (case a17 => k_is); (case l17 => k_is); (case c17 => k_is); (case k17 => k_is)
    intro f__law_gcd a__law_gcd e__law_gcd c__law_gcd
    refine' HK.fnx_use (nm := "_law_terms") (st := HK.sTerms) (ps := ["_law_one", "_law_two"]) KX G ?a18 ?l18 ?c18 ?k18 (fun _ _ _ _ _ _ us hl => match us, hl with | [_, _], _ => rfl) ?m18
    (case a18 => k_is); (case l18 => k_is); (case c18 => k_is); (case k18 => k_is)
    intro f__law_terms a__law_terms e__law_terms c__law_terms
    refine' HK.fnx_use (nm := "_law_leads") (st := HK.sLLeads) (ps := ["_law_one", "_law_two"]) KX G ?a19 ?l19 ?c19 ?k19 (fun _ _ _ _ _ _ us hl => match us, hl with | [_, _], _ => rfl) ?m19
    (case a19 => k_is); (case l19 => k_is); (case c19 => k_is); (case k19 => k_is)
    intro f__law_leads a__law_leads e__law_leads c__law_leads
    refine' HK.fnx_use (nm := "_law_is_pair") (st := HK.sIsPair) (ps := ["_law_item"]) KX G ?a20 ?l20 ?c20 ?k20 (fun _ _ _ _ _ _ us hl => match us, hl with | [_], _ => rfl) ?m20
    (case a20 => k_is); (case l20 => k_is); (case c20 => k_is); (case k20 => k_is)
    intro f__law_is_pair a__law_is_pair e__law_is_pair c__law_is_pair
    refine' HK.fnx_use (nm := "_law_is_price") (st := HK.sIsPrice) (ps := ["_law_item"]) KX G ?a21 ?l21 ?c21 ?k21 (fun _ _ _ _ _ _ us hl => match us, hl with | [_], _ => rfl) ?m21
    (case a21 => k_is); (case l21 => k_is); (case c21 => k_is); (case k21 => k_is)
    intro f__law_is_price a__law_is_price e__law_is_price c__law_is_price
    refine' HK.fnx_use (nm := "_law_worth") (st := HK.sWorth) (ps := ["_law_pair_here", "_law_spot_here"]) KX G ?a22 ?l22 ?c22 ?k22 (fun _ _ _ _ _ _ us hl => match us, hl with | [_, _], _ => rfl) ?m22
    (case a22 => k_is); (case l22 => k_is); (case c22 => k_is); (case k22 => k_is)
    intro f__law_worth a__law_worth e__law_worth c__law_worth
    refine' HK.fnx_use (nm := "_law_spot") (st := HK.sSpot) (ps := ["_law_draw"]) KX G ?a23 ?l23 ?c23 ?k23 (fun _ _ _ _ _ _ us hl => match us, hl with | [_], _ => rfl) ?m23
    (case a23 => k_is); (case l23 => k_is); (case c23 => k_is); (case k23 => k_is)
    intro f__law_spot a__law_spot e__law_spot c__law_spot
    refine' HK.fnx_use (nm := "_law_two_spots") (st := HK.sTwoSpots) (ps := ["_law_draw"]) KX G ?a24 ?l24 ?c24 ?k24 (fun _ _ _ _ _ _ us hl => match us, hl with | [_], _ => rfl) ?m24
    (case a24 => k_is); (case l24 => k_is); (case c24 => k_is); (case k24 => k_is)
    intro f__law_two_spots a__law_two_spots e__law_two_spots c__law_two_spots
    refine' HK.fnx_use (nm := "_law_pair") (st := HK.sPair) (ps := ["_law_draw", "_law_peak_here"]) KX G ?a25 ?l25 ?c25 ?k25 (fun _ _ _ _ _ _ us hl => match us, hl with | [_, _], _ => rfl) ?m25
    (case a25 => k_is); (case l25 => k_is); (case c25 => k_is); (case k25 => k_is)
    intro f__law_pair a__law_pair e__law_pair c__law_pair
    refine' HK.fnx_use (nm := "_law_pairs") (st := HK.sPairs) (ps := ["_law_draw", "_law_many", "_law_peak_here"]) KX G ?a26 ?l26 ?c26 ?k26 (fun _ _ _ _ _ _ us hl => match us, hl with | [_, _, _], _ => rfl) ?m26
    (case a26 => k_is); (case l26 => k_is); (case c26 => k_is); (case k26 => k_is)
    intro f__law_pairs a__law_pairs e__law_pairs c__law_pairs
    refine' HK.fnx_use (nm := "_law_alone") (st := HK.sAlone) (ps := ["_law_pair_here", "_law_others", "_law_low", "_law_high"]) KX G ?a27 ?l27 ?c27 ?k27 (fun _ _ _ _ _ _ us hl => match us, hl with | [_, _, _, _], _ => rfl) ?m27
    (case a27 => k_is); (case l27 => k_is); (case c27 => k_is); (case k27 => k_is)
    intro f__law_alone a__law_alone e__law_alone c__law_alone
    refine' HK.fnx_use (nm := "_law_corners") (st := HK.sCorners) (ps := ["_law_pairs_here", "_law_low", "_law_high"]) KX G ?a28 ?l28 ?c28 ?k28 (fun _ _ _ _ _ _ us hl => match us, hl with | [_, _, _], _ => rfl) ?m28
    (case a28 => k_is); (case l28 => k_is); (case c28 => k_is); (case k28 => k_is)
    intro f__law_corners a__law_corners e__law_corners c__law_corners
    refine' HK.fnx_use (nm := "_law_over") (st := HK.sLOver) (ps := ["_law_pairs_here", "_law_low", "_law_high"]) KX G ?a29 ?l29 ?c29 ?k29 (fun _ _ _ _ _ _ us hl => match us, hl with | [_, _, _], _ => rfl) ?m29
    (case a29 => k_is); (case l29 => k_is); (case c29 => k_is); (case k29 => k_is)
    intro f__law_over a__law_over e__law_over c__law_over
    refine' HK.fnx_use (nm := "_law_value") (st := HK.sValue) (ps := ["_law_front_here", "_law_spot_here"]) KX G ?a30 ?l30 ?c30 ?k30 (fun _ _ _ _ _ _ us hl => match us, hl with | [_, _], _ => rfl) ?m30
    (case a30 => k_is); (case l30 => k_is); (case c30 => k_is); (case k30 => k_is)
    intro f__law_value a__law_value e__law_value c__law_value
    refine' HK.fnx_use (nm := "_law_front") (st := HK.sFront) (ps := ["_law_draw", "_law_peak_here"]) KX G ?a31 ?l31 ?c31 ?k31 (fun _ _ _ _ _ _ us hl => match us, hl with | [_, _], _ => rfl) ?m31
    (case a31 => k_is); (case l31 => k_is); (case c31 => k_is); (case k31 => k_is)
    intro f__law_front a__law_front e__law_front c__law_front
    refine' HK.fnx_use (nm := "_law_peak") (st := HK.sPeak) (ps := ["_law_draw"]) KX G ?a32 ?l32 ?c32 ?k32 (fun _ _ _ _ _ _ us hl => match us, hl with | [_], _ => rfl) ?m32
    (case a32 => k_is); (case l32 => k_is); (case c32 => k_is); (case k32 => k_is)
    intro f__law_peak a__law_peak e__law_peak c__law_peak
    refine' HK.fnx_use (nm := "_law_same") (st := HK.sSame) (ps := ["_law_found", "_law_due"]) KX G ?a33 ?l33 ?c33 ?k33 (fun _ _ _ _ _ _ us hl => match us, hl with | [_, _], _ => rfl) ?m33
    (case a33 => k_is); (case l33 => k_is); (case c33 => k_is); (case k33 => k_is)
    intro f__law_same a__law_same e__law_same c__law_same
    refine' HK.fnx_use (nm := "_law_hidden") (st := HK.sHidden) (ps := ["_law_draw", "_law_peak_here"]) KX G ?a34 ?l34 ?c34 ?k34 (fun _ _ _ _ _ _ us hl => match us, hl with | [_, _], _ => rfl) ?m34
    (case a34 => k_is); (case l34 => k_is); (case c34 => k_is); (case k34 => k_is)
    intro f__law_hidden a__law_hidden e__law_hidden c__law_hidden
    refine' HK.fnx_use (nm := "_law_gain") (st := HK.sGain) (ps := ["_law_marks", "_law_spot_here", "_law_way"]) KX G ?a35 ?l35 ?c35 ?k35 (fun _ _ _ _ _ _ us hl => match us, hl with | [_, _, _], _ => rfl) ?m35
    (case a35 => k_is); (case l35 => k_is); (case c35 => k_is); (case k35 => k_is)
    intro f__law_gain a__law_gain e__law_gain c__law_gain
    refine' HK.fnx_use (nm := "_law_answer") (st := HK.sAnswer) (ps := ["_law_scene", "_law_more", "_law_asked", "_law_spot_here"]) KX G ?a36 ?l36 ?c36 ?k36 (fun _ _ _ _ _ _ us hl => match us, hl with | [_, _, _, _], _ => rfl) ?m36
    (case a36 => k_is); (case l36 => k_is); (case c36 => k_is); (case k36 => k_is)
    intro f__law_answer a__law_answer e__law_answer c__law_answer
    refine' HK.fnx_use (nm := "law") (st := HK.sLaw) (ps := ["_law_script"]) KX G ?a37 ?l37 ?c37 ?k37 (fun _ _ _ _ _ _ us hl => match us, hl with | [_], _ => rfl) ?m37
    (case a37 => k_is); (case l37 => k_is); (case c37 => k_is); (case k37 => k_is)
    intro f_law a_law e_law c_law
    refine' HK.tup_use (nm := "FIRST") (vs := [.int 1, .int 0]) KX G ?a38 ?l38 ?s38 ?v38 ?m38
    (case a38 => k_is); (case l38 => k_is); (case s38 => exact (by decide)); (case v38 => exact .cons ⟨_, rfl⟩ (.cons ⟨_, rfl⟩ .nil))
    intro h1
    refine' HK.tup_use (nm := "LAST") (vs := [.int 0, .int 1]) KX G ?a39 ?l39 ?s39 ?v39 ?m39
    (case a39 => k_is); (case l39 => k_is); (case s39 => exact (by decide)); (case v39 => exact .cons ⟨_, rfl⟩ (.cons ⟨_, rfl⟩ .nil))
    intro h2
    refine' HK.tup_use (nm := "ENDLESS") (vs := [.str HK.sEndless]) KX G ?a40 ?l40 ?s40 ?v40 ?m40
    (case a40 => k_is); (case l40 => k_is); (case s40 => exact (by decide)); (case v40 => exact .cons ⟨_, rfl⟩ .nil)
    intro h3
    have h4 : mg "gcd" = some (.builtin "math.gcd") := by
      refine' PySem.W.mg_of KX G ?a41
      (case a41 => k_is)
    have z0 : mg "abs" = none := by
      refine' PySem.W.mg_none_of KX G ?a42
      (case a42 => k_is)
    have z1 : mg "max" = none := by
      refine' PySem.W.mg_none_of KX G ?a43
      (case a43 => k_is)
    have z2 : mg "min" = none := by
      refine' PySem.W.mg_none_of KX G ?a44
      (case a44 => k_is)
    have z3 : mg "len" = none := by
      refine' PySem.W.mg_none_of KX G ?a45
      (case a45 => k_is)
    have z4 : mg "range" = none := by
      refine' PySem.W.mg_none_of KX G ?a46
      (case a46 => k_is)
    have z5 : mg "sorted" = none := by
      refine' PySem.W.mg_none_of KX G ?a47
      (case a47 => k_is)
    have z6 : mg "tuple" = none := by
      refine' PySem.W.mg_none_of KX G ?a48
      (case a48 => k_is)
    have z7 : mg "int" = none := by
      refine' PySem.W.mg_none_of KX G ?a49
      (case a49 => k_is)
    have z8 : mg "isinstance" = none := by
      refine' PySem.W.mg_none_of KX G ?a50
      (case a50 => k_is)
    have z9 : mg "bool" = none := by
      refine' PySem.W.mg_none_of KX G ?a51
      (case a51 => k_is)
    have z10 : mg "repr" = none := by
      refine' PySem.W.mg_none_of KX G ?a52
      (case a52 => k_is)
    have C := HK.consts_of h1 h2 h3 h4 (fun n hn => by
      simp only [List.mem_cons, List.not_mem_nil, or_false] at hn
      rcases hn with rfl | rfl | rfl | rfl | rfl | rfl | rfl | rfl | rfl | rfl | rfl <;> assumption)
    have aL : f_law.f = fa := by
      have e := f_law.g.symm.trans hmg
      injection e with e
      injection e
    refine' HK.law_at (Pe := 82) (Pl := 285) KX C f_least_terms f_leads f_weight f_alike_at f_is_bent f_envelope f_over f_common f_free_stretch f_free_within f_by_asking f__law_begun f__law_mixed f__law_take f__law_pick f__law_is_number f__law_gcd f__law_terms f__law_leads f__law_is_pair f__law_is_price f__law_worth f__law_spot f__law_two_spots f__law_pair f__law_pairs f__law_alone f__law_corners f__law_over f__law_value f__law_front f__law_peak f__law_same f__law_hidden f__law_gain f__law_answer f_law aL c_envelope c_law (fun s u => by rw [e_by_asking]; exact .of_eq rfl) (fun s u => by rw [e_by_asking]; exact .of_eq rfl) (fun s u => by rw [e_law]; exact .of_eq rfl) (hT8 82 (by simp)) (hT8 285 (by simp)) ?nE ?nL (PySem.W.codeHd_of_K KX ?cE) (PySem.W.codeHd_of_K KX ?cL) (by decide)
    (case nE => first | rfl | kernel_rfl); (case nL => first | rfl | kernel_rfl); (case cE => first | rfl | kernel_rfl); (case cL => first | rfl | kernel_rfl)
