import PyProof.Rows.All
import Wide.All
import OpenK.AllK
import Wide.FinOn
import HandS.ForMost
import HandS.ForExc
import HandS.Lambda
import KE.SortData
import PyProof.ReprRoads
import HandS.Star
import HandS.TupAny
import HandS.TupMul
import HandS.Flow
import HandS.Deep
import KE.GoesEnum
import HandS.Zip
import HandS.Walk
import HandS.SetFor
import HandS.SetKeys
import HandS.IsInst
import HandS.NoneIn
import HandS.ExcCtx
import HandS.Style
import HandS.MakeKwOnly
import HandS.Nested
import HandS.Defaults
import Open.Head
import HandS.HeadHook1
import HandS.HeadHook2
import HandS.Head0
import HandS.Head1
import HandS.Head2
import HandS.EndTab
import HandS.EndBits
import PySem.Challenge.RW_turnsmade_k09_whole_orders

/-! part P1 -/
set_option Elab.async false
set_option linter.all false
set_option maxRecDepth 100000
/-! The pure fragment: values by value (W), cells, how they lie in the abstract heap. -/
namespace Pf
open PySem PySem.Spec PyProof.Rows L2

/-- a value: data by value (tuples, frozen lists, dicts and instances), a mutable thing by its number, a def or class by its name -/
inductive W where
  | non | bl (b : Bool) | int (i : Int) | str (x : Str)
  | tup (xs : List W) | lst (xs : List W) | dic (ks : List Key) (xs : List W)
  | obj (c : Str) (fs : List Str) (xs : List W)
  | ref (i : Nat) | glo (x : Str) | ty (n : String)
  | clo (n : Nat) (xs : List W)

/-- where things lie: how many cells, each cell's address, the abstract heap -/
structure Wd where
  n : Nat
  μ : Nat → Addr
  H : Hp

/-- what is fixed: the written part, the values of the module's names, the function that was handed in, the tables of code objects -/
structure Sta where
  K : PySem.W.Frag
  gv : Str → Option Value
  reg : Option (Addr × Addr × Nat × List V)
  lq : Nat → Str
  T : List (Addr × Str)

mutual
def RelW (S : Sta) (G : Wd) : V → W → Prop
  | v, .non => v = .non
  | v, .bl b => v = .bl b
  | v, .int i => v = .int i
  | v, .str x => v = .str x
  | v, .tup ws => ∃ a vs, v = .ref a ∧ SqT S.K G.H a vs ∧ RelWs S G vs ws
  | v, .lst ws => ∃ a o vs, v = .ref a ∧ G.H a = some (.frz o (.lst vs)) ∧ RelWs S G vs ws
  | v, .dic ks ws => ∃ a o kvs, v = .ref a ∧ G.H a = some (.frz o (.dK kvs)) ∧ kvs.map (·.1) = ks ∧ RelWs S G (kvs.map (·.2)) ws
  | v, .obj c fs ws => ∃ a o C dx kvs, v = .ref a ∧ S.gv c = some (.ref C) ∧ G.H a = some (.frz o (.ins C dx kvs)) ∧ kvs.map (·.1) = fs ∧ RelWs S G (kvs.map (·.2)) ws
  | v, .ref i => i < G.n ∧ v = .ref (G.μ i)
  | v, .glo x => ∃ a, S.gv x = some (.ref a) ∧ v = .ref a
  | v, .ty n => v = .ty n
  | v, .clo n ws => ∃ a c vs, v = .ref a ∧ S.reg = some (a, c, n, vs) ∧ G.H c = some (LamX.CodeO c (S.lq n)) ∧ RelWs S G vs ws
def RelWs (S : Sta) (G : Wd) : List V → List W → Prop
  | vs, [] => vs = []
  | vs, w :: ws => ∃ v r, vs = v :: r ∧ RelW S G v w ∧ RelWs S G r ws
end

/-- cells -/
inductive Cell where
  | lst (xs : List W)
  | ins (c : Str) (fs : List Str) (xs : List W)
abbrev St := List Cell

def RelC (S : Sta) (G : Wd) (a : Addr) : Cell → Prop
  | .lst ws => ∃ vs, G.H a = some (.lst vs) ∧ RelWs S G vs ws
  | .ins c fs ws => ∃ C dx kvs, S.gv c = some (.ref C) ∧ G.H a = some (.ins C dx kvs) ∧ kvs.map (·.1) = fs ∧ RelWs S G (kvs.map (·.2)) ws

/-- the tables of code objects, and that there are no others -/
def TabsAll (T : List (Addr × Str)) (H : Hp) : Prop := LamX.Tabs T H ∧ ∀ b ps, H b = some (.tbl ps) → ∃ q, (b, q) ∈ T
structure RelSt (S : Sta) (G : Wd) (st : St) : Prop where
  len : st.length = G.n
  inj : ∀ i j, i < G.n → j < G.n → G.μ i = G.μ j → i = j
  cell : ∀ i c, st[i]? = some c → RelC S G (G.μ i) c
  tabs : TabsAll S.T G.H
theorem tabs_keep {T : List (Addr × Str)} {H H' : Hp} (t : TabsAll T H) (h1 : ∀ a ps, H a = some (.tbl ps) → H' a = some (.tbl ps)) (h2 : ∀ a φ, H a = some (.ext φ) → H' a = some (.ext φ)) (h3 : ∀ a ps, H' a = some (.tbl ps) → ∃ ps', H a = some (.tbl ps')) : TabsAll T H' := ⟨fun p hp => by
  obtain ⟨ps, k1, k2, k3⟩ := t.1 p hp
  refine ⟨ps, h1 _ _ k1, k2, fun pos cv hc => ?_⟩
  obtain ⟨c, e1, e2⟩ := k3 pos cv hc
  exact ⟨c, e1, h2 _ _ e2⟩, fun b ps e => by
  obtain ⟨ps', e'⟩ := h3 b ps e
  exact t.2 b ps' e'⟩

/-- what stays -/
structure Keep (G G' : Wd) : Prop where
  le : G.n ≤ G'.n
  at_ : ∀ i, i < G.n → G'.μ i = G.μ i
  tup : ∀ a xs, G.H a = some (.tup xs) → G'.H a = some (.tup xs)
  frz : ∀ a o u, G.H a = some (.frz o u) → G'.H a = some (.frz o u)
  ext : ∀ a φ, G.H a = some (.ext φ) → G'.H a = some (.ext φ)
structure Grow (G G' : Wd) : Prop extends Keep G G' where
  keep : ∀ a o, G.H a = some o → (∀ ps, o ≠ .tbl ps) → (∀ i, i < G.n → G.μ i ≠ a) → G'.H a = some o
  there : ∀ a, G'.H a = none → G.H a = none
  fresh : ∀ i, G.n ≤ i → i < G'.n → G.H (G'.μ i) = none
theorem Grow.refl (G : Wd) : Grow G G := ⟨⟨Nat.le_refl _, fun _ _ => rfl, fun _ _ h => h, fun _ _ _ h => h, fun _ _ h => h⟩, fun _ _ h _ _ => h, fun _ h => h, fun i h1 h2 => absurd h2 (Nat.not_lt.mpr h1)⟩
theorem Grow.trans {A B C : Wd} (x : Grow A B) (y : Grow B C) : Grow A C where
  le := Nat.le_trans x.le y.le
  at_ := fun i h => (y.at_ i (Nat.lt_of_lt_of_le h x.le)).trans (x.at_ i h)
  tup := fun a xs h => y.tup a xs (x.tup a xs h)
  frz := fun a o u h => y.frz a o u (x.frz a o u h)
  ext := fun a φ h => y.ext a φ (x.ext a φ h)
  keep := fun a o h n c => y.keep a o (x.keep a o h n c) n fun i hi e => by
    by_cases hA : i < A.n
    · exact c i hA ((x.at_ i hA).symm.trans e)
    · have := x.fresh i (Nat.not_lt.mp hA) hi
      rw [e, h] at this
      cases this
  there := fun a h => x.there a (y.there a h)
  fresh := fun i h1 h2 => by
    by_cases hB : i < B.n
    · rw [y.at_ i hB]; exact x.fresh i h1 hB
    · exact x.there _ (y.fresh i (Nat.not_lt.mp hB) h2)
theorem Keep.sqT {K : PySem.W.Frag} {G G' : Wd} (g : Keep G G') {a : Addr} {xs : List V} (h : SqT K G.H a xs) : SqT K G'.H a xs := by
  rcases h with (h | ⟨o, h⟩) | h
  · exact .inl (.inl (g.tup _ _ h))
  · exact .inl (.inr ⟨o, g.frz _ _ _ h⟩)
  · exact .inr h

mutual
theorem RelW.keep {S : Sta} {G G' : Wd} (g : Keep G G') : ∀ (w : W) (v : V), RelW S G v w → RelW S G' v w
  | .non, _, h => h
  | .bl _, _, h => h
  | .int _, _, h => h
  | .str _, _, h => h
  | .tup ws, v, h => by
    simp only [RelW] at h ⊢
    obtain ⟨a, vs, e, q, r⟩ := h
    exact ⟨a, vs, e, g.sqT q, RelWs.keep g ws vs r⟩
  | .lst ws, v, h => by
    simp only [RelW] at h ⊢
    obtain ⟨a, o, vs, e, q, r⟩ := h
    exact ⟨a, o, vs, e, g.frz _ _ _ q, RelWs.keep g ws vs r⟩
  | .dic ks ws, v, h => by
    simp only [RelW] at h ⊢
    obtain ⟨a, o, vs, e, q, k, r⟩ := h
    exact ⟨a, o, vs, e, g.frz _ _ _ q, k, RelWs.keep g ws _ r⟩
  | .obj c fs ws, v, h => by
    simp only [RelW] at h ⊢
    obtain ⟨a, o, C, dx, kvs, e, c, q, k, r⟩ := h
    exact ⟨a, o, C, dx, kvs, e, c, g.frz _ _ _ q, k, RelWs.keep g ws _ r⟩
  | .ref i, v, h => by
    simp only [RelW] at h ⊢
    exact ⟨Nat.lt_of_lt_of_le h.1 g.le, by rw [g.at_ i h.1]; exact h.2⟩
  | .glo x, v, h => by simpa only [RelW] using h
  | .ty n, v, h => h
  | .clo n ws, v, h => by
    simp only [RelW] at h ⊢
    obtain ⟨a, c, vs, e, q, k, r⟩ := h
    exact ⟨a, c, vs, e, q, g.ext _ _ k, RelWs.keep g ws vs r⟩
theorem RelWs.keep {S : Sta} {G G' : Wd} (g : Keep G G') : ∀ (ws : List W) (vs : List V), RelWs S G vs ws → RelWs S G' vs ws
  | [], _, h => h
  | w :: ws, vs, h => by
    simp only [RelWs] at h ⊢
    obtain ⟨v, r, e, q, q2⟩ := h
    exact ⟨v, r, e, RelW.keep g w v q, RelWs.keep g ws r q2⟩
end

theorem RelW.grow {S : Sta} {G G' : Wd} (g : Grow G G') (w : W) (v : V) (h : RelW S G v w) : RelW S G' v w := RelW.keep g.toKeep w v h
theorem RelWs.grow {S : Sta} {G G' : Wd} (g : Grow G G') (ws : List W) (vs : List V) (h : RelWs S G vs ws) : RelWs S G' vs ws := RelWs.keep g.toKeep ws vs h
theorem Grow.sqT {K : PySem.W.Frag} {G G' : Wd} (g : Grow G G') {a : Addr} {xs : List V} (h : SqT K G.H a xs) : SqT K G'.H a xs := g.toKeep.sqT h

theorem RelWs.length {S : Sta} {G : Wd} : ∀ {ws : List W} {vs : List V}, RelWs S G vs ws → vs.length = ws.length
  | [], _, h => by simp only [RelWs] at h; subst h; rfl
  | w :: ws, vs, h => by
    simp only [RelWs] at h
    obtain ⟨v, r, e, _, q2⟩ := h
    rw [e, List.length_cons, List.length_cons, RelWs.length q2]
theorem RelWs.nil {S : Sta} {G : Wd} : RelWs S G [] [] := by simp only [RelWs]
theorem RelWs.cons {S : Sta} {G : Wd} {v : V} {w : W} {vs : List V} {ws : List W} (h : RelW S G v w) (r : RelWs S G vs ws) : RelWs S G (v :: vs) (w :: ws) := by
  simp only [RelWs]; exact ⟨v, vs, rfl, h, r⟩
theorem RelWs.append {S : Sta} {G : Wd} : ∀ {ws us : List W} {vs xs : List V}, RelWs S G vs ws → RelWs S G xs us → RelWs S G (vs ++ xs) (ws ++ us)
  | [], us, vs, xs, h, q => by simp only [RelWs] at h; subst h; exact q
  | w :: ws, us, vs, xs, h, q => by
    simp only [RelWs] at h
    obtain ⟨v, r, e, q1, q2⟩ := h
    subst e
    exact RelWs.cons q1 (RelWs.append q2 q)
theorem RelWs.get {S : Sta} {G : Wd} : ∀ {ws : List W} {vs : List V} {i : Nat} {w : W}, RelWs S G vs ws → ws[i]? = some w → ∃ v, vs[i]? = some v ∧ RelW S G v w
  | [], _, i, w, _, e => by simp at e
  | w :: ws, vs, i, u, h, e => by
    simp only [RelWs] at h
    obtain ⟨v, r, e1, q, q2⟩ := h
    subst e1
    cases i with
    | zero => simp at e; subst e; exact ⟨v, rfl, q⟩
    | succ i => simp at e; obtain ⟨x, a, b⟩ := RelWs.get q2 e; exact ⟨x, by simpa using a, b⟩
theorem RelWs.getV {S : Sta} {G : Wd} : ∀ {ws : List W} {vs : List V} {i : Nat} {v : V}, RelWs S G vs ws → vs[i]? = some v → ∃ w, ws[i]? = some w ∧ RelW S G v w
  | [], vs, i, w, h, e => by simp only [RelWs] at h; subst h; simp at e
  | w :: ws, vs, i, u, h, e => by
    simp only [RelWs] at h
    obtain ⟨v, r, e1, q, q2⟩ := h
    subst e1
    cases i with
    | zero => simp at e; subst e; exact ⟨w, rfl, q⟩
    | succ i => simp at e; obtain ⟨x, a, b⟩ := RelWs.getV q2 e; exact ⟨x, by simpa using a, b⟩
theorem RelWs.take {S : Sta} {G : Wd} : ∀ {ws : List W} {vs : List V} (n : Nat), RelWs S G vs ws → RelWs S G (vs.take n) (ws.take n)
  | _, _, 0, _ => by simpa using RelWs.nil
  | [], vs, n + 1, h => by simp only [RelWs] at h; subst h; simpa using RelWs.nil
  | w :: ws, vs, n + 1, h => by
    simp only [RelWs] at h
    obtain ⟨v, r, e1, q, q2⟩ := h
    subst e1
    exact RelWs.cons q (RelWs.take n q2)
theorem RelWs.drop {S : Sta} {G : Wd} : ∀ {ws : List W} {vs : List V} (n : Nat), RelWs S G vs ws → RelWs S G (vs.drop n) (ws.drop n)
  | _, _, 0, h => by simpa using h
  | [], vs, n + 1, h => by simp only [RelWs] at h; subst h; simpa using RelWs.nil
  | w :: ws, vs, n + 1, h => by
    simp only [RelWs] at h
    obtain ⟨v, r, e1, q, q2⟩ := h
    subst e1
    simpa using RelWs.drop n q2
theorem RelWs.set {S : Sta} {G : Wd} {v : V} {w : W} (h : RelW S G v w) : ∀ {ws : List W} {vs : List V} (n : Nat), RelWs S G vs ws → RelWs S G (vs.set n v) (ws.set n w)
  | [], vs, n, q => by simp only [RelWs] at q; subst q; simpa using RelWs.nil
  | w :: ws, vs, n, q => by
    simp only [RelWs] at q
    obtain ⟨v, r, e1, q, q2⟩ := q
    subst e1
    cases n with
    | zero => exact RelWs.cons h q2
    | succ n => exact RelWs.cons q (RelWs.set h n q2)
end Pf

/-! part P2 -/
set_option Elab.async false
set_option linter.all false
set_option maxRecDepth 100000
/-! The pure fragment: its syntax without places, its meaning. -/
namespace Pf
open PySem L2

/-! ### equality that is decided -/
mutual
def W.beq : W → W → Bool
  | .non, y => (match y with | .non => true | _ => false)
  | .bl a, y => (match y with | .bl b => a == b | _ => false)
  | .int a, y => (match y with | .int b => decide (a = b) | _ => false)
  | .str a, y => (match y with | .str b => decide (a = b) | _ => false)
  | .tup a, y => (match y with | .tup b => beqs a b | _ => false)
  | .lst a, y => (match y with | .lst b => beqs a b | _ => false)
  | .dic k a, y => (match y with | .dic l b => decide (k = l) && beqs a b | _ => false)
  | .obj c f a, y => (match y with | .obj d g b => decide (c = d) && decide (f = g) && beqs a b | _ => false)
  | .ref a, y => (match y with | .ref b => decide (a = b) | _ => false)
  | .glo a, y => (match y with | .glo b => decide (a = b) | _ => false)
  | .ty a, y => (match y with | .ty b => decide (a = b) | _ => false)
  | .clo n a, y => (match y with | .clo m b => decide (n = m) && beqs a b | _ => false)
def beqs : List W → List W → Bool
  | [], y => (match y with | [] => true | _ :: _ => false)
  | a :: as, y => (match y with | [] => false | b :: bs => a.beq b && beqs as bs)
end
mutual
theorem W.beq_iff : ∀ a b : W, a.beq b = true ↔ a = b
  | .non, y => by cases y <;> simp [W.beq]
  | .bl a, y => by cases y <;> simp [W.beq]
  | .int a, y => by cases y <;> simp [W.beq]
  | .str a, y => by cases y <;> simp [W.beq]
  | .tup a, y => by cases y <;> simp [W.beq, beqs_iff a]
  | .lst a, y => by cases y <;> simp [W.beq, beqs_iff a]
  | .dic k a, y => by cases y <;> simp [W.beq, beqs_iff a]
  | .obj c f a, y => by cases y <;> simp [W.beq, beqs_iff a, and_assoc]
  | .ref a, y => by cases y <;> simp [W.beq]
  | .glo a, y => by cases y <;> simp [W.beq]
  | .ty a, y => by cases y <;> simp [W.beq]
  | .clo n a, y => by cases y <;> simp [W.beq, beqs_iff a]
theorem beqs_iff : ∀ a b : List W, beqs a b = true ↔ a = b
  | [], y => by cases y <;> simp [beqs]
  | a :: as, y => by cases y <;> simp [beqs, W.beq_iff a, beqs_iff as]
end
instance : DecidableEq W := fun a b => if h : a.beq b = true then .isTrue ((W.beq_iff a b).mp h) else .isFalse fun e => h ((W.beq_iff a b).mpr e)

/-! ### results -/
inductive R (α : Type) where
  | ok (a : α) (st : St)
  | exc (c : Str) (fs : List Str) (xs : List W) (st : St)
  | stuck
def M (α : Type) := St → R α
def M.pure {α : Type} (a : α) : M α := fun st => .ok a st
def M.bind {α β : Type} (m : M α) (f : α → M β) : M β := fun st => match m st with
  | .ok a st' => f a st'
  | .exc c fs xs st' => .exc c fs xs st'
  | .stuck => .stuck
instance : Monad M where
  pure := M.pure
  bind := M.bind
def M.lift {α : Type} (o : Option α) : M α := fun st => match o with
  | some a => .ok a st
  | none => .stuck
def M.stuck {α : Type} : M α := fun _ => .stuck
def M.chk (b : Bool) : M Unit := fun st => if b = true then .ok () st else .stuck
theorem M.bind_assoc {α β γ : Type} (m : M α) (f : α → M β) (g : β → M γ) : ((m >>= f) >>= g) = (m >>= fun a => f a >>= g) := by
  funext st
  show M.bind (M.bind m f) g st = M.bind m (fun a => M.bind (f a) g) st
  unfold M.bind
  cases m st <;> rfl
theorem M.pure_bind {α β : Type} (a : α) (f : α → M β) : (pure a >>= f) = f a := rfl
theorem M.bind_pure {α : Type} (m : M α) : (m >>= pure) = m := by
  funext st
  show M.bind m M.pure st = m st
  unfold M.bind M.pure
  cases m st <;> rfl
/-- nothing may be raised -/
def M.nox {α : Type} (m : M α) : M α := fun st => match m st with
  | .ok a st' => .ok a st'
  | .exc _ _ _ _ => .stuck
  | .stuck => .stuck
def M.get : M St := fun st => .ok st st

/-- the greatest length -/
def SZ : Nat := 16777216

abbrev Ρ := List (Option W)

/-! ### data -/
mutual
def W.isD : W → Bool
  | .non => true | .bl _ => true | .int _ => true | .str x => PyData.strOk x
  | .tup xs => isDs xs
  | .lst xs => isDs xs
  | .dic _ _ => false | .obj _ _ _ => false | .ref _ => false | .glo _ => false | .ty _ => false | .clo _ _ => false
def isDs : List W → Bool
  | [] => true
  | w :: ws => w.isD && isDs ws
end
mutual
def W.toD : W → PyData
  | .non => .none | .bl b => .bool b | .int i => .int i | .str x => .str x
  | .tup xs => .tuple (toDs xs)
  | .lst xs => .list (toDs xs)
  | .dic _ _ => .none | .obj _ _ _ => .none | .ref _ => .none | .glo _ => .none | .ty _ => .none | .clo _ _ => .none
def toDs : List W → List PyData
  | [] => []
  | w :: ws => w.toD :: toDs ws
end
mutual
def W.dep : W → Nat
  | .tup xs => deps xs + 1
  | .lst xs => deps xs + 1
  | .non => 0 | .bl _ => 0 | .int _ => 0 | .str _ => 0
  | .dic _ _ => 0 | .obj _ _ _ => 0 | .ref _ => 0 | .glo _ => 0 | .ty _ => 0 | .clo _ _ => 0
def deps : List W → Nat
  | [] => 0
  | w :: ws => max w.dep (deps ws)
end
/-- a thing that may be compared, shown, put in order: data of a depth that is small -/
def W.flat (w : W) : Bool := w.isD && decide (w.dep ≤ 60)
def eqvW (a b : W) : Bool := PyData.eqv a.toD b.toD
def eqvWs (a b : List W) : Bool := PyData.eqvAll (toDs a) (toDs b)

/-! ### syntax -/
inductive Bi where
  | len | all | any | sum | min1 | max1 | min2 | max2 | tuple | list | sorted | abs | int | bool | repr | sset | slen
  deriving DecidableEq
/-- a class in isinstance: a built-in type or a class of the program -/
inductive Ty where
  | ty (n : String) | cl (x : Str)
  deriving DecidableEq
mutual
inductive Ex where
  | var (i : Nat) | glo (x : Str) | cst (w : W)
  | tup (es : As) | lst (es : As)
  | bin (op : Operator) (a b : Ex) | neg (a : Ex) | not (a : Ex)
  | and (a b : Ex) | or (a b : Ex) | ite (c a b : Ex)
  | cmp (op : CmpOp) (a b : Ex) | cmp2 (o p : CmpOp) (a b c : Ex)
  | call (x : Str) (es : As) (ks : List Str) (kes : As)
  | bi (f : Bi) (es : As) | isi (e : Ex) (t : Ty)
  | callV (i : Nat) (es : As)
  | meth (o : Ex) (m : Str) (es : As)
  | attr (o : Ex) (f : Str)
  | ix (a b : Ex) | sl (a lo hi : Ex) | slL (a lo : Ex) | slH (a hi : Ex) | slN (a : Ex)
  | comp (elt : Ex) (t : Tg) (it : Ex) (ifs : As) (own : List Nat)
  | comp2 (elt : Ex) (t : Tg) (it : Ex) (ifs : As) (t2 : Tg) (it2 : Ex) (ifs2 : As) (own own2 : List Nat)
  | callL (x : Str) (es : As) (n np nf sl : Nat) (body : Ex) (caps : List Nat)
  | it (e : Ex) | rng (a b : Ex) | enm (e : Ex) | zip (a b : Ex)
  | nw (e : Ex)
inductive As where
  | nil | cons (e : Ex) (r : As) | star (e : Ex) (r : As)
inductive Tg where
  | var (i : Nat) | tup (ts : Tgs) | attr (o : Ex) (f : Str) | ix (o i : Ex)
inductive Tgs where
  | nil | cons (t : Tg) (r : Tgs)
end
mutual
inductive Sx where
  | set (t : Tg) (e : Ex)
  | app (o e : Ex) | ext (o e : Ex)
  | drop (e : Ex) | ret (e : Ex) | retN | pass
  | ifs (c : Ex) (a b : Sxs)
  | for_ (t : Tg) (it : Ex) (b : Sxs)
  | while_ (c : Ex) (b : Sxs)
  | raise_ (x : Str) (es : As)
  | never
inductive Sxs where
  | nil | cons (s : Sx) (r : Sxs)
end

/-! ### the program around -/
structure Cf where
  fn : Str → Nat → List Str → Option (List W → List W → M W)
  mt : Str → Str → Nat → Option (List W → M W)
  gv : Str → Option W
  lam : Nat → List W → List W → M W
  lamF : Nat → Nat → Nat → Ex → List W → List W → M W
  isfn : Str → Bool
  hof : Str → Nat → Option ((Nat → List W → List W → M W) → List W → M W)
  isi : Ty → Ty → Option Bool
  att : Str → Str → Bool
  xc : Str → Option (List Str)
  fuel : Nat

/-! ### operations on values -/
def seqOf (w : W) (st : St) : Option (List W) := match w with
  | .tup xs => some xs
  | .lst xs => some xs
  | .ref i => (match st[i]? with
    | some (.lst xs) => some xs
    | _ => none)
  | _ => none
def lstOf (w : W) (st : St) : Option (List W) := match w with
  | .lst xs => some xs
  | .ref i => (match st[i]? with
    | some (.lst xs) => some xs
    | _ => none)
  | _ => none
/-- what a for walks -/
def itemsOf (w : W) (st : St) : Option (List W) := match w with
  | .str x => some (x.cps.toList.map fun c => .str ⟨#[c]⟩)
  | w => seqOf w st
def cmul (i j : Int) : Bool := decide (-(2 ^ 64) < i ∧ i < 2 ^ 64) || decide (-(2 ^ 64) < j ∧ j < 2 ^ 64)
def addW (a b : W) (st : St) : Option W := match a with
  | .int i => (match b with | .int j => some (.int (i + j)) | _ => none)
  | .str x => (match b with | .str y => if x.length + y.length ≤ SZ then some (.str (x ++ y)) else none | _ => none)
  | .tup xs => (match b with | .tup ys => if xs.length + ys.length ≤ SZ then some (.tup (xs ++ ys)) else none | _ => none)
  | a => (match lstOf a st with
    | some xs => (match lstOf b st with
      | some ys => if xs.length + ys.length ≤ SZ then some (.lst (xs ++ ys)) else none
      | none => none)
    | none => none)
def mulW (a b : W) : Option W := match a with
  | .int i => (match b with | .int j => if cmul i j then some (.int (i * j)) else none | _ => none)
  | .tup xs => (match b with | .int j => if 1 ≤ j ∧ j ≤ 1000 ∧ xs.length ≤ 1000 ∧ xs ≠ [] then some (.tup (List.replicate j.toNat xs).flatten) else none | _ => none)
  | _ => none
def int2 (f : Int → Int → Option Int) (a b : W) : Option W := match a with
  | .int i => (match b with | .int j => (f i j).map .int | _ => none)
  | _ => none
def binW (op : Operator) (a b : W) (st : St) : Option W := match op with
  | .Add => addW a b st
  | .Sub => int2 (fun i j => some (i - j)) a b
  | .Mult => mulW a b
  | .FloorDiv => int2 (fun i j => if j ≠ 0 ∧ j.natAbs < 1073741824 then some (i.fdiv j) else none) a b
  | .Mod => int2 (fun i j => if j ≠ 0 then some (i.fmod j) else none) a b
  | .Pow => int2 (fun i j => if 0 ≤ j ∧ j ≤ 1000000 ∧ i.natAbs < 2 ^ 64 then some (i ^ j.toNat) else none) a b
  | _ => none
def ixW (a b : W) (st : St) : Option W := match a, b with
  | .str x, .int i => if x.length ≤ SZ then (atI x.cps.toList i).map fun c => .str ⟨#[c]⟩ else none
  | a, .int i => (seqOf a st).bind fun xs => atI xs i
  | _, _ => none
where atI {α : Type} (xs : List α) (i : Int) : Option α := L2.atI xs i
def cutW {α : Type} (xs : List α) (lo hi : Option Int) : List α := (xs.drop (HT.sIx xs.length 0 lo)).take (HT.sIx xs.length xs.length hi - HT.sIx xs.length 0 lo)
def slW (a : W) (lo hi : Option Int) (st : St) : Option W := match a with
  | .tup xs => some (.tup (cutW xs lo hi))
  | .lst xs => some (.lst (cutW xs lo hi))
  | .ref i => (match st[i]? with
    | some (.lst xs) => some (.lst (cutW xs lo hi))
    | _ => none)
  | .str x => if x.length ≤ SZ then some (.str (L2.cutS x lo hi)) else none
  | _ => none
/-- the value of a list by value: a cell's content -/
def celW (d : W) : Option Cell → W
  | some (.lst xs) => .lst xs
  | _ => d
def valW (w : W) (st : St) : W := match w with
  | .ref i => celW (.ref i) st[i]?
  | w => w
def inW (x : W) (ys : List W) : Bool := ys.any fun y => eqvW y x
def isStr : W → Option Str
  | .str x => some x
  | _ => none
def isNon : W → Bool
  | .non => true
  | _ => false
def cmpW (op : CmpOp) (a b : W) (st : St) : Option Bool :=
  let a := valW a st
  let b := valW b st
  match op with
  | .Eq => if a.flat && b.flat then some (eqvW a b) else none
  | .NotEq => if a.flat && b.flat then some (!eqvW a b) else none
  | .Lt => (match a, b with
    | .int i, .int j => some (decide (i < j))
    | .str x, .str y => some (decide (x.cps.toList < y.cps.toList))
    | _, _ => none)
  | .LtE => (match a, b with
    | .int i, .int j => some (decide (i ≤ j))
    | _, _ => none)
  | .Gt => (match a, b with
    | .int i, .int j => some (decide (j < i))
    | _, _ => none)
  | .GtE => (match a, b with
    | .int i, .int j => some (decide (j ≤ i))
    | _, _ => none)
  | .In => (match a, b with
    | .str x, .str y => some (!(Builtin.Str.occurrences y x 0 y.length 1).isEmpty)
    | a, .tup ys => if a.flat && ys.all W.flat then some (inW a ys) else none
    | a, .lst ys => if a.flat && ys.all W.flat then some (inW a ys) else none
    | _, _ => none)
  | .NotIn => (match a, b with
    | .str x, .str y => some (!(!(Builtin.Str.occurrences y x 0 y.length 1).isEmpty))
    | a, .tup ys => if a.flat && ys.all W.flat then some (!inW a ys) else none
    | a, .lst ys => if a.flat && ys.all W.flat then some (!inW a ys) else none
    | _, _ => none)
  | .Is => (match b with
    | .non => some (isNon a)
    | _ => none)
  | .IsNot => (match b with
    | .non => some (!isNon a)
    | _ => none)
def asInts : List W → Option (List Int)
  | [] => some []
  | .int i :: r => (asInts r).map (i :: ·)
  | _ :: _ => none
def asBools : List W → Option (List Bool)
  | [] => some []
  | .bl b :: r => (asBools r).map (b :: ·)
  | _ :: _ => none
def leastI : List Int → Option Int
  | [] => none
  | x :: r => some (r.foldl (fun m y => if y < m then y else m) x)
def mostI : List Int → Option Int
  | [] => none
  | x :: r => some (r.foldl (fun m y => if y > m then y else m) x)

/-! ### built-in functions -/
def asI : W → Option Int
  | .int i => some i
  | _ => none
def leW (a b : W) : Bool := !PySem.W.dataLt b.toD a.toD
def isTupD : W → Bool
  | .tup _ => true
  | _ => false
def alikeW (a b : W) : Bool := PySem.W.alike a.toD b.toD
def srtOk (ws : List W) : Bool := ws.all W.flat && ws.all (fun a => ws.all fun b => alikeW a b) && (ws.all isTupD || ws.all (fun w => !isTupD w && !isNon w))
def srtW (ws : List W) : Option (List W) := if srtOk ws = true then some (ws.mergeSort leW) else none

/-! ### one built-in each: what it gives -/
def bLen (ws : List W) (st : St) : Option W := match ws with
  | [w] => (match isStr w with
    | some x => if x.length ≤ SZ then some (.int x.length) else none
    | none => (seqOf w st).map fun xs => .int xs.length)
  | _ => none
def bAll (ws : List W) (st : St) : Option W := match ws with
  | [w] => (lstOf w st).bind fun xs => (asBools xs).map fun bs => .bl (bs.all id)
  | _ => none
def bAny (ws : List W) (st : St) : Option W := match ws with
  | [w] => (lstOf w st).bind fun xs => (asBools xs).map fun bs => .bl (bs.any id)
  | _ => none
def bSum (ws : List W) (st : St) : Option W := match ws with
  | [w] => (lstOf w st).bind fun xs => (asInts xs).map fun bs => .int bs.sum
  | _ => none
def bMin1 (ws : List W) (st : St) : Option W := match ws with
  | [w] => (lstOf w st).bind fun xs => (asInts xs).bind fun bs => (leastI bs).map .int
  | _ => none
def bMax1 (ws : List W) (st : St) : Option W := match ws with
  | [w] => (lstOf w st).bind fun xs => (asInts xs).bind fun bs => (mostI bs).map .int
  | _ => none
def bMin2 (ws : List W) (_ : St) : Option W := match ws with
  | [a, b] => (asI a).bind fun i => (asI b).map fun j => .int (if j < i then j else i)
  | _ => none
def bMax2 (ws : List W) (_ : St) : Option W := match ws with
  | [a, b] => (asI a).bind fun i => (asI b).map fun j => .int (if j > i then j else i)
  | _ => none
def bTup (ws : List W) (st : St) : Option W := match ws with
  | [w] => (seqOf w st).map .tup
  | _ => none
def bLst (ws : List W) (st : St) : Option W := match ws with
  | [w] => (seqOf w st).map .lst
  | _ => none
def bSrt (ws : List W) (st : St) : Option W := match ws with
  | [w] => (seqOf w st).bind fun xs => (srtW xs).map .lst
  | _ => none
def bAbs (ws : List W) (_ : St) : Option W := match ws with
  | [a] => (asI a).map fun i => .int (if i < 0 then -i else i)
  | _ => none
def bInt (ws : List W) (_ : St) : Option W := match ws with
  | [.int i] => some (.int i)
  | [.bl b] => some (.int (if b then 1 else 0))
  | _ => none
def bBool (ws : List W) (_ : St) : Option W := match ws with
  | [.int i] => some (.bl (i != 0))
  | [.bl b] => some (.bl b)
  | _ => none
def shwW (w : W) : Option Str := if w.flat = true ∧ w.toD.showable = true ∧ w.toD.shown.length ≤ SZ then some w.toD.shown else none
def bRepr (ws : List W) (st : St) : Option W := match ws with
  | [w] => (shwW (valW w st)).map .str
  | _ => none

/-- only of lists and tuples -/
def isSq : W → Bool
  | .tup _ => true
  | .lst _ => true
  | _ => false
def bReprS (ws : List W) (st : St) : Option W := match ws with
  | [w] => if isSq (valW w st) then (shwW (valW w st)).map .str else none
  | _ => none
/-- a key: an int or a text -/
def isKW : W → Bool
  | .int _ => true
  | .str _ => true
  | _ => false
/-- each once -/
def dedW : List W → List W
  | [] => []
  | w :: r => if r.any (W.beq w) = true then dedW r else w :: dedW r
def setW (w : W) (st : St) : Option (List W) := (seqOf w st).bind fun xs => if xs.all isKW = true ∧ xs.length ≤ 1000 then some (dedW xs) else none
/-- sorted(set(..)) -/
def bSset (ws : List W) (st : St) : Option W := match ws with
  | [w] => (setW w st).bind fun xs => (srtW xs).map .lst
  | _ => none
/-- len(set(..)) -/
def bSlen (ws : List W) (st : St) : Option W := match ws with
  | [w] => (setW w st).map fun xs => .int xs.length
  | _ => none
def biW (f : Bi) (ws : List W) (st : St) : Option W := match f with
  | .sset => bSset ws st | .slen => bSlen ws st
  | .len => bLen ws st | .all => bAll ws st | .any => bAny ws st | .sum => bSum ws st
  | .min1 => bMin1 ws st | .max1 => bMax1 ws st | .min2 => bMin2 ws st | .max2 => bMax2 ws st
  | .tuple => bTup ws st | .list => bLst ws st | .sorted => bSrt ws st
  | .abs => bAbs ws st | .int => bInt ws st | .bool => bBool ws st | .repr => bReprS ws st

/-! ### meaning -/
def getV (ρ : Ρ) (i : Nat) : Option W := match ρ[i]? with
  | some (some w) => some w
  | _ => none
def asBl : W → Option Bool
  | .bl b => some b
  | _ => none
/-- a test -/
def M.toB (m : M W) : M Bool := do
  let w ← m
  M.lift (asBl w)
/-- a part of a slice -/
def M.toI (m : M W) : M Int := do
  let w ← m
  M.lift (asI w)
def wipeW (ρ : Ρ) : List Nat → Ρ
  | [] => ρ
  | v :: vs => (wipeW ρ vs).set v none
/-- cells that are walked: their lists must stand as they stood -/
abbrev Gd := List (Nat × List W)
def gdOk (gd : Gd) (st : St) : Prop := ∀ p ∈ gd, st[p.1]? = some (.lst p.2)
def gd1 (p : Nat × List W) (st : St) : Bool := match st[p.1]? with
  | some (.lst xs) => decide (xs = p.2)
  | _ => false
theorem gd1_iff (p : Nat × List W) (st : St) : gd1 p st = true ↔ st[p.1]? = some (.lst p.2) := by
  unfold gd1
  split
  · rename_i xs h
    rw [h]; simp
  · rename_i h
    constructor
    · intro z; cases z
    · intro z; exact absurd z (h _)
instance (gd : Gd) (st : St) : Decidable (gdOk gd st) := decidable_of_iff (gd.all (fun p => gd1 p st) = true) (by
  unfold gdOk
  rw [List.all_eq_true]
  exact ⟨fun h p hp => (gd1_iff p st).mp (h p hp), fun h p hp => (gd1_iff p st).mpr (h p hp)⟩)
def M.chkG (gd : Gd) : M Unit := fun st => if gdOk gd st then .ok () st else .stuck
theorem M.chkG_nil : M.chkG [] = pure () := by
  funext st
  exact if_pos (fun p hp => nomatch hp)
def gdOf (w : W) (xs : List W) : Gd := match w with
  | .ref i => [(i, xs)]
  | _ => []
/-- the items that f makes of each of xs, in a row -/
def compL (gd : Gd) (f : W → M (List W)) : List W → M (List W)
  | [] => do
    M.chkG gd
    pure []
  | x :: xs => do
    M.chkG gd
    let a ← f x
    let r ← compL gd f xs
    pure (a ++ r)
def isTup : W → Bool
  | .tup _ => true
  | _ => false
def pairW (a b : W) : W := .tup [a, b]
def enumL : Nat → List W → List W
  | _, [] => []
  | i, x :: xs => .tup [.int (i : Nat), x] :: enumL (i + 1) xs
def zipL : List W → List W → List W
  | x :: xs, y :: ys => .tup [x, y] :: zipL xs ys
  | _, _ => []
def rngL (a : Int) (n : Nat) : List W := (List.range n).map fun i => .int (a + (i : Nat))
def rngOk (a b : Int) : Bool := decide (-(2 ^ 62) ≤ a ∧ a < 2 ^ 62 ∧ -(2 ^ 62) ≤ b ∧ b < 2 ^ 62 ∧ (b - a).toNat ≤ SZ)
def fieldW (w : W) (f : Str) (st : St) : Option W := match w with
  | .obj _ fs xs => (fs.zip xs).lookup f
  | .ref i => (match st[i]? with
    | some (.ins _ fs xs) => (fs.zip xs).lookup f
    | _ => none)
  | _ => none
def clsOf (w : W) (st : St) : Option Str := match w with
  | .obj c _ _ => some c
  | .ref i => (match st[i]? with
    | some (.ins c _ _) => some c
    | _ => none)
  | _ => none
mutual
/-- no function that was handed in is reached -/
def W.noclo : W → Bool
  | .tup xs => noclos xs | .lst xs => noclos xs | .dic _ xs => noclos xs | .obj _ _ xs => noclos xs | .clo _ _ => false
  | .ref _ => true | .non => true | .bl _ => true | .int _ => true | .str _ => true | .glo _ => true | .ty _ => true
def noclos : List W → Bool
  | [] => true
  | w :: ws => w.noclo && noclos ws
end
def Cell.noclo : Cell → Bool
  | .lst xs => noclos xs
  | .ins _ _ xs => noclos xs
/-- neither ahead nor behind a function that was handed in is reached -/
def M.noCl (m : M W) : M W := fun st => if st.all Cell.noclo = true then (match m st with
    | .ok w st' => if (w.noclo && st'.all Cell.noclo) = true then .ok w st' else .stuck
    | .exc c fs xs st' => if (noclos xs && st'.all Cell.noclo) = true then .exc c fs xs st' else .stuck
    | .stuck => .stuck) else .stuck
def asClo : W → Option (Nat × List W)
  | .clo n cs => some (n, cs)
  | _ => none
def getVs (ρ : Ρ) : List Nat → Option (List W)
  | [] => some []
  | i :: is => (getV ρ i).bind fun w => (getVs ρ is).map (w :: ·)
def As.len : As → Nat
  | .nil => 0
  | .cons _ r => r.len + 1
  | .star _ r => r.len + 1
def Tgs.len : Tgs → Nat
  | .nil => 0
  | .cons _ r => r.len + 1
def sz (n : Nat) : M Unit := M.chk (decide (n ≤ SZ))
def newC (c : Cell) : M W := fun st => .ok (.ref st.length) (st ++ [c])
/-- a value's type -/
def tyW (w : W) (st : St) : Option Ty := match w with
  | .non => some (.ty "NoneType") | .bl _ => some (.ty "bool") | .int _ => some (.ty "int") | .str _ => some (.ty "str")
  | .tup _ => some (.ty "tuple") | .lst _ => some (.ty "list")
  | .obj c _ _ => some (.cl c)
  | .ref i => (match st[i]? with
    | some (.lst _) => some (.ty "list")
    | some (.ins c _ _) => some (.cl c)
    | none => none)
  | _ => none
/-- list + list -/
def catW (op : Operator) (a b : W) (st : St) : Option (List W) := match op with
  | .Add => (lstOf a st).bind fun xs => (lstOf b st).bind fun ys => if xs.length + ys.length ≤ SZ then some (xs ++ ys) else none
  | _ => none
/-- the new lists of built-in functions -/
def bLC (f : Bi) (ws : List W) (st : St) : Option (List W) := match f, ws with
  | .list, [w] => seqOf w st
  | .sorted, [w] => (seqOf w st).bind srtW
  | _, _ => none
inductive Fl where
  | nx (ρ : Ρ) | rt (w : W)
def appC (v w : W) : M Unit := fun st => match v with
  | .ref i => (match st[i]? with
    | some (.lst xs) => if xs.length < SZ then .ok () (st.set i (.lst (xs ++ [w]))) else .stuck
    | _ => .stuck)
  | _ => .stuck
def extC (v : W) (ys : List W) : M Unit := fun st => match v with
  | .ref i => (match st[i]? with
    | some (.lst xs) => if xs.length + ys.length ≤ SZ then .ok () (st.set i (.lst (xs ++ ys))) else .stuck
    | _ => .stuck)
  | _ => .stuck
def setF (C : Cf) (v : W) (f : Str) (w : W) : M Unit := fun st => match v with
  | .ref i => (match st[i]? with
    | some (.ins c fs xs) => if C.att c f = true ∧ fs.length < 1000 then (if f ∈ fs then .ok () (st.set i (.ins c fs (xs.set (fs.idxOf f) w))) else .ok () (st.set i (.ins c (fs ++ [f]) (xs ++ [w])))) else .stuck
    | _ => .stuck)
  | _ => .stuck
def setI (v k w : W) : M Unit := fun st => match v, k with
  | .ref a, .int j => (match st[a]? with
    | some (.lst xs) => (match L2.ixN xs.length j with
      | some n => .ok () (st.set a (.lst (xs.set n w)))
      | none => .stuck)
    | _ => .stuck)
  | _, _ => .stuck
def getF (C : Cf) (w : W) (f : Str) (st : St) : Option W := (clsOf w st).bind fun c => if C.att c f = true then fieldW w f st else none

section
variable (C : Cf)
mutual
def ev : Ex → Ρ → M W
  | .var i, ρ => M.lift (getV ρ i)
  | .glo x, _ => M.lift (C.gv x)
  | .cst w, _ => pure w
  | .tup es, ρ => do
    let ws ← evs es ρ
    sz ws.length
    pure (.tup ws)
  | .lst es, ρ => do
    let ws ← evs es ρ
    sz ws.length
    pure (.lst ws)
  | .bin op a b, ρ => do
    let x ← ev a ρ
    let y ← ev b ρ
    M.lift (binW op x y (← M.get))
  | .neg a, ρ => do
    let x ← ev a ρ
    let i ← M.lift (asI x)
    pure (.int (-i))
  | .not a, ρ => do
    let b ← M.toB (ev a ρ)
    pure (.bl (!b))
  | .and a b, ρ => do
    let x ← M.toB (ev a ρ)
    if x = true then do
      let y ← M.toB (ev b ρ)
      pure (.bl y)
    else pure (.bl false)
  | .or a b, ρ => do
    let x ← M.toB (ev a ρ)
    if x = true then pure (.bl true) else do
      let y ← M.toB (ev b ρ)
      pure (.bl y)
  | .ite c a b, ρ => do
    let x ← M.toB (ev c ρ)
    if x = true then ev a ρ else ev b ρ
  | .cmp op a b, ρ => do
    let x ← ev a ρ
    let y ← ev b ρ
    let r ← M.lift (cmpW op x y (← M.get))
    pure (.bl r)
  | .cmp2 o p a b c, ρ => do
    let x ← ev a ρ
    let y ← ev b ρ
    let r ← M.lift (cmpW o x y (← M.get))
    if r = true then do
      let z ← ev c ρ
      let q ← M.lift (cmpW p y z (← M.get))
      pure (.bl q)
    else pure (.bl false)
  | .call x es ks kes, ρ => do
    let ws ← evs es ρ
    let zs ← evs kes ρ
    let f ← M.lift (C.fn x ws.length ks)
    f ws zs
  | .bi f es, ρ => do
    let ws ← evs es ρ
    M.lift (biW f ws (← M.get))
  | .isi e t, ρ => do
    let w ← ev e ρ
    let y ← M.lift (tyW w (← M.get))
    let b ← M.lift (C.isi y t)
    pure (.bl b)
  | .callV i es, ρ => do
    let w ← M.lift (getV ρ i)
    let c ← M.lift (asClo w)
    let ws ← evs es ρ
    C.lam c.1 c.2 ws
  | .meth o m es, ρ => do
    let w ← ev o ρ
    let ws ← evs es ρ
    let c ← M.lift (clsOf w (← M.get))
    let f ← M.lift (C.mt c m (ws.length + 1))
    f (w :: ws)
  | .attr o f, ρ => do
    let w ← ev o ρ
    M.lift (getF C w f (← M.get))
  | .ix a b, ρ => do
    let x ← ev a ρ
    let y ← ev b ρ
    M.lift (ixW x y (← M.get))
  | .sl a lo hi, ρ => do
    let x ← ev a ρ
    let l ← M.toI (ev lo ρ)
    let h ← M.toI (ev hi ρ)
    M.lift (slW x (some l) (some h) (← M.get))
  | .slL a lo, ρ => do
    let x ← ev a ρ
    let l ← M.toI (ev lo ρ)
    M.lift (slW x (some l) none (← M.get))
  | .slH a hi, ρ => do
    let x ← ev a ρ
    let h ← M.toI (ev hi ρ)
    M.lift (slW x none (some h) (← M.get))
  | .slN a, ρ => do
    let x ← ev a ρ
    M.lift (slW x none none (← M.get))
  | .comp elt t it ifs own, ρ => do
    let xs ← evI it ρ
    sz xs.1.length
    let ws ← compL xs.2 (fun x => M.nox (do
      let ρ2 ← asg t x (wipeW ρ own)
      let b ← evT ifs ρ2
      if b = true then do
        let w ← ev elt ρ2
        pure [w]
      else pure [])) xs.1
    pure (.lst ws)
  | .comp2 elt t it ifs t2 it2 ifs2 own own2, ρ => do
    let xs ← evI it ρ
    M.chk (decide (xs.1.length ≤ 4096))
    let ws ← compL xs.2 (fun x => do
      let r ← M.nox (do
        let ρ2 ← asg t x (wipeW ρ own)
        let b ← evT ifs ρ2
        if b = true then do
          let ys ← evI it2 ρ2
          M.chk (decide (ys.1.length ≤ 4096))
          pure (some (ρ2, ys.1, ys.2))
        else pure none)
      match r with
      | some r => compL r.2.2 (fun y => M.nox (do
            let ρ3 ← asg t2 y (wipeW r.1 own2)
            let c ← evT ifs2 ρ3
            if c = true then do
              let w ← ev elt ρ3
              pure [w]
            else pure [])) r.2.1
      | none => pure []) xs.1
    pure (.lst ws)
  | .callL x es n np nf sl body caps, ρ => do
    let h ← M.lift (C.hof x (es.len + 1))
    let ws ← evs es ρ
    let cs ← M.lift (getVs ρ caps)
    M.chk (noclos ws && noclos cs)
    M.noCl (h (fun _ => C.lamF np nf sl body) (ws ++ [.clo n cs]))
  | .it _, _ => M.stuck
  | .rng _ _, _ => M.stuck
  | .enm _, _ => M.stuck
  | .zip _ _, _ => M.stuck
  | .nw e, ρ => do
    let ws ← evC e ρ
    newC (.lst ws)
/-- a new list's items -/
def evC : Ex → Ρ → M (List W)
  | .lst es, ρ => do
    let ws ← evs es ρ
    sz ws.length
    pure ws
  | .comp elt t it ifs own, ρ => do
    let xs ← evI it ρ
    sz xs.1.length
    let ws ← compL xs.2 (fun x => M.nox (do
      let ρ2 ← asg t x (wipeW ρ own)
      let b ← evT ifs ρ2
      if b = true then do
        let w ← ev elt ρ2
        pure [w]
      else pure [])) xs.1
    pure ws
  | .comp2 elt t it ifs t2 it2 ifs2 own own2, ρ => do
    let xs ← evI it ρ
    M.chk (decide (xs.1.length ≤ 4096))
    let ws ← compL xs.2 (fun x => do
      let r ← M.nox (do
        let ρ2 ← asg t x (wipeW ρ own)
        let b ← evT ifs ρ2
        if b = true then do
          let ys ← evI it2 ρ2
          M.chk (decide (ys.1.length ≤ 4096))
          pure (some (ρ2, ys.1, ys.2))
        else pure none)
      match r with
      | some r => compL r.2.2 (fun y => M.nox (do
            let ρ3 ← asg t2 y (wipeW r.1 own2)
            let c ← evT ifs2 ρ3
            if c = true then do
              let w ← ev elt ρ3
              pure [w]
            else pure [])) r.2.1
      | none => pure []) xs.1
    pure ws
  | .bin op a b, ρ => do
    let x ← ev a ρ
    let y ← ev b ρ
    M.lift (catW op x y (← M.get))
  | .bi f es, ρ => do
    let ws ← evs es ρ
    M.lift (bLC f ws (← M.get))
  | .var _, _ => M.stuck | .glo _, _ => M.stuck | .cst _, _ => M.stuck | .tup _, _ => M.stuck | .neg _, _ => M.stuck | .not _, _ => M.stuck
  | .and _ _, _ => M.stuck | .or _ _, _ => M.stuck | .ite _ _ _, _ => M.stuck | .cmp _ _ _, _ => M.stuck | .cmp2 _ _ _ _ _, _ => M.stuck
  | .call _ _ _ _, _ => M.stuck | .isi _ _, _ => M.stuck | .callV _ _, _ => M.stuck | .meth _ _ _, _ => M.stuck | .attr _ _, _ => M.stuck
  | .ix _ _, _ => M.stuck | .sl _ _ _, _ => M.stuck | .slL _ _, _ => M.stuck | .slH _ _, _ => M.stuck | .slN _, _ => M.stuck
  | .callL _ _ _ _ _ _ _ _, _ => M.stuck | .it _, _ => M.stuck | .rng _ _, _ => M.stuck | .enm _, _ => M.stuck
  | .zip _ _, _ => M.stuck | .nw _, _ => M.stuck
/-- what is walked -/
def evI : Ex → Ρ → M (List W × Gd)
  | .it e, ρ => do
    let w ← ev e ρ
    let xs ← M.lift (itemsOf w (← M.get))
    pure (xs, gdOf w xs)
  | .rng a b, ρ => do
    let x ← ev a ρ
    let y ← ev b ρ
    let i ← M.lift (asI x)
    let j ← M.lift (asI y)
    M.chk (rngOk i j)
    pure (rngL i (j - i).toNat, [])
  | .enm e, ρ => do
    let w ← ev e ρ
    let xs ← M.lift (seqOf w (← M.get))
    pure (enumL 0 xs, gdOf w xs)
  | .zip a b, ρ => do
    let x ← ev a ρ
    let y ← ev b ρ
    M.chk (isTup x == isTup y)
    let xs ← M.lift (seqOf x (← M.get))
    let ys ← M.lift (seqOf y (← M.get))
    pure (zipL xs ys, gdOf x xs ++ gdOf y ys)
  | .var _, _ => M.stuck | .glo _, _ => M.stuck | .cst _, _ => M.stuck | .tup _, _ => M.stuck | .neg _, _ => M.stuck | .not _, _ => M.stuck
  | .and _ _, _ => M.stuck | .or _ _, _ => M.stuck | .ite _ _ _, _ => M.stuck | .cmp _ _ _, _ => M.stuck | .cmp2 _ _ _ _ _, _ => M.stuck
  | .call _ _ _ _, _ => M.stuck | .isi _ _, _ => M.stuck | .callV _ _, _ => M.stuck | .meth _ _ _, _ => M.stuck | .attr _ _, _ => M.stuck
  | .ix _ _, _ => M.stuck | .sl _ _ _, _ => M.stuck | .slL _ _, _ => M.stuck | .slH _ _, _ => M.stuck | .slN _, _ => M.stuck
  | .comp2 _ _ _ _ _ _ _ _ _, _ => M.stuck | .callL _ _ _ _ _ _ _ _, _ => M.stuck | .nw _, _ => M.stuck
  | .lst _, _ => M.stuck | .comp _ _ _ _ _, _ => M.stuck | .bin _ _ _, _ => M.stuck | .bi _ _, _ => M.stuck
/-- a clause's tests: one at most -/
def evT : As → Ρ → M Bool
  | .nil, _ => pure true
  | .cons e .nil, ρ => M.toB (ev e ρ)
  | .cons _ (.cons _ _), _ => M.stuck
  | .cons _ (.star _ _), _ => M.stuck
  | .star _ _, _ => M.stuck
def evs : As → Ρ → M (List W)
  | .nil, _ => pure []
  | .cons e r, ρ => do
    let w ← ev e ρ
    let ws ← evs r ρ
    pure (w :: ws)
  | .star e r, ρ => do
    let w ← ev e ρ
    let xs ← M.lift (seqOf w (← M.get))
    let ws ← evs r ρ
    pure (xs ++ ws)
/-- stores -/
def asg : Tg → W → Ρ → M Ρ
  | .var i, w, ρ => pure (ρ.set i (some w))
  | .tup ts, w, ρ => do
    let xs ← M.lift (seqOf w (← M.get))
    M.chk (decide (xs.length = ts.len))
    asgs ts xs ρ
  | .attr o f, w, ρ => do
    let v ← ev o ρ
    setF C v f w
    pure ρ
  | .ix o i, w, ρ => do
    let v ← ev o ρ
    let k ← ev i ρ
    setI v k w
    pure ρ
def asgs : Tgs → List W → Ρ → M Ρ
  | .nil, [], ρ => pure ρ
  | .cons t r, x :: xs, ρ => do
    let ρ2 ← asg t x ρ
    asgs r xs ρ2
  | .nil, _ :: _, _ => M.stuck
  | .cons _ _, [], _ => M.stuck
end

/-! ### statements -/
def forL (gd : Gd) (t : W → Ρ → M Ρ) (b : Ρ → M Fl) : List W → Ρ → M Fl
  | [], ρ => do
    M.chkG gd
    pure (.nx ρ)
  | x :: xs, ρ => do
    M.chkG gd
    let ρ2 ← t x ρ
    let r ← b ρ2
    match r with
    | .nx ρ3 => forL gd t b xs ρ3
    | .rt w => pure (.rt w)
def whL (c : Ρ → M Bool) (b : Ρ → M Fl) : Nat → Ρ → M Fl
  | 0, _ => M.stuck
  | n + 1, ρ => do
    let t ← c ρ
    if t = true then do
      let r ← b ρ
      match r with
      | .nx ρ2 => whL c b n ρ2
      | .rt w => pure (.rt w)
    else pure (.nx ρ)
mutual
def exec : Sx → Ρ → M Fl
  | .set t e, ρ => do
    let w ← ev C e ρ
    let ρ2 ← M.nox (asg C t w ρ)
    pure (.nx ρ2)
  | .app o e, ρ => do
    let v ← ev C o ρ
    let _ ← M.lift (lstOf v (← M.get))
    let w ← ev C e ρ
    appC v w
    pure (.nx ρ)
  | .ext o e, ρ => do
    let v ← ev C o ρ
    let _ ← M.lift (lstOf v (← M.get))
    let ws ← evC C e ρ
    extC v ws
    pure (.nx ρ)
  | .drop e, ρ => do
    let _ ← ev C e ρ
    pure (.nx ρ)
  | .ret e, ρ => do
    let w ← ev C e ρ
    pure (.rt w)
  | .retN, _ => pure (.rt .non)
  | .pass, ρ => pure (.nx ρ)
  | .ifs c a b, ρ => do
    let t ← M.toB (ev C c ρ)
    if t = true then execs a ρ else execs b ρ
  | .for_ t it b, ρ => do
    let xs ← evI C it ρ
    forL xs.2 (fun x ρ => M.nox (asg C t x ρ)) (execs b) xs.1 ρ
  | .while_ c b, ρ => whL (fun ρ => M.toB (ev C c ρ)) (execs b) C.fuel ρ
  | .raise_ x es, ρ => do
    let ws ← evs C es ρ
    let fs ← M.lift (C.xc x)
    if fs.length = ws.length then fun st => .exc x fs ws st else M.stuck
  | .never, _ => M.stuck
def execs : Sxs → Ρ → M Fl
  | .nil, ρ => pure (.nx ρ)
  | .cons s r, ρ => do
    let f ← exec s ρ
    match f with
    | .nx ρ2 => execs r ρ2
    | .rt w => pure (.rt w)
end
end

/-! ### defs -/
mutual
/-- no cell at n or above is reached -/
def W.low (n : Nat) : W → Bool
  | .tup xs => lows n xs | .lst xs => lows n xs | .dic _ xs => lows n xs | .obj _ _ xs => lows n xs | .clo _ xs => lows n xs
  | .ref i => decide (i < n)
  | .non => true | .bl _ => true | .int _ => true | .str _ => true | .glo _ => true | .ty _ => true
def lows (n : Nat) : List W → Bool
  | [] => true
  | w :: ws => w.low n && lows n ws
end
def Cell.low (n : Nat) : Cell → Bool
  | .lst xs => lows n xs
  | .ins _ _ xs => lows n xs
/-- a cell's value, fixed -/
def Cell.val : Cell → W
  | .lst xs => .lst xs
  | .ins c fs xs => .obj c fs xs
/-- a def's end: the cells made within are gone; what is returned is fixed, or stays a cell -/
def fin (mu : Bool) (n : Nat) (r : R Fl) : R W := match r with
  | .ok f st =>
    let w := match f with
      | .nx _ => W.non
      | .rt w => w
    if (st.take n).all (Cell.low n) && decide (n ≤ st.length) then
      (if w.low n then .ok w (st.take n) else match w with
        | .ref i => (match st[i]? with
          | some c => if c.low n then (if mu then .ok (.ref n) (st.take n ++ [c]) else .ok c.val (st.take n)) else .stuck
          | none => .stuck)
        | _ => .stuck)
    else .stuck
  | .exc c fs xs st => if (st.take n).all (Cell.low n) && decide (n ≤ st.length) && lows n xs then .exc c fs xs (st.take n) else .stuck
  | .stuck => .stuck
/-- a lambda's call: cs what it got from its maker -/
def lamW (C : Cf) (ps fr slots : Nat) (body : Ex) (cs as : List W) : M W := fun st =>
  if as.length = ps ∧ cs.length = fr ∧ ps + fr ≤ slots then fin false st.length ((ev C body (as.map some ++ (cs.map some ++ List.replicate (slots - ps - fr) none)) >>= fun w => pure (.rt w)) st) else .stuck
structure Fd where
  ps : Nat
  slots : Nat
  body : Sxs
  mu : Bool
def runF (C : Cf) (fd : Fd) (ws : List W) : M W := fun st =>
  if ws.length = fd.ps ∧ fd.ps ≤ fd.slots then fin fd.mu st.length (execs C fd.body (ws.map some ++ List.replicate (fd.slots - fd.ps) none) st) else .stuck
/-- C(..): rn is the bound __init__ -/
def mkW (c : Str) (mu : Bool) (rn : List W → List W → M W) (ws zs : List W) : M W := fun st => match rn (.ref st.length :: ws) zs (st ++ [.ins c [] []]) with
  | .ok w st2 => (match w with
    | .non => fin mu st.length (.ok (.rt (.ref st.length)) st2)
    | _ => .stuck)
  | .exc c fs xs st2 => fin mu st.length (.exc c fs xs st2)
  | .stuck => .stuck
/-- how values are bound: us by position, zs by the names ks, defaults -/
def bindW (dfl : List (Str × W)) (ks : List Str) (zs : List W) : List Str → List W → Option (List W)
  | [], [] => some []
  | [], _ :: _ => none
  | _ :: ps, u :: us => (bindW dfl ks zs ps us).map (u :: ·)
  | p :: ps, [] => (match (ks.zip zs).lookup p with
    | some z => some z
    | none => dfl.lookup p).bind fun w => (bindW dfl ks zs ps []).map (w :: ·)
end Pf

/-! part P3 -/
set_option Elab.async false
set_option linter.all false
set_option maxRecDepth 100000
set_option autoImplicit false
/-! How a run of the fragment lies to the readings of the hand layer. -/
namespace Pf
open PySem PySem.Spec PyProof.Rows L2

abbrev Sl := L2.St
/-- the slots -/
structure RelSl (S : Sta) (G : Wd) (σ : Sl) (ρ : Ρ) : Prop where
  len : ρ.length = σ.length
  at_ : ∀ (i : Nat) (w : W), ρ[i]? = some (some w) → ∃ v, σ[i]? = some (some v) ∧ RelW S G v w
theorem RelSl.grow {S : Sta} {G G' : Wd} {σ : Sl} {ρ : Ρ} (h : RelSl S G σ ρ) (g : Grow G G') : RelSl S G' σ ρ :=
  ⟨h.len, fun i w e => let ⟨v, e1, r⟩ := h.at_ i w e; ⟨v, e1, RelW.grow g w v r⟩⟩
theorem RelSl.get {S : Sta} {G : Wd} {σ : Sl} {ρ : Ρ} (h : RelSl S G σ ρ) {i : Nat} {w : W} (e : getV ρ i = some w) : ∃ v, σ[i]? = some (some v) ∧ RelW S G v w := by
  unfold getV at e
  split at e
  · rename_i u q
    cases e
    exact h.at_ i w q
  · cases e
theorem RelSl.set {S : Sta} {G : Wd} {σ : Sl} {ρ : Ρ} (h : RelSl S G σ ρ) (i : Nat) {v : V} {w : W} (r : RelW S G v w) : RelSl S G (σ.set i (some v)) (ρ.set i (some w)) := by
  refine ⟨by simpa using h.len, fun j u e => ?_⟩
  by_cases hj : i = j
  · subst hj
    by_cases hl : i < ρ.length
    · rw [List.getElem?_set_self hl] at e
      cases e
      exact ⟨v, List.getElem?_set_self (by rw [← h.len]; exact hl), r⟩
    · rw [List.getElem?_eq_none (by simpa using hl)] at e
      cases e
  · rw [List.getElem?_set_ne hj] at e
    obtain ⟨v', e1, r'⟩ := h.at_ j u e
    exact ⟨v', by rw [List.getElem?_set_ne hj]; exact e1, r'⟩
theorem RelSl.setN {S : Sta} {G : Wd} {σ : Sl} {ρ : Ρ} (h : RelSl S G σ ρ) (i : Nat) : RelSl S G (σ.set i none) (ρ.set i none) := by
  refine ⟨by simpa using h.len, fun j u e => ?_⟩
  by_cases hj : i = j
  · subst hj
    by_cases hl : i < ρ.length
    · rw [List.getElem?_set_self hl] at e
      cases e
    · rw [List.getElem?_eq_none (by simpa using hl)] at e
      cases e
  · rw [List.getElem?_set_ne hj] at e
    obtain ⟨v', e1, r'⟩ := h.at_ j u e
    exact ⟨v', by rw [List.getElem?_set_ne hj]; exact e1, r'⟩
theorem RelSl.wipe {S : Sta} {G : Wd} {σ : Sl} {ρ : Ρ} (h : RelSl S G σ ρ) : ∀ vs : List Nat, RelSl S G (L2.wipe σ vs) (wipeW ρ vs)
  | [] => h
  | v :: vs => by unfold L2.wipe wipeW; exact (RelSl.wipe h vs).setN v

/-- a run's start -/
structure At (S : Sta) (σ : Sl) (H : Hp) (G : Wd) (ρ : Ρ) (st : St) : Prop where
  hp : G.H = H
  st : RelSt S G st
  sl : RelSl S G σ ρ

/-- what is wanted of a run -/
def Fin (S : Sta) (Wx : WX) (σ : Sl) (G : Wd) {α : Type} (P : α → Wd → St → Prop) : R α → Prop
  | .ok a st' => ∀ G', Grow G G' → RelSt S G' st' → P a G' st'
  | .exc c fs xs st' => ∀ G' C d kvs, Grow G G' → RelSt S G' st' → S.gv c = some (.ref C) → G'.H d = some (.xd kvs) → kvs.map (·.1) = fs → RelWs S G' (kvs.map (·.2)) xs → Wx (.ref C) (some d) σ G'.H
  | .stuck => False
theorem Fin.grow {S : Sta} {Wx : WX} {σ : Sl} {G G1 : Wd} {α : Type} {P : α → Wd → St → Prop} {r : R α} (g : Grow G G1) (h : Fin S Wx σ G P r) : Fin S Wx σ G1 P r := by
  cases r with
  | ok a st' => exact fun G' g' rs => h G' (g.trans g') rs
  | exc c fs xs st' => exact fun G' C d kvs g' rs => h G' C d kvs (g.trans g') rs
  | stuck => exact h
theorem Fin.imp {S : Sta} {Wx : WX} {σ : Sl} {G : Wd} {α : Type} {P P' : α → Wd → St → Prop} {r : R α} (h : Fin S Wx σ G P r) (i : ∀ a G' st', Grow G G' → RelSt S G' st' → P a G' st' → P' a G' st') : Fin S Wx σ G P' r := by
  cases r with
  | ok a st' => exact fun G' g' rs => i a G' st' g' rs (h G' g' rs)
  | exc c fs xs st' => exact h
  | stuck => exact h
theorem Fin.bind {S : Sta} {Wx : WX} {σ : Sl} {G : Wd} {α β : Type} {P : β → Wd → St → Prop} {m : M α} {k : α → M β} {st : St} (h : Fin S Wx σ G P ((m >>= k) st)) :
    Fin S Wx σ G (fun a G' st' => Fin S Wx σ G' P (k a st')) (m st) := by
  have h : Fin S Wx σ G P (M.bind m k st) := h
  unfold M.bind at h
  cases e : m st with
  | ok a st' => rw [e] at h; exact fun G' g _ => Fin.grow g h
  | exc c fs xs st' => rw [e] at h; exact h
  | stuck => rw [e] at h; exact h
theorem Fin.lift {S : Sta} {Wx : WX} {σ : Sl} {G : Wd} {α β : Type} {P : β → Wd → St → Prop} {o : Option α} {k : α → M β} {st : St} (h : Fin S Wx σ G P ((M.lift o >>= k) st)) :
    ∃ a, o = some a ∧ Fin S Wx σ G P (k a st) := by
  cases o with
  | none => exact h.elim
  | some a => exact ⟨a, rfl, h⟩
theorem Fin.lift1 {S : Sta} {Wx : WX} {σ : Sl} {G : Wd} {α : Type} {P : α → Wd → St → Prop} {o : Option α} {st : St} (h : Fin S Wx σ G P (M.lift o st)) :
    ∃ a, o = some a ∧ ∀ G', Grow G G' → RelSt S G' st → P a G' st := by
  cases o with
  | none => exact h.elim
  | some a => exact ⟨a, rfl, h⟩
theorem Fin.chk {S : Sta} {Wx : WX} {σ : Sl} {G : Wd} {β : Type} {P : β → Wd → St → Prop} {b : Bool} {k : Unit → M β} {st : St} (h : Fin S Wx σ G P ((M.chk b >>= k) st)) :
    b = true ∧ Fin S Wx σ G P (k () st) := by
  have h : Fin S Wx σ G P (M.bind (M.chk b) k st) := h
  unfold M.bind M.chk at h
  cases b with
  | true => exact ⟨rfl, h⟩
  | false => exact h.elim

/-- readings: an expression's, a test's, an argument list's -/
def tE (S : Sta) (Wx : WX) (f : Ρ → M W) : TE := fun σ H Q => ∃ G ρ st, At S σ H G ρ st ∧ Fin S Wx σ G (fun w G' _ => ∀ v, RelW S G' v w → Q v G'.H) (f ρ st)
def tT (S : Sta) (Wx : WX) (f : Ρ → M Bool) : TT := fun σ H Q => ∃ G ρ st, At S σ H G ρ st ∧ Fin S Wx σ G (fun b G' _ => Q b G'.H) (f ρ st)
def tA (S : Sta) (Wx : WX) (f : Ρ → M (List W)) : TA := fun σ H Q => ∃ G ρ st, At S σ H G ρ st ∧ Fin S Wx σ G (fun ws G' _ => ∀ vs, RelWs S G' vs ws → Q vs G'.H) (f ρ st)

theorem tE.mono {S : Sta} {Wx : WX} {f : Ρ → M W} {σ : Sl} {H : Hp} {Q Q' : VK} (h : tE S Wx f σ H Q) (i : ∀ v H', Q v H' → Q' v H') : tE S Wx f σ H Q' := by
  obtain ⟨G, ρ, st, a, fi⟩ := h
  exact ⟨G, ρ, st, a, fi.imp fun w G' _ _ _ q v r => i _ _ (q v r)⟩
/-- behind a part -/
structure Bh (S : Sta) (σ : Sl) (H1 : Hp) (G : Wd) (ρ : Ρ) (x : V) (G1 : Wd) (w : W) (st1 : St) : Prop where
  at_ : At S σ H1 G1 ρ st1
  gr : Grow G G1
  rel : RelW S G1 x w
theorem bindE {S : Sta} {Wx : WX} {σ : Sl} {H : Hp} {G : Wd} {ρ : Ρ} {st : St} {f : Ρ → M W} {α : Type} {k : W → M α} {P : α → Wd → St → Prop} {Q : VK} (a : At S σ H G ρ st) (h : Fin S Wx σ G P ((f ρ >>= k) st))
    (i : ∀ x H1 G1 w st1, Bh S σ H1 G ρ x G1 w st1 → Fin S Wx σ G1 P (k w st1) → Q x H1) : tE S Wx f σ H Q := by
  refine ⟨G, ρ, st, a, h.bind.imp fun w G' st' g rs fi v r => ?_⟩
  exact i v G'.H G' w st' ⟨⟨rfl, rs, a.sl.grow g⟩, g, r⟩ fi
theorem bindA {S : Sta} {Wx : WX} {σ : Sl} {H : Hp} {G : Wd} {ρ : Ρ} {st : St} {f : Ρ → M (List W)} {α : Type} {k : List W → M α} {P : α → Wd → St → Prop} {Q : List V → Hp → Prop} (a : At S σ H G ρ st) (h : Fin S Wx σ G P ((f ρ >>= k) st))
    (i : ∀ xs H1 G1 ws st1, At S σ H1 G1 ρ st1 → Grow G G1 → RelWs S G1 xs ws → Fin S Wx σ G1 P (k ws st1) → Q xs H1) : tA S Wx f σ H Q := by
  refine ⟨G, ρ, st, a, h.bind.imp fun w G' st' g rs fi v r => ?_⟩
  exact i v G'.H G' w st' ⟨rfl, rs, a.sl.grow g⟩ g r fi
theorem bindT {S : Sta} {Wx : WX} {σ : Sl} {H : Hp} {G : Wd} {ρ : Ρ} {st : St} {f : Ρ → M Bool} {α : Type} {k : Bool → M α} {P : α → Wd → St → Prop} {Q : Bool → Hp → Prop} (a : At S σ H G ρ st) (h : Fin S Wx σ G P ((f ρ >>= k) st))
    (i : ∀ b H1 G1 st1, At S σ H1 G1 ρ st1 → Grow G G1 → Fin S Wx σ G1 P (k b st1) → Q b H1) : tT S Wx f σ H Q := by
  refine ⟨G, ρ, st, a, h.bind.imp fun w G' st' g rs fi => ?_⟩
  exact i w G'.H G' st' ⟨rfl, rs, a.sl.grow g⟩ g fi

theorem _root_.L2.PE.impW {X : Cx} {e : Expr} {t t' : TE} (h : PE X e t) (i : ∀ σ H Q, t' σ H Q → t σ H Q) : PE X e t' := ⟨fun pins s σ H Q I q => h.run pins s σ H Q I (i σ H Q q)⟩
theorem _root_.L2.PT.impW {X : Cx} {e : Expr} {t t' : TT} (h : PT X e t) (i : ∀ σ H Q, t' σ H Q → t σ H Q) : PT X e t' := ⟨fun pins s σ H Q I q => h.run pins s σ H Q I (i σ H Q q)⟩
theorem _root_.L2.PA.impW {X : Cx} {es : List Expr} {t t' : TA} (h : PA X es t) (i : ∀ σ H Q, t' σ H Q → t σ H Q) : PA X es t' := ⟨fun pos pins s σ H Q I q => h.run pos pins s σ H Q I (i σ H Q q)⟩
end Pf

/-! part P4 -/
set_option Elab.async false
set_option linter.all false
set_option maxRecDepth 100000
set_option autoImplicit false
/-! Each operation of the fragment against the hand layer's rule. -/
namespace Pf
open PySem PySem.Spec PyProof.Rows L2

theorem SZ_eq : SZ = sizeLine := by rw [sizeLine_eq]; rfl

/-! ### freezing -/
section
variable {X : Cx} {pins : List (Addr × Obj)} {σ : Sl} {H : Hp} {s : Shared}
theorem frz_un {p : Addr} {u : HO} {o : Obj} {fs ex : List Addr} {h : Heap} (hp : H p = some u) (n1 : ∀ xs, u ≠ .tup xs) (n2 : ∀ ps, u ≠ .tbl ps) (n3 : ∀ o' u', u ≠ .frz o' u') : Un fs ex H (upd H p (.frz o u)) h h where
  keep := fun b ob q _ _ _ => q
  slot := fun b ob q _ _ _ => ⟨ob.slots, q⟩
  free := fun b ob q n _ => by rw [upd_ne (ne_of_none hp n).symm]; exact n
  there := fun b ob q _ => ⟨ob, q⟩
  tups := fun b xs q => by rw [upd_ne (fun e => n1 xs (by rw [e, hp] at q; exact Option.some.inj q))]; exact q
  frzs := fun b ob xs q => by rw [upd_ne (fun e => n3 ob xs (by rw [e, hp] at q; exact Option.some.inj q))]; exact q
  tbls := fun b ps q => ⟨#[], by rw [upd_ne (fun e => n2 ps (by rw [e, hp] at q; exact Option.some.inj q)), q]; simp⟩
theorem frz_hok {P : Program} {w : World} {p : Addr} {u : HO} {o : Obj} {h : Heap} (k : HOk P w H h) (hp : H p = some u) (ho : h.get? p = some o) (n1 : ∀ xs, u ≠ .tup xs) (n4 : ∀ a, u ≠ .own a) : HOk P w (upd H p (.frz o u)) h := fun b v e => by
  have own : ∀ c y, H c = some (.own y) → (upd H p (.frz o u)) c = some (.own y) := fun c y q => by rw [upd_ne (fun e => n4 y (by rw [e, hp] at q; exact Option.some.inj q))]; exact q
  have tup : ∀ c xs, H c = some (.tup xs) → (upd H p (.frz o u)) c = some (.tup xs) := fun c xs q => by rw [upd_ne (fun e => n1 xs (by rw [e, hp] at q; exact Option.some.inj q))]; exact q
  by_cases hb : b = p
  · subst hb
    rw [upd_same] at e
    cases e
    exact ⟨ho, (k b u hp).stay (fun _ _ _ q => q) (fun c q => own c b q) tup⟩
  · rw [upd_ne hb] at e
    exact (k b v e).stay (fun _ _ _ q => q) (fun c q => own c b q) tup
theorem Inv.frz (I : Inv X pins σ H s) {p : Addr} {u : HO} (hp : H p = some u) (n1 : ∀ xs, u ≠ .tup xs) (n2 : ∀ ps, u ≠ .tbl ps) (n3 : ∀ o' u', u ≠ .frz o' u') (n4 : ∀ a, u ≠ .own a) : ∃ o, Inv X pins σ (upd H p (.frz o u)) s := by
  have hlt := I.hok.lt hp
  obtain ⟨o, ho⟩ : ∃ o, s.heap.get? p = some o := by
    have q := I.hok p u hp
    cases u with
    | lst xs => obtain ⟨_, _, _, _, e⟩ := q; exact ⟨_, e⟩
    | tup xs => exact absurd rfl (n1 xs)
    | dK kvs => obtain ⟨_, _, _, _, o, _, _, e, _⟩ := q; exact ⟨_, e⟩
    | dT kvs => obtain ⟨_, _, _, _, o, _, _, e, _⟩ := q; exact ⟨_, e⟩
    | set S n => obtain ⟨o, _, _, _, e, _⟩ := q; exact ⟨_, e⟩
    | ins C dx fs => obtain ⟨_, _, _, e, _⟩ := q; exact ⟨_, e⟩
    | own y => exact absurd rfl (n4 y)
    | xd fs => obtain ⟨_, ⟨_, _, _, e, _⟩, _⟩ := q; exact ⟨_, e⟩
    | rng lo hi => obtain ⟨_, _, _, e⟩ := q; exact ⟨_, e⟩
    | frz ob u => exact absurd rfl (n3 ob u)
    | tbl ps => exact absurd rfl (n2 ps)
    | met f y => exact ⟨_, show s.heap.get? p = some _ from q⟩
    | ext φ => obtain ⟨_, ⟨_, e⟩, _⟩ := q; exact ⟨_, e⟩
  exact ⟨o, Inv.un (t' := s.toks) I (frz_un hp n1 n2 n3) (frz_hok I.hok hp ho n1 n4)⟩
/-- a new list is known from now on -/
def tFrz (t : TE) : TE := fun σ H Q => t σ H fun v H1 => ∃ p xs, v = .ref p ∧ H1 p = some (.lst xs) ∧ ∀ o, Q v (upd H1 p (.frz o (.lst xs)))
theorem pe_frz {e : Expr} {t : TE} (h : PE X e t) : PE X e (tFrz t) := ⟨fun pins s σ H Q I q => thn (h.run pins s σ H _ I q) fun u s1 ⟨v, H1, I1, r, p, xs, e1, e2, q1⟩ => by
  obtain ⟨o, I2⟩ := Inv.frz I1 e2 (fun _ z => by cases z) (fun _ z => by cases z) (fun _ _ z => by cases z) (fun _ z => by cases z)
  exact ⟨v, _, I2, r, q1 o⟩⟩
/-- .. of an operator's value -/
def rFrz (r : R2) : R2 := fun x y H Q => r x y H fun v H1 => ∃ p xs, v = .ref p ∧ H1 p = some (.lst xs) ∧ ∀ o, Q v (upd H1 p (.frz o (.lst xs)))
theorem ep_frz {Q : VK} {u : Value} (h : EP X pins σ (fun v H1 => ∃ p xs, v = .ref p ∧ H1 p = some (.lst xs) ∧ ∀ o, Q v (upd H1 p (.frz o (.lst xs)))) u s) : EP X pins σ Q u s := by
  obtain ⟨v, H1, I1, r, p, xs, e1, e2, q1⟩ := h
  obtain ⟨o, I2⟩ := Inv.frz I1 e2 (fun _ z => by cases z) (fun _ z => by cases z) (fun _ _ z => by cases z) (fun _ z => by cases z)
  exact ⟨v, _, I2, r, q1 o⟩
end

/-! ### growing -/
section
variable {S : Sta} {G : Wd} {st : St}
/-- the heap with one thing more -/
def Wd.put (G : Wd) (p : Addr) (o : HO) : Wd := { G with H := upd G.H p o }
theorem Grow.put {p : Addr} {o : HO} (n : G.H p = none) : Grow G (G.put p o) where
  le := Nat.le_refl _
  at_ := fun _ _ => rfl
  tup := fun a xs h => by show upd G.H p o a = _; rw [upd_ne (ne_of_none h n)]; exact h
  frz := fun a ob u h => by show upd G.H p o a = _; rw [upd_ne (ne_of_none h n)]; exact h
  ext := fun a φ h => by show upd G.H p o a = _; rw [upd_ne (ne_of_none h n)]; exact h
  keep := fun a ob h _ _ => by show upd G.H p o a = _; rw [upd_ne (ne_of_none h n)]; exact h
  there := fun a h => by
    by_cases e : a = p
    · rw [e]; exact n
    · have h : upd G.H p o a = none := h
      rw [upd_ne e] at h; exact h
  fresh := fun i h1 h2 => absurd h2 (Nat.not_lt.mpr h1)
theorem RelC.grow {G G' : Wd} (g : Grow G G') {a : Addr} {c : Cell} (e : G'.H a = G.H a) (h : RelC S G a c) : RelC S G' a c := by
  cases c with
  | lst ws => obtain ⟨vs, h1, h2⟩ := h; exact ⟨vs, e.trans h1, RelWs.grow g ws vs h2⟩
  | ins c fs ws => obtain ⟨C, dx, kvs, h0, h1, h2, h3⟩ := h; exact ⟨C, dx, kvs, h0, e.trans h1, h2, RelWs.grow g ws _ h3⟩
theorem RelC.noext {a : Addr} {c : Cell} (h : RelC S G a c) : ∀ o, G.H a = some o → (∀ φ, o ≠ .ext φ) ∧ (∀ ps, o ≠ .tbl ps) := by
  cases c with
  | lst ws => obtain ⟨vs, h1, h2⟩ := h; intro o e; rw [h1] at e; cases e; exact ⟨(fun _ z => by cases z), (fun _ z => by cases z)⟩
  | ins c fs ws => obtain ⟨C, dx, kvs, h0, h1, h2, h3⟩ := h; intro o e; rw [h1] at e; cases e; exact ⟨(fun _ z => by cases z), (fun _ z => by cases z)⟩
theorem RelC.some {a : Addr} {c : Cell} (h : RelC S G a c) : ∃ o, G.H a = some o ∧ (∀ ps, o ≠ .tbl ps) ∧ (∀ xs, o ≠ .tup xs) ∧ (∀ ob u, o ≠ .frz ob u) := by
  cases c with
  | lst ws => obtain ⟨vs, h1, h2⟩ := h; exact ⟨_, h1, (fun _ z => by cases z), (fun _ z => by cases z), (fun _ _ z => by cases z)⟩
  | ins c fs ws => obtain ⟨C, dx, kvs, h0, h1, h2, h3⟩ := h; exact ⟨_, h1, (fun _ z => by cases z), (fun _ z => by cases z), (fun _ _ z => by cases z)⟩
theorem RelSt.some (h : RelSt S G st) {i : Nat} (hi : i < G.n) : ∃ c, st[i]? = some c ∧ RelC S G (G.μ i) c := by
  have hl : i < st.length := by rw [h.len]; exact hi
  exact ⟨st[i], List.getElem?_eq_getElem hl, h.cell i _ (List.getElem?_eq_getElem hl)⟩
theorem RelSt.ne (h : RelSt S G st) {p : Addr} (n : G.H p = none) {i : Nat} (hi : i < G.n) : G.μ i ≠ p := by
  obtain ⟨c, _, r⟩ := h.some hi
  obtain ⟨o, e, _⟩ := r.some
  exact ne_of_none e n
/-- the cells are as they were -/
theorem RelSt.same {G G' : Wd} (h : RelSt S G st) (g : Grow G G') (en : G'.n = G.n) (eμ : G'.μ = G.μ) (e : ∀ i, i < G.n → G'.H (G.μ i) = G.H (G.μ i)) (tb : TabsAll S.T G'.H) : RelSt S G' st := by
  refine ⟨h.len.trans en.symm, fun i j h1 h2 q => ?_, fun i c q => ?_, tb⟩
  · rw [eμ] at q; exact h.inj i j (en ▸ h1) (en ▸ h2) q
  · have hi : i < G.n := by rw [← h.len]; exact (List.getElem?_eq_some_iff.mp q).1
    rw [eμ]
    exact (h.cell i c q).grow g (e i hi)
theorem tabs_new {T : List (Addr × Str)} {H : Hp} {p : Addr} {o : HO} (t : TabsAll T H) (n : H p = none) (no : ∀ ps, o ≠ .tbl ps) : TabsAll T (upd H p o) :=
  tabs_keep t (fun a ps e => by rw [upd_ne (ne_of_none e n)]; exact e) (fun a φ e => by rw [upd_ne (ne_of_none e n)]; exact e) fun a ps e => by
    by_cases z : a = p
    · rw [z, upd_same] at e; exact absurd (Option.some.inj e) (no ps)
    · rw [upd_ne z] at e; exact ⟨ps, e⟩
theorem RelSt.put {p : Addr} {o : HO} (h : RelSt S G st) (n : G.H p = none) (no : ∀ ps, o ≠ .tbl ps := by intro _ z; cases z) : RelSt S (G.put p o) st :=
  h.same (Grow.put n) rfl rfl (fun i hi => upd_ne (h.ne n hi)) (tabs_new h.tabs n no)
end

/-! ### two values, an operator -/
def rW2 (S : Sta) (F : W → W → St → Option W) : R2 := fun x y H Q => ∃ G st a b w, G.H = H ∧ RelSt S G st ∧ RelW S G x a ∧ RelW S G y b ∧ F a b st = some w ∧ ∀ G' v, Grow G G' → RelSt S G' st → RelW S G' v w → Q v G'.H
section
variable {S : Sta} {Wx : WX} {fa fb : Ρ → M W} {F : W → W → St → Option W}
theorem tOp_of {σ : Sl} {H : Hp} {Q : VK} (h : tE S Wx (fun ρ => do let x ← fa ρ; let y ← fb ρ; M.lift (F x y (← M.get))) σ H Q) : tOp (rW2 S F) (tE S Wx fa) (tE S Wx fb) σ H Q := by
  obtain ⟨G, ρ, st, a, fi⟩ := h
  refine bindE a fi fun x H1 G1 w1 st1 b1 f1 => ?_
  refine bindE b1.at_ f1 fun y H2 G2 w2 st2 b2 f2 => ?_
  obtain ⟨w, e, q⟩ := Fin.lift1 (o := F w1 w2 st2) f2
  exact ⟨G2, st2, w1, w2, w, b2.at_.hp, b2.at_.st, RelW.grow b2.gr _ _ b1.rel, b2.rel, e, fun G' v g rs r => q G' g rs v r⟩
end

/-! ### new lists -/
/-- a new list's reading: its items; it lies at a place that was free -/
def tL (S : Sta) (Wx : WX) (f : Ρ → M (List W)) : TE := fun σ H Q => ∃ G ρ st, At S σ H G ρ st ∧ Fin S Wx σ G (fun ws G' _ => ∀ p vs, G'.H p = none → RelWs S G' vs ws → Q (.ref p) (upd G'.H p (.lst vs))) (f ρ st)
/-- one cell more -/
def Wd.new (G : Wd) (p : Addr) (o : HO) : Wd := ⟨G.n + 1, fun i => if i < G.n then G.μ i else p, upd G.H p o⟩
section
variable {S : Sta} {G : Wd} {st : St} {X : Cx} {Wx : WX} {e : Expr} {f : Ρ → M (List W)}
theorem Grow.new {p : Addr} {o : HO} (n : G.H p = none) : Grow G (G.new p o) where
  le := Nat.le_succ _
  at_ := fun i hi => if_pos hi
  tup := (Grow.put (o := o) n).tup
  frz := (Grow.put (o := o) n).frz
  ext := (Grow.put (o := o) n).ext
  keep := (Grow.put (o := o) n).keep
  there := (Grow.put (o := o) n).there
  fresh := fun i h1 h2 => by
    show G.H (if i < G.n then G.μ i else p) = none
    rw [if_neg (Nat.not_lt.mpr h1)]; exact n
theorem new_at {p : Addr} {o : HO} : (G.new p o).μ G.n = p := by show (if G.n < G.n then _ else p) = p; rw [if_neg (Nat.lt_irrefl _)]
theorem RelSt.new {p : Addr} {o : HO} {c : Cell} (h : RelSt S G st) (n : G.H p = none) (rc : RelC S (G.new p o) p c) (no : ∀ ps, o ≠ .tbl ps := by intro _ z; cases z) : RelSt S (G.new p o) (st ++ [c]) := by
  have g := Grow.new (G := G) (o := o) n
  refine ⟨by rw [List.length_append, h.len]; rfl, fun i j h1 h2 e => ?_, fun i d q => ?_, tabs_new h.tabs n no⟩
  · have h1 : i < G.n + 1 := h1
    have h2 : j < G.n + 1 := h2
    by_cases hi : i < G.n
    · by_cases hj : j < G.n
      · rw [g.at_ i hi, g.at_ j hj] at e
        exact h.inj i j hi hj e
      · have ej : j = G.n := by omega
        subst ej
        rw [new_at, g.at_ i hi] at e
        exact absurd e (h.ne n hi)
    · have ei : i = G.n := by omega
      subst ei
      by_cases hj : j < G.n
      · rw [new_at, g.at_ j hj] at e
        exact absurd e.symm (h.ne n hj)
      · omega
  · by_cases hi : i < st.length
    · rw [List.getElem?_append_left hi] at q
      have hi' : i < G.n := by rw [← h.len]; exact hi
      rw [g.at_ i hi']
      exact (h.cell i d q).grow g (upd_ne (h.ne n hi'))
    · rw [List.getElem?_append_right (Nat.not_lt.mp hi)] at q
      have hz : i - st.length = 0 := by
        cases hk : i - st.length with
        | zero => rfl
        | succ k => rw [hk] at q; simp at q
      rw [hz] at q
      simp only [List.getElem?_cons_zero, Option.some.injEq] at q
      subst q
      have ei : i = G.n := by rw [← h.len]; omega
      rw [ei, new_at]
      exact rc
/-- a new list, known from now on -/
theorem new_lst {p : Addr} {o : Obj} {vs : List V} {ws : List W} (n : G.H p = none) (rs : RelSt S G st) (r : RelWs S G vs ws) :
    Grow G (G.put p (.frz o (.lst vs))) ∧ RelSt S (G.put p (.frz o (.lst vs))) st ∧ RelW S (G.put p (.frz o (.lst vs))) (.ref p) (.lst ws) := by
  have g := Grow.put (G := G) (o := .frz o (.lst vs)) n
  refine ⟨g, rs.put n, ?_⟩
  simp only [RelW]
  exact ⟨p, o, vs, rfl, upd_same, RelWs.grow g _ _ r⟩
/-- a new list, a cell -/
theorem new_cell {p : Addr} {vs : List V} {ws : List W} (n : G.H p = none) (rs : RelSt S G st) (r : RelWs S G vs ws) :
    Grow G (G.new p (.lst vs)) ∧ RelSt S (G.new p (.lst vs)) (st ++ [.lst ws]) ∧ RelW S (G.new p (.lst vs)) (.ref p) (.ref st.length) := by
  have g := Grow.new (G := G) (o := .lst vs) n
  refine ⟨g, rs.new n ⟨vs, upd_same, RelWs.grow g _ _ r⟩, ?_⟩
  simp only [RelW]
  rw [rs.len]
  exact ⟨Nat.lt_succ_self _, by rw [new_at]⟩
theorem s_frzL (h : PE X e (tL S Wx f)) : PE X e (tE S Wx (fun ρ => do let ws ← f ρ; pure (.lst ws))) := (pe_frz h).impW fun σ H Q h => by
  obtain ⟨G, ρ, st, a, fi⟩ := h
  refine ⟨G, ρ, st, a, fi.bind.imp fun ws G1 st1 g1 rs1 f1 p vs n r => ⟨p, vs, rfl, upd_same, fun o => ?_⟩⟩
  rw [upd_upd]
  obtain ⟨g, rs, rw⟩ := new_lst (o := o) n rs1 r
  exact f1 _ g rs _ rw
theorem s_newL (h : PE X e (tL S Wx f)) : PE X e (tE S Wx (fun ρ => do let ws ← f ρ; newC (.lst ws))) := h.impW fun σ H Q h => by
  obtain ⟨G, ρ, st, a, fi⟩ := h
  refine ⟨G, ρ, st, a, fi.bind.imp fun ws G1 st1 g1 rs1 f1 p vs n r => ?_⟩
  obtain ⟨g, rs, rw⟩ := new_cell n rs1 r
  exact f1 _ g rs _ rw
end
end Pf

/-! part P5 -/
set_option Elab.async false
set_option linter.all false
set_option maxRecDepth 100000
set_option autoImplicit false
set_option maxHeartbeats 1000000
namespace Pf
open PySem PySem.Spec PyProof.Rows L2

/-! ### lists that are read: frozen ones, cells -/
section
variable {S : Sta} {G : Wd} {st : St}
theorem lst_of {v : V} {w : W} {ws : List W} (rs : RelSt S G st) (r : RelW S G v w) (e : lstOf w st = some ws) : ∃ a vs, v = .ref a ∧ Rd G.H a (.lst vs) ∧ RelWs S G vs ws := by
  unfold lstOf at e
  split at e
  · cases e
    simp only [RelW] at r
    obtain ⟨a, o, vs, h1, h2, h3⟩ := r
    exact ⟨a, vs, h1, .inr ⟨o, h2⟩, h3⟩
  · split at e
    · rename_i _ q
      cases e
      simp only [RelW] at r
      obtain ⟨vs, h1, h2⟩ := rs.cell _ _ q
      exact ⟨_, vs, r.2, .inl h1, h2⟩
    · cases e
  · cases e
theorem tup_of {v : V} {ws : List W} (r : RelW S G v (.tup ws)) : ∃ a vs, v = .ref a ∧ SqT S.K G.H a vs ∧ RelWs S G vs ws := by simpa only [RelW] using r
/-- a tuple or a list -/
theorem seq_of {v : V} {w : W} {ws : List W} (rs : RelSt S G st) (r : RelW S G v w) (e : seqOf w st = some ws) : ∃ a vs, v = .ref a ∧ (SqT S.K G.H a vs ∨ SqL S.K G.H a vs) ∧ RelWs S G vs ws := by
  unfold seqOf at e
  split at e
  · cases e
    obtain ⟨a, vs, h1, h2, h3⟩ := tup_of r
    exact ⟨a, vs, h1, .inl h2, h3⟩
  · cases e
    obtain ⟨a, vs, h1, h2, h3⟩ := lst_of (st := st) rs r rfl
    exact ⟨a, vs, h1, .inr (.inl h2), h3⟩
  · split at e
    · rename_i i xs q
      cases e
      obtain ⟨a, vs, h1, h2, h3⟩ := lst_of (ws := ws) rs r (by unfold lstOf; simp only [q])
      exact ⟨a, vs, h1, .inr (.inl h2), h3⟩
    · cases e
  · cases e
end
section
variable {X : Cx} {pins : List (Addr × Obj)} {σ : Sl} {H : Hp} {s : Shared}
theorem Inv.lstR (I : Inv X pins σ H s) {a : Addr} {vs : List V} (h : Rd H a (.lst vs)) : vs.length ≤ sizeLine ∧ ∃ (its : List Value) (n : Nat), Vals vs its ∧ s.heap.get? a = some { cls := .type "list", data := .seq its.toArray n } := h.ok I.hok
theorem fresh_none (I : Inv X pins σ H s) : H s.heap.objs.size = none := I.hok.fresh (Nat.le_refl _)
/-- a new list, frozen at once -/
theorem ep_lst (I : Inv X pins σ H s) {Q : VK} {t' : Nat} {vs : List V} {us : List Value} (r : Vals vs us) (z : vs.length ≤ sizeLine) (q : ∀ o p, H p = none → Q (.ref p) (upd H p (.frz o (.lst vs)))) :
    EP X pins σ Q (.ref s.heap.objs.size) { s with heap := s.heap.push { cls := .type "list", data := .seq us.toArray }, toks := t' } := by
  have I1 : Inv X pins σ (upd H s.heap.objs.size (.lst vs)) { s with heap := s.heap.push { cls := .type "list", data := .seq us.toArray }, toks := t' } := I.lnew (t' := t') r z
  refine ep_frz ⟨.ref _, _, I1, rfl, _, _, rfl, upd_same, fun o => ?_⟩
  rw [upd_upd]
  exact q o _ (fresh_none I)
/-- list + list -/
def rCatR : R2 := fun x y H Q => ∃ l b xs zs, x = .ref l ∧ y = .ref b ∧ Rd H l (.lst xs) ∧ Rd H b (.lst zs) ∧ xs.length + zs.length ≤ sizeLine ∧ ∀ o p, H p = none → Q (.ref p) (upd H p (.frz o (.lst (xs ++ zs))))
theorem op_catR : OpR X (binaryOp .Add) rCatR := by
  intro pins s σ H x y v u Q I rx ry h
  obtain ⟨l, b, xs, zs, rfl, rfl, hH, hB, hz, q⟩ := h
  cases rx
  cases ry
  obtain ⟨z, its, n, r, e⟩ := Inv.lstR I hH
  obtain ⟨z2, its2, n2, r2, e2⟩ := Inv.lstR I hB
  have hl := r.length
  have hl2 := r2.length
  refine PySem.P.add_list e e2 ?_ (by rw [List.size_toArray, List.size_toArray]; omega)
  have ea : its.toArray ++ its2.toArray = (its ++ its2).toArray := by simp
  rw [ea]
  exact ep_lst (t' := s.toks) I (r.append r2) (by rw [List.length_append]; omega) q
end

section
variable {S : Sta} {X : Cx}
theorem o_add (hK : X.K = S.K) : OpR X (binaryOp .Add) (rW2 S addW) := by
  intro pins s σ H x y v u Q I rx ry h
  obtain ⟨G, st, a, b, w, rfl, rs, ra, rb, e, q⟩ := h
  unfold addW at e
  split at e
  · rename_i i
    split at e
    · rename_i j
      cases e
      simp only [RelW] at ra rb
      subst ra rb
      exact op_add pins s σ G.H _ _ v u Q I rx ry ⟨_, _, rfl, rfl, q G _ (Grow.refl G) rs (by simp only [RelW])⟩
    · cases e
  · rename_i x1
    split at e
    · rename_i x2
      split at e
      · rename_i hz
        cases e
        simp only [RelW] at ra rb
        subst ra rb
        exact op_add_str pins s σ G.H _ _ v u Q I rx ry ⟨_, _, rfl, rfl, by rw [← SZ_eq]; exact hz, q G _ (Grow.refl G) rs (by simp only [RelW])⟩
      · cases e
    · cases e
  · rename_i xs
    split at e
    · rename_i ys
      split at e
      · rename_i hz
        cases e
        obtain ⟨a1, v1, e1, t1, r1⟩ := tup_of ra
        obtain ⟨a2, v2, e2, t2, r2⟩ := tup_of rb
        refine op_catA pins s σ G.H _ _ v u Q I rx ry ⟨a1, a2, v1, v2, e1, e2, hK ▸ t1, hK ▸ t2, by rw [r1.length, r2.length, ← SZ_eq]; exact hz, fun h0 => ?_, fun _ h0 => ?_, fun _ _ p np => ?_⟩
        · refine q G _ (Grow.refl G) rs ?_
          have : xs = [] := by
            subst h0
            cases xs with
            | nil => rfl
            | cons x xs => simp only [RelWs] at r1; obtain ⟨_, _, z, _⟩ := r1; cases z
          subst this
          rw [List.nil_append, ← e2]; exact rb
        · refine q G _ (Grow.refl G) rs ?_
          have : ys = [] := by
            subst h0
            cases ys with
            | nil => rfl
            | cons x xs => simp only [RelWs] at r2; obtain ⟨_, _, z, _⟩ := r2; cases z
          subst this
          rw [List.append_nil, ← e1]; exact ra
        · have g := Grow.put (G := G) (o := .tup (v1 ++ v2)) np
          refine q (G.put p (.tup (v1 ++ v2))) _ g (rs.put np) ?_
          simp only [RelW]
          exact ⟨p, v1 ++ v2, rfl, .inl (.inl upd_same), RelWs.grow g _ _ (r1.append r2)⟩
      · cases e
    · cases e
  · split at e
    · rename_i xs e1
      split at e
      · rename_i ys e2
        split at e
        · rename_i hz
          cases e
          obtain ⟨a1, v1, q1, t1, r1⟩ := lst_of rs ra e1
          obtain ⟨a2, v2, q2, t2, r2⟩ := lst_of rs rb e2
          refine op_catR pins s σ G.H _ _ v u Q I rx ry ⟨a1, a2, v1, v2, q1, q2, t1, t2, by rw [r1.length, r2.length, ← SZ_eq]; exact hz, fun o p np => ?_⟩
          have g := Grow.put (G := G) (o := .frz o (.lst (v1 ++ v2))) np
          refine q (G.put p (.frz o (.lst (v1 ++ v2)))) _ g (rs.put np) ?_
          simp only [RelW]
          exact ⟨p, o, v1 ++ v2, rfl, upd_same, RelWs.grow g _ _ (r1.append r2)⟩
        · cases e
      · cases e
    · cases e
/-- two ints -/
theorem o_int2 {op : Value → Value → Sem Value} {C : Int → Int → Prop} {g : Int → Int → Int} {f : Int → Int → Option Int} (ho : OpR X op (rI C fun i j => .int (g i j))) (hf : ∀ i j k, f i j = some k → C i j ∧ k = g i j) : OpR X op (rW2 S fun a b _ => int2 f a b) := by
  intro pins s σ H x y v u Q I rx ry h
  obtain ⟨G, st, a, b, w, rfl, rs, ra, rb, e, q⟩ := h
  change int2 f a b = some w at e
  unfold int2 at e
  split at e
  · rename_i i
    split at e
    · rename_i j
      cases k : f i j with
      | none => rw [k] at e; cases e
      | some z =>
        rw [k] at e
        cases e
        simp only [RelW] at ra rb
        subst ra rb
        obtain ⟨c, e2⟩ := hf i j z k
        subst e2
        exact ho pins s σ G.H _ _ v u Q I rx ry ⟨_, _, rfl, rfl, c, q G _ (Grow.refl G) rs (by simp only [RelW])⟩
    · cases e
  · cases e
theorem RelWs.rep {S : Sta} {G : Wd} {vs : List V} {ws : List W} (h : RelWs S G vs ws) : ∀ n : Nat, RelWs S G (List.replicate n vs).flatten (List.replicate n ws).flatten
  | 0 => by simpa using RelWs.nil
  | n + 1 => by
    rw [List.replicate_succ, List.replicate_succ, List.flatten_cons, List.flatten_cons]
    exact RelWs.append h (RelWs.rep h n)
theorem tuple_mulW1 (l : Addr) (items : Array Value) (n : Nat) (dd : Option Addr) (sl : Array (Option Value)) (u : Tok) :
    Meets (Builtin.«tuple.__mul__» ⟨[.ref l, .int 1 u], []⟩) (fun _ R s => s.heap.get? l = some { cls := .type "tuple", dict := dd, data := .seq items n, slots := sl } ∧ R (.ok (.ret (Value.ref l))) s) :=
  .of_wp fun prog w A R s h => by
    obtain ⟨hp, g, d, tk, os⟩ := s
    obtain ⟨hl, h⟩ := h
    have f1 := AutoSeq1.idx_int
    have c1 : (items.isEmpty || (1 : Int) == 1) = true := by simp
    have hT : Shared.TypeIs ⟨hp, g, d, tk, os⟩ (.ref l) "tuple" := ⟨_, hl, rfl⟩
    wp_walk using wpAny_loadPart' hl, wpAny_typeOf hT
    exact ⟨_, rfl, h⟩
theorem op_repT1 : OpR X (binaryOp .Mult) (fun x y H Q => ∃ l xs, x = .ref l ∧ y = .int 1 ∧ SqT X.K H l xs ∧ Q (.ref l) H) := by
  intro pins s σ H x y v u Q I rx ry h
  obtain ⟨l, xs, rfl, rfl, hT, q⟩ := h
  cases rx
  obtain ⟨t, rfl⟩ := ry
  obtain ⟨its, r, ⟨⟨cls, dd, data, sl⟩, ho, hc, n, hd⟩, hs⟩ := I.tuple hT
  simp only at hc hd
  subst hc hd
  refine wpAny_binaryOp_repeat_ref (T := "tuple") (U := "int") (by decide) ⟨_, ho, rfl⟩ (fun s' => typeIs_int s' 1 t) noFill_tuple_mul F.fills_int_mul F.slot_int_rmul repeat_tuple F.slot_int_index.lookup
    (call_meets F.slot_int_rmul (typeIs_int s 1 t) F.entry_int_rmul (F.args_int_rmul_2 _ _) (int_rmul_tuple 1 t l its.toArray n dd sl)
      ⟨ho, rfl, ⟨_, ho, rfl⟩, call_meets F.slot_tuple_mul ⟨_, ho, rfl⟩ F.entry_tuple_mul (F.args_tuple_mul_2 _ _) (tuple_mulW1 l its.toArray n dd sl t) ⟨ho, ?_⟩⟩)
  exact ⟨.ref l, H, I, rfl, q⟩
theorem o_mul (hK : X.K = S.K) : OpR X (binaryOp .Mult) (rW2 S fun a b _ => mulW a b) := by
  intro pins s σ H x y v u Q I rx ry h
  obtain ⟨G, st, a, b, w, rfl, rs, ra, rb, e, q⟩ := h
  change mulW a b = some w at e
  unfold mulW at e
  split at e
  · rename_i i
    split at e
    · rename_i j
      split at e
      · rename_i hc
        cases e
        simp only [RelW] at ra rb
        subst ra rb
        have hc : CMul i j := by
          unfold cmul at hc
          simpa only [CMul, Bool.or_eq_true, decide_eq_true_eq] using hc
        exact op_mul pins s σ G.H _ _ v u Q I rx ry ⟨_, _, rfl, rfl, hc, q G _ (Grow.refl G) rs (by simp only [RelW])⟩
      · cases e
    · cases e
  · rename_i xs
    split at e
    · rename_i j
      split at e
      · rename_i hc
        cases e
        obtain ⟨a1, v1, e1, t1, r1⟩ := tup_of ra
        simp only [RelW] at rb
        subst rb
        obtain ⟨h1, h2, h3, h4⟩ := hc
        by_cases hj : j = 1
        · subst hj
          refine op_repT1 pins s σ G.H _ _ v u Q I rx ry ⟨a1, v1, e1, rfl, hK ▸ t1, q G _ (Grow.refl G) rs ?_⟩
          have : (List.replicate (1 : Int).toNat xs).flatten = xs := by simp
          rw [this, ← e1]; exact ra
        · refine op_repT pins s σ G.H _ _ v u Q I rx ry ⟨a1, j, v1, e1, rfl, hK ▸ t1, fun z => h4 ?_, by omega, h2, by rw [r1.length]; exact h3, fun p np => ?_⟩
          · have := r1.length
            rw [z] at this
            exact List.eq_nil_of_length_eq_zero this.symm
          · have g := Grow.put (G := G) (o := .tup (List.replicate j.toNat v1).flatten) np
            refine q (G.put p _) _ g (rs.put np) ?_
            simp only [RelW]
            exact ⟨p, _, rfl, .inl (.inl upd_same), RelWs.grow g _ _ (r1.rep j.toNat)⟩
      · cases e
    · cases e
  · cases e
theorem o_bin (hK : X.K = S.K) : ∀ (op : Operator), OpR X (binaryOp op) (rW2 S (binW op))
  | .Add => o_add hK
  | .Sub => o_int2 (C := fun _ _ => True) (g := fun i j => i - j) (by
      intro pins s σ H x y v u Q I rx ry ⟨i, j, e1, e2, _, q⟩
      exact op_sub pins s σ H x y v u Q I rx ry ⟨i, j, e1, e2, q⟩) fun i j k e => ⟨trivial, (Option.some.inj e).symm⟩
  | .Mult => o_mul hK
  | .FloorDiv => o_int2 op_fdivN fun i j k e => by
      split at e
      · rename_i h
        exact ⟨h, (Option.some.inj e).symm⟩
      · cases e
  | .Mod => o_int2 op_modN fun i j k e => by
      split at e
      · rename_i h
        exact ⟨h, (Option.some.inj e).symm⟩
      · cases e
  | .Pow => o_int2 op_pow fun i j k e => by
      split at e
      · rename_i h
        exact ⟨h, (Option.some.inj e).symm⟩
      · cases e
  | .MatMult | .Div | .LShift | .RShift | .BitOr | .BitXor | .BitAnd => fun pins s σ H x y v u Q I rx ry ⟨_, _, _, _, _, _, _, _, _, e, _⟩ => by cases e
end

/-! ### list + list, new -/
section
variable {X : Cx} {S : Sta} {Wx : WX} {a b : Expr} {fa fb : Ρ → M W} {pos : Pos}
def rCatN : R2 := fun x y H Q => ∃ l b xs zs, x = .ref l ∧ y = .ref b ∧ Rd H l (.lst xs) ∧ Rd H b (.lst zs) ∧ xs.length + zs.length ≤ sizeLine ∧ ∀ p, H p = none → Q (.ref p) (upd H p (.lst (xs ++ zs)))
theorem op_catN : OpR X (binaryOp .Add) rCatN := by
  intro pins s σ H x y v u Q I rx ry h
  obtain ⟨l, b, xs, zs, rfl, rfl, hH, hB, hz, q⟩ := h
  cases rx
  cases ry
  obtain ⟨z, its, n, r, e⟩ := Inv.lstR I hH
  obtain ⟨z2, its2, n2, r2, e2⟩ := Inv.lstR I hB
  have hl := r.length
  have hl2 := r2.length
  refine PySem.P.add_list e e2 ?_ (by rw [List.size_toArray, List.size_toArray]; omega)
  have ea : its.toArray ++ its2.toArray = (its ++ its2).toArray := by simp
  rw [ea]
  exact ⟨.ref _, _, I.lnew (t' := s.toks) (r.append r2) (by rw [List.length_append]; omega), rfl, q _ (fresh_none I)⟩
theorem catW_some {op : Operator} {x y : W} {st : St} {ws : List W} (h : catW op x y st = some ws) : op = .Add ∧ ∃ xs ys, lstOf x st = some xs ∧ lstOf y st = some ys ∧ xs.length + ys.length ≤ SZ ∧ ws = xs ++ ys := by
  unfold catW at h
  split at h
  · simp only [Option.bind_eq_some_iff] at h
    obtain ⟨xs, h1, ys, h2, h3⟩ := h
    split at h3
    · rename_i hz
      cases h3
      exact ⟨rfl, xs, ys, h1, h2, hz, rfl⟩
    · cases h3
  · cases h
theorem l_cat (ha : PE X a (tE S Wx fa)) (hb : PE X b (tE S Wx fb)) :
    PE X (.BinOp a .Add b pos) (tL S Wx (fun ρ => do let x ← fa ρ; let y ← fb ρ; M.lift (catW .Add x y (← M.get)))) := (pe_op op_catN ha hb).impW fun σ H Q h => by
  obtain ⟨G, ρ, st, at_, fi⟩ := h
  unfold tOp
  refine bindE at_ fi fun x H1 G1 w1 st1 b1 f1 => ?_
  refine bindE b1.at_ f1 fun y H2 G2 w2 st2 b2 f2 => ?_
  obtain ⟨ws, e, q⟩ := Fin.lift1 (o := catW .Add w1 w2 st2) f2
  obtain ⟨_, xs, ys, h1, h2, hz, rfl⟩ := catW_some e
  obtain ⟨p, vs, e1, r1, k1⟩ := lst_of b2.at_.st (RelW.grow b2.gr _ _ b1.rel) h1
  obtain ⟨p2, us, e2, r2, k2⟩ := lst_of b2.at_.st b2.rel h2
  obtain rfl := b2.at_.hp
  refine ⟨p, p2, vs, us, e1, e2, r1, r2, by rw [k1.length, k2.length, ← SZ_eq]; exact hz, fun l hl => q G2 (Grow.refl G2) b2.at_.st l _ hl (k1.append k2)⟩
end
end Pf

/-! part P6 -/
set_option Elab.async false
set_option linter.all false
set_option maxRecDepth 100000
set_option autoImplicit false
set_option maxHeartbeats 1000000
namespace Pf
open PySem PySem.Spec PyProof.Rows L2

/-! ### data -/
mutual
theorem lay_of : ∀ w : W, w.isD = true → w.toD.canLay0 = true
  | .non, _ => rfl
  | .bl _, _ => rfl
  | .int _, _ => rfl
  | .str x, h => h
  | .tup xs, h => by
    simp only [W.isD] at h
    simp only [W.toD, PyData.canLay0]
    exact lays_of xs h
  | .lst xs, h => by
    simp only [W.isD] at h
    simp only [W.toD, PyData.canLay0]
    exact lays_of xs h
theorem lays_of : ∀ ws : List W, isDs ws = true → PyData.canLayAll0 (toDs ws) = true
  | [], _ => rfl
  | w :: ws, h => by
    simp only [isDs, Bool.and_eq_true] at h
    simp only [toDs, PyData.canLayAll0, Bool.and_eq_true]
    exact ⟨lay_of w h.1, lays_of ws h.2⟩
end
mutual
theorem dep_of : ∀ w : W, w.toD.depth = w.dep
  | .non => rfl
  | .bl _ => rfl
  | .int _ => rfl
  | .str x => rfl
  | .tup xs => by simp only [W.toD, PyData.depth, W.dep]; rw [deps_of xs]
  | .lst xs => by simp only [W.toD, PyData.depth, W.dep]; rw [deps_of xs]
  | .dic _ _ => rfl
  | .obj _ _ _ => rfl
  | .ref _ => rfl
  | .glo _ => rfl
  | .ty _ => rfl
  | .clo _ _ => rfl
theorem deps_of : ∀ ws : List W, PyData.depthAll (toDs ws) = deps ws
  | [] => rfl
  | w :: ws => by simp only [toDs, PyData.depthAll, deps]; rw [dep_of w, deps_of ws]
end
theorem shaped_of {w : W} (h : w.flat = true) : SeqAt.shaped w.toD = true := by
  unfold W.flat at h
  rw [Bool.and_eq_true, decide_eq_true_eq] at h
  unfold SeqAt.shaped
  rw [Bool.and_eq_true, decide_eq_true_eq, dep_of]
  exact ⟨lay_of w h.1, by omega⟩
section
variable {S : Sta} {G : Wd} {st : St}
mutual
theorem dp_of : ∀ (w : W) (v : V), RelW S G v w → w.isD = true → Dp S.K G.H v w.toD
  | .non, v, r, _ => by simp only [RelW] at r; subst r; exact .non
  | .bl b, v, r, _ => by simp only [RelW] at r; subst r; exact .bl b
  | .int i, v, r, _ => by simp only [RelW] at r; subst r; exact .int i
  | .str x, v, r, _ => by simp only [RelW] at r; subst r; exact .str x
  | .tup xs, v, r, h => by
    simp only [RelW] at r
    obtain ⟨a, vs, e, t, r⟩ := r
    subst e
    simp only [W.isD] at h
    simp only [W.toD]
    exact Dp.tup t (dps_of xs vs r h)
  | .lst xs, v, r, h => by
    simp only [RelW] at r
    obtain ⟨a, o, vs, e, t, r⟩ := r
    subst e
    simp only [W.isD] at h
    simp only [W.toD]
    exact Dp.lst (Or.inl (Or.inr ⟨o, t⟩)) (dps_of xs vs r h)
  | .dic _ _, _, _, h => (Bool.false_ne_true h).elim
  | .obj _ _ _, _, _, h => (Bool.false_ne_true h).elim
  | .ref _, _, _, h => (Bool.false_ne_true h).elim
  | .glo _, _, _, h => (Bool.false_ne_true h).elim
  | .ty _, _, _, h => (Bool.false_ne_true h).elim
  | .clo _ _, _, _, h => (Bool.false_ne_true h).elim
theorem dps_of : ∀ (ws : List W) (vs : List V), RelWs S G vs ws → isDs ws = true → DpAll S.K G.H vs (toDs ws)
  | [], vs, r, _ => by simp only [RelWs] at r; subst r; exact .nil
  | w :: ws, vs, r, h => by
    simp only [RelWs] at r
    obtain ⟨v, t, e, r1, r2⟩ := r
    subst e
    simp only [isDs, Bool.and_eq_true] at h
    exact .cons (dp_of w v r1 h.1) (dps_of ws t r2 h.2)
end
theorem valW_ref' (i : Nat) : valW (.ref i) st = celW (.ref i) st[i]? := rfl
theorem valW_cell {i : Nat} {xs : List W} (q : st[i]? = some (.lst xs)) : valW (.ref i) st = .lst xs := by
  rw [valW_ref', q]; rfl
/-- what a value, or a cell's list, is as data -/
theorem dpv_of (rs : RelSt S G st) {v : V} {w : W} (r : RelW S G v w) (h : (valW w st).isD = true) : Dp S.K G.H v (valW w st).toD := by
  cases w with
  | ref i =>
    cases q : st[i]? with
    | none =>
      have e : valW (.ref i) st = .ref i := by rw [valW_ref', q]; rfl
      rw [e] at h
      simp only [W.isD] at h
      cases h
    | some c =>
      cases c with
      | lst xs =>
        rw [valW_cell q] at h ⊢
        simp only [RelW] at r
        obtain ⟨_, e⟩ := r
        obtain ⟨vs, h1, h2⟩ := rs.cell _ _ q
        subst e
        simp only [W.isD] at h
        simp only [W.toD]
        exact .lst (.inl (.inl h1)) (dps_of xs vs h2 h)
      | ins a b c =>
        have e : valW (.ref i) st = .ref i := by rw [valW_ref', q]; rfl
        rw [e] at h
        simp only [W.isD] at h
        cases h
  | non => exact dp_of _ _ r h
  | bl _ => exact dp_of _ _ r h
  | int _ => exact dp_of _ _ r h
  | str _ => exact dp_of _ _ r h
  | tup _ => exact dp_of _ _ r h
  | lst _ => exact dp_of _ _ r h
  | dic _ _ => exact dp_of _ _ r h
  | obj _ _ _ => exact dp_of _ _ r h
  | glo _ => exact dp_of _ _ r h
  | ty _ => exact dp_of _ _ r h
  | clo _ _ => exact dp_of _ _ r h
theorem flat_D {w : W} (h : w.flat = true) : w.isD = true := by
  unfold W.flat at h
  rw [Bool.and_eq_true] at h
  exact h.1
theorem valW_ref (i : Nat) : (∃ xs, st[i]? = some (.lst xs) ∧ valW (.ref i) st = .lst xs) ∨ valW (.ref i) st = .ref i := by
  rw [valW_ref']
  cases q : st[i]? with
  | none => exact .inr rfl
  | some c => cases c with
    | lst xs => exact .inl ⟨xs, rfl, rfl⟩
    | ins a b c => exact .inr rfl
theorem valW_nolst {w u : W} (h : valW w st = u) (n : ∀ xs, u ≠ .lst xs) : w = u := by
  cases w with
  | ref j =>
    rcases valW_ref (st := st) j with ⟨xs, _, e⟩ | e
    · rw [e] at h; exact absurd h.symm (n xs)
    · rw [e] at h; exact h
  | _ => exact h
end

/-! ### comparisons -/
theorem non_of {S : Sta} {G : Wd} {v : V} {w : W} (r : RelW S G v w) : decide (v = .non) = isNon w := by
  cases w <;> simp only [RelW] at r
  case non => subst r; rfl
  case tup => obtain ⟨a, vs, e, _⟩ := r; subst e; rfl
  case lst => obtain ⟨a, o, vs, e, _⟩ := r; subst e; rfl
  case dic => obtain ⟨a, o, vs, e, _⟩ := r; subst e; rfl
  case obj => obtain ⟨a, o, C, dx, kvs, e, _⟩ := r; subst e; rfl
  case ref => obtain ⟨_, e⟩ := r; subst e; rfl
  case glo => obtain ⟨a, _, e⟩ := r; subst e; rfl
  case clo => obtain ⟨a, c, vs, e, _⟩ := r; subst e; rfl
  all_goals (subst r; rfl)
theorem isNon_val {st : St} (a : W) : isNon (valW a st) = isNon a := by
  cases a with
  | ref i =>
    rcases valW_ref (st := st) i with ⟨xs, _, e⟩ | e
    · rw [e]; rfl
    · rw [e]
  | _ => rfl
theorem any_toD (d : PyData) : ∀ ys : List W, (toDs ys).any (fun z => PyData.eqv z d) = ys.any fun y => PyData.eqv y.toD d
  | [] => rfl
  | y :: ys => by simp only [toDs, List.any_cons]; rw [any_toD d ys]
theorem toDs_map : ∀ ws : List W, toDs ws = ws.map W.toD
  | [] => rfl
  | w :: ws => by simp only [toDs, List.map_cons]; rw [toDs_map ws]
theorem flats_of : ∀ {ws : List W}, ws.all W.flat = true → isDs ws = true ∧ deps ws ≤ 60
  | [], _ => ⟨rfl, Nat.zero_le _⟩
  | w :: ws, h => by
    rw [List.all_cons, Bool.and_eq_true] at h
    obtain ⟨h1, h2⟩ := flats_of h.2
    have h0 := h.1
    unfold W.flat at h0
    rw [Bool.and_eq_true, decide_eq_true_eq] at h0
    simp only [isDs, deps, Bool.and_eq_true]
    exact ⟨⟨h0.1, h1⟩, by omega⟩
section
variable {X : Cx}
theorem op_inT (hu : X.A.units + 65 < cLine) : OpR X (compareOp .In) (fun x y H Q => ∃ d ds, Dp X.K H x d ∧ Dp X.K H y (.tuple ds) ∧ SeqAt.shaped d = true ∧ SeqAt.shaped (.tuple ds) = true ∧ Q (.bl (ds.any fun z => PyData.eqv z d)) H) := by
  intro pins s σ H x y v u Q I rx ry h
  obtain ⟨d, ds, hd, he, sd, se, q⟩ := h
  obtain ⟨as, r1⟩ := Dp.reads I d x v hd rx
  obtain ⟨bs, r2⟩ := Dp.reads I (.tuple ds) y u he ry
  exact SeqAt.in_tuple_reads r2 r1 (SeqAt.canLay_of_shaped se) (SeqAt.canLay_of_shaped sd) (room_in_shaped sd hu) ⟨.bl _, H, I, rfl, q⟩
theorem op_notInT (hu : X.A.units + 65 < cLine) : OpR X (compareOp .NotIn) (fun x y H Q => ∃ d ds, Dp X.K H x d ∧ Dp X.K H y (.tuple ds) ∧ SeqAt.shaped d = true ∧ SeqAt.shaped (.tuple ds) = true ∧ Q (.bl (!ds.any fun z => PyData.eqv z d)) H) := by
  intro pins s σ H x y v u Q I rx ry h
  obtain ⟨d, ds, hd, he, sd, se, q⟩ := h
  obtain ⟨as, r1⟩ := Dp.reads I d x v hd rx
  obtain ⟨bs, r2⟩ := Dp.reads I (.tuple ds) y u he ry
  exact SeqAt.notIn_tuple_reads r2 r1 (SeqAt.canLay_of_shaped se) (SeqAt.canLay_of_shaped sd) (room_in_shaped sd hu) ⟨.bl _, H, I, rfl, q⟩
end
section
variable {S : Sta} {X : Cx}
/-- a comparison's value -/
def cmpV (op : CmpOp) (a b : W) (st : St) : Option W := (cmpW op a b st).map .bl
theorem shaped_tup {ws : List W} (h : ws.all W.flat = true) : SeqAt.shaped (.tuple (toDs ws)) = true := by
  obtain ⟨h1, h2⟩ := flats_of h
  show (PyData.canLay0 (.tuple (toDs ws)) && decide (PyData.depth (.tuple (toDs ws)) ≤ 64)) = true
  rw [Bool.and_eq_true, decide_eq_true_eq]
  simp only [PyData.canLay0, PyData.depth]
  rw [deps_of]
  exact ⟨lays_of ws h1, by omega⟩
theorem shaped_lst {ws : List W} (h : ws.all W.flat = true) : SeqAt.shaped (.list (toDs ws)) = true := by
  obtain ⟨h1, h2⟩ := flats_of h
  show (PyData.canLay0 (.list (toDs ws)) && decide (PyData.depth (.list (toDs ws)) ≤ 64)) = true
  rw [Bool.and_eq_true, decide_eq_true_eq]
  simp only [PyData.canLay0, PyData.depth]
  rw [deps_of]
  exact ⟨lays_of ws h1, by omega⟩
theorem o_cmp (hK : X.K = S.K) (hu : X.A.units + 65 < cLine) (op : CmpOp) : OpR X (compareOp op) (rW2 S (cmpV op)) := by
  intro pins s σ H x y v u Q I rx ry h
  obtain ⟨G, st, a, b, w, rfl, rs, ra, rb, e, q⟩ := h
  unfold cmpV at e
  cases k : cmpW op a b st with
  | none => rw [k] at e; cases e
  | some c =>
    rw [k] at e
    cases e
    have fin : Q (.bl c) G.H := q G _ (Grow.refl G) rs (by simp only [RelW])
    have da : (valW a st).isD = true → Dp X.K G.H x (valW a st).toD := fun h => by rw [hK]; exact dpv_of rs ra h
    have db : (valW b st).isD = true → Dp X.K G.H y (valW b st).toD := fun h => by rw [hK]; exact dpv_of rs rb h
    have na : ∀ u : W, valW a st = u → (∀ xs, u ≠ .lst xs) → RelW S G x u := fun u e n => by rw [← valW_nolst e n]; exact ra
    have nb : ∀ u : W, valW b st = u → (∀ xs, u ≠ .lst xs) → RelW S G y u := fun u e n => by rw [← valW_nolst e n]; exact rb
    have nn : decide (x = .non) = isNon (valW a st) := (non_of ra).trans (isNon_val a).symm
    unfold cmpW at k
    generalize valW a st = a' at k da na nn
    generalize valW b st = b' at k db nb
    have ii : ∀ i j, a' = .int i → b' = .int j → x = .int i ∧ y = .int j := fun i j e1 e2 => by
      have r1 := na _ e1 (fun _ z => by cases z)
      have r2 := nb _ e2 (fun _ z => by cases z)
      simp only [RelW] at r1 r2
      exact ⟨r1, r2⟩
    have ss : ∀ i j, a' = .str i → b' = .str j → x = .str i ∧ y = .str j := fun i j e1 e2 => by
      have r1 := na _ e1 (fun _ z => by cases z)
      have r2 := nb _ e2 (fun _ z => by cases z)
      simp only [RelW] at r1 r2
      exact ⟨r1, r2⟩
    cases op with
    | Eq =>
      simp only at k
      split at k
      · rename_i hf
        rw [Bool.and_eq_true] at hf
        cases k
        exact op_eqD (by omega) pins s σ G.H _ _ v u Q I rx ry ⟨_, _, da (flat_D hf.1), db (flat_D hf.2), shaped_of hf.1, shaped_of hf.2, fin⟩
      · cases k
    | NotEq =>
      simp only at k
      split at k
      · rename_i hf
        rw [Bool.and_eq_true] at hf
        cases k
        exact op_neD (by omega) pins s σ G.H _ _ v u Q I rx ry ⟨_, _, da (flat_D hf.1), db (flat_D hf.2), shaped_of hf.1, shaped_of hf.2, fin⟩
      · cases k
    | Lt =>
      simp only at k
      split at k
      · rename_i i j
        cases k
        obtain ⟨e1, e2⟩ := ii i j rfl rfl
        exact op_lt pins s σ G.H _ _ v u Q I rx ry ⟨i, j, e1, e2, fin⟩
      · rename_i i j
        cases k
        obtain ⟨e1, e2⟩ := ss i j rfl rfl
        exact op_lt_str pins s σ G.H _ _ v u Q I rx ry ⟨i, j, e1, e2, fin⟩
      · cases k
    | LtE =>
      simp only at k
      split at k
      · rename_i i j
        cases k
        obtain ⟨e1, e2⟩ := ii i j rfl rfl
        exact op_le pins s σ G.H _ _ v u Q I rx ry ⟨i, j, e1, e2, fin⟩
      · cases k
    | Gt =>
      simp only at k
      split at k
      · rename_i i j
        cases k
        obtain ⟨e1, e2⟩ := ii i j rfl rfl
        exact op_gt pins s σ G.H _ _ v u Q I rx ry ⟨i, j, e1, e2, fin⟩
      · cases k
    | GtE =>
      simp only at k
      split at k
      · rename_i i j
        cases k
        obtain ⟨e1, e2⟩ := ii i j rfl rfl
        exact op_ge pins s σ G.H _ _ v u Q I rx ry ⟨i, j, e1, e2, fin⟩
      · cases k
    | In =>
      simp only at k
      split at k
      · rename_i i j
        cases k
        obtain ⟨e1, e2⟩ := ss i j rfl rfl
        exact op_in_str pins s σ G.H _ _ v u Q I rx ry ⟨i, j, e1, e2, fin⟩
      · rename_i ys _
        split at k
        · rename_i hf
          rw [Bool.and_eq_true] at hf
          cases k
          have hd := db (by simp only [W.isD]; exact (flats_of hf.2).1)
          simp only [W.toD] at hd
          refine op_inT hu pins s σ G.H _ _ v u Q I rx ry ⟨_, _, da (flat_D hf.1), hd, shaped_of hf.1, shaped_tup hf.2, ?_⟩
          rw [any_toD]; exact fin
        · cases k
      · rename_i ys _
        split at k
        · rename_i hf
          rw [Bool.and_eq_true] at hf
          cases k
          have hd := db (by simp only [W.isD]; exact (flats_of hf.2).1)
          simp only [W.toD] at hd
          refine op_inD hu pins s σ G.H _ _ v u Q I rx ry ⟨_, _, da (flat_D hf.1), hd, shaped_of hf.1, shaped_lst hf.2, ?_⟩
          rw [any_toD]; exact fin
        · cases k
      · cases k
    | NotIn =>
      simp only at k
      split at k
      · rename_i i j
        cases k
        obtain ⟨e1, e2⟩ := ss i j rfl rfl
        exact op_notIn_str pins s σ G.H _ _ v u Q I rx ry ⟨i, j, e1, e2, fin⟩
      · rename_i ys _
        split at k
        · rename_i hf
          rw [Bool.and_eq_true] at hf
          cases k
          have hd := db (by simp only [W.isD]; exact (flats_of hf.2).1)
          simp only [W.toD] at hd
          refine op_notInT hu pins s σ G.H _ _ v u Q I rx ry ⟨_, _, da (flat_D hf.1), hd, shaped_of hf.1, shaped_tup hf.2, ?_⟩
          rw [any_toD]; exact fin
        · cases k
      · rename_i ys _
        split at k
        · rename_i hf
          rw [Bool.and_eq_true] at hf
          cases k
          have hd := db (by simp only [W.isD]; exact (flats_of hf.2).1)
          simp only [W.toD] at hd
          refine op_notInD hu pins s σ G.H _ _ v u Q I rx ry ⟨_, _, da (flat_D hf.1), hd, shaped_of hf.1, shaped_lst hf.2, ?_⟩
          rw [any_toD]; exact fin
        · cases k
      · cases k
    | Is =>
      simp only at k
      split at k
      · cases k
        have r2 := nb _ rfl (fun _ z => by cases z)
        simp only [RelW] at r2
        refine op_isN pins s σ G.H _ _ v u Q I rx ry ⟨r2, ?_⟩
        rw [nn]; exact fin
      · cases k
    | IsNot =>
      simp only at k
      split at k
      · cases k
        have r2 := nb _ rfl (fun _ z => by cases z)
        simp only [RelW] at r2
        refine op_notN pins s σ G.H _ _ v u Q I rx ry ⟨r2, ?_⟩
        rw [nn]; exact fin
      · cases k
end
end Pf

/-! part P7 -/
set_option Elab.async false
set_option linter.all false
set_option maxRecDepth 100000
set_option autoImplicit false
set_option maxHeartbeats 1000000
namespace Pf
open PySem PySem.Spec PyProof.Rows L2

section
variable {S : Sta} {X : Cx} {Wx : WX} {a b c : Expr} {fa fb fc : Ρ → M W} {pos p2 : Pos} {es : List Expr} {fs : Ρ → M (List W)}

/-! ### names, constants -/
theorem s_var {i : Nat} {x : Str} (hN : X.N[i]? = some x) (hv : Vis X.env.scope x) (hd : (x == ("__debug__" : Str)) = false) (hcd : (x == ("__classdict__" : Str)) = false) :
    PE X (.Name x pos) (tE S Wx (fun ρ => M.lift (getV ρ i))) := (pe_var (pos := pos) hN hv hd hcd).impW fun σ H Q h => by
  obtain ⟨G, ρ, st, a, f⟩ := h
  obtain ⟨w, e, q⟩ := Fin.lift1 f
  obtain ⟨v, e1, r⟩ := a.sl.get e
  exact ⟨v, e1, a.hp ▸ q G (Grow.refl G) a.st v r⟩
theorem s_val {e : Expr} {v : V} {w : W} (h : PE X e (tC v)) (r : ∀ G, RelW S G v w) : PE X e (tE S Wx (fun _ => pure w)) := h.impW fun σ H Q h => by
  obtain ⟨G, ρ, st, a, f⟩ := h
  exact a.hp ▸ f G (Grow.refl G) a.st v (r G)
theorem s_gv {e : Expr} {v : V} {o : Option W} (h : PE X e (tC v)) (r : ∀ w, o = some w → ∀ G, RelW S G v w) : PE X e (tE S Wx (fun _ => M.lift o)) := h.impW fun σ H Q h => by
  obtain ⟨G, ρ, st, a, f⟩ := h
  obtain ⟨w, e, q⟩ := Fin.lift1 f
  exact a.hp ▸ q G (Grow.refl G) a.st v (r w e G)
theorem s_int {i : Int} {k : Nat} : PE X (.Constant (.int i) k pos) (tE S Wx (fun _ => pure (.int i))) := s_val pe_int fun G => by simp only [RelW]
theorem s_bl {i : Bool} {k : Nat} : PE X (.Constant (.bool i) k pos) (tE S Wx (fun _ => pure (.bl i))) := s_val pe_bl fun G => by simp only [RelW]
theorem s_non {k : Nat} : PE X (.Constant .none k pos) (tE S Wx (fun _ => pure .non)) := s_val pe_non fun G => by simp only [RelW]
theorem s_str {x : Str} {k : Nat} : PE X (.Constant (.str x) k pos) (tE S Wx (fun _ => pure (.str x))) := s_val pe_str fun G => by simp only [RelW]

/-! ### argument lists, displays -/
theorem s_nil : PA X [] (tA S Wx (fun _ => pure [])) := pa_nil.impW fun σ H Q h => by
  obtain ⟨G, ρ, st, a, f⟩ := h
  exact a.hp ▸ f G (Grow.refl G) a.st [] RelWs.nil
theorem s_cons (ha : PE X a (tE S Wx fa)) (hr : PA X es (tA S Wx fs)) (hs : starEach (a :: es) X.env = (false, eval a X.env) :: starEach es X.env) :
    PA X (a :: es) (tA S Wx (fun ρ => do let w ← fa ρ; let ws ← fs ρ; pure (w :: ws))) := (pa_cons ha hr hs).impW fun σ H Q h => by
  obtain ⟨G, ρ, st, a, f⟩ := h
  refine bindE a f fun x H1 G1 w1 st1 b1 f1 => ?_
  refine bindA b1.at_ f1 fun xs H2 G2 ws st2 a2 g2 rs f2 => ?_
  exact a2.hp ▸ f2 G2 (Grow.refl G2) a2.st _ (RelWs.cons (RelW.grow g2 _ _ b1.rel) rs)
theorem s_star (hK : X.K = S.K) (ha : PE X a (tE S Wx fa)) (hr : PA X es (tA S Wx fs)) :
    PA X (.Starred a p2 :: es) (tA S Wx (fun ρ => do let w ← fa ρ; let xs ← M.lift (seqOf w (← M.get)); let ws ← fs ρ; pure (xs ++ ws))) := (StX.pa_star ha hr).impW fun σ H Q h => by
  obtain ⟨G, ρ, st, a, f⟩ := h
  refine bindE a f fun x H1 G1 w1 st1 b1 f1 => ?_
  obtain ⟨xs, e, f1⟩ := Fin.lift (o := seqOf w1 st1) f1
  obtain ⟨p, vs, ex, hs, r⟩ := seq_of b1.at_.st b1.rel e
  refine ⟨p, vs, ex, ?_, ?_⟩
  · rw [hK, ← b1.at_.hp]; exact hs
  · refine bindA b1.at_ f1 fun ys H2 G2 ws st2 a2 g2 rs f2 => ?_
    exact a2.hp ▸ f2 G2 (Grow.refl G2) a2.st _ (RelWs.append (RelWs.grow g2 _ _ r) rs)
theorem s_tup {k : Nat} (h : PA X es (tA S Wx fs)) : PE X (.Tuple es k pos) (tE S Wx (fun ρ => do let ws ← fs ρ; sz ws.length; pure (.tup ws))) := (pe_tup h).impW fun σ H Q h => by
  obtain ⟨G, ρ, st, a, f⟩ := h
  refine bindA a f fun xs H1 G1 ws st1 a1 g1 rs f1 => ?_
  obtain ⟨hz, f1⟩ := Fin.chk f1
  rw [decide_eq_true_eq] at hz
  obtain rfl := a1.hp
  refine ⟨by rw [rs.length, ← SZ_eq]; exact hz, fun p np => ?_⟩
  have g := Grow.put (G := G1) (o := .tup xs) np
  refine f1 (G1.put p (.tup xs)) g (a1.st.put np) _ ?_
  simp only [RelW]
  exact ⟨p, xs, rfl, .inl (.inl upd_same), RelWs.grow g _ _ rs⟩
theorem l_lst (h : PA X es (tA S Wx fs)) : PE X (.List es pos) (tL S Wx (fun ρ => do let ws ← fs ρ; sz ws.length; pure ws)) := (pe_lst h).impW fun σ H Q h => by
  obtain ⟨G, ρ, st, a, f⟩ := h
  unfold tLst
  refine bindA a f fun xs H1 G1 ws st1 a1 g1 rs f1 => ?_
  obtain ⟨hz, f1⟩ := Fin.chk f1
  rw [decide_eq_true_eq] at hz
  obtain rfl := a1.hp
  exact ⟨by rw [rs.length, ← SZ_eq]; exact hz, fun p np => f1 G1 (Grow.refl G1) a1.st p xs np rs⟩
theorem s_lst (h : PA X es (tA S Wx fs)) : PE X (.List es pos) (tE S Wx (fun ρ => do let ws ← fs ρ; sz ws.length; pure (.lst ws))) := by
  have e : (fun ρ => do let ws ← fs ρ; sz ws.length; pure (.lst ws)) = fun ρ => (do let us ← (do let ws ← fs ρ; sz ws.length; pure ws); pure (W.lst us)) := by
    funext ρ
    simp only [M.bind_assoc]
    rfl
  rw [e]
  exact s_frzL (l_lst h)

/-! ### operators -/
theorem s_bin (hK : X.K = S.K) (op : Operator) (ha : PE X a (tE S Wx fa)) (hb : PE X b (tE S Wx fb)) :
    PE X (.BinOp a op b pos) (tE S Wx (fun ρ => do let x ← fa ρ; let y ← fb ρ; M.lift (binW op x y (← M.get)))) := (pe_op (o_bin hK op) ha hb).impW fun _ _ _ h => tOp_of h
theorem s_neg (ha : PE X a (tE S Wx fa)) : PE X (.UnaryOp .USub a pos) (tE S Wx (fun ρ => do let x ← fa ρ; let i ← M.lift (asI x); pure (.int (-i)))) := (pe_un un_neg ha).impW fun σ H Q h => by
  obtain ⟨G, ρ, st, a, f⟩ := h
  refine bindE a f fun x H1 G1 w1 st1 b1 f1 => ?_
  obtain ⟨i, e, f1⟩ := Fin.lift f1
  obtain rfl := b1.at_.hp
  have r := b1.rel
  unfold asI at e
  split at e
  · cases e
    simp only [RelW] at r
    exact ⟨i, r, f1 G1 (Grow.refl G1) b1.at_.st _ (by simp only [RelW])⟩
  · cases e
theorem s_cmp (hK : X.K = S.K) (hu : X.A.units + 65 < cLine) (op : CmpOp) (ha : PE X a (tE S Wx fa)) (hb : PE X b (tE S Wx fb)) (hm : behindInMarks op b = false) :
    PE X (.Compare a [op] [b] pos) (tE S Wx (fun ρ => do let x ← fa ρ; let y ← fb ρ; let r ← M.lift (cmpW op x y (← M.get)); pure (.bl r))) := (pe_cmpR (o_cmp hK hu op) ha hb hm).impW fun σ H Q h => by
  obtain ⟨G, ρ, st, a, f⟩ := h
  refine bindE a f fun x H1 G1 w1 st1 b1 f1 => ?_
  refine bindE b1.at_ f1 fun y H2 G2 w2 st2 b2 f2 => ?_
  obtain ⟨r, e, f2⟩ := Fin.lift (o := cmpW op w1 w2 st2) f2
  exact ⟨G2, st2, w1, w2, .bl r, b2.at_.hp, b2.at_.st, RelW.grow b2.gr _ _ b1.rel, b2.rel, by unfold cmpV; rw [e]; rfl, fun G' v g rs r => f2 G' g rs v r⟩
theorem bl_rel {G : Wd} {v : V} {k : Bool} (r : RelW S G v (.bl k)) : v = .bl k := by simpa only [RelW] using r
theorem s_cmp2 (hK : X.K = S.K) (hu : X.A.units + 65 < cLine) (o p : CmpOp) (ha : PE X a (tE S Wx fa)) (hb : PE X b (tE S Wx fb)) (hc : PE X c (tE S Wx fc)) (hm : lastMarks [o, p] [b, c] = false) :
    PE X (.Compare a [o, p] [b, c] pos) (tE S Wx (fun ρ => do
      let x ← fa ρ
      let y ← fb ρ
      let r ← M.lift (cmpW o x y (← M.get))
      if r = true then do
        let z ← fc ρ
        let q ← M.lift (cmpW p y z (← M.get))
        pure (.bl q)
      else pure (.bl false))) := (pe_chain (o_cmp hK hu o) (o_cmp hK hu p) ha hb hc hm).impW fun σ H Q h => by
  obtain ⟨G, ρ, st, a, f⟩ := h
  refine bindE a f fun x H1 G1 w1 st1 b1 f1 => ?_
  refine bindE b1.at_ f1 fun y H2 G2 w2 st2 b2 f2 => ?_
  obtain ⟨r, e, f2⟩ := Fin.lift (o := cmpW o w1 w2 st2) f2
  refine ⟨G2, st2, w1, w2, .bl r, b2.at_.hp, b2.at_.st, RelW.grow b2.gr _ _ b1.rel, b2.rel, by unfold cmpV; rw [e]; rfl, fun G3 v g rs rv => ?_⟩
  refine ⟨r, bl_rel rv, ?_⟩
  cases r with
  | true =>
    simp only [if_true] at f2 ⊢
    refine bindE ⟨rfl, rs, b2.at_.sl.grow g⟩ (Fin.grow g f2) fun z H4 G4 w4 st4 b4 f4 => ?_
    obtain ⟨q, e4, f4⟩ := Fin.lift (o := cmpW p w2 w4 st4) f4
    exact ⟨G4, st4, w2, w4, .bl q, b4.at_.hp, b4.at_.st, RelW.grow (g.trans b4.gr) _ _ b2.rel, b4.rel, by unfold cmpV; rw [e4]; rfl, fun G' v g rs r => f4 G' g rs v r⟩
  | false =>
    simp only [Bool.false_eq_true, if_false] at f2 ⊢
    exact f2 G3 g rs _ (by simp only [RelW])

/-! ### tests -/
/-- a bool's expression read as a test -/
theorem tB_of {σ : Sl} {H : Hp} {Q : Bool → Hp → Prop} (h : tT S Wx (fun ρ => M.toB (fa ρ)) σ H Q) : tB (tE S Wx fa) σ H Q := by
  obtain ⟨G, ρ, st, a, f⟩ := h
  refine bindE a f fun x H1 G1 w1 st1 b1 f1 => ?_
  obtain ⟨k, e, q⟩ := Fin.lift1 f1
  have r := b1.rel
  unfold asBl at e
  split at e
  · cases e
    exact ⟨k, bl_rel r, b1.at_.hp ▸ q G1 (Grow.refl G1) b1.at_.st⟩
  · cases e
theorem u_val (ha : PE X a (tE S Wx fa)) (he : ∀ whole, isTrue a X.env whole = (do let v ← whole; standAt a.pos; holding [v] (truthy v))) : PT X a (tT S Wx (fun ρ => M.toB (fa ρ))) :=
  (pt_val ha he).impW fun _ _ _ h => tB_of h
/-- not, and, or as tests -/
theorem toB_bl {k : M Bool} : M.toB (do let b ← k; pure (.bl b)) = k := by
  funext st
  show M.bind (M.bind k fun b => M.pure (.bl b)) (fun w => M.lift (asBl w)) st = k st
  unfold M.bind M.pure
  cases k st <;> rfl
end
end Pf

/-! part P8 -/
set_option Elab.async false
set_option linter.all false
set_option maxRecDepth 100000
set_option autoImplicit false
set_option maxHeartbeats 1000000
namespace Pf
open PySem PySem.Spec PyProof.Rows L2

section
variable {S : Sta} {X : Cx} {Wx : WX} {a b c : Expr} {fa fb fc : Ρ → M W} {pos p2 : Pos} {rest : List Expr}

theorem Fin.toB {S : Sta} {Wx : WX} {σ : Sl} {G : Wd} {β : Type} {P : β → Wd → St → Prop} {m : M W} {k : Bool → M β} {st : St} (h : Fin S Wx σ G P ((M.toB m >>= k) st)) :
    Fin S Wx σ G (fun w G' st' => ∃ c, w = .bl c ∧ Fin S Wx σ G' P (k c st')) (m st) := by
  have h : Fin S Wx σ G P (M.bind (M.bind m fun w => M.lift (asBl w)) k st) := h
  unfold M.bind at h
  cases e : m st with
  | ok w st' =>
    rw [e] at h
    simp only at h
    intro G' g rs
    cases w with
    | bl c => exact ⟨c, rfl, Fin.grow g h⟩
    | _ => exact h.elim
  | exc c fs xs st' => rw [e] at h; exact h
  | stuck => rw [e] at h; exact h
theorem bindB {σ : Sl} {H : Hp} {G : Wd} {ρ : Ρ} {st : St} {f : Ρ → M W} {α : Type} {k : Bool → M α} {P : α → Wd → St → Prop} {Q : VK} (a : At S σ H G ρ st) (h : Fin S Wx σ G P ((M.toB (f ρ) >>= k) st))
    (i : ∀ H1 G1 c st1, Bh S σ H1 G ρ (.bl c) G1 (.bl c) st1 → Fin S Wx σ G1 P (k c st1) → Q (.bl c) H1) : tE S Wx f σ H Q := by
  refine ⟨G, ρ, st, a, h.toB.imp fun w G' st' g rs fi v r => ?_⟩
  obtain ⟨c, e, fi⟩ := fi
  subst e
  obtain rfl := bl_rel r
  exact i G'.H G' c st' ⟨⟨rfl, rs, a.sl.grow g⟩, g, r⟩ fi
theorem bindTB {σ : Sl} {H : Hp} {G : Wd} {ρ : Ρ} {st : St} {f : Ρ → M W} {α : Type} {k : Bool → M α} {P : α → Wd → St → Prop} {Q : Bool → Hp → Prop} (a : At S σ H G ρ st) (h : Fin S Wx σ G P ((M.toB (f ρ) >>= k) st))
    (i : ∀ H1 G1 c st1, At S σ H1 G1 ρ st1 → Grow G G1 → Fin S Wx σ G1 P (k c st1) → Q c H1) : tT S Wx (fun ρ => M.toB (f ρ)) σ H Q :=
  bindT a h fun b H1 G1 st1 a1 g1 f1 => i H1 G1 b st1 a1 g1 f1

/-! ### not, and, or, a if c else b -/
theorem s_not (ha : PE X a (tE S Wx fa)) : PE X (.UnaryOp .Not a pos) (tE S Wx (fun ρ => do let b ← M.toB (fa ρ); pure (.bl (!b)))) := (pe_not ha).impW fun σ H Q h => by
  obtain ⟨G, ρ, st, a, f⟩ := h
  unfold tNotV
  refine bindB a f fun H1 G1 c st1 b1 f1 => ?_
  exact ⟨c, rfl, b1.at_.hp ▸ f1 G1 (Grow.refl G1) b1.at_.st _ (by simp only [RelW])⟩
theorem u_not (ha : PT X a (tT S Wx (fun ρ => M.toB (fa ρ)))) : PT X (.UnaryOp .Not a pos) (tT S Wx (fun ρ => M.toB (do let b ← M.toB (fa ρ); pure (.bl (!b))))) := (pt_not ha).impW fun σ H Q h => by
  obtain ⟨G, ρ, st, a, f⟩ := h
  unfold tNot
  have e : (M.toB (do let b ← M.toB (fa ρ); pure (W.bl (!b)))) = (do let b ← M.toB (fa ρ); pure (!b)) := by
    funext st
    show M.bind (M.bind (M.toB (fa ρ)) fun b => M.pure (.bl (!b))) (fun w => M.lift (asBl w)) st = M.bind (M.toB (fa ρ)) (fun b => M.pure (!b)) st
    unfold M.bind M.pure
    cases M.toB (fa ρ) st <;> rfl
  dsimp only at f
  rw [e] at f
  refine bindTB a f fun H1 G1 c st1 a1 g1 f1 => ?_
  exact a1.hp ▸ f1 G1 (Grow.refl G1) a1.st
def andM (m k : M W) : M W := do
  let x ← M.toB m
  if x = true then do
    let y ← M.toB k
    pure (.bl y)
  else pure (.bl false)
def orM (m k : M W) : M W := do
  let x ← M.toB m
  if x = true then pure (.bl true) else do
    let y ← M.toB k
    pure (.bl y)
theorem toB_and (m k : M W) : M.toB (andM m k) = (do let x ← M.toB m; if x = true then M.toB k else pure false) := by
  funext st
  show M.bind (M.bind (M.toB m) _) (fun w => M.lift (asBl w)) st = M.bind (M.toB m) _ st
  unfold M.bind
  cases M.toB m st with
  | ok x st' =>
    cases x with
    | true =>
      simp only [if_true]
      exact congrFun (toB_bl (k := M.toB k)) st'
    | false => rfl
  | exc _ _ _ _ => rfl
  | stuck => rfl
theorem toB_or (m k : M W) : M.toB (orM m k) = (do let x ← M.toB m; if x = true then pure true else M.toB k) := by
  funext st
  show M.bind (M.bind (M.toB m) _) (fun w => M.lift (asBl w)) st = M.bind (M.toB m) _ st
  unfold M.bind
  cases M.toB m st with
  | ok x st' =>
    cases x with
    | true => rfl
    | false =>
      simp only [Bool.false_eq_true, if_false]
      exact congrFun (toB_bl (k := M.toB k)) st'
  | exc _ _ _ _ => rfl
  | stuck => rfl
theorem s_one {op : BoolOp} (ha : PE X a (tE S Wx fa)) : PE X (.BoolOp op [a] pos) (tE S Wx fa) := pe_one ha
theorem s_and (ha : PE X a (tE S Wx fa)) (hb : PE X (.BoolOp .And (b :: rest) pos) (tE S Wx fb)) : PE X (.BoolOp .And (a :: b :: rest) pos) (tE S Wx (fun ρ => andM (fa ρ) (fb ρ))) := (pe_and ha hb).impW fun σ H Q h => by
  obtain ⟨G, ρ, st, a, f⟩ := h
  unfold tAndV
  refine bindB a f fun H1 G1 c st1 b1 f1 => ⟨c, rfl, ?_⟩
  cases c with
  | true =>
    simp only [if_true] at f1 ⊢
    refine bindB b1.at_ f1 fun H2 G2 c2 st2 b2 f2 => ?_
    exact b2.at_.hp ▸ f2 G2 (Grow.refl G2) b2.at_.st _ b2.rel
  | false =>
    simp only [Bool.false_eq_true, if_false] at f1 ⊢
    exact b1.at_.hp ▸ f1 G1 (Grow.refl G1) b1.at_.st _ b1.rel
theorem s_or (ha : PE X a (tE S Wx fa)) (hb : PE X (.BoolOp .Or (b :: rest) pos) (tE S Wx fb)) : PE X (.BoolOp .Or (a :: b :: rest) pos) (tE S Wx (fun ρ => orM (fa ρ) (fb ρ))) := (pe_or ha hb).impW fun σ H Q h => by
  obtain ⟨G, ρ, st, a, f⟩ := h
  unfold tOrV
  refine bindB a f fun H1 G1 c st1 b1 f1 => ⟨c, rfl, ?_⟩
  cases c with
  | true =>
    simp only [if_true] at f1 ⊢
    exact b1.at_.hp ▸ f1 G1 (Grow.refl G1) b1.at_.st _ b1.rel
  | false =>
    simp only [Bool.false_eq_true, if_false] at f1 ⊢
    refine bindB b1.at_ f1 fun H2 G2 c2 st2 b2 f2 => ?_
    exact b2.at_.hp ▸ f2 G2 (Grow.refl G2) b2.at_.st _ b2.rel
theorem u_one1 (ha : PT X a (tT S Wx (fun ρ => M.toB (fa ρ)))) : PW X (.BoolOp .And [a] pos) (tT S Wx (fun ρ => M.toB (fa ρ))) := pw_and1 ha
theorem u_one2 (ha : PT X a (tT S Wx (fun ρ => M.toB (fa ρ)))) : PW X (.BoolOp .Or [a] pos) (tT S Wx (fun ρ => M.toB (fa ρ))) := pw_or1 ha
theorem _root_.L2.PW.impW {X : Cx} {e : Expr} {t t' : TT} (h : PW X e t) (i : ∀ σ H Q, t' σ H Q → t σ H Q) : PW X e t' := ⟨fun wh pins s σ H Q I q => h.run wh pins s σ H Q I (i σ H Q q)⟩
theorem u_and (ha : PT X a (tT S Wx (fun ρ => M.toB (fa ρ)))) (hb : PW X (.BoolOp .And (b :: rest) pos) (tT S Wx (fun ρ => M.toB (fb ρ)))) :
    PW X (.BoolOp .And (a :: b :: rest) pos) (tT S Wx (fun ρ => M.toB (andM (fa ρ) (fb ρ)))) := (pw_and ha hb).impW fun σ H Q h => by
  obtain ⟨G, ρ, st, a, f⟩ := h
  dsimp only at f
  rw [toB_and] at f
  unfold tAnd
  refine bindTB a f fun H1 G1 c st1 a1 g1 f1 => ?_
  cases c with
  | true =>
    simp only [if_true] at f1 ⊢
    exact ⟨G1, ρ, st1, a1, f1⟩
  | false =>
    simp only [Bool.false_eq_true, if_false] at f1 ⊢
    exact a1.hp ▸ f1 G1 (Grow.refl G1) a1.st
theorem u_or (ha : PT X a (tT S Wx (fun ρ => M.toB (fa ρ)))) (hb : PW X (.BoolOp .Or (b :: rest) pos) (tT S Wx (fun ρ => M.toB (fb ρ)))) :
    PW X (.BoolOp .Or (a :: b :: rest) pos) (tT S Wx (fun ρ => M.toB (orM (fa ρ) (fb ρ)))) := (pw_or ha hb).impW fun σ H Q h => by
  obtain ⟨G, ρ, st, a, f⟩ := h
  dsimp only at f
  rw [toB_or] at f
  unfold tOr
  refine bindTB a f fun H1 G1 c st1 a1 g1 f1 => ?_
  cases c with
  | true =>
    simp only [if_true] at f1 ⊢
    exact a1.hp ▸ f1 G1 (Grow.refl G1) a1.st
  | false =>
    simp only [Bool.false_eq_true, if_false] at f1 ⊢
    exact ⟨G1, ρ, st1, a1, f1⟩
theorem s_ite (hc : PT X c (tT S Wx (fun ρ => M.toB (fc ρ)))) (ha : PE X a (tE S Wx fa)) (hb : PE X b (tE S Wx fb)) :
    PE X (.IfExp c a b pos) (tE S Wx (fun ρ => do let x ← M.toB (fc ρ); if x = true then fa ρ else fb ρ)) := (pe_ifExp hc ha hb).impW fun σ H Q h => by
  obtain ⟨G, ρ, st, a, f⟩ := h
  unfold tIf
  refine bindTB a f fun H1 G1 c st1 a1 g1 f1 => ?_
  cases c with
  | true =>
    simp only [if_true] at f1 ⊢
    exact ⟨G1, ρ, st1, a1, f1⟩
  | false =>
    simp only [Bool.false_eq_true, if_false] at f1 ⊢
    exact ⟨G1, ρ, st1, a1, f1⟩
/-- comparisons as tests -/
theorem tTest_of {σ : Sl} {H : Hp} {Q : Bool → Hp → Prop} {t : TE} (i : ∀ Q : VK, tE S Wx fa σ H Q → t σ H Q) (h : tT S Wx (fun ρ => M.toB (fa ρ)) σ H Q) : tTest t σ H Q := by
  unfold tTest
  exact i _ (tB_of h)
theorem u_cmp (hK : X.K = S.K) (hu : X.A.units + 65 < cLine) (op : CmpOp) (ha : PE X a (tE S Wx fa)) (hb : PE X b (tE S Wx fb)) (hm : behindInMarks op b = false) :
    PT X (.Compare a [op] [b] pos) (tT S Wx (fun ρ => M.toB (do let x ← fa ρ; let y ← fb ρ; let r ← M.lift (cmpW op x y (← M.get)); pure (.bl r)))) :=
  (pt_cmpR (o_cmp hK hu op) ha hb hm).impW fun σ H Q h => tTest_of (fun Q h => by
    obtain ⟨G, ρ, st, a, f⟩ := h
    refine bindE a f fun x H1 G1 w1 st1 b1 f1 => ?_
    refine bindE b1.at_ f1 fun y H2 G2 w2 st2 b2 f2 => ?_
    obtain ⟨r, e, f2⟩ := Fin.lift (o := cmpW op w1 w2 st2) f2
    exact ⟨G2, st2, w1, w2, .bl r, b2.at_.hp, b2.at_.st, RelW.grow b2.gr _ _ b1.rel, b2.rel, by unfold cmpV; rw [e]; rfl, fun G' v g rs r => f2 G' g rs v r⟩) h
theorem u_cmp2 (hK : X.K = S.K) (hu : X.A.units + 65 < cLine) (o p : CmpOp) (ha : PE X a (tE S Wx fa)) (hb : PE X b (tE S Wx fb)) (hc : PE X c (tE S Wx fc)) (hm : lastMarks [o, p] [b, c] = false) :
    PT X (.Compare a [o, p] [b, c] pos) (tT S Wx (fun ρ => M.toB (do
      let x ← fa ρ
      let y ← fb ρ
      let r ← M.lift (cmpW o x y (← M.get))
      if r = true then do
        let z ← fc ρ
        let q ← M.lift (cmpW p y z (← M.get))
        pure (.bl q)
      else pure (.bl false)))) := (pt_chain (o_cmp hK hu o) (o_cmp hK hu p) ha hb hc hm).impW fun σ H Q h => tTest_of (fun Q h => by
  obtain ⟨G, ρ, st, a, f⟩ := h
  unfold tChain
  refine bindE a f fun x H1 G1 w1 st1 b1 f1 => ?_
  refine bindE b1.at_ f1 fun y H2 G2 w2 st2 b2 f2 => ?_
  obtain ⟨r, e, f2⟩ := Fin.lift (o := cmpW o w1 w2 st2) f2
  refine ⟨G2, st2, w1, w2, .bl r, b2.at_.hp, b2.at_.st, RelW.grow b2.gr _ _ b1.rel, b2.rel, by unfold cmpV; rw [e]; rfl, fun G3 v g rs rv => ?_⟩
  refine ⟨r, bl_rel rv, ?_⟩
  cases r with
  | true =>
    simp only [if_true] at f2 ⊢
    refine bindE ⟨rfl, rs, b2.at_.sl.grow g⟩ (Fin.grow g f2) fun z H4 G4 w4 st4 b4 f4 => ?_
    obtain ⟨q, e4, f4⟩ := Fin.lift (o := cmpW p w2 w4 st4) f4
    exact ⟨G4, st4, w2, w4, .bl q, b4.at_.hp, b4.at_.st, RelW.grow (g.trans b4.gr) _ _ b2.rel, b4.rel, by unfold cmpV; rw [e4]; rfl, fun G' v g rs r => f4 G' g rs v r⟩
  | false =>
    simp only [Bool.false_eq_true, if_false] at f2 ⊢
    exact f2 G3 g rs _ (by simp only [RelW])) h

/-! ### subscripts, slices -/
theorem atI_rel {G : Wd} {vs : List V} {ws : List W} (r : RelWs S G vs ws) {i : Int} {w : W} (e : L2.atI ws i = some w) : ∃ v, L2.atI vs i = some v ∧ RelW S G v w := by
  unfold L2.atI at e ⊢
  rw [r.length]
  cases k : L2.ixN ws.length i with
  | none => rw [k] at e; cases e
  | some j =>
    rw [k] at e
    obtain ⟨v, e1, r1⟩ := r.get (i := j) e
    exact ⟨v, e1, r1⟩
theorem o_ix (hK : X.K = S.K) : IxR X (rW2 S ixW) := by
  intro value slice pins s σ H x y v u Q I rx ry h hs
  obtain ⟨G, st, a, b, w, rfl, rs, ra, rb, e, q⟩ := h
  unfold ixW at e
  split at e
  · rename_i z i
    split at e
    · rename_i hz
      cases k : ixW.atI z.cps.toList i with
      | none => rw [k] at e; cases e
      | some c =>
        rw [k] at e
        cases e
        simp only [RelW] at ra rb
        subst ra rb
        exact ix_str value slice pins s σ G.H _ _ v u Q I rx ry ⟨z, i, c, rfl, rfl, by rw [← SZ_eq]; exact hz, k, q G _ (Grow.refl G) rs (by simp only [RelW])⟩ hs
    · cases e
  · rename_i a' i _
    cases k : seqOf a st with
    | none => rw [k] at e; cases e
    | some ws =>
      rw [k] at e
      obtain ⟨p, vs, e1, t1, r1⟩ := seq_of rs ra k
      obtain ⟨z, e2, r2⟩ := atI_rel r1 (i := i) e
      simp only [RelW] at rb
      have fin := q G z (Grow.refl G) rs r2
      rcases t1 with t1 | t1
      · exact ix_tup value slice pins s σ G.H _ _ v u Q I rx ry ⟨p, vs, i, z, e1, rb, hK ▸ t1, e2, fin⟩ hs
      · exact ix_list value slice pins s σ G.H _ _ v u Q I rx ry ⟨p, vs, i, z, e1, rb, hK ▸ t1, e2, fin⟩ hs
  · cases e
theorem s_ix (hK : X.K = S.K) (ha : PE X a (tE S Wx fa)) (hb : PE X b (tE S Wx fb)) (hs : PlainIx b) :
    PE X (.Subscript a b pos) (tE S Wx (fun ρ => do let x ← fa ρ; let y ← fb ρ; M.lift (ixW x y (← M.get)))) := (pe_ix (o_ix hK) ha hb hs).impW fun _ _ _ h => tOp_of h
def rSlW (S : Sta) : V → Option Int → Option Int → Hp → VK → Prop := fun x lo hi H Q => ∃ G st a w, G.H = H ∧ RelSt S G st ∧ RelW S G x a ∧ slW a lo hi st = some w ∧ ∀ G' v, Grow G G' → RelSt S G' st → RelW S G' v w → Q v G'.H
theorem cut_rel {G : Wd} {vs : List V} {ws : List W} (r : RelWs S G vs ws) (lo hi : Option Int) : RelWs S G (cutV vs lo hi) (cutW ws lo hi) := by
  unfold cutV cutW
  rw [r.length]
  exact (r.drop _).take _
theorem o_sl (hK : X.K = S.K) : SlR X (rSlW S) := by
  intro pins s σ H x v vl vu lo hi sl Q I rx hs pl pu h
  obtain ⟨G, st, a, w, rfl, rs, ra, e, q⟩ := h
  have lst : ∀ ws, lstOf a st = some ws → w = .lst (cutW ws lo hi) → ∃ T id, typeLookup (.type T) "__getitem__" = pure (some (.builtin id)) ∧ s.TypeIs v T ∧ wpAny (model X.prog X.w) X.A (getItem v (.ref sl)) (EP X pins σ Q) X.xe s := fun ws k ew => by
    subst ew
    obtain ⟨p, vs, e1, t1, r1⟩ := lst_of rs ra k
    obtain ⟨T, id, h1, h2, h3⟩ := sl_list pins s σ G.H x v vl vu lo hi sl (fun v H1 => ∃ p xs, v = .ref p ∧ H1 p = some (.lst xs) ∧ ∀ o, Q v (upd H1 p (.frz o (.lst xs)))) I rx hs pl pu ⟨p, vs, e1, .inl t1, fun p np => ⟨p, _, rfl, upd_same, fun o => by
      rw [upd_upd]
      have g := Grow.put (G := G) (o := .frz o (.lst (cutV vs lo hi))) np
      refine q (G.put p _) _ g (rs.put np) ?_
      simp only [RelW]
      exact ⟨p, o, _, rfl, upd_same, RelWs.grow g _ _ (cut_rel r1 lo hi)⟩⟩⟩
    exact ⟨T, id, h1, h2, thn h3 fun u s1 q => ep_frz q⟩
  unfold slW at e
  split at e
  · rename_i ws
    cases e
    obtain ⟨p, vs, e1, t1, r1⟩ := tup_of ra
    refine sl_tupA pins s σ G.H x v vl vu lo hi sl Q I rx hs pl pu ⟨p, vs, e1, hK ▸ t1, fun hw => ?_, fun hw p np => ?_⟩
    · refine q G _ (Grow.refl G) rs ?_
      have : cutW ws lo hi = ws := by
        unfold cutW
        rw [← r1.length, hw.1, hw.2, List.drop_zero, Nat.sub_zero, r1.length, List.take_length]
      rw [this, ← e1]; exact ra
    · have g := Grow.put (G := G) (o := .tup (cutV vs lo hi)) np
      refine q (G.put p _) _ g (rs.put np) ?_
      simp only [RelW]
      exact ⟨p, _, rfl, .inl (.inl upd_same), RelWs.grow g _ _ (cut_rel r1 lo hi)⟩
  · rename_i ws
    cases e
    exact lst ws rfl rfl
  · split at e
    · rename_i xs k
      cases e
      exact lst xs (by unfold lstOf; simp only [k]) rfl
    · cases e
  · rename_i z
    split at e
    · rename_i hz
      cases e
      simp only [RelW] at ra
      exact sl_str pins s σ G.H x v vl vu lo hi sl Q I rx hs pl pu ⟨z, ra, by rw [← SZ_eq]; exact hz, q G _ (Grow.refl G) rs (by simp only [RelW])⟩
    · cases e
  · cases e
/-- a part of a slice -/
theorem Fin.toI {S : Sta} {Wx : WX} {σ : Sl} {G : Wd} {β : Type} {P : β → Wd → St → Prop} {m : M W} {k : Int → M β} {st : St} (h : Fin S Wx σ G P ((M.toI m >>= k) st)) :
    Fin S Wx σ G (fun w G' st' => ∃ c, w = .int c ∧ Fin S Wx σ G' P (k c st')) (m st) := by
  have h : Fin S Wx σ G P (M.bind (M.bind m fun w => M.lift (asI w)) k st) := h
  unfold M.bind at h
  cases e : m st with
  | ok w st' =>
    rw [e] at h
    simp only at h
    intro G' g rs
    cases w with
    | int c => exact ⟨c, rfl, Fin.grow g h⟩
    | _ => exact h.elim
  | exc c fs xs st' => rw [e] at h; exact h
  | stuck => rw [e] at h; exact h
theorem bindI {σ : Sl} {H : Hp} {G : Wd} {ρ : Ρ} {st : St} {f : Ρ → M W} {α : Type} {k : Int → M α} {P : α → Wd → St → Prop} {Q : Option Int → Hp → Prop} (a : At S σ H G ρ st) (h : Fin S Wx σ G P ((M.toI (f ρ) >>= k) st))
    (i : ∀ H1 G1 c st1, At S σ H1 G1 ρ st1 → Grow G G1 → Fin S Wx σ G1 P (k c st1) → Q (some c) H1) : tPart (tE S Wx f) σ H Q := by
  unfold tPart
  refine ⟨G, ρ, st, a, h.toI.imp fun w G' st' g rs fi v r => ?_⟩
  obtain ⟨c, e, fi⟩ := fi
  subst e
  simp only [RelW] at r
  exact ⟨c, r, i G'.H G' c st' ⟨rfl, rs, a.sl.grow g⟩ g fi⟩
theorem bindI' {σ : Sl} {H : Hp} {G : Wd} {ρ : Ρ} {st : St} {f : Ρ → M W} {α : Type} {k : Int → M α} {P : α → Wd → St → Prop} {Q : VK} (a : At S σ H G ρ st) (h : Fin S Wx σ G P ((M.toI (f ρ) >>= k) st))
    (i : ∀ H1 G1 c st1, At S σ H1 G1 ρ st1 → Grow G G1 → Fin S Wx σ G1 P (k c st1) → Q (.int c) H1) : tE S Wx f σ H Q := by
  refine ⟨G, ρ, st, a, h.toI.imp fun w G' st' g rs fi v r => ?_⟩
  obtain ⟨c, e, fi⟩ := fi
  subst e
  simp only [RelW] at r
  subst r
  exact i G'.H G' c st' ⟨rfl, rs, a.sl.grow g⟩ g fi
theorem s_sl (hK : X.K = S.K) (ha : PE X a (tE S Wx fa)) (hb : PE X b (tE S Wx fb)) (hc : PE X c (tE S Wx fc)) :
    PE X (.Subscript a (.Slice (some b) (some c) none p2) pos) (tE S Wx (fun ρ => do let x ← fa ρ; let l ← M.toI (fb ρ); let h ← M.toI (fc ρ); M.lift (slW x (some l) (some h) (← M.get)))) :=
  (pe_slice (o_sl hK) ha (po_some hb) (po_some hc)).impW fun σ H Q h => by
  obtain ⟨G, ρ, st, a, f⟩ := h
  unfold tSl
  refine bindE a f fun x H1 G1 w1 st1 b1 f1 => ?_
  refine bindI b1.at_ f1 fun H2 G2 l st2 a2 g2 f2 => ?_
  refine bindI a2 f2 fun H3 G3 h st3 a3 g3 f3 => ?_
  obtain ⟨w, e, q⟩ := Fin.lift1 (o := slW w1 (some l) (some h) st3) f3
  exact ⟨G3, st3, w1, w, a3.hp, a3.st, RelW.grow (g2.trans g3) _ _ b1.rel, e, fun G' v g rs r => q G' g rs v r⟩
theorem s_slL (hK : X.K = S.K) (ha : PE X a (tE S Wx fa)) (hb : PE X b (tE S Wx fb)) :
    PE X (.Subscript a (.Slice (some b) none none p2) pos) (tE S Wx (fun ρ => do let x ← fa ρ; let l ← M.toI (fb ρ); M.lift (slW x (some l) none (← M.get)))) :=
  (pe_slice (o_sl hK) ha (po_some hb) po_none).impW fun σ H Q h => by
  obtain ⟨G, ρ, st, a, f⟩ := h
  unfold tSl
  refine bindE a f fun x H1 G1 w1 st1 b1 f1 => ?_
  refine bindI b1.at_ f1 fun H2 G2 l st2 a2 g2 f2 => ?_
  obtain ⟨w, e, q⟩ := Fin.lift1 (o := slW w1 (some l) none st2) f2
  exact ⟨G2, st2, w1, w, a2.hp, a2.st, RelW.grow g2 _ _ b1.rel, e, fun G' v g rs r => q G' g rs v r⟩
theorem s_slH (hK : X.K = S.K) (ha : PE X a (tE S Wx fa)) (hc : PE X c (tE S Wx fc)) :
    PE X (.Subscript a (.Slice none (some c) none p2) pos) (tE S Wx (fun ρ => do let x ← fa ρ; let h ← M.toI (fc ρ); M.lift (slW x none (some h) (← M.get)))) :=
  (pe_slice (o_sl hK) ha po_none (po_some hc)).impW fun σ H Q h => by
  obtain ⟨G, ρ, st, a, f⟩ := h
  unfold tSl
  refine bindE a f fun x H1 G1 w1 st1 b1 f1 => ?_
  show tPart (tE S Wx fc) σ H1 (fun u H3 => rSlW S x none u H3 Q)
  refine bindI b1.at_ f1 fun H2 G2 h st2 a2 g2 f2 => ?_
  obtain ⟨w, e, q⟩ := Fin.lift1 (o := slW w1 none (some h) st2) f2
  exact ⟨G2, st2, w1, w, a2.hp, a2.st, RelW.grow g2 _ _ b1.rel, e, fun G' v g rs r => q G' g rs v r⟩
theorem s_slN (hK : X.K = S.K) (ha : PE X a (tE S Wx fa)) :
    PE X (.Subscript a (.Slice none none none p2) pos) (tE S Wx (fun ρ => do let x ← fa ρ; M.lift (slW x none none (← M.get)))) :=
  (pe_slice (o_sl hK) ha po_none po_none).impW fun σ H Q h => by
  obtain ⟨G, ρ, st, a, f⟩ := h
  unfold tSl
  refine bindE a f fun x H1 G1 w1 st1 b1 f1 => ?_
  obtain ⟨w, e, q⟩ := Fin.lift1 (o := slW w1 none none st1) f1
  exact ⟨G1, st1, w1, w, b1.at_.hp, b1.at_.st, b1.rel, e, fun G' v g rs r => q G' g rs v r⟩
end
end Pf

/-! part P9 -/
set_option Elab.async false
set_option linter.all false
set_option maxRecDepth 100000
set_option autoImplicit false
set_option maxHeartbeats 1000000
namespace Pf
open PySem PySem.Spec PyProof.Rows L2

/-! ### enumerate(tuple) -/
theorem meets_enumerate_newB1 {v : Value} {o : Obj} {H : Heap → Prop} (B : Begins v o H) :
    Meets (Builtin.«enumerate.__new__» ⟨[.type "enumerate", v], []⟩) (fun _ R s => H s.heap ∧
      R (.ok (.ret (.ref (s.heap.push o).objs.size))) { s with heap := (s.heap.push o).push { cls := .type "enumerate", data := .fields #[.none, .bool false, .ref s.heap.objs.size, rawInt 0, .none, .none] } }) :=
  .of_wp fun prog w A R s h => by
    obtain ⟨hp, g, d, tk, os⟩ := s; obtain ⟨h1, h⟩ := h
    have hsub := sub_enumerate
    have q1 : ∀ {A' : Around} {E : Value → Shared → Prop} {Q : Value → Shared → Prop}, Q (.ref hp.objs.size) ⟨hp.push o, g, d, tk, os⟩ → wpAny (model prog w) A' (pyIter v) Q E ⟨hp, g, d, tk, os⟩ :=
      fun q => B.iter prog w _ _ ⟨hp, g, d, tk, os⟩ _ h1 q
    wp_walk using q1
    refine wpAny_stack_any fun st => wpAny_pure ?_
    split
    · rename_i c _ _ _ _ _
      cases (c == Value.type "enumerate")
      · wp_walk using q1
        exact ⟨_, rfl, h⟩
      · wp_walk using q1
        exact ⟨_, rfl, h⟩
    · wp_walk using q1
      exact ⟨_, rfl, h⟩
section
variable {prog : Program} {w : World} {A : Around} {E : Value → Shared → Prop} {s : Shared}
theorem call_enumerate_tuple {l : Addr} {items : Array Value} {Q : Value → Shared → Prop} (hL : s.heap.IsTuple l items)
    (h : ∀ h', IsEnum h' (s.heap.objs.size + 1) s.heap.objs.size 0 .none → h'.IsTupleIter s.heap.objs.size l 0 → h'.objs.size = s.heap.objs.size + 2 →
      (∀ b o, s.heap.get? b = some o → h'.get? b = some o) → Q (.ref (s.heap.objs.size + 1)) { s with heap := h' }) :
    wpAny (model prog w) A (call (.type "enumerate") [.ref l]) Q E s := by
  refine callType_new F.called_enumerate (by decide) (F.typeCall_enumerate_1 _) (F.newCall_enumerate_1 _) (fun obj => F.args_object_init_2 obj _) F.entry_enumerate_new
    (meets_enumerate_newB1 (begins_tuple l items)) ⟨hL, ?_⟩
  have hz : (s.heap.push { cls := .type "tuple_iterator", data := .fields #[.ref l, .int 0 0] }).objs.size = s.heap.objs.size + 1 := Heap.size_push ..
  show _ ∧ _
  rw [hz]
  have he : IsEnum ((s.heap.push { cls := .type "tuple_iterator", data := .fields #[.ref l, .int 0 0] }).push
      { cls := .type "enumerate", data := .fields #[.none, .bool false, .ref s.heap.objs.size, rawInt 0, .none, .none] }) (s.heap.objs.size + 1) s.heap.objs.size 0 .none := by
    have := Heap.get?_push_size (s.heap.push { cls := .type "tuple_iterator", data := .fields #[.ref l, .int 0 0] })
      (o := { cls := .type "enumerate", data := .fields #[.none, .bool false, .ref s.heap.objs.size, rawInt 0, .none, .none] }) rfl
    rw [hz] at this; exact this
  refine ⟨⟨_, he, rfl⟩, h _ he ⟨_, Heap.get?_push_of_some _ (Heap.get?_push_size _ rfl), rfl, rfl⟩ (by rw [Heap.size_push, hz]) fun b o x => Heap.get?_push_of_some _ (Heap.get?_push_of_some _ x)⟩
end
/-- the tuple at a as it stands at each turn, each item in a new pair -/
def IteT (K : PySem.W.Frag) (a : Addr) : L2.It :=
  ⟨fun i H => ∃ (xs : List V) (x : V), SqT K H a xs ∧ xs[i]? = some x, fun i H v H' => ∃ T x, v = .ref T ∧ H T = none ∧ H' = upd H T (.tup [.int (i : Nat), x]) ∧ ∀ xs, SqT K H a xs → xs[i]? = some x, fun i H => ∃ xs : List V, SqT K H a xs ∧ xs.length = i⟩
theorem turn_enumT {P : Program} {w : World} {K : PySem.W.Frag} {elts : List Expr} {kk : Nat} {tpos : Pos} (a e it : Addr) (hai : a ≠ it) (hae : a ≠ e) :
    Turn P w K (.Tuple elts kk tpos) (IteT K a) [e, it] e (fun i h => (∃ old, IsEnum h e it ((i : Nat) : Int) old) ∧ h.IsTupleIter it a i ∧ e ≠ it) where
  mem := by simp
  obj := fun i h st b hb => by
    obtain ⟨⟨old, he⟩, ⟨o, ho, hc, hd⟩, _⟩ := st
    have e' : b = e ∨ b = it := by simpa using hb
    rcases e' with z | z
    · rw [z]; exact ⟨_, he, fun v q => nomatch q⟩
    · rw [z]; exact ⟨o, ho, fun v q => by rw [hd] at q; cases q⟩
  keep := fun i h h' st k => let ⟨⟨old, he⟩, hi, hne⟩ := st; ⟨⟨old, k e (by simp) _ he⟩, hi.at fun o q => k it (by simp) o q, hne⟩
  item := by
    intro X hP hw hK hc i pins s σ H E I hf st hg
    subst hP hw hK
    obtain ⟨⟨old, he⟩, hit, hne⟩ := st
    obtain ⟨xs, x, hq, hx⟩ := hg
    obtain ⟨its, rv, p, hz⟩ := I.tuple hq
    obtain ⟨u, hu, ru⟩ := rv.get hx
    have hel : e < s.heap.objs.size := Heap.lt_size he
    have hil : it < s.heap.objs.size := by obtain ⟨_, q, _⟩ := hit; exact Heap.lt_size q
    have hil2 : i < its.toArray.size := by
      rw [List.size_toArray]
      exact (List.getElem?_eq_some_iff.mp hu).1
    refine wpAny_pyNext_enum_itemD (Draws.tuple (A := X.A.in1) (I.ok.hd hc) it a hai its.toArray) he ⟨hit, p⟩ hil2 hne (by simp [hne, hae.symm]) fun y h' tk hy ho hst' hT hsz hk => ?_
    have ey : y = u := by
      have q : its.toArray[i]? = some u := by simpa using hu
      rw [q] at hy; exact (Option.some.inj hy).symm
    subst ey
    have hit' := hst'.1
    refine ⟨_, rfl, wpAny_letOwnedTupleGo_enum (s := { s with heap := h', toks := tk + 1 }) ho fun h'' he' sb => ?_⟩
    have hT2 : h''.get? s.heap.objs.size = some { cls := .type "tuple", data := .seq #[.int i tk, y] } := (sb.2 _ (Nat.ne_of_gt hel)).trans hT
    have new : ObjOk X.prog X.w (upd H s.heap.objs.size (.tup [.int (i : Nat), x])) h'' s.heap.objs.size (.tup [.int (i : Nat), x]) :=
      ⟨by show 2 ≤ sizeLine; decide, [.int i tk, y], .cons ⟨_, rfl⟩ (.cons ru .nil), ⟨_, hT2, rfl, _, rfl⟩⟩
    have I1 : Inv X pins σ (upd H s.heap.objs.size (.tup [.int (i : Nat), x])) { s with heap := h'', toks := tk + 1 } :=
      I.turnedNew (ch := [e, it]) (fun b ob hb q => (sb.2 b (fun z => hb (by simp [z]))).trans (hk b ob (fun z => hb (by simp [z])) (fun z => hb (by simp [z])) q)) hf (Nat.le_refl _) new
    refine ⟨.ref s.heap.objs.size, _, I1, rfl, ⟨_, x, rfl, I.hok.fresh (Nat.le_refl _), rfl, fun ys hy => by rw [I.tuple_inj hy hq]; exact hx⟩, ⟨⟨y, ?_⟩, hit'.at fun o q => (sb.2 it (Ne.symm hne)).trans q, hne⟩, fun b hb => ?_⟩
    · have e1 : ((i + 1 : Nat) : Int) = (i : Int) + 1 := by omega
      rw [e1]; exact he'
    · have hb' : b < s.heap.objs.size := by
        have e' : b = e ∨ b = it := by simpa using hb
        rcases e' with z | z
        · rw [z]; exact hel
        · rw [z]; exact hil
      rw [upd_ne (Nat.ne_of_lt hb')]
      exact (hf b hb).1
  done := by
    intro X hP hw hK hc i pins s σ H E I hf st hg
    subst hP hw hK
    obtain ⟨⟨old, he⟩, hit, hne⟩ := st
    obtain ⟨xs, hq, hx⟩ := hg
    obtain ⟨its, rv, p, hz⟩ := I.tuple hq
    obtain ⟨f0, f1, f2, f3, f4, f5⟩ := hf it (by simp)
    have hl := rv.length
    have en : its.toArray.size = i := by rw [List.size_toArray]; omega
    subst en
    exact wpAny_pyNext_enum_endD (Draws.tuple (A := X.A.in1) (I.ok.hd hc) it a hai its.toArray) he ⟨hit, p⟩ fun h' eb => ⟨rfl, I.turned (t' := s.toks) (fun b o hb q => eb b o hb q) f0 f1 f3 f4 f5⟩
  self := fun A i s Q E st h => let ⟨⟨_, he⟩, _⟩ := st; wpAny_pyIter_enum he h
def iEnumT (K : PySem.W.Frag) (ta : TA) : TI := fun σ H R => ta σ H fun vs H1 => ∃ a xs, vs = [.ref a] ∧ SqT K H1 a xs ∧ R (IteT K a) H1
theorem pi_enumT {X : Cx} {e : Expr} {ta : TA} {p pos tpos : Pos} {elts : List Expr} {kk : Nat} (hg : Gl X "enumerate") (hm : X.mg "enumerate" = none) (ha : PA X [e] ta) (hs : starEach [e] X.env = [(false, eval e X.env)]) :
    PI X (.Tuple elts kk tpos) (.Call (.Name "enumerate" p) [e] [] pos) (iEnumT X.K ta) := by
  refine ⟨fun pins s σ H R I h => ?_⟩
  refine Call_ (ld_blt I hg hm boot_enumerate (PyProof.Rows.callWith_type1 (thn (ha.run pos pins s σ H _ I h) fun us s1 ⟨vs, H1, I1, r1, q1⟩ => ?_) hs rfl))
  obtain ⟨a, xs, ex, hq, q⟩ := q1
  subst ex
  cases r1 with
  | cons r rr =>
    cases rr
    cases r
    obtain ⟨its, rv, p', hz⟩ := I1.tuple hq
    have hal : a < s1.heap.objs.size := p'.lt
    refine call_enumerate_tuple p' fun h' he hit hsz hk => wpAny_pyIter_enum he ?_
    have I2 : Inv X pins σ H1 { s1 with heap := h' } := I1.kept (t' := s1.toks) hk
    refine ⟨s1.heap.objs.size + 1, [s1.heap.objs.size + 1, s1.heap.objs.size], _, _, H1, rfl, I2, turn_enumT a (s1.heap.objs.size + 1) s1.heap.objs.size (Nat.ne_of_lt hal) (Nat.ne_of_lt (Nat.lt_succ_of_lt hal)), ⟨⟨.none, he⟩, hit, Nat.succ_ne_self _⟩, fun b hb => ?_, q⟩
    have e' : b = s1.heap.objs.size + 1 ∨ b = s1.heap.objs.size := by simpa using hb
    have hle : s1.heap.objs.size ≤ b := by
      rcases e' with z | z
      · rw [z]; exact Nat.le_add_right _ _
      · rw [z]; exact Nat.le_refl _
    exact I1.fpOk hle (I1.hok.fresh hle)
end Pf

/-! part P10 -/
set_option Elab.async false
set_option linter.all false
set_option maxRecDepth 100000
set_option autoImplicit false
set_option maxHeartbeats 1000000
namespace Pf
open PySem PySem.Spec PyProof.Rows L2

/-! ### what is walked -/
def OkG (S : Sta) (G0 : Wd) (gd : Gd) (G : Wd) : Prop := Keep G0 G ∧ ∃ st, RelSt S G st ∧ gdOk gd st
structure WalkW (S : Sta) (J : L2.It) (ok : Wd → Prop) (ws : List W) : Prop where
  goes : ∀ (i : Nat) (G : Wd), i < ws.length → ok G → J.go i G.H
  stops : ∀ G : Wd, ok G → J.stop ws.length G.H
  yields : ∀ (i : Nat) (G : Wd) (x : V) (H' : Hp) (hi : i < ws.length), ok G → J.yld i G.H x H' → ∃ G', G'.H = H' ∧ Grow G G' ∧ (∀ st, RelSt S G st → RelSt S G' st) ∧ RelW S G' x (ws[i]'hi)
def tI (S : Sta) (Wx : WX) (f : Ρ → M (List W × Gd)) : TI := fun σ H R => ∃ G ρ st, At S σ H G ρ st ∧ Fin S Wx σ G (fun p G' _ => ∀ J, WalkW S J (OkG S G' p.2) p.1 → R J G'.H) (f ρ st)

section
variable {S : Sta} {G0 : Wd} {gd : Gd}
/-- items that stand where they stood -/
theorem walk_at {J : L2.It} {ws : List W} {at_ : Wd → List V → Prop} (h : ∀ G, OkG S G0 gd G → ∃ vs, at_ G vs ∧ RelWs S G vs ws)
    (goes : ∀ (i : Nat) (G : Wd) (vs : List V) (x : V), at_ G vs → vs[i]? = some x → J.go i G.H) (stops : ∀ (G : Wd) (vs : List V), at_ G vs → J.stop vs.length G.H)
    (yields : ∀ (i : Nat) (G : Wd) (x : V) (H' : Hp) (vs : List V), at_ G vs → J.yld i G.H x H' → H' = G.H ∧ vs[i]? = some x) : WalkW S J (OkG S G0 gd) ws where
  goes := fun i G hi ok => by
    obtain ⟨vs, a, r⟩ := h G ok
    obtain ⟨x, e, _⟩ := r.get (List.getElem?_eq_getElem hi)
    exact goes i G vs x a e
  stops := fun G ok => by
    obtain ⟨vs, a, r⟩ := h G ok
    rw [← r.length]
    exact stops G vs a
  yields := fun i G x H' hi ok y => by
    obtain ⟨vs, a, r⟩ := h G ok
    obtain ⟨e1, e2⟩ := yields i G x H' vs a y
    obtain ⟨w, e3, r3⟩ := r.getV e2
    rw [List.getElem?_eq_getElem hi] at e3
    cases e3
    exact ⟨G, e1.symm, Grow.refl G, fun _ h => h, r3⟩
theorem okg_lst {v : V} {w : W} {ws : List W} {st : St} (rs : RelSt S G0 st) (r : RelW S G0 v w) (e : lstOf w st = some ws) (hgd : ∀ p ∈ gdOf w ws, p ∈ gd) : ∃ a, v = .ref a ∧ ∀ G, OkG S G0 gd G → ∃ vs, SqL S.K G.H a vs ∧ RelWs S G vs ws := by
  unfold lstOf at e
  split at e
  · rename_i xs
    cases e
    simp only [RelW] at r
    obtain ⟨a, o, vs, h1, h2, h3⟩ := r
    exact ⟨a, h1, fun G ⟨g, _⟩ => ⟨vs, .inl (.inr ⟨o, g.frz _ _ _ h2⟩), RelWs.keep g _ _ h3⟩⟩
  · rename_i i
    split at e
    · rename_i xs q
      cases e
      simp only [RelW] at r
      refine ⟨_, r.2, fun G ⟨g, st', rs', gk⟩ => ?_⟩
      have q2 := gk (i, ws) (hgd _ (by simp [gdOf]))
      obtain ⟨vs, h1, h2⟩ := rs'.cell _ _ q2
      rw [g.at_ i r.1] at h1
      exact ⟨vs, .inl (.inl h1), h2⟩
    · cases e
  · cases e
theorem okg_tup {v : V} {ws : List W} (r : RelW S G0 v (.tup ws)) : ∃ a, v = .ref a ∧ ∀ G, OkG S G0 gd G → ∃ vs, SqT S.K G.H a vs ∧ RelWs S G vs ws := by
  obtain ⟨a, vs, h1, h2, h3⟩ := tup_of r
  exact ⟨a, h1, fun G ⟨g, _⟩ => ⟨vs, g.sqT h2, RelWs.keep g _ _ h3⟩⟩
theorem seq_cases {w : W} {ws : List W} {st : St} (e : seqOf w st = some ws) : w = .tup ws ∨ (lstOf w st = some ws ∧ isTup w = false) := by
  unfold seqOf at e
  split at e
  · cases e; exact .inl rfl
  · cases e; exact .inr ⟨rfl, rfl⟩
  · split at e
    · rename_i i _ xs q
      cases e
      exact .inr ⟨by unfold lstOf; simp only [q], rfl⟩
    · cases e
  · cases e
theorem item_cases {w : W} {ws : List W} {st : St} (e : itemsOf w st = some ws) : w = .tup ws ∨ lstOf w st = some ws ∨ ∃ x : Str, w = .str x ∧ ws = x.cps.toList.map fun c => .str ⟨#[c]⟩ := by
  unfold itemsOf at e
  split at e
  · rename_i x
    cases e
    exact .inr (.inr ⟨x, rfl, rfl⟩)
  · rcases seq_cases e with h | h
    · exact .inl h
    · exact .inr (.inl h.1)
theorem walk_itt {K : PySem.W.Frag} {a : Addr} {ws : List W} (h : ∀ G, OkG S G0 gd G → ∃ vs, SqT K G.H a vs ∧ RelWs S G vs ws) : WalkW S (Itt K a) (OkG S G0 gd) ws :=
  walk_at (at_ := fun G vs => SqT K G.H a vs) h (fun i G vs x q e => ⟨vs, x, q, e⟩) (fun G vs q => ⟨vs, q, Nat.le_refl _⟩) fun i G x H' vs q y => ⟨y.1, y.2 vs q⟩
theorem walk_itl {K : PySem.W.Frag} {a : Addr} {ws : List W} (h : ∀ G, OkG S G0 gd G → ∃ vs, SqL K G.H a vs ∧ RelWs S G vs ws) : WalkW S (Itl K a) (OkG S G0 gd) ws :=
  walk_at (at_ := fun G vs => SqL K G.H a vs) h (fun i G vs x q e => ⟨vs, x, q, e⟩) (fun G vs q => ⟨vs, q, Nat.le_refl _⟩) fun i G x H' vs q y => ⟨y.1, y.2 vs q⟩
theorem walk_its {z : Str} : WalkW S (Its z) (OkG S G0 gd) (z.cps.toList.map fun c => .str ⟨#[c]⟩) where
  goes := fun i G hi _ => by
    show i < z.cps.size
    simpa using hi
  stops := fun G _ => by show z.cps.size ≤ _; simp
  yields := fun i G x H' hi _ y => by
    obtain ⟨e, c, e2, e3⟩ := y
    refine ⟨G, e.symm, Grow.refl G, fun _ h => h, ?_⟩
    subst e3
    rw [List.getElem_map]
    simp only [RelW]
    have hi' : i < z.cps.size := by simpa using hi
    rw [Array.getElem?_eq_getElem hi'] at e2
    simp only [Array.getElem_toList]
    rw [Option.some.inj e2]
theorem rngL_length (a : Int) (n : Nat) : (rngL a n).length = n := by unfold rngL; simp
theorem walk_itr {a : Int} {n : Nat} : WalkW S (Itr a n) (OkG S G0 gd) (rngL a n) where
  goes := fun i G hi _ => by rw [rngL_length] at hi; exact hi
  stops := fun G _ => by rw [rngL_length]; exact Nat.le_refl _
  yields := fun i G x H' hi _ y => by
    obtain ⟨e, e2⟩ := y
    refine ⟨G, e.symm, Grow.refl G, fun _ h => h, ?_⟩
    subst e2
    have e3 : (rngL a n)[i]? = some (.int (a + (i : Nat))) := by
      rw [rngL_length] at hi
      unfold rngL
      rw [List.getElem?_map, List.getElem?_range hi]
      rfl
    rw [List.getElem?_eq_getElem hi] at e3
    rw [Option.some.inj e3]
    simp only [RelW]
theorem enumL_length : ∀ (k : Nat) (ws : List W), (enumL k ws).length = ws.length
  | _, [] => rfl
  | k, w :: ws => by simp only [enumL, List.length_cons]; rw [enumL_length (k + 1) ws]
theorem enumL_get : ∀ (k : Nat) (ws : List W) (i : Nat) (w : W), ws[i]? = some w → (enumL k ws)[i]? = some (.tup [.int ((k + i : Nat) : Int), w])
  | _, [], _, _, h => by simp at h
  | k, x :: ws, 0, w, h => by
    simp only [List.getElem?_cons_zero, Option.some.injEq] at h
    subst h
    simp [enumL]
  | k, x :: ws, i + 1, w, h => by
    simp only [List.getElem?_cons_succ] at h
    simp only [enumL, List.getElem?_cons_succ]
    rw [enumL_get (k + 1) ws i w h]
    have : k + 1 + i = k + (i + 1) := by omega
    rw [this]
/-- a new pair -/
theorem new_pair {G : Wd} {T : Addr} {x y : V} {a b : W} (n : G.H T = none) (rx : RelW S G x a) (ry : RelW S G y b) : ∃ G', G'.H = upd G.H T (.tup [x, y]) ∧ Grow G G' ∧ (∀ st, RelSt S G st → RelSt S G' st) ∧ RelW S G' (.ref T) (.tup [a, b]) := by
  have g := Grow.put (G := G) (o := .tup [x, y]) n
  refine ⟨G.put T (.tup [x, y]), rfl, g, fun _ h => h.put n, ?_⟩
  simp only [RelW]
  exact ⟨T, _, rfl, .inl (.inl upd_same), RelWs.cons (RelW.grow g _ _ rx) (RelWs.cons (RelW.grow g _ _ ry) RelWs.nil)⟩
theorem walk_ite {J : L2.It} {ws : List W} {at_ : Wd → List V → Prop} (h : ∀ G, OkG S G0 gd G → ∃ vs, at_ G vs ∧ RelWs S G vs ws)
    (goes : ∀ (i : Nat) (G : Wd) (vs : List V) (x : V), at_ G vs → vs[i]? = some x → J.go i G.H) (stops : ∀ (G : Wd) (vs : List V), at_ G vs → J.stop vs.length G.H)
    (yields : ∀ (i : Nat) (G : Wd) (v : V) (H' : Hp) (vs : List V), at_ G vs → J.yld i G.H v H' → ∃ T x, v = .ref T ∧ G.H T = none ∧ H' = upd G.H T (.tup [.int (i : Nat), x]) ∧ vs[i]? = some x) : WalkW S J (OkG S G0 gd) (enumL 0 ws) where
  goes := fun i G hi ok => by
    rw [enumL_length] at hi
    obtain ⟨vs, a, r⟩ := h G ok
    obtain ⟨x, e, _⟩ := r.get (List.getElem?_eq_getElem hi)
    exact goes i G vs x a e
  stops := fun G ok => by
    rw [enumL_length]
    obtain ⟨vs, a, r⟩ := h G ok
    rw [← r.length]
    exact stops G vs a
  yields := fun i G x H' hi ok y => by
    obtain ⟨vs, a, r⟩ := h G ok
    obtain ⟨T, z, e1, n, e2, e3⟩ := yields i G x H' vs a y
    obtain ⟨w, e4, r4⟩ := r.getV e3
    have e5 := enumL_get 0 ws i w e4
    rw [List.getElem?_eq_getElem hi] at e5
    rw [Option.some.inj e5, e1, e2]
    have r5 : RelW S G (.int (i : Nat)) (.int ((0 + i : Nat) : Int)) := by simp only [RelW]; rw [Nat.zero_add]
    exact new_pair n r5 r4
theorem zipL_length : ∀ (xs ys : List W), (zipL xs ys).length = min xs.length ys.length
  | [], _ => by simp [zipL]
  | _ :: _, [] => by simp [zipL]
  | x :: xs, y :: ys => by simp only [zipL, List.length_cons]; rw [zipL_length xs ys]; omega
theorem zipL_get : ∀ (xs ys : List W) (i : Nat) (a b : W), xs[i]? = some a → ys[i]? = some b → (zipL xs ys)[i]? = some (.tup [a, b])
  | [], _, _, _, _, h, _ => by simp at h
  | _ :: _, [], _, _, _, _, h => by simp at h
  | x :: xs, y :: ys, 0, a, b, h1, h2 => by
    simp only [List.getElem?_cons_zero, Option.some.injEq] at h1 h2
    subst h1 h2
    simp [zipL]
  | x :: xs, y :: ys, i + 1, a, b, h1, h2 => by
    simp only [List.getElem?_cons_succ] at h1 h2
    simp only [zipL, List.getElem?_cons_succ]
    exact zipL_get xs ys i a b h1 h2
theorem walk_itz {J : L2.It} {xs ys : List W} {at_ bt : Wd → List V → Prop} (h : ∀ G, OkG S G0 gd G → ∃ vs, at_ G vs ∧ RelWs S G vs xs) (h' : ∀ G, OkG S G0 gd G → ∃ vs, bt G vs ∧ RelWs S G vs ys)
    (goes : ∀ (i : Nat) (G : Wd) (vs us : List V) (x y : V), at_ G vs → bt G us → vs[i]? = some x → us[i]? = some y → J.go i G.H) (stops : ∀ (G : Wd) (vs us : List V), at_ G vs → bt G us → J.stop (min vs.length us.length) G.H)
    (yields : ∀ (i : Nat) (G : Wd) (v : V) (H' : Hp) (vs us : List V), at_ G vs → bt G us → J.yld i G.H v H' → ∃ T x y, v = .ref T ∧ G.H T = none ∧ H' = upd G.H T (.tup [x, y]) ∧ vs[i]? = some x ∧ us[i]? = some y) : WalkW S J (OkG S G0 gd) (zipL xs ys) where
  goes := fun i G hi ok => by
    rw [zipL_length] at hi
    obtain ⟨vs, a, r⟩ := h G ok
    obtain ⟨us, b, q⟩ := h' G ok
    obtain ⟨x, e, _⟩ := r.get (List.getElem?_eq_getElem (show i < xs.length by omega))
    obtain ⟨y, e', _⟩ := q.get (List.getElem?_eq_getElem (show i < ys.length by omega))
    exact goes i G vs us x y a b e e'
  stops := fun G ok => by
    rw [zipL_length]
    obtain ⟨vs, a, r⟩ := h G ok
    obtain ⟨us, b, q⟩ := h' G ok
    rw [← r.length, ← q.length]
    exact stops G vs us a b
  yields := fun i G x H' hi ok y => by
    obtain ⟨vs, a, r⟩ := h G ok
    obtain ⟨us, b, q⟩ := h' G ok
    obtain ⟨T, z, z', e1, n, e2, e3, e3'⟩ := yields i G x H' vs us a b y
    obtain ⟨w, e4, r4⟩ := r.getV e3
    obtain ⟨w', e4', r4'⟩ := q.getV e3'
    have e5 := zipL_get xs ys i w w' e4 e4'
    rw [List.getElem?_eq_getElem hi] at e5
    rw [Option.some.inj e5, e1, e2]
    exact new_pair n r4 r4'
end

section
variable {S : Sta} {X : Cx} {Wx : WX} {a b : Expr} {fa fb : Ρ → M W} {tg : Expr} {pos p tpos : Pos}
theorem tE_at {σ : Sl} {H : Hp} {G : Wd} {ρ : Ρ} {st st1 : St} {f : Ρ → M W} {w : W} {Q : VK} (a : At S σ H G ρ st) (e : f ρ st = .ok w st1) (h : ∀ G', Grow G G' → RelSt S G' st1 → ∀ v, RelW S G' v w → Q v G'.H) : tE S Wx f σ H Q :=
  ⟨G, ρ, st, a, by rw [e]; exact h⟩
theorem tE_exc {σ : Sl} {H : Hp} {G : Wd} {ρ : Ρ} {st st1 : St} {f : Ρ → M W} {c : Str} {fs : List Str} {xs : List W} {α : Type} {P : α → Wd → St → Prop} {Q : VK} (a : At S σ H G ρ st) (e : f ρ st = .exc c fs xs st1) (h : Fin S Wx σ G P (.exc c fs xs st1)) : tE S Wx f σ H Q :=
  ⟨G, ρ, st, a, by rw [e]; exact h⟩
theorem p_it (hK : X.K = S.K) (ha : PE X a (tE S Wx fa)) : PI X tg a (tI S Wx (fun ρ => do let w ← fa ρ; let xs ← M.lift (itemsOf w (← M.get)); pure (xs, gdOf w xs))) := by
  refine ⟨fun pins s σ H R I h => ?_⟩
  obtain ⟨G, ρ, st, at_, f⟩ := h
  have f := f.bind
  cases e : fa ρ st with
  | stuck => rw [e] at f; exact f.elim
  | exc c fs xs st1 =>
    rw [e] at f
    exact (pi_tup ha).run pins s σ H R I (tE_exc at_ e f)
  | ok w st1 =>
    rw [e] at f
    cases k : itemsOf w st1 with
    | none =>
      refine (pi_tup ha).run pins s σ H R I (tE_at at_ e fun G' g rs v r => ?_)
      obtain ⟨xs, e2, _⟩ := Fin.lift (o := itemsOf w st1) (f G' g rs)
      rw [k] at e2
      cases e2
    | some xs =>
      have fin : ∀ G', Grow G G' → RelSt S G' st1 → ∀ J, WalkW S J (OkG S G' (gdOf w xs)) xs → R J G'.H := fun G' g rs J wk => by
        obtain ⟨ys, e2, f2⟩ := Fin.lift (o := itemsOf w st1) (f G' g rs)
        rw [k] at e2
        cases e2
        exact f2 G' (Grow.refl G') rs J wk
      rcases item_cases k with h | h | ⟨z, h, h2⟩
      · subst h
        refine (pi_tup ha).run pins s σ H R I (tE_at at_ e fun G' g rs v r => ?_)
        obtain ⟨p, e1, h1⟩ := okg_tup (gd := []) r
        obtain ⟨vs, t1, _⟩ := h1 G' ⟨(Grow.refl G').toKeep, st1, rs, fun _ z => nomatch z⟩
        exact ⟨p, e1, ⟨vs, hK ▸ t1⟩, fin G' g rs _ (walk_itt (by rw [hK]; exact h1))⟩
      · refine (pi_list ha).run pins s σ H R I (tE_at at_ e fun G' g rs v r => ?_)
        obtain ⟨p, e1, h1⟩ := okg_lst (gd := gdOf w xs) rs r h (fun _ z => z)
        obtain ⟨p', vs, e2, t1, _⟩ := lst_of rs r h
        have : p' = p := by rw [e1] at e2; exact (V.ref.inj e2).symm
        subst this
        exact ⟨p', e1, ⟨vs, .inl t1⟩, fin G' g rs _ (walk_itl (by rw [hK]; exact h1))⟩
      · subst h
        refine (pi_str ha).run pins s σ H R I (tE_at at_ e fun G' g rs v r => ?_)
        simp only [RelW] at r
        exact ⟨z, r, fin G' g rs _ (by subst h2; exact walk_its)⟩
/-- range(a), range(a, b) -/
theorem p_rng1 (hg : Gl X "range") (hm : X.mg "range" = none) (ha : PE X a (tE S Wx fa)) (hs : starEach [a] X.env = [(false, eval a X.env)]) (hs2 : starEach [a] X.env = (false, eval a X.env) :: starEach [] X.env) :
    PI X tg (.Call (.Name "range" p) [a] [] pos) (tI S Wx (fun ρ => do let x ← pure (W.int 0); let y ← fa ρ; let i ← M.lift (asI x); let j ← M.lift (asI y); M.chk (rngOk i j); pure (rngL i (j - i).toNat, []))) := by
  refine ⟨fun pins s σ H R I h => (pi_range1 hg hm (pa_cons ha pa_nil hs2) hs).run pins s σ H R I ?_⟩
  obtain ⟨G, ρ, st, at_, f⟩ := h
  have f : Fin S Wx σ G _ ((do let y ← fa ρ; let j ← M.lift (asI y); M.chk (rngOk 0 j); pure (rngL 0 (j - 0).toNat, ([] : Gd))) st) := f
  unfold iRng1 tCons
  refine bindE at_ f fun y H1 G1 w st1 b1 f1 => ?_
  obtain ⟨j, e, f1⟩ := Fin.lift f1
  obtain ⟨hz, f1⟩ := Fin.chk f1
  have r := b1.rel
  cases w with
  | int i =>
    have e : i = j := Option.some.inj e
    subst e
    simp only [RelW] at r
    subst r
    unfold rngOk at hz
    rw [decide_eq_true_eq] at hz
    refine ⟨i, rfl, hz.2.2.1, hz.2.2.2.1, ?_⟩
    have q := f1 G1 (Grow.refl G1) b1.at_.st _ walk_itr
    rw [Int.sub_zero] at q
    exact b1.at_.hp ▸ q
  | _ => cases e
theorem p_rng2 (hg : Gl X "range") (hm : X.mg "range" = none) (ha : PE X a (tE S Wx fa)) (hb : PE X b (tE S Wx fb)) (hs : starEach [a, b] X.env = [(false, eval a X.env), (false, eval b X.env)]) (hs2 : starEach [b] X.env = [(false, eval b X.env)])
    (h1 : starEach [a, b] X.env = (false, eval a X.env) :: starEach [b] X.env) (h2 : starEach [b] X.env = (false, eval b X.env) :: starEach [] X.env) :
    PI X tg (.Call (.Name "range" p) [a, b] [] pos) (tI S Wx (fun ρ => do let x ← fa ρ; let y ← fb ρ; let i ← M.lift (asI x); let j ← M.lift (asI y); M.chk (rngOk i j); pure (rngL i (j - i).toNat, []))) := by
  refine ⟨fun pins s σ H R I h => (pi_range2 hg hm (pa_cons ha (pa_cons hb pa_nil h2) h1) hs hs2).run pins s σ H R I ?_⟩
  obtain ⟨G, ρ, st, at_, f⟩ := h
  unfold iRng2 tCons
  refine bindE at_ f fun x H1 G1 w1 st1 b1 f1 => ?_
  refine bindE b1.at_ f1 fun y H2 G2 w2 st2 b2 f2 => ?_
  obtain ⟨i, e1, f3⟩ := Fin.lift f2
  obtain ⟨j, e2, f4⟩ := Fin.lift f3
  obtain ⟨hz, f5⟩ := Fin.chk f4
  have r1 := b1.rel
  have r2 := b2.rel
  cases w1 with
  | int i' =>
    have e1 : i' = i := Option.some.inj e1
    subst e1
    cases w2 with
    | int j' =>
      have e2 : j' = j := Option.some.inj e2
      subst e2
      simp only [RelW] at r1 r2
      subst r1 r2
      unfold rngOk at hz
      rw [decide_eq_true_eq] at hz
      exact ⟨i', j', rfl, ⟨hz.1, hz.2.1, hz.2.2.1, hz.2.2.2.1⟩, b2.at_.hp ▸ f5 G2 (Grow.refl G2) b2.at_.st _ walk_itr⟩
    | _ => cases e2
  | _ => cases e1
/-- enumerate(a) -/
theorem p_enm {elts : List Expr} {kk : Nat} (hK : X.K = S.K) (hg : Gl X "enumerate") (hm : X.mg "enumerate" = none) (ha : PE X a (tE S Wx fa)) (hs : starEach [a] X.env = [(false, eval a X.env)]) (hs2 : starEach [a] X.env = (false, eval a X.env) :: starEach [] X.env) :
    PI X (.Tuple elts kk tpos) (.Call (.Name "enumerate" p) [a] [] pos) (tI S Wx (fun ρ => do let w ← fa ρ; let xs ← M.lift (seqOf w (← M.get)); pure (enumL 0 xs, gdOf w xs))) := by
  refine ⟨fun pins s σ H R I h => ?_⟩
  obtain ⟨G, ρ, st, at_, f⟩ := h
  have f := f.bind
  have hT := pi_enumT (X := X) (p := p) (pos := pos) (tpos := tpos) (elts := elts) (kk := kk) hg hm (pa_cons ha pa_nil hs2) hs
  cases e : fa ρ st with
  | stuck => rw [e] at f; exact f.elim
  | exc c fs xs st1 =>
    rw [e] at f
    exact hT.run pins s σ H R I (by unfold iEnumT tCons; exact tE_exc at_ e f)
  | ok w st1 =>
    rw [e] at f
    cases k : seqOf w st1 with
    | none =>
      refine hT.run pins s σ H R I (by
        unfold iEnumT tCons
        refine tE_at at_ e fun G' g rs v r => ?_
        obtain ⟨xs, e2, _⟩ := Fin.lift (o := seqOf w st1) (f G' g rs)
        rw [k] at e2
        cases e2)
    | some xs =>
      have fin : ∀ G', Grow G G' → RelSt S G' st1 → ∀ J, WalkW S J (OkG S G' (gdOf w xs)) (enumL 0 xs) → R J G'.H := fun G' g rs J wk => by
        obtain ⟨ys, e2, f2⟩ := Fin.lift (o := seqOf w st1) (f G' g rs)
        rw [k] at e2
        cases e2
        exact f2 G' (Grow.refl G') rs J wk
      rcases seq_cases k with h | ⟨h, _⟩
      · subst h
        refine hT.run pins s σ H R I (by
          unfold iEnumT tCons
          refine tE_at at_ e fun G' g rs v r => ?_
          obtain ⟨p, e1, h1⟩ := okg_tup (gd := []) r
          obtain ⟨vs, t1, _⟩ := h1 G' ⟨(Grow.refl G').toKeep, st1, rs, fun _ z => nomatch z⟩
          refine ⟨p, vs, by rw [e1], hK ▸ t1, fin G' g rs _ ?_⟩
          exact walk_ite (at_ := fun G vs => SqT X.K G.H p vs) (by rw [hK]; exact h1) (fun i G vs x q e => ⟨vs, x, q, e⟩) (fun G vs q => ⟨vs, q, rfl⟩) fun i G x H' vs q y => by
            obtain ⟨T, z, y1, y2, y3, y4⟩ := y
            exact ⟨T, z, y1, y2, y3, y4 vs q⟩)
      · have hL := pi_enum (X := X) (p := p) (pos := pos) (tpos := tpos) (elts := elts) (kk := kk) hg hm (pa_cons ha pa_nil hs2) hs
        refine hL.run pins s σ H R I (by
          unfold iEnum tCons
          refine tE_at at_ e fun G' g rs v r => ?_
          obtain ⟨p, e1, h1⟩ := okg_lst (gd := gdOf w xs) rs r h (fun _ z => z)
          obtain ⟨p', vs, e2, t1, _⟩ := lst_of rs r h
          have : p' = p := by rw [e1] at e2; exact (V.ref.inj e2).symm
          subst this
          refine ⟨p', vs, by rw [e1], .inl t1, fin G' g rs _ ?_⟩
          exact walk_ite (at_ := fun G vs => SqL X.K G.H p' vs) (by rw [hK]; exact h1) (fun i G vs x q e => ⟨vs, x, q, e⟩) (fun G vs q => ⟨vs, q, Nat.le_refl _⟩) fun i G x H' vs q y => by
            obtain ⟨T, z, y1, y2, y3, y4⟩ := y
            exact ⟨T, z, y1, y2, y3, y4 vs q⟩)
end
end Pf

/-! part P11 -/
set_option Elab.async false
set_option linter.all false
set_option maxRecDepth 100000
set_option autoImplicit false
set_option maxHeartbeats 1000000
namespace Pf
open PySem PySem.Spec PyProof.Rows L2

theorem upd_self' {H : Hp} {a : Addr} {o : HO} (h : H a = some o) : upd H a o = H := by
  funext b
  unfold upd
  by_cases e : b = a
  · rw [if_pos e, e, h]
  · rw [if_neg e]
/-! ### a thing taken out of sight -/
def Wd.del (G : Wd) (D : Addr) : Wd := { G with H := fun b => if b = D then none else G.H b }
theorem del_same {G : Wd} {D : Addr} : (G.del D).H D = none := by show (if D = D then none else G.H D) = none; rw [if_pos rfl]
theorem del_ne {G : Wd} {D b : Addr} (h : b ≠ D) : (G.del D).H b = G.H b := by show (if b = D then none else G.H b) = G.H b; rw [if_neg h]
theorem upd_del {G : Wd} {D : Addr} {o : HO} : upd (G.del D).H D o = upd G.H D o := by
  funext b
  unfold upd
  by_cases h : b = D
  · rw [if_pos h, if_pos h]
  · rw [if_neg h, if_neg h, del_ne h]
section
variable {S : Sta} {G G3 : Wd} {D : Addr} {o : HO}
theorem put_same : (G.put D o).H D = some o := upd_same
theorem Grow.notCell (n : G.H D = none) (c : ∀ i, i < G.n → G.μ i ≠ D) (g : Grow (G.put D o) G3) : ∀ i, i < G3.n → G3.μ i ≠ D := fun i hi e => by
  by_cases h : i < G.n
  · exact c i h (((g.at_ i h)).symm.trans e)
  · have q := g.fresh i (Nat.not_lt.mp h) hi
    rw [e, put_same] at q
    cases q
theorem Grow.del (n : G.H D = none) (nt : ∀ xs, o ≠ .tup xs) (nf : ∀ ob u, o ≠ .frz ob u) (ntb : ∀ ps, o ≠ .tbl ps) (c : ∀ i, i < G.n → G.μ i ≠ D) (g : Grow (G.put D o) G3) : Grow G (G3.del D) where
  le := g.le
  at_ := g.at_
  tup := fun a xs h => by
    have ne : a ≠ D := ne_of_none h n
    rw [del_ne ne]
    exact g.tup a xs (by show upd G.H D o a = _; rw [upd_ne ne]; exact h)
  frz := fun a ob u h => by
    have ne : a ≠ D := ne_of_none h n
    rw [del_ne ne]
    exact g.frz a ob u (by show upd G.H D o a = _; rw [upd_ne ne]; exact h)
  ext := fun a φ h => by
    have ne : a ≠ D := ne_of_none h n
    rw [del_ne ne]
    exact g.ext a φ (by show upd G.H D o a = _; rw [upd_ne ne]; exact h)
  keep := fun a ob h t k => by
    have ne : a ≠ D := ne_of_none h n
    rw [del_ne ne]
    exact g.keep a ob (by show upd G.H D o a = _; rw [upd_ne ne]; exact h) t k
  there := fun a h => by
    by_cases e : a = D
    · rw [e]; exact n
    · rw [del_ne e] at h
      have q := g.there a h
      have q : upd G.H D o a = none := q
      rw [upd_ne e] at q
      exact q
  fresh := fun i h1 h2 => by
    have q := g.fresh i h1 h2
    have q : upd G.H D o (G3.μ i) = none := q
    by_cases e : G3.μ i = D
    · show G.H (G3.μ i) = none
      rw [e]; exact n
    · rw [upd_ne e] at q
      exact q
theorem Keep.del (h : G.H D = some o) (nt : ∀ xs, o ≠ .tup xs) (nf : ∀ ob u, o ≠ .frz ob u) (nx : ∀ φ, o ≠ .ext φ) : Keep G (G.del D) where
  le := Nat.le_refl _
  at_ := fun _ _ => rfl
  tup := fun a xs q => by rw [del_ne (fun e => nt xs (by rw [e, h] at q; exact Option.some.inj q))]; exact q
  frz := fun a ob u q => by rw [del_ne (fun e => nf ob u (by rw [e, h] at q; exact Option.some.inj q))]; exact q
  ext := fun a φ q => by rw [del_ne (fun e => nx φ (by rw [e, h] at q; exact Option.some.inj q))]; exact q
theorem RelSt.del {st : St} (r : RelSt S G st) (h : G.H D = Option.some o) (nt : ∀ xs, o ≠ .tup xs) (nf : ∀ ob u, o ≠ .frz ob u) (ntb : ∀ ps, o ≠ .tbl ps) (ne : ∀ φ, o ≠ .ext φ) (c : ∀ i, i < G.n → G.μ i ≠ D) : RelSt S (G.del D) st := by
  have k := Keep.del h nt nf ne
  refine ⟨r.len, r.inj, fun i cl e => ?_, tabs_keep r.tabs (fun a ps e => by rw [del_ne (fun z => by rw [z, h] at e; exact ntb ps (Option.some.inj e))]; exact e) (fun a φ e => by rw [del_ne (fun z => by rw [z, h] at e; exact ne φ (Option.some.inj e))]; exact e) (fun a ps e => ⟨ps, by
    by_cases z : a = D
    · rw [z, del_same] at e; cases e
    · rw [del_ne z] at e; exact e⟩)⟩
  have hi : i < G.n := by rw [← r.len]; exact (List.getElem?_eq_some_iff.mp e).1
  have q := r.cell i cl e
  cases cl with
  | lst ws => obtain ⟨vs, h1, h2⟩ := q; exact ⟨vs, (del_ne (c i hi)).trans h1, RelWs.keep k ws vs h2⟩
  | ins a fs ws => obtain ⟨C, dx, kvs, h0, h1, h2, h3⟩ := q; exact ⟨C, dx, kvs, h0, (del_ne (c i hi)).trans h1, h2, RelWs.keep k ws _ h3⟩
end

/-! ### the run of a comprehension -/
section
variable {S : Sta} {Wx : WX} {σ : Sl} {G : Wd}
theorem Fin.chkG {β : Type} {P : β → Wd → St → Prop} {gd : Gd} {k : Unit → M β} {st : St} (h : Fin S Wx σ G P ((M.chkG gd >>= k) st)) : gdOk gd st ∧ Fin S Wx σ G P (k () st) := by
  have h : Fin S Wx σ G P (M.bind (M.chkG gd) k st) := h
  unfold M.bind M.chkG at h
  by_cases q : gdOk gd st
  · rw [if_pos q] at h; exact ⟨q, h⟩
  · rw [if_neg q] at h; exact h.elim
abbrev Wf : WX := fun _ _ _ _ => False
theorem Fin.nox {α : Type} {σ' : Sl} {P : α → Wd → St → Prop} {m : M α} {st : St} (h : Fin S Wx σ G P (M.nox m st)) : Fin S Wf σ' G P (m st) := by
  unfold M.nox at h
  cases e : m st with
  | ok a st' => rw [e] at h; exact h
  | exc c fs xs st' => rw [e] at h; exact h.elim
  | stuck => rw [e] at h; exact h
theorem Fin.noxb {α β : Type} {σ' : Sl} {P : β → Wd → St → Prop} {m : M α} {k : α → M β} {st : St} (h : Fin S Wx σ G P ((M.nox m >>= k) st)) : Fin S Wf σ' G (fun a G' st' => Fin S Wx σ G' P (k a st')) (m st) := Fin.nox h.bind
theorem compL_cons {gd : Gd} {f : W → M (List W)} {x : W} {xs : List W} {β : Type} (k : List W → M β) : (compL gd f (x :: xs) >>= k) = (M.chkG gd >>= fun _ => f x >>= fun a => compL gd f xs >>= fun r => k (a ++ r)) := by
  rw [show compL gd f (x :: xs) = (M.chkG gd >>= fun _ => f x >>= fun a => compL gd f xs >>= fun r => pure (a ++ r)) from rfl, M.bind_assoc]
  congr 1
  funext _
  rw [M.bind_assoc]
  congr 1
  funext a
  rw [M.bind_assoc]
  rfl
theorem compL_nil {gd : Gd} {f : W → M (List W)} {β : Type} (k : List W → M β) : (compL gd f [] >>= k) = (M.chkG gd >>= fun _ => k []) := by
  rw [show compL gd f [] = (M.chkG gd >>= fun _ => pure []) from rfl, M.bind_assoc]
  rfl
theorem Fin.nox_ok {α β : Type} {P : β → Wd → St → Prop} {m : M α} {k : α → M β} {st : St} (h : Fin S Wx σ G P ((M.nox m >>= k) st)) :
    ∃ a st', m st = .ok a st' ∧ ∀ G', Grow G G' → RelSt S G' st' → Fin S Wx σ G' P (k a st') := by
  have h : Fin S Wx σ G P (M.bind (M.nox m) k st) := h
  unfold M.bind M.nox at h
  cases e : m st with
  | ok a st' => rw [e] at h; exact ⟨a, st', rfl, fun G' g _ => Fin.grow g h⟩
  | exc c fs xs st' => rw [e] at h; exact h.elim
  | stuck => rw [e] at h; exact h.elim
theorem bind_ok {α β : Type} {m : M α} {k : α → M β} {st st' : St} {b : β} (h : (m >>= k) st = .ok b st') : ∃ a st1, m st = .ok a st1 ∧ k a st1 = .ok b st' := by
  have h : M.bind m k st = .ok b st' := h
  unfold M.bind at h
  cases e : m st with
  | ok a st1 => rw [e] at h; exact ⟨a, st1, rfl, h⟩
  | exc c fs xs st' => rw [e] at h; cases h
  | stuck => rw [e] at h; cases h
end
/-- a target's reading: slots of is are stored -/
def tG (S : Sta) (Wx : WX) (is : List Nat) (f : W → Ρ → M Ρ) : TG := fun v σ H Q => ∃ G ρ st w, At S σ H G ρ st ∧ RelW S G v w ∧
  Fin S Wx σ G (fun ρ' G' _ => ∀ σ' : Sl, RelSl S G' σ' ρ' → σ'.length = σ.length → (∀ i, i ∉ is → σ'[i]? = σ[i]?) → Q σ' G'.H) (f w ρ st)
theorem wipe_get {σ : Sl} : ∀ (vs : List Nat) (i : Nat), (L2.wipe σ vs)[i]? = if i ∈ vs ∧ i < σ.length then some none else σ[i]?
  | [], i => by simp [L2.wipe]
  | v :: vs, i => by
    unfold L2.wipe
    by_cases h : v = i
    · subst h
      by_cases hl : v < σ.length
      · rw [List.getElem?_set_self (by rw [L2.wipe_length]; exact hl), if_pos ⟨List.mem_cons_self, hl⟩]
      · rw [List.getElem?_eq_none (by rw [List.length_set, L2.wipe_length]; exact Nat.not_lt.mp hl), if_neg (fun z => hl z.2), List.getElem?_eq_none (Nat.not_lt.mp hl)]
    · rw [List.getElem?_set_ne h, wipe_get vs i]
      by_cases hm : i ∈ vs ∧ i < σ.length
      · rw [if_pos hm, if_pos ⟨List.mem_cons_of_mem _ hm.1, hm.2⟩]
      · rw [if_neg hm, if_neg (fun z => hm ⟨(List.mem_cons.mp z.1).resolve_left (fun e => h e.symm), z.2⟩)]
theorem wipe_eq {σ σ' : Sl} {vs : List Nat} (hl : σ'.length = σ.length) (h : ∀ i, i ∉ vs → σ'[i]? = σ[i]?) : L2.wipe σ' vs = L2.wipe σ vs := by
  apply List.ext_getElem?
  intro i
  rw [wipe_get, wipe_get, hl]
  by_cases hm : i ∈ vs ∧ i < σ.length
  · rw [if_pos hm, if_pos hm]
  · rw [if_neg hm, if_neg hm]
    by_cases hv : i ∈ vs
    · have : ¬ i < σ.length := fun z => hm ⟨hv, z⟩
      rw [List.getElem?_eq_none (by omega), List.getElem?_eq_none (by omega)]
    · exact h i hv
theorem wipe_out' {σ : Sl} {vs : List Nat} {i : Nat} (h : i ∉ vs) : (L2.wipe σ vs)[i]? = σ[i]? := by
  rw [wipe_get, if_neg (fun z => h z.1)]

/-! ### [elt for tg in iter if ..] -/
section
variable {S : Sta} {X : Cx} {Wx : WX} {elt tg iter : Expr} {ifs : List Expr} {scope : Scope} {own : List (Str × Nat)} {pos : Pos} {fi : Ρ → M (List W × Gd)} {fg : W → Ρ → M Ρ} {ft : Ρ → M Bool} {fe : Ρ → M W} {is : List Nat}
/-- one turn -/
def turn1 (fg : W → Ρ → M Ρ) (ft : Ρ → M Bool) (fe : Ρ → M W) (ρ : Ρ) (x : W) : M (List W) := do
  let ρ2 ← fg x ρ
  let b ← ft ρ2
  if b = true then do
    let w ← fe ρ2
    pure [w]
  else pure []
def turnL (fg : W → Ρ → M Ρ) (ft : Ρ → M Bool) (fe : Ρ → M W) (ρ : Ρ) (x : W) : M (List W) := M.nox (turn1 fg ft fe ρ x)
theorem turn1_ok {ρ : Ρ} {x : W} {st st' : St} {a : List W} (h : turn1 fg ft fe ρ x st = .ok a st') : ∃ ρ2 st2, fg x ρ st = .ok ρ2 st2 ∧ ((∃ st3 w, ft ρ2 st2 = .ok true st3 ∧ fe ρ2 st3 = .ok w st' ∧ a = [w]) ∨ (ft ρ2 st2 = .ok false st' ∧ a = [])) := by
  obtain ⟨ρ2, st2, e1, h⟩ := bind_ok h
  obtain ⟨b, st3, e2, h⟩ := bind_ok h
  refine ⟨ρ2, st2, e1, ?_⟩
  cases b with
  | true =>
    simp only [if_true] at h
    obtain ⟨w, st4, e3, h⟩ := bind_ok h
    cases h
    exact .inl ⟨st3, w, e2, e3, rfl⟩
  | false =>
    simp only [Bool.false_eq_true, if_false] at h
    cases h
    exact .inr ⟨e2, rfl⟩
/-- the state between two turns: D the new list -/
structure Mid (S : Sta) (G1 : Wd) (σ : Sl) (ρ : Ρ) (D : Addr) (k : List W → St → Wd → Prop) (i : Nat) (H : Hp) : Prop where
  ex : ∃ (Gm : Wd) (st : St) (acc : List W) (vs : List V), H = upd Gm.H D (.lst vs) ∧ Gm.H D = none ∧ Grow G1 Gm ∧ RelSt S Gm st ∧ RelWs S Gm vs acc ∧ acc.length ≤ i ∧ k acc st Gm
theorem lc_turn {G1 : Wd} {σ σF : Sl} {ρ : Ρ} {D : Addr} {J : L2.It} {xs : List W} {gd : Gd} {i : Nat} {β : Type} {P : β → Wd → St → Prop} {kf : List W → M β} {ow : List Nat} (wk : WalkW S J (OkG S G1 gd) xs) (hr : RelSl S G1 σ ρ) {b0 : Nat} (hz : b0 < SZ)
    (his : ∀ j ∈ is, j ∈ ow)
    {H : Hp} {F : W → M (List W)} (hF : ∀ x, F x = turnL fg ft fe (wipeW ρ ow) x)
    (m : Mid S G1 σ ρ D (fun acc st Gm => Fin S Wx σF Gm P ((compL gd F (xs.drop i) >>= fun ws => kf (acc ++ ws)) st)) b0 H) (hi : i < xs.length) :
    J.go i H ∧ ∀ x H', J.yld i H x H' → tG S Wf is fg x (L2.wipe σ ow) H' fun σ2 H2 => L2.wipe σ2 ow = L2.wipe σ ow ∧ tT S Wf ft σ2 H2 fun b H3 =>
      if b = true then tE S Wf fe σ2 H3 fun y H4 => ∃ acc, H4 D = some (.lst acc) ∧ acc.length < sizeLine ∧ Mid S G1 σ ρ D (fun acc st Gm => Fin S Wx σF Gm P ((compL gd F (xs.drop (i + 1)) >>= fun ws => kf (acc ++ ws)) st)) (b0 + 1) (upd H4 D (.lst (acc ++ [y])))
      else Mid S G1 σ ρ D (fun acc st Gm => Fin S Wx σF Gm P ((compL gd F (xs.drop (i + 1)) >>= fun ws => kf (acc ++ ws)) st)) (b0 + 1) H3 := by
  obtain ⟨Gm, st, acc, vs, rfl, n, g, rs, ra, hl, f⟩ := m.ex
  have hd : xs.drop i = xs[i] :: xs.drop (i + 1) := List.drop_eq_getElem_cons hi
  rw [hd, compL_cons] at f
  obtain ⟨gk, f⟩ := Fin.chkG f
  have nc : ∀ j, j < Gm.n → Gm.μ j ≠ D := fun j hj => rs.ne n hj
  have gp := Grow.put (G := Gm) (o := .lst vs) n
  have ok : OkG S G1 gd (Gm.put D (.lst vs)) := ⟨(g.trans gp).toKeep, st, rs.put n, gk⟩
  refine ⟨wk.goes i _ hi ok, fun x H' y => ?_⟩
  obtain ⟨G', e', g', rs', rx⟩ := wk.yields i _ x H' hi ok y
  subst e'
  rw [hF] at f
  obtain ⟨a, st', et, f⟩ := Fin.nox_ok f
  obtain ⟨ρ2, st2, e1, et⟩ := turn1_ok et
  refine ⟨G', wipeW ρ ow, st, xs[i], ⟨rfl, rs' _ (rs.put n), (hr.grow (g.trans (gp.trans g'))).wipe ow⟩, rx, ?_⟩
  rw [e1]
  intro G2 g2 rs2 σ2 r2 hl2 ho
  have ew : L2.wipe σ2 ow = L2.wipe σ ow := by
    have e1 := wipe_eq (vs := ow) hl2 (fun j hj => ho j (fun z => hj (his j z)))
    rw [e1]
    refine wipe_eq (L2.wipe_length _ _) fun j hj => wipe_out' hj
  have far : ∀ G3, Grow G2 G3 → (∀ j, j < G3.n → G3.μ j ≠ D) ∧ G3.H D = some (.lst vs) ∧ Grow Gm (G3.del D) := fun G3 g3 => by
    have gD : Grow (Gm.put D (.lst vs)) G3 := g'.trans (g2.trans g3)
    exact ⟨gD.notCell n nc, gD.keep D _ put_same (fun _ z => by cases z) nc, gD.del n (fun _ z => by cases z) (fun _ _ z => by cases z) (fun _ z => by cases z) nc⟩
  refine ⟨ew, G2, ρ2, st2, ⟨rfl, rs2, r2⟩, ?_⟩
  rcases et with ⟨st3, w, e2, e3, ea⟩ | ⟨e2, ea⟩
  · subst ea
    rw [e2]
    intro G3 g3 rs3
    simp only [if_true]
    refine ⟨G3, ρ2, st3, ⟨rfl, rs3, r2.grow g3⟩, ?_⟩
    rw [e3]
    intro G4 g4 rs4 v rv
    obtain ⟨nc4, hD4, gm4⟩ := far G4 (g3.trans g4)
    have k4 : Keep G4 (G4.del D) := Keep.del hD4 (fun _ z => by cases z) (fun _ _ z => by cases z) (fun _ z => by cases z)
    have rs4' := rs4.del hD4 (fun _ z => by cases z) (fun _ _ z => by cases z) (fun _ z => by cases z) (fun _ z => by cases z) nc4
    refine ⟨vs, hD4, by rw [ra.length, ← SZ_eq]; omega, ⟨G4.del D, st', acc ++ [w], vs ++ [v], upd_del.symm, del_same, g.trans gm4, rs4', (RelWs.grow gm4 _ _ ra).append (RelWs.cons (RelW.keep k4 _ _ rv) RelWs.nil), by simp; omega, ?_⟩⟩
    have f := f _ gm4 rs4'
    simpa only [List.append_assoc] using f
  · subst ea
    rw [e2]
    intro G3 g3 rs3
    obtain ⟨nc3, hD3, gm3⟩ := far G3 g3
    simp only [Bool.false_eq_true, if_false]
    have rs3' := rs3.del hD3 (fun _ z => by cases z) (fun _ _ z => by cases z) (fun _ z => by cases z) (fun _ z => by cases z) nc3
    refine ⟨G3.del D, st', acc, vs, ?_, del_same, g.trans gm3, rs3', RelWs.grow gm3 _ _ ra, by omega, ?_⟩
    · rw [upd_del]; exact (upd_self' hD3).symm
    · have f := f _ gm3 rs3'
      simpa only [List.nil_append] using f
theorem tLc_of {σ : Sl} {H : Hp} {Q : VK} (his : ∀ j ∈ is, j ∈ own.map (·.2)) (h : tL S Wx (fun ρ => do
      let xs ← fi ρ
      sz xs.1.length
      let ws ← compL xs.2 (turnL fg ft fe (wipeW ρ (own.map (·.2)))) xs.1
      pure ws) σ H Q) : tLc (tI S Wx fi) (tG S Wf is fg) (tT S Wf ft) (tE S Wf fe) (own.map (·.2)) σ H Q := by
  obtain ⟨G, ρ, st, at_, f⟩ := h
  unfold tLc
  refine ⟨G, ρ, st, at_, f.bind.imp fun p G1 st1 g1 rs1 f1 J wk D nD => ?_⟩
  obtain ⟨xs, gd⟩ := p
  obtain ⟨hz, f1⟩ := Fin.chk f1
  rw [decide_eq_true_eq] at hz
  have f2 : Fin S Wx σ G1 (fun ws G' _ => ∀ p vs, G'.H p = none → RelWs S G' vs ws → Q (.ref p) (upd G'.H p (.lst vs))) ((compL gd (turnL fg ft fe (wipeW ρ (own.map (·.2)))) (xs.drop 0) >>= fun ws => pure ([] ++ ws)) st1) := by
    show Fin S Wx σ G1 _ ((compL gd (turnL fg ft fe (wipeW ρ (own.map (·.2)))) xs >>= M.pure) st1)
    rw [M.bind_pure]
    exact f1
  refine ⟨fun i m H => m = xs.length - i ∧ i ≤ xs.length ∧ Mid S G1 σ ρ D (fun acc st Gm => Fin S Wx σ Gm (fun ws G' _ => ∀ p vs, G'.H p = none → RelWs S G' vs ws → Q (.ref p) (upd G'.H p (.lst vs))) ((compL gd (turnL fg ft fe (wipeW ρ (own.map (·.2)))) (xs.drop i) >>= fun ws => pure (acc ++ ws)) st)) i H,
    ⟨xs.length, by simp, Nat.zero_le _, ⟨G1, st1, [], [], rfl, nD, Grow.refl G1, rs1, RelWs.nil, Nat.zero_le _, f2⟩⟩, ?_⟩
  rintro i m H ⟨rfl, hi, md⟩
  by_cases hlt : i < xs.length
  · obtain ⟨go, turn⟩ := lc_turn (kf := fun ws => pure ws) wk (at_.sl.grow g1) (b0 := i) (Nat.lt_of_lt_of_le hlt hz) his (fun _ => rfl) md hlt
    refine .inr ⟨go, _, fun H' p' => ⟨xs.length - (i + 1), by omega, rfl, hlt, p'⟩, turn⟩
  · have e : i = xs.length := by omega
    subst e
    obtain ⟨Gm, st2, acc, vs, rfl, n, g, rs, ra, hl, f⟩ := md.ex
    rw [List.drop_length, compL_nil] at f
    obtain ⟨gk, f⟩ := Fin.chkG f
    rw [List.append_nil] at f
    exact .inl ⟨wk.stops (Gm.put D (.lst vs)) ⟨(g.trans (Grow.put n)).toKeep, st2, rs.put n, gk⟩, f Gm (Grow.refl Gm) rs D vs n ra⟩
theorem l_comp (hc : X.calm = true) (hN : X.N.Nodup) (hi : PI X tg iter (tI S Wx fi)) (ok : BlkOk X.N X.env.scope scope own) (his : ∀ j ∈ is, j ∈ own.map (·.2))
    (hg : ∀ (s : Shared) (H : Hp) (C : Addr) (cl : List (Str × Addr)) (fp : List Addr), PG (X.blk s H scope (compEnvC scope cl C X.env) fp) tg (tG S Wf is fg))
    (ht : ∀ (s : Shared) (H : Hp) (C : Addr) (cl : List (Str × Addr)) (fp : List Addr), PTs (X.blk s H scope (compEnvC scope cl C X.env) fp) ifs (tT S Wf ft))
    (he : ∀ (s : Shared) (H : Hp) (C : Addr) (cl : List (Str × Addr)) (fp : List Addr), PE (X.blk s H scope (compEnvC scope cl C X.env) fp) elt (tE S Wf fe)) (hs : ∀ x, foldedSetIterable iter X.env x = pure x) :
    PE X (.ListComp elt [⟨tg, iter, ifs, 0⟩] scope pos) (tL S Wx (fun ρ => do
      let xs ← fi ρ
      sz xs.1.length
      let ws ← compL xs.2 (turnL fg ft fe (wipeW ρ (own.map (·.2)))) xs.1
      pure ws)) := (pe_lc hc hN hi ok hg ht he hs).impW fun σ H Q h => tLc_of his h
end

/-! ### [elt for tg in iter if .. for tg1 in iter1 if ..] -/
theorem Keep.trans {A B C : Wd} (x : Keep A B) (y : Keep B C) : Keep A C where
  le := Nat.le_trans x.le y.le
  at_ := fun i h => (y.at_ i (Nat.lt_of_lt_of_le h x.le)).trans (x.at_ i h)
  tup := fun a xs h => y.tup a xs (x.tup a xs h)
  frz := fun a o u h => y.frz a o u (x.frz a o u h)
  ext := fun a φ h => y.ext a φ (x.ext a φ h)
theorem RelSl.keep {S : Sta} {G G' : Wd} {σ : Sl} {ρ : Ρ} (h : RelSl S G σ ρ) (g : Keep G G') : RelSl S G' σ ρ :=
  ⟨h.len, fun i w e => let ⟨v, e1, r⟩ := h.at_ i w e; ⟨v, e1, RelW.keep g w v r⟩⟩
theorem WalkW.weak {S : Sta} {J : L2.It} {ok ok' : Wd → Prop} {ws : List W} (h : WalkW S J ok ws) (i : ∀ G, ok' G → ok G) : WalkW S J ok' ws :=
  ⟨fun j G hj o => h.goes j G hj (i G o), fun G o => h.stops G (i G o), fun j G x H' hj o y => h.yields j G x H' hj (i G o) y⟩
section
variable {S : Sta} {X : Cx} {Wx : WX} {elt tg iter tg1 iter1 : Expr} {ifs ifs1 : List Expr} {scope : Scope} {own : List (Str × Nat)} {pos : Pos} {fi fi1 : Ρ → M (List W × Gd)} {fg fg1 : W → Ρ → M Ρ} {ft ft1 : Ρ → M Bool} {fe : Ρ → M W} {is is1 vs1 : List Nat}
/-- one turn of the first clause, up to the second one's iterable -/
def turn2a (fg : W → Ρ → M Ρ) (ft : Ρ → M Bool) (fi1 : Ρ → M (List W × Gd)) (ρ : Ρ) (x : W) : M (Option (Ρ × List W × Gd)) := do
  let ρ2 ← fg x ρ
  let b ← ft ρ2
  if b = true then do
    let ys ← fi1 ρ2
    M.chk (decide (ys.1.length ≤ 4096))
    pure (some (ρ2, ys.1, ys.2))
  else pure none
def turn2b (fg1 : W → Ρ → M Ρ) (ft1 : Ρ → M Bool) (fe : Ρ → M W) (vs1 : List Nat) : Option (Ρ × List W × Gd) → M (List W)
  | some r => compL r.2.2 (turnL fg1 ft1 fe (wipeW r.1 vs1)) r.2.1
  | none => pure []
def turn2 (fg : W → Ρ → M Ρ) (ft : Ρ → M Bool) (fi1 : Ρ → M (List W × Gd)) (fg1 : W → Ρ → M Ρ) (ft1 : Ρ → M Bool) (fe : Ρ → M W) (vs1 : List Nat) (ρ : Ρ) (x : W) : M (List W) := M.nox (turn2a fg ft fi1 ρ x) >>= turn2b fg1 ft1 fe vs1
theorem turn2a_ok {ρ : Ρ} {x : W} {st st' : St} {a : Option (Ρ × List W × Gd)} (h : turn2a fg ft fi1 ρ x st = .ok a st') : ∃ ρ2 st2, fg x ρ st = .ok ρ2 st2 ∧ ((∃ st3 ys gd, ft ρ2 st2 = .ok true st3 ∧ fi1 ρ2 st3 = .ok (ys, gd) st' ∧ ys.length ≤ 4096 ∧ a = some (ρ2, ys, gd)) ∨ (ft ρ2 st2 = .ok false st' ∧ a = none)) := by
  obtain ⟨ρ2, st2, e1, h⟩ := bind_ok h
  obtain ⟨b, st3, e2, h⟩ := bind_ok h
  refine ⟨ρ2, st2, e1, ?_⟩
  cases b with
  | true =>
    simp only [if_true] at h
    obtain ⟨⟨ys, gd⟩, st4, e3, h⟩ := bind_ok h
    obtain ⟨u, st5, e4, h⟩ := bind_ok h
    unfold M.chk at e4
    split at e4
    · rename_i hz
      cases e4
      cases h
      exact .inl ⟨st3, ys, gd, e2, e3, of_decide_eq_true hz, rfl⟩
    · cases e4
  | false =>
    simp only [Bool.false_eq_true, if_false] at h
    cases h
    exact .inr ⟨e2, rfl⟩
theorem tLc2_of {σ : Sl} {H : Hp} {Q : VK} (his : ∀ j ∈ is, j ∈ own.map (·.2)) (his1 : ∀ j ∈ is1, j ∈ vs1) (h : tL S Wx (fun ρ => do
      let xs ← fi ρ
      M.chk (decide (xs.1.length ≤ 4096))
      let ws ← compL xs.2 (turn2 fg ft fi1 fg1 ft1 fe vs1 (wipeW ρ (own.map (·.2)))) xs.1
      pure ws) σ H Q) : tLc2 (tI S Wx fi) (tG S Wf is fg) (tT S Wf ft) (tI S Wf fi1) (tG S Wf is1 fg1) (tT S Wf ft1) (tE S Wf fe) (own.map (·.2)) vs1 σ H Q := by
  obtain ⟨G, ρ, st, at_, f⟩ := h
  unfold tLc2
  refine ⟨G, ρ, st, at_, f.bind.imp fun p G1 st1 g1 rs1 f1 J wk D nD => ?_⟩
  obtain ⟨xs, gd⟩ := p
  obtain ⟨hz, f1⟩ := Fin.chk f1
  rw [decide_eq_true_eq] at hz
  have hz : xs.length ≤ 4096 := hz
  obtain ⟨ow, how⟩ : ∃ ow, ow = own.map (·.2) := ⟨_, rfl⟩
  rw [← how] at his f1 ⊢
  have f2 : Fin S Wx σ G1 (fun ws G' _ => ∀ p vs, G'.H p = none → RelWs S G' vs ws → Q (.ref p) (upd G'.H p (.lst vs))) ((compL gd (turn2 fg ft fi1 fg1 ft1 fe vs1 (wipeW ρ ow)) (xs.drop 0) >>= fun ws => pure ([] ++ ws)) st1) := by
    show Fin S Wx σ G1 _ ((compL gd (turn2 fg ft fi1 fg1 ft1 fe vs1 (wipeW ρ ow)) xs >>= M.pure) st1)
    rw [M.bind_pure]
    exact f1
  have hr : RelSl S G1 σ ρ := at_.sl.grow g1
  refine ⟨fun i m H => m = xs.length - i ∧ i ≤ xs.length ∧ Mid S G1 σ ρ D (fun acc st Gm => Fin S Wx σ Gm (fun ws G' _ => ∀ p vs, G'.H p = none → RelWs S G' vs ws → Q (.ref p) (upd G'.H p (.lst vs))) ((compL gd (turn2 fg ft fi1 fg1 ft1 fe vs1 (wipeW ρ ow)) (xs.drop i) >>= fun ws => pure (acc ++ ws)) st)) (i * 4096) H,
    ⟨xs.length, by simp, Nat.zero_le _, ⟨G1, st1, [], [], rfl, nD, Grow.refl G1, rs1, RelWs.nil, Nat.zero_le _, f2⟩⟩, ?_⟩
  rintro i m H ⟨rfl, hi, md⟩
  obtain ⟨Gm, st, acc, vs, rfl, n, g, rs, ra, hl, f⟩ := md.ex
  by_cases hlt : i < xs.length
  · have hd : xs.drop i = xs[i] :: xs.drop (i + 1) := List.drop_eq_getElem_cons hlt
    rw [hd, compL_cons] at f
    obtain ⟨gk, f⟩ := Fin.chkG f
    have nc : ∀ j, j < Gm.n → Gm.μ j ≠ D := fun j hj => rs.ne n hj
    have gp := Grow.put (G := Gm) (o := .lst vs) n
    have ok : OkG S G1 gd (Gm.put D (.lst vs)) := ⟨(g.trans gp).toKeep, st, rs.put n, gk⟩
    refine .inr ⟨wk.goes i _ hlt ok, _, fun H' p' => ⟨xs.length - (i + 1), by omega, rfl, hlt, p'⟩, fun x H' y => ?_⟩
    obtain ⟨G', e', g', rs', rx⟩ := wk.yields i _ x H' hlt ok y
    subst e'
    rw [show turn2 fg ft fi1 fg1 ft1 fe vs1 (wipeW ρ ow) xs[i] = (M.nox (turn2a fg ft fi1 (wipeW ρ ow) xs[i]) >>= turn2b fg1 ft1 fe vs1) from rfl, M.bind_assoc] at f
    obtain ⟨a, st', et, f⟩ := Fin.nox_ok f
    obtain ⟨ρ2, st2, e1, et⟩ := turn2a_ok et
    refine ⟨G', wipeW ρ ow, st, xs[i], ⟨rfl, rs' _ (rs.put n), (hr.grow (g.trans (gp.trans g'))).wipe ow⟩, rx, ?_⟩
    rw [e1]
    intro G2 g2 rs2 σ2 r2 hl2 ho
    have ew : L2.wipe σ2 ow = L2.wipe σ ow := by
      have e1 := wipe_eq (vs := ow) hl2 (fun j hj => ho j (fun z => hj (his j z)))
      rw [e1]
      refine wipe_eq (L2.wipe_length _ _) fun j hj => wipe_out' hj
    have far : ∀ G3, Grow G2 G3 → (∀ j, j < G3.n → G3.μ j ≠ D) ∧ G3.H D = some (.lst vs) ∧ Grow Gm (G3.del D) := fun G3 g3 => by
      have gD : Grow (Gm.put D (.lst vs)) G3 := g'.trans (g2.trans g3)
      exact ⟨gD.notCell n nc, gD.keep D _ put_same (fun _ z => by cases z) nc, gD.del n (fun _ z => by cases z) (fun _ _ z => by cases z) (fun _ z => by cases z) nc⟩
    refine ⟨ew, G2, ρ2, st2, ⟨rfl, rs2, r2⟩, ?_⟩
    rcases et with ⟨st3, ys, gd1, e2, e3, hz1, ea⟩ | ⟨e2, ea⟩
    · subst ea
      rw [e2]
      intro G3 g3 rs3
      simp only [if_true]
      refine ⟨G3, ρ2, st3, ⟨rfl, rs3, r2.grow g3⟩, ?_⟩
      rw [e3]
      intro G4 g4 rs4 J1 wk1
      obtain ⟨nc4, hD4, gm4⟩ := far G4 (g3.trans g4)
      have k4 : Keep G4 (G4.del D) := Keep.del hD4 (fun _ z => by cases z) (fun _ _ z => by cases z) (fun _ z => by cases z)
      have rs4' := rs4.del hD4 (fun _ z => by cases z) (fun _ _ z => by cases z) (fun _ z => by cases z) (fun _ z => by cases z) nc4
      have f4 := f _ gm4 rs4'
      have wk1' : WalkW S J1 (OkG S (G4.del D) gd1) ys := wk1.weak fun Gx ⟨kx, sx, rsx, gkx⟩ => ⟨k4.trans kx, sx, rsx, gkx⟩
      have hr1 : RelSl S (G4.del D) σ2 ρ2 := (r2.grow (g3.trans g4)).keep k4
      have f5 : Fin S Wx σ (G4.del D) (fun ws G' _ => ∀ p vs, G'.H p = none → RelWs S G' vs ws → Q (.ref p) (upd G'.H p (.lst vs))) ((compL gd1 (turnL fg1 ft1 fe (wipeW ρ2 vs1)) (ys.drop 0) >>= fun zs => (fun l => compL gd (turn2 fg ft fi1 fg1 ft1 fe vs1 (wipeW ρ ow)) (xs.drop (i + 1)) >>= fun r => pure (l ++ r)) (acc ++ zs)) st') := by
        have e0 : turn2b fg1 ft1 fe vs1 (some (ρ2, ys, gd1)) = compL gd1 (turnL fg1 ft1 fe (wipeW ρ2 vs1)) ys := rfl
        rw [e0] at f4
        simpa only [List.append_assoc, List.drop_zero] using f4
      refine ⟨fun j k H => k = ys.length - j ∧ j ≤ ys.length ∧ Mid S (G4.del D) σ2 ρ2 D (fun acc st Gm => Fin S Wx σ Gm (fun ws G' _ => ∀ p vs, G'.H p = none → RelWs S G' vs ws → Q (.ref p) (upd G'.H p (.lst vs))) ((compL gd1 (turnL fg1 ft1 fe (wipeW ρ2 vs1)) (ys.drop j) >>= fun zs => (fun l => compL gd (turn2 fg ft fi1 fg1 ft1 fe vs1 (wipeW ρ ow)) (xs.drop (i + 1)) >>= fun r => pure (l ++ r)) (acc ++ zs)) st)) (i * 4096 + j) H,
        ⟨ys.length, by simp, Nat.zero_le _, ⟨G4.del D, st', acc, vs, by rw [upd_del]; exact (upd_self' hD4).symm, del_same, Grow.refl _, rs4', RelWs.grow gm4 _ _ ra, by omega, f5⟩⟩, ?_⟩
      rintro j k H ⟨rfl, hj, md1⟩
      by_cases hjt : j < ys.length
      · obtain ⟨go, turn⟩ := lc_turn (F := turnL fg1 ft1 fe (wipeW ρ2 vs1)) (P := fun ws G' _ => ∀ p vs, G'.H p = none → RelWs S G' vs ws → Q (.ref p) (upd G'.H p (.lst vs))) (kf := fun l => compL gd (turn2 fg ft fi1 fg1 ft1 fe vs1 (wipeW ρ ow)) (xs.drop (i + 1)) >>= fun r => pure (l ++ r)) wk1' hr1 (b0 := i * 4096 + j) (by unfold SZ; omega) his1 (fun _ => rfl) md1 hjt
        exact .inr ⟨go, _, fun H' p' => ⟨ys.length - (j + 1), by omega, rfl, hjt, p'⟩, turn⟩
      · have e : j = ys.length := by omega
        subst e
        obtain ⟨Gn, st5, acc5, vs5, rfl, n5, g5, rs5, ra5, hl5, f6⟩ := md1.ex
        rw [List.drop_length, compL_nil] at f6
        obtain ⟨gk5, f6⟩ := Fin.chkG f6
        rw [List.append_nil] at f6
        exact .inl ⟨wk1'.stops (Gn.put D (.lst vs5)) ⟨(g5.trans (Grow.put n5)).toKeep, st5, rs5.put n5, gk5⟩, ⟨Gn, st5, acc5, vs5, rfl, n5, g.trans (gm4.trans g5), rs5, ra5, by omega, f6⟩⟩
    · subst ea
      rw [e2]
      intro G3 g3 rs3
      obtain ⟨nc3, hD3, gm3⟩ := far G3 g3
      simp only [Bool.false_eq_true, if_false]
      have rs3' := rs3.del hD3 (fun _ z => by cases z) (fun _ _ z => by cases z) (fun _ z => by cases z) (fun _ z => by cases z) nc3
      refine ⟨G3.del D, st', acc, vs, ?_, del_same, g.trans gm3, rs3', RelWs.grow gm3 _ _ ra, by omega, ?_⟩
      · rw [upd_del]; exact (upd_self' hD3).symm
      · have f := f _ gm3 rs3'
        exact f
  · have e : i = xs.length := by omega
    subst e
    rw [List.drop_length, compL_nil] at f
    obtain ⟨gk, f⟩ := Fin.chkG f
    rw [List.append_nil] at f
    exact .inl ⟨wk.stops (Gm.put D (.lst vs)) ⟨(g.trans (Grow.put n)).toKeep, st, rs.put n, gk⟩, f Gm (Grow.refl Gm) rs D vs n ra⟩
theorem l_comp2 (hc : X.calm = true) (hN : X.N.Nodup) (hi : PI X tg iter (tI S Wx fi)) (ok : BlkOk X.N X.env.scope scope own) (his : ∀ j ∈ is, j ∈ own.map (·.2)) (his1 : ∀ j ∈ is1, j ∈ vs1) (hv : ∀ j ∈ vs1, j ∈ own.map (·.2))
    (hg : ∀ (s : Shared) (H : Hp) (C : Addr) (cl : List (Str × Addr)) (fp : List Addr), PG (X.blk s H scope (compEnvC scope cl C X.env) fp) tg (tG S Wf is fg))
    (ht : ∀ (s : Shared) (H : Hp) (C : Addr) (cl : List (Str × Addr)) (fp : List Addr), PTs (X.blk s H scope (compEnvC scope cl C X.env) fp) ifs (tT S Wf ft))
    (hi1 : ∀ (s : Shared) (H : Hp) (C : Addr) (cl : List (Str × Addr)) (fp : List Addr), PI (X.blk s H scope (compEnvC scope cl C X.env) fp) tg1 iter1 (tI S Wf fi1))
    (hg1 : ∀ (s : Shared) (H : Hp) (C : Addr) (cl : List (Str × Addr)) (fp : List Addr), PG (X.blk s H scope (compEnvC scope cl C X.env) fp) tg1 (tG S Wf is1 fg1))
    (ht1 : ∀ (s : Shared) (H : Hp) (C : Addr) (cl : List (Str × Addr)) (fp : List Addr), PTs (X.blk s H scope (compEnvC scope cl C X.env) fp) ifs1 (tT S Wf ft1))
    (he : ∀ (s : Shared) (H : Hp) (C : Addr) (cl : List (Str × Addr)) (fp : List Addr), PE (X.blk s H scope (compEnvC scope cl C X.env) fp) elt (tE S Wf fe)) (hs : ∀ x, foldedSetIterable iter X.env x = pure x) (hs1 : ∀ env x, foldedSetIterable iter1 env x = pure x) :
    PE X (.ListComp elt [⟨tg, iter, ifs, 0⟩, ⟨tg1, iter1, ifs1, 0⟩] scope pos) (tL S Wx (fun ρ => do
      let xs ← fi ρ
      M.chk (decide (xs.1.length ≤ 4096))
      let ws ← compL xs.2 (turn2 fg ft fi1 fg1 ft1 fe vs1 (wipeW ρ (own.map (·.2)))) xs.1
      pure ws)) := (pe_lc2 hc hN hi ok hv hg ht hi1 hg1 ht1 he hs hs1).impW fun σ H Q h => tLc2_of his his1 h
end
end Pf

/-! part P12 -/
set_option Elab.async false
set_option linter.all false
set_option maxRecDepth 100000
set_option autoImplicit false
set_option maxHeartbeats 1000000
/-! sorted(xs) of alike data; tuples with and without items among them, too. -/
namespace Pf
open PySem PySem.Spec PySem.SeqAt PyProof.Rows PySem.W L2

section
variable {prog : Program} {w : World} {A : Around} {s : Shared} {E : Value → Shared → Prop}
theorem oneLt_tup {f : Bool} {xs ys : List PyData} {a b : Value} {as bs : List Addr} {Q : Bool → Shared → Prop} (ra : Reads s.heap a (.tuple xs) as) (rb : Reads s.heap b (.tuple ys) bs) (h : alikeAll xs ys = true)
    (hu : A.units + min (PyData.depth (.tuple xs)) (PyData.depth (.tuple ys)) < cLine) (hq : Q (dataLt (.tuple xs) (.tuple ys)) s) : wpAny (model prog w) A (oneLt' f a b) Q E s := by
  cases f with
  | false =>
    rw [oneLt'_eq]
    simp only [Bool.false_eq_true, if_false]
    exact wpAny_bind (rcLt_alike (.tuple xs) (.tuple ys) A s a b as bs ra rb (by simpa [alike] using h) (fun z => nomatch z) hu prog w E _ (wpAny_truthy_bool hq))
  | true =>
    cases ra with
    | @tuple l o vs n _ as₁ h1 h2 h3 h4 =>
      cases rb with
      | @tuple l' o' vs' n' _ bs₁ k1 k2 k3 k4 =>
        have n1 : vs.size = xs.length := by simpa using SeqAt.ReadsAll.length _ _ _ h4
        have n2 : vs'.size = ys.length := by simpa using SeqAt.ReadsAll.length _ _ _ k4
        rw [dataLt_tuple, ← firstLt_toks xs ys h, ← n1, ← n2] at hq
        rw [oneLt'_eq]
        simp only [if_true]
        obtain ⟨oc, od, odt, osl⟩ := o
        obtain ⟨oc', od', odt', osl'⟩ := o'
        simp only at h2 h3 k2 k3
        subst h2 h3 k2 k3
        refine wpAny_bind (wpAny_cRoomFor (room_here hu) ?_)
        refine wpAny_bind (wpAny_callSpecialIfBound?_slot (T := "tuple") ⟨_, h1, rfl⟩ F.slot_tuple_lt (call_meets F.slot_tuple_lt ⟨_, h1, rfl⟩ F.entry_tuple_lt (F.args_tuple_lt_2 _ _)
          (tuple_ltAt l l' vs vs' n n' od od' osl osl' (pairEq xs ys) (fun j => dataLt (xs.getD j .none) (ys.getD j .none))) ⟨h1, k1, fun j j1 j2 => ?_, fun j j1 j2 hj => ?_, ?_⟩))
        · have := eqAt_alikeAll xs ys A.in1 s vs.toList vs'.toList _ _ h4 k4 h (room_in hu) j (by simpa using j1) (by simpa using j2)
          simpa using this
        · have := rcLt_alikeAll xs ys A.in1 s vs.toList vs'.toList _ _ h4 k4 h (room_in hu) j (by simpa using j1) (by simpa using j2) hj
          simpa using this
        · exact wpAny_truthy_bool hq
/-- what stands ahead in each -/
theorem firsts_any : ∀ (ds : List PyData) (vs : List Value) {Q : List (Option Value) → Shared → Prop}, EachIs (fun v d => ∃ as, Reads s.heap v d as) vs ds → (∀ d, d ∈ ds → ∃ xs, d = .tuple xs) →
    (∀ fs : List (Option Value), fs.length = ds.length → (∀ i : Nat, (∃ f, fs[i]? = some (some f)) → ∃ x r, ds[i]? = some (.tuple (x :: r))) → (∀ i : Nat, fs[i]? = some none → ds[i]? = some (.tuple [])) → Q fs s) → wpAny (model prog w) A (vs.mapM firstOfTuple') Q E s
  | [], _, Q, .nil, _, h => by
    rw [List.mapM_nil]
    exact wpAny_pure (h [] rfl (fun i ⟨f, e⟩ => by simp at e) (fun i e => by simp at e))
  | d :: ds, _, Q, .cons (a := v) (as := vs) ⟨as, r⟩ t, hd, h => by
    obtain ⟨xs, rfl⟩ := hd d List.mem_cons_self
    cases r with
    | @tuple l o us n _ _ h1 h2 h3 h4 =>
      rw [List.mapM_cons]
      refine wpAny_bind ?_
      rw [kas_first_eq]
      refine wpAny_bind (Looks.here (show Looks (model prog w) s.heap (typeOf (.ref l)) o.cls from (Looks.ld h1).andThen .now) ?_)
      rw [h2, if_neg (by first | decide | simp)]
      refine wpAny_bind (listItems_at h1 h3 (wpAny_pure ?_))
      refine wpAny_bind (firsts_any ds vs (Q := fun bs s' => wpAny (model prog w) A (pure (us[0]? :: bs)) Q E s') t (fun d hm => hd d (List.mem_cons_of_mem _ hm)) fun fs hl h5 h6 => wpAny_pure (h _ (by rw [List.length_cons, List.length_cons, hl]) (fun i hi => ?_) (fun i hi => ?_)))
      · cases i with
        | zero =>
          obtain ⟨f, e⟩ := hi
          simp only [List.getElem?_cons_zero, Option.some.injEq] at e
          cases xs with
          | nil =>
            have n1 : us.toList.length = 0 := by simpa using SeqAt.ReadsAll.length _ _ _ h4
            rw [← Array.getElem?_toList, List.eq_nil_of_length_eq_zero n1] at e
            simp at e
          | cons x r => exact ⟨x, r, rfl⟩
        | succ i => simpa using h5 i (by simpa using hi)
      · cases i with
        | zero =>
          simp only [List.getElem?_cons_zero, Option.some.injEq] at hi
          cases xs with
          | nil => rfl
          | cons x r =>
            have n1 : us.toList.length = (x :: r).length := by simpa using SeqAt.ReadsAll.length _ _ _ h4
            rw [← Array.getElem?_toList, List.getElem?_eq_getElem (by rw [n1]; simp)] at hi
            cases hi
        | succ i => simpa using h6 i (by simpa using hi)
def firstFull (ds : List PyData) : Bool := match ds with
  | .tuple (_ :: _) :: _ => true
  | _ => false
theorem firstFull_yes {ds : List PyData} {x : PyData} {r : List PyData} (e : ds[0]? = some (.tuple (x :: r))) : firstFull ds = true := by
  cases ds with
  | nil => simp at e
  | cons d ds => simp at e; subst e; rfl
theorem firstFull_no {ds : List PyData} (e : ds[0]? = some (.tuple [])) : firstFull ds = false := by
  cases ds with
  | nil => rfl
  | cons d ds => simp at e; subst e; rfl
theorem kind_mixed {vs : List Value} {ds : List PyData} {Q : SortKind → Shared → Prop} (h2 : 2 ≤ vs.length) (e : EachIs (fun v d => ∃ as, Reads s.heap v d as) vs ds) (ht : ∀ d, d ∈ ds → ∃ xs, d = .tuple xs) (hm : PyData.tuple [] ∈ ds)
    (q1 : Q (if firstFull ds = true then general' else oneType') s) : wpAny (model prog w) A (keyKind' vs.toArray) Q E s := by
  have hl := e.length
  rw [keyKind'_eq, List.mapM_toArray, map_eq_pure_bind]
  refine wpAny_bind (wpAny_bind (firsts_any ds vs (Q := fun fs s' => wpAny (model prog w) A (pure fs.toArray) _ E s') e ht fun fs hlf h5 h6 => wpAny_pure ?_))
  have hno : (fs.toArray.all fun x => x.isSome) = false := by
    obtain ⟨i, hi, ei⟩ := List.getElem_of_mem hm
    cases hf : (fs.toArray.all fun x => x.isSome) with
    | false => rfl
    | true =>
      simp only [List.all_toArray, List.all_eq_true] at hf
      have hif : i < fs.length := by rw [hlf]; exact hi
      have := hf fs[i] (List.getElem_mem hif)
      obtain ⟨f, ef⟩ := Option.isSome_iff_exists.mp this
      obtain ⟨x, r, e2⟩ := h5 i ⟨f, by rw [List.getElem?_eq_getElem hif, ef]⟩
      rw [List.getElem?_eq_getElem hi, ei] at e2
      cases e2
  rw [if_neg (by rw [hno]; decide)]
  cases hc : fs[0]? with
  | none =>
    exfalso
    have := List.getElem?_eq_none_iff.mp hc
    omega
  | some f0 =>
    have e0 : fs.toArray[0]? = some f0 := by simpa using hc
    rw [e0]
    cases f0 with
    | some f =>
      obtain ⟨x, r, e1⟩ := h5 0 ⟨f, hc⟩
      rw [if_pos (show ((some (some f)).bind id).isSome = true from rfl)]
      rw [if_pos (firstFull_yes e1)] at q1
      exact wpAny_pure q1
    | none =>
      rw [if_neg (by simp)]
      rw [if_neg (by rw [firstFull_no (h6 0 hc)]; decide)] at q1
      rw [oneTypeOnly'_eq, List.mapM_toArray, map_eq_pure_bind]
      refine wpAny_bind (wpAny_bind (wpAny_bind (kas_mapM (r := Value.type "tuple") _ (fun v hv Q' hq => ?_) (wpAny_pure ?_))))
      · obtain ⟨d, hd, as, r⟩ := e.left v hv
        obtain ⟨xs, rfl⟩ := ht d hd
        exact Looks.here (looks_reads r) hq
      · have hall : ((List.map (fun _ => Value.type "tuple") vs).toArray.all fun x => x == Value.type "tuple") = true := by
          simp only [List.all_toArray, List.all_map, List.all_eq_true]
          intro _ _
          show (Value.type "tuple" == Value.type "tuple") = true
          decide
        obtain ⟨v₁, rest, rfl⟩ : ∃ v₁ rest, vs = v₁ :: rest := by
          cases vs with
          | nil => simp at h2
          | cons v r => exact ⟨v, r, rfl⟩
        have h0 : (List.map (fun _ => Value.type "tuple") (v₁ :: rest)).toArray[0]? = some (Value.type "tuple") := by simp
        rw [h0]
        simp only [hall, if_true]
        exact wpAny_pure (wpAny_pure q1)
theorem SortsAt.mixed {vs : List Value} {ds : List PyData} (e : EachIs (fun v d => ∃ as, Reads s.heap v d as) vs ds) (hal : AllAlike ds) (ht : ∀ d, d ∈ ds → ∃ xs, d = .tuple xs) (hm : PyData.tuple [] ∈ ds) (hu : ∀ d, d ∈ ds → A.units + d.depth < cLine) : SortsAt prog w A s (dataKind s.heap ds) vs := by
  have room : ∀ {d d' : PyData}, d ∈ ds → A.units + min d.depth d'.depth < cLine := fun {d d'} hd => Nat.lt_of_le_of_lt (Nat.add_le_add_left (Nat.min_le_left _ _) _) (hu d hd)
  refine ⟨fun v hv => ?_, _, ?_, fun h2 E Q hq => kind_mixed h2 e ht hm hq⟩
  · obtain ⟨d, hd, as, r⟩ := e.left v hv
    exact ⟨_, dataKind_some hal hd r⟩
  · intro E x y a b Q ha hb hq
    obtain ⟨d, as, hd, ra, rfl⟩ := dataKind_inv ha
    obtain ⟨d', as', hd', rb, rfl⟩ := dataKind_inv hb
    obtain ⟨xs, rfl⟩ := ht d hd
    obtain ⟨ys, rfl⟩ := ht d' hd'
    have hxy : alikeAll xs ys = true := by simpa [alike] using hal _ hd _ hd'
    have hq' : Q (dataLt (.tuple xs) (.tuple ys)) s := hq
    by_cases hc : firstFull ds = true
    · rw [if_pos hc]; exact oneLt_tup (f := false) ra rb hxy (room hd) hq'
    · rw [if_neg hc]; exact oneLt_tup (f := true) ra rb hxy (room hd) hq'
/-- all are tuples, or none is a tuple or None -/
def SortableA (ds : List PyData) : Prop := (∀ d, d ∈ ds → ∃ xs, d = .tuple xs) ∨ ∀ d, d ∈ ds → d ≠ .none ∧ ∀ xs, d ≠ .tuple xs
theorem SortsAt.any {vs : List Value} {ds : List PyData} (e : EachIs (fun v d => ∃ as, Reads s.heap v d as) vs ds) (hal : AllAlike ds) (hk : SortableA ds) (hu : ∀ d, d ∈ ds → A.units + d.depth < cLine) : SortsAt prog w A s (dataKind s.heap ds) vs := by
  rcases hk with ht | hn
  · by_cases hm : PyData.tuple [] ∈ ds
    · exact SortsAt.mixed e hal ht hm hu
    · refine SortsAt.data e hal (.inl fun d hd => ?_) hu
      obtain ⟨xs, rfl⟩ := ht d hd
      cases xs with
      | nil => exact absurd hd hm
      | cons x r => exact ⟨x, r, rfl⟩
  · exact SortsAt.data e hal (.inr hn) hu
/-- a list or a tuple that is walked at once -/
def IsSq (h : Heap) (l : Addr) (its : Array Value) : Prop := h.IsList l its ∨ h.IsTuple l its
theorem IsSq.ob {h : Heap} {l : Addr} {its : Array Value} (x : IsSq h l its) : ∃ o T n, h.get? l = some o ∧ o.cls = .type T ∧ (T = "list" ∨ T = "tuple") ∧ o.data = .seq its n := by
  rcases x with ⟨o, ho, hc, n, hd⟩ | ⟨o, ho, hc, n, hd⟩
  · exact ⟨o, _, n, ho, hc, .inl rfl, hd⟩
  · exact ⟨o, _, n, ho, hc, .inr rfl, hd⟩
theorem collect_sq {l : Addr} {vs : List Value} {Q : List Value → Shared → Prop} (hl : IsSq s.heap l vs.toArray) (h : Q vs { s with heap := (s.heap.push (seqObj "list" #[] 0)).update s.heap.objs.size (Obj.mapSeq (· ++ vs.toArray)) }) (hsz : vs.length ≤ sizeLine) : wpAny (model prog w) A (collect (.ref l)) Q E s := by
  obtain ⟨o, T, n, ho, hc, hT, hd⟩ := hl.ob
  unfold collect
  refine wpAny_bind (wpAny_runValue (codeAny_builtin entry_proto_collect' ?_))
  show wpAny _ _ (do again (.builtin "list.__iadd__" ⟨[← newList [], .ref l], []⟩)) _ _ s
  refine wpAny_bind (wpAny_newList (wpAny_pure ⟨Code.quiet_builtin _ (by decide +kernel), codeAny_builtin entry_list_iadd' ?_⟩))
  show wpAny _ _ (Builtin.List.listExtendWith (.ref s.heap.objs.size) (.ref l) (.ref s.heap.objs.size)) _ _ { s with heap := s.heap.push (seqObj "list" #[] 0) }
  unfold Builtin.List.listExtendWith
  have h1 : (s.heap.push (seqObj "list" #[] 0)).get? l = some o := Heap.get?_push_of_some _ ho
  refine wpAny_bind (wpAny_typeOf (T := T) ⟨o, h1, hc⟩ ?_)
  rw [if_pos (by rcases hT with rfl | rfl <;> simp)]
  refine wpAny_bind (listItems_at h1 hd (wpAny_bind (listItems_at (xs := #[]) (n := 0) (Heap.get?_push_size _ rfl) rfl ?_)))
  rw [if_neg (by simp)]
  refine wpAny_bind (listUpdate_at (xs := #[]) (n := 0) (Heap.get?_push_size _ rfl) rfl (wpAny_pure ?_) (Nat.zero_le _) (by show (#[] ++ vs.toArray).size ≤ sizeLine + 1; simp only [Array.size_append, List.size_toArray, List.length_nil]; omega))
  show wpAny (model prog w) A (load s.heap.objs.size >>= fun o => match o.data with | .seq xs _ => pure xs.toList | _ => unsupported "internal:collect") Q E { s with heap := (s.heap.push (seqObj "list" #[] 0)).update s.heap.objs.size (Obj.mapSeq (· ++ vs.toArray)) }
  refine wpAny_bind (wpAny_load (get?_update_seq (Heap.get?_push_size _ rfl) _) ?_)
  show wpAny _ _ (pure ((#[] : Array Value) ++ vs.toArray).toList) Q E _
  rw [show ((#[] : Array Value) ++ vs.toArray).toList = vs by simp]
  exact wpAny_pure h
theorem sorted_sq {κ : PyProof.Rows.KeyKind} {l : Addr} {vs : List Value} {Q : Value → Shared → Prop} (hl : IsSq s.heap l vs.toArray) (S : SortsAt prog w A.in1.in1 { s with heap := sortingHeap (copyHeap s.heap vs) (s.heap.objs.size + 1) vs } κ vs) (hL : vs.length ≤ sizeLine)
    (h : Q (.ref (s.heap.objs.size + 1)) { s with heap := sortedAll s.heap vs (sortVals κ false vs vs).toArray }) : wpAny (model prog w) A (call (.builtin "sorted") [.ref l]) Q E s := by
  refine Calls.call_function_entry kind_sorted plain_sorted entry_sorted (args_sorted1 _) ?_
  unfold Builtin.«sorted»
  refine wpAny_bind (m := checkCount "sorted" 1 1 _) (wpAny_pure (wpAny_bind (collect_sq hl (wpAny_bind (wpAny_newList ?_ hL)) hL)))
  have hz : ((s.heap.push (seqObj "list" #[] 0)).update s.heap.objs.size (Obj.mapSeq (· ++ vs.toArray))).objs.size = s.heap.objs.size + 1 := by rw [Heap.size_update, size_push']
  show wpAny _ _ _ _ _ { s with heap := copyHeap s.heap vs }
  rw [hz]
  refine wpAny_bind (wpAny_holding (wpAny_call_entry slot_list_sort ⟨_, copyHeap_at s.heap vs, rfl⟩ entry_list_sort (list_sort_vals (s := { s with heap := copyHeap s.heap vs }) (copyHeap_at s.heap vs) S hL ⟨_, rfl, ?_⟩) (args_list_sort _)))
  exact wpAny_pure ⟨_, rfl, h⟩
theorem sorted_any {β : Type} {vs : List Value} {bs : List β} {enc : β → PyData} {R : Value → β → Prop} {l : Addr} {Q : Value → Shared → Prop} (hl : IsSq s.heap l vs.toArray) (e : EachIs R vs bs) (er : EachIs (fun v b => ∃ as, Reads s.heap v (enc b) as) vs bs) (hal : AllAlike (bs.map enc)) (hk : SortableA (bs.map enc)) (hL : bs.length ≤ sizeLine)
    (hu : ∀ b, b ∈ bs → A.units + 2 + (enc b).depth < cLine) (h : ∀ out, out.length = bs.length → EachIs R out (bs.mergeSort (dataLe false enc)) → Q (.ref (s.heap.objs.size + 1)) { s with heap := sortedAll s.heap vs (List.toArray out) }) :
    wpAny (model prog w) A (call (.builtin "sorted") [.ref l]) Q E s := by
  have er' : EachIs (fun v b => ∃ as, Reads (sortingHeap (copyHeap s.heap vs) (s.heap.objs.size + 1) vs) v (enc b) as) vs bs := er.mono fun _ _ ⟨as, r⟩ => ⟨as, PyProof.Rows.Reads.keeps (fun _ _ => sorting_copy_old) r⟩
  exact sorted_sq hl (SortsAt.any (s := { s with heap := sortingHeap (copyHeap s.heap vs) (s.heap.objs.size + 1) vs }) (each_map (R := fun v d => ∃ as, Reads (sortingHeap (copyHeap s.heap vs) (s.heap.objs.size + 1) vs) v d as) enc er') hal hk (bound_map hu)) (by rw [e.length]; exact hL)
    (h _ (by rw [sortVals_length false rfl]; exact e.length) (sortVals_data false e er' hal))
end

/-! ### by values -/
theorem each_vals {vs : List V} {us : List Value} (r : Vals vs us) : ∀ {ws : List W}, vs.length = ws.length → EachIs (fun u (b : V × W) => RelV b.1 u) us (vs.zip ws) := by
  induction r with
  | nil => intro ws h; cases ws with
    | nil => exact .nil
    | cons _ _ => simp at h
  | cons r t ih => intro ws h; cases ws with
    | nil => simp at h
    | cons w ws => exact .cons r (ih (by simpa using h))
theorem vals_each {us : List Value} {bs : List (V × W)} (e : EachIs (fun u (b : V × W) => RelV b.1 u) us bs) : Vals (bs.map (·.1)) us := by
  induction e with
  | nil => exact .nil
  | cons h t ih => exact .cons h ih
theorem zip_fst {α β : Type} : ∀ {xs : List α} {ys : List β}, xs.length = ys.length → (xs.zip ys).map (·.1) = xs ∧ (xs.zip ys).map (·.2) = ys
  | [], [], _ => ⟨rfl, rfl⟩
  | x :: xs, y :: ys, h => by
    obtain ⟨a, b⟩ := zip_fst (xs := xs) (ys := ys) (by simpa using h)
    simp only [List.zip_cons_cons, List.map_cons, a, b, and_self]
theorem relWs_map {S : Sta} {G : Wd} : ∀ {bs : List (V × W)}, (∀ b ∈ bs, RelW S G b.1 b.2) → RelWs S G (bs.map (·.1)) (bs.map (·.2))
  | [], _ => RelWs.nil
  | b :: bs, h => RelWs.cons (h b List.mem_cons_self) (relWs_map fun c hc => h c (List.mem_cons_of_mem _ hc))
theorem relWs_zip {S : Sta} {G : Wd} : ∀ {vs : List V} {ws : List W}, RelWs S G vs ws → ∀ b ∈ vs.zip ws, RelW S G b.1 b.2
  | _, [], h, b, hb => by simp at hb
  | vs, w :: ws, h, b, hb => by
    simp only [RelWs] at h
    obtain ⟨v, r, rfl, q, q2⟩ := h
    rw [List.zip_cons_cons] at hb
    rcases List.mem_cons.mp hb with e | hb
    · rw [e]; exact q
    · exact relWs_zip q2 b hb
theorem isTupD_toD {w : W} (h : isTupD w = true) : ∃ xs, w.toD = .tuple xs := by
  cases w <;> first | (exact ⟨_, rfl⟩) | (cases h)
theorem not_tupD {w : W} (hd : w.isD = true) (h : (!isTupD w && !isNon w) = true) : w.toD ≠ .none ∧ ∀ xs, w.toD ≠ .tuple xs := by
  cases w with
  | tup xs => simp [isTupD] at h
  | non => simp [isNon] at h
  | bl b => exact ⟨(fun z => by simp [W.toD] at z), (fun xs z => by simp [W.toD] at z)⟩
  | int b => exact ⟨(fun z => by simp [W.toD] at z), (fun xs z => by simp [W.toD] at z)⟩
  | str b => exact ⟨(fun z => by simp [W.toD] at z), (fun xs z => by simp [W.toD] at z)⟩
  | lst b => exact ⟨(fun z => by simp [W.toD] at z), (fun xs z => by simp [W.toD] at z)⟩
  | _ => simp [W.isD] at hd
section
variable {X : Cx} {S : Sta}
def rSrt (S : Sta) : List V → Hp → VK → Prop := fun vs H Q => ∃ (a : Addr) (xs : List V) (G : Wd) (ws : List W), vs = [V.ref a] ∧ G.H = H ∧ (SqT S.K H a xs ∨ SqL S.K H a xs) ∧ RelWs S G xs ws ∧ srtOk ws = true ∧
  ∀ ys p, RelWs S G ys (ws.mergeSort leW) → H p = none → Q (.ref p) (upd H p (.lst ys))
theorem dep_mem {ws : List W} {w : W} (h : w ∈ ws) : w.dep ≤ deps ws := by
  induction ws with
  | nil => cases h
  | cons x r ih =>
    rw [deps]
    rcases List.mem_cons.mp h with e | h
    · rw [e]; exact Nat.le_max_left _ _
    · exact Nat.le_trans (ih h) (Nat.le_max_right _ _)
theorem cr_srt (hK : X.K = S.K) (hu : X.A.units + 65 < cLine) : CallR X (.builtin "sorted") (rSrt S) := by
  intro pins s σ H vs us Q I r h
  obtain ⟨a, xs, G, ws, rfl, rfl, hs, rel, ok, q⟩ := h
  rw [← hK] at hs
  obtain ⟨its, rv, hl, hz⟩ : ∃ its, Vals xs its ∧ IsSq s.heap a its.toArray ∧ xs.length ≤ sizeLine := by
    rcases hs with hs | hs
    · obtain ⟨its, rv, hl, hz⟩ := I.tuple hs
      exact ⟨its, rv, .inr hl, hz⟩
    · obtain ⟨its, rv, hl, hz⟩ := I.list hs
      exact ⟨its, rv, .inl hl.isList, hz⟩
  rw [Vals.ref1 r]
  have hlen := rel.length
  unfold srtOk at ok
  simp only [Bool.and_eq_true] at ok
  obtain ⟨⟨k1, k2⟩, k3⟩ := ok
  have hD : ∀ b ∈ xs.zip ws, b.2 ∈ ws := fun b hb => (List.of_mem_zip hb).2
  have e0 := each_vals rv hlen
  have e1 : (xs.zip ws).map (fun b => b.2.toD) = ws.map W.toD := by
    rw [show (fun b : V × W => b.2.toD) = W.toD ∘ (fun b : V × W => b.2) from rfl, ← List.map_map, (zip_fst hlen).2]
  have fl : ∀ w ∈ ws, w.flat = true := fun w hw => List.all_eq_true.mp k1 w hw
  have er : EachIs (fun u (b : V × W) => ∃ as, Reads s.heap u b.2.toD as) its (xs.zip ws) := (each_mem e0).mono fun u b ⟨h1, h2⟩ => by
    have q1 := relWs_zip rel b h2
    have q2 := dp_of (S := S) b.2 b.1 q1 (flat_D (fl _ (hD b h2)))
    rw [← hK] at q2
    exact Dp.reads I _ _ _ q2 h1
  refine sorted_any (bs := xs.zip ws) (enc := fun b => b.2.toD) hl e0 er ?_ ?_ ?_ ?_ fun out ho heo => ?_
  · rw [e1]
    intro d hd d' hd'
    obtain ⟨x, hx, rfl⟩ := List.mem_map.mp hd
    obtain ⟨y, hy, rfl⟩ := List.mem_map.mp hd'
    exact List.all_eq_true.mp (List.all_eq_true.mp k2 x hx) y hy
  · rw [e1]
    simp only [Bool.or_eq_true] at k3
    rcases k3 with k3 | k3
    · refine .inl fun d hd => ?_
      obtain ⟨x, hx, rfl⟩ := List.mem_map.mp hd
      exact isTupD_toD (List.all_eq_true.mp k3 x hx)
    · refine .inr fun d hd => ?_
      obtain ⟨x, hx, rfl⟩ := List.mem_map.mp hd
      exact not_tupD (flat_D (fl _ hx)) (List.all_eq_true.mp k3 x hx)
  · rw [List.length_zip, hlen, Nat.min_self, ← hlen]; exact hz
  · intro b hb
    have := fl _ (hD b hb)
    unfold W.flat at this
    simp only [Bool.and_eq_true, decide_eq_true_eq] at this
    rw [dep_of]
    omega
  · obtain ⟨ep, he'⟩ := PyProof.Rows.sortedAll_at s.heap its out.toArray
    have hv := vals_each heo
    have e3 : ((xs.zip ws).mergeSort (dataLe false fun b : V × W => b.2.toD)).map (·.2) = ws.mergeSort leW := by
      have z := List.map_mergeSort (r := dataLe false fun b : V × W => b.2.toD) (s := leW) (f := fun b : V × W => b.2) (l := xs.zip ws) (fun a _ b _ => rfl)
      rw [(zip_fst hlen).2] at z
      exact z
    have hrel : RelWs S G (((xs.zip ws).mergeSort (dataLe false fun b : V × W => b.2.toD)).map (·.1)) (ws.mergeSort leW) := by
      rw [← e3]
      exact relWs_map fun b hb => relWs_zip rel b (List.mem_mergeSort.mp hb)
    have hlen2 : (((xs.zip ws).mergeSort (dataLe false fun b : V × W => b.2.toD)).map (·.1)).length ≤ sizeLine := by
      rw [List.length_map, List.length_mergeSort, List.length_zip, hlen, Nat.min_self, ← hlen]; exact hz
    exact ⟨.ref _, upd G.H (s.heap.objs.size + 1) (.lst _), I.laid (t' := s.toks) (fun _ _ => PyProof.Rows.sortedAll_old) (Nat.le_succ _) ⟨hlen2, out, ep, hv, he'⟩, rfl, q _ _ hrel (I.hok.fresh (Nat.le_succ _))⟩
end
end Pf

/-! part P101 -/
set_option Elab.async false
set_option linter.all false
set_option maxRecDepth 100000
set_option autoImplicit false
set_option maxHeartbeats 4000000
/-! Sets of ints and texts by their keys: made of a row, put in order. -/
namespace Pf
open PySem PySem.Spec PyProof.Rows L2

/-- a member's key -/
def kyM (v : Value) : Key := match v with
  | .int i _ => .inl i
  | .str x _ => .inr x
  | _ => .inl 0
/-- what a set of keys is made of -/
def GdM (P : Program) (w : World) (e : Int × Value) : Prop := (mixKind P w).is (kyM e.2) e.2 = true ∧ e.1 = (mixKind P w).hash (kyM e.2) ∧ e.2.scannable = true
/-- the set at a: its keys as the table has them -/
def SetM (P : Program) (w : World) (h : Heap) (a : Addr) (ks : List Key) : Prop :=
  ∃ o fs ep t, h.get? a = some o ∧ o.ExactSet ∧ o.data = .set fs ep t ∧ (∀ e ∈ fs.toList, GdM P w e) ∧ fs.toList.map (fun e => kyM e.2) = ks ∧ ks.Nodup ∧ ks.length < scanBound ∧ t.fits fs.size = true ∧ Ris t.place.toList ∧ (w.params.followText "set-order" = true ∨ t.led = true)
section
variable {P : Program} {w : World}
theorem kyM_is {k : Key} {v : Value} (h : (mixKind P w).is k v = true) : kyM v = k := by
  rcases keyIs_shape h with ⟨i, t, rfl, rfl⟩ | ⟨x, t, rfl, rfl⟩ <;> rfl
theorem is_scan {k : Key} {v : Value} (h : (mixKind P w).is k v = true) : v.scannable = true := by
  rcases keyIs_shape h with ⟨i, t, rfl, rfl⟩ | ⟨x, t, rfl, rfl⟩ <;> rfl
theorem gdM_of {k : Key} {v : Value} (h : (mixKind P w).is k v = true) : GdM P w ((mixKind P w).hash k, v) := by
  have e := kyM_is h
  exact ⟨by show (mixKind P w).is (kyM v) v = true; rw [e]; exact h, by show _ = (mixKind P w).hash (kyM v); rw [e], is_scan h⟩
theorem gdM_elems {l : List (Int × Value)} (g : ∀ e ∈ l, GdM P w e) : ElemsOf (mixKind P w) l := fun e he => ⟨⟨kyM e.2, (g e he).1, (g e he).2.1⟩, (g e he).2.2⟩
theorem gdM_find {l : List (Int × Value)} (g : ∀ e ∈ l, GdM P w e) (k : Key) : k ∈ l.map (fun e => kyM e.2) ↔ ∃ e ∈ l, (mixKind P w).is k e.2 = true := by
  rw [List.mem_map]
  exact ⟨fun ⟨e, he, q⟩ => ⟨e, he, q ▸ (g e he).1⟩, fun ⟨e, he, q⟩ => ⟨e, he, kyM_is q⟩⟩
theorem SetM.keep {h h' : Heap} {a : Addr} {ks : List Key} (R : SetM P w h a ks) (k : ∀ o, h.get? a = some o → h'.get? a = some o) : SetM P w h' a ks := by
  obtain ⟨o, fs, ep, t, ho, q⟩ := R
  exact ⟨o, fs, ep, t, k o ho, q⟩
theorem setM_fresh {h : Heap} {a : Addr} (ho : h.get? a = some { cls := .type "set", dict := none, data := .set #[] 0 (.fresh 0 0 (!w.params.followText "set-order")) }) : SetM P w h a [] := by
  refine ⟨_, #[], 0, _, ho, ⟨rfl, rfl, rfl⟩, rfl, (fun e he => by simp at he), rfl, .nil, (by decide), rfl, List.Pairwise.nil, ?_⟩
  cases hb : w.params.followText "set-order" with
  | true => exact .inl rfl
  | false => right; rfl
end
section
variable {P : Program} {w : World} {A : Around} {E : Value → Shared → Prop} {s : Shared} {a : Addr} {ks : List Key}
theorem setM_tail {g : Bool → Sem Unit} (hg : ∀ (b : Bool) (s1 : Shared) (Q1 : Unit → Shared → Prop), Q1 () s1 → wpAny (model P w) A (g b) Q1 E s1) {o : Obj} {fs : Array (Int × Value)} {ep : Nat} {t : SetTable} (ho : s.heap.get? a = some o) (hx : o.ExactSet) (hd : o.data = .set fs ep t)
    {fs1 : Array (Int × Value)} {t2 : SetTable} (g1 : ∀ e ∈ fs1.toList, GdM P w e) (n1 : (fs1.toList.map (fun e => kyM e.2)).Nodup) (hb1 : fs1.size < scanBound) (hf2 : t2.fits fs1.size = true) (hr : Ris t2.place.toList) (hl : w.params.followText "set-order" = true ∨ t2.led = true) {wd : Bool} {R : Option Bool → Shared → Prop}
    (hR : ∀ h' ks', Heap.SameBut a s.heap h' → SetM P w h' a ks' → ks'.Perm (fs1.toList.map (fun e => kyM e.2)) → R (some true) { s with heap := h' }) :
    wpAny (model P w) A (storeSet a fs1 t2 >>= fun _ => if (!wd && t2.tooFull) = true then g (relayAll t2 fs1 (SetTable.grown fs1.size)).2.2 >>= fun _ => storeSet a (relayAll t2 fs1 (SetTable.grown fs1.size)).1 (relayAll t2 fs1 (SetTable.grown fs1.size)).2.1 >>= fun _ => pure (some true) else pure (some true)) R E s := by
  refine wpAny_bind (wpAny_storeSet_of ho hd ?_ (fits_of_scanBound hb1))
  have ho1 := store_at (es' := fs1) (t' := t2) ho hd
  have sb := Heap.SameBut.update s.heap a (Obj.putSet fs1 t2)
  by_cases hc : (!wd && t2.tooFull) = true
  · rw [if_pos hc]
    have pm := relayAll_perm t2 fs1 (SetTable.grown fs1.size)
    have f3 := relayAll_fits t2 fs1 (SetTable.grown fs1.size)
    have r3 := relayAll_ris t2 fs1 (SetTable.grown fs1.size)
    have l3 := relayAll_led t2 fs1 (SetTable.grown fs1.size)
    generalize relayAll t2 fs1 (SetTable.grown fs1.size) = Z at pm f3 r3 l3 ⊢
    obtain ⟨fs2, t3, gv⟩ := Z
    dsimp only at pm f3 r3 l3 ⊢
    have z2 : fs2.size = fs1.size := by rw [← Array.length_toList, pm.length_eq, Array.length_toList]
    refine wpAny_bind (hg _ _ _ (wpAny_bind (wpAny_storeSet_of ho1 rfl ?_ (fits_of_scanBound (by rw [z2]; exact hb1)))))
    have ho2 := store_at (es' := fs2) (t' := t3) ho1 rfl
    have pk := pm.map (fun e : Int × Value => kyM e.2)
    refine wpAny_pure (hR _ (fs2.toList.map fun e => kyM e.2) (sb.trans (Heap.SameBut.update _ a _)) ?_ pk)
    refine ⟨_, fs2, _, t3, ho2, hx, rfl, fun e he => g1 e (pm.mem_iff.mp he), rfl, pk.nodup_iff.mpr n1, ?_, f3, r3, hl.imp id fun z => by rw [l3]; exact z⟩
    rw [List.length_map, Array.length_toList, z2]; exact hb1
  · rw [if_neg hc]
    refine wpAny_pure (hR _ _ sb ⟨_, fs1, _, t2, ho1, hx, rfl, g1, rfl, n1, ?_, hf2, hr, hl⟩ (List.Perm.refl _))
    rw [List.length_map, Array.length_toList]; exact hb1
/-- a key more -/
theorem setM_add {k : Key} {v : Value} {Q : Bool → Shared → Prop} (R : SetM P w s.heap a ks) (hv : (mixKind P w).is k v = true) (room : ks.length + 1 < scanBound)
    (hQ : ∀ h' ks', Heap.SameBut a s.heap h' → SetM P w h' a ks' → (k ∈ ks → ks' = ks) → (k ∉ ks → ks'.Perm (k :: ks)) → ∀ b, Q b { s with heap := h' }) :
    wpAny (model P w) A (setAddHashed a v ((mixKind P w).hash k)) Q E s := by
  have R0 := R
  obtain ⟨o, fs, ep, t, ho, hx, hd, g, hk, nd, hb, hf, hr, hl⟩ := R
  have hlen : fs.size = ks.length := by rw [← hk, List.length_map, Array.length_toList]
  have hsc : v.scannable = true := is_scan hv
  have hel : ElemsOf (mixKind P w) fs.toList := gdM_elems g
  unfold setAddHashed setAddHashedIn
  refine wpAny_holding (wpAny_bind (wpAny_setState_of ho hd hf ?_))
  dsimp only
  rw [byScan_of hsc (by rw [hlen]; exact hb) hel]
  simp only [↓reduceIte]
  unfold setAddByScan
  refine wpAny_bind (wpAny_bind (wpAny_rule (wpAny_bind (wpAny_setScan_of hv ho hd hf hel ?_))))
  cases hfi : List.findIdx? (fun e => (mixKind P w).is k e.2) fs.toList with
  | some j =>
    dsimp only
    obtain ⟨hj, pj, _⟩ := List.findIdx?_eq_some_iff_getElem.mp hfi
    have hkk : k ∈ ks := by rw [← hk]; exact (gdM_find g k).2 ⟨fs.toList[j], List.getElem_mem hj, pj⟩
    refine wpAny_pure (wpAny_pure ?_)
    exact hQ s.heap ks (Heap.SameBut.refl a s.heap) R0 (fun _ => rfl) (fun z => absurd hkk z) _
  | none =>
    dsimp only
    have hnk : k ∉ ks := fun z => by
      rw [← hk] at z
      obtain ⟨e, he, q⟩ := (gdM_find g k).1 z
      have c := List.findIdx?_eq_none_iff.mp hfi e he
      rw [q] at c
      cases c
    have hgw : ∀ (b : Bool) {s1 : Shared} {Q1 : Unit → Shared → Prop}, Q1 () s1 → wpAny (model P w) A (match b with | true => rule "set.scan.the-table-gave-way" | false => pure ()) Q1 E s1 := fun b s1 Q1 q => by cases b <;> first | exact wpAny_pure q | exact wpAny_rule q
    have pm := layNew_perm t fs ((mixKind P w).hash k) v
    have f1 := layNew_fits t fs ((mixKind P w).hash k) v
    have r1 := layNew_ris t fs ((mixKind P w).hash k) v hr
    have l1 := layNew_led t fs ((mixKind P w).hash k) v
    generalize layNew t fs ((mixKind P w).hash k) v = Z at pm f1 r1 l1 ⊢
    obtain ⟨fs1, t1, wd, gv⟩ := Z
    dsimp only at pm f1 r1 l1 ⊢
    rw [Array.toList_push] at pm
    have pc : fs1.toList.Perm (((mixKind P w).hash k, v) :: fs.toList) := pm.trans (List.perm_append_singleton _ _)
    have pk : (fs1.toList.map fun e => kyM e.2).Perm (k :: ks) := by
      have q := pc.map (fun e : Int × Value => kyM e.2)
      rw [List.map_cons, hk] at q
      have e : kyM v = k := kyM_is hv
      rw [← e]; exact q
    have g1 : ∀ e ∈ fs1.toList, GdM P w e := fun e he => (List.mem_cons.mp (pc.mem_iff.mp he)).elim (fun z => z ▸ gdM_of hv) (g e)
    have n1 : (fs1.toList.map fun e => kyM e.2).Nodup := pk.nodup_iff.mpr (List.nodup_cons.mpr ⟨hnk, nd⟩)
    have z1 : fs1.size = ks.length + 1 := by rw [← Array.length_toList, pc.length_eq, List.length_cons, Array.length_toList, hlen]
    have hb1 : fs1.size < scanBound := by rw [z1]; exact room
    have hled : w.params.followText "set-order" = true ∨ t1.led = true := hl.imp id fun z => by rw [l1]; exact z
    have fin : ∀ h' ks', Heap.SameBut a s.heap h' → SetM P w h' a ks' → ks'.Perm (fs1.toList.map fun e => kyM e.2) → Q true { s with heap := h' } := fun h' ks' sb r p => hQ h' ks' sb r (fun z => absurd z hnk) (fun _ => p.trans pk) _
    refine wpAny_bind (hgw _ ?_)
    by_cases hc : ¬ (True = True)
    · exact absurd rfl hc
    · clear hc
      split
      · refine wpAny_bind ?_
        rw [hashByValue_scannable 8 hsc]
        refine wpAny_pure (setM_tail (fun b s1 Q1 q => by cases b <;> first | exact wpAny_pure q | exact wpAny_rule q) ho hx hd g1 n1 hb1 ?_ ?_ ?_ fun h' ks' sb r p => by dsimp only; exact wpAny_pure (fin h' ks' sb r p))
        · first | (split <;> first | exact f1 | exact SetTable.fits_plain_off f1) | exact f1
        · first | (split <;> exact r1) | exact r1
        · first | (split <;> exact hled) | exact hled
      · refine wpAny_bind (wpAny_pure ?_)
        simp only [↓reduceIte]
        exact setM_tail (fun b s1 Q1 q => by cases b <;> first | exact wpAny_pure q | exact wpAny_rule q) ho hx hd g1 n1 hb1 f1 r1 hled fun h' ks' sb r p => by dsimp only; exact wpAny_pure (fin h' ks' sb r p)
/-- what a set has got of the first items -/
def GotM (l : List Key) (i : Nat) (ks : List Key) : Prop := ∀ k, k ∈ ks ↔ k ∈ l.take i
/-- set.update's walk -/
theorem setM_walk {I : Addr} {fp wr : List Addr} {G : Array GenState → Array GenState → Prop} {n : Nat} {Pv : Nat → Value → Prop} {St : Nat → Shared → Prop} {R : Result → Shared → Prop} (Wk : WalksS P w A.in1 I fp wr G n Pv St) (S : Addr) (hSf : S ∉ fp) (l : List Key) (hn : n = l.length) (hb : n + 1 < scanBound)
    (hval : ∀ i v, Pv i v → ∃ k, l[i]? = some k ∧ (mixKind P w).is k v = true) : ∀ (m i : Nat) (s : Shared), n - i = m → i ≤ n → St i s → (∃ ks, ks.length ≤ i ∧ SetM P w s.heap S ks ∧ GotM l i ks) →
      (∀ s' ks, Moved (S :: wr) G s s' → SetM P w s'.heap S ks → GotM l n ks → ks.length ≤ n → R (.ok (.ret .none)) s') → codeAny (model P w) A (.builtin "set.update.loop" ⟨[.ref S, .ref I], []⟩) R s := by
  have hSw : S ∉ wr := fun h => hSf (Wk.sub _ h)
  have up : ∀ b ∈ wr, b ∈ S :: wr := fun b hb => List.mem_cons_of_mem _ hb
  intro m
  induction m with
  | zero =>
    intro i s e hi hst ⟨ks, hc, hS, hG⟩ hR
    have hin : i = n := by omega
    subst hin
    refine codeAny_builtin F.entry_set_update_loop ?_
    rw [Around.under_plainId F.plain_set_update_loop _]
    show wpAny _ A.in1 (pyNext (.ref I) >>= _) _ _ s
    refine wpAny_bind (Wk.done s _ _ hst fun s' hm => ?_)
    show wpAny _ A.in1 (ret Value.none) _ _ s'
    exact wpAny_pure (hR s' ks (hm.mono up) (hS.keep fun o q => hm.heap S o hSw q) hG hc)
  | succ m ih =>
    intro i s e hi hst ⟨ks, hc, hS, hG⟩ hR
    have hlt : i < n := by omega
    refine codeAny_builtin F.entry_set_update_loop ?_
    rw [Around.under_plainId F.plain_set_update_loop _]
    show wpAny _ A.in1 (pyNext (.ref I) >>= _) _ _ s
    refine wpAny_bind (Wk.item i s _ _ hlt hst fun v s' hP hst' hm => ?_)
    obtain ⟨k, hk, hv⟩ := hval i v hP
    have hS' : SetM P w s'.heap S ks := hS.keep fun o q => hm.heap S o hSw q
    show wpAny _ A.in1 (holding [v] (setAdd S v) >>= _) _ _ s'
    refine wpAny_bind (wpAny_holding ?_)
    unfold setAdd
    refine wpAny_holding (wpAny_bind ((mixKind P w).pyHash (k := k) hv ?_))
    refine setM_add (s := { s' with toks := s'.toks + 1 }) hS' hv (by omega) fun h' ks' hsb hS2 e1 e2 _ => ?_
    have hc2 : ks'.length ≤ i + 1 := by
      by_cases z : k ∈ ks
      · rw [e1 z]; omega
      · rw [(e2 z).length_eq, List.length_cons]; omega
    have hG2 : GotM l (i + 1) ks' := fun j => by
      rw [List.take_add_one, hk, List.mem_append, ← hG j]
      by_cases z : k ∈ ks
      · rw [e1 z]
        exact ⟨.inl, fun q => q.elim id fun q => by rw [show j = k by simpa using q]; exact z⟩
      · rw [(e2 z).mem_iff, List.mem_cons, Or.comm]
        simp
    refine wpAny_pure ⟨plainId_quiet F.plain_set_update_loop _, ih (i + 1) _ (by omega) hlt (Wk.frame _ s' _ _ hst' (Nat.le_succ _) fun b hb o q => ?_) ⟨ks', hc2, hS2, hG2⟩ fun s'' ks'' hm2 hS3 hG3 hc3 => ?_⟩
    · rw [hsb.2 b (fun z : b = S => hSf (by rw [← z]; exact hb))]; exact q
    · refine hR s'' ks'' (Moved.trans Wk.gtrans ((hm.mono up).then_heap (Nat.le_succ _) fun b o hb q => ?_) hm2) hS3 hG3 hc3
      rw [hsb.2 b (fun z : b = S => hb (by rw [z]; exact List.mem_cons_self))]; exact q
end
end Pf

/-! part P102 -/
set_option Elab.async false
set_option linter.all false
set_option maxRecDepth 100000
set_option autoImplicit false
set_option maxHeartbeats 8000000
/-! set(row), sorted(set). -/
namespace Pf
open PySem PySem.Spec PySem.W PyProof.Rows L2
abbrev nwSet (w : World) : Obj := { cls := .type "set", dict := none, data := .set #[] 0 (.fresh 0 0 (!w.params.followText "set-order")) }
section
variable {P : Program} {w : World} {A : Around} {E : Value → Shared → Prop} {s : Shared}
theorem _root_.PySem.W.EachIs.at {α β : Type} {R : α → β → Prop} {as : List α} {bs : List β} (h : EachIs R as bs) : ∀ {i : Nat} {a : α} {b : β}, as[i]? = some a → bs[i]? = some b → R a b := by
  induction h with
  | nil => intro i a b e; simp at e
  | cons r t ih =>
    intro i a b e1 e2
    cases i with
    | zero =>
      simp only [List.getElem?_cons_zero, Option.some.injEq] at e1 e2
      subst e1 e2; exact r
    | succ i => exact ih (by simpa using e1) (by simpa using e2)
theorem call_setM_tuple {l : Addr} {its : Array Value} (ls : List Key) {Q : Value → Shared → Prop} (hh : A.handled = none) (hl : s.heap.IsTuple l its) (hit : EachIs (fun v k => (mixKind P w).is k v = true) its.toList ls) (hb : ls.length + 1 < scanBound)
    (h : ∀ (h' : Heap) (tk : Nat) (ks : List Key), SetM P w h' s.heap.objs.size ks → (∀ k, k ∈ ks ↔ k ∈ ls) → (∀ b o, s.heap.get? b = some o → h'.get? b = some o) → Q (.ref s.heap.objs.size) { s with heap := h', toks := tk }) : wpAny (model P w) A (call (.type "set") [.ref l]) Q E s := by
  have hz : its.size = ls.length := by have q := hit.length; rw [Array.length_toList] at q; exact q
  obtain ⟨c, tl, hmro⟩ := F.called_set.mro
  have hmd := F.called_set.made; have hsb := F.called_set.sub
  refine wpAny_call (codeAny_of_tree ?_)
  show wpAny _ _ (callAny (.type "set") _) _ _ _
  refine wpAny_pure ⟨Code.quiet_builtin _ (by decide +kernel), codeAny_builtin F.entry_type_call ?_⟩
  rw [Around.under_plain (weight_type_call_type "set" [.ref l] []) rfl]
  have q1 := F.called_set.notType; have q2 := F.called_set.canCreate; have q3 := F.typeCall_set_1 (.ref l)
  repeat (any_goals (first | assumption | wp_step))
  refine codeAny_mono (code_set_led1 (.ref l) (E := E) (Q₁ := fun ob s1 => ob = .ref s.heap.objs.size ∧ s1 = { s with heap := s.heap.push (nwSet w) }) ⟨rfl, rfl⟩) fun r s1 hr => ?_
  rcases r with e | fl
  · exact hr
  rcases fl with ob | _ | _ | _ <;> first | exact hr.elim | skip
  obtain ⟨rfl, rfl⟩ := hr
  have hS : (s.heap.push (nwSet w)).get? s.heap.objs.size = some (nwSet w) := Heap.get?_push_size _ rfl
  have hT : Shared.TypeIs { s with heap := s.heap.push (nwSet w) } (.ref s.heap.objs.size) "set" := ⟨_, hS, rfl⟩
  have hli := F.called_set.init.lookup; have hbi := F.called_set.init.bind (.ref s.heap.objs.size)
  repeat (any_goals (first | assumption | wp_step))
  refine codeAny_mono (codeAny_call_builtin (R := wants (fun r s2 => r = .none ∧ ∃ h' tk ks, s2 = { s with heap := h', toks := tk } ∧ SetM P w h' s.heap.objs.size ks ∧ (∀ k, k ∈ ks ↔ k ∈ ls) ∧ (∀ b o, s.heap.get? b = some o → h'.get? b = some o)) E) F.called_set.init.plain F.entry_set_init (check_set_init_1 hT ?_)) fun r2 s2 hr2 => ?_
  · obtain ⟨ol, hol, hcl, nl, hdl⟩ := hl
    obtain ⟨ocls, odict, odata, oslots⟩ := ol
    simp only at hcl hdl; subst hcl; subst hdl
    have hol2 : (s.heap.push (nwSet w)).get? l = some { cls := .type "tuple", dict := odict, data := .seq its nl, slots := oslots } := Heap.get?_push_of_some _ hol
    have c1 := F.sub_tuple_set; have c2 := F.sub_tuple_frozenset
    have c3 : (Value.type "tuple" == Value.type "dict") = false := by decide
    have hl1 : (s.heap.push (nwSet w)).IsTuple l its := ⟨_, hol2, rfl, nl, rfl⟩
    unfold Builtin.«set.__init__» noKeywords Builtin.Frozenset.updateFrom
    generalize hPI : pyIter = PI
    wp_walk
    subst hPI
    refine wpAny_pyIter_tuple hl1 (wpAny_bind (wpAny_runValue ?_))
    have hlS : l < s.heap.objs.size := Heap.lt_size hol
    have hh3 : A.in1.in1.in1.handled = none := by simp [hh]
    have hsz : (s.heap.push (nwSet w)).objs.size = s.heap.objs.size + 1 := Heap.size_push ..
    have hneI : l ≠ (s.heap.push (nwSet w)).objs.size := by rw [hsz]; exact Nat.ne_of_lt (Nat.lt_succ_of_lt hlS)
    have hSf : s.heap.objs.size ∉ [(s.heap.push (nwSet w)).objs.size, l] := by
      rw [hsz]; simp only [List.mem_cons, List.not_mem_nil, or_false, not_or]
      exact ⟨Nat.ne_of_lt (Nat.lt_succ_self _), Nat.ne_of_gt hlS⟩
    have hval : ∀ (i : Nat) (v : Value), its[i]? = some v → ∃ k, ls[i]? = some k ∧ (mixKind P w).is k v = true := fun i v hv => by
      have hi : i < its.toList.length := by rw [Array.length_toList]; exact (Array.getElem?_eq_some_iff.mp hv).1
      have hi2 : i < ls.length := by rw [← hz, ← Array.length_toList]; exact hi
      refine ⟨ls[i], List.getElem?_eq_getElem hi2, ?_⟩
      exact hit.at (by rw [Array.getElem?_toList]; exact hv) (List.getElem?_eq_getElem hi2)
    refine setM_walk ((Walks.tuple hh3 _ l hneI its).toS) s.heap.objs.size hSf ls hz (by rw [hz]; exact hb) hval (its.size - 0) 0 _ (by omega) (Nat.zero_le _) ⟨⟨_, Heap.get?_push_size _ rfl, rfl, rfl⟩, hl1.push _⟩ ?hS0 ?hR
    case hS0 => exact ⟨[], Nat.le_refl 0, setM_fresh (Heap.get?_push_of_some _ hS), fun k => by simp⟩
    case hR =>
      intro s' ks hm hS' hG _
      obtain ⟨h', g2, d', tk', os'⟩ := s'
      have eg : g2 = s.gens := hm.gens
      have ed : d' = s.drawn := hm.drawn
      have eo : os' = s.os := hm.os
      subst eg ed eo
      show wpAny _ _ _ _ _ _
      refine wpAny_pure ?_
      show wpAny _ _ (ret Value.none) _ _ _
      refine wpAny_pure ⟨rfl, h', tk', ks, rfl, hS', fun k => by rw [hG k, hz, List.take_length], fun b o e => ?_⟩
      have hb0 : b < s.heap.objs.size := Heap.lt_size e
      refine hm.heap b o ?_ (Heap.get?_push_of_some _ (Heap.get?_push_of_some _ e))
      rw [hsz]; simp only [List.mem_cons, List.not_mem_nil, or_false, not_or]
      exact ⟨Nat.ne_of_lt hb0, Nat.ne_of_lt (Nat.lt_succ_of_lt hb0)⟩
  · rcases r2 with e | fl2
    · exact hr2
    rcases fl2 with r | _ | _ | _ <;> first | exact hr2.elim | skip
    obtain ⟨rfl, h', tk, ks, rfl, hS', hG', hk'⟩ := hr2
    repeat (any_goals (first | assumption | wp_step))
    exact h _ _ _ hS' hG' hk'
theorem call_setM_list {l : Addr} {its : Array Value} (ls : List Key) {Q : Value → Shared → Prop} (hh : A.handled = none) (hl : s.heap.IsList l its) (hit : EachIs (fun v k => (mixKind P w).is k v = true) its.toList ls) (hb : ls.length + 1 < scanBound)
    (h : ∀ (h' : Heap) (tk : Nat) (ks : List Key), SetM P w h' s.heap.objs.size ks → (∀ k, k ∈ ks ↔ k ∈ ls) → (∀ b o, s.heap.get? b = some o → h'.get? b = some o) → Q (.ref s.heap.objs.size) { s with heap := h', toks := tk }) : wpAny (model P w) A (call (.type "set") [.ref l]) Q E s := by
  have hz : its.size = ls.length := by have q := hit.length; rw [Array.length_toList] at q; exact q
  obtain ⟨c, tl, hmro⟩ := F.called_set.mro
  have hmd := F.called_set.made; have hsb := F.called_set.sub
  refine wpAny_call (codeAny_of_tree ?_)
  show wpAny _ _ (callAny (.type "set") _) _ _ _
  refine wpAny_pure ⟨Code.quiet_builtin _ (by decide +kernel), codeAny_builtin F.entry_type_call ?_⟩
  rw [Around.under_plain (weight_type_call_type "set" [.ref l] []) rfl]
  have q1 := F.called_set.notType; have q2 := F.called_set.canCreate; have q3 := F.typeCall_set_1 (.ref l)
  repeat (any_goals (first | assumption | wp_step))
  refine codeAny_mono (code_set_led1 (.ref l) (E := E) (Q₁ := fun ob s1 => ob = .ref s.heap.objs.size ∧ s1 = { s with heap := s.heap.push (nwSet w) }) ⟨rfl, rfl⟩) fun r s1 hr => ?_
  rcases r with e | fl
  · exact hr
  rcases fl with ob | _ | _ | _ <;> first | exact hr.elim | skip
  obtain ⟨rfl, rfl⟩ := hr
  have hS : (s.heap.push (nwSet w)).get? s.heap.objs.size = some (nwSet w) := Heap.get?_push_size _ rfl
  have hT : Shared.TypeIs { s with heap := s.heap.push (nwSet w) } (.ref s.heap.objs.size) "set" := ⟨_, hS, rfl⟩
  have hli := F.called_set.init.lookup; have hbi := F.called_set.init.bind (.ref s.heap.objs.size)
  repeat (any_goals (first | assumption | wp_step))
  refine codeAny_mono (codeAny_call_builtin (R := wants (fun r s2 => r = .none ∧ ∃ h' tk ks, s2 = { s with heap := h', toks := tk } ∧ SetM P w h' s.heap.objs.size ks ∧ (∀ k, k ∈ ks ↔ k ∈ ls) ∧ (∀ b o, s.heap.get? b = some o → h'.get? b = some o)) E) F.called_set.init.plain F.entry_set_init (check_set_init_1 hT ?_)) fun r2 s2 hr2 => ?_
  · obtain ⟨ol, hol, hcl, nl, hdl⟩ := hl
    obtain ⟨ocls, odict, odata, oslots⟩ := ol
    simp only at hcl hdl; subst hcl; subst hdl
    have hol2 : (s.heap.push (nwSet w)).get? l = some { cls := .type "list", dict := odict, data := .seq its nl, slots := oslots } := Heap.get?_push_of_some _ hol
    have c1 := F.sub_list_set; have c2 := F.sub_list_frozenset
    have c3 : (Value.type "list" == Value.type "dict") = false := by decide
    have hl1 : (s.heap.push (nwSet w)).IsList l its := ⟨_, hol2, rfl, nl, rfl⟩
    unfold Builtin.«set.__init__» noKeywords Builtin.Frozenset.updateFrom
    generalize hPI : pyIter = PI
    wp_walk
    subst hPI
    refine wpAny_pyIter_list hl1 (wpAny_bind (wpAny_runValue ?_))
    have hlS : l < s.heap.objs.size := Heap.lt_size hol
    have hh3 : A.in1.in1.in1.handled = none := by simp [hh]
    have hsz : (s.heap.push (nwSet w)).objs.size = s.heap.objs.size + 1 := Heap.size_push ..
    have hneI : l ≠ (s.heap.push (nwSet w)).objs.size := by rw [hsz]; exact Nat.ne_of_lt (Nat.lt_succ_of_lt hlS)
    have hSf : s.heap.objs.size ∉ [(s.heap.push (nwSet w)).objs.size, l] := by
      rw [hsz]; simp only [List.mem_cons, List.not_mem_nil, or_false, not_or]
      exact ⟨Nat.ne_of_lt (Nat.lt_succ_self _), Nat.ne_of_gt hlS⟩
    have hval : ∀ (i : Nat) (v : Value), its[i]? = some v → ∃ k, ls[i]? = some k ∧ (mixKind P w).is k v = true := fun i v hv => by
      have hi : i < its.toList.length := by rw [Array.length_toList]; exact (Array.getElem?_eq_some_iff.mp hv).1
      have hi2 : i < ls.length := by rw [← hz, ← Array.length_toList]; exact hi
      refine ⟨ls[i], List.getElem?_eq_getElem hi2, ?_⟩
      exact hit.at (by rw [Array.getElem?_toList]; exact hv) (List.getElem?_eq_getElem hi2)
    refine setM_walk ((Walks.list hh3 _ l hneI its).toS) s.heap.objs.size hSf ls hz (by rw [hz]; exact hb) hval (its.size - 0) 0 _ (by omega) (Nat.zero_le _) ⟨⟨_, Heap.get?_push_size _ rfl, rfl, rfl⟩, hl1.push _⟩ ?hS0 ?hR
    case hS0 => exact ⟨[], Nat.le_refl 0, setM_fresh (Heap.get?_push_of_some _ hS), fun k => by simp⟩
    case hR =>
      intro s' ks hm hS' hG _
      obtain ⟨h', g2, d', tk', os'⟩ := s'
      have eg : g2 = s.gens := hm.gens
      have ed : d' = s.drawn := hm.drawn
      have eo : os' = s.os := hm.os
      subst eg ed eo
      show wpAny _ _ _ _ _ _
      refine wpAny_pure ?_
      show wpAny _ _ (ret Value.none) _ _ _
      refine wpAny_pure ⟨rfl, h', tk', ks, rfl, hS', fun k => by rw [hG k, hz, List.take_length], fun b o e => ?_⟩
      have hb0 : b < s.heap.objs.size := Heap.lt_size e
      refine hm.heap b o ?_ (Heap.get?_push_of_some _ (Heap.get?_push_of_some _ e))
      rw [hsz]; simp only [List.mem_cons, List.not_mem_nil, or_false, not_or]
      exact ⟨Nat.ne_of_lt hb0, Nat.ne_of_lt (Nat.lt_succ_of_lt hb0)⟩
  · rcases r2 with e | fl2
    · exact hr2
    rcases fl2 with r | _ | _ | _ <;> first | exact hr2.elim | skip
    obtain ⟨rfl, h', tk, ks, rfl, hS', hG', hk'⟩ := hr2
    repeat (any_goals (first | assumption | wp_step))
    exact h _ _ _ hS' hG' hk'
end
end Pf

/-! part P13 -/
set_option Elab.async false
set_option linter.all false
set_option maxRecDepth 100000
set_option autoImplicit false
set_option maxHeartbeats 1000000
/-! Calls of built-in functions. -/
namespace Pf
open PySem PySem.Spec PyProof.Rows L2

theorem _root_.L2.CallR.imp {X : Cx} {f : Value} {r r' : List V → Hp → VK → Prop} (h : CallR X f r) (i : ∀ vs H Q, r' vs H Q → r vs H Q) : CallR X f r' := fun pins s σ H xs us Q I rs q => h pins s σ H xs us Q I rs (i _ _ _ q)
theorem _root_.L2.CallR.frz {X : Cx} {f : Value} {r : List V → Hp → VK → Prop} (h : CallR X f r) : CallR X f (fun vs H Q => r vs H fun v H1 => ∃ p xs, v = .ref p ∧ H1 p = some (.lst xs) ∧ ∀ o, Q v (upd H1 p (.frz o (.lst xs)))) := fun pins s σ H xs us Q I rs q =>
  thn (h pins s σ H xs us _ I rs q) fun u s1 e => ep_frz e

def rB (S : Sta) (F : List W → St → Option W) : List V → Hp → VK → Prop := fun vs H Q => ∃ G st ws w, G.H = H ∧ RelSt S G st ∧ RelWs S G vs ws ∧ F ws st = some w ∧ ∀ G' v, Grow G G' → RelSt S G' st → RelW S G' v w → Q v G'.H
theorem rels1 {S : Sta} {G : Wd} {vs : List V} {w : W} (r : RelWs S G vs [w]) : ∃ v, vs = [v] ∧ RelW S G v w := by
  simp only [RelWs] at r
  obtain ⟨v, r, e, q, e2⟩ := r
  exact ⟨v, by rw [e, e2], q⟩
theorem rels2 {S : Sta} {G : Wd} {vs : List V} {w u : W} (r : RelWs S G vs [w, u]) : ∃ v x, vs = [v, x] ∧ RelW S G v w ∧ RelW S G x u := by
  simp only [RelWs] at r
  obtain ⟨v, r, e, q, v2, r2, e2, q2, e3⟩ := r
  exact ⟨v, v2, by rw [e, e2, e3], q, q2⟩
theorem ints_of {S : Sta} {G : Wd} : ∀ {ws : List W} {ns : List Int} {vs : List V}, asInts ws = some ns → RelWs S G vs ws → vs = ns.map V.int
  | [], ns, vs, h, r => by
    simp only [asInts, Option.some.injEq] at h
    subst h
    simp only [RelWs] at r
    subst r; rfl
  | w :: ws, ns, vs, h, r => by
    simp only [RelWs] at r
    obtain ⟨v, rr, rfl, q, q2⟩ := r
    cases w with
    | int i =>
      simp only [asInts, Option.map_eq_some_iff] at h
      obtain ⟨ns', h1, rfl⟩ := h
      simp only [RelW] at q
      rw [q, ints_of h1 q2]; rfl
    | _ => simp [asInts] at h
theorem bools_of {S : Sta} {G : Wd} : ∀ {ws : List W} {ns : List Bool} {vs : List V}, asBools ws = some ns → RelWs S G vs ws → vs = ns.map V.bl
  | [], ns, vs, h, r => by
    simp only [asBools, Option.some.injEq] at h
    subst h
    simp only [RelWs] at r
    subst r; rfl
  | w :: ws, ns, vs, h, r => by
    simp only [RelWs] at r
    obtain ⟨v, rr, rfl, q, q2⟩ := r
    cases w with
    | bl i =>
      simp only [asBools, Option.map_eq_some_iff] at h
      obtain ⟨ns', h1, rfl⟩ := h
      simp only [RelW] at q
      rw [q, bools_of h1 q2]; rfl
    | _ => simp [asBools] at h
section
variable {S : Sta} {G : Wd} {st : St}
/-- a list, as the hand layer's rules read it -/
theorem lstS_of {v : V} {w : W} {ws : List W} (rs : RelSt S G st) (r : RelW S G v w) (e : lstOf w st = some ws) : ∃ a vs, v = .ref a ∧ SqL S.K G.H a vs ∧ RelWs S G vs ws := by
  obtain ⟨a, vs, h1, h2, h3⟩ := lst_of rs r e
  exact ⟨a, vs, h1, .inl h2, h3⟩
end
theorem foldMost {x : Int} {r : List Int} : r.foldl (fun m y => if y > m then y else m) x ∈ x :: r ∧ ∀ y ∈ x :: r, y ≤ r.foldl (fun m y => if y > m then y else m) x := by
  induction r generalizing x with
  | nil => exact ⟨by simp, by simp⟩
  | cons a r ih =>
    rw [List.foldl_cons]
    by_cases h : a > x
    · rw [if_pos h]
      obtain ⟨h1, h2⟩ := ih (x := a)
      refine ⟨List.mem_cons_of_mem _ h1, fun y hy => ?_⟩
      rcases List.mem_cons.mp hy with e | hy
      · have := h2 a List.mem_cons_self
        omega
      · exact h2 y hy
    · rw [if_neg h]
      obtain ⟨h1, h2⟩ := ih (x := x)
      refine ⟨?_, fun y hy => ?_⟩
      · rcases List.mem_cons.mp h1 with e | h1
        · rw [e]; exact List.mem_cons_self
        · exact List.mem_cons_of_mem _ (List.mem_cons_of_mem _ h1)
      · rcases List.mem_cons.mp hy with e | hy
        · rw [e]; exact h2 x List.mem_cons_self
        · rcases List.mem_cons.mp hy with e | hy
          · have := h2 x List.mem_cons_self
            omega
          · exact h2 y (List.mem_cons_of_mem _ hy)
theorem foldLeast {x : Int} {r : List Int} : r.foldl (fun m y => if y < m then y else m) x ∈ x :: r ∧ ∀ y ∈ x :: r, r.foldl (fun m y => if y < m then y else m) x ≤ y := by
  induction r generalizing x with
  | nil => exact ⟨by simp, by simp⟩
  | cons a r ih =>
    rw [List.foldl_cons]
    by_cases h : a < x
    · rw [if_pos h]
      obtain ⟨h1, h2⟩ := ih (x := a)
      refine ⟨List.mem_cons_of_mem _ h1, fun y hy => ?_⟩
      rcases List.mem_cons.mp hy with e | hy
      · have := h2 a List.mem_cons_self
        omega
      · exact h2 y hy
    · rw [if_neg h]
      obtain ⟨h1, h2⟩ := ih (x := x)
      refine ⟨?_, fun y hy => ?_⟩
      · rcases List.mem_cons.mp h1 with e | h1
        · rw [e]; exact List.mem_cons_self
        · exact List.mem_cons_of_mem _ (List.mem_cons_of_mem _ h1)
      · rcases List.mem_cons.mp hy with e | hy
        · rw [e]; exact h2 x List.mem_cons_self
        · rcases List.mem_cons.mp hy with e | hy
          · have := h2 x List.mem_cons_self
            omega
          · exact h2 y (List.mem_cons_of_mem _ hy)
theorem mostI_eq {ns : List Int} {m k : Int} (e : mostI ns = some m) (h1 : k ∈ ns) (h2 : ∀ y ∈ ns, y ≤ k) : k = m := by
  cases ns with
  | nil => cases e
  | cons x r =>
    have e := Option.some.inj e
    subst e
    have a := foldMost (x := x) (r := r)
    have := h2 _ a.1
    have := a.2 _ h1
    omega
theorem leastI_eq {ns : List Int} {m k : Int} (e : leastI ns = some m) (h1 : k ∈ ns) (h2 : ∀ y ∈ ns, k ≤ y) : k = m := by
  cases ns with
  | nil => cases e
  | cons x r =>
    have e := Option.some.inj e
    subst e
    have a := foldLeast (x := x) (r := r)
    have := h2 _ a.1
    have := a.2 _ h1
    omega

theorem asI_some {w : W} {i : Int} (h : asI w = some i) : w = .int i := by
  cases w <;> simp [asI] at h <;> rw [h]
theorem isStr_some {w : W} {x : Str} (h : isStr w = some x) : w = .str x := by
  cases w <;> simp [isStr] at h <;> rw [h]

section
variable {S : Sta} {X : Cx}
theorem b_len (hK : X.K = S.K) : CallR X (.builtin "len") (rB S bLen) := by
  refine CallR.imp (CallR.or call_len_seq call_len_str) fun vs H Q h => ?_
  obtain ⟨G, st, ws, w, rfl, rs, rel, e, q⟩ := h
  unfold bLen at e
  split at e
  · rename_i a
    obtain ⟨v, rfl, r⟩ := rels1 rel
    split at e
    · rename_i x hx
      rw [isStr_some hx] at r
      simp only [RelW] at r
      split at e
      · rename_i hz
        cases e
        refine .inr ⟨x, by rw [r], by rw [← SZ_eq]; exact hz, q G _ (Grow.refl G) rs (by simp only [RelW])⟩
      · cases e
    · simp only [Option.map_eq_some_iff] at e
      obtain ⟨xs, e1, rfl⟩ := e
      obtain ⟨p, ys, rfl, h1, h2⟩ := seq_of rs r e1
      refine .inl ⟨p, ys, rfl, ?_, q G _ (Grow.refl G) rs (by simp only [RelW]; rw [h2.length])⟩
      rw [hK]
      exact h1.symm
  · cases e
theorem b_all (hK : X.K = S.K) (hc : X.calm = true) : CallR X (.builtin "all") (rB S bAll) := by
  refine CallR.imp (cr_all hc) fun vs H Q h => ?_
  obtain ⟨G, st, ws, w, rfl, rs, rel, e, q⟩ := h
  unfold bAll at e
  split at e
  · obtain ⟨v, rfl, r⟩ := rels1 rel
    simp only [Option.bind_eq_some_iff, Option.map_eq_some_iff] at e
    obtain ⟨xs, e1, bs, e2, rfl⟩ := e
    obtain ⟨a, ys, rfl, h1, h2⟩ := lstS_of rs r e1
    rw [bools_of e2 h2, ← hK] at h1
    exact ⟨a, bs, rfl, h1, q G _ (Grow.refl G) rs (by simp only [RelW])⟩
  · cases e
theorem b_any (hK : X.K = S.K) (hc : X.calm = true) : CallR X (.builtin "any") (rB S bAny) := by
  refine CallR.imp (cr_any hc) fun vs H Q h => ?_
  obtain ⟨G, st, ws, w, rfl, rs, rel, e, q⟩ := h
  unfold bAny at e
  split at e
  · obtain ⟨v, rfl, r⟩ := rels1 rel
    simp only [Option.bind_eq_some_iff, Option.map_eq_some_iff] at e
    obtain ⟨xs, e1, bs, e2, rfl⟩ := e
    obtain ⟨a, ys, rfl, h1, h2⟩ := lstS_of rs r e1
    rw [bools_of e2 h2, ← hK] at h1
    exact ⟨a, bs, rfl, h1, q G _ (Grow.refl G) rs (by simp only [RelW])⟩
  · cases e
theorem b_sum (hK : X.K = S.K) (hc : X.calm = true) : CallR X (.builtin "sum") (rB S bSum) := by
  refine CallR.imp (cr_sum hc) fun vs H Q h => ?_
  obtain ⟨G, st, ws, w, rfl, rs, rel, e, q⟩ := h
  unfold bSum at e
  split at e
  · obtain ⟨v, rfl, r⟩ := rels1 rel
    simp only [Option.bind_eq_some_iff, Option.map_eq_some_iff] at e
    obtain ⟨xs, e1, bs, e2, rfl⟩ := e
    obtain ⟨a, ys, rfl, h1, h2⟩ := lstS_of rs r e1
    rw [ints_of e2 h2, ← hK] at h1
    exact ⟨a, bs, rfl, h1, q G _ (Grow.refl G) rs (by simp only [RelW])⟩
  · cases e
theorem b_max1 (hK : X.K = S.K) (hc : X.calm = true) : CallR X (.builtin "max") (rB S bMax1) := by
  refine CallR.imp (cr_max hc) fun vs H Q h => ?_
  obtain ⟨G, st, ws, w, rfl, rs, rel, e, q⟩ := h
  unfold bMax1 at e
  split at e
  · obtain ⟨v, rfl, r⟩ := rels1 rel
    simp only [Option.bind_eq_some_iff, Option.map_eq_some_iff] at e
    obtain ⟨xs, e1, bs, e2, m, e3, rfl⟩ := e
    obtain ⟨a, ys, rfl, h1, h2⟩ := lstS_of rs r e1
    rw [ints_of e2 h2, ← hK] at h1
    refine ⟨a, bs, rfl, h1, ?_, fun k k1 k2 => ?_⟩
    · cases bs with
      | nil => cases e3
      | cons x r => simp
    · rw [mostI_eq e3 k1 k2]
      exact q G _ (Grow.refl G) rs (by simp only [RelW])
  · cases e
theorem b_min1 (hK : X.K = S.K) (hc : X.calm = true) : CallR X (.builtin "min") (rB S bMin1) := by
  refine CallR.imp (cr_min hc) fun vs H Q h => ?_
  obtain ⟨G, st, ws, w, rfl, rs, rel, e, q⟩ := h
  unfold bMin1 at e
  split at e
  · obtain ⟨v, rfl, r⟩ := rels1 rel
    simp only [Option.bind_eq_some_iff, Option.map_eq_some_iff] at e
    obtain ⟨xs, e1, bs, e2, m, e3, rfl⟩ := e
    obtain ⟨a, ys, rfl, h1, h2⟩ := lstS_of rs r e1
    rw [ints_of e2 h2, ← hK] at h1
    refine ⟨a, bs, rfl, h1, ?_, fun k k1 k2 => ?_⟩
    · cases bs with
      | nil => cases e3
      | cons x r => simp
    · rw [leastI_eq e3 k1 k2]
      exact q G _ (Grow.refl G) rs (by simp only [RelW])
  · cases e
theorem b_max2 (hc : X.calm = true) : CallR X (.builtin "max") (rB S bMax2) := by
  refine CallR.imp (call_max2 hc) fun vs H Q h => ?_
  obtain ⟨G, st, ws, w, rfl, rs, rel, e, q⟩ := h
  unfold bMax2 at e
  split at e
  · obtain ⟨v, x, rfl, r1, r2⟩ := rels2 rel
    simp only [Option.bind_eq_some_iff, Option.map_eq_some_iff] at e
    obtain ⟨i, e1, j, e2, rfl⟩ := e
    rw [asI_some e1] at r1
    rw [asI_some e2] at r2
    simp only [RelW] at r1 r2
    exact ⟨i, j, by rw [r1, r2], q G _ (Grow.refl G) rs (by simp only [RelW])⟩
  · cases e
theorem b_min2 (hc : X.calm = true) : CallR X (.builtin "min") (rB S bMin2) := by
  refine CallR.imp (call_min2 hc) fun vs H Q h => ?_
  obtain ⟨G, st, ws, w, rfl, rs, rel, e, q⟩ := h
  unfold bMin2 at e
  split at e
  · obtain ⟨v, x, rfl, r1, r2⟩ := rels2 rel
    simp only [Option.bind_eq_some_iff, Option.map_eq_some_iff] at e
    obtain ⟨i, e1, j, e2, rfl⟩ := e
    rw [asI_some e1] at r1
    rw [asI_some e2] at r2
    simp only [RelW] at r1 r2
    exact ⟨i, j, by rw [r1, r2], q G _ (Grow.refl G) rs (by simp only [RelW])⟩
  · cases e
theorem b_abs : CallR X (.builtin "abs") (rB S bAbs) := by
  refine CallR.imp call_abs fun vs H Q h => ?_
  obtain ⟨G, st, ws, w, rfl, rs, rel, e, q⟩ := h
  unfold bAbs at e
  split at e
  · obtain ⟨v, rfl, r⟩ := rels1 rel
    simp only [Option.map_eq_some_iff] at e
    obtain ⟨i, e1, rfl⟩ := e
    rw [asI_some e1] at r
    simp only [RelW] at r
    exact ⟨i, by rw [r], q G _ (Grow.refl G) rs (by simp only [RelW])⟩
  · cases e
theorem b_int : CallR X (.type "int") (rB S bInt) := by
  refine CallR.imp call_int1 fun vs H Q h => ?_
  obtain ⟨G, st, ws, w, rfl, rs, rel, e, q⟩ := h
  unfold bInt at e
  split at e
  · obtain ⟨v, rfl, r⟩ := rels1 rel
    cases e
    simp only [RelW] at r
    exact .inl ⟨_, by rw [r], q G _ (Grow.refl G) rs (by simp only [RelW])⟩
  · obtain ⟨v, rfl, r⟩ := rels1 rel
    cases e
    simp only [RelW] at r
    exact .inr ⟨_, by rw [r], q G _ (Grow.refl G) rs (by simp only [RelW])⟩
  · cases e
theorem b_bool : CallR X (.type "bool") (rB S bBool) := by
  refine CallR.imp call_bool1 fun vs H Q h => ?_
  obtain ⟨G, st, ws, w, rfl, rs, rel, e, q⟩ := h
  unfold bBool at e
  split at e
  · obtain ⟨v, rfl, r⟩ := rels1 rel
    cases e
    simp only [RelW] at r
    exact .inl ⟨_, by rw [r], q G _ (Grow.refl G) rs (by simp only [RelW])⟩
  · obtain ⟨v, rfl, r⟩ := rels1 rel
    cases e
    simp only [RelW] at r
    exact .inr ⟨_, by rw [r], q G _ (Grow.refl G) rs (by simp only [RelW])⟩
  · cases e
/-- a new tuple -/
theorem new_tup {G : Wd} {st : St} {p : Addr} {vs : List V} {ws : List W} (n : G.H p = none) (rs : RelSt S G st) (r : RelWs S G vs ws) :
    Grow G (G.put p (.tup vs)) ∧ RelSt S (G.put p (.tup vs)) st ∧ RelW S (G.put p (.tup vs)) (.ref p) (.tup ws) := by
  have g := Grow.put (G := G) (o := .tup vs) n
  refine ⟨g, rs.put n, ?_⟩
  simp only [RelW]
  exact ⟨p, vs, rfl, .inl (.inl upd_same), RelWs.grow g _ _ r⟩
theorem b_tup (hK : X.K = S.K) : CallR X (.type "tuple") (rB S bTup) := by
  refine CallR.imp call_tuple_of fun vs H Q h => ?_
  obtain ⟨G, st, ws, w, rfl, rs, rel, e, q⟩ := h
  unfold bTup at e
  split at e
  · obtain ⟨v, rfl, r⟩ := rels1 rel
    simp only [Option.map_eq_some_iff] at e
    obtain ⟨xs, e1, rfl⟩ := e
    rcases seq_cases e1 with h | ⟨h, _⟩
    · rw [h] at r
      have r0 := r
      obtain ⟨a, ys, rfl, h1, h2⟩ := tup_of r
      rw [← hK] at h1
      exact ⟨a, ys, rfl, .inr ⟨h1, q G _ (Grow.refl G) rs r0⟩⟩
    · obtain ⟨a, ys, rfl, h1, h2⟩ := lstS_of rs r h
      rw [← hK] at h1
      refine ⟨a, ys, rfl, .inl ⟨h1, fun l hl => ?_⟩⟩
      obtain ⟨g, rs', r'⟩ := new_tup hl rs h2
      exact q _ _ g rs' r'
  · cases e
theorem b_lst (hK : X.K = S.K) : CallR X (.type "list") (rB S bLst) := by
  refine CallR.imp (CallR.frz call_list_of) fun vs H Q h => ?_
  obtain ⟨G, st, ws, w, rfl, rs, rel, e, q⟩ := h
  unfold bLst at e
  split at e
  · obtain ⟨v, rfl, r⟩ := rels1 rel
    simp only [Option.map_eq_some_iff] at e
    obtain ⟨xs, e1, rfl⟩ := e
    obtain ⟨p, ys, rfl, h1, h2⟩ := seq_of rs r e1
    rw [← hK] at h1
    refine ⟨p, ys, rfl, h1.symm, fun l hl => ⟨l, ys, rfl, upd_same, fun o => ?_⟩⟩
    rw [upd_upd]
    obtain ⟨g, rs', r'⟩ := new_lst (o := o) hl rs h2
    exact q _ _ g rs' r'
  · cases e
theorem b_srt (hK : X.K = S.K) (hu : X.A.units + 65 < cLine) : CallR X (.builtin "sorted") (rB S bSrt) := by
  refine CallR.imp (CallR.frz (cr_srt hK hu)) fun vs H Q h => ?_
  obtain ⟨G, st, ws, w, rfl, rs, rel, e, q⟩ := h
  unfold bSrt at e
  split at e
  · obtain ⟨v, rfl, r⟩ := rels1 rel
    simp only [Option.bind_eq_some_iff, Option.map_eq_some_iff] at e
    obtain ⟨xs, e1, ys, e2, rfl⟩ := e
    obtain ⟨a, zs, rfl, h1, h2⟩ := seq_of rs r e1
    unfold srtW at e2
    split at e2
    · rename_i ok
      cases e2
      refine ⟨a, zs, G, xs, rfl, rfl, h1, h2, ok, fun us l hr hl => ⟨l, us, rfl, upd_same, fun o => ?_⟩⟩
      rw [upd_upd]
      obtain ⟨g, rs', r'⟩ := new_lst (o := o) hl rs hr
      exact q _ _ g rs' r'
    · cases e2
  · cases e
/-- repr(x) of data -/
def rRepr (S : Sta) : List V → Hp → VK → Prop := fun vs H Q => ∃ a d, vs = [.ref a] ∧ Dp S.K H (.ref a) d ∧ d.showable = true ∧ d.hasDict = false ∧ d.depth ≤ 60 ∧ d.shown.length ≤ sizeLine ∧ Q (.str d.shown) H
theorem cr_repr (hK : X.K = S.K) (hu : X.A.units + 65 < cLine) (hg : X.A.guards = some []) : CallR X (.builtin "repr") (rRepr S) := by
  intro pins s σ H vs us Q I r h
  obtain ⟨a, d, rfl, hd, k1, k2, k3, k4, q⟩ := h
  rw [← hK] at hd
  rw [Vals.ref1 r]
  obtain ⟨as, rd⟩ := Dp.reads I _ _ _ hd rfl
  refine repr_of_reads' (h₀ := s.heap) rd k1 (PyData.noDict_hsm k2) hg (by omega) (fun _ _ e => e) (fun h' u tk hk => ⟨.str d.shown, H, I.kept hk, ⟨u, rfl⟩, q⟩) k4
mutual
theorem noDict : ∀ w : W, w.toD.hasDict = false
  | .non => rfl | .bl _ => rfl | .int _ => rfl | .str _ => rfl
  | .tup xs => by simp only [W.toD, PyData.hasDict]; exact noDicts xs
  | .lst xs => by simp only [W.toD, PyData.hasDict]; exact noDicts xs
  | .dic _ _ => rfl | .obj _ _ _ => rfl | .ref _ => rfl | .glo _ => rfl | .ty _ => rfl | .clo _ _ => rfl
theorem noDicts : ∀ ws : List W, PyData.hasDictAll (toDs ws) = false
  | [] => rfl
  | w :: ws => by simp only [toDs, PyData.hasDictAll, noDict w, noDicts ws, Bool.or_self]
end
theorem flat_dep {w : W} (h : w.flat = true) : w.dep ≤ 60 := by
  unfold W.flat at h
  simp only [Bool.and_eq_true, decide_eq_true_eq] at h
  exact h.2
theorem b_repr (hK : X.K = S.K) (hu : X.A.units + 65 < cLine) (hg : X.A.guards = some []) : CallR X (.builtin "repr") (rB S bReprS) := by
  refine CallR.imp (cr_repr hK hu hg) fun vs H Q h => ?_
  obtain ⟨G, st, ws, w, rfl, rs, rel, e, q⟩ := h
  unfold bReprS at e
  split at e
  · rename_i a
    obtain ⟨v, rfl, r⟩ := rels1 rel
    split at e
    · rename_i hsq
      simp only [Option.map_eq_some_iff] at e
      obtain ⟨x, e1, rfl⟩ := e
      unfold shwW at e1
      split at e1
      · rename_i hh
        obtain ⟨h1, h2, h3⟩ := hh
        cases e1
        have hd := dpv_of rs r (flat_D h1)
        have hv : ∃ p, v = .ref p := by
          cases hz : valW a st with
          | tup xs => rw [hz] at hd; simp only [W.toD] at hd; cases hd; exact ⟨_, rfl⟩
          | lst xs => rw [hz] at hd; simp only [W.toD] at hd; cases hd <;> exact ⟨_, rfl⟩
          | _ => rw [hz] at hsq; cases hsq
        obtain ⟨p, rfl⟩ := hv
        refine ⟨p, _, rfl, hd, h2, noDict _, by rw [dep_of]; exact flat_dep h1, by rw [← SZ_eq]; exact h3, q G _ (Grow.refl G) rs (by simp only [RelW])⟩
      · cases e1
    · cases e
  · cases e

/-! ### new lists -/
def rBL (S : Sta) (F : List W → St → Option (List W)) : List V → Hp → VK → Prop := fun vs H Q => ∃ G st ws us, G.H = H ∧ RelSt S G st ∧ RelWs S G vs ws ∧ F ws st = some us ∧ ∀ p vs, G.H p = none → RelWs S G vs us → Q (.ref p) (upd G.H p (.lst vs))
theorem bl_lst (hK : X.K = S.K) : CallR X (.type "list") (rBL S (bLC .list)) := by
  refine CallR.imp call_list_of fun vs H Q h => ?_
  obtain ⟨G, st, ws, us, rfl, rs, rel, e, q⟩ := h
  unfold bLC at e
  split at e
  · rename_i w h1 h2
    obtain ⟨v, rfl, r⟩ := rels1 rel
    obtain ⟨p, ys, rfl, h1, h2⟩ := seq_of rs r e
    rw [← hK] at h1
    exact ⟨p, ys, rfl, h1.symm, fun l hl => q l ys hl h2⟩
  · rename_i h; cases h
  · cases e
theorem bl_srt (hK : X.K = S.K) (hu : X.A.units + 65 < cLine) : CallR X (.builtin "sorted") (rBL S (bLC .sorted)) := by
  refine CallR.imp (cr_srt hK hu) fun vs H Q h => ?_
  obtain ⟨G, st, ws, us, rfl, rs, rel, e, q⟩ := h
  unfold bLC at e
  split at e
  · rename_i h; cases h
  · obtain ⟨v, rfl, r⟩ := rels1 rel
    simp only [Option.bind_eq_some_iff] at e
    obtain ⟨xs, e1, e2⟩ := e
    obtain ⟨a, zs, rfl, h1, h2⟩ := seq_of rs r e1
    unfold srtW at e2
    split at e2
    · rename_i ok
      cases e2
      exact ⟨a, zs, G, xs, rfl, rfl, h1, h2, ok, fun us l hr hl => q l us hl hr⟩
    · cases e2
  · cases e

/-! ### the expression -/
variable {Wx : WX} {pos p : Pos} {x : Str} {e : Expr} {es : List Expr} {fs : Ρ → M (List W)} {F : List W → St → Option W} {id T : String}
theorem tCB_of {σ : Sl} {H : Hp} {Q : VK} (h : tE S Wx (fun ρ => do let ws ← fs ρ; M.lift (F ws (← M.get))) σ H Q) : tCB (rB S F) (tA S Wx fs) σ H Q := by
  obtain ⟨G, ρ, st, a, fi⟩ := h
  unfold tCB
  refine bindA a fi fun xs H1 G1 ws st1 a1 g1 r1 f1 => ?_
  obtain ⟨w, ew, q⟩ := Fin.lift1 (o := F ws st1) f1
  exact ⟨G1, st1, ws, w, a1.hp, a1.st, r1, ew, fun G' v g rs r => q G' g rs v r⟩
theorem tCBL_of {F : List W → St → Option (List W)} {σ : Sl} {H : Hp} {Q : VK} (h : tL S Wx (fun ρ => do let ws ← fs ρ; M.lift (F ws (← M.get))) σ H Q) : tCB (rBL S F) (tA S Wx fs) σ H Q := by
  obtain ⟨G, ρ, st, a, fi⟩ := h
  unfold tCB
  refine bindA a fi fun xs H1 G1 ws st1 a1 g1 r1 f1 => ?_
  obtain ⟨us, ew, q⟩ := Fin.lift1 (o := F ws st1) f1
  exact ⟨G1, st1, ws, us, a1.hp, a1.st, r1, ew, fun p vs n r => q G1 (Grow.refl G1) a1.st p vs n r⟩
theorem l_bi {F : List W → St → Option (List W)} (hc : CallR X (.builtin id) (rBL S F)) (hg : Gl X x) (hm : X.mg x = none) (hv : bootBuiltins x = some (.builtin id)) (ha : PA X (e :: es) (tA S Wx fs)) (hn : x ≠ "__name__") (hdb : (x == ("__debug__" : Str)) = false)
    (he : starEach (e :: es) X.env = (false, eval e X.env) :: starEach es X.env) (hpl : (backTo pos (starEach es X.env)).any (·.1) = false) :
    PE X (.Call (.Name x p) (e :: es) [] pos) (tL S Wx (fun ρ => do let ws ← fs ρ; M.lift (F ws (← M.get)))) := (pe_callB hc hg hm hv ha hn hdb he hpl).impW fun σ H Q h => tCBL_of h
theorem l_bt {F : List W → St → Option (List W)} (hc : CallR X (.type T) (rBL S F)) (hg : Gl X x) (hm : X.mg x = none) (hv : bootBuiltins x = some (.type T)) (ha : PA X (e :: es) (tA S Wx fs)) (hn : x ≠ "__name__") (hdb : (x == ("__debug__" : Str)) = false)
    (he : starEach (e :: es) X.env = (false, eval e X.env) :: starEach es X.env) (hpl : (backTo pos (starEach es X.env)).any (·.1) = false) :
    PE X (.Call (.Name x p) (e :: es) [] pos) (tL S Wx (fun ρ => do let ws ← fs ρ; M.lift (F ws (← M.get)))) := (pe_callTy hc hg hm hv ha hn hdb he hpl).impW fun σ H Q h => tCBL_of h
theorem s_bi (hc : CallR X (.builtin id) (rB S F)) (hg : Gl X x) (hm : X.mg x = none) (hv : bootBuiltins x = some (.builtin id)) (ha : PA X (e :: es) (tA S Wx fs)) (hn : x ≠ "__name__") (hdb : (x == ("__debug__" : Str)) = false)
    (he : starEach (e :: es) X.env = (false, eval e X.env) :: starEach es X.env) (hpl : (backTo pos (starEach es X.env)).any (·.1) = false) :
    PE X (.Call (.Name x p) (e :: es) [] pos) (tE S Wx (fun ρ => do let ws ← fs ρ; M.lift (F ws (← M.get)))) := (pe_callB hc hg hm hv ha hn hdb he hpl).impW fun σ H Q h => tCB_of h
theorem s_bt (hc : CallR X (.type T) (rB S F)) (hg : Gl X x) (hm : X.mg x = none) (hv : bootBuiltins x = some (.type T)) (ha : PA X (e :: es) (tA S Wx fs)) (hn : x ≠ "__name__") (hdb : (x == ("__debug__" : Str)) = false)
    (he : starEach (e :: es) X.env = (false, eval e X.env) :: starEach es X.env) (hpl : (backTo pos (starEach es X.env)).any (·.1) = false) :
    PE X (.Call (.Name x p) (e :: es) [] pos) (tE S Wx (fun ρ => do let ws ← fs ρ; M.lift (F ws (← M.get)))) := (pe_callTy hc hg hm hv ha hn hdb he hpl).impW fun σ H Q h => tCB_of h
end
end Pf

/-! part P103 -/
set_option Elab.async false
set_option linter.all false
set_option maxRecDepth 100000
set_option autoImplicit false
set_option maxHeartbeats 4000000
/-! sorted(set(..)), len(set(..)). -/
namespace Pf
open PySem PySem.Spec PySem.SeqAt PyProof.Rows PySem.W L2

def wK : Key → Pf.W
  | .inl i => .int i
  | .inr x => .str x
def kD : Key → PyData
  | .inl i => .int i
  | .inr x => .str x
theorem wK_toD (k : Key) : (wK k).toD = kD k := by cases k <;> rfl
theorem wK_inj {a b : Key} (h : wK a = wK b) : a = b := by
  cases a <;> cases b <;> simp [wK] at h <;> rw [h]
theorem mem_wK {ls : List Key} {k : Key} : wK k ∈ ls.map wK ↔ k ∈ ls := by
  rw [List.mem_map]
  exact ⟨fun ⟨j, h, e⟩ => wK_inj e ▸ h, fun h => ⟨k, h, rfl⟩⟩
theorem nodup_wK {ls : List Key} (h : ls.Nodup) : (ls.map wK).Nodup := List.pairwise_map.mpr (h.imp fun n e => n (wK_inj e))
theorem keys_of {S : Sta} {G : Wd} : ∀ {ws : List Pf.W} {vs : List V}, ws.all isKW = true → RelWs S G vs ws → ∃ ls : List Key, ws = ls.map wK ∧ vs = ls.map kV
  | [], vs, _, r => by
    simp only [RelWs] at r
    exact ⟨[], rfl, r⟩
  | w :: ws, vs, h, r => by
    rw [List.all_cons, Bool.and_eq_true] at h
    simp only [RelWs] at r
    obtain ⟨v, q, rfl, r1, r2⟩ := r
    obtain ⟨ls, e1, e2⟩ := keys_of h.2 r2
    cases w with
    | int i =>
      simp only [RelW] at r1
      exact ⟨.inl i :: ls, by rw [e1]; rfl, by rw [e2, r1]; rfl⟩
    | str x =>
      simp only [RelW] at r1
      exact ⟨.inr x :: ls, by rw [e1]; rfl, by rw [e2, r1]; rfl⟩
    | _ => cases h.1
theorem dedW_mem {w : Pf.W} : ∀ {ws : List Pf.W}, w ∈ dedW ws ↔ w ∈ ws
  | [] => by simp [dedW]
  | u :: ws => by
    unfold dedW
    by_cases h : ws.any (W.beq u) = true
    · rw [if_pos h, dedW_mem, List.mem_cons]
      refine ⟨.inr, fun z => z.elim (fun e => ?_) id⟩
      obtain ⟨x, hx, e2⟩ := List.any_eq_true.mp h
      rw [e, (W.beq_iff u x).mp e2]; exact hx
    · rw [if_neg h, List.mem_cons, dedW_mem, List.mem_cons]
theorem dedW_nodup : ∀ ws : List Pf.W, (dedW ws).Nodup
  | [] => List.nodup_nil
  | u :: ws => by
    unfold dedW
    by_cases h : ws.any (W.beq u) = true
    · rw [if_pos h]; exact dedW_nodup ws
    · rw [if_neg h]
      refine List.nodup_cons.mpr ⟨fun z => h (List.any_eq_true.mpr ⟨u, dedW_mem.mp z, (W.beq_iff u u).mpr rfl⟩), dedW_nodup ws⟩
theorem dedW_perm {ls ks : List Key} (nd : ks.Nodup) (h : ∀ k, k ∈ ks ↔ k ∈ ls) : (ks.map wK).Perm (dedW (ls.map wK)) := by
  refine (List.perm_ext_iff_of_nodup (nodup_wK nd) (dedW_nodup _)).mpr fun w => ?_
  rw [dedW_mem, List.mem_map, List.mem_map]
  exact ⟨fun ⟨k, hk, e⟩ => ⟨k, (h k).mp hk, e⟩, fun ⟨k, hk, e⟩ => ⟨k, (h k).mpr hk, e⟩⟩
/-! ### order -/
theorem leW_total (a b : Pf.W) : (leW a b || leW b a) = true := by
  have := (sortLe_total (listOrd itemOrd) false (fun b : Pf.W => keyToks b.toD)).total a b
  rw [Bool.or_eq_true]; exact this
theorem leW_trans (a b c : Pf.W) (h1 : leW a b = true) (h2 : leW b c = true) : leW a c = true := (sortLe_total (listOrd itemOrd) false (fun b : Pf.W => keyToks b.toD)).trans a b c h1 h2
theorem leW_antisymm {a b : Key} (hal : alikeW (wK a) (wK b) = true) (h1 : leW (wK a) (wK b) = true) (h2 : leW (wK b) (wK a) = true) : wK a = wK b := by
  cases a with
  | inl i =>
    cases b with
    | inl j =>
      have e1 : (!dataLt (.int j) (.int i)) = true := h1
      have e2 : (!dataLt (.int i) (.int j)) = true := h2
      rw [dataLt_int, Bool.not_eq_true', decide_eq_false_iff_not] at e1 e2
      show Pf.W.int i = .int j
      rw [show i = j by omega]
    | inr y => exact absurd hal (by show ¬ PySem.W.alike (.int i) (.str y) = true; simp [PySem.W.alike])
  | inr x =>
    cases b with
    | inl j => exact absurd hal (by show ¬ PySem.W.alike (.str x) (.int j) = true; simp [PySem.W.alike])
    | inr y =>
      have e1 : (!dataLt (.str y) (.str x)) = true := h1
      have e2 : (!dataLt (.str x) (.str y)) = true := h2
      rw [dataLt_str, Bool.not_eq_true', decide_eq_false_iff_not] at e1 e2
      have e : x.cps.toList = y.cps.toList := List.le_antisymm (List.not_lt.mp e1) (List.not_lt.mp e2)
      have : x = y := by
        cases x; cases y
        simp only [Str.mk.injEq]
        exact Array.toList_inj.mp e
      rw [this]
theorem sort_keys {ks : List Key} {ws : List Pf.W} (hp : (ks.map wK).Perm ws) (hok : srtOk ws = true) : (ks.map wK).mergeSort leW = ws.mergeSort leW := by
  unfold srtOk at hok
  simp only [Bool.and_eq_true] at hok
  have hal := hok.1.2
  refine List.Perm.eq_of_pairwise (le := fun a b => leW a b = true) (fun a b ha hb h1 h2 => ?_) (List.pairwise_mergeSort leW_trans leW_total _) (List.pairwise_mergeSort leW_trans leW_total _) ((List.mergeSort_perm _ _).trans (hp.trans (List.mergeSort_perm _ _).symm))
  have ma : a ∈ ks.map wK := List.mem_mergeSort.mp ha
  have mb : b ∈ ks.map wK := hp.mem_iff.mpr (List.mem_mergeSort.mp hb)
  have al := List.all_eq_true.mp (List.all_eq_true.mp hal a (hp.mem_iff.mp ma)) b (hp.mem_iff.mp mb)
  obtain ⟨i, _, rfl⟩ := List.mem_map.mp ma
  obtain ⟨j, _, rfl⟩ := List.mem_map.mp mb
  exact leW_antisymm al h1 h2
theorem kD_sort (ks : List Key) : (ks.mergeSort (dataLe false kD)).map wK = (ks.map wK).mergeSort leW := List.map_mergeSort fun a _ b _ => by
  show (!dataLt (kD b) (kD a)) = (!dataLt (wK b).toD (wK a).toD)
  rw [wK_toD, wK_toD]
/-! ### the model's sorted over a set -/
section
variable {P : Program} {w : World} {A : Around} {E : Value → Shared → Prop} {s : Shared}
theorem rel_is {k : Key} {v : Value} (h : (mixKind P w).is k v = true) : RelV (kV k) v := by
  rcases keyIs_shape h with ⟨i, t, rfl, rfl⟩ | ⟨x, t, rfl, rfl⟩ <;> exact ⟨t, rfl⟩
theorem vals_is : ∀ {us : List Value} {ks : List Key}, EachIs (fun v k => (mixKind P w).is k v = true) us ks → Vals (ks.map kV) us
  | _, _, .nil => .nil
  | _, _, .cons h t => .cons (rel_is h) (vals_is t)
theorem is_vals : ∀ {us : List Value} {ks : List Key}, Vals (ks.map kV) us → EachIs (fun v k => (mixKind P w).is k v = true) us ks
  | us, [], r => by cases r; exact .nil
  | us, k :: ks, r => by
    rw [List.map_cons] at r
    cases r with
    | cons h t => exact .cons (kV_is h) (is_vals t)
theorem is_reads {h : Heap} {k : Key} {v : Value} (q : (mixKind P w).is k v = true) : ∃ as, Reads h v (kD k) as := by
  rcases keyIs_shape q with ⟨i, t, rfl, rfl⟩ | ⟨x, t, rfl, rfl⟩
  · exact ⟨_, .int i t⟩
  · exact ⟨_, .str x t⟩
theorem each_self : ∀ {us : List Value}, (∀ v ∈ us, (mixKind P w).is (kyM v) v = true) → EachIs (fun v k => (mixKind P w).is k v = true) us (us.map kyM)
  | [], _ => .nil
  | v :: us, h => .cons (h v List.mem_cons_self) (each_self fun u hu => h u (List.mem_cons_of_mem _ hu))
theorem sorted_setM {a : Addr} {ks : List Key} {Q : Value → Shared → Prop} (R : SetM P w s.heap a ks) (hh : A.handled = none) (hal : AllAlike (ks.map kD)) (hu : A.units + 10 < cLine)
    (hQ : ∀ s' p (out : List Value) c (ks' : List Key), (∀ b o, s.heap.get? b = some o → s'.heap.get? b = some o) → s'.gens = s.gens → s'.os = s.os → s.heap.objs.size ≤ p → s'.heap.get? p = some (seqObj "list" out.toArray c) → ks'.Perm ks → EachIs (fun v k => (mixKind P w).is k v = true) out (ks'.mergeSort (dataLe false kD)) → Q (.ref p) s') :
    wpAny (model P w) A (call (.builtin "sorted") [.ref a]) Q E s := by
  obtain ⟨o, fs, ep, t, ho, hx, hd, g, hk, nd, hb, hf, hr, hl⟩ := R
  have hlen : fs.size = ks.length := by rw [← hk, List.length_map, Array.length_toList]
  refine Calls.call_function_entry kind_sorted plain_sorted entry_sorted (args_sorted1 _) ?_
  unfold Builtin.«sorted»
  refine wpAny_bind (m := checkCount "sorted" 1 1 _) (wpAny_pure (wpAny_bind (collect_set (A := A.in1) hh ⟨o, ho, hx.1, hd⟩ hf (by rw [hlen]; exact hb) hr hl fun s1 vs k1 hz g1 o1 pm => ?_)))
  have pk : (vs.map kyM).Perm ks := by
    have q := pm.map kyM
    rw [List.map_map] at q
    rw [← hk]; exact q
  have e0 : EachIs (fun v k => (mixKind P w).is k v = true) vs (vs.map kyM) := each_self fun v hv => by
    obtain ⟨e, he, q⟩ := List.mem_map.mp (pm.mem_iff.mp hv)
    rw [← q]; exact (g e he).1
  have hvl : vs.length ≤ sizeLine := by rw [pm.length_eq, List.length_map, Array.length_toList, hlen]; exact fits_of_scanBound hb
  have hal' : AllAlike ((vs.map kyM).map kD) := fun d hd d' hd' => hal d ((pk.map kD).mem_iff.mp hd) d' ((pk.map kD).mem_iff.mp hd')
  refine wpAny_bind (wpAny_newList ?_ hvl)
  have hoL : (s1.heap.push (seqObj "list" vs.toArray 0)).get? s1.heap.objs.size = some (seqObj "list" vs.toArray 0) := Heap.get?_push_size _ rfl
  have er : EachIs (fun v (k : Key) => ∃ as, Reads (sortingHeap (s1.heap.push (seqObj "list" vs.toArray 0)) s1.heap.objs.size vs) v (kD k) as) vs (vs.map kyM) := e0.mono fun v k q => is_reads q
  have dep : ∀ k : Key, (kD k).depth ≤ 1 := fun k => by cases k <;> simp [kD, PyData.depth]
  have srt : SortsAt P w A.in1.in1 { s1 with heap := sortingHeap (s1.heap.push (seqObj "list" vs.toArray 0)) s1.heap.objs.size vs } (dataKind (sortingHeap (s1.heap.push (seqObj "list" vs.toArray 0)) s1.heap.objs.size vs) ((vs.map kyM).map kD)) vs := by
    refine SortsAt.any (s := { s1 with heap := sortingHeap (s1.heap.push (seqObj "list" vs.toArray 0)) s1.heap.objs.size vs }) (each_map (R := fun v d => ∃ as, Reads (sortingHeap (s1.heap.push (seqObj "list" vs.toArray 0)) s1.heap.objs.size vs) v d as) kD er) hal' (.inr fun d hd => ?_) fun d hd => ?_
    · obtain ⟨k, _, rfl⟩ := List.mem_map.mp hd
      cases k <;> exact ⟨(fun z => nomatch z), fun _ z => nomatch z⟩
    · obtain ⟨k, _, rfl⟩ := List.mem_map.mp hd
      have := dep k
      show A.units + 1 + 1 + _ < cLine
      omega
  refine wpAny_bind (wpAny_holding (wpAny_call_entry slot_list_sort ⟨_, hoL, rfl⟩ entry_list_sort (list_sort_vals (s := { s1 with heap := s1.heap.push (seqObj "list" vs.toArray 0) }) hoL srt hvl ⟨_, rfl, ?_⟩) (args_list_sort _)))
  obtain ⟨c, hc⟩ := sortedHeap_at (vs := vs) (out := (sortVals (dataKind (sortingHeap (s1.heap.push (seqObj "list" vs.toArray 0)) s1.heap.objs.size vs) ((vs.map kyM).map kD)) false vs vs).toArray) hoL
  refine wpAny_pure ⟨_, rfl, hQ _ s1.heap.objs.size _ c (vs.map kyM) (fun b u e => ?_) g1 o1 hz hc pk (sortVals_data false e0 er hal')⟩
  have q := k1 b u e
  have hlt := Heap.lt_size q
  show (sortedHeap (s1.heap.push (seqObj "list" vs.toArray 0)) s1.heap.objs.size vs _).get? b = some u
  rw [sortedHeap_old (Nat.ne_of_lt hlt) (by rw [size_push']; exact Nat.lt_succ_of_lt hlt)]
  exact Heap.get?_push_of_some _ q
end
/-! ### over the layer -/
abbrev SetMO (P : Program) (w : World) (a : Addr) (ks : List Key) : HO := .ext fun h => SetM P w h a ks
theorem setMO_new {P : Program} {w : World} {H : Hp} {h : Heap} {a : Addr} {ks : List Key} (R : SetM P w h a ks) : ObjOk P w H h a (SetMO P w a ks) := by
  have ⟨o, _, _, _, ho, _⟩ := R
  exact ⟨R, ⟨o, ho⟩, fun h1 h2 p k => SetM.keep p k⟩
def rSetM (K : PySem.W.Frag) (P : Program) (w : World) : List V → Hp → VK → Prop := fun vs H Q => ∃ (a : Addr) (ls : List Key), vs = [V.ref a] ∧ (SqT K H a (ls.map kV) ∨ SqL K H a (ls.map kV)) ∧ ls.length ≤ 1000 ∧
  ∀ p ks, H p = none → ks.Nodup → (∀ k, k ∈ ks ↔ k ∈ ls) → Q (.ref p) (upd H p (SetMO P w p ks))
def rSrtM (P : Program) (w : World) : List V → Hp → VK → Prop := fun vs H Q => ∃ (a : Addr) (ks : List Key), vs = [V.ref a] ∧ H a = some (SetMO P w a ks) ∧ AllAlike (ks.map kD) ∧
  ∀ (p : Addr) (ks' : List Key), H p = none → ks'.Perm ks → Q (.ref p) (upd H p (.lst ((ks'.mergeSort (dataLe false kD)).map kV)))
def rLenM (P : Program) (w : World) : List V → Hp → VK → Prop := fun vs H Q => ∃ (a : Addr) (ks : List Key), vs = [V.ref a] ∧ H a = some (SetMO P w a ks) ∧ Q (.int (ks.length : Nat)) H
section
variable {X : Cx}
theorem cr_setM (hc : X.calm = true) : CallR X (.type "set") (rSetM X.K X.prog X.w) := by
  intro pins s σ H vs us Q I r h
  obtain ⟨a, ls, rfl, hq, hl, q⟩ := h
  rw [Vals.ref1 r]
  have hb : ls.length + 1 < scanBound := by unfold scanBound; omega
  have fin : ∀ (h' : Heap) (tk : Nat) (ks : List Key), SetM X.prog X.w h' s.heap.objs.size ks → (∀ k, k ∈ ks ↔ k ∈ ls) → (∀ b o, s.heap.get? b = some o → h'.get? b = some o) → EP X pins σ Q (.ref s.heap.objs.size) { s with heap := h', toks := tk } := fun h' tk ks R m k => by
    have nd : ks.Nodup := by obtain ⟨_, _, _, _, _, _, _, _, _, nd, _⟩ := R; exact nd
    exact ⟨.ref s.heap.objs.size, upd H s.heap.objs.size (SetMO X.prog X.w s.heap.objs.size ks), I.laid (t' := tk) k (Nat.le_refl _) (setMO_new R), rfl, q _ ks (I.hok.fresh (Nat.le_refl _)) nd m⟩
  rcases hq with hq | hq
  · obtain ⟨its, rv, pl, hz⟩ := I.tuple hq
    exact call_setM_tuple ls (I.ok.hd hc) pl (by simpa using is_vals rv) hb fin
  · obtain ⟨its, rv, pl, hz⟩ := I.list hq
    exact call_setM_list ls (I.ok.hd hc) pl.isList (by simpa using is_vals rv) hb fin
theorem cr_srtM (hc : X.calm = true) (hu : X.A.units + 65 < cLine) : CallR X (.builtin "sorted") (rSrtM X.prog X.w) := by
  intro pins s σ H vs us Q I r h
  obtain ⟨a, ks, rfl, ha, hal, q⟩ := h
  have R : SetM X.prog X.w s.heap a ks := (I.hok a _ ha).1
  rw [Vals.ref1 r]
  refine sorted_setM R (I.ok.hd hc) hal (by omega) fun s' p out c ks' k g o hp hg pm ev => ?_
  have hlen : ((ks'.mergeSort (dataLe false kD)).map kV).length ≤ sizeLine := by
    have hb : ks.length < scanBound := by obtain ⟨_, _, _, _, _, _, _, _, _, _, hb, _⟩ := R; exact hb
    rw [List.length_map, List.length_mergeSort, pm.length_eq]
    exact fits_of_scanBound hb
  have hn : H p = none := I.hok.fresh hp
  have J : Inv X pins σ (upd H p (.lst ((ks'.mergeSort (dataLe false kD)).map kV))) s' :=
    I.call' (ch := []) o (Un.laid k hp hn) (I.hok.laid k hp ⟨hlen, out, c, vals_is ev, hg⟩) (by rw [g]; exact I.bare) (fun _ z => nomatch z)
  exact ⟨.ref p, _, J, rfl, q p ks' hn pm⟩
theorem cr_lenM : CallR X (.builtin "len") (rLenM X.prog X.w) := by
  intro pins s σ H vs us Q I r h
  obtain ⟨a, ks, rfl, ha, q⟩ := h
  have R : SetM X.prog X.w s.heap a ks := (I.hok a _ ha).1
  rw [Vals.ref1 r]
  obtain ⟨o, fs, ep, t, ho, hx, hd, g, hk, nd, hb, hf, hr, hl⟩ := R
  have hlen : fs.size = ks.length := by rw [← hk, List.length_map, Array.length_toList]
  refine call_len_set ho hx hd hf (by rw [hlen]; unfold scanBound at hb; omega) ⟨.int (ks.length : Nat), H, I.tok _, ⟨_, by rw [hlen]⟩, q⟩
end
section
variable {S : Sta} {X : Cx} {Wx : WX} {e : Expr} {fs : Ρ → M (List Pf.W)} {x : Str} {p p2 q2 pos : Pos}
theorem alike_of {ks : List Key} {ws : List Pf.W} (hp : (ks.map wK).Perm ws) (hok : srtOk ws = true) : AllAlike (ks.map kD) := by
  unfold srtOk at hok
  simp only [Bool.and_eq_true] at hok
  intro d hd d' hd'
  obtain ⟨i, hi, rfl⟩ := List.mem_map.mp hd
  obtain ⟨j, hj, rfl⟩ := List.mem_map.mp hd'
  have := List.all_eq_true.mp (List.all_eq_true.mp hok.1.2 (wK i) (hp.mem_iff.mp (mem_wK.mpr hi))) (wK j) (hp.mem_iff.mp (mem_wK.mpr hj))
  unfold alikeW at this
  rw [wK_toD, wK_toD] at this
  exact this
theorem relWs_keys {G : Wd} : ∀ ks : List Key, RelWs S G (ks.map kV) (ks.map wK)
  | [] => RelWs.nil
  | k :: ks => RelWs.cons (by cases k <;> simp only [wK, kV, RelW]) (relWs_keys ks)
/-- a set's reading -/
theorem tSet_of {F : List Pf.W → St → Option Pf.W} (hK : X.K = S.K) (g : Pf.W → List Pf.W → Option Pf.W) {σ : Sl} {H : Hp} {Q : VK} (hF : ∀ ws st r, F ws st = some r → ∃ w xs, ws = [w] ∧ setW w st = some xs ∧ g w xs = some r) (r2 : List V → Hp → VK → Prop)
    (h2 : ∀ (G1 : Wd) (st1 : St) (p : Addr) (ks ls : List Key) (w r : Pf.W), RelSt S G1 st1 → G1.H p = none → ks.Nodup → (∀ k, k ∈ ks ↔ k ∈ ls) → g w (dedW (ls.map wK)) = some r → (∀ G' v, Grow G1 G' → RelSt S G' st1 → RelW S G' v r → Q v G'.H) → r2 [.ref p] (upd G1.H p (SetMO X.prog X.w p ks)) Q)
    (h : tE S Wx (fun ρ => do let ws ← fs ρ; M.lift (F ws (← M.get))) σ H Q) : tCB r2 (tCons (tCB (rSetM X.K X.prog X.w) (tA S Wx fs)) tNil) σ H Q := by
  obtain ⟨G, ρ, st, a, fi⟩ := h
  unfold tCB tCons
  refine bindA a fi fun xs H1 G1 ws st1 a1 g1 r1 f1 => ?_
  obtain ⟨w, ew, q⟩ := Fin.lift1 (o := F ws st1) f1
  obtain ⟨u, ys, rfl, e1, e2⟩ := hF _ _ _ ew
  obtain ⟨v, rfl, rv⟩ := rels1 r1
  unfold setW at e1
  simp only [Option.bind_eq_some_iff] at e1
  obtain ⟨zs, e3, e4⟩ := e1
  split at e4
  · rename_i hh
    cases e4
    obtain ⟨b, vs, rfl, hq, hr⟩ := seq_of a1.st rv e3
    obtain ⟨ls, rfl, rfl⟩ := keys_of hh.1 hr
    rw [hK, ← a1.hp]
    refine ⟨b, ls, rfl, hq, by simpa using hh.2, fun p ks hn nd m => ?_⟩
    show r2 [.ref p] _ Q
    exact h2 G1 st1 p ks ls u w a1.st hn nd m e2 fun G' v gr rs' rr => q G' gr rs' v rr
  · cases e4
theorem s_sset (hK : X.K = S.K) (hc : X.calm = true) (hu : X.A.units + 65 < cLine) (hg : Gl X "sorted") (hm : X.mg "sorted" = none) (hg2 : Gl X "set") (hm2 : X.mg "set" = none) (ha : PA X [e] (tA S Wx fs)) (hs : starEach [e] X.env = (false, eval e X.env) :: starEach [] X.env) :
    PE X (.Call (.Name "sorted" p) [.Call (.Name "set" p2) [e] [] q2] [] pos) (tE S Wx (fun ρ => do let ws ← fs ρ; M.lift (biW .sset ws (← M.get)))) := by
  have inner : PE X (.Call (.Name "set" p2) [e] [] q2) (tCB (rSetM X.K X.prog X.w) (tA S Wx fs)) := pe_callTy (cr_setM hc) hg2 hm2 (by decide +kernel) ha (by decide) (by decide) hs rfl
  have outer := pe_callB (p := p) (pos := pos) (CallR.frz (cr_srtM hc hu)) hg hm (by decide +kernel) (pa_cons inner pa_nil rfl) (by decide) (by decide) rfl rfl
  refine outer.impW fun σ H Q h => ?_
  refine tSet_of hK (fun _ xs => (srtW xs).map .lst) (fun ws st r e => ?_) _ (fun G1 st1 p ks ls w r rs hn nd m e q => ?_) h
  · match ws, e with
    | [w], e =>
      have e : (setW w st).bind (fun xs => (srtW xs).map W.lst) = some r := e
      simp only [Option.bind_eq_some_iff] at e
      obtain ⟨xs, e1, e2⟩ := e
      exact ⟨w, xs, rfl, e1, e2⟩
  · simp only [Option.map_eq_some_iff] at e
    obtain ⟨ys, e1, rfl⟩ := e
    unfold srtW at e1
    split at e1
    · rename_i ok
      cases e1
      have pm0 := dedW_perm nd m
      refine ⟨p, ks, rfl, upd_same, alike_of pm0 ok, fun p' ks' hn' pm => ⟨p', _, rfl, upd_same, fun o => ?_⟩⟩
      rw [upd_upd]
      have pm1 : (ks'.map wK).Perm (dedW (ls.map wK)) := (pm.map wK).trans pm0
      have g1 := Grow.put (G := G1) (o := SetMO X.prog X.w p ks) hn
      have rs1 : RelSt S (G1.put p (SetMO X.prog X.w p ks)) st1 := rs.put hn
      obtain ⟨g2, rs2, rr⟩ := new_lst (G := G1.put p (SetMO X.prog X.w p ks)) (o := o) (p := p') hn' rs1 (relWs_keys (S := S) (ks'.mergeSort (dataLe false kD)))
      refine q _ _ (g1.trans g2) rs2 ?_
      rw [kD_sort, sort_keys pm1 ok] at rr
      exact rr
    · cases e1
theorem s_slen (hK : X.K = S.K) (hc : X.calm = true) (hg : Gl X "len") (hm : X.mg "len" = none) (hg2 : Gl X "set") (hm2 : X.mg "set" = none) (ha : PA X [e] (tA S Wx fs)) (hs : starEach [e] X.env = (false, eval e X.env) :: starEach [] X.env) :
    PE X (.Call (.Name "len" p) [.Call (.Name "set" p2) [e] [] q2] [] pos) (tE S Wx (fun ρ => do let ws ← fs ρ; M.lift (biW .slen ws (← M.get)))) := by
  have inner : PE X (.Call (.Name "set" p2) [e] [] q2) (tCB (rSetM X.K X.prog X.w) (tA S Wx fs)) := pe_callTy (cr_setM hc) hg2 hm2 (by decide +kernel) ha (by decide) (by decide) hs rfl
  have outer := pe_callB (p := p) (pos := pos) cr_lenM hg hm (by decide +kernel) (pa_cons inner pa_nil rfl) (by decide) (by decide) rfl rfl
  refine outer.impW fun σ H Q h => ?_
  refine tSet_of hK (fun _ xs => some (.int xs.length)) (fun ws st r e => ?_) _ (fun G1 st1 p ks ls w r rs hn nd m e q => ?_) h
  · match ws, e with
    | [w], e =>
      have e : (setW w st).map (fun (xs : List Pf.W) => W.int xs.length) = some r := e
      simp only [Option.map_eq_some_iff] at e
      obtain ⟨xs, e1, e2⟩ := e
      exact ⟨w, xs, rfl, e1, by rw [e2]⟩
  · cases e
    have pm0 := dedW_perm nd m
    refine ⟨p, ks, rfl, upd_same, ?_⟩
    have g1 := Grow.put (G := G1) (o := SetMO X.prog X.w p ks) hn
    refine q (G1.put p (SetMO X.prog X.w p ks)) _ g1 (rs.put hn) ?_
    simp only [RelW]
    rw [← pm0.length_eq, List.length_map]
end
end Pf

/-! part P14 -/
set_option Elab.async false
set_option linter.all false
set_option maxRecDepth 100000
set_option autoImplicit false
set_option maxHeartbeats 1000000
/-! zip; targets; tests of a clause. -/
namespace Pf
open PySem PySem.Spec PyProof.Rows L2

/-! ### zip(a, b) -/
section
variable {S : Sta} {X : Cx} {Wx : WX} {a b : Expr} {fa fb : Ρ → M W} {tg : Expr} {pos p tpos : Pos}
theorem okg_mono {G0 G : Wd} {gd gd' : Gd} (h : OkG S G0 gd' G) (i : ∀ p ∈ gd, p ∈ gd') : OkG S G0 gd G := by
  obtain ⟨g, st, rs, gk⟩ := h
  exact ⟨g, st, rs, fun p hp => gk p (i p hp)⟩
theorem p_zip {elts : List Expr} {kk : Nat} (hK : X.K = S.K) (hg : Gl X "zip") (hm : X.mg "zip" = none) (ha : PE X a (tE S Wx fa)) (hb : PE X b (tE S Wx fb))
    (h1 : starEach [a, b] X.env = (false, eval a X.env) :: starEach [b] X.env) (h2 : starEach [b] X.env = (false, eval b X.env) :: starEach [] X.env) (hpl : (backTo pos (starEach [b] X.env)).any (·.1) = false) :
    PI X (.Tuple elts kk tpos) (.Call (.Name "zip" p) [a, b] [] pos) (tI S Wx (fun ρ => do
      let x ← fa ρ
      let y ← fb ρ
      M.chk (isTup x == isTup y)
      let xs ← M.lift (seqOf x (← M.get))
      let ys ← M.lift (seqOf y (← M.get))
      pure (zipL xs ys, gdOf x xs ++ gdOf y ys))) := by
  refine ⟨fun pins s σ H R I h => (RZ.pi_zipA hg hm (pa_cons ha (pa_cons hb pa_nil h2) h1) h1 hpl).run pins s σ H R I ?_⟩
  obtain ⟨G, ρ, st, at_, f⟩ := h
  unfold RZ.iZipA tCons
  refine bindE at_ f fun x H1 G1 w1 st1 b1 f1 => ?_
  refine bindE b1.at_ f1 fun y H2 G2 w2 st2 b2 f2 => ?_
  obtain ⟨hz, f3⟩ := Fin.chk f2
  obtain ⟨xs, e1, f4⟩ := Fin.lift (o := seqOf w1 st2) f3
  obtain ⟨ys, e2, f5⟩ := Fin.lift (o := seqOf w2 st2) f4
  have f6 := f5 G2 (Grow.refl G2) b2.at_.st
  have rx := RelW.grow b2.gr _ _ b1.rel
  have ry := b2.rel
  obtain rfl := b2.at_.hp
  rcases seq_cases e1 with h1 | ⟨h1, t1⟩
  · rcases seq_cases e2 with h2 | ⟨h2, t2⟩
    · subst h1 h2
      obtain ⟨p1, q1, k1⟩ := okg_tup (gd := []) rx
      obtain ⟨p2, q2, k2⟩ := okg_tup (gd := []) ry
      obtain ⟨vs, s1, r1⟩ := k1 G2 ⟨(Grow.refl G2).toKeep, st2, b2.at_.st, fun _ z => nomatch z⟩
      obtain ⟨us, s2, r2⟩ := k2 G2 ⟨(Grow.refl G2).toKeep, st2, b2.at_.st, fun _ z => nomatch z⟩
      refine ⟨p1, p2, vs, us, by rw [q1, q2], .inr ⟨hK ▸ s1, hK ▸ s2, f6 _ ?_⟩⟩
      refine walk_itz (at_ := fun G vs => SqT X.K G.H p1 vs) (bt := fun G vs => SqT X.K G.H p2 vs) (by rw [hK]; exact k1) (by rw [hK]; exact k2) (fun i G vs us x y qa qb e e' => ⟨vs, us, x, y, qa, qb, e, e'⟩) (fun G vs us qa qb => ⟨vs, us, qa, qb, by omega⟩) fun i G v H' vs us qa qb yy => ?_
      obtain ⟨T, z, z', y1, y2, y3, y4⟩ := yy
      exact ⟨T, z, z', y1, y2, y3, y4.1 vs qa, y4.2 us qb⟩
    · subst h1; rw [t2] at hz; cases hz
  · rcases seq_cases e2 with h2 | ⟨h2, t2⟩
    · subst h2; rw [t1] at hz; cases hz
    · obtain ⟨p1, q1, k1⟩ := okg_lst (gd := gdOf w1 xs ++ gdOf w2 ys) b2.at_.st rx h1 (fun _ z => List.mem_append_left _ z)
      obtain ⟨p2, q2, k2⟩ := okg_lst (gd := gdOf w1 xs ++ gdOf w2 ys) b2.at_.st ry h2 (fun _ z => List.mem_append_right _ z)
      obtain ⟨p1', vs, q1', s1, r1⟩ := lst_of b2.at_.st rx h1
      obtain ⟨p2', us, q2', s2, r2⟩ := lst_of b2.at_.st ry h2
      have : p1' = p1 := by rw [q1] at q1'; exact (V.ref.inj q1').symm
      subst this
      have : p2' = p2 := by rw [q2] at q2'; exact (V.ref.inj q2').symm
      subst this
      refine ⟨p1', p2', vs, us, by rw [q1, q2], .inl ⟨.inl s1, .inl s2, f6 _ ?_⟩⟩
      refine walk_itz (at_ := fun G vs => SqL X.K G.H p1' vs) (bt := fun G vs => SqL X.K G.H p2' vs) (by rw [hK]; exact k1) (by rw [hK]; exact k2) (fun i G vs us x y qa qb e e' => ⟨vs, us, x, y, qa, qb, e, e'⟩) (fun G vs us qa qb => ⟨vs, us, qa, qb, by omega⟩) fun i G v H' vs us qa qb yy => ?_
      obtain ⟨T, z, z', y1, y2, y3, y4⟩ := yy
      exact ⟨T, z, z', y1, y2, y3, y4.1 vs qa, y4.2 us qb⟩
end

/-! ### targets -/
/-- several targets, one after another -/
def tGs (S : Sta) (is : List Nat) (f : List W → Ρ → M Ρ) : TGs := fun vs σ H Q => ∃ G ρ st ws, At S σ H G ρ st ∧ RelWs S G vs ws ∧
  Fin S Wf σ G (fun ρ' G' _ => ∀ σ' : Sl, RelSl S G' σ' ρ' → σ'.length = σ.length → (∀ i, i ∉ is → σ'[i]? = σ[i]?) → Q σ' G'.H) (f ws ρ st)
section
variable {S : Sta} {X : Cx} {pos : Pos} {e : Expr} {es : List Expr} {is is2 : List Nat} {f : W → Ρ → M Ρ} {g : List W → Ρ → M Ρ}
theorem _root_.L2.PG.impW {X : Cx} {e : Expr} {t t' : TG} (h : PG X e t) (i : ∀ v σ H Q, t' v σ H Q → t v σ H Q) : PG X e t' := ⟨fun pins s σ H v u Q I r q => h.run pins s σ H v u Q I r (i v σ H Q q)⟩
theorem _root_.L2.PGs.impW {X : Cx} {es : List Expr} {t t' : TGs} (h : PGs X es t) (i : ∀ v σ H Q, t' v σ H Q → t v σ H Q) : PGs X es t' := ⟨fun pins s σ H v u Q I r q => h.run pins s σ H v u Q I r (i v σ H Q q)⟩
theorem g_name {i : Nat} {x : Str} (hN : X.N.Nodup) (hi : X.N[i]? = some x) (hx : Loc X.env.scope x) (hf : X.fn x = true ∨ X.env.scope.names.lookup x = some .local) : PG X (.Name x pos) (tG S Wf [i] (fun w ρ => pure (ρ.set i (some w)))) := (pg_name hN hi hx hf).impW fun v σ H Q h => by
  obtain ⟨G, ρ, st, w, a, r, f⟩ := h
  obtain rfl := a.hp
  exact f G (Grow.refl G) a.st (σ.set i (some v)) (a.sl.set i r) (by simp) fun j hj => by
    rw [List.getElem?_set_ne]
    rintro rfl
    exact hj List.mem_cons_self
theorem g_nil : PGs X [] (tGs S [] (fun ws ρ => match ws with | [] => pure ρ | _ :: _ => M.stuck)) := pgs_nil.impW fun v σ H Q h => by
  obtain ⟨G, ρ, st, ws, a, r, f⟩ := h
  cases ws with
  | nil =>
    simp only [RelWs] at r
    obtain rfl := a.hp
    exact ⟨r, f G (Grow.refl G) a.st σ a.sl rfl fun _ _ => rfl⟩
  | cons w ws => exact f.elim
theorem g_cons (h1 : PG X e (tG S Wf is f)) (h2 : PGs X es (tGs S is2 g)) (hs : (assignEach (e :: es) X.env).map (·.2) = assign e X.env :: (assignEach es X.env).map (·.2)) :
    PGs X (e :: es) (tGs S (is ++ is2) (fun ws ρ => match ws with | [] => M.stuck | w :: ws => (do let ρ2 ← f w ρ; g ws ρ2))) := (pgs_cons h1 h2 hs).impW fun v σ H Q h => by
  obtain ⟨G, ρ, st, ws, a, r, fi⟩ := h
  cases ws with
  | nil => exact fi.elim
  | cons w ws =>
    simp only [RelWs] at r
    obtain ⟨x, xs, rfl, r1, r2⟩ := r
    dsimp only at fi
    refine ⟨x, xs, rfl, G, ρ, st, w, a, r1, fi.bind.imp fun ρ2 G1 st1 g1 rs1 f1 σ2 s2 l2 o2 => ?_⟩
    refine ⟨G1, ρ2, st1, ws, ⟨rfl, rs1, s2⟩, RelWs.grow g1 _ _ r2, ?_⟩
    have f1 : Fin S Wf σ G1 _ (g ws ρ2 st1) := f1
    cases e : g ws ρ2 st1 with
    | stuck => rw [e] at f1; exact f1
    | exc c fs xs st2 => rw [e] at f1; exact fun G' C d kvs g' rs k1 k2 k3 k4 => f1 G' C d kvs g' rs k1 k2 k3 k4
    | ok ρ3 st2 =>
      rw [e] at f1
      exact fun G' g' rs σ3 s3 l3 o3 => f1 G' g' rs σ3 s3 (l3.trans l2) fun i hi => (o3 i fun z => hi (List.mem_append_right _ z)).trans (o2 i fun z => hi (List.mem_append_left _ z))
theorem g_tup {k : Nat} (hK : X.K = S.K) (hc : X.calm = true) (h : PGs X es (tGs S is g)) {n : Nat} (hl : es.length = n)
    (hn : (assignEach es X.env).length = es.length) (hst : (assignEach es X.env).findIdx? (·.1) = none) :
    PG X (.Tuple es k pos) (tG S Wf is (fun w ρ => do let xs ← M.lift (seqOf w (← M.get)); M.chk (decide (xs.length = n)); g xs ρ)) := by
  refine ⟨fun pins s σ H v u Q I r h' => ?_⟩
  obtain ⟨G, ρ, st, w, a, rw, f⟩ := h'
  obtain ⟨ws, e, f1⟩ := Fin.lift (o := seqOf w st) f
  obtain ⟨hz, f1⟩ := Fin.chk f1
  rw [decide_eq_true_eq] at hz
  have go : ∀ vs, RelWs S G vs ws → vs.length = es.length ∧ tGs S is g vs σ H Q := fun vs r => ⟨by rw [r.length, hz, hl], G, ρ, st, ws, a, r, f1⟩
  rcases seq_cases e with h1 | ⟨h1, _⟩
  · subst h1
    obtain ⟨p, vs, rfl, s1, r1⟩ := tup_of rw
    obtain ⟨l1, q1⟩ := go vs r1
    refine (pg_tup (n := es.length) hc h hn hst).run pins s σ H _ u Q I r ⟨p, vs, rfl, ?_, l1, q1⟩
    rw [hK, ← a.hp]; exact s1
  · obtain ⟨p, vs, rfl, s1, r1⟩ := lst_of a.st rw h1
    obtain ⟨l1, q1⟩ := go vs r1
    refine (pg_unl (n := es.length) hc h hn hst).run pins s σ H _ u Q I r ⟨p, vs, rfl, ?_, l1, q1⟩
    rw [← a.hp]; exact .inl s1
end

/-! ### a clause's tests -/
section
variable {S : Sta} {X : Cx} {Wx : WX} {c : Expr} {f : Ρ → M Bool}
theorem t_nil : PTs X [] (tT S Wx (fun _ => pure true)) := ⟨fun pins s σ H Q I h => pts_nil.run pins s σ H Q I (by
  obtain ⟨G, ρ, st, a, f⟩ := h
  obtain rfl := a.hp
  exact f G (Grow.refl G) a.st)⟩
theorem t_one (h : PT X c (tT S Wx f)) : PTs X [c] (tT S Wx f) := pts_one h
end
end Pf

/-! part P15 -/
set_option Elab.async false
set_option linter.all false
set_option maxRecDepth 100000
set_option autoImplicit false
set_option maxHeartbeats 1000000
/-! Statements. -/
namespace Pf
open PySem PySem.Spec PyProof.Rows L2

/-! ### a cell is written -/
section
variable {S : Sta} {G : Wd} {st : St} {i : Nat}
theorem Grow.cell {o0 o : HO} (hi : i < G.n) (h : G.H (G.μ i) = some o0) (nt : ∀ xs, o0 ≠ .tup xs) (nf : ∀ ob u, o0 ≠ .frz ob u) (nx : ∀ φ, o0 ≠ .ext φ) : Grow G (G.put (G.μ i) o) where
  le := Nat.le_refl _
  at_ := fun _ _ => rfl
  tup := fun a xs e => by
    show upd G.H (G.μ i) o a = _
    rw [upd_ne (fun z => by rw [z, h] at e; exact nt xs (Option.some.inj e))]; exact e
  frz := fun a ob u e => by
    show upd G.H (G.μ i) o a = _
    rw [upd_ne (fun z => by rw [z, h] at e; exact nf ob u (Option.some.inj e))]; exact e
  ext := fun a φ e => by
    show upd G.H (G.μ i) o a = _
    rw [upd_ne (fun z => by rw [z, h] at e; exact nx φ (Option.some.inj e))]; exact e
  keep := fun a ob e _ c => by
    show upd G.H (G.μ i) o a = _
    rw [upd_ne (fun z => c i hi z.symm)]; exact e
  there := fun a e => by
    by_cases z : a = G.μ i
    · have e : upd G.H (G.μ i) o a = none := e
      rw [z, upd_same] at e; cases e
    · have e : upd G.H (G.μ i) o a = none := e
      rw [upd_ne z] at e; exact e
  fresh := fun j h1 h2 => absurd h2 (Nat.not_lt.mpr h1)
theorem RelSt.cellSet {o : HO} {c : Cell} (rs : RelSt S G st) (hi : i < G.n) (g : Grow G (G.put (G.μ i) o)) (rc : RelC S (G.put (G.μ i) o) (G.μ i) c) (no : ∀ ps, o ≠ .tbl ps := by intro _ z; cases z) : RelSt S (G.put (G.μ i) o) (st.set i c) := by
  have tb : TabsAll S.T (G.put (G.μ i) o).H := by
    obtain ⟨c0, _, rc0⟩ := rs.some hi
    obtain ⟨u, hu, _⟩ := rc0.some
    obtain ⟨k1, k2⟩ := rc0.noext u hu
    exact tabs_keep rs.tabs (fun a ps e => by show upd G.H (G.μ i) o a = _; rw [upd_ne (fun z => by rw [z, hu] at e; exact k2 ps (Option.some.inj e))]; exact e) (fun a φ e => by show upd G.H (G.μ i) o a = _; rw [upd_ne (fun z => by rw [z, hu] at e; exact k1 φ (Option.some.inj e))]; exact e) (fun a ps e => ⟨ps, by
      have e : upd G.H (G.μ i) o a = _ := e
      by_cases z : a = G.μ i
      · rw [z, upd_same] at e; exact absurd (Option.some.inj e) (no ps)
      · rw [upd_ne z] at e; exact e⟩)
  refine ⟨by rw [List.length_set]; exact rs.len, rs.inj, fun j d q => ?_, tb⟩
  by_cases hj : i = j
  · subst hj
    rw [List.getElem?_set_self (by rw [rs.len]; exact hi)] at q
    cases q
    exact rc
  · rw [List.getElem?_set_ne hj] at q
    have hjn : j < G.n := by rw [← rs.len]; exact (List.getElem?_eq_some_iff.mp q).1
    refine (rs.cell j d q).grow g ?_
    show upd G.H (G.μ i) o (G.μ j) = _
    exact upd_ne fun z => hj (rs.inj i j hi hjn z.symm)
end

/-! ### readings of statements -/
/-- what is wanted of a run of statements; ρx: what is known of the slots where an exception is met -/
def FinS (S : Sta) (Wx : WX) (ρx : Ρ) (G : Wd) (D : Ends) : R Fl → Prop
  | .ok (.nx ρ') st' => ∀ G' σ', Grow G G' → RelSt S G' st' → RelSl S G' σ' ρ' → RelSl S G' σ' ρx → D.nx σ' G'.H
  | .ok (.rt w) st' => ∀ G' v, Grow G G' → RelSt S G' st' → RelW S G' v w → D.rt v G'.H
  | .exc c fs xs st' => ∀ G' σ' C d kvs, Grow G G' → RelSt S G' st' → RelSl S G' σ' ρx → S.gv c = some (.ref C) → G'.H d = some (.xd kvs) → kvs.map (·.1) = fs → RelWs S G' (kvs.map (·.2)) xs → Wx (.ref C) (some d) σ' G'.H
  | .stuck => False
def tS (S : Sta) (Wx : WX) (ρx : Ρ) (f : Ρ → M Fl) : TS := fun D σ H => ∃ G ρ st, At S σ H G ρ st ∧ RelSl S G σ ρx ∧ FinS S Wx ρx G D (f ρ st)
section
variable {S : Sta} {Wx : WX} {ρx : Ρ} {G G1 : Wd} {D : Ends} {σ : Sl}
theorem FinS.grow {r : R Fl} (g : Grow G G1) (h : FinS S Wx ρx G D r) : FinS S Wx ρx G1 D r := by
  cases r with
  | ok a st' =>
    cases a with
    | nx ρ' => exact fun G' σ' g' rs => h G' σ' (g.trans g') rs
    | rt w => exact fun G' v g' rs => h G' v (g.trans g') rs
  | exc c fs xs st' => exact fun G' σ' C d kvs g' rs => h G' σ' C d kvs (g.trans g') rs
  | stuck => exact h
/-- a part that is no statement -/
theorem FinS.bind {α : Type} {m : M α} {k : α → M Fl} {st : St} (hx : RelSl S G σ ρx) (h : FinS S Wx ρx G D ((m >>= k) st)) : Fin S Wx σ G (fun a G' st' => FinS S Wx ρx G' D (k a st')) (m st) := by
  have h : FinS S Wx ρx G D (M.bind m k st) := h
  unfold M.bind at h
  cases e : m st with
  | ok a st' => rw [e] at h; exact fun G' g _ => FinS.grow g h
  | exc c fs xs st' => rw [e] at h; exact fun G' C d kvs g rs => h G' σ C d kvs g rs (hx.grow g)
  | stuck => rw [e] at h; exact h
theorem bindSE {H : Hp} {ρ : Ρ} {st : St} {f : Ρ → M W} {k : W → M Fl} {Q : VK} (a : At S σ H G ρ st) (hx : RelSl S G σ ρx) (h : FinS S Wx ρx G D ((f ρ >>= k) st))
    (i : ∀ x H1 G1 w st1, Bh S σ H1 G ρ x G1 w st1 → RelSl S G1 σ ρx → FinS S Wx ρx G1 D (k w st1) → Q x H1) : tE S Wx f σ H Q := by
  refine ⟨G, ρ, st, a, (FinS.bind hx h).imp fun w G' st' g rs fi v r => ?_⟩
  exact i v G'.H G' w st' ⟨⟨rfl, rs, a.sl.grow g⟩, g, r⟩ (hx.grow g) fi
theorem FinS.lift {α : Type} {o : Option α} {k : α → M Fl} {st : St} (h : FinS S Wx ρx G D ((M.lift o >>= k) st)) : ∃ a, o = some a ∧ FinS S Wx ρx G D (k a st) := by
  cases o with
  | none => exact h.elim
  | some a => exact ⟨a, rfl, h⟩
theorem bindST {H : Hp} {ρ : Ρ} {st : St} {f : Ρ → M Bool} {k : Bool → M Fl} {Q : Bool → Hp → Prop} (a : At S σ H G ρ st) (hx : RelSl S G σ ρx) (h : FinS S Wx ρx G D ((f ρ >>= k) st))
    (i : ∀ b H1 G1 st1, At S σ H1 G1 ρ st1 → Grow G G1 → RelSl S G1 σ ρx → FinS S Wx ρx G1 D (k b st1) → Q b H1) : tT S Wx f σ H Q := by
  refine ⟨G, ρ, st, a, (FinS.bind hx h).imp fun w G' st' g rs fi => ?_⟩
  exact i w G'.H G' st' ⟨rfl, rs, a.sl.grow g⟩ g (hx.grow g) fi
/-- nothing may be raised -/
theorem FinS.nox {α : Type} {m : M α} {k : α → M Fl} {st : St} (h : FinS S Wx ρx G D ((M.nox m >>= k) st)) : ∃ a st1, m st = .ok a st1 ∧ FinS S Wx ρx G D (k a st1) := by
  have h : FinS S Wx ρx G D (M.bind (M.nox m) k st) := h
  unfold M.bind M.nox at h
  cases e : m st with
  | ok a st' => rw [e] at h; exact ⟨a, st', rfl, h⟩
  | exc c fs xs st' => rw [e] at h; exact h.elim
  | stuck => rw [e] at h; exact h.elim
/-- a slot of which nothing is known -/
def Open (ρx : Ρ) (i : Nat) : Prop := ∀ w, ρx[i]? ≠ some (some w)
theorem RelSl.other {σ σ' : Sl} {is : List Nat} (h : RelSl S G σ ρx) (hl : σ'.length = σ.length) (ho : ∀ i, i ∉ is → σ'[i]? = σ[i]?) (op : ∀ i ∈ is, Open ρx i) : RelSl S G σ' ρx :=
  ⟨h.len.trans hl.symm, fun i w e => by
    have hi : i ∉ is := fun z => op i z w e
    rw [ho i hi]
    exact h.at_ i w e⟩
theorem _root_.L2.PS.impW {X : Cx} {e : Stmt} {t t' : TS} (h : PS X e t) (i : ∀ D σ H, t' D σ H → t D σ H) : PS X e t' := ⟨fun pins s σ H D I q => h.run pins s σ H D I (i D σ H q)⟩
theorem _root_.L2.PSs.impW {X : Cx} {e : List Stmt} {t t' : TS} (h : PSs X e t) (i : ∀ D σ H, t' D σ H → t D σ H) : PSs X e t' := ⟨fun pins s σ H D I q => h.run pins s σ H D I (i D σ H q)⟩
end

/-! ### each statement -/
section
variable {S : Sta} {Wx : WX} {X : Cx} {ρx : Ρ} {pos : Pos} {e o : Expr} {tg : Expr} {fe fo : Ρ → M W} {fg : W → Ρ → M Ρ} {is : List Nat} {sm : Stmt} {sms a b : List Stmt} {f g fa fb : Ρ → M Fl} {fc : Ρ → M Bool} {c iter : Expr} {fi : Ρ → M (List W × Gd)}
theorem x_nil : PSs X [] (tS S Wx ρx (fun ρ => pure (.nx ρ))) := pss_nil.impW fun D σ H h => by
  obtain ⟨G, ρ, st, a, hx, f⟩ := h
  obtain rfl := a.hp
  exact f G σ (Grow.refl G) a.st a.sl hx
theorem x_cons (h1 : PS X sm (tS S Wx ρx f)) (h2 : PSs X sms (tS S Wx ρx g)) : PSs X (sm :: sms) (tS S Wx ρx (fun ρ => do
    let r ← f ρ
    match r with
    | .nx ρ2 => g ρ2
    | .rt w => pure (.rt w))) := (pss_cons h1 h2).impW fun D σ H h => by
  obtain ⟨G, ρ, st, a, hx, fi⟩ := h
  refine ⟨G, ρ, st, a, hx, ?_⟩
  have fi : FinS S Wx ρx G D (M.bind (f ρ) _ st) := fi
  unfold M.bind at fi
  cases e : f ρ st with
  | stuck => rw [e] at fi; exact fi
  | exc c fs xs st' => rw [e] at fi; exact fi
  | ok r st' =>
    rw [e] at fi
    cases r with
    | nx ρ2 => exact fun G' σ' g' rs sl hx' => ⟨G', ρ2, st', ⟨rfl, rs, sl⟩, hx', FinS.grow g' fi⟩
    | rt w => exact fi
theorem x_pass : PS X (.Pass pos) (tS S Wx ρx (fun ρ => pure (.nx ρ))) := ps_pass.impW fun D σ H h => by
  obtain ⟨G, ρ, st, a, hx, f⟩ := h
  obtain rfl := a.hp
  exact f G σ (Grow.refl G) a.st a.sl hx
theorem x_never : PS X sm (tS S Wx ρx (fun _ => M.stuck)) := ps_never.impW fun D σ H h => by
  obtain ⟨G, ρ, st, a, hx, f⟩ := h
  exact f.elim
theorem x_ret (he : PE X e (tE S Wx fe)) : PS X (.Return (some e) pos) (tS S Wx ρx (fun ρ => do let w ← fe ρ; pure (.rt w))) := (ps_ret he).impW fun D σ H h => by
  obtain ⟨G, ρ, st, a, hx, f⟩ := h
  unfold tRet
  refine bindSE a hx f fun x H1 G1 w st1 b1 hx1 f1 => ?_
  obtain rfl := b1.at_.hp
  exact f1 G1 x (Grow.refl G1) b1.at_.st b1.rel
theorem x_retN : PS X (.Return none pos) (tS S Wx ρx (fun _ => pure (.rt .non))) := ps_retN.impW fun D σ H h => by
  obtain ⟨G, ρ, st, a, hx, f⟩ := h
  obtain rfl := a.hp
  exact f G .non (Grow.refl G) a.st (by simp only [RelW])
theorem x_drop (he : PE X e (tE S Wx fe)) (hs : swapsWith e none pos.line X.env = pure false) : PS X (.Expr e pos) (tS S Wx ρx (fun ρ => do let _ ← fe ρ; pure (.nx ρ))) := (ps_expr he hs).impW fun D σ H h => by
  obtain ⟨G, ρ, st, a, hx, f⟩ := h
  unfold tDrop
  refine bindSE a hx f fun x H1 G1 w st1 b1 hx1 f1 => ?_
  obtain rfl := b1.at_.hp
  exact f1 G1 σ (Grow.refl G1) b1.at_.st b1.at_.sl hx1
theorem x_if (hc : PT X c (tT S Wx fc)) (ha : PSs X a (tS S Wx ρx fa)) (hb : PSs X b (tS S Wx ρx fb)) : PS X (.If c a b pos) (tS S Wx ρx (fun ρ => do let t ← fc ρ; if t = true then fa ρ else fb ρ)) := (ps_if hc ha hb).impW fun D σ H h => by
  obtain ⟨G, ρ, st, at_, hx, f⟩ := h
  unfold tIfS
  refine bindST at_ hx f fun t H1 G1 st1 a1 g1 hx1 f1 => ?_
  cases t with
  | true => simp only [if_true] at f1 ⊢; exact ⟨G1, ρ, st1, a1, hx1, f1⟩
  | false => simp only [Bool.false_eq_true, if_false] at f1 ⊢; exact ⟨G1, ρ, st1, a1, hx1, f1⟩
/-- a value goes to a target -/
theorem store_of {σ : Sl} {H : Hp} {G : Wd} {ρ : Ρ} {st : St} {D : Ends} {x : V} {w : W} (op : ∀ i ∈ is, Open ρx i) (a : At S σ H G ρ st) (hx : RelSl S G σ ρx) (r : RelW S G x w) (f : FinS S Wx ρx G D ((M.nox (fg w ρ) >>= fun ρ2 => pure (.nx ρ2)) st)) : tG S Wf is fg x σ H D.nx := by
  obtain ⟨ρ2, st2, e, f⟩ := FinS.nox f
  refine ⟨G, ρ, st, w, a, r, ?_⟩
  rw [e]
  exact fun G' g rs σ' sl hl ho => f G' σ' g rs sl ((hx.grow g).other hl ho op)
theorem x_set (op : ∀ i ∈ is, Open ρx i) (he : PE X e (tE S Wx fe)) (hg : PG X tg (tG S Wf is fg)) (hs : swapsWithSole [tg] e pos.line X.env = pure false) (hw : swappedStores [tg] e X.env = pure none)
    (h1 : (assignEach [tg] X.env).map (·.2) = [assign tg X.env]) : PS X (.Assign [tg] e pos) (tS S Wx ρx (fun ρ => do let w ← fe ρ; let ρ2 ← M.nox (fg w ρ); pure (.nx ρ2))) := (ps_asg he hg hs hw h1).impW fun D σ H h => by
  obtain ⟨G, ρ, st, a, hx, f⟩ := h
  unfold tAsg
  refine bindSE a hx f fun x H1 G1 w st1 b1 hx1 f1 => ?_
  exact store_of op b1.at_ hx1 b1.rel f1
/-- for -/
theorem forL_cons {gd : Gd} {t : W → Ρ → M Ρ} {b : Ρ → M Fl} {x : W} {xs : List W} {ρ : Ρ} : forL gd (fun x ρ => M.nox (t x ρ)) b (x :: xs) ρ = (M.chkG gd >>= fun _ => M.nox (t x ρ) >>= fun ρ2 => b ρ2 >>= fun r => match r with
    | .nx ρ3 => forL gd (fun x ρ => M.nox (t x ρ)) b xs ρ3
    | .rt w => pure (.rt w)) := rfl
theorem FinS.chkG {G : Wd} {D : Ends} {gd : Gd} {k : Unit → M Fl} {st : St} (h : FinS S Wx ρx G D ((M.chkG gd >>= k) st)) : gdOk gd st ∧ FinS S Wx ρx G D (k () st) := by
  have h : FinS S Wx ρx G D (M.bind (M.chkG gd) k st) := h
  unfold M.bind M.chkG at h
  by_cases z : gdOk gd st
  · rw [if_pos z] at h; exact ⟨z, h⟩
  · rw [if_neg z] at h; exact h.elim
theorem x_for (hp : PassesOwn (model X.prog X.w) X.A X.env X.xe) (hc : X.calm = true) (op : ∀ i ∈ is, Open ρx i) (hi : PI X tg iter (tI S Wx fi)) (hg : PG X tg (tG S Wf is fg)) (hb : PSs X b (tS S Wx ρx fb)) (hs : ∀ x, foldedSetIterable iter X.env x = pure x) :
    PS X (.For tg iter b [] pos) (tS S Wx ρx (fun ρ => do let xs ← fi ρ; forL xs.2 (fun x ρ => M.nox (fg x ρ)) fb xs.1 ρ)) := (ps_for hp hc hi hg hb hs).impW fun D σ H h => by
  obtain ⟨G, ρ, st, a, hx, f⟩ := h
  unfold tFor
  refine ⟨G, ρ, st, a, (FinS.bind hx f).imp fun p G1 st1 g1 rs1 f1 J wk => ?_⟩
  obtain ⟨xs, gd⟩ := p
  refine ⟨fun i m σ H => m = xs.length - i ∧ i ≤ xs.length ∧ ∃ Gm ρm stm, At S σ H Gm ρm stm ∧ RelSl S Gm σ ρx ∧ Grow G1 Gm ∧ FinS S Wx ρx Gm D (forL gd (fun x ρ => M.nox (fg x ρ)) fb (xs.drop i) ρm stm),
    ⟨xs.length, by simp, Nat.zero_le _, G1, ρ, st1, ⟨rfl, rs1, a.sl.grow g1⟩, hx.grow g1, Grow.refl G1, f1⟩, ?_⟩
  rintro i m σ2 H2 ⟨rfl, hi', Gm, ρm, stm, am, hxm, gm, fm⟩
  obtain rfl := am.hp
  by_cases hlt : i < xs.length
  · rw [List.drop_eq_getElem_cons hlt, forL_cons] at fm
    obtain ⟨gk, fm⟩ := FinS.chkG fm
    have ok : OkG S G1 gd Gm := ⟨gm.toKeep, stm, am.st, gk⟩
    refine .inr ⟨wk.goes i Gm hlt ok, fun σ' H' => ∃ Gn ρn stn, At S σ' H' Gn ρn stn ∧ RelSl S Gn σ' ρx ∧ Grow G1 Gn ∧ FinS S Wx ρx Gn D (forL gd (fun x ρ => M.nox (fg x ρ)) fb (xs.drop (i + 1)) ρn stn), fun σ' H' q => ⟨xs.length - (i + 1), by omega, rfl, hlt, q⟩, fun x H' y => ?_⟩
    obtain ⟨G', e', g', rs', rx⟩ := wk.yields i Gm x H' hlt ok y
    subst e'
    obtain ⟨ρ2, st2, e2, fm⟩ := FinS.nox fm
    refine ⟨G', ρm, stm, xs[i], ⟨rfl, rs' _ am.st, am.sl.grow g'⟩, rx, ?_⟩
    rw [e2]
    intro G2 g2 rs2 σ3 sl3 hl3 ho3
    have hx3 : RelSl S G2 σ3 ρx := (hxm.grow (g'.trans g2)).other hl3 ho3 op
    refine ⟨G2, ρ2, st2, ⟨rfl, rs2, sl3⟩, hx3, ?_⟩
    have fm := FinS.grow (g'.trans g2) fm
    have fm : FinS S Wx ρx G2 D (M.bind (fb ρ2) _ st2) := fm
    unfold M.bind at fm
    cases e : fb ρ2 st2 with
    | stuck => rw [e] at fm; exact fm
    | exc c fs xs st' => rw [e] at fm; exact fm
    | ok r st3 =>
      rw [e] at fm
      cases r with
      | nx ρ3 => exact fun G3 σ4 g3 rs3 sl4 hx4 => ⟨G3, ρ3, st3, ⟨rfl, rs3, sl4⟩, hx4, gm.trans (g'.trans (g2.trans g3)), FinS.grow g3 fm⟩
      | rt w => exact fm
  · have e : i = xs.length := by omega
    subst e
    rw [List.drop_length] at fm
    obtain ⟨gk, fm⟩ := FinS.chkG (k := fun _ => pure (.nx ρm)) fm
    exact .inl ⟨wk.stops Gm ⟨gm.toKeep, stm, am.st, gk⟩, fm Gm σ2 (Grow.refl Gm) am.st am.sl hxm⟩
/-- while -/
theorem x_while {n : Nat} (hp : PassesOwn (model X.prog X.w) X.A X.env X.xe) (hc : PT X c (tT S Wx fc)) (hb : PSs X b (tS S Wx ρx fb)) :
    PS X (.While c b [] pos) (tS S Wx ρx (fun ρ => whL fc fb n ρ)) := (ps_while hp hc hb).impW fun D σ H h => by
  obtain ⟨G, ρ, st, a, hx, f⟩ := h
  unfold tWhile
  refine ⟨fun m σ H => tS S Wx ρx (fun ρ => whL fc fb m ρ) D σ H, ⟨n, G, ρ, st, a, hx, f⟩, ?_⟩
  rintro m σ2 H2 ⟨Gm, ρm, stm, am, hxm, fm⟩
  cases m with
  | zero => exact fm.elim
  | succ m =>
    refine bindST am hxm fm fun t H1 G1 st1 a1 g1 hx1 f1 => ?_
    cases t with
    | true =>
      simp only [if_true] at f1 ⊢
      refine ⟨fun σ' H' => tS S Wx ρx (fun ρ => whL fc fb m ρ) D σ' H', fun σ' H' q => ⟨m, Nat.lt_succ_self _, q⟩, G1, ρm, st1, a1, hx1, ?_⟩
      have f1 : FinS S Wx ρx G1 D (M.bind (fb ρm) _ st1) := f1
      unfold M.bind at f1
      cases e : fb ρm st1 with
      | stuck => rw [e] at f1; exact f1
      | exc c fs xs st' => rw [e] at f1; exact f1
      | ok r st3 =>
        rw [e] at f1
        cases r with
        | nx ρ3 => exact fun G3 σ4 g3 rs3 sl4 hx4 => ⟨G3, ρ3, st3, ⟨rfl, rs3, sl4⟩, hx4, FinS.grow g3 f1⟩
        | rt w => exact f1
    | false =>
      simp only [Bool.false_eq_true, if_false] at f1 ⊢
      obtain rfl := a1.hp
      exact f1 G1 σ2 (Grow.refl G1) a1.st a1.sl hx1
end
end Pf

/-! part P16 -/
set_option Elab.async false
set_option linter.all false
set_option maxRecDepth 100000
set_option autoImplicit false
set_option maxHeartbeats 1000000
/-! Stores into lists and instances; names bound to comprehensions; pairs of names. -/
namespace Pf
open PySem PySem.Spec PyProof.Rows L2

section
variable {S : Sta} {G : Wd} {st : St}
theorem appC_ok {v w : W} {st st' : St} {u : Unit} (h : appC v w st = .ok u st') : ∃ i xs, v = .ref i ∧ st[i]? = some (.lst xs) ∧ xs.length < SZ ∧ st' = st.set i (.lst (xs ++ [w])) := by
  unfold appC at h
  split at h
  · rename_i i
    split at h
    · rename_i xs e
      split at h
      · rename_i hz
        cases h
        exact ⟨i, xs, rfl, e, hz, rfl⟩
      · cases h
    · cases h
  · cases h
theorem extC_ok {v : W} {ws : List W} {st st' : St} {u : Unit} (h : extC v ws st = .ok u st') : ∃ i xs, v = .ref i ∧ st[i]? = some (.lst xs) ∧ xs.length + ws.length ≤ SZ ∧ st' = st.set i (.lst (xs ++ ws)) := by
  unfold extC at h
  split at h
  · rename_i i
    split at h
    · rename_i xs e
      split at h
      · rename_i hz
        cases h
        exact ⟨i, xs, rfl, e, hz, rfl⟩
      · cases h
    · cases h
  · cases h
/-- a list cell -/
theorem cell_lst {i : Nat} {xs : List W} {v : V} (rs : RelSt S G st) (r : RelW S G v (.ref i)) (e : st[i]? = some (.lst xs)) : i < G.n ∧ v = .ref (G.μ i) ∧ ∃ vs, G.H (G.μ i) = some (.lst vs) ∧ RelWs S G vs xs := by
  simp only [RelW] at r
  obtain ⟨vs, h1, h2⟩ := rs.cell i _ e
  exact ⟨r.1, r.2, vs, h1, h2⟩
theorem cell_put {i : Nat} {xs : List W} {vs us : List V} {ws : List W} (rs : RelSt S G st) (hi : i < G.n) (h : G.H (G.μ i) = some (.lst vs)) (r : RelWs S G us ws) :
    Grow G (G.put (G.μ i) (.lst us)) ∧ RelSt S (G.put (G.μ i) (.lst us)) (st.set i (.lst ws)) := by
  have g := Grow.cell (G := G) (o := .lst us) hi h (fun _ z => by cases z) (fun _ _ z => by cases z) (fun _ z => by cases z)
  exact ⟨g, rs.cellSet hi g ⟨us, upd_same, RelWs.grow g _ _ r⟩⟩
theorem FinS.unit {Wx : WX} {ρx : Ρ} {D : Ends} {m : M Unit} {k : M Fl} {st : St} (hm : ∀ c fs xs st', m st ≠ .exc c fs xs st') (h : FinS S Wx ρx G D ((m >>= fun _ => k) st)) : ∃ st1, m st = .ok () st1 ∧ FinS S Wx ρx G D (k st1) := by
  have h : FinS S Wx ρx G D (M.bind m (fun _ => k) st) := h
  unfold M.bind at h
  cases e : m st with
  | ok a st' => rw [e] at h; exact ⟨st', rfl, h⟩
  | exc c fs xs st' => exact (hm _ _ _ _ e).elim
  | stuck => rw [e] at h; exact h.elim
theorem appC_nx {v w : W} {st : St} : ∀ c fs xs st', appC v w st ≠ .exc c fs xs st' := fun c fs xs st' h => by
  unfold appC at h
  split at h
  · split at h
    · split at h <;> cases h
    · cases h
  · cases h
theorem extC_nx {v : W} {ws : List W} {st : St} : ∀ c fs xs st', extC v ws st ≠ .exc c fs xs st' := fun c fs xs st' h => by
  unfold extC at h
  split at h
  · split at h
    · split at h <;> cases h
    · cases h
  · cases h
end
section
variable {S : Sta} {Wx : WX} {X : Cx} {ρx : Ρ} {pos apos cpos : Pos} {e o : Expr} {fe fo : Ρ → M W} {fl : Ρ → M (List W)}
theorem x_app (hK : X.K = S.K) (ho : PE X o (tE S Wx fo)) (he : PE X e (tE S Wx fe)) (hbase : attributeBase o "append" X.env (eval o X.env) = eval o X.env)
    (hfew : ((backTo cpos (starEach [e] X.env)).all (fun x => !x.1) && (backToKw cpos (keywordEach [] X.env)).all (fun x => x.1.isSome) && decide ([e].length + ([] : List Keyword).length + (if ([] : List Keyword).isEmpty then 0 else 1) < 30)) = true)
    (hline : (apos.endLine == cpos.line) = true) (hs : starEach [e] X.env = (false, eval e X.env) :: starEach [] X.env) (hplain : (backTo cpos (starEach [] X.env)).any (·.1) = false) (hsw : swapsWith (.Call (.Attribute o "append" apos) [e] [] cpos) none pos.line X.env = pure false) :
    PS X (.Expr (.Call (.Attribute o "append" apos) [e] [] cpos) pos) (tS S Wx ρx (fun ρ => do
      let v ← fo ρ
      let _ ← M.lift (lstOf v (← M.get))
      let w ← fe ρ
      appC v w
      pure (.nx ρ))) := (ps_expr (pe_bm PySem.F.plainAttrs_list PySem.F.slot_list_append PySem.F.type_list_append mt_append ho (pa_cons he pa_nil hs) hbase hfew hline hs hplain) hsw).impW fun D σ H h => by
  obtain ⟨G, ρ, st, a, hx, f⟩ := h
  unfold tDrop tBM tCons
  refine bindSE a hx f fun x H1 G1 w1 st1 b1 hx1 f1 => ?_
  obtain ⟨ys, e1, f2⟩ := FinS.lift (o := lstOf w1 st1) f1
  refine ⟨?_, ?_⟩
  · obtain ⟨p, vs, h1, h2, h3⟩ := lst_of b1.at_.st b1.rel e1
    subst h1
    rw [← b1.at_.hp, hK]
    exact .inl ⟨rfl, vs, .inl h2⟩
  · refine bindSE b1.at_ hx1 f2 fun y H2 G2 w2 st2 b2 hx2 f3 => ?_
    obtain ⟨st3, e3, f4⟩ := FinS.unit appC_nx f3
    obtain ⟨i, xs, e4, e5, hz, e6⟩ := appC_ok e3
    subst e4 e6
    obtain ⟨hi, ex, vs, hH, rv⟩ := cell_lst b2.at_.st (RelW.grow b2.gr _ _ b1.rel) e5
    obtain ⟨g, rs⟩ := cell_put (xs := xs) b2.at_.st hi hH (rv.append (RelWs.cons b2.rel RelWs.nil))
    obtain rfl := b2.at_.hp
    exact ⟨_, vs, y, ex, rfl, hH, by rw [rv.length, ← SZ_eq]; exact hz, f4 _ σ g rs (b2.at_.sl.grow g) (hx2.grow g)⟩
theorem x_ext (hK : X.K = S.K) (ho : PE X o (tE S Wx fo)) (he : PE X e (tL S Wx fl)) (hbase : attributeBase o "extend" X.env (eval o X.env) = eval o X.env)
    (hfew : ((backTo cpos (starEach [e] X.env)).all (fun x => !x.1) && (backToKw cpos (keywordEach [] X.env)).all (fun x => x.1.isSome) && decide ([e].length + ([] : List Keyword).length + (if ([] : List Keyword).isEmpty then 0 else 1) < 30)) = true)
    (hline : (apos.endLine == cpos.line) = true) (hs : starEach [e] X.env = (false, eval e X.env) :: starEach [] X.env) (hplain : (backTo cpos (starEach [] X.env)).any (·.1) = false) (hsw : swapsWith (.Call (.Attribute o "extend" apos) [e] [] cpos) none pos.line X.env = pure false) :
    PS X (.Expr (.Call (.Attribute o "extend" apos) [e] [] cpos) pos) (tS S Wx ρx (fun ρ => do
      let v ← fo ρ
      let _ ← M.lift (lstOf v (← M.get))
      let ws ← fl ρ
      extC v ws
      pure (.nx ρ))) := (ps_expr (pe_bm PySem.F.plainAttrs_list PySem.F.slot_list_extend PySem.F.type_list_extend mt_extend ho (pa_cons he pa_nil hs) hbase hfew hline hs hplain) hsw).impW fun D σ H h => by
  obtain ⟨G, ρ, st, a, hx, f⟩ := h
  unfold tDrop tBM tCons
  refine bindSE a hx f fun x H1 G1 w1 st1 b1 hx1 f1 => ?_
  obtain ⟨ys, e1, f2⟩ := FinS.lift (o := lstOf w1 st1) f1
  refine ⟨?_, ?_⟩
  · obtain ⟨p, vs, h1, h2, h3⟩ := lst_of b1.at_.st b1.rel e1
    subst h1
    rw [← b1.at_.hp, hK]
    exact .inl ⟨rfl, vs, .inl h2⟩
  · refine ⟨G1, ρ, st1, b1.at_, (FinS.bind hx1 f2).imp fun ws G2 st2 g2 rs2 f3 p us n rus => ?_⟩
    obtain ⟨st3, e3, f4⟩ := FinS.unit extC_nx f3
    obtain ⟨i, xs, e4, e5, hz, e6⟩ := extC_ok e3
    subst e4 e6
    obtain ⟨hi, ex, vs, hH, rv⟩ := cell_lst rs2 (RelW.grow g2 _ _ b1.rel) e5
    have gp := Grow.put (G := G2) (o := .lst us) n
    have rsp := rs2.put (o := .lst us) n
    have ne : G2.μ i ≠ p := rs2.ne n hi
    have hHp : (G2.put p (.lst us)).H ((G2.put p (.lst us)).μ i) = some (.lst vs) := by show upd G2.H p (.lst us) (G2.μ i) = _; rw [upd_ne ne]; exact hH
    obtain ⟨g, rs⟩ := cell_put (xs := xs) rsp hi hHp (RelWs.grow gp _ _ (rv.append rus))
    exact ⟨_, p, vs, us, ex, rfl, hHp, upd_same, by rw [rv.length, rus.length, ← SZ_eq]; exact hz, f4 _ σ (gp.trans g) rs (b1.at_.sl.grow (g2.trans (gp.trans g))) (hx1.grow (g2.trans (gp.trans g)))⟩

/-! ### name = [.. for ..] on one line -/
/-- behind the store the new list is known -/
def nxFrz (Q : Sl → Hp → Prop) : Sl → Hp → Prop := fun σ H => ∃ p xs, H p = some (.lst xs) ∧ ∀ o, Q σ (upd H p (.frz o (.lst xs)))
theorem ps_frzN {sm : Stmt} {t : TS} (h : PS X sm t) : PS X sm (fun D σ H => t { nx := nxFrz D.nx, rt := D.rt, bk := D.bk, ct := D.ct } σ H) := ⟨fun pins s σ H D I q => thn (h.run pins s σ H _ I q) fun fl s1 z => by
  cases fl with
  | next =>
    obtain ⟨σ', H', I', p, xs, e, k⟩ := z
    obtain ⟨o, I2⟩ := Inv.frz I' e (fun _ z => by cases z) (fun _ z => by cases z) (fun _ _ z => by cases z) (fun _ z => by cases z)
    exact ⟨σ', _, I2, k o⟩
  | ret u => exact z
  | brk => exact z
  | cont => exact z⟩
/-- a statement that binds slot i to a new list -/
theorem x_setFrz {sm : Stmt} {i : Nat} (op : Open ρx i) (h : PS X sm (tAsg (tL S Wx fl) (gName i))) : PS X sm (tS S Wx ρx (fun ρ => do let w ← (do let ws ← fl ρ; pure (W.lst ws)); let ρ2 ← M.nox (pure (ρ.set i (some w))); pure (.nx ρ2))) := (ps_frzN h).impW fun D σ H h => by
  obtain ⟨G, ρ, st, a, hx, f⟩ := h
  dsimp only at f
  rw [M.bind_assoc] at f
  refine ⟨G, ρ, st, a, (FinS.bind hx f).imp fun ws G1 st1 g1 rs1 f1 p vs n r => ?_⟩
  refine ⟨p, vs, upd_same, fun o => ?_⟩
  rw [upd_upd]
  obtain ⟨g, rs, rw⟩ := new_lst (o := o) n rs1 r
  refine f1 _ (σ.set i (some (.ref p))) g rs ((a.sl.grow (g1.trans g)).set i rw) ?_
  exact (hx.grow (g1.trans g)).other (is := [i]) (by simp) (fun j hj => by
    rw [List.getElem?_set_ne]
    rintro rfl
    exact hj List.mem_cons_self) (fun j hj => by rw [List.mem_singleton.mp hj]; exact op)
theorem x_setNew {sm : Stmt} {i : Nat} (op : Open ρx i) (h : PS X sm (tAsg (tL S Wx fl) (gName i))) : PS X sm (tS S Wx ρx (fun ρ => do let w ← (do let ws ← fl ρ; newC (.lst ws)); let ρ2 ← M.nox (pure (ρ.set i (some w))); pure (.nx ρ2))) := h.impW fun D σ H h => by
  obtain ⟨G, ρ, st, a, hx, f⟩ := h
  dsimp only at f
  rw [M.bind_assoc] at f
  refine ⟨G, ρ, st, a, (FinS.bind hx f).imp fun ws G1 st1 g1 rs1 f1 p vs n r => ?_⟩
  obtain ⟨g, rs, rw⟩ := new_cell n rs1 r
  refine f1 _ (σ.set i (some (.ref p))) g rs ((a.sl.grow (g1.trans g)).set i rw) ?_
  exact (hx.grow (g1.trans g)).other (is := [i]) (by simp) (fun j hj => by
    rw [List.getElem?_set_ne]
    rintro rfl
    exact hj List.mem_cons_self) (fun j hj => by rw [List.mem_singleton.mp hj]; exact op)

/-! ### a, b = x, y and a, b, c = x, y, z -/
variable {fa : Ρ → M (List W)}
theorem nox_pure {α β : Type} (a : α) (k : α → M β) : (M.nox (pure a) >>= k) = k a := rfl
theorem par_sl {G : Wd} {σ : Sl} {i : Nat} (h : RelSl S G σ ρx) (op : Open ρx i) (v : Option V) : RelSl S G (σ.set i v) ρx := h.other (is := [i]) (by simp) (fun j hj => by
    rw [List.getElem?_set_ne]
    rintro rfl
    exact hj List.mem_cons_self) (fun j hj => by rw [List.mem_singleton.mp hj]; exact op)
theorem x_par {sm : Stmt} {i j : Nat} (oi : Open ρx i) (oj : Open ρx j) (h : PS X sm (tPar i j (tA S Wx fa))) :
    PS X sm (tS S Wx ρx (fun ρ => do
      let ws ← fa ρ
      match ws with
      | [a, b] => pure (.nx ((ρ.set i (some a)).set j (some b)))
      | _ => M.stuck)) := h.impW fun D σ H h => by
  obtain ⟨G, ρ, st, a, hx, f⟩ := h
  unfold tPar
  refine ⟨G, ρ, st, a, (FinS.bind hx f).imp fun ws G1 st1 g1 rs1 f1 vs r => ?_⟩
  match ws, f1 with
  | [], f1 => exact f1.elim
  | [_], f1 => exact f1.elim
  | _ :: _ :: _ :: _, f1 => exact f1.elim
  | [x, y], f1 =>
    obtain ⟨v, u, rfl, r1, r2⟩ := rels2 r
    exact ⟨v, u, rfl, f1 G1 _ (Grow.refl G1) rs1 (((a.sl.grow g1).set i r1).set j r2) (par_sl (par_sl (hx.grow g1) oi _) oj _)⟩
theorem x_par3 {sm : Stmt} {i j l : Nat} (oi : Open ρx i) (oj : Open ρx j) (ol : Open ρx l) (h : PS X sm (tPar3 i j l (tA S Wx fa))) :
    PS X sm (tS S Wx ρx (fun ρ => do
      let ws ← fa ρ
      match ws with
      | [a, b, c] => pure (.nx (((ρ.set i (some a)).set j (some b)).set l (some c)))
      | _ => M.stuck)) := h.impW fun D σ H h => by
  obtain ⟨G, ρ, st, a, hx, f⟩ := h
  unfold tPar3
  refine ⟨G, ρ, st, a, (FinS.bind hx f).imp fun ws G1 st1 g1 rs1 f1 vs r => ?_⟩
  match ws, f1 with
  | [], f1 => exact f1.elim
  | [_], f1 => exact f1.elim
  | [_, _], f1 => exact f1.elim
  | _ :: _ :: _ :: _ :: _, f1 => exact f1.elim
  | [x, y, z], f1 =>
    simp only [RelWs] at r
    obtain ⟨v1, t1, rfl, r1, v2, t2, rfl, r2, v3, t3, rfl, r3, rfl⟩ := r
    exact ⟨v1, v2, v3, rfl, f1 G1 _ (Grow.refl G1) rs1 ((((a.sl.grow g1).set i r1).set j r2).set l r3) (par_sl (par_sl (par_sl (hx.grow g1) oi _) oj _) ol _)⟩
end
end Pf

/-! part P17 -/
set_option Elab.async false
set_option linter.all false
set_option maxRecDepth 100000
set_option autoImplicit false
set_option maxHeartbeats 1000000
/-! Attributes, isinstance, stores to attributes and places. -/
namespace Pf
open PySem PySem.Spec PyProof.Rows L2

/-! ### the tables of the program -/
def TyV (S : Sta) : Ty → Value → Prop
  | .ty n, v => v = .type n
  | .cl x, v => S.gv x = some v ∧ ∃ a, v = .ref a
structure ClsX (K : PySem.W.Frag) (C : Addr) : Prop where
  cl : Cls K C
  ha : PySem.W.findIn K (.ref C) "__class__" = some (some (.builtin "object.__class__"))
  hn : PySem.W.specialIn K (.builtin "object.__class__") "__get__" = some (some (.builtin "getset_descriptor.__get__"))
  htk : PySem.W.takesIn K (.builtin "object.__class__") = some true
  hm : PySem.W.mroIn K C (.type "object") = some true
structure Tabs (S : Sta) (C : Cf) : Prop where
  att : ∀ c f a, C.att c f = true → S.gv c = some (.ref a) → Cls S.K a ∧ NoAttr S.K a f
  isi : ∀ t c b, C.isi t c = some b → (∀ x a, t = .cl x → S.gv x = some (.ref a) → ClsX S.K a) ∧ ∀ u v, TyV S t u → TyV S c v → PySem.W.kitOne S.K u v = some b

/-! ### fields -/
theorem Rd.ins {P : Program} {w : World} {H : Hp} {h : Heap} {a C dx : Addr} {fs : List (Str × V)} (hok : HOk P w H h) (e : Rd H a (.ins C dx fs)) : ∃ mA, ObjM h a dx C mA ∧ ∀ f, RelO (fs.lookup f) (mA f) := by
  obtain ⟨d, z, ne, ob, mA, n, r, q⟩ := (show ObjOk P w H h a (.ins C dx fs) from Rd.ok e hok)
  exact ⟨mA, ⟨ob, n, ne⟩, r⟩
theorem look_rel {S : Sta} {G : Wd} {f : Str} {w : W} : ∀ {kvs : List (Str × V)} {fs : List Str} {ws : List W}, kvs.map (·.1) = fs → RelWs S G (kvs.map (·.2)) ws → (fs.zip ws).lookup f = some w → ∃ v, kvs.lookup f = some v ∧ RelW S G v w
  | [], _, _, rfl, h, e => by
    simp at e
  | (g, v) :: kvs, _, [], rfl, h, e => by simp at e
  | (g, v) :: kvs, _, x :: ws, rfl, h, e => by
    rw [List.map_cons] at h
    simp only [RelWs] at h
    obtain ⟨v', r, e1, h1, h2⟩ := h
    cases e1
    simp only [List.map_cons, List.zip_cons_cons, List.lookup_cons] at e ⊢
    cases hb : f == g with
    | true => rw [hb] at e; simp only at e ⊢; cases e; exact ⟨v, rfl, h1⟩
    | false => rw [hb] at e; simp only at e ⊢; exact look_rel rfl h2 e
section
variable {S : Sta} {G : Wd} {st : St}
/-- an instance, fixed or a cell -/
theorem ins_of {v : V} {w : W} {c : Str} (rs : RelSt S G st) (r : RelW S G v w) (e : clsOf w st = some c) : ∃ a C dx kvs, v = .ref a ∧ S.gv c = some (.ref C) ∧ Rd G.H a (.ins C dx kvs) ∧ ∀ f u, fieldW w f st = some u → ∃ x, kvs.lookup f = some x ∧ RelW S G x u := by
  unfold clsOf at e
  split at e
  · rename_i c' fs ws
    cases e
    simp only [RelW] at r
    obtain ⟨a, o, C, dx, kvs, h1, h2, h3, h4, h5⟩ := r
    exact ⟨a, C, dx, kvs, h1, h2, .inr ⟨o, h3⟩, fun f u q => look_rel h4 h5 q⟩
  · rename_i i
    split at e
    · rename_i c' fs ws q
      cases e
      simp only [RelW] at r
      obtain ⟨C, dx, kvs, h2, h3, h4, h5⟩ := rs.cell _ _ q
      refine ⟨_, C, dx, kvs, r.2, h2, .inl h3, fun f u q2 => ?_⟩
      unfold fieldW at q2
      simp only [q] at q2
      exact look_rel h4 h5 q2
    · cases e
  · cases e
end
section
variable {S : Sta} {C : Cf} {X : Cx} {Wx : WX} {e o : Expr} {f : Str} {fe fo : Ρ → M W} {pos : Pos}
theorem s_attr (hK : X.K = S.K) (T : Tabs S C) (he : PE X e (tE S Wx fe)) (hb : attributeBase e f X.env (eval e X.env) = eval e X.env) :
    PE X (.Attribute e f pos) (tE S Wx (fun ρ => do let w ← fe ρ; M.lift (getF C w f (← M.get)))) := by
  refine ⟨fun pins s σ H Q I h => ?_⟩
  obtain ⟨G, ρ, st, a, fi⟩ := h
  have hE : tE S Wx fe σ H (fun x H1 => ∃ p Ca dx kvs v, x = .ref p ∧ Rd H1 p (.ins Ca dx kvs) ∧ Cls X.K Ca ∧ NoAttr X.K Ca f ∧ kvs.lookup f = some v ∧ Q v H1) := by
    refine bindE a fi fun x H1 G1 w st1 b1 f1 => ?_
    obtain ⟨u, eu, q⟩ := Fin.lift1 (o := getF C w f st1) f1
    unfold getF at eu
    simp only [Option.bind_eq_some_iff] at eu
    obtain ⟨c, e1, e2⟩ := eu
    split at e2
    · rename_i hatt
      obtain ⟨p, Ca, dx, kvs, h1, h2, h3, h4⟩ := ins_of b1.at_.st b1.rel e1
      obtain ⟨v, h5, h6⟩ := h4 f u e2
      obtain ⟨k1, k2⟩ := T.att c f Ca hatt h2
      obtain rfl := b1.at_.hp
      exact ⟨p, Ca, dx, kvs, v, h1, h3, hK ▸ k1, hK ▸ k2, h5, q G1 (Grow.refl G1) b1.at_.st v h6⟩
    · cases e2
  refine attr_of hb (thn (he.run pins s σ H _ I hE) fun u s1 ⟨x, H1, I1, rx, p, Ca, dx, kvs, v, ex, rd, c, n, l, q⟩ => ?_)
  subst ex
  obtain rfl : u = Value.ref p := rx
  obtain ⟨mA, O, r⟩ := Rd.ins I1.hok rd
  obtain ⟨u, hu, ru⟩ := RelO.some_of (v := v) (o := mA f) (by rw [← l]; exact r f)
  exact get_map I1.kIn O (c.get f) c.hd n hu (handed_of ru) ⟨v, H1, I1.tok _, ru, q⟩

/-! ### isinstance -/
theorem kitW {pins : List (Addr × Obj)} {σ : Sl} {s : Shared} {G : Wd} {st : St} {x : V} {w : W} {u : Value} {y : Ty} (hK : X.K = S.K) (I : Inv X pins σ G.H s) (rs : RelSt S G st) (r : RelW S G x w) (rx : RelV x u) (e : tyW w st = some y)
    (hc : ∀ c a, y = .cl c → S.gv c = some (.ref a) → ClsX S.K a) : ∃ (tv : Value) (P : Heap → Prop), TyV S y tv ∧ PySem.W.KitX X.K u tv P ∧ P s.heap ∧ u ≠ .builtin "__main__.__loader__#opaque" := by
  have base : ∀ t, TyX X.K G.H x t → TyV S y t → ∃ (tv : Value) (P : Heap → Prop), TyV S y tv ∧ PySem.W.KitX X.K u tv P ∧ P s.heap ∧ u ≠ .builtin "__main__.__loader__#opaque" := fun t ty hy => by
    obtain ⟨P, z, p, hx⟩ := kit_of I rx ty
    exact ⟨t, P, hy, z, p, hx⟩
  have inst : ∀ c a Ca dx kvs, x = .ref a → S.gv c = some (.ref Ca) → Rd G.H a (.ins Ca dx kvs) → y = .cl c → ∃ (tv : Value) (P : Heap → Prop), TyV S y tv ∧ PySem.W.KitX X.K u tv P ∧ P s.heap ∧ u ≠ .builtin "__main__.__loader__#opaque" := fun c a Ca dx kvs h1 h2 h3 h4 => by
    subst h1
    obtain rfl : u = Value.ref a := rx
    obtain ⟨mA, O, _⟩ := Rd.ins I.hok h3
    obtain ⟨od, J, _⟩ := O.look
    have k := hc c Ca h4 h2
    rw [← hK] at k
    exact ⟨.ref Ca, _, by rw [h4]; exact ⟨h2, _, rfl⟩, PySem.W.kitx_own (k.cl.get _) k.cl.hd k.ha k.hn k.htk k.hm, J, fun z => nomatch z⟩
  cases w with
  | non => cases e; simp only [RelW] at r; subst r; exact base _ (.base .non) rfl
  | bl b => cases e; simp only [RelW] at r; subst r; exact base _ (.base (.bl b)) rfl
  | int b => cases e; simp only [RelW] at r; subst r; exact base _ (.base (.int b)) rfl
  | str b => cases e; simp only [RelW] at r; subst r; exact base _ (.base (.str b)) rfl
  | tup ws =>
    cases e
    obtain ⟨a, vs, h1, h2, h3⟩ := tup_of r
    subst h1
    rcases h2 with (h2 | ⟨o, h2⟩) | ⟨o, its, n, h2, h4, h5⟩
    · exact base _ (.base (.tup h2)) rfl
    · exact base _ (.fTuple h2) rfl
    · exact base _ (.kTuple (hK ▸ h2) h4) rfl
  | lst ws =>
    cases e
    simp only [RelW] at r
    obtain ⟨a, o, vs, h1, h2, h3⟩ := r
    subst h1
    exact base _ (.base (.frz h2)) rfl
  | obj c fs ws =>
    cases e
    simp only [RelW] at r
    obtain ⟨a, o, Ca, dx, kvs, h1, h2, h3, h4, h5⟩ := r
    exact inst c a Ca dx kvs h1 h2 (.inr ⟨o, h3⟩) rfl
  | ref i =>
    unfold tyW at e
    simp only at e
    split at e
    · rename_i xs q
      cases e
      simp only [RelW] at r
      obtain ⟨vs, h1, h2⟩ := rs.cell _ _ q
      obtain ⟨hr, rfl⟩ := r
      exact base _ (.base (.lst h1)) rfl
    · rename_i c fs ws q
      cases e
      simp only [RelW] at r
      obtain ⟨Ca, dx, kvs, h2, h3, h4, h5⟩ := rs.cell _ _ q
      exact inst c _ Ca dx kvs r.2 h2 (.inl h3) rfl
    · cases e
  | _ => cases e
/-- isinstance(x, T) -/
def rIsiW (S : Sta) (C : Cf) : List V → Hp → VK → Prop := fun vs H Q => ∃ G st x c w y t b cu, vs = [x, c] ∧ G.H = H ∧ RelSt S G st ∧ RelW S G x w ∧ tyW w st = some y ∧ C.isi y t = some b ∧ TyV S t cu ∧ RelV c cu ∧ Q (.bl b) H
theorem cr_isiW (hK : X.K = S.K) (T : Tabs S C) : CallR X (.builtin "isinstance") (rIsiW S C) := by
  intro pins s σ H vs us Q I r h
  obtain ⟨G, st, x, c, w, y, t, b, cu, rfl, rfl, rs, rel, e1, e2, tc, rc, q⟩ := h
  obtain ⟨u1, u2, rfl, r1, r2⟩ := vals2 r
  obtain ⟨k1, k2⟩ := T.isi y t b e2
  obtain ⟨tv, P, h1, h2, h3, h4⟩ := kitW hK I rs rel r1 e1 (fun c a e g => k1 c a e g)
  have e3 : u2 = cu := by
    cases t with
    | ty n =>
      have tc : cu = .type n := tc
      subst tc
      cases c with
      | ty m => have rc : Value.type n = Value.type m := rc; cases rc; exact r2
      | ref a => exact nomatch (show Value.type n = Value.ref a from rc)
      | non => exact nomatch (show Value.type n = Value.none from rc)
      | bl k => exact nomatch (show Value.type n = Value.bool k from rc)
      | int k => obtain ⟨_, z⟩ := (show ∃ t, Value.type n = Value.int k t from rc); cases z
      | str k => obtain ⟨_, z⟩ := (show ∃ t, Value.type n = Value.str k t from rc); cases z
      | byt k => obtain ⟨_, z⟩ := (show ∃ t, Value.type n = Value.bytes k t from rc); cases z
      | flt k => obtain ⟨_, z⟩ := (show ∃ t, Value.type n = Value.float k t from rc); cases z
    | cl x =>
      obtain ⟨_, a, rfl⟩ := tc
      cases c with
      | ref b => have rc : Value.ref a = Value.ref b := rc; cases rc; exact r2
      | ty m => exact nomatch (show Value.ref a = Value.type m from rc)
      | non => exact nomatch (show Value.ref a = Value.none from rc)
      | bl k => exact nomatch (show Value.ref a = Value.bool k from rc)
      | int k => obtain ⟨_, z⟩ := (show ∃ t, Value.ref a = Value.int k t from rc); cases z
      | str k => obtain ⟨_, z⟩ := (show ∃ t, Value.ref a = Value.str k t from rc); cases z
      | byt k => obtain ⟨_, z⟩ := (show ∃ t, Value.ref a = Value.bytes k t from rc); cases z
      | flt k => obtain ⟨_, z⟩ := (show ∃ t, Value.ref a = Value.float k t from rc); cases z
  subst e3
  have e4 := k2 tv u2 h1 tc
  rw [← hK] at e4
  exact PySem.W.kia_one h2 I.kIn h3 e4 h4 fun tk => ⟨.bl b, G.H, I.tok tk, rfl, q⟩
theorem s_isi {p : Pos} {e T : Expr} {t : Ty} {c : V} {cu : Value} (hK : X.K = S.K) (Tb : Tabs S C) (hT : PE X T (tC c)) (tc : TyV S t cu) (rc : RelV c cu) (hg : Gl X "isinstance") (hm : X.mg "isinstance" = none) (hv : bootBuiltins "isinstance" = some (.builtin "isinstance")) (he : PE X e (tE S Wx fe))
    (h1 : starEach [e, T] X.env = (false, eval e X.env) :: starEach [T] X.env) (h2 : starEach [T] X.env = (false, eval T X.env) :: starEach [] X.env) (hpl : (backTo pos (starEach [T] X.env)).any (·.1) = false) :
    PE X (.Call (.Name "isinstance" p) [e, T] [] pos) (tE S Wx (fun ρ => do
      let w ← fe ρ
      let y ← M.lift (tyW w (← M.get))
      let b ← M.lift (C.isi y t)
      pure (.bl b))) := (pe_callB (cr_isiW hK Tb) hg hm hv (pa_cons he (pa_cons hT pa_nil h2) h1) (by decide) (by decide) h1 hpl).impW fun σ H Q h => by
  obtain ⟨G, ρ, st, a, fi⟩ := h
  unfold tCB tCons
  refine bindE a fi fun x H1 G1 w st1 b1 f1 => ?_
  obtain ⟨y, e1, f2⟩ := Fin.lift (o := tyW w st1) f1
  obtain ⟨b, e2, f3⟩ := Fin.lift f2
  obtain rfl := b1.at_.hp
  exact ⟨G1, st1, x, c, w, y, t, b, cu, rfl, rfl, b1.at_.st, b1.rel, e1, e2, tc, rc, f3 G1 (Grow.refl G1) b1.at_.st _ (by simp only [RelW])⟩

/-! ### stores -/
theorem putF_mem {f : Str} {y : V} : ∀ {kvs : List (Str × V)}, f ∈ kvs.map (·.1) → (putF f y kvs).map (·.1) = kvs.map (·.1) ∧ (putF f y kvs).map (·.2) = (kvs.map (·.2)).set ((kvs.map (·.1)).idxOf f) y
  | [], h => by simp at h
  | (g, x) :: kvs, h => by
    show (if g = f then (g, y) :: kvs else (g, x) :: putF f y kvs).map (·.1) = _ ∧ (if g = f then (g, y) :: kvs else (g, x) :: putF f y kvs).map (·.2) = _
    by_cases e : g = f
    · subst e
      simp
    · rw [if_neg e]
      have hm : f ∈ kvs.map (·.1) := by
        rw [List.map_cons] at h
        rcases List.mem_cons.mp h with z | z
        · exact absurd z.symm e
        · exact z
      obtain ⟨h1, h2⟩ := putF_mem (y := y) hm
      have hb : (g == f) = false := beq_eq_false_iff_ne.mpr e
      simp only [List.map_cons, h1, h2, List.idxOf_cons, hb, cond_false, List.set_cons_succ, and_self]
theorem putF_new {f : Str} {y : V} : ∀ {kvs : List (Str × V)}, f ∉ kvs.map (·.1) → putF f y kvs = kvs ++ [(f, y)]
  | [], _ => rfl
  | (g, x) :: kvs, h => by
    rw [List.map_cons, List.mem_cons, not_or] at h
    show (if g = f then (g, y) :: kvs else (g, x) :: putF f y kvs) = _
    rw [if_neg (fun e => h.1 e.symm), putF_new h.2]
    rfl
theorem setF_ok {v w : W} {st st' : St} {u : Unit} (h : setF C v f w st = .ok u st') : ∃ i c fs xs, v = .ref i ∧ st[i]? = some (.ins c fs xs) ∧ C.att c f = true ∧ fs.length < 1000 ∧ ((f ∈ fs ∧ st' = st.set i (.ins c fs (xs.set (fs.idxOf f) w))) ∨ (f ∉ fs ∧ st' = st.set i (.ins c (fs ++ [f]) (xs ++ [w])))) := by
  unfold setF at h
  split at h
  · rename_i i
    split at h
    · rename_i c fs xs e
      split at h
      · rename_i ha
        split at h
        · rename_i hm
          cases h
          exact ⟨i, c, fs, xs, rfl, e, ha.1, ha.2, .inl ⟨hm, rfl⟩⟩
        · rename_i hm
          cases h
          exact ⟨i, c, fs, xs, rfl, e, ha.1, ha.2, .inr ⟨hm, rfl⟩⟩
      · cases h
    · cases h
  · cases h
theorem Fin.unit {σ : Sl} {G : Wd} {α : Type} {P : α → Wd → St → Prop} {m : M Unit} {k : M α} {st : St} (hm : ∀ c fs xs st', m st ≠ .exc c fs xs st') (h : Fin S Wx σ G P ((m >>= fun _ => k) st)) : ∃ st1, m st = .ok () st1 ∧ Fin S Wx σ G P (k st1) := by
  have h : Fin S Wx σ G P (M.bind m (fun _ => k) st) := h
  unfold M.bind at h
  cases e : m st with
  | ok a st' => rw [e] at h; exact ⟨st', rfl, h⟩
  | exc c fs xs st' => exact (hm _ _ _ _ e).elim
  | stuck => rw [e] at h; exact h.elim
theorem setF_nx {v w : W} {st : St} : ∀ c fs xs st', setF C v f w st ≠ .exc c fs xs st' := fun c fs xs st' h => by
  unfold setF at h
  split at h
  · split at h
    · split at h
      · split at h <;> cases h
      · cases h
    · cases h
  · cases h
theorem setI_nx {v k w : W} {st : St} : ∀ c fs xs st', setI v k w st ≠ .exc c fs xs st' := fun c fs xs st' h => by
  unfold setI at h
  split at h
  · split at h
    · split at h <;> cases h
    · cases h
  · cases h
theorem setI_ok {v k w : W} {st st' : St} {u : Unit} (h : setI v k w st = .ok u st') : ∃ i j xs n, v = .ref i ∧ k = .int j ∧ st[i]? = some (.lst xs) ∧ L2.ixN xs.length j = some n ∧ st' = st.set i (.lst (xs.set n w)) := by
  unfold setI at h
  split at h
  · rename_i i j
    split at h
    · rename_i xs e
      split at h
      · rename_i n hn
        cases h
        exact ⟨i, j, xs, n, rfl, rfl, e, hn, rfl⟩
      · cases h
    · cases h
  · cases h
theorem g_attr (hK : X.K = S.K) (T : Tabs S C) (ho : PE X o (tE S Wf fo)) : PG X (.Attribute o f pos) (tG S Wf [] (fun w ρ => do let v ← fo ρ; setF C v f w; pure ρ)) := by
  refine ⟨fun pins s σ H v u Q I r h => ?_⟩
  obtain ⟨G, ρ, st, w, a, rw, fi⟩ := h
  have hE : tE S Wf fo σ H (fun x H1 => ∃ p Ca dx kvs, x = .ref p ∧ H1 p = some (.ins Ca dx kvs) ∧ Cls X.K Ca ∧ NoAttr X.K Ca f ∧ kvs.length < 1000 ∧ Q σ (upd H1 p (.ins Ca dx (putF f v kvs)))) := by
    refine bindE a fi fun x H1 G1 w1 st1 b1 f1 => ?_
    obtain ⟨st2, e1, f2⟩ := Fin.unit setF_nx f1
    obtain ⟨i, c, fs, xs, ew, e2, hatt, hz, hh⟩ := setF_ok e1
    subst ew
    have r1 := b1.rel
    simp only [RelW] at r1
    obtain ⟨Ca, dx, kvs, h2, h3, h4, h5⟩ := b1.at_.st.cell i _ e2
    obtain ⟨k1, k2⟩ := T.att c f Ca hatt h2
    have rv := RelW.grow b1.gr _ _ rw
    have g := Grow.cell (G := G1) (o := .ins Ca dx (putF f v kvs)) r1.1 h3 (fun _ z => by cases z) (fun _ _ z => by cases z) (fun _ z => by cases z)
    have hlen : kvs.length = fs.length := by rw [← h4, List.length_map]
    obtain rfl := b1.at_.hp
    have fin : kvs.length < 1000 ∧ ∃ c2, st2 = st1.set i c2 ∧ RelC S (G1.put (G1.μ i) (.ins Ca dx (putF f v kvs))) (G1.μ i) c2 := by
      rcases hh with ⟨hm, rfl⟩ | ⟨hm, rfl⟩
      · subst h4
        obtain ⟨z1, z2⟩ := putF_mem (y := v) hm
        refine ⟨by rw [hlen]; exact hz, _, rfl, Ca, dx, _, h2, upd_same, z1, ?_⟩
        rw [z2]; exact RelWs.grow g _ _ (RelWs.set rv _ h5)
      · subst h4
        refine ⟨by rw [hlen]; exact hz, _, rfl, Ca, dx, _, h2, upd_same, ?_, ?_⟩
        · rw [putF_new hm]; simp
        · have z := RelWs.grow g _ _ (h5.append (RelWs.cons rv RelWs.nil))
          rw [putF_new hm] at z ⊢
          rw [List.map_append]; exact z
    obtain ⟨hl, c2, rfl, rc⟩ := fin
    have rs := b1.at_.st.cellSet r1.1 g rc
    exact ⟨G1.μ i, Ca, dx, kvs, r1.2, h3, hK ▸ k1, hK ▸ k2, hl, f2 (G1.put (G1.μ i) (.ins Ca dx (putF f v kvs))) g rs σ (b1.at_.sl.grow g) rfl fun _ _ => rfl⟩
  refine PySem.W.kas_attr (thn (ho.run pins s σ H _ I hE) fun ov s1 ⟨x, H1, I1, rx, p, Ca, dx, kvs, ex, ea, c, n, l, q⟩ => ?_)
  subst ex
  obtain rfl : ov = Value.ref p := rx
  exact setattr_ok I1 ea c n l r fun s3 I3 => ⟨σ, _, I3, q⟩
theorem g_ix {i : Expr} {fi : Ρ → M W} (ho : PE X o (tE S Wf fo)) (hi : PE X i (tE S Wf fi))
    (ha : ∀ v, assign (.Subscript o i pos) X.env v = (do
      let ov ← holding [v] (eval o X.env)
      let iv ← holding [v, ov] (eval i X.env)
      standAt pos
      holding [v, ov, iv] (setItem ov iv v)
      release [v, ov, iv] [])) : PG X (.Subscript o i pos) (tG S Wf [] (fun w ρ => do let v ← fo ρ; let k ← fi ρ; setI v k w; pure ρ)) := (pg_sub ho hi set_list ha).impW fun v σ H Q h => by
  obtain ⟨G, ρ, st, w, a, rw, f⟩ := h
  unfold gSub
  refine bindE a f fun x H1 G1 w1 st1 b1 f1 => ?_
  refine bindE b1.at_ f1 fun y H2 G2 w2 st2 b2 f2 => ?_
  obtain ⟨st3, e1, f3⟩ := Fin.unit setI_nx f2
  obtain ⟨i, j, xs, n, e2, e3, e4, e5, e6⟩ := setI_ok e1
  subst e2 e3 e6
  obtain ⟨hi, ex, vs, hH, rv⟩ := cell_lst b2.at_.st (RelW.grow b2.gr _ _ b1.rel) e4
  have ry := b2.rel
  simp only [RelW] at ry
  have rw2 := RelW.grow (b1.gr.trans b2.gr) _ _ rw
  obtain ⟨g, rs⟩ := cell_put (xs := xs) b2.at_.st hi hH (RelWs.set rw2 n rv)
  obtain rfl := b2.at_.hp
  exact ⟨_, vs, j, n, ex, ry, hH, by rw [rv.length]; exact e5, f3 _ g rs σ (b2.at_.sl.grow g) rfl fun _ _ => rfl⟩
end
end Pf

/-! part P18 -/
set_option Elab.async false
set_option linter.all false
set_option maxRecDepth 100000
set_option autoImplicit false
set_option maxHeartbeats 1000000
/-! The end of a def: cells made within are gone. -/
namespace Pf
open PySem PySem.Spec PyProof.Rows L2

/-- fewer cells -/
def Wd.cut (G : Wd) (n : Nat) : Wd := ⟨n, G.μ, G.H⟩
/-- the cells below n, and the one at i -/
def Wd.cutK (G : Wd) (n i : Nat) : Wd := ⟨n + 1, fun j => if j < n then G.μ j else G.μ i, G.H⟩
section
variable {S : Sta} {G G0 : Wd} {st : St} {n i : Nat}
mutual
/-- values that reach no cell at n or above lie the same where the cells below n and the fixed things do -/
theorem low_rel {G' : Wd} (hn : n ≤ G'.n) (hμ : ∀ j, j < n → G'.μ j = G.μ j) (ht : ∀ a xs, G.H a = some (.tup xs) → G'.H a = some (.tup xs)) (hf : ∀ a o u, G.H a = some (.frz o u) → G'.H a = some (.frz o u)) (he' : ∀ a φ, G.H a = some (.ext φ) → G'.H a = some (.ext φ)) : ∀ (w : W) (v : V), w.low n = true → RelW S G v w → RelW S G' v w
  | .non, _, _, h => h
  | .bl _, _, _, h => h
  | .int _, _, _, h => h
  | .str _, _, _, h => h
  | .tup ws, v, l, h => by
    simp only [W.low] at l
    simp only [RelW] at h ⊢
    obtain ⟨a, vs, e, q, r⟩ := h
    refine ⟨a, vs, e, ?_, lows_rel hn hμ ht hf he' ws vs l r⟩
    rcases q with (q | ⟨o, q⟩) | q
    · exact .inl (.inl (ht _ _ q))
    · exact .inl (.inr ⟨o, hf _ _ _ q⟩)
    · exact .inr q
  | .lst ws, v, l, h => by
    simp only [W.low] at l
    simp only [RelW] at h ⊢
    obtain ⟨a, o, vs, e, q, r⟩ := h
    exact ⟨a, o, vs, e, hf _ _ _ q, lows_rel hn hμ ht hf he' ws vs l r⟩
  | .dic ks ws, v, l, h => by
    simp only [W.low] at l
    simp only [RelW] at h ⊢
    obtain ⟨a, o, vs, e, q, k, r⟩ := h
    exact ⟨a, o, vs, e, hf _ _ _ q, k, lows_rel hn hμ ht hf he' ws _ l r⟩
  | .obj c fs ws, v, l, h => by
    simp only [W.low] at l
    simp only [RelW] at h ⊢
    obtain ⟨a, o, C, dx, kvs, e, c, q, k, r⟩ := h
    exact ⟨a, o, C, dx, kvs, e, c, hf _ _ _ q, k, lows_rel hn hμ ht hf he' ws _ l r⟩
  | .ref j, v, l, h => by
    simp only [W.low, decide_eq_true_eq] at l
    simp only [RelW] at h ⊢
    exact ⟨Nat.lt_of_lt_of_le l hn, by rw [hμ j l]; exact h.2⟩
  | .glo x, v, _, h => by simpa only [RelW] using h
  | .ty m, v, _, h => h
  | .clo m ws, v, l, h => by
    simp only [W.low] at l
    simp only [RelW] at h ⊢
    obtain ⟨a, c, vs, e, q, k, r⟩ := h
    exact ⟨a, c, vs, e, q, he' _ _ k, lows_rel hn hμ ht hf he' ws vs l r⟩
theorem lows_rel {G' : Wd} (hn : n ≤ G'.n) (hμ : ∀ j, j < n → G'.μ j = G.μ j) (ht : ∀ a xs, G.H a = some (.tup xs) → G'.H a = some (.tup xs)) (hf : ∀ a o u, G.H a = some (.frz o u) → G'.H a = some (.frz o u)) (he' : ∀ a φ, G.H a = some (.ext φ) → G'.H a = some (.ext φ)) : ∀ (ws : List W) (vs : List V), lows n ws = true → RelWs S G vs ws → RelWs S G' vs ws
  | [], _, _, h => by simpa only [RelWs] using h
  | w :: ws, vs, l, h => by
    simp only [lows, Bool.and_eq_true] at l
    simp only [RelWs] at h ⊢
    obtain ⟨v, r, e, q, q2⟩ := h
    exact ⟨v, r, e, low_rel hn hμ ht hf he' w v l.1 q, lows_rel hn hμ ht hf he' ws r l.2 q2⟩
end
theorem lowC_rel {G' : Wd} {a : Addr} {c : Cell} (hn : n ≤ G'.n) (hμ : ∀ j, j < n → G'.μ j = G.μ j) (ht : ∀ a xs, G.H a = some (.tup xs) → G'.H a = some (.tup xs)) (hf : ∀ a o u, G.H a = some (.frz o u) → G'.H a = some (.frz o u)) (he' : ∀ a φ, G.H a = some (.ext φ) → G'.H a = some (.ext φ)) (l : c.low n = true) (he : G'.H a = G.H a) (h : RelC S G a c) : RelC S G' a c := by
  cases c with
  | lst ws => obtain ⟨vs, h1, h2⟩ := h; exact ⟨vs, he.trans h1, lows_rel hn hμ ht hf he' ws vs l h2⟩
  | ins c fs ws => obtain ⟨C, dx, kvs, h0, h1, h2, h3⟩ := h; exact ⟨C, dx, kvs, h0, he.trans h1, h2, lows_rel hn hμ ht hf he' ws _ l h3⟩
theorem take_get {α : Type} {xs : List α} {n j : Nat} {x : α} (h : (xs.take n)[j]? = some x) : j < n ∧ xs[j]? = some x := by
  by_cases hj : j < n
  · rw [List.getElem?_take_of_lt hj] at h; exact ⟨hj, h⟩
  · rw [List.getElem?_eq_none (by rw [List.length_take]; omega)] at h; cases h
/-- a heap that keeps all but (perhaps) one cell that goes -/
theorem cut_grow {H' : Hp} (g : Grow G0 G) (hk : ∀ a o, G.H a = some o → (∀ j, n ≤ j → j < G.n → G.μ j ≠ a) → H' a = some o) (hno : ∀ a, H' a = none → G.H a = none) (ht : ∀ a xs, G.H a = some (.tup xs) → H' a = some (.tup xs)) (hf : ∀ a o u, G.H a = some (.frz o u) → H' a = some (.frz o u)) (hx : ∀ a φ, G.H a = some (.ext φ) → H' a = some (.ext φ)) (e : G0.n = n) : Grow G0 ⟨n, G.μ, H'⟩ where
  le := Nat.le_of_eq e
  at_ := g.at_
  tup := fun a xs h => ht a xs (g.tup a xs h)
  frz := fun a o u h => hf a o u (g.frz a o u h)
  ext := fun a φ h => hx a φ (g.ext a φ h)
  keep := fun a o h nt nc => hk a o (g.keep a o h nt nc) fun j h1 h2 z => by
    have := g.fresh j (by rw [e]; exact h1) h2
    rw [z, h] at this; cases this
  there := fun a h => g.there a (hno a h)
  fresh := fun j h1 h2 => absurd (show j < n from h2) (by omega)
theorem cut_st {H' : Hp} (rs : RelSt S G st) (hn : n ≤ G.n) (hk : ∀ j, j < n → H' (G.μ j) = G.H (G.μ j)) (ht : ∀ a xs, G.H a = some (.tup xs) → H' a = some (.tup xs)) (hf : ∀ a o u, G.H a = some (.frz o u) → H' a = some (.frz o u)) (hx : ∀ a φ, G.H a = some (.ext φ) → H' a = some (.ext φ)) (l : (st.take n).all (Cell.low n) = true) (tb : TabsAll S.T H') : RelSt S ⟨n, G.μ, H'⟩ (st.take n) := by
  refine ⟨by rw [List.length_take, rs.len]; exact Nat.min_eq_left hn, fun i j h1 h2 => rs.inj i j (Nat.lt_of_lt_of_le h1 hn) (Nat.lt_of_lt_of_le h2 hn), fun j c q => ?_, tb⟩
  obtain ⟨hj, q2⟩ := take_get q
  have lc := List.all_eq_true.mp l c (List.mem_of_getElem? q)
  exact lowC_rel (G := G) (G' := ⟨n, G.μ, H'⟩) (Nat.le_refl _) (fun _ _ => rfl) ht hf hx lc (hk j hj) (rs.cell j c q2)
/-- .. and one cell more that stays -/
theorem cutK_grow (g : Grow G0 G) (e : G0.n = n) (hi : n ≤ i) (hi2 : i < G.n) : Grow G0 (G.cutK n i) where
  le := by show G0.n ≤ n + 1; omega
  at_ := fun j hj => by show (if j < n then G.μ j else G.μ i) = _; rw [if_pos (by omega)]; exact g.at_ j hj
  tup := g.tup
  frz := g.frz
  ext := g.ext
  keep := g.keep
  there := g.there
  fresh := fun j h1 h2 => by
    have h2 : j < n + 1 := h2
    show G0.H (if j < n then G.μ j else G.μ i) = none
    rw [if_neg (by omega)]
    exact g.fresh i (by omega) hi2
theorem cutK_st {c : Cell} (rs : RelSt S G st) (hi : n ≤ i) (hi2 : i < G.n) (l : (st.take n).all (Cell.low n) = true) (lc : c.low n = true) (q : st[i]? = some c) : RelSt S (G.cutK n i) (st.take n ++ [c]) := by
  have hn : n ≤ G.n := by omega
  have hl : (st.take n).length = n := by rw [List.length_take, rs.len]; exact Nat.min_eq_left hn
  have hμ : ∀ j, j < n → (G.cutK n i).μ j = G.μ j := fun j hj => if_pos hj
  have hμn : (G.cutK n i).μ n = G.μ i := if_neg (Nat.lt_irrefl _)
  refine ⟨by rw [List.length_append, hl]; rfl, fun a b h1 h2 e => ?_, fun j d q2 => ?_, rs.tabs⟩
  · have h1 : a < n + 1 := h1
    have h2 : b < n + 1 := h2
    by_cases ha : a < n
    · rw [hμ a ha] at e
      by_cases hb : b < n
      · rw [hμ b hb] at e; exact rs.inj a b (by omega) (by omega) e
      · have : b = n := by omega
        subst this
        rw [hμn] at e
        have := rs.inj a i (by omega) hi2 e
        omega
    · have : a = n := by omega
      subst this
      rw [hμn] at e
      by_cases hb : b < a
      · rw [hμ b hb] at e
        have := rs.inj i b hi2 (by omega) e
        omega
      · omega
  · by_cases hj : j < n
    · rw [List.getElem?_append_left (by rw [hl]; exact hj)] at q2
      obtain ⟨_, q3⟩ := take_get q2
      rw [hμ j hj]
      exact lowC_rel (G' := G.cutK n i) (Nat.le_succ _) hμ (fun _ _ h => h) (fun _ _ _ h => h) (fun _ _ h => h) (List.all_eq_true.mp l d (List.mem_of_getElem? q2)) rfl (rs.cell j d q3)
    · rw [List.getElem?_append_right (by rw [hl]; omega), hl] at q2
      have hz : j - n = 0 := by
        cases k : j - n with
        | zero => rfl
        | succ m => rw [k] at q2; simp at q2
      rw [hz] at q2
      simp only [List.getElem?_cons_zero, Option.some.injEq] at q2
      subst q2
      have : j = n := by omega
      subst this
      rw [hμn]
      exact lowC_rel (G' := G.cutK j i) (Nat.le_succ _) hμ (fun _ _ h => h) (fun _ _ _ h => h) (fun _ _ h => h) lc rfl (rs.cell i c q)
/-- a cell is fixed, and gone -/
theorem frz_cut {c : Cell} {o : Obj} {u : HO} (g : Grow G0 G) (rs : RelSt S G st) (e : G0.n = n) (hi : n ≤ i) (hi2 : i < G.n) (l : (st.take n).all (Cell.low n) = true) (lc : c.low n = true) (q : st[i]? = some c) (hu : G.H (G.μ i) = some u) :
    Grow G0 ⟨n, G.μ, upd G.H (G.μ i) (.frz o u)⟩ ∧ RelSt S ⟨n, G.μ, upd G.H (G.μ i) (.frz o u)⟩ (st.take n) ∧ RelW S ⟨n, G.μ, upd G.H (G.μ i) (.frz o u)⟩ (.ref (G.μ i)) c.val := by
  have hn : n ≤ G.n := by omega
  obtain ⟨u', hu', _, nt, nf⟩ := (rs.cell i c q).some
  have : u' = u := by rw [hu] at hu'; exact (Option.some.inj hu').symm
  subst this
  obtain ⟨kx, kt⟩ := (rs.cell i c q).noext u' hu
  have tb : TabsAll S.T (upd G.H (G.μ i) (.frz o u')) := tabs_keep rs.tabs (fun a ps e => by rw [upd_ne (fun z => by rw [z, hu] at e; exact kt ps (Option.some.inj e))]; exact e) (fun a φ e => by rw [upd_ne (fun z => by rw [z, hu] at e; exact kx φ (Option.some.inj e))]; exact e) (fun a ps e => ⟨ps, by
    by_cases z : a = G.μ i
    · rw [z, upd_same] at e; cases e
    · rw [upd_ne z] at e; exact e⟩)
  have ht : ∀ a xs, G.H a = some (.tup xs) → upd G.H (G.μ i) (.frz o u') a = some (.tup xs) := fun a xs h => by rw [upd_ne (fun z => by rw [z, hu] at h; exact nt xs (Option.some.inj h))]; exact h
  have hf : ∀ a ob v, G.H a = some (.frz ob v) → upd G.H (G.μ i) (.frz o u') a = some (.frz ob v) := fun a ob v h => by rw [upd_ne (fun z => by rw [z, hu] at h; exact nf ob v (Option.some.inj h))]; exact h
  have hx : ∀ a φ, G.H a = some (.ext φ) → upd G.H (G.μ i) (.frz o u') a = some (.ext φ) := fun a φ h => by rw [upd_ne (fun z => by rw [z, hu] at h; exact kx φ (Option.some.inj h))]; exact h
  refine ⟨cut_grow g (fun a ob h nc => by rw [upd_ne (fun z => nc i hi hi2 z.symm)]; exact h) (fun a h => ?_) ht hf hx e, cut_st rs hn (fun j hj => upd_ne (fun z => by have := rs.inj j i (by omega) hi2 z; omega)) ht hf hx l tb, ?_⟩
  · by_cases z : a = G.μ i
    · rw [z, upd_same] at h; cases h
    · rw [upd_ne z] at h; exact h
  · have rc := rs.cell i c q
    cases c with
    | lst ws =>
      obtain ⟨vs, h1, h2⟩ := rc
      rw [hu] at h1
      cases h1
      simp only [Cell.val, RelW]
      exact ⟨_, o, vs, rfl, upd_same, lows_rel (G := G) (G' := ⟨n, G.μ, upd G.H (G.μ i) (.frz o (.lst vs))⟩) (Nat.le_refl _) (fun _ _ => rfl) ht hf hx ws vs lc h2⟩
    | ins c fs ws =>
      obtain ⟨C, dx, kvs, h0, h1, h2, h3⟩ := rc
      rw [hu] at h1
      cases h1
      simp only [Cell.val, RelW]
      exact ⟨_, o, C, dx, kvs, rfl, h0, upd_same, h2, lows_rel (G := G) (G' := ⟨n, G.μ, upd G.H (G.μ i) (.frz o (.ins C dx kvs))⟩) (Nat.le_refl _) (fun _ _ => rfl) ht hf hx ws _ lc h3⟩
end

/-! ### behind the body -/
/-- what is wanted, perhaps once the value is fixed -/
def QF (Q : VK) : VK := fun v H => Q v H ∨ ∃ p u, v = .ref p ∧ H p = some u ∧ (∀ xs, u ≠ .tup xs) ∧ (∀ ps, u ≠ .tbl ps) ∧ (∀ o' u', u ≠ .frz o' u') ∧ (∀ a, u ≠ .own a) ∧ ∀ o, Q v (upd H p (.frz o u))
def Wu (E : XK) : WX := fun c d _ H => E c d H
theorem RelC.kind {S : Sta} {G : Wd} {a : Addr} {c : Cell} (h : RelC S G a c) : ∃ u : HO, G.H a = Option.some u ∧ (∀ xs, u ≠ .tup xs) ∧ (∀ ps, u ≠ .tbl ps) ∧ (∀ o' u', u ≠ .frz o' u') ∧ (∀ a, u ≠ .own a) := by
  cases c with
  | lst ws => obtain ⟨vs, h1, h2⟩ := h; exact ⟨_, h1, (fun _ z => by cases z), (fun _ z => by cases z), (fun _ _ z => by cases z), (fun _ z => by cases z)⟩
  | ins c fs ws => obtain ⟨C, dx, kvs, h0, h1, h2, h3⟩ := h; exact ⟨_, h1, (fun _ z => by cases z), (fun _ z => by cases z), (fun _ _ z => by cases z), (fun _ z => by cases z)⟩
section
variable {S : Sta} {G0 : Wd} {n : Nat} {E : XK} {Q : VK} {ρx : Ρ} {σ : Sl} {mu : Bool}
abbrev PQ (S : Sta) (Q : VK) : W → Wd → St → Prop := fun w G' _ => ∀ v, RelW S G' v w → Q v G'.H
theorem fin_of {r : R Fl} (e : G0.n = n) (h : Fin S (Wu E) σ G0 (PQ S Q) (fin mu n r)) : FinS S (Wu E) ρx G0 { nx := fun _ H' => QF Q .non H', rt := QF Q } r := by
  cases r with
  | stuck => exact h
  | exc c fs xs st =>
    simp only [fin] at h
    split at h
    · rename_i hh
      simp only [Bool.and_eq_true, decide_eq_true_eq] at hh
      obtain ⟨⟨l, hn⟩, lx⟩ := hh
      intro G' σ' C d kvs g rs _ hgv hd hf hr
      have hn' : n ≤ G'.n := by rw [← rs.len]; exact hn
      have g2 := cut_grow (n := n) (H' := G'.H) g (fun _ _ h _ => h) (fun _ h => h) (fun _ _ h => h) (fun _ _ _ h => h) (fun _ _ h => h) e
      have rs2 := cut_st (H' := G'.H) rs hn' (fun _ _ => rfl) (fun _ _ h => h) (fun _ _ _ h => h) (fun _ _ h => h) l rs.tabs
      exact h ⟨n, G'.μ, G'.H⟩ C d kvs g2 rs2 hgv hd hf (lows_rel (G := G') (G' := ⟨n, G'.μ, G'.H⟩) (Nat.le_refl _) (fun _ _ => rfl) (fun _ _ h => h) (fun _ _ _ h => h) (fun _ _ h => h) xs _ lx hr)
    · exact h.elim
  | ok f st =>
    unfold fin at h
    have key : ∀ (w : W), Fin S (Wu E) σ G0 (PQ S Q) (if ((st.take n).all (Cell.low n) && decide (n ≤ st.length)) = true then
        (if w.low n = true then R.ok w (st.take n) else match w with
          | .ref i => (match st[i]? with
            | some c => if c.low n = true then (if mu = true then .ok (.ref n) (st.take n ++ [c]) else .ok c.val (st.take n)) else .stuck
            | none => .stuck)
          | _ => .stuck)
        else .stuck) → ∀ G' v, Grow G0 G' → RelSt S G' st → RelW S G' v w → QF Q v G'.H := by
      intro w h G' v g rs r
      split at h
      · rename_i hh
        simp only [Bool.and_eq_true, decide_eq_true_eq] at hh
        obtain ⟨l, hn⟩ := hh
        have hn' : n ≤ G'.n := by rw [← rs.len]; exact hn
        have g2 := cut_grow (n := n) (H' := G'.H) g (fun _ _ h _ => h) (fun _ h => h) (fun _ _ h => h) (fun _ _ _ h => h) (fun _ _ h => h) e
        have rs2 := cut_st (H' := G'.H) rs hn' (fun _ _ => rfl) (fun _ _ h => h) (fun _ _ _ h => h) (fun _ _ h => h) l rs.tabs
        split at h
        · rename_i lw
          exact .inl (h ⟨n, G'.μ, G'.H⟩ g2 rs2 v (low_rel (G := G') (G' := ⟨n, G'.μ, G'.H⟩) (Nat.le_refl _) (fun _ _ => rfl) (fun _ _ h => h) (fun _ _ _ h => h) (fun _ _ h => h) w v lw r))
        · rename_i lw
          split at h
          · rename_i i
            split at h
            · rename_i c q
              split at h
              · rename_i lc
                simp only [W.low, decide_eq_true_eq] at lw
                have hi : n ≤ i := Nat.not_lt.mp lw
                simp only [RelW] at r
                split at h
                · have g3 := cutK_grow g e hi r.1
                  have rs3 := cutK_st rs hi r.1 l lc q
                  refine .inl (h (G'.cutK n i) g3 rs3 v ?_)
                  simp only [RelW]
                  exact ⟨Nat.lt_succ_self _, by rw [r.2]; show _ = V.ref (if n < n then _ else _); rw [if_neg (Nat.lt_irrefl _)]⟩
                · obtain ⟨u, k1, k2, k3, k4, k5⟩ := (rs.cell i c q).kind
                  refine .inr ⟨G'.μ i, u, r.2, k1, k2, k3, k4, k5, fun o => ?_⟩
                  obtain ⟨g3, rs3, r3⟩ := frz_cut (o := o) g rs e hi r.1 l lc q k1
                  exact h _ g3 rs3 v (by rw [r.2]; exact r3)
              · exact h.elim
            · exact h.elim
          · exact h.elim
      · exact h.elim
    cases f with
    | nx ρ' => exact fun G' σ' g rs _ _ => key .non h G' .non g rs (by simp only [RelW])
    | rt w => exact fun G' v g rs r => key w h G' v g rs r
end
end Pf

/-! part P19 -/
set_option Elab.async false
set_option linter.all false
set_option maxRecDepth 100000
set_option autoImplicit false
set_option maxHeartbeats 1000000
/-! Defs and their calls. -/
namespace Pf
open PySem PySem.Spec PyProof.Rows L2

/-- a def's promise -/
def spW (S : Sta) (rn : List W → M W) : List V → Hp → VK → XK → Prop := fun vs H Q E => ∃ G st ws, G.H = H ∧ RelSt S G st ∧ RelWs S G vs ws ∧ Fin S (Wu E) [] G (PQ S Q) (rn ws st)
structure FnR (Rg : List Env → Shared → Hp → Prop) (S : Sta) (P : Program) (w : World) (base : Heap) (k : Nat) (f : Addr) (fd : FuncData) (ps : List Str) (rn : List W → M W) : Prop where
  run : ∀ (A : Around) (outer : List Env) (s : Shared) (H : Hp) (args : Args) (us : List Value) (vs : List V) (Q : VK) (E : XK), Room k A → A.guards = some [] → Env0 P w S.K S.gv base A outer s H → BindsTo s fd args (ps.zip us) → Vals vs us → us.length = ps.length →
    Rg outer s H → spW S rn vs H Q E → codeAny (model P w) A (.call (.ref f) args) (CR (L2N.CX P w) outer P w H s Q E) s
abbrev FnW := FnR fun _ _ _ => True
theorem FnR.mono {Rg : List Env → Shared → Hp → Prop} {S : Sta} {P : Program} {w : World} {base : Heap} {j k : Nat} {f : Addr} {fd : FuncData} {ps : List Str} {rn : List W → M W} (F : FnR Rg S P w base j f fd ps rn) (h : j ≤ k) : FnR Rg S P w base k f fd ps rn :=
  ⟨fun A outer s H args us vs Q E hr => F.run A outer s H args us vs Q E (hr.mono h)⟩

theorem obj_at {P : Program} {w : World} {H : Hp} {h : Heap} {p : Addr} {u : HO} (k : HOk P w H h) (e : H p = some u) : ∃ o, h.get? p = some o := by
  have q := k p u e
  cases u with
  | lst xs => obtain ⟨_, _, _, _, e⟩ := q; exact ⟨_, e⟩
  | tup xs => obtain ⟨_, _, _, o, e, _⟩ := q; exact ⟨_, e⟩
  | dK kvs => obtain ⟨_, _, _, _, o, _, _, e, _⟩ := q; exact ⟨_, e⟩
  | dT kvs => obtain ⟨_, _, _, _, o, _, _, e, _⟩ := q; exact ⟨_, e⟩
  | set S n => obtain ⟨o, _, _, _, e, _⟩ := q; exact ⟨_, e⟩
  | ins C dx fs => obtain ⟨_, _, _, e, _⟩ := q; exact ⟨_, e⟩
  | own y => obtain ⟨_, e⟩ := q; exact ⟨_, e⟩
  | xd fs => obtain ⟨_, ⟨_, _, _, e, _⟩, _⟩ := q; exact ⟨_, e⟩
  | rng lo hi => obtain ⟨_, _, _, e⟩ := q; exact ⟨_, e⟩
  | frz ob u => exact ⟨_, q.1⟩
  | tbl ps => exact ⟨_, show h.get? p = some _ from q⟩
  | met f y => exact ⟨_, show h.get? p = some _ from q⟩
  | ext φ => obtain ⟨_, ⟨_, e⟩, _⟩ := q; exact ⟨_, e⟩
/-- the value is fixed behind the def -/
theorem CE.frz {outer : List Env} {P : Program} {w : World} {H : Hp} {s s' : Shared} {Q : VK} {u : Value} (h : CE outer P w H s (QF Q) u s') : CE outer P w H s Q u s' := by
  obtain ⟨v, H', os, bare, un, hok, r, q⟩ := h
  rcases q with q | ⟨p, x, rfl, hp, n1, n2, n3, n4, q⟩
  · exact ⟨v, H', os, bare, un, hok, r, q⟩
  · obtain ⟨o, ho⟩ := obj_at hok hp
    exact ⟨_, _, os, bare, un.trans (frz_un hp n1 n2 n3), frz_hok hok hp ho n1 n4, r, q o⟩

theorem start_sl {S : Sta} {G : Wd} {N : List Str} {vs : List V} {ws : List W} {n m : Nat} (r : RelWs S G vs ws) (hN : N.length = m) (hn : ws.length = n) : RelSl S G (L2.start N vs) (ws.map some ++ List.replicate (m - n) none) := by
  have hl := r.length
  refine ⟨?_, fun i w e => ?_⟩
  · unfold L2.start
    simp only [List.length_append, List.length_map, List.length_replicate]
    omega
  · by_cases hi : i < ws.length
    · rw [List.getElem?_append_left (by simpa using hi), List.getElem?_map] at e
      cases q : ws[i]? with
      | none => rw [q] at e; cases e
      | some u =>
        rw [q] at e
        cases e
        obtain ⟨v, h1, h2⟩ := r.get q
        refine ⟨v, ?_, h2⟩
        unfold L2.start
        rw [List.getElem?_append_left (by rw [List.length_map, hl]; exact hi), List.getElem?_map, h1]
        rfl
    · rw [List.getElem?_append_right (by simpa using Nat.not_lt.mp hi), List.getElem?_replicate] at e
      split at e <;> cases e
theorem open_none {n i : Nat} : Open (List.replicate n (none : Option W)) i := fun w h => by
  rw [List.getElem?_replicate] at h
  split at h <;> cases h
theorem sl_none {S : Sta} {G : Wd} {σ : Sl} {n : Nat} (h : σ.length = n) : RelSl S G σ (List.replicate n none) := ⟨by rw [List.length_replicate, h], fun i w e => absurd e (open_none w)⟩

/-- a def of the text -/
theorem fnR_of {Rg : List Env → Shared → Hp → Prop} {S : Sta} {C : Cf} {P : Program} {w : World} {base : Heap} {k : Nat} {f : Addr} {name qual : Str} {params : Arguments} {body : List Stmt} {scope : Scope} {dV kV doc pm cdv ct oc : Value} {an od : Option Addr}
    {osl : Array (Option Value)} {N ps : List Str} {fd : Fd} (lk : S.K.lookup f = some ⟨oc, od, .func (PySem.W.fnOf name qual params body scope dV kV doc pm an cdv ct), osl⟩) (hcd : PySem.W.codeIn S.K cdv qual = true) (SC : FnScope N ps scope)
    (hN : N.length = fd.slots) (hps : ps.length = fd.ps)
    (hbody : ∀ (A : Around) (outer : List Env) (s : Shared) (H : Hp) (E : XK), Room k (A.deeper (envOfC qual scope s.heap.objs.size f cdv)) → (A.deeper (envOfC qual scope s.heap.objs.size f cdv)).guards = some [] → Rg outer s H →
      PSs (cxOf (L2N.CX P w) P w S.K S.gv base N qual scope f cdv A outer s H E) body (tS S (Wu E) (List.replicate N.length none) (execs C fd.body))) :
    FnR Rg S P w base (k + 1) f (PySem.W.fnOf name qual params body scope dV kV doc pm an cdv ct) ps (runF C fd) := by
  refine ⟨fun A outer s H args us vs Q E hr hg e0 hb r hl' hrg hsp => ?_⟩
  have hl : vs.length = ps.length := by rw [r.length]; exact hl'
  obtain ⟨G, st, ws, rfl, rs, rel, f0⟩ := hsp
  have KX : S.K.In s.heap := e0.mod.kin.keeps fun b o e => (e0.bs b o e).1
  have lim : s.heap.NoLimit := e0.mod.nolimit.keeps fun b o e => (e0.bs b o e).1
  have hkind : ∀ y ∈ ps.zip us, scope.names.lookup y.1 = some .local ∨ (scope.names.lookup y.1 = some .cell ∧ ((cellsFrom (s.heap.objs.size + 1) scope.names []).lookup y.1).isSome = true) := fun ⟨n, v⟩ hy => by
    rcases SC.par n (List.of_mem_zip hy).1 with q | q
    · exact .inl q
    · exact .inr ⟨q, PySem.W.cellsFrom_some _ _ _ (.inl q)⟩
  unfold runF at f0
  have hc : ws.length = fd.ps ∧ fd.ps ≤ fd.slots := by
    by_cases z : ws.length = fd.ps ∧ fd.ps ≤ fd.slots
    · exact z
    · rw [if_neg z] at f0; exact f0.elim
  rw [if_pos hc] at f0
  have f1 := fin_of (ρx := List.replicate N.length none) rs.len.symm f0
  refine codeAny_call_function hr.depth (KX _ _ lk) rfl SC.co SC.gen rfl (PySem.W.codeRec_of KX hcd) (hb _ _ _ _ ?_)
  refine wpAny_newFunctionEnv_cells SC.kind hkind fun env he s1 x => ?_
  subst he
  refine ⟨lim.keeps x.toInCall.keep, codeAny_func ?_⟩
  have I : Inv (cxOf (L2N.CX P w) P w S.K S.gv base N qual scope f cdv A outer s G.H E) [] (L2.start N vs) G.H s1 := inv_start SC hr.hd e0 hl r x
  have sl : RelSl S G (L2.start N vs) (ws.map some ++ List.replicate (fd.slots - fd.ps) none) := start_sl rel hN hc.1
  have ht := hbody A outer s G.H E (hr.deeper _) (by show A.guards = some []; exact hg) hrg
  refine wpAny_mono (ht.run [] s1 (L2.start N vs) G.H _ I ⟨G, _, st, ⟨rfl, rs, sl⟩, sl_none (by rw [← sl.len, List.length_append, List.length_map, List.length_replicate, hc.1, hN]; omega), f1⟩) (fun fl s' hs => ?_) fun e s' hs => hs
  have done : ∀ {σ' : Sl} {H' : Hp} {v : V} {u : Value}, Inv (cxOf (L2N.CX P w) P w S.K S.gv base N qual scope f cdv A outer s G.H E) [] σ' H' s' → RelV v u → QF Q v H' → CE outer P w G.H s Q u s' :=
    fun {σ' H' v u} J rv q => CE.frz ⟨v, H', J.os, J.bare, J.base, J.hok, rv, q⟩
  cases fl with
  | ret u =>
    obtain ⟨v, σ', H', J, rv, q⟩ := hs
    exact done J rv q
  | next =>
    obtain ⟨σ', H', J, q⟩ := hs
    exact done (v := V.non) (u := Value.none) J rfl q
  | brk =>
    obtain ⟨_, _, _, q⟩ := hs
    exact False.elim q
  | cont =>
    obtain ⟨_, _, _, q⟩ := hs
    exact False.elim q

/-! ### calls -/
/-- how a def takes values: us by position, ws by the names ks -/
structure Bnd (S : Sta) (fd : FuncData) (ps : List Str) (n : Nat) (ks : List Str) (b : List W → List W → Option (List W)) : Prop where
  to : ∀ (G : Wd) (vs zs : List V) (us ws : List Value) (wv wz wr : List W), Vals vs us → Vals zs ws → RelWs S G vs wv → RelWs S G zs wz → wv.length = n → wz.length = ks.length → b wv wz = some wr →
    ∃ (xs : List V) (ys : List Value), Vals xs ys ∧ RelWs S G xs wr ∧ ys.length = ps.length ∧ ∀ s : Shared, S.K.In s.heap → BindsTo s fd ⟨us, ks.zip ws⟩ (ps.zip ys)
/-- the call of a value -/
def CallOk (S : Sta) (X : Cx) (Wx : WX) (u : Value) (n : Nat) (ks : List Str) (rn : List W → List W → M W) : Prop :=
  ∀ (pins : List (Addr × Obj)) (s : Shared) (σ : Sl) (G : Wd) (st : St) (vs zs : List V) (us ws : List Value) (wv wz : List W) (Q : VK), Inv X pins σ G.H s → RelSt S G st → Vals vs us → Vals zs ws → RelWs S G vs wv → RelWs S G zs wz → wv.length = n → wz.length = ks.length →
    Fin S Wx σ G (PQ S Q) (rn wv wz st) → wpAny (model X.prog X.w) X.A (call u us (ks.zip ws)) (EP X pins σ Q) X.xe s
/-- bound first -/
def bndW (b : List W → List W → Option (List W)) (rn : List W → M W) (ws zs : List W) : M W := match b ws zs with
  | some xs => rn xs
  | none => M.stuck
section
variable {S : Sta} {X : Cx} {Wx : WX} {k n : Nat} {f : Addr} {fd : FuncData} {ps ks : List Str} {b : List W → List W → Option (List W)} {rn : List W → M W}
theorem Fin.wu {σ : Sl} {G : Wd} {α : Type} {P : α → Wd → St → Prop} {r : R α} (h : Fin S Wx σ G P r) : Fin S (Wu fun c d H => Wx c d σ H) [] G P r := by
  cases r with
  | ok a st' => exact h
  | exc c fs xs st' => exact h
  | stuck => exact h
theorem callOk_fn (hK : X.K = S.K) (hm : X.mg = S.gv) (F : FnW S X.prog X.w X.base k f fd ps rn) (hr : Room k X.A) (hg : X.A.guards = some []) (tk : L2N.Takes X Wx) (hb : Bnd S fd ps n ks b) : CallOk S X Wx (.ref f) n ks (bndW b rn) := by
  intro pins s σ G st vs zs us ws wv wz Q I rs rv rz rwv rwz l1 l2 h
  unfold bndW at h
  cases e : b wv wz with
  | none => rw [e] at h; exact h.elim
  | some wr =>
    rw [e] at h
    obtain ⟨xs, ys, r1, r2, l3, bt⟩ := hb.to G vs zs us ws wv wz wr rv rz rwv rwz l1 l2 e
    have e0 := I.env0
    rw [hK, hm] at e0
    refine wpAny_call (codeAny_mono (F.run X.A X.stack s G.H ⟨us, ks.zip ws⟩ ys xs Q (fun c d H => Wx c d σ H) hr hg e0 (bt s (hK ▸ I.kIn)) r1 l3 trivial ⟨G, st, wr, rfl, rs, r2, h.wu⟩) fun r s' hq => ?_)
    cases r with
    | error e => exact tk e s' (L2N.XE.of_call I (fun _ _ _ z => z) hq)
    | ok fl =>
      cases fl with
      | ret u => exact I.after hq
      | next => exact False.elim hq
      | brk => exact False.elim hq
      | cont => exact False.elim hq
end
end Pf

/-! part P20 -/
set_option Elab.async false
set_option linter.all false
set_option maxRecDepth 100000
set_option autoImplicit false
set_option maxHeartbeats 1000000
/-! Classes that are called; the expression of a call. -/
namespace Pf
open PySem PySem.Spec PyProof.Rows L2

section
variable {S : Sta} {X : Cx} {Wx : WX} {k n : Nat} {f C : Addr} {fd : FuncData} {ps ks : List Str} {b : List W → List W → Option (List W)} {rn : List W → M W} {c : Str} {mu : Bool}
theorem EP.frz {pins : List (Addr × Obj)} {σ : Sl} {Q : VK} {u : Value} {s : Shared} (h : EP X pins σ (QF Q) u s) : EP X pins σ Q u s := by
  obtain ⟨v, H1, I1, r, q⟩ := h
  rcases q with q | ⟨p, x, rfl, hp, n1, n2, n3, n4, q⟩
  · exact ⟨v, H1, I1, r, q⟩
  · obtain ⟨o, I2⟩ := Inv.frz I1 hp n1 n2 n3 n4
    exact ⟨_, _, I2, r, q o⟩
/-- a new instance and its dict -/
def Wd.ins (G : Wd) (x dx C : Addr) : Wd := (G.put dx (.own x)).new x (.ins C dx [])
theorem ins_new {G : Wd} {st : St} {x dx : Addr} (rs : RelSt S G st) (hc : S.gv c = some (.ref C)) (nx : G.H x = none) (ndx : G.H dx = none) (ne : dx ≠ x) :
    Grow G (G.ins x dx C) ∧ RelSt S (G.ins x dx C) (st ++ [.ins c [] []]) ∧ RelW S (G.ins x dx C) (.ref x) (.ref st.length) ∧ (G.ins x dx C).H = upd (upd G.H dx (.own x)) x (.ins C dx []) := by
  have n2 : (G.put dx (.own x)).H x = none := by show upd G.H dx (.own x) x = none; rw [upd_ne (Ne.symm ne)]; exact nx
  have g1 := Grow.put (G := G) (o := .own x) ndx
  have g2 := Grow.new (G := G.put dx (.own x)) (o := .ins C dx []) n2
  refine ⟨g1.trans g2, (rs.put ndx).new n2 ⟨C, dx, [], hc, upd_same, rfl, by simp only [List.map_nil, RelWs]⟩, ?_, rfl⟩
  simp only [RelW]
  rw [rs.len]
  exact ⟨Nat.lt_succ_self _, by rw [show (G.ins x dx C).μ G.n = x from new_at (G := G.put dx (.own x))]⟩
theorem callOk_mk (hK : X.K = S.K) (hm : X.mg = S.gv) (M : Mk S.K C f) (hc : S.gv c = some (.ref C)) (F : FnW S X.prog X.w X.base k f fd ps rn) (hr : Room (k + 1) X.A) (hg : X.A.guards = some []) (tk : L2N.Takes X Wx) (hb : Bnd S fd ps (n + 1) ks b) : CallOk S X Wx (.ref C) n ks (mkW c mu (bndW b rn)) := by
  intro pins s σ G st vs zs us ws wv wz Q I rs rv rz rwv rwz l1 l2 h
  have nx : G.H (s.heap.objs.size + 1) = none := I.hok.fresh (Nat.le_succ _)
  have ndx : G.H s.heap.objs.size = none := I.hok.fresh (Nat.le_refl _)
  have ne : s.heap.objs.size ≠ s.heap.objs.size + 1 := Nat.ne_of_lt (Nat.lt_succ_self _)
  obtain ⟨g1, rs1, r1, eH⟩ := ins_new (C := C) rs hc nx ndx ne
  have I2 := Inv.made (C := C) I
  rw [← eH] at I2
  unfold mkW bndW at h
  cases e : b (.ref st.length :: wv) wz with
  | none => rw [e] at h; exact h.elim
  | some wr =>
    rw [e] at h
    dsimp only at h
    obtain ⟨xs, ys, k1, k2, l3, bt⟩ := hb.to (G.ins (s.heap.objs.size + 1) s.heap.objs.size C) (.ref (s.heap.objs.size + 1) :: vs) zs (.ref (s.heap.objs.size + 1) :: us) ws (.ref st.length :: wv) wz wr (.cons rfl rv) rz (RelWs.cons r1 (RelWs.grow g1 _ _ rwv)) (RelWs.grow g1 _ _ rwz) (by rw [List.length_cons, l1]) l2 e
    have main : Fin S (Wu fun c d H => Wx c d σ H) [] (G.ins (s.heap.objs.size + 1) s.heap.objs.size C) (PQ S (fun v H2 => v = .non ∧ QF Q (.ref (s.heap.objs.size + 1)) H2)) (rn wr (st ++ [.ins c [] []])) := by
      cases q : rn wr (st ++ [.ins c [] []]) with
      | stuck => rw [q] at h; exact h
      | ok w st2 =>
        rw [q] at h
        cases w with
        | non =>
          have f1 := fin_of (Q := Q) (E := fun c d H => Wx c d σ H) (ρx := []) rs.len.symm (h.wu)
          intro G' g' rs' v r
          simp only [RelW] at r
          refine ⟨r, f1 G' (.ref (s.heap.objs.size + 1)) (g1.trans g') rs' (RelW.grow g' _ _ r1)⟩
        | _ => exact h.elim
      | exc c' fs xs st2 =>
        rw [q] at h
        have f1 := fin_of (Q := Q) (E := fun c d H => Wx c d σ H) (ρx := []) rs.len.symm (h.wu)
        intro G' Ca d kvs g' rs' hgv hd hf hrr
        exact f1 G' [] Ca d kvs (g1.trans g') rs' ⟨rfl, fun i w e => by simp at e⟩ hgv hd hf hrr
    have e0 := I2.env0
    rw [hK, hm] at e0
    refine wpAny_call (make_map (f := f) I.kIn (hK ▸ M.makes) (hK ▸ M.init) (by rw [hK]; exact beq_iff_eq.mp M.fn) (codeAny_mono (F.run _ X.stack _ _ ⟨Value.ref (s.heap.objs.size + 1) :: us, ks.zip ws⟩ ys xs _ (fun c d H => Wx c d σ H) (hr.make C us (ks.zip ws)) ?_
      (e0.make C us (ks.zip ws)) (bt _ (hK ▸ I2.kIn)) k1 l3 trivial ⟨_, _, wr, rfl, rs1, k2, main⟩) fun r s' hq' => ?_))
    · have z : (X.A.under (.builtin "type.__call__" ⟨.ref C :: us, ks.zip ws⟩)).guards = X.A.guards := by
        first
          | rfl
          | simp [Around.under, Code.guards, Code.isGuard, pushGuards, guardIds]
      rw [z, hg]
    · cases r with
      | error e => exact tk e s' (L2N.XE.of_call I2 (fun _ _ _ z => z) hq')
      | ok fl =>
        cases fl with
        | ret u =>
          obtain ⟨v, H', I3, rv', ev, q3⟩ := I2.after hq'
          subst ev
          exact ⟨rv', EP.frz ⟨V.ref (s.heap.objs.size + 1), H', I3, rfl, q3⟩⟩
        | next => exact False.elim hq'
        | brk => exact False.elim hq'
        | cont => exact False.elim hq'
end

/-! ### the expression -/
section
variable {S : Sta} {X : Cx} {Wx : WX} {e : Expr} {es : List Expr} {kws : List Keyword} {fe : Ρ → M W} {fs fk : Ρ → M (List W)} {x : Str} {p pos kpos : Pos} {nm : Option Str} {C : Cf} {ks : List Str} {u : Value}
theorem _root_.L2.PK.impW {X : Cx} {es : List Keyword} {t t' : TA} (h : PK X es t) (i : ∀ σ H Q, t' σ H Q → t σ H Q) : PK X es t' := ⟨fun pos pins s σ H Q I q => h.run pos pins s σ H Q I (i σ H Q q)⟩
theorem k_nil : PK X [] (tA S Wx (fun _ => pure [])) := pk_nil.impW fun σ H Q h => by
  obtain ⟨G, ρ, st, a, f⟩ := h
  obtain rfl := a.hp
  exact f G (Grow.refl G) a.st [] RelWs.nil
theorem k_cons (ha : PE X e (tE S Wx fe)) (hr : PK X kws (tA S Wx fk)) : PK X (⟨nm, e, kpos⟩ :: kws) (tA S Wx (fun ρ => do let w ← fe ρ; let ws ← fk ρ; pure (w :: ws))) := (pk_cons ha hr).impW fun σ H Q h => by
  obtain ⟨G, ρ, st, a, f⟩ := h
  unfold tCons
  refine bindE a f fun x H1 G1 w st1 b1 f1 => ?_
  refine bindA b1.at_ f1 fun xs H2 G2 ws st2 a2 g2 r2 f2 => ?_
  obtain rfl := a2.hp
  exact f2 G2 (Grow.refl G2) a2.st (x :: xs) (RelWs.cons (RelW.grow g2 _ _ b1.rel) r2)
/-- x(es, kws) -/
theorem s_call (hg : Gl X x) (hdb : (x == ("__debug__" : Str)) = false) (hm : X.mg x = some u) (hkeep : PySem.W.keepIn X.K u = true) (hC : ∀ n rn, C.fn x n ks = some rn → CallOk S X Wx u n ks rn) (hlen : ∀ ρ st zs st', fk ρ st = .ok zs st' → zs.length = ks.length)
    (hnil : es = [] → fs = fun _ => pure []) (ha : PA X es (tA S Wx fs)) (hkw : PK X kws (tA S Wx fk))
    (hall : (backToKw pos (keywordEach kws X.env)).all (·.1.isSome) = true) (hks : (backToKw pos (keywordEach kws X.env)).filterMap (·.1) = ks)
    (he : ∀ e r, es = e :: r → starEach (e :: r) X.env = (false, eval e X.env) :: starEach r X.env) (hpl : ((backTo pos (starEach es X.env)).any (·.1) || (backToKw pos (keywordEach kws X.env)).any (·.1.isNone)) = false) :
    PE X (.Call (.Name x p) es kws pos) (tE S Wx (fun ρ => do let ws ← fs ρ; let zs ← fk ρ; let f ← M.lift (C.fn x ws.length ks); f ws zs)) := by
  refine ⟨fun pins s σ H Q I h => ?_⟩
  obtain ⟨G, ρ, st, a, fi⟩ := h
  refine wpAny_Call_Name_kw (ld_glob I hg hm ?_ hdb)
  have hA : tA S Wx fs σ H (fun xs H1 => ∃ G1 st1 ws, At S σ H1 G1 ρ st1 ∧ RelWs S G1 xs ws ∧ Fin S Wx σ G1 (PQ S Q) ((fk ρ >>= fun zs => M.lift (C.fn x ws.length ks) >>= fun f => f ws zs) st1)) :=
    bindA a fi fun xs H1 G1 ws st1 a1 g1 r1 f1 => ⟨G1, st1, ws, a1, r1, f1⟩
  have hKw : ∀ (us : List Value) (s1 : Shared), AP X pins σ (fun xs H1 => ∃ G1 st1 ws, At S σ H1 G1 ρ st1 ∧ RelWs S G1 xs ws ∧ Fin S Wx σ G1 (PQ S Q) ((fk ρ >>= fun zs => M.lift (C.fn x ws.length ks) >>= fun f => f ws zs) st1)) us s1 →
      wpAny (model X.prog X.w) X.A (evalAll ((backToKw pos (keywordEach kws X.env)).map (·.2))) (fun qs s2 => X.K.In s2.heap ∧ wpAny (model X.prog X.w) X.A (call u us (ks.zip qs)) (EP X pins σ Q) X.xe s2) X.xe s1 := by
    rintro us s1 ⟨vs, H1, I1, r, G1, st1, ws, a1, rw, f1⟩
    have hB : tA S Wx fk σ H1 (fun zs H2 => ∃ G2 st2 wz, At S σ H2 G2 ρ st2 ∧ Grow G1 G2 ∧ RelWs S G2 zs wz ∧ wz.length = ks.length ∧ Fin S Wx σ G2 (PQ S Q) ((M.lift (C.fn x ws.length ks) >>= fun f => f ws wz) st2)) := by
      refine ⟨G1, ρ, st1, a1, ?_⟩
      have f2 := f1.bind
      cases e : fk ρ st1 with
      | stuck => rw [e] at f2; exact f2
      | exc c fs' xs st2 => rw [e] at f2; exact f2
      | ok wz st2 =>
        rw [e] at f2
        exact fun G' g' rs' zs rz => ⟨G', st2, wz, ⟨rfl, rs', a1.sl.grow g'⟩, g', rz, hlen _ _ _ _ e, f2 G' g' rs'⟩
    refine thn (hkw.run pos pins s1 σ H1 _ I1 hB) fun qs s2 ⟨zs, H2, I2, rz, G2, st2, wz, a2, g2, rwz, lz, f2⟩ => ⟨I2.kIn, ?_⟩
    obtain ⟨rn, er, f3⟩ := Fin.lift f2
    obtain rfl := a2.hp
    exact hC _ rn er pins s2 σ G2 st2 vs zs us qs ws wz Q I2 a2.st r rz (RelWs.grow g2 _ _ rw) rwz rfl lz f3
  cases es with
  | nil =>
    refine PySem.W.callWith_KW0 (h₀ := X.base) I.ok.mod.kin hkeep hall ?_ hpl
    rw [hks]
    have hN : AP X pins σ (fun xs H1 => ∃ G1 st1 ws, At S σ H1 G1 ρ st1 ∧ RelWs S G1 xs ws ∧ Fin S Wx σ G1 (PQ S Q) ((fk ρ >>= fun zs => M.lift (C.fn x ws.length ks) >>= fun f => f ws zs) st1)) [] s := by
      rw [hnil rfl] at fi
      obtain rfl := a.hp
      exact ⟨[], G.H, I, .nil, G, st, [], a, RelWs.nil, fi⟩
    exact hKw [] s hN
  | cons e es =>
    refine PySem.W.callWith_KW (h₀ := X.base) I.ok.mod.kin hkeep hall (thn (ha.run pos pins s σ H _ I hA) fun us s1 z => ?_) hpl (he e es rfl)
    rw [hks]
    exact hKw us s1 z
end
end Pf

/-! part P21 -/
set_option Elab.async false
set_option linter.all false
set_option maxRecDepth 100000
set_option autoImplicit false
set_option maxHeartbeats 1000000
/-! Lambdas that are handed to a def. -/
namespace Pf
open PySem PySem.Spec PyProof.Rows L2

/-- a lambda's text -/
structure LamD where
  params : Arguments
  body : Expr
  scope : Scope
  N : List Str
  ps : List Str
  fr : List Str
def spL (S : Sta) (rn : List W → List W → M W) (cv : List V) : List V → Hp → VK → XK → Prop := fun vs H Q E => ∃ G st as cs, G.H = H ∧ RelSt S G st ∧ RelWs S G vs as ∧ RelWs S G cv cs ∧ Fin S (Wu E) [] G (PQ S Q) (rn cs as st)
abbrev lamObj (D : LamD) (q : Str) (cl : List (Str × Addr)) (pm : Value) (c' : Addr) (ctv : Value) : Obj := PySem.W.kla_obj "<lambda>" q D.params D.body D.scope cl pm c' ctv
structure LamW (S : Sta) (P : Program) (w : World) (base : Heap) (k : Nat) (D : LamD) (q : Str) (rn : List W → List W → M W) : Prop where
  run : ∀ (A : Around) (outer : List Env) (s : Shared) (H : Hp) (f c' : Addr) (pm ctv : Value) (cl : List (Str × Addr)) (us : List Value) (vs cv : List V) (Q : VK) (E : XK), Room k A → A.guards = some [] → Env0 P w S.K S.gv base A outer s H →
    s.heap.get? f = some (lamObj D q cl pm c' ctv) → s.heap.CodeRec (.ref c') q → NdefX.CellsAt cl D.fr (cv.map some) s.heap H → Vals vs us → us.length = D.ps.length → spL S rn cv vs H Q E →
    codeAny (model P w) A (.call (.ref f) ⟨us, []⟩) (CR (L2N.CX P w) outer P w H s Q E) s
theorem LamW.mono {S : Sta} {P : Program} {w : World} {base : Heap} {j k : Nat} {D : LamD} {q : Str} {rn : List W → List W → M W} (F : LamW S P w base j D q rn) (h : j ≤ k) : LamW S P w base k D q rn :=
  ⟨fun A outer s H f c' pm ctv cl us vs cv Q E hr => F.run A outer s H f c' pm ctv cl us vs cv Q E (hr.mono h)⟩
theorem startF_sl {S : Sta} {G : Wd} {N : List Str} {vs cv : List V} {as cs : List W} {m p q : Nat} (r : RelWs S G vs as) (r2 : RelWs S G cv cs) (hN : N.length = m) (h1 : as.length = p) (h2 : cs.length = q) (hm : p + q ≤ m) :
    RelSl S G (NdefX.startF N vs (cv.map some)) (as.map some ++ (cs.map some ++ List.replicate (m - p - q) none)) := by
  have l1 := r.length
  have l2 := r2.length
  refine ⟨?_, fun i w e => ?_⟩
  · unfold NdefX.startF
    simp only [List.length_append, List.length_map, List.length_replicate]
    omega
  · unfold NdefX.startF
    by_cases hi : i < as.length
    · rw [List.getElem?_append_left (by simpa using hi), List.getElem?_map] at e
      cases k : as[i]? with
      | none => rw [k] at e; cases e
      | some u =>
        rw [k] at e
        cases e
        obtain ⟨v, h1, h2⟩ := r.get k
        refine ⟨v, ?_, h2⟩
        rw [List.getElem?_append_left (by rw [List.length_map, l1]; exact hi), List.getElem?_map, h1]
        rfl
    · rw [List.getElem?_append_right (by simpa using Nat.not_lt.mp hi), List.length_map] at e
      by_cases hj : i - as.length < cs.length
      · rw [List.getElem?_append_left (by simpa using hj), List.getElem?_map] at e
        cases k : cs[i - as.length]? with
        | none => rw [k] at e; cases e
        | some u =>
          rw [k] at e
          cases e
          obtain ⟨v, h1, h2⟩ := r2.get k
          refine ⟨v, ?_, h2⟩
          have e1 : i - (vs.map some).length = i - as.length := by rw [List.length_map, l1]
          rw [List.getElem?_append_right (by rw [List.length_map, l1]; exact Nat.not_lt.mp hi), e1]
          rw [List.getElem?_append_left (by rw [List.length_map, l2]; exact hj), List.getElem?_map, h1]
          rfl
      · rw [List.getElem?_append_right (by simpa using Nat.not_lt.mp hj), List.getElem?_replicate] at e
        split at e <;> cases e
/-- a lambda of the text -/
theorem lamW_of {S : Sta} {C : Cf} {P : Program} {w : World} {base : Heap} {k : Nat} {D : LamD} {q : Str} {body : Ex} {slots : Nat} (SC : NdefX.NScope D.N D.ps D.fr D.scope) (hN : D.N.length = slots)
    (hb : ∀ (cl : List (Str × Addr)) (pm cv ctv : Value) (us : List Value), us.length = D.ps.length → bindArgs (PySem.W.kla_fn "<lambda>" q D.params D.body D.scope cl pm cv ctv) ⟨us, []⟩ = pure (D.ps.zip us))
    (hbody : ∀ (A : Around) (outer : List Env) (s : Shared) (H : Hp) (E : XK) (f c' : Addr) (cl : List (Str × Addr)), Room k (A.deeper (PySem.W.envX q D.scope s.heap.objs.size f (.ref c') cl)) → (A.deeper (PySem.W.envX q D.scope s.heap.objs.size f (.ref c') cl)).guards = some [] →
      PE (NdefX.ncx (L2N.CX P w) P w S.K S.gv base D.N ⟨"<lambda>", q, D.params, [], D.scope, cl, c'⟩ f A outer s H E) D.body (tE S (Wu E) (ev C body))) :
    LamW S P w base (k + 1) D q (lamW C D.ps.length D.fr.length slots body) := by
  refine ⟨fun A outer s H f c' pm ctv cl us vs cv Q E hr hg e0 ho hcr CA r hl' hsp => ?_⟩
  have hl : vs.length = D.ps.length := by rw [r.length]; exact hl'
  obtain ⟨G, st, as, cs, rfl, rs, rel, rel2, f0⟩ := hsp
  have lim : s.heap.NoLimit := e0.mod.nolimit.keeps fun b o e => (e0.bs b o e).1
  unfold lamW at f0
  have hc : as.length = D.ps.length ∧ cs.length = D.fr.length ∧ D.ps.length + D.fr.length ≤ slots := by
    by_cases z : as.length = D.ps.length ∧ cs.length = D.fr.length ∧ D.ps.length + D.fr.length ≤ slots
    · exact z
    · rw [if_neg z] at f0; exact f0.elim
  rw [if_pos hc] at f0
  have f1 := fin_of (ρx := List.replicate D.N.length none) rs.len.symm f0
  have sl := startF_sl (N := D.N) rel rel2 hN hc.1 hc.2.1 hc.2.2
  have hx : RelSl S G (NdefX.startF D.N vs (cv.map some)) (List.replicate D.N.length none) := sl_none (by rw [← sl.len]; simp only [List.length_append, List.length_map, List.length_replicate, hc.1, hc.2.1, hN]; omega)
  refine PySem.W.kla_callFunE hr.depth ho rfl SC.co SC.gen rfl hcr ?_
  rw [hb cl pm (.ref c') ctv us hl']
  refine wpAny_pure (wpAny_newFunctionEnv SC.nocell (fun ⟨n, _⟩ hy => SC.par n (List.of_mem_zip hy).1) (fun h₁ hns hsb => ⟨lim.fresh _ hsb, ?_⟩) SC.kind)
  have kp : ∀ b o, s.heap.get? b = some o → h₁.get? b = some o := fun b o e => hsb.extBut b o (Nat.ne_of_lt (Heap.lt_size e)) (Heap.get?_push_of_some _ e)
  have J : Inv (NdefX.ncx (L2N.CX P w) P w S.K S.gv base D.N ⟨"<lambda>", q, D.params, [], D.scope, cl, c'⟩ f A outer s G.H E) [] (NdefX.startF D.N vs (cv.map some)) G.H { s with heap := h₁, toks := s.toks + (D.ps.zip us).length } :=
    NdefX.inv_startN SC hr.hd e0 hl r CA hns kp
  have ht := hbody A outer s G.H E f c' cl (hr.deeper _) (by show A.guards = some []; exact hg)
  refine PySem.W.kla_codeExpr (wpAny_mono (ht.run [] _ _ G.H (QF Q) J ⟨G, _, st, ⟨rfl, rs, sl⟩, (FinS.bind hx f1).imp fun w G' st' g rs' f2 v rv => f2 G' v (Grow.refl G') rs' rv⟩) (fun v s' hq => ?_) fun e s' hq => hq)
  obtain ⟨x, H', J', rv, qq⟩ := hq
  exact CE.frz ⟨x, H', J'.os, J'.bare, J'.base, J'.hok, rv, qq⟩

/-! ### the call of what was handed in -/
/-- the function that was handed in, as the running def met it -/
def RegOk (S : Sta) (X : Cx) (k : Nat) (lam : Nat → List W → List W → M W) : Prop := ∀ f c' n cv, S.reg = some (f, c', n, cv) → ∃ (D : LamD) (pm ctv : Value) (cl : List (Str × Addr)), X.s_0.heap.get? f = some (lamObj D (S.lq n) cl pm c' ctv) ∧ X.H_0 f = none ∧ f ∉ X.fs ∧ f ∉ X.ex ∧
  NdefX.CellsAt cl D.fr (cv.map some) X.s_0.heap X.H_0 ∧ (∀ y c, cl.lookup y = some c → c ∉ X.fs) ∧ (∀ y c, cl.lookup y = some c → c ∉ X.ex) ∧ LamW S X.prog X.w X.base k D (S.lq n) (lam n) ∧ ∀ (as cs : List W) (st : St), lam n cs as st ≠ .stuck → as.length = D.ps.length
section
variable {S : Sta} {X : Cx} {Wx : WX} {k i : Nat} {x : Str} {p pos : Pos} {e : Expr} {es : List Expr} {fs : Ρ → M (List W)} {C : Cf}
theorem s_callV (hK : X.K = S.K) (hm : X.mg = S.gv) (hr : Room k X.A) (hg : X.A.guards = some []) (tk : L2N.Takes X Wx) (R : RegOk S X k C.lam) (hN : X.N[i]? = some x) (hv : Vis X.env.scope x) (hd : (x == ("__debug__" : Str)) = false) (hcd : (x == ("__classdict__" : Str)) = false)
    (ha : PA X (e :: es) (tA S Wx fs)) (he : starEach (e :: es) X.env = (false, eval e X.env) :: starEach es X.env) (hpl : (backTo pos (starEach es X.env)).any (·.1) = false) :
    PE X (.Call (.Name x p) (e :: es) [] pos) (tE S Wx (fun ρ => do
      let w ← M.lift (getV ρ i)
      let c ← M.lift (asClo w)
      let ws ← fs ρ
      C.lam c.1 c.2 ws)) := by
  refine ⟨fun pins s σ H Q I h => ?_⟩
  obtain ⟨G, ρ, st, a, fi⟩ := h
  obtain ⟨w, ew, f1⟩ := Fin.lift (o := getV ρ i) fi
  obtain ⟨v, hv1, rv⟩ := a.sl.get ew
  refine wpAny_Call_Name_kw (thn ((pe_var (pos := p) hN hv hd hcd).run pins s σ H (fun v' H1 => v' = v ∧ H1 = H) I ⟨v, hv1, rfl, rfl⟩) fun u s1 ⟨v', H1, I1, r1, q1⟩ => ?_)
  obtain ⟨rfl, rfl⟩ := q1
  obtain ⟨⟨n, cs⟩, ec, f1⟩ := Fin.lift (o := asClo w) f1
  have ec : w = .clo n cs := by
    cases w <;> simp [asClo] at ec
    obtain ⟨rfl, rfl⟩ := ec
    rfl
  subst ec
  simp only [RelW] at rv
  obtain ⟨f, c', cv, rfl, hreg, hcode, rcv⟩ := rv
  obtain ⟨D, pm, ctv, cl, hf0, hH0, nf, nx, CA, cf, cx, LW, llen⟩ := R f c' n cv hreg
  obtain rfl : u = Value.ref f := r1
  have fAt : ∀ {σ' : Sl} {H' : Hp} {s' : Shared} {pins' : List (Addr × Obj)}, Inv X pins' σ' H' s' → s'.heap.get? f = some (lamObj D (S.lq n) cl pm c' ctv) := fun J => J.base.keep f _ hf0 hH0 nf nx
  have hA : tA S Wx fs σ H1 (fun vs H2 => ∃ G1 st1 ws, At S σ H2 G1 ρ st1 ∧ Grow G G1 ∧ RelWs S G1 vs ws ∧ Fin S Wx σ G1 (PQ S Q) (C.lam n cs ws st1)) :=
    bindA a f1 fun xs H2 G1 ws st1 a1 g1 r1 f2 => ⟨G1, st1, ws, a1, g1, r1, f2⟩
  refine PySem.W.callWith_F (first := []) ⟨_, _, _, _, fAt I1⟩ (thn (ha.run pos pins s1 σ H1 _ I1 hA) fun us s2 ⟨vs, H2, I2, r, G1, st1, ws, a1, g1, rws, f2⟩ => ⟨⟨_, _, _, _, fAt I2⟩, ?_⟩) he hpl
  obtain rfl := a1.hp
  have e0 := I2.env0
  rw [hK, hm] at e0
  have hlen : us.length = D.ps.length := by
    rw [← r.length, rws.length]
    refine llen ws cs st1 fun z => ?_
    rw [z] at f2
    exact f2.elim
  refine wpAny_call (codeAny_mono (LW.run X.A X.stack s2 G1.H f c' pm ctv cl us vs cv Q (fun c d H => Wx c d σ H) hr hg e0 (fAt I2) (NdefX.codeO_at I2.hok (g1.ext _ _ (show G.H c' = _ from hcode))) (CA.later cf cx I2) r hlen ⟨G1, st1, ws, cs, rfl, a1.st, rws, RelWs.grow g1 _ _ rcv, f2.wu⟩) fun r s' hq => ?_)
  cases r with
  | error e => exact tk e s' (L2N.XE.of_call I2 (fun _ _ _ z => z) hq)
  | ok fl =>
    cases fl with
    | ret u => exact I2.after hq
    | next => exact False.elim hq
    | brk => exact False.elim hq
    | cont => exact False.elim hq
end
end Pf

/-! part P22 -/
set_option Elab.async false
set_option linter.all false
set_option maxRecDepth 100000
set_option autoImplicit false
set_option maxHeartbeats 1000000
/-! A def that is handed a lambda. -/
namespace Pf
open PySem PySem.Spec PyProof.Rows L2

section
variable {S : Sta} {X : Cx} {pins : List (Addr × Obj)} {σ : Sl} {s : Shared} {G : Wd} {st : St}
/-- the table has one entry more -/
theorem tab_more {P c' : Addr} {q : Str} {ps : Array Value} {pos : Pos} (rs : RelSt S G st) (hm : (P, q) ∈ S.T) (hu : ∀ p ∈ S.T, p.1 = P → p.2 = q) (hP : G.H P = some (.tbl ps)) (ht : TriplesOk ps.toList) (nC : G.H c' = none)
    (ha : ∀ (pos : Pos) (cv : Value), codeAmong pos ps.toList = some cv → ∃ c, cv = .ref c ∧ G.H c = some (LamX.CodeO c q)) :
    Grow G ⟨G.n, G.μ, upd (upd G.H P (.tbl (ps ++ #[rawInt pos.line, rawInt pos.col, .ref c']))) c' (LamX.CodeO c' q)⟩ ∧ RelSt S ⟨G.n, G.μ, upd (upd G.H P (.tbl (ps ++ #[rawInt pos.line, rawInt pos.col, .ref c']))) c' (LamX.CodeO c' q)⟩ st := by
  have old : ∀ b o, G.H b = some o → (∀ ps, o ≠ .tbl ps) → upd (upd G.H P (.tbl (ps ++ #[rawInt pos.line, rawInt pos.col, .ref c']))) c' (LamX.CodeO c' q) b = some o := fun b o e n => by
    rw [upd_ne (ne_of_none e nC), upd_ne (fun z => n ps (Option.some.inj (e.symm.trans (by rw [z]; exact hP))))]
    exact e
  have g : Grow G ⟨G.n, G.μ, upd (upd G.H P (.tbl (ps ++ #[rawInt pos.line, rawInt pos.col, .ref c']))) c' (LamX.CodeO c' q)⟩ := by
    refine ⟨⟨Nat.le_refl _, fun _ _ => rfl, fun a xs h => old a _ h (fun _ z => by cases z), fun a o u h => old a _ h (fun _ z => by cases z), fun a φ h => old a _ h (fun _ z => by cases z)⟩, fun a o h n _ => old a o h n, fun a h => ?_, fun i h1 h2 => absurd h2 (Nat.not_lt.mpr h1)⟩
    have h : upd (upd G.H P (.tbl (ps ++ #[rawInt pos.line, rawInt pos.col, .ref c']))) c' (LamX.CodeO c' q) a = none := h
    by_cases z1 : a = c'
    · rw [z1]; exact nC
    · rw [upd_ne z1] at h
      by_cases z2 : a = P
      · rw [z2, upd_same] at h; cases h
      · rw [upd_ne z2] at h; exact h
  refine ⟨g, rs.same g rfl rfl (fun i hi => ?_) ⟨fun p hp => ?_, fun b ps' e => ?_⟩⟩
  · obtain ⟨c, _, rc⟩ := rs.some hi
    obtain ⟨u, hu', _⟩ := rc.some
    exact (old _ u hu' (rc.noext u hu').2).trans hu'.symm
  · have eL : (ps ++ #[rawInt pos.line, rawInt pos.col, .ref c']).toList = ps.toList ++ [rawInt pos.line, rawInt pos.col, .ref c'] := by simp
    by_cases hb : p.1 = P
    · rw [hu p hp hb, hb]
      refine ⟨_, by show upd (upd G.H P _) c' _ P = _; rw [upd_ne (ne_of_none hP nC), upd_same], by rw [eL]; exact PySem.TriplesOk_snoc _ _ _ _ ht, fun p' cv hcv => ?_⟩
      rw [eL] at hcv
      rcases LamX.among_app _ ht hcv with z | z
      · obtain ⟨c0, e1, e2⟩ := ha p' cv z
        exact ⟨c0, e1, old _ _ e2 LamX.codeO_ne⟩
      · exact ⟨c', z, upd_same⟩
    · obtain ⟨ps', a1, a2, a3⟩ := rs.tabs.1 p hp
      refine ⟨ps', by show upd (upd G.H P _) c' _ p.1 = _; rw [upd_ne (ne_of_none a1 nC), upd_ne hb]; exact a1, a2, fun p' cv hcv => ?_⟩
      obtain ⟨c0, e1, e2⟩ := a3 p' cv hcv
      exact ⟨c0, e1, old _ _ e2 LamX.codeO_ne⟩
  · have e : upd (upd G.H P (.tbl (ps ++ #[rawInt pos.line, rawInt pos.col, .ref c']))) c' (LamX.CodeO c' q) b = some (.tbl ps') := e
    by_cases z1 : b = c'
    · rw [z1, upd_same] at e
      exact absurd (Option.some.inj e) (LamX.codeO_ne _)
    · rw [upd_ne z1] at e
      by_cases z2 : b = P
      · exact ⟨q, by rw [z2]; exact hm⟩
      · rw [upd_ne z2] at e
        exact rs.tabs.2 b ps' e
/-- the lambda is made -/
theorem lam_new {c P : Addr} {q : Str} {params : Arguments} {body : Expr} {scope : Scope} {pos : Pos} {E : Value → Shared → Prop} {Q : Value → Shared → Prop} (I : Inv X pins σ G.H s) (rs : RelSt S G st) (TB : LamX.TabB X.base X.mg c P) (hcode : X.env.code = .ref c) (hq : X.env.qual ++ "<lambda>" = q)
    (hm : (P, q) ∈ S.T) (hu : ∀ p ∈ S.T, p.1 = P → p.2 = q) (hdef : defaultsOf params X.env = ([], [])) (hfree : ∀ y ∈ scope.names, y.2 = .free → ∃ c, X.env.cells.lookup y.1 = some c)
    (h : ∀ (f c' : Addr) (pm ctv : Value) (G' : Wd) (s' : Shared), Inv X pins σ G'.H s' → Grow G G' → RelSt S G' st → s'.heap.get? f = some (PySem.W.kla_obj "<lambda>" q params body scope (cloFrom X.env.cells scope.names []) pm c' ctv) → G'.H f = none → f ∉ frs X.stack → G'.H c' = some (LamX.CodeO c' q) → Q (.ref f) s') :
    wpAny (model X.prog X.w) X.A (eval (.Lambda params body scope pos) X.env) Q E s := by
  subst hq
  obtain ⟨ps, hP, ht, ha⟩ := rs.tabs.1 _ hm
  refine PySem.W.kla_eval hdef ?_
  have bP : s.heap.BuiltinsAt X.mg P := TB.bm.keeps I.bk
  have hP' : s.heap.get? P = some { cls := .none, data := .fields ps } := I.hok P _ hP
  have nofr : ∀ f, s.heap.objs.size ≤ f → f ∉ frs X.stack := fun f hf z => by
    rcases List.mem_cons.mp (I.stkSub _ z) with e | e
    · have h1 := I.lt
      rw [← e] at h1
      exact Nat.lt_irrefl _ (Nat.lt_of_lt_of_le h1 hf)
    · exact I.nofs hf e
  cases hc : codeAmong pos ps.toList with
  | none =>
    refine PySem.W.kla_makeFunction (mg := X.mg) (c := c) (P := P) (ps := ps) (closure_ok hfree) I.ok.glob (I.mod.glob.keeps I.bk) hcode (TB.code.keeps I.bk) hP' ht hc TB.gP bP fun c' ctv h' tk hx hge hlt hrec htb => ?_
    obtain ⟨c2, oc, vs, t, e2, hoc, hd, hv⟩ := hrec
    cases e2
    have hsz : s.heap.objs.size ≤ h'.objs.size := Nat.le_trans hge (Nat.le_of_lt hlt)
    have nC : G.H c' = none := I.hok.fresh hge
    have I1 := LamX.inv_table (t' := tk) (more := #[rawInt pos.line, rawInt pos.col, .ref c']) (h' := h'.push (PySem.W.kla_obj "<lambda>" (X.env.qual ++ "<lambda>") params body scope (cloFrom X.env.cells scope.names []) ((X.mg "__name__").getD .none) c' ctv)) I hP
      (fun b o hb e => Heap.get?_push_of_some _ (hx b o hb e)) (Heap.get?_push_of_some _ htb) hge ⟨oc, vs, t, Heap.get?_push_of_some _ hoc, hd, hv⟩
    obtain ⟨g, rs'⟩ := tab_more (pos := pos) rs hm hu hP ht nC ha
    refine h h'.objs.size c' ((X.mg "__name__").getD .none) ctv ⟨G.n, G.μ, _⟩ _ I1 g rs' (Heap.get?_push_size _ rfl) ?_ (nofr _ hsz) upd_same
    have n1 : h'.objs.size ≠ c' := Nat.ne_of_gt hlt
    have n2 : h'.objs.size ≠ P := Nat.ne_of_gt (Nat.lt_of_lt_of_le (Heap.lt_size hP') hsz)
    show upd (upd G.H P _) c' _ _ = none
    rw [upd_ne n1, upd_ne n2]
    exact I.hok.fresh hsz
  | some cv =>
    obtain ⟨c', e, hco⟩ := ha pos cv hc
    subst e
    refine PySem.W.kla_makeFunctionHit (mg := X.mg) (c := c) (P := P) (ps := ps) (closure_ok hfree) I.ok.glob (I.mod.glob.keeps I.bk) hcode (TB.code.keeps I.bk) hP' ht hc bP fun ctv h' tk hx hsz => ?_
    have I1 : Inv X pins σ G.H { s with heap := h'.push (PySem.W.kla_obj "<lambda>" (X.env.qual ++ "<lambda>") params body scope (cloFrom X.env.cells scope.names []) ((X.mg "__name__").getD .none) c' ctv), toks := tk } := I.kept fun b o e => Heap.get?_push_of_some _ (hx b o e)
    exact h h'.objs.size c' ((X.mg "__name__").getD .none) ctv G _ I1 (Grow.refl G) rs (Heap.get?_push_size _ rfl) (I.hok.fresh hsz) (nofr _ hsz) hco
end

/-! ### another function handed in -/
def Sta.with (S : Sta) (r : Option (Addr × Addr × Nat × List V)) : Sta := { S with reg := r }
section
variable {S : Sta} {G : Wd} {st : St} {r : Option (Addr × Addr × Nat × List V)}
mutual
theorem relW_reg {S S' : Sta} (hK : S'.K = S.K) (hg : S'.gv = S.gv) : ∀ (w : W) (v : V), w.noclo = true → RelW S G v w → RelW S' G v w
  | .non, _, _, h => h
  | .bl _, _, _, h => h
  | .int _, _, _, h => h
  | .str _, _, _, h => h
  | .tup ws, v, l, h => by
    simp only [W.noclo] at l
    simp only [RelW] at h ⊢
    obtain ⟨a, vs, e, q, r⟩ := h
    exact ⟨a, vs, e, hK ▸ q, relWs_reg hK hg ws vs l r⟩
  | .lst ws, v, l, h => by
    simp only [W.noclo] at l
    simp only [RelW] at h ⊢
    obtain ⟨a, o, vs, e, q, r⟩ := h
    exact ⟨a, o, vs, e, q, relWs_reg hK hg ws vs l r⟩
  | .dic ks ws, v, l, h => by
    simp only [W.noclo] at l
    simp only [RelW] at h ⊢
    obtain ⟨a, o, vs, e, q, k, r⟩ := h
    exact ⟨a, o, vs, e, q, k, relWs_reg hK hg ws _ l r⟩
  | .obj c fs ws, v, l, h => by
    simp only [W.noclo] at l
    simp only [RelW] at h ⊢
    obtain ⟨a, o, C, dx, kvs, e, c, q, k, r⟩ := h
    exact ⟨a, o, C, dx, kvs, e, hg ▸ c, q, k, relWs_reg hK hg ws _ l r⟩
  | .ref j, v, l, h => by simpa only [RelW] using h
  | .glo x, v, _, h => by
    simp only [RelW] at h ⊢
    rw [hg]; exact h
  | .ty m, v, _, h => h
  | .clo m ws, v, l, h => by simp [W.noclo] at l
theorem relWs_reg {S S' : Sta} (hK : S'.K = S.K) (hg : S'.gv = S.gv) : ∀ (ws : List W) (vs : List V), noclos ws = true → RelWs S G vs ws → RelWs S' G vs ws
  | [], _, _, h => by simpa only [RelWs] using h
  | w :: ws, vs, l, h => by
    simp only [noclos, Bool.and_eq_true] at l
    simp only [RelWs] at h ⊢
    obtain ⟨v, r, e, q, q2⟩ := h
    exact ⟨v, r, e, relW_reg hK hg w v l.1 q, relWs_reg hK hg ws r l.2 q2⟩
end
theorem relSt_reg {S S' : Sta} (hK : S'.K = S.K) (hg : S'.gv = S.gv) (hT : S'.T = S.T) (l : st.all Cell.noclo = true) (h : RelSt S G st) : RelSt S' G st := by
  refine ⟨h.len, h.inj, fun i c q => ?_, hT ▸ h.tabs⟩
  have lc := List.all_eq_true.mp l c (List.mem_of_getElem? q)
  have rc := h.cell i c q
  cases c with
  | lst ws => obtain ⟨vs, h1, h2⟩ := rc; exact ⟨vs, h1, relWs_reg hK hg ws vs lc h2⟩
  | ins c fs ws => obtain ⟨C, dx, kvs, h0, h1, h2, h3⟩ := rc; exact ⟨C, dx, kvs, hg ▸ h0, h1, h2, relWs_reg hK hg ws _ lc h3⟩
end

/-! ### the def that is handed it -/
/-- the function that was handed in, at a def's entry -/
def RegE (S : Sta) (P : Program) (w : World) (base : Heap) (k : Nat) (lam : Nat → List W → List W → M W) : List Env → Shared → Hp → Prop := fun outer s H => ∀ f c' n cv, S.reg = some (f, c', n, cv) → ∃ (D : LamD) (pm ctv : Value) (cl : List (Str × Addr)), s.heap.get? f = some (lamObj D (S.lq n) cl pm c' ctv) ∧ H f = none ∧ f ∉ frs outer ∧
  NdefX.CellsAt cl D.fr (cv.map some) s.heap H ∧ (∀ y c, cl.lookup y = some c → c ∉ frs outer) ∧ LamW S P w base k D (S.lq n) (lam n) ∧ ∀ (as cs : List W) (st : St), lam n cs as st ≠ .stuck → as.length = D.ps.length
theorem RegE.ok {S : Sta} {CX : CXT} {P : Program} {w : World} {K : PySem.W.Frag} {mg : Str → Option Value} {base : Heap} {N : List Str} {qual : Str} {scope : Scope} {f : Addr} {cd : Value} {A : Around} {outer : List Env} {s : Shared} {H : Hp} {E : XK} {k : Nat} {lam : Nat → List W → List W → M W}
    (h : RegE S P w base k lam outer s H) : RegOk S (cxOf CX P w K mg base N qual scope f cd A outer s H E) k lam := fun f' c' n cv e => by
  obtain ⟨D, pm, ctv, cl, h1, h2, h3, h4, h5, h6, h7⟩ := h f' c' n cv e
  exact ⟨D, pm, ctv, cl, h1, h2, h3, fun z => absurd (show f' ∈ ([] : List Addr) from z) (by simp), h4, h5, fun y c _ z => absurd (show c ∈ ([] : List Addr) from z) (by simp), h6, h7⟩
/-- a def that is handed a function -/
structure FnH (S : Sta) (P : Program) (w : World) (base : Heap) (k : Nat) (g : Addr) (fd : FuncData) (ps : List Str) (rn : (Nat → List W → List W → M W) → List W → M W) : Prop where
  of : ∀ (r : Option (Addr × Addr × Nat × List V)) (lam : Nat → List W → List W → M W), FnR (RegE (S.with r) P w base k lam) (S.with r) P w base (k + 1) g fd ps (rn lam)

/-! ### its call -/
/-- the arguments ahead -/
inductive Args (S : Sta) (X : Cx) (Wx : WX) : List Expr → (Ρ → M (List W)) → Prop
  | nil : Args S X Wx [] (fun _ => pure [])
  | cons {e : Expr} {es : List Expr} {f : Ρ → M W} {fs : Ρ → M (List W)} (h : PE X e (tE S Wx f)) (hs : ∀ r, starEach (e :: r) X.env = (false, eval e X.env) :: starEach r X.env) (t : Args S X Wx es fs) : Args S X Wx (e :: es) (fun ρ => do let w ← f ρ; let ws ← fs ρ; pure (w :: ws))
theorem args_run {S : Sta} {X : Cx} {Wx : WX} {l : Expr} {es : List Expr} {fs : Ρ → M (List W)} (h : Args S X Wx es fs) : ∀ {pos : Pos} {pins : List (Addr × Obj)} {s : Shared} {σ : Sl} {H : Hp} {G : Wd} {ρ : Ρ} {st : St} {α : Type} {k : List W → M α} {P : α → Wd → St → Prop} {R : List Value → Shared → Prop},
    Inv X pins σ H s → At S σ H G ρ st → Fin S Wx σ G P ((fs ρ >>= k) st) →
    (∀ us vs ws s1 G1 st1, Inv X pins σ G1.H s1 → At S σ G1.H G1 ρ st1 → Grow G G1 → Vals vs us → RelWs S G1 vs ws → ws.length = es.length → Fin S Wx σ G1 P (k ws st1) → wpAny (model X.prog X.w) X.A (spliced (backTo pos (starEach [l] X.env))) (fun us' s' => R (us ++ us') s') X.xe s1) →
    wpAny (model X.prog X.w) X.A (spliced (backTo pos (starEach (es ++ [l]) X.env))) R X.xe s := by
  induction h with
  | nil =>
    intro pos pins s σ H G ρ st α k P R I a f hk
    obtain rfl := a.hp
    exact hk [] [] [] s G st I a (Grow.refl G) .nil RelWs.nil rfl f
  | @cons e es f fs h hs t ih =>
    intro pos pins s σ H G ρ st α k P R I a fi hk
    show wpAny _ _ (spliced (backTo pos (starEach (e :: (es ++ [l])) X.env))) _ _ _
    rw [hs]
    show wpAny _ _ (spliced ((false, eval e X.env) :: backTo pos (starEach (es ++ [l]) X.env))) _ _ _
    have fi : Fin S Wx σ G P ((f ρ >>= fun w => fs ρ >>= fun ws => k (w :: ws)) st) := by
      have z : ((do let w ← f ρ; let ws ← fs ρ; pure (w :: ws)) >>= k) = (f ρ >>= fun w => fs ρ >>= fun ws => k (w :: ws)) := by
        simp only [M.bind_assoc]
        rfl
      have fi' : Fin S Wx σ G P (((do let w ← f ρ; let ws ← fs ρ; pure (w :: ws)) >>= k) st) := fi
      rw [z] at fi'
      exact fi'
    refine Calls.spliced_cons (thn (h.run pins s σ H _ I (bindE a fi fun x H1 G1 w st1 b1 f1 => (⟨G1, st1, w, b1.at_, b1.gr, b1.rel, f1⟩ : ∃ G1 st1 w, At S σ H1 G1 ρ st1 ∧ Grow G G1 ∧ RelW S G1 x w ∧ Fin S Wx σ G1 P ((fs ρ >>= fun ws => k (w :: ws)) st1)))) fun u s1 ⟨x, H1, I1, r1, G1, st1, w, a1, g1, rw1, f1⟩ => ?_)
    obtain rfl := a1.hp
    refine ih I1 a1 f1 fun us vs ws s2 G2 st2 I2 a2 g2 rv rw2 lw f2 => ?_
    exact hk (u :: us) (x :: vs) (w :: ws) s2 G2 st2 I2 a2 (g1.trans g2) (.cons r1 rv) (RelWs.cons (RelW.grow g2 _ _ rw1) rw2) (by rw [List.length_cons, List.length_cons, lw]) f2
theorem caps_rel {S : Sta} {G : Wd} {σ : Sl} {ρ : Ρ} (h : RelSl S G σ ρ) : ∀ {js : List Nat} {cs : List W}, getVs ρ js = some cs → ∃ cv, js.map (NdefX.slotAt σ) = cv.map some ∧ RelWs S G cv cs
  | [], cs, e => by
    simp only [getVs, Option.some.injEq] at e
    subst e
    exact ⟨[], rfl, RelWs.nil⟩
  | j :: js, cs, e => by
    simp only [getVs, Option.bind_eq_some_iff, Option.map_eq_some_iff] at e
    obtain ⟨w, e1, ws, e2, rfl⟩ := e
    obtain ⟨v, h1, h2⟩ := h.get e1
    obtain ⟨cv, h3, h4⟩ := caps_rel h e2
    exact ⟨v :: cv, by rw [List.map_cons, List.map_cons, h3, NdefX.slotAt_of h1], RelWs.cons h2 h4⟩
theorem noCl_fin {S S' : Sta} {Wx : WX} {σ : Sl} {G : Wd} {Q : VK} {m : M W} {st : St} (hK : S'.K = S.K) (hg : S'.gv = S.gv) (hT : S'.T = S.T) (h : Fin S Wx σ G (PQ S Q) (M.noCl m st)) : st.all Cell.noclo = true ∧ Fin S' Wx σ G (PQ S' Q) (m st) := by
  unfold M.noCl at h
  split at h
  · rename_i l
    refine ⟨l, ?_⟩
    cases e : m st with
    | stuck => rw [e] at h; exact h
    | ok w st' =>
      rw [e] at h
      dsimp only at h
      split at h
      · rename_i l2
        simp only [Bool.and_eq_true] at l2
        exact fun G' g rs v r => h G' g (relSt_reg hK.symm hg.symm hT.symm l2.2 rs) v (relW_reg hK.symm hg.symm w v l2.1 r)
      · exact h.elim
    | exc c fs xs st' =>
      rw [e] at h
      dsimp only at h
      split at h
      · rename_i l2
        simp only [Bool.and_eq_true] at l2
        exact fun G' C d kvs g rs k1 k2 k3 k4 => h G' C d kvs g (relSt_reg hK.symm hg.symm hT.symm l2.2 rs) (hg ▸ k1) k2 k3 (relWs_reg hK.symm hg.symm xs _ l2.1 k4)
      · exact h.elim
  · exact h.elim
/-- the def's own cells are no frames -/
theorem cells_off {X : Cx} {pins : List (Addr × Obj)} {σ : Sl} {H : Hp} {s : Shared} (I : Inv X pins σ H s) (hfn : ∀ y, X.fn y = true) (y : Str) (c : Addr) (e : X.env.cells.lookup y = some c) : c ∉ frs X.stack := fun z => by
  rcases List.mem_cons.mp (I.stkSub _ z) with q | q
  · obtain ⟨v, o, ho, hd⟩ := I.cell y c e
    obtain ⟨m, ⟨o', es, ep, ho', hd', _⟩, _⟩ := I.loc
    rw [q, ho'] at ho
    cases ho
    rw [hd'] at hd
    cases hd
  · obtain ⟨_, o, ho, _⟩ := I.ok.funs.mem q
    exact absurd (Heap.lt_size ho) (Nat.not_lt.mpr (I.ok.cab y c (hfn y) e))
section
variable {S : Sta} {X : Cx} {Wx : WX} {k n : Nat} {x : Str} {p pos lpos : Pos} {es : List Expr} {fs : Ρ → M (List W)} {C : Cf} {g c P : Addr} {fd : FuncData} {ps : List Str} {D : LamD} {js : List Nat} {L : List W → List W → M W}
theorem s_callL (hK : X.K = S.K) (hm : X.mg = S.gv) (hr : Room (k + 1) X.A) (hg : X.A.guards = some []) (tk : L2N.Takes X Wx) (hgx : Gl X x) (hdb : (x == ("__debug__" : Str)) = false) (hmx : X.mg x = some (.ref g)) (hkeep : PySem.W.keepIn X.K (.ref g) = true)
    (hC : ∀ m h, C.hof x m = some h → m = ps.length ∧ FnH S X.prog X.w X.base k g fd ps h) (hb : ∀ s us, us.length = ps.length → S.K.In s.heap → BindsTo s fd ⟨us, []⟩ (ps.zip us))
    (hL : ∀ r, LamW (S.with r) X.prog X.w X.base k D (S.lq n) L) (hlen : ∀ (as cs : List W) (st : St), L cs as st ≠ .stuck → as.length = D.ps.length)
    (TB : LamX.TabB X.base X.mg c P) (hcode : X.env.code = .ref c) (hq : X.env.qual ++ "<lambda>" = S.lq n) (hT : (P, S.lq n) ∈ S.T) (hu : ∀ p ∈ S.T, p.1 = P → p.2 = S.lq n) (hdef : defaultsOf D.params X.env = ([], []))
    (hfree : ∀ y ∈ D.scope.names, y.2 = .free → X.env.scope.names.lookup y.1 = some .cell ∨ X.env.scope.names.lookup y.1 = some .free) (hfr : ∀ y ∈ D.fr, (y, NameKind.free) ∈ D.scope.names) (hjs : js.map (fun j => X.N[j]?) = D.fr.map some)
    (hFN : ∀ y, X.fn y = true) (ha : Args S X Wx es fs) (he : ∀ e r, es ++ [Expr.Lambda D.params D.body D.scope lpos] = e :: r → starEach (e :: r) X.env = (false, eval e X.env) :: starEach r X.env ∧ (backTo pos (starEach r X.env)).any (·.1) = false) :
    PE X (.Call (.Name x p) (es ++ [.Lambda D.params D.body D.scope lpos]) [] pos) (tE S Wx (fun ρ => do
      let h ← M.lift (C.hof x (es.length + 1))
      let ws ← fs ρ
      let cs ← M.lift (getVs ρ js)
      M.chk (noclos ws && noclos cs)
      M.noCl (h (fun _ => L) (ws ++ [.clo n cs])))) := by
  refine ⟨fun pins s σ H Q I h => ?_⟩
  obtain ⟨G, ρ, st, a, fi⟩ := h
  obtain ⟨hh, eh, fi⟩ := Fin.lift fi
  obtain ⟨lps, FH⟩ := hC _ _ eh
  refine wpAny_Call_Name_kw (ld_glob I hgx hmx ?_ hdb)
  obtain ⟨e0, r0, ee⟩ : ∃ e0 r0, es ++ [Expr.Lambda D.params D.body D.scope lpos] = e0 :: r0 := by
    cases es with
    | nil => exact ⟨_, _, rfl⟩
    | cons e es => exact ⟨_, _, rfl⟩
  have run := args_run (l := .Lambda D.params D.body D.scope lpos) (R := fun us s1 => X.K.In s1.heap ∧ wpAny (model X.prog X.w) X.A (call (.ref g) us) (EP X pins σ Q) X.xe s1) ha (pos := pos) I a fi
  rw [ee] at run ⊢
  refine PySem.W.callWith_K (h₀ := X.base) (first := []) I.ok.mod.kin hkeep (run fun us vs ws s1 G1 st1 I1 a1 g1 rv rws lw f1 => ?_) (he e0 r0 ee).1 (he e0 r0 ee).2
  show wpAny _ _ (spliced ((false, eval (.Lambda D.params D.body D.scope lpos) X.env) :: [])) _ _ s1
  obtain ⟨cs, ecs, f3⟩ := Fin.lift f1
  obtain ⟨nc, f4⟩ := Fin.chk f3
  simp only [Bool.and_eq_true] at nc
  have hfree' : ∀ y ∈ D.scope.names, y.2 = .free → ∃ c, X.env.cells.lookup y.1 = some c := fun y hy e => (hfree y hy e).elim (fun z => I1.ok.has _ (.inl z)) fun z => I1.ok.has _ (.inr z)
  refine Calls.spliced_cons (lam_new I1 a1.st TB hcode hq hT hu hdef hfree' fun f c' pm ctv G2 s2 I2 g2 rs2 hf hfn hfs hco => ?_)
  refine Calls.spliced_nil ⟨I2.kIn, ?_⟩
  obtain ⟨cv, ecv, rcv⟩ := caps_rel (a1.sl.grow g2) ecs
  obtain ⟨lst, f5⟩ := noCl_fin (S := S) (S' := S.with (some (f, c', n, cv))) rfl rfl rfl f4
  have CA : NdefX.CellsAt (cloFrom X.env.cells D.scope.names []) D.fr (cv.map some) s2.heap G2.H := by
    have z := NdefX.cells_of I2 (NdefX.Caps.made I2.ok hfree hfr hjs)
    rw [ecv] at z
    exact z
  have sub : ∀ y c, (cloFrom X.env.cells D.scope.names []).lookup y = some c → X.env.cells.lookup y = some c := fun y c e => NdefX.clo_cm hfree' e
  have rE : RegE (S.with (some (f, c', n, cv))) X.prog X.w X.base k (fun _ => L) X.stack s2 G2.H := fun f1 c1 n1 cv1 e => by
    cases e
    exact ⟨D, pm, ctv, _, hf, hfn, hfs, CA, fun y c e => cells_off I2 hFN y c (sub y c e), hL _, hlen⟩
  have e0' := I2.env0
  rw [hK, hm] at e0'
  have rargs : RelWs (S.with (some (f, c', n, cv))) G2 (vs ++ [.ref f]) (ws ++ [.clo n cs]) := by
    refine RelWs.append (relWs_reg (S := S) (S' := S.with (some (f, c', n, cv))) rfl rfl ws vs nc.1 (RelWs.grow g2 _ _ rws)) (RelWs.cons ?_ RelWs.nil)
    simp only [RelW]
    exact ⟨f, c', cv, rfl, rfl, hco, relWs_reg (S := S) (S' := S.with (some (f, c', n, cv))) rfl rfl cs cv nc.2 rcv⟩
  have lus : (us ++ [Value.ref f]).length = ps.length := by
    rw [List.length_append, ← rv.length, rws.length, lw]
    exact lps
  refine wpAny_call (codeAny_mono (((FH.of (some (f, c', n, cv)) fun _ => L).run X.A X.stack s2 G2.H ⟨us ++ [.ref f], []⟩ (us ++ [.ref f]) (vs ++ [.ref f]) Q (fun c d H => Wx c d σ H) hr hg e0' (hb s2 _ lus (hK ▸ I2.kIn)) (rv.append (.cons (show L2.RelV (.ref f) (.ref f) from rfl) .nil)) lus rE
    ⟨G2, st1, _, rfl, relSt_reg (S := S) (S' := S.with (some (f, c', n, cv))) rfl rfl rfl lst rs2, rargs, (f5.grow g2).wu⟩)) fun r s' hq => ?_)
  cases r with
  | error e => exact tk e s' (L2N.XE.of_call I2 (fun _ _ _ z => z) hq)
  | ok fl =>
    cases fl with
    | ret u => exact I2.after hq
    | next => exact False.elim hq
    | brk => exact False.elim hq
    | cont => exact False.elim hq
end
end Pf

/-! part P23 -/
set_option Elab.async false
set_option linter.all false
set_option maxRecDepth 100000
set_option autoImplicit false
set_option maxHeartbeats 1000000
/-! From the text to the fragment. -/
namespace Pf
open PySem PySem.Spec PyProof.Rows L2

/-- the names of the module: defs and classes that are called, those that are handed a function, other values, built-in names that nobody stores, classes; the names of comprehensions -/
structure Txt where
  fns : List Str
  hof : List Str
  cst : List Str
  blt : List Str
  cls : List Str
  extra : List Str
  never : List Str

def ixOf (N : List Str) (x : Str) : Option Nat := match N with
  | [] => none
  | y :: r => if y = x then some 0 else (ixOf r x).map (· + 1)
theorem ixOf_get {N : List Str} {x : Str} {i : Nat} (h : ixOf N x = some i) : N[i]? = some x := by
  induction N generalizing i with
  | nil => cases h
  | cons y r ih =>
    unfold ixOf at h
    split at h
    · rename_i e; cases h; rw [e]; rfl
    · simp only [Option.map_eq_some_iff] at h
      obtain ⟨j, h1, rfl⟩ := h
      simpa using ih h1
def visB (sc : Scope) (x : Str) : Bool := match sc.names.lookup x with
  | some .local => true | some .cell => true | some .free => true
  | _ => false
def locB (sc : Scope) (x : Str) : Bool := match sc.names.lookup x with
  | some .local => true | some .cell => true
  | _ => false
def gloB (sc : Scope) (x : Str) : Bool := match sc.names.lookup x with
  | some .globalImplicit => true
  | _ => false
def notDbg (x : Str) : Bool := !(x == ("__debug__" : Str)) && !(x == ("__classdict__" : Str)) && decide (x ≠ "__name__")
def ownOf (N : List Str) (scope : Scope) : List (Str × Nat) := scope.names.filterMap fun y => match y.2 with
  | .local => (ixOf N y.1).map fun i => (y.1, i)
  | .cell => (ixOf N y.1).map fun i => (y.1, i)
  | _ => none
mutual
def Tg.is : Tg → List Nat
  | .var i => [i]
  | .tup ts => ts.is
  | .attr _ _ => []
  | .ix _ _ => []
def Tgs.is : Tgs → List Nat
  | .nil => []
  | .cons t r => t.is ++ r.is
end
def sName (T : Txt) (N : List Str) (sc : Scope) (x : Str) : Option Ex :=
  if notDbg x = true then (if visB sc x = true then (ixOf N x).map .var else if gloB sc x = true ∧ x ∈ T.cst then some (.glo x) else none) else none
def sConst : Const → Option Ex
  | .int i => some (.cst (.int i))
  | .bool b => some (.cst (.bl b))
  | .none => some (.cst .non)
  | .str x => some (.cst (.str x))
  | _ => none
def noStar : Expr → Bool
  | .Starred _ _ => false
  | _ => true
def attrOk : Expr → Bool
  | .Call _ [] [] _ => false
  | _ => true
def ixOk : Expr → Bool
  | .Name _ _ => true | .BinOp _ _ _ _ => true | .Call _ _ _ _ => true | .Attribute _ _ _ => true | .Subscript _ _ _ => true | .IfExp _ _ _ _ => true
  | .Constant (.int _) _ _ => true
  | .UnaryOp _ _ _ => true
  | _ => false
def bis1 : List (Str × Bi) := [("len", .len), ("all", .all), ("any", .any), ("sum", .sum), ("min", .min1), ("max", .max1), ("tuple", .tuple), ("list", .list), ("sorted", .sorted), ("abs", .abs), ("int", .int), ("bool", .bool), ("repr", .repr)]
def bis2 : List (Str × Bi) := [("min", .min2), ("max", .max2)]
def bis3 : List (Str × Bi) := [("sorted", .sset), ("len", .slen)]
def bi3 (x : Str) : Option Bi := bis3.lookup x
def bi1 (x : Str) : Option Bi := bis1.lookup x
def bi2 (x : Str) : Option Bi := bis2.lookup x
def tyNames : List (Str × String) := [("int", "int"), ("bool", "bool"), ("str", "str"), ("tuple", "tuple"), ("list", "list"), ("dict", "dict"), ("ValueError", "ValueError")]
def sTy (T : Txt) (sc : Scope) : Expr → Option Ty
  | .Name x _ => if gloB sc x = true ∧ notDbg x = true then (if x ∈ T.cls then some (.cl x) else if x ∈ T.blt then (tyNames.lookup x).map .ty else none) else none
  | _ => none
def paramNames : Arguments → Option (List Str)
  | ⟨[], as, none, [], [], none, []⟩ => some (as.map (·.arg))
  | _ => none
def freeNames (sc : Scope) : List Str := sc.names.filterMap fun y => match y.2 with
  | .free => some y.1
  | _ => none
def allIx (N : List Str) : List Str → Option (List Nat)
  | [] => some []
  | x :: r => (ixOf N x).bind fun i => (allIx N r).map (i :: ·)
def one {α : Type} : List α → Option α
  | [a] => some a
  | _ => none
def two {α : Type} : List α → Option (α × α)
  | [a, b] => some (a, b)
  | _ => none
theorem one_eq {α : Type} {l : List α} {a : α} (h : one l = some a) : l = [a] := by
  match l, h with
  | [b], h => cases h; rfl
theorem two_eq {α : Type} {l : List α} {a : α × α} (h : two l = some a) : l = [a.1, a.2] := by
  match l, h with
  | [b, c], h => cases h; rfl
def isTupE : Expr → Bool
  | .Tuple _ _ _ => true
  | _ => false
def splitLast : List Expr → Option (List Expr × Expr)
  | [] => none
  | [e] => some ([], e)
  | e :: r => (splitLast r).map fun p => (e :: p.1, p.2)
/-- set(b) -/
def setArg (T : Txt) (sc : Scope) : Expr → Option Expr
  | .Call (.Name s _) [b] [] _ => if s = "set" ∧ gloB sc s = true ∧ s ∈ T.blt ∧ noStar b = true then some b else none
  | _ => none
theorem setArg_eq {T : Txt} {sc : Scope} {e b : Expr} (h : setArg T sc e = some b) : (∃ p q, e = .Call (.Name "set" p) [b] [] q) ∧ gloB sc "set" = true ∧ ("set" : Str) ∈ T.blt ∧ noStar b = true := by
  unfold setArg at h
  split at h
  · rename_i s p b' q
    split at h
    · rename_i hh
      cases h
      obtain ⟨rfl, h1, h2, h3⟩ := hh
      exact ⟨⟨p, q, rfl⟩, h1, h2, h3⟩
    · cases h
  · cases h
def kwNames (kws : List Keyword) : Option (List Str) := kws.mapM fun k => k.arg
mutual
def sE (T : Txt) : Nat → List Str → Option Nat → Bool → Scope → Expr → Option Ex
  | 0, _, _, _, _, _ => none
  | n + 1, N, ln, lb, sc, e => match e with
    | .Name x _ => sName T N sc x
    | .Constant c _ _ => sConst c
    | .Tuple es _ _ => (sA T n N ln lb sc es).map .tup
    | .List es _ => (sA T n N ln lb sc es).map .lst
    | .BinOp a op b _ => (sE T n N ln lb sc a).bind fun x => (sE T n N ln lb sc b).map fun y => .bin op x y
    | .UnaryOp op a _ => (match op with
      | .USub => (sE T n N ln lb sc a).map .neg
      | .Not => (sE T n N ln lb sc a).map .not
      | _ => none)
    | .BoolOp op es pos => (match es with
      | [a] => sE T n N ln lb sc a
      | a :: b :: r => (sE T n N ln lb sc a).bind fun x => (sE T n N ln lb sc (.BoolOp op (b :: r) pos)).map fun y => (match op with
        | .And => .and x y
        | .Or => .or x y)
      | [] => none)
    | .IfExp c a b _ => (sE T n N ln lb sc c).bind fun x => (sE T n N ln lb sc a).bind fun y => (sE T n N ln lb sc b).map fun z => .ite x y z
    | .Compare a ops bs _ => if bs.length = 1 then (one ops).bind fun o => (one bs).bind fun b => if behindInMarks o b = false then (sE T n N ln lb sc a).bind fun x => (sE T n N ln lb sc b).map fun y => .cmp o x y else none
      else (two ops).bind fun o => (two bs).bind fun b => if lastMarks [o.1, o.2] [b.1, b.2] = false then (sE T n N ln lb sc a).bind fun x => (sE T n N ln lb sc b.1).bind fun y => (sE T n N ln lb sc b.2).map fun z => .cmp2 o.1 o.2 x y z else none
    | .Attribute o f _ => if attrOk o = true then (sE T n N ln lb sc o).map fun x => .attr x f else none
    | .Subscript a b _ => (match b with
      | .Slice lo hi st _ => (match st with
        | some _ => none
        | none => (match lo with
          | some l => (match hi with
            | some h => (sE T n N ln lb sc a).bind fun x => (sE T n N ln lb sc l).bind fun y => (sE T n N ln lb sc h).map fun z => .sl x y z
            | none => (sE T n N ln lb sc a).bind fun x => (sE T n N ln lb sc l).map fun y => .slL x y)
          | none => (match hi with
            | some h => (sE T n N ln lb sc a).bind fun x => (sE T n N ln lb sc h).map fun y => .slH x y
            | none => (sE T n N ln lb sc a).map .slN)))
      | b => if ixOk b = true then (sE T n N ln lb sc a).bind fun x => (sE T n N ln lb sc b).map fun y => .ix x y else none)
    | .ListComp elt gs scope _ => sLC T n N ln lb sc elt gs scope
    | .Call f es kws pos => sC T n N ln lb sc f es kws
    | _ => none
/-- a list comprehension -/
def sLC (T : Txt) : Nat → List Str → Option Nat → Bool → Scope → Expr → List Comprehension → Scope → Option Ex
  | 0, _, _, _, _, _, _, _ => none
  | n + 1, N, ln, lb, sc, elt, gs, scope => match gs with
    | [⟨tg, it, ifs, 0⟩] =>
      if blkC N sc scope (ownOf N scope) = true then
        (sI T n N ln lb sc tg it).bind fun i => (sG T n N (relS scope sc) tg).bind fun t => (sT T n N (relS scope sc) ifs).bind fun c => (sE T n N none false (relS scope sc) elt).bind fun x =>
          if (t.is.all fun j => decide (j ∈ (ownOf N scope).map (·.2))) = true then some (.comp x t i c ((ownOf N scope).map (·.2))) else none
      else none
    | [⟨tg, it, ifs, 0⟩, ⟨tg1, it1, ifs1, 0⟩] =>
      if blkC N sc scope (ownOf N scope) = true then
        (sI T n N ln lb sc tg it).bind fun i => (sG T n N (relS scope sc) tg).bind fun t => (sT T n N (relS scope sc) ifs).bind fun c => (sI T n N none false (relS scope sc) tg1 it1).bind fun i1 => (sG T n N (relS scope sc) tg1).bind fun t1 => (sT T n N (relS scope sc) ifs1).bind fun c1 => (sE T n N none false (relS scope sc) elt).bind fun x =>
          if (t.is.all fun j => decide (j ∈ (ownOf N scope).map (·.2))) = true ∧ (t1.is.all fun j => decide (j ∈ (ownOf N scope).map (·.2))) = true then some (.comp2 x t i c t1 i1 c1 ((ownOf N scope).map (·.2)) t1.is) else none
      else none
    | _ => none
/-- a call -/
def sC (T : Txt) : Nat → List Str → Option Nat → Bool → Scope → Expr → List Expr → List Keyword → Option Ex
  | 0, _, _, _, _, _, _, _ => none
  | n + 1, N, ln, lb, sc, f, es, kws => match f with
    | .Name x _ =>
      if notDbg x = true ∧ es.all noStar = true then
        (if visB sc x = true then
          (if lb = true ∧ kws.isEmpty = true ∧ es.isEmpty = false then (ixOf N x).bind fun i => (sA T n N ln lb sc es).map fun a => .callV i a else none)
        else if gloB sc x = true then
          (if x ∈ T.fns then (if (kws.map (·.value)).all noStar = true then (kwNames kws).bind fun ks => (sA T n N ln lb sc es).bind fun a => (sA T n N ln lb sc (kws.map (·.value))).map fun b => .call x a ks b else none)
          else if x ∈ T.hof then (if kws.isEmpty = true then sH T n N ln lb sc x es else none)
          else if x ∈ T.blt then (if kws.isEmpty = true then (if es.length = 1 then (one es).bind fun a => match setArg T sc a with
              | some b => (bi3 x).bind fun q => (sE T n N ln lb sc b).map fun y => .bi q (.cons y .nil)
              | none => (bi1 x).bind fun b => (sE T n N ln lb sc a).map fun y => .bi b (.cons y .nil)
            else (two es).bind fun p => if x = "isinstance" then (sE T n N ln lb sc p.1).bind fun y => (sTy T sc p.2).map fun t => .isi y t
                else (bi2 x).bind fun q => (sE T n N ln lb sc p.1).bind fun y => (sE T n N ln lb sc p.2).map fun z => .bi q (.cons y (.cons z .nil))) else none)
          else none)
        else none)
      else none
    | _ => none
/-- a call whose last argument is a lambda -/
def sH (T : Txt) : Nat → List Str → Option Nat → Bool → Scope → Str → List Expr → Option Ex
  | 0, _, _, _, _, _, _ => none
  | n + 1, N, ln, lb, sc, x, es => (splitLast es).bind fun p => ln.bind fun l => match p.2 with
    | .Lambda params body scope _ => (paramNames params).bind fun ps =>
        (allIx N (freeNames scope)).bind fun js =>
          (if NdefX.nscB (ps ++ freeNames scope ++ T.extra.filter (fun y => decide (y ∉ ps ++ freeNames scope))) ps (freeNames scope) scope && NdefX.ndefB sc scope (freeNames scope) then
            (sA T n N ln lb sc p.1).bind fun a => (sE T n (ps ++ freeNames scope ++ T.extra.filter (fun y => decide (y ∉ ps ++ freeNames scope))) none false scope body).map fun b =>
              .callL x a l ps.length (freeNames scope).length (ps ++ freeNames scope ++ T.extra.filter (fun y => decide (y ∉ ps ++ freeNames scope))).length b js
          else none)
    | _ => none
/-- arguments -/
def sA (T : Txt) : Nat → List Str → Option Nat → Bool → Scope → List Expr → Option As
  | 0, _, _, _, _, _ => none
  | n + 1, N, ln, lb, sc, es => match es with
    | [] => some .nil
    | e :: r => (match e with
      | .Starred a _ => (sE T n N ln lb sc a).bind fun x => (sA T n N ln lb sc r).map fun y => .star x y
      | e => (sE T n N ln lb sc e).bind fun x => (sA T n N ln lb sc r).map fun y => .cons x y)
/-- what is walked -/
def sI (T : Txt) : Nat → List Str → Option Nat → Bool → Scope → Expr → Expr → Option Ex
  | 0, _, _, _, _, _, _ => none
  | n + 1, N, ln, lb, sc, tg, e => match e with
    | .Call (.Name x p) es kws pos =>
      if gloB sc x = true ∧ x ∈ T.blt ∧ kws.isEmpty = true ∧ es.all noStar = true then
        (if x = "range" then (if es.length = 1 then (one es).bind fun a => (sE T n N ln lb sc a).map fun y => .rng (.cst (.int 0)) y
          else (two es).bind fun p => (sE T n N ln lb sc p.1).bind fun y => (sE T n N ln lb sc p.2).map fun z => .rng y z)
        else if x = "enumerate" then (if isTupE tg = true then (one es).bind fun a => (sE T n N ln lb sc a).map .enm else none)
        else if x = "zip" then (if isTupE tg = true then (two es).bind fun p => (sE T n N ln lb sc p.1).bind fun y => (sE T n N ln lb sc p.2).map fun z => .zip y z else none)
        else (sE T n N ln lb sc e).map .it)
      else (sE T n N ln lb sc e).map .it
    | .Set _ _ _ => none
    | e => (sE T n N ln lb sc e).map .it
/-- a clause's tests -/
def sT (T : Txt) : Nat → List Str → Scope → List Expr → Option As
  | 0, _, _, _ => none
  | n + 1, N, sc, es => match es with
    | [] => some .nil
    | [e] => (sE T n N none false sc e).map fun x => .cons x .nil
    | _ => none
/-- targets -/
def sG (T : Txt) : Nat → List Str → Scope → Expr → Option Tg
  | 0, _, _, _ => none
  | n + 1, N, sc, e => match e with
    | .Name x _ => (ixOf N x).map .var
    | .Tuple es _ _ => if es.all noStar = true then (sGs T n N sc es).map .tup else none
    | .Attribute o f _ => (sE T n N none false sc o).map fun x => .attr x f
    | .Subscript o i _ => if ixOk i = true then (sE T n N none false sc o).bind fun x => (sE T n N none false sc i).map fun y => .ix x y else none
    | _ => none
def sGs (T : Txt) : Nat → List Str → Scope → List Expr → Option Tgs
  | 0, _, _, _ => none
  | n + 1, N, sc, es => match es with
    | [] => some .nil
    | e :: r => (sG T n N sc e).bind fun x => (sGs T n N sc r).map fun y => .cons x y
end

/-! ### plain parameters -/
theorem look_zip : ∀ {ns : List Str} {us : List Value}, us.length = ns.length → ns.Nodup → ns.filterMap (fun n => ((ns.zip us).lookup n).map fun v => (n, v)) = ns.zip us ∧ ∀ n ∈ ns, ((ns.zip us).lookup n).isNone = false := by
  intro ns us h nd
  have get : ∀ {ns : List Str} {us : List Value}, us.length = ns.length → ns.Nodup → ∀ (i : Nat) (n : Str), ns[i]? = some n → (ns.zip us).lookup n = us[i]? := by
    intro ns
    induction ns with
    | nil => intro us _ _ i n e; simp at e
    | cons m ns ih =>
      intro us h nd i n e
      cases us with
      | nil => simp at h
      | cons u us =>
        rw [List.zip_cons_cons, List.lookup_cons]
        cases i with
        | zero =>
          simp only [List.getElem?_cons_zero, Option.some.injEq] at e
          subst e
          simp
        | succ i =>
          simp only [List.getElem?_cons_succ] at e
          have hne : (n == m) = false := beq_eq_false_iff_ne.mpr fun z => (List.nodup_cons.mp nd).1 (z ▸ List.mem_of_getElem? e)
          rw [hne]
          simp only [List.getElem?_cons_succ]
          exact ih (by simpa using h) (List.nodup_cons.mp nd).2 i n e
  have all : ∀ n ∈ ns, ∃ v, (ns.zip us).lookup n = some v := fun n hn => by
    obtain ⟨i, hi⟩ := List.mem_iff_getElem?.mp hn
    have hlt : i < ns.length := (List.getElem?_eq_some_iff.mp hi).1
    exact ⟨us[i]'(by omega), by rw [get h nd i n hi, List.getElem?_eq_getElem (by omega)]⟩
  refine ⟨?_, fun n hn => by obtain ⟨v, e⟩ := all n hn; rw [e]; rfl⟩
  clear all
  induction ns generalizing us with
  | nil => simp
  | cons m ns ih =>
    cases us with
    | nil => simp at h
    | cons u us =>
      have e1 : ns.filterMap (fun n => (((m :: ns).zip (u :: us)).lookup n).map fun v => (n, v)) = ns.filterMap (fun n => ((ns.zip us).lookup n).map fun v => (n, v)) := by
        have hn : m ∉ ns := (List.nodup_cons.mp nd).1
        clear ih h nd
        generalize hz : ns.zip us = l
        have : ∀ ks : List Str, m ∉ ks → ks.filterMap (fun n => (((m :: ns).zip (u :: us)).lookup n).map fun v => (n, v)) = ks.filterMap (fun n => (l.lookup n).map fun v => (n, v)) := fun ks => by
          induction ks with
          | nil => intro _; rfl
          | cons a ks ih2 =>
            intro hk
            rw [List.mem_cons, not_or] at hk
            have hne : (a == m) = false := beq_eq_false_iff_ne.mpr (Ne.symm hk.1)
            rw [List.filterMap_cons, List.filterMap_cons, ih2 hk.2, List.zip_cons_cons, List.lookup_cons, hne, hz]
        exact this ns hn
      rw [List.filterMap_cons, e1, ih (by simpa using h) (List.nodup_cons.mp nd).2]
      simp
theorem bind_plain {fd : FuncData} {as : List Arg} {us : List Value} (hp : fd.params = ⟨[], as, none, [], [], none, []⟩) (hd : fd.defaults = .none) (nd : (as.map (·.arg)).Nodup) (hl : us.length = (as.map (·.arg)).length) : bindArgs fd ⟨us, []⟩ = pure ((as.map (·.arg)).zip us) := by
  obtain ⟨h1, h2⟩ := look_zip hl nd
  have h3 : ((as.map (·.arg)).take (as.map (·.arg)).length).filter (fun n => (((as.map (·.arg)).zip us).lookup n).isNone) = [] := by
    rw [List.take_length]
    exact List.filter_eq_nil_iff.mpr fun n hn => by rw [h2 n hn]; simp
  have hn : notAStandIn Value.none = pure () := rfl
  have h4 : ((#[] : Array Value).toList.drop ((#[] : Array Value).toList.length - (as.map (·.arg)).length)) = [] := by simp
  unfold bindArgs
  simp only [hp, hd, List.map_nil, List.nil_append, List.append_nil, List.forIn_nil, pure_bind, seqItems?, hn, Option.getD_none, List.zip_nil_right]
  rw [if_neg (by simp [hl])]
  rw [if_neg (by
    have e : (List.drop ((#[] : Array Value).toList.length - (as.map (·.arg)).length) (#[] : Array Value).toList).length = 0 := by simp
    rw [e, Nat.sub_zero, h3]
    simp)]
  have e : (List.drop ((#[] : Array Value).toList.length - (as.map (·.arg)).length) (#[] : Array Value).toList) = [] := by simp
  rw [e]
  simp only [List.zip_nil_right, List.forIn_nil, pure_bind, List.isEmpty_nil, Bool.not_true, Bool.false_eq_true, if_false, h1]
end Pf

/-! part P24 -/
set_option Elab.async false
set_option linter.all false
set_option maxRecDepth 100000
set_option autoImplicit false
set_option maxHeartbeats 4000000
/-! The text means what the fragment says: expressions. -/
namespace Pf
open PySem PySem.Spec PyProof.Rows L2

def Cf.withLam (C : Cf) (lam : Nat → List W → List W → M W) : Cf := { C with lam := lam }
/-- the context of a body -/
structure FitX (S : Sta) (P : Program) (w : World) (base : Heap) (k : Nat) (X : Cx) (N : List Str) (sc : Scope) : Prop where
  hK : X.K = S.K
  hm : X.mg = S.gv
  hP : X.prog = P
  hw : X.w = w
  hb : X.base = base
  room : Room k X.A
  grd : X.A.guards = some []
  calm : X.calm = true
  hN : X.N = N
  nd : N.Nodup
  hs : X.env.scope = sc
/-- .. of a def's body -/
structure FitL (S : Sta) (k : Nat) (X : Cx) (ln : Option Nat) (lb : Bool) (lam : Nat → List W → List W → M W) : Prop where
  reg : lb = true → RegOk S X k lam
  mkl : ∀ l, ln = some l → X.env.qual ++ "<lambda>" = S.lq l ∧ (∃ c P, X.env.code = .ref c ∧ LamX.TabB X.base X.mg c P ∧ (P, S.lq l) ∈ S.T ∧ ∀ p ∈ S.T, p.1 = P → p.2 = S.lq l) ∧ ∀ y, X.fn y = true
/-- what is known of the program's defs at level k -/
structure Facts (S : Sta) (Cfs : Nat → Cf) (P : Program) (w : World) (base : Heap) (T : Txt) (k : Nat) : Prop where
  tabs : ∀ r, Tabs (S.with r) (Cfs k)
  fn : ∀ x ∈ T.fns, ∃ u, S.gv x = some u ∧ PySem.W.keepIn S.K u = true ∧ ∀ n ks rn, (Cfs k).fn x n ks = some rn → ∀ (r : Option (Addr × Addr × Nat × List V)) (X : Cx) (Wx : WX), X.K = S.K → X.mg = S.gv → X.prog = P → X.w = w → X.base = base → Room k X.A → X.A.guards = some [] → L2N.Takes X Wx → CallOk (S.with r) X Wx u n ks rn
  hof : ∀ x ∈ T.hof, ∃ g fd ps, S.gv x = some (.ref g) ∧ PySem.W.keepIn S.K (.ref g) = true ∧ (∀ s us, us.length = ps.length → S.K.In s.heap → BindsTo s fd ⟨us, []⟩ (ps.zip us)) ∧ ∀ m h, (Cfs k).hof x m = some h → ∃ j, k = j + 2 ∧ m = ps.length ∧ FnH S P w base (j + 1) g fd ps h
  lamF : ∀ j, k = j + 2 → (Cfs k).lamF = fun np nf sl b => lamW (Cfs j) np nf sl b
  cst : ∀ x ∈ T.cst, ∃ u v, S.gv x = some u ∧ RelV v u ∧ ∀ w, (Cfs k).gv x = some w → ∀ r G, RelW (S.with r) G v w
  blt : ∀ x ∈ T.blt, S.gv x = none
  cls : ∀ x ∈ T.cls, ∃ a, S.gv x = some (.ref a)
theorem starEach_cons {e : Expr} {r : List Expr} {env : Env} (h : noStar e = true) : starEach (e :: r) env = (false, eval e env) :: starEach r env := by
  cases e <;> first | rfl | cases h
theorem starEach_plain {env : Env} {pos : Pos} : ∀ {es : List Expr}, es.all noStar = true → (backTo pos (starEach es env)).any (·.1) = false
  | [], _ => rfl
  | e :: r, h => by
    simp only [List.all_cons, Bool.and_eq_true] at h
    rw [starEach_cons h.1]
    show (false || (backTo pos (starEach r env)).any (·.1)) = false
    rw [starEach_plain h.2]; rfl
theorem kw_facts {env : Env} {pos : Pos} : ∀ {kws : List Keyword} {ks : List Str}, kwNames kws = some ks → (backToKw pos (keywordEach kws env)).all (·.1.isSome) = true ∧ (backToKw pos (keywordEach kws env)).filterMap (·.1) = ks ∧ (backToKw pos (keywordEach kws env)).any (·.1.isNone) = false ∧ kws.length = ks.length
  | [], ks, h => by
    unfold kwNames at h
    simp at h
    subst h
    exact ⟨rfl, rfl, rfl, rfl⟩
  | ⟨nm, v, p⟩ :: kws, ks, h => by
    unfold kwNames at h
    rw [List.mapM_cons] at h
    cases nm with
    | none => cases h
    | some x =>
      cases e : kwNames kws with
      | none =>
        unfold kwNames at e
        rw [e] at h
        cases h
      | some ks' =>
        obtain ⟨h1, h2, h3, h4⟩ := kw_facts (env := env) (pos := pos) e
        unfold kwNames at e
        rw [e] at h
        have h : some (x :: ks') = some ks := h
        cases h
        refine ⟨?_, ?_, ?_, by rw [List.length_cons, List.length_cons, h4]⟩
        · show (true && (backToKw pos (keywordEach kws env)).all (·.1.isSome)) = true
          rw [h1]; rfl
        · show x :: (backToKw pos (keywordEach kws env)).filterMap (·.1) = _
          rw [h2]
        · show (false || (backToKw pos (keywordEach kws env)).any (·.1.isNone)) = false
          rw [h3]; rfl
theorem vis_of {sc : Scope} {x : Str} (h : visB sc x = true) : Vis sc x := by
  unfold visB at h
  split at h
  · rename_i e; exact .inl e
  · rename_i e; exact .inr (.inl e)
  · rename_i e; exact .inr (.inr e)
  · cases h
theorem loc_of {sc : Scope} {x : Str} (h : locB sc x = true) : Loc sc x := by
  unfold locB at h
  split at h
  · rename_i e; exact .inl e
  · rename_i e; exact .inr e
  · cases h
theorem glo_of {sc : Scope} {x : Str} (h : gloB sc x = true) : sc.names.lookup x = some .globalImplicit := by
  unfold gloB at h
  split at h
  · rename_i e; exact e
  · cases h
theorem dbg_of {x : Str} (h : notDbg x = true) : (x == ("__debug__" : Str)) = false ∧ (x == ("__classdict__" : Str)) = false ∧ x ≠ "__name__" := by
  unfold notDbg at h
  simp only [Bool.and_eq_true, Bool.not_eq_true', decide_eq_true_eq] at h
  exact ⟨h.1.1, h.1.2, h.2⟩
theorem attr_ok {e : Expr} {f : Str} {env : Env} (h : attrOk e = true) : attributeBase e f env (eval e env) = eval e env := by
  cases e with
  | Call fn as ks p =>
    cases as with
    | nil => cases ks with
      | nil => cases h
      | cons k ks => cases fn <;> rfl
    | cons a as => cases fn <;> rfl
  | _ => rfl
theorem ix_ok {e : Expr} (h : ixOk e = true) : PlainIx e := by
  cases e with
  | Constant c k p => cases c <;> first | (intro _ _; rfl) | cases h
  | _ => first | (intro _ _; rfl) | cases h

section
variable {S : Sta} {Cfs : Nat → Cf} {P : Program} {w : World} {base : Heap} {T : Txt}
theorem FitX.hu {k : Nat} {X : Cx} {N : List Str} {sc : Scope} (f : FitX S P w base k X N sc) : X.A.units + 65 < cLine := by have := f.room.un; omega
theorem FitX.gl {k : Nat} {X : Cx} {N : List Str} {sc : Scope} (f : FitX S P w base k X N sc) {x : Str} (h : gloB sc x = true) : Gl X x := by
  show X.env.scope.names.lookup x = _
  rw [f.hs]; exact glo_of h
/-- a comprehension's block -/
theorem FitX.blk {k : Nat} {X : Cx} {N : List Str} {sc : Scope} (f : FitX S P w base k X N sc) (s : Shared) (H : Hp) (scope : Scope) (cl : List (Str × Addr)) (C : Addr) (fp : List Addr) : FitX S P w base k (X.blk s H scope (compEnvC scope cl C X.env) fp) N (relS scope sc) :=
  ⟨f.hK, f.hm, f.hP, f.hw, f.hb, f.room, f.grd, f.calm, f.hN, f.nd, by rw [← f.hs]; rfl⟩
theorem FitL.none {k : Nat} {X : Cx} {lam : Nat → List W → List W → M W} : FitL S k X none false lam := ⟨(fun z => by cases z), (fun _ z => by cases z)⟩
theorem takes0 {X : Cx} : L2N.Takes X Wf := fun _ _ x => by
  obtain ⟨_, _, _, _, _, _, _, _, _, _, _, _, _, _, _, _, z⟩ := x
  exact z.elim
/-- the readings at a fuel -/
structure OkN (S : Sta) (Cfs : Nat → Cf) (P : Program) (w : World) (base : Heap) (T : Txt) (n : Nat) : Prop where
  e : ∀ {k : Nat} {r : Option (Addr × Addr × Nat × List V)} {X : Cx} {N : List Str} {ln : Option Nat} {lb : Bool} {sc : Scope} {lam : Nat → List W → List W → M W} {e : Expr} {ex : Ex} {Wx : WX}, (∀ j, j ≤ k → Facts S Cfs P w base T j) → FitX S P w base k X N sc → FitL (S.with r) k X ln lb lam → L2N.Takes X Wx →
    sE T n N ln lb sc e = some ex → PE X e (tE (S.with r) Wx (ev ((Cfs k).withLam lam) ex)) ∧ PT X e (tT (S.with r) Wx (fun ρ => M.toB (ev ((Cfs k).withLam lam) ex ρ))) ∧ ∀ op es p, e = .BoolOp op es p → PW X e (tT (S.with r) Wx (fun ρ => M.toB (ev ((Cfs k).withLam lam) ex ρ)))
  lc : ∀ {k : Nat} {r : Option (Addr × Addr × Nat × List V)} {X : Cx} {N : List Str} {ln : Option Nat} {lb : Bool} {sc : Scope} {lam : Nat → List W → List W → M W} {elt : Expr} {gs : List Comprehension} {scope : Scope} {pos : Pos} {ex : Ex} {Wx : WX}, (∀ j, j ≤ k → Facts S Cfs P w base T j) → FitX S P w base k X N sc → FitL (S.with r) k X ln lb lam → L2N.Takes X Wx →
    sLC T n N ln lb sc elt gs scope = some ex → PE X (.ListComp elt gs scope pos) (tL (S.with r) Wx (evC ((Cfs k).withLam lam) ex)) ∧ ∀ ρ, ev ((Cfs k).withLam lam) ex ρ = (evC ((Cfs k).withLam lam) ex ρ >>= fun ws => pure (.lst ws))
  c : ∀ {k : Nat} {r : Option (Addr × Addr × Nat × List V)} {X : Cx} {N : List Str} {ln : Option Nat} {lb : Bool} {sc : Scope} {lam : Nat → List W → List W → M W} {f : Expr} {es : List Expr} {kws : List Keyword} {pos : Pos} {ex : Ex} {Wx : WX}, (∀ j, j ≤ k → Facts S Cfs P w base T j) → FitX S P w base k X N sc → FitL (S.with r) k X ln lb lam → L2N.Takes X Wx →
    sC T n N ln lb sc f es kws = some ex → PE X (.Call f es kws pos) (tE (S.with r) Wx (ev ((Cfs k).withLam lam) ex))
  h : ∀ {k : Nat} {r : Option (Addr × Addr × Nat × List V)} {X : Cx} {N : List Str} {ln : Option Nat} {lb : Bool} {sc : Scope} {lam : Nat → List W → List W → M W} {x : Str} {es : List Expr} {p pos : Pos} {ex : Ex} {Wx : WX}, (∀ j, j ≤ k → Facts S Cfs P w base T j) → FitX S P w base k X N sc → FitL (S.with r) k X ln lb lam → L2N.Takes X Wx →
    gloB sc x = true → notDbg x = true → es.all noStar = true → x ∈ T.hof → sH T n N ln lb sc x es = some ex → PE X (.Call (.Name x p) es [] pos) (tE (S.with r) Wx (ev ((Cfs k).withLam lam) ex))
  a : ∀ {k : Nat} {r : Option (Addr × Addr × Nat × List V)} {X : Cx} {N : List Str} {ln : Option Nat} {lb : Bool} {sc : Scope} {lam : Nat → List W → List W → M W} {es : List Expr} {as : As} {Wx : WX}, (∀ j, j ≤ k → Facts S Cfs P w base T j) → FitX S P w base k X N sc → FitL (S.with r) k X ln lb lam → L2N.Takes X Wx →
    sA T n N ln lb sc es = some as → PA X es (tA (S.with r) Wx (evs ((Cfs k).withLam lam) as)) ∧ (es = [] → evs ((Cfs k).withLam lam) as = fun _ => pure []) ∧ (es.all noStar = true → Args (S.with r) X Wx es (evs ((Cfs k).withLam lam) as))
  i : ∀ {k : Nat} {r : Option (Addr × Addr × Nat × List V)} {X : Cx} {N : List Str} {ln : Option Nat} {lb : Bool} {sc : Scope} {lam : Nat → List W → List W → M W} {tg e : Expr} {ex : Ex} {Wx : WX}, (∀ j, j ≤ k → Facts S Cfs P w base T j) → FitX S P w base k X N sc → FitL (S.with r) k X ln lb lam → L2N.Takes X Wx →
    sI T n N ln lb sc tg e = some ex → PI X tg e (tI (S.with r) Wx (evI ((Cfs k).withLam lam) ex)) ∧ ∀ env x, foldedSetIterable e env x = pure x
  t : ∀ {k : Nat} {r : Option (Addr × Addr × Nat × List V)} {X : Cx} {N : List Str} {sc : Scope} {lam : Nat → List W → List W → M W} {es : List Expr} {as : As} {Wx : WX}, (∀ j, j ≤ k → Facts S Cfs P w base T j) → FitX S P w base k X N sc → L2N.Takes X Wx →
    sT T n N sc es = some as → PTs X es (tT (S.with r) Wx (evT ((Cfs k).withLam lam) as))
  g : ∀ {k : Nat} {r : Option (Addr × Addr × Nat × List V)} {X : Cx} {N : List Str} {sc : Scope} {lam : Nat → List W → List W → M W} {e : Expr} {t : Tg} {J : List Nat}, (∀ j, j ≤ k → Facts S Cfs P w base T j) → FitX S P w base k X N sc → (∀ i x, N[i]? = some x → i ∈ J → Loc X.env.scope x ∧ (X.fn x = true ∨ X.env.scope.names.lookup x = some .local)) →
    sG T n N sc e = some t → (∀ i ∈ t.is, i ∈ J) → PG X e (tG (S.with r) Wf t.is (asg ((Cfs k).withLam lam) t))
  gs : ∀ {k : Nat} {r : Option (Addr × Addr × Nat × List V)} {X : Cx} {N : List Str} {sc : Scope} {lam : Nat → List W → List W → M W} {es : List Expr} {t : Tgs} {J : List Nat}, (∀ j, j ≤ k → Facts S Cfs P w base T j) → FitX S P w base k X N sc → (∀ i x, N[i]? = some x → i ∈ J → Loc X.env.scope x ∧ (X.fn x = true ∨ X.env.scope.names.lookup x = some .local)) →
    sGs T n N sc es = some t → (∀ i ∈ t.is, i ∈ J) → es.all noStar = true → PGs X es (tGs (S.with r) t.is (asgs ((Cfs k).withLam lam) t)) ∧ es.length = t.len
theorem args_len {S : Sta} {X : Cx} {Wx : WX} {es : List Expr} {fs : Ρ → M (List W)} (h : Args S X Wx es fs) : ∀ {ρ : Ρ} {st st' : St} {ws : List W}, fs ρ st = .ok ws st' → ws.length = es.length := by
  induction h with
  | nil => intro ρ st st' ws h; cases h; rfl
  | cons h hs t ih =>
    intro ρ st st' ws e
    obtain ⟨w, st1, e1, e⟩ := bind_ok e
    obtain ⟨us, st2, e2, e⟩ := bind_ok e
    cases e
    rw [List.length_cons, List.length_cons, ih e2]
theorem pk_args {S : Sta} {X : Cx} {Wx : WX} : ∀ {kws : List Keyword} {fs : Ρ → M (List W)}, Args S X Wx (kws.map (·.value)) fs → PK X kws (tA S Wx fs)
  | [], fs, h => by
    cases h
    exact k_nil
  | ⟨nm, v, p⟩ :: kws, fs, h => by
    rw [List.map_cons] at h
    cases h with
    | cons h hs t => exact k_cons h (pk_args t)
theorem OkN.zero : OkN S Cfs P w base T 0 := by
  constructor
  · intros; rename_i h; simp [sE] at h
  · intros; rename_i h; simp [sLC] at h
  · intros; rename_i h; simp [sC] at h
  · intros; rename_i h; simp [sH] at h
  · intros; rename_i h; simp [sA] at h
  · intros; rename_i h; simp [sI] at h
  · intros; rename_i h; simp [sT] at h
  · intros; rename_i h _; simp [sG] at h
  · intros; rename_i h _ _; simp [sGs] at h
theorem sC_call {n : Nat} {N : List Str} {ln : Option Nat} {lb : Bool} {sc : Scope} {f : Expr} {es : List Expr} {kws : List Keyword} {ex : Ex} (h : sC T n N ln lb sc f es kws = some ex) : (∃ x p, f = .Name x p) ∧ es.all noStar = true := by
  cases n with
  | zero => simp [sC] at h
  | succ n =>
    cases f with
    | Name x p =>
      simp only [sC] at h
      split at h
      · rename_i hh; exact ⟨⟨x, p, rfl⟩, hh.2⟩
      · cases h
    | _ => simp [sC] at h
/-- an expression that has no test of its own -/
theorem plain_u {S : Sta} {X : Cx} {Wx : WX} {e : Expr} {f : Ρ → M W} (h : PE X e (tE S Wx f)) (he : ∀ env whole, isTrue e env whole = (do let v ← whole; standAt e.pos; holding [v] (truthy v))) (hn : ∀ op es p, e ≠ .BoolOp op es p) :
    PE X e (tE S Wx f) ∧ PT X e (tT S Wx (fun ρ => M.toB (f ρ))) ∧ ∀ op es p, e = .BoolOp op es p → PW X e (tT S Wx (fun ρ => M.toB (f ρ))) :=
  ⟨h, u_val h (he X.env), fun op es p z => absurd z (hn op es p)⟩
theorem u_ite {S : Sta} {X : Cx} {Wx : WX} {c a b : Expr} {fc fa fb : Ρ → M W} {pos : Pos} (hc : PT X c (tT S Wx (fun ρ => M.toB (fc ρ)))) (ha : PT X a (tT S Wx (fun ρ => M.toB (fa ρ)))) (hb : PT X b (tT S Wx (fun ρ => M.toB (fb ρ)))) :
    PT X (.IfExp c a b pos) (tT S Wx (fun ρ => M.toB (do let x ← M.toB (fc ρ); if x = true then fa ρ else fb ρ))) := by
  refine ⟨fun pins s σ H Q I h => ?_⟩
  obtain ⟨G, ρ, st, at_, f⟩ := h
  have e : M.toB (do let x ← M.toB (fc ρ); if x = true then fa ρ else fb ρ) = (M.toB (fc ρ) >>= fun x => if x = true then M.toB (fa ρ) else M.toB (fb ρ)) := by
    show ((M.toB (fc ρ) >>= fun x => if x = true then fa ρ else fb ρ) >>= fun w => M.lift (asBl w)) = _
    rw [M.bind_assoc]
    congr 1
    funext x
    cases x <;> rfl
  dsimp only at f
  rw [e] at f
  refine PyProof.Rows.isTrue_IfExp (thn (hc.run pins s σ H (fun x H1 => ∃ G1 st1, At S σ H1 G1 ρ st1 ∧ Fin S Wx σ G1 (fun b G' _ => Q b G'.H) ((if x = true then M.toB (fa ρ) else M.toB (fb ρ)) st1)) I (bindT at_ f fun x H1 G1 st1 a1 g1 f1 => ⟨G1, st1, a1, f1⟩)) fun x s1 ⟨H1, I1, G1, st1, a1, f1⟩ => ?_)
  cases x with
  | true => simp only [if_true] at f1 ⊢; exact ha.run pins s1 σ H1 Q I1 ⟨G1, ρ, st1, a1, f1⟩
  | false => simp only [Bool.false_eq_true, if_false] at f1 ⊢; exact hb.run pins s1 σ H1 Q I1 ⟨G1, ρ, st1, a1, f1⟩
theorem okE {n : Nat} (ih : OkN S Cfs P w base T n) {k : Nat} {r : Option (Addr × Addr × Nat × List V)} {X : Cx} {N : List Str} {ln : Option Nat} {lb : Bool} {sc : Scope} {lam : Nat → List W → List W → M W} {e : Expr} {ex : Ex} {Wx : WX} (F : ∀ j, j ≤ k → Facts S Cfs P w base T j) (f : FitX S P w base k X N sc) (fl : FitL (S.with r) k X ln lb lam) (tk : L2N.Takes X Wx)
    (h : sE T (n + 1) N ln lb sc e = some ex) : PE X e (tE (S.with r) Wx (ev ((Cfs k).withLam lam) ex)) ∧ PT X e (tT (S.with r) Wx (fun ρ => M.toB (ev ((Cfs k).withLam lam) ex ρ))) ∧ ∀ op es p, e = .BoolOp op es p → PW X e (tT (S.with r) Wx (fun ρ => M.toB (ev ((Cfs k).withLam lam) ex ρ))) := by
  have hK : X.K = (S.with r).K := f.hK
  cases e with
  | Name x p =>
    refine plain_u ?_ (fun _ _ => rfl) (fun _ _ _ z => nomatch z)
    simp only [sE, sName] at h
    split at h
    · rename_i hd
      obtain ⟨d1, d2, d3⟩ := dbg_of hd
      split at h
      · rename_i hv
        simp only [Option.map_eq_some_iff] at h
        obtain ⟨i, h1, rfl⟩ := h
        exact s_var (by rw [f.hN]; exact ixOf_get h1) (by rw [f.hs]; exact vis_of hv) d1 d2
      · split at h
        · rename_i hg
          cases h
          obtain ⟨u, v, h1, h2, h3⟩ := (F k (Nat.le_refl _)).cst x hg.2
          exact s_gv (pe_glob (f.gl hg.1) (by rw [f.hm]; exact h1) h2 d1) fun w hw G => h3 w hw r G
        · cases h
    · cases h
  | Constant c k' p =>
    refine plain_u ?_ (fun _ _ => rfl) (fun _ _ _ z => nomatch z)
    simp only [sE] at h
    cases c <;> simp only [sConst, Option.some.injEq] at h <;> first | (subst h; first | exact s_int | exact s_bl | exact s_non | exact s_str) | cases h
  | Tuple es k' p =>
    refine plain_u ?_ (fun _ _ => rfl) (fun _ _ _ z => nomatch z)
    simp only [sE, Option.map_eq_some_iff] at h
    obtain ⟨as, h1, rfl⟩ := h
    exact s_tup (ih.a F f fl tk h1).1
  | List es p =>
    refine plain_u ?_ (fun _ _ => rfl) (fun _ _ _ z => nomatch z)
    simp only [sE, Option.map_eq_some_iff] at h
    obtain ⟨as, h1, rfl⟩ := h
    exact s_lst (ih.a F f fl tk h1).1
  | BinOp a op b p =>
    refine plain_u ?_ (fun _ _ => rfl) (fun _ _ _ z => nomatch z)
    simp only [sE, Option.bind_eq_some_iff, Option.map_eq_some_iff] at h
    obtain ⟨x, h1, y, h2, rfl⟩ := h
    exact s_bin hK op (ih.e F f fl tk h1).1 (ih.e F f fl tk h2).1
  | UnaryOp op a p =>
    simp only [sE] at h
    cases op with
    | USub =>
      refine plain_u ?_ (fun _ _ => rfl) (fun _ _ _ z => nomatch z)
      simp only [Option.map_eq_some_iff] at h
      obtain ⟨x, h1, rfl⟩ := h
      exact s_neg (ih.e F f fl tk h1).1
    | Not =>
      simp only [Option.map_eq_some_iff] at h
      obtain ⟨x, h1, rfl⟩ := h
      obtain ⟨k1, k2, _⟩ := ih.e F f fl tk h1
      exact ⟨s_not k1, u_not k2, fun _ _ _ z => nomatch z⟩
    | _ => cases h
  | BoolOp op es p =>
    simp only [sE] at h
    match es, h with
    | [], h => cases h
    | [a], h =>
      obtain ⟨k1, k2, _⟩ := ih.e F f fl tk h
      cases op with
      | And => exact ⟨s_one k1, (u_one1 k2).pt, fun _ _ _ _ => u_one1 k2⟩
      | Or => exact ⟨s_one k1, (u_one2 k2).pt, fun _ _ _ _ => u_one2 k2⟩
    | a :: b :: r', h =>
      simp only [Option.bind_eq_some_iff, Option.map_eq_some_iff] at h
      obtain ⟨x, h1, y, h2, h3⟩ := h
      obtain ⟨k1, k2, _⟩ := ih.e F f fl tk h1
      obtain ⟨q1, q2, q3⟩ := ih.e F f fl tk h2
      have q3 := q3 _ _ _ rfl
      cases op with
      | And => subst h3; exact ⟨s_and k1 q1, (u_and k2 q3).pt, fun _ _ _ _ => u_and k2 q3⟩
      | Or => subst h3; exact ⟨s_or k1 q1, (u_or k2 q3).pt, fun _ _ _ _ => u_or k2 q3⟩
  | IfExp c a b p =>
    simp only [sE, Option.bind_eq_some_iff, Option.map_eq_some_iff] at h
    obtain ⟨x, h1, y, h2, z, h3, rfl⟩ := h
    have k1 := ih.e F f fl tk h1
    have k2 := ih.e F f fl tk h2
    have k3 := ih.e F f fl tk h3
    exact ⟨s_ite k1.2.1 k2.1 k3.1, u_ite k1.2.1 k2.2.1 k3.2.1, fun _ _ _ z => nomatch z⟩
  | Compare a ops bs p =>
    simp only [sE] at h
    split at h
    · simp only [Option.bind_eq_some_iff] at h
      obtain ⟨o, h1, b, h2, h⟩ := h
      split at h
      · rename_i hm
        simp only [Option.bind_eq_some_iff, Option.map_eq_some_iff] at h
        obtain ⟨x, h3, y, h4, rfl⟩ := h
        rw [one_eq h1, one_eq h2]
        exact ⟨s_cmp hK f.hu o (ih.e F f fl tk h3).1 (ih.e F f fl tk h4).1 hm, u_cmp hK f.hu o (ih.e F f fl tk h3).1 (ih.e F f fl tk h4).1 hm, fun _ _ _ z => nomatch z⟩
      · cases h
    · simp only [Option.bind_eq_some_iff] at h
      obtain ⟨o, h1, b, h2, h⟩ := h
      split at h
      · rename_i hm
        simp only [Option.bind_eq_some_iff, Option.map_eq_some_iff] at h
        obtain ⟨x, h3, y, h4, z, h5, rfl⟩ := h
        rw [two_eq h1, two_eq h2]
        exact ⟨s_cmp2 hK f.hu o.1 o.2 (ih.e F f fl tk h3).1 (ih.e F f fl tk h4).1 (ih.e F f fl tk h5).1 hm, u_cmp2 hK f.hu o.1 o.2 (ih.e F f fl tk h3).1 (ih.e F f fl tk h4).1 (ih.e F f fl tk h5).1 hm, fun _ _ _ z => nomatch z⟩
      · cases h
  | Attribute o a p =>
    refine plain_u ?_ (fun _ _ => rfl) (fun _ _ _ z => nomatch z)
    simp only [sE] at h
    split at h
    · rename_i ha
      simp only [Option.map_eq_some_iff] at h
      obtain ⟨x, h1, rfl⟩ := h
      exact s_attr (C := (Cfs k).withLam lam) hK ((F k (Nat.le_refl _)).tabs r |> fun t => ⟨t.att, t.isi⟩) (ih.e F f fl tk h1).1 (attr_ok ha)
    · cases h
  | Subscript a b p =>
    refine plain_u ?_ (fun _ _ => rfl) (fun _ _ _ z => nomatch z)
    cases b with
    | Slice lo hi st p2 =>
      simp only [sE] at h
      cases st with
      | some _ => cases h
      | none =>
        cases lo with
        | some l =>
          cases hi with
          | some u =>
            simp only [Option.bind_eq_some_iff, Option.map_eq_some_iff] at h
            obtain ⟨x, h1, y, h2, z, h3, rfl⟩ := h
            exact s_sl hK (ih.e F f fl tk h1).1 (ih.e F f fl tk h2).1 (ih.e F f fl tk h3).1
          | none =>
            simp only [Option.bind_eq_some_iff, Option.map_eq_some_iff] at h
            obtain ⟨x, h1, y, h2, rfl⟩ := h
            exact s_slL hK (ih.e F f fl tk h1).1 (ih.e F f fl tk h2).1
        | none =>
          cases hi with
          | some u =>
            simp only [Option.bind_eq_some_iff, Option.map_eq_some_iff] at h
            obtain ⟨x, h1, y, h2, rfl⟩ := h
            exact s_slH hK (ih.e F f fl tk h1).1 (ih.e F f fl tk h2).1
          | none =>
            simp only [Option.map_eq_some_iff] at h
            obtain ⟨x, h1, rfl⟩ := h
            exact s_slN hK (ih.e F f fl tk h1).1
    | _ =>
      simp only [sE] at h
      split at h
      · rename_i hx
        simp only [Option.bind_eq_some_iff, Option.map_eq_some_iff] at h
        obtain ⟨x, h1, y, h2, rfl⟩ := h
        exact s_ix hK (ih.e F f fl tk h1).1 (ih.e F f fl tk h2).1 (ix_ok hx)
      · cases h
  | ListComp elt gs scope p =>
    refine plain_u ?_ (fun _ _ => rfl) (fun _ _ _ z => nomatch z)
    simp only [sE] at h
    obtain ⟨k1, k2⟩ := ih.lc (pos := p) F f fl tk h
    have e : ev ((Cfs k).withLam lam) ex = fun ρ => (do let ws ← evC ((Cfs k).withLam lam) ex ρ; pure (W.lst ws)) := funext k2
    rw [e]
    exact s_frzL k1
  | Call fn es kws p =>
    refine plain_u ?_ (fun _ _ => rfl) (fun _ _ _ z => nomatch z)
    simp only [sE] at h
    exact ih.c F f fl tk h
  | _ => simp [sE] at h

theorem relS_local {scope sc : Scope} {x : Str} (h : scope.names.lookup x = some .local) : (relS scope sc).names.lookup x = some .local := by
  unfold relS
  dsimp only
  generalize scope.names = l at h
  induction l with
  | nil => cases h
  | cons y l ih =>
    obtain ⟨n, kd⟩ := y
    rw [List.lookup_cons] at h
    rw [List.map_cons]
    cases hb : x == n with
    | true =>
      rw [hb] at h
      have h : some kd = some NameKind.local := h
      cases h
      rw [show (if (NameKind.local == NameKind.free && sc.kind == .function && sc.names.lookup n == some .cell) = true then (n, NameKind.cell) else (n, NameKind.local)) = (n, NameKind.local) from rfl, List.lookup_cons, hb]
    | false =>
      rw [hb] at h
      by_cases hc : (kd == NameKind.free && sc.kind == .function && sc.names.lookup n == some .cell) = true
      · rw [if_pos hc, List.lookup_cons, hb]; exact ih h
      · rw [if_neg hc, List.lookup_cons, hb]; exact ih h
theorem relS_cell {scope sc : Scope} {x : Str} (h : scope.names.lookup x = some .cell) : (relS scope sc).names.lookup x = some .cell := by
  unfold relS
  dsimp only
  generalize scope.names = l at h
  induction l with
  | nil => cases h
  | cons y l ih =>
    obtain ⟨n, kd⟩ := y
    rw [List.lookup_cons] at h
    rw [List.map_cons]
    cases hb : x == n with
    | true =>
      rw [hb] at h
      have h : some kd = some NameKind.cell := h
      cases h
      rw [show (if (NameKind.cell == NameKind.free && sc.kind == .function && sc.names.lookup n == some .cell) = true then (n, NameKind.cell) else (n, NameKind.cell)) = (n, NameKind.cell) from by split <;> rfl, List.lookup_cons, hb]
    | false =>
      rw [hb] at h
      by_cases hc : (kd == NameKind.free && sc.kind == .function && sc.names.lookup n == some .cell) = true
      · rw [if_pos hc, List.lookup_cons, hb]; exact ih h
      · rw [if_neg hc, List.lookup_cons, hb]; exact ih h
theorem own_mem {N : List Str} {scope : Scope} {p : Str × Nat} (h : p ∈ ownOf N scope) : ixOf N p.1 = some p.2 ∧ ∃ kd, (p.1, kd) ∈ scope.names ∧ (kd = .local ∨ kd = .cell) := by
  unfold ownOf at h
  obtain ⟨⟨x, kd⟩, h1, h2⟩ := List.mem_filterMap.mp h
  cases kd with
  | «local» =>
    simp only [Option.map_eq_some_iff] at h2
    obtain ⟨i, h3, rfl⟩ := h2
    exact ⟨h3, _, h1, .inl rfl⟩
  | cell =>
    simp only [Option.map_eq_some_iff] at h2
    obtain ⟨i, h3, rfl⟩ := h2
    exact ⟨h3, _, h1, .inr rfl⟩
  | free => cases h2
  | globalExplicit => cases h2
  | globalImplicit => cases h2
theorem okT {n : Nat} (ih : OkN S Cfs P w base T n) {k : Nat} {r : Option (Addr × Addr × Nat × List V)} {X : Cx} {N : List Str} {sc : Scope} {lam : Nat → List W → List W → M W} {es : List Expr} {as : As} {Wx : WX} (F : ∀ j, j ≤ k → Facts S Cfs P w base T j) (f : FitX S P w base k X N sc) (tk : L2N.Takes X Wx)
    (h : sT T (n + 1) N sc es = some as) : PTs X es (tT (S.with r) Wx (evT ((Cfs k).withLam lam) as)) := by
  match es, h with
  | [], h =>
    simp only [sT, Option.some.injEq] at h
    subst h
    exact t_nil
  | [e], h =>
    simp only [sT, Option.map_eq_some_iff] at h
    obtain ⟨x, h1, rfl⟩ := h
    exact t_one (ih.e F f FitL.none tk h1).2.1
  | _ :: _ :: _, h => simp [sT] at h
theorem okA {n : Nat} (ih : OkN S Cfs P w base T n) {k : Nat} {r : Option (Addr × Addr × Nat × List V)} {X : Cx} {N : List Str} {ln : Option Nat} {lb : Bool} {sc : Scope} {lam : Nat → List W → List W → M W} {es : List Expr} {as : As} {Wx : WX} (F : ∀ j, j ≤ k → Facts S Cfs P w base T j) (f : FitX S P w base k X N sc) (fl : FitL (S.with r) k X ln lb lam) (tk : L2N.Takes X Wx)
    (h : sA T (n + 1) N ln lb sc es = some as) : PA X es (tA (S.with r) Wx (evs ((Cfs k).withLam lam) as)) ∧ (es = [] → evs ((Cfs k).withLam lam) as = fun _ => pure []) ∧ (es.all noStar = true → Args (S.with r) X Wx es (evs ((Cfs k).withLam lam) as)) := by
  have hK : X.K = (S.with r).K := f.hK
  match es, h with
  | [], h =>
    simp only [sA, Option.some.injEq] at h
    subst h
    exact ⟨s_nil, fun _ => rfl, fun _ => .nil⟩
  | e :: r', h =>
    by_cases hs : noStar e = true
    · have h : ((sE T n N ln lb sc e).bind fun x => (sA T n N ln lb sc r').map fun y => .cons x y) = some as := by
        cases e <;> first | exact h | cases hs
      simp only [Option.bind_eq_some_iff, Option.map_eq_some_iff] at h
      obtain ⟨x, h1, y, h2, rfl⟩ := h
      have k1 := ih.e F f fl tk h1
      have k2 := ih.a F f fl tk h2
      refine ⟨s_cons k1.1 k2.1 (starEach_cons hs), (fun z => by cases z), fun z => ?_⟩
      simp only [List.all_cons, Bool.and_eq_true] at z
      exact .cons k1.1 (fun _ => starEach_cons hs) (k2.2.2 z.2)
    · cases e with
      | Starred a p =>
        simp only [sA, Option.bind_eq_some_iff, Option.map_eq_some_iff] at h
        obtain ⟨x, h1, y, h2, rfl⟩ := h
        refine ⟨s_star hK (ih.e F f fl tk h1).1 (ih.a F f fl tk h2).1, (fun z => by cases z), fun z => ?_⟩
        simp [noStar] at z
      | _ => exact absurd rfl hs
theorem okGs {n : Nat} (ih : OkN S Cfs P w base T n) {k : Nat} {r : Option (Addr × Addr × Nat × List V)} {X : Cx} {N : List Str} {sc : Scope} {lam : Nat → List W → List W → M W} {es : List Expr} {t : Tgs} {J : List Nat} (F : ∀ j, j ≤ k → Facts S Cfs P w base T j) (f : FitX S P w base k X N sc) (hf : ∀ i x, N[i]? = some x → i ∈ J → Loc X.env.scope x ∧ (X.fn x = true ∨ X.env.scope.names.lookup x = some .local))
    (h : sGs T (n + 1) N sc es = some t) (hJ : ∀ i ∈ t.is, i ∈ J) (hs : es.all noStar = true) : PGs X es (tGs (S.with r) t.is (asgs ((Cfs k).withLam lam) t)) ∧ es.length = t.len := by
  match es, h with
  | [], h =>
    simp only [sGs, Option.some.injEq] at h
    subst h
    have e : asgs ((Cfs k).withLam lam) .nil = (fun ws ρ => match ws with | [] => pure ρ | _ :: _ => M.stuck) := by
      funext ws ρ
      cases ws <;> rfl
    rw [e]
    exact ⟨g_nil, rfl⟩
  | e :: r', h =>
    simp only [List.all_cons, Bool.and_eq_true] at hs
    simp only [sGs, Option.bind_eq_some_iff, Option.map_eq_some_iff] at h
    obtain ⟨x, h1, y, h2, rfl⟩ := h
    obtain ⟨k2, k3⟩ := ih.gs (lam := lam) (r := r) F f hf h2 (fun i hi => hJ i (List.mem_append_right _ hi)) hs.2
    have he : asgs ((Cfs k).withLam lam) (.cons x y) = (fun ws ρ => match ws with | [] => M.stuck | w :: ws => (do let ρ2 ← asg ((Cfs k).withLam lam) x w ρ; asgs ((Cfs k).withLam lam) y ws ρ2)) := by
      funext ws ρ
      cases ws <;> rfl
    rw [he]
    refine ⟨g_cons (ih.g F f hf h1 fun i hi => hJ i (List.mem_append_left _ hi)) k2 ?_, by rw [List.length_cons, k3]; rfl⟩
    cases e' : e <;> first | rfl | (rw [e'] at hs; simp [noStar] at hs)
theorem okG {n : Nat} (ih : OkN S Cfs P w base T n) {k : Nat} {r : Option (Addr × Addr × Nat × List V)} {X : Cx} {N : List Str} {sc : Scope} {lam : Nat → List W → List W → M W} {e : Expr} {t : Tg} {J : List Nat} (F : ∀ j, j ≤ k → Facts S Cfs P w base T j) (f : FitX S P w base k X N sc) (hf : ∀ i x, N[i]? = some x → i ∈ J → Loc X.env.scope x ∧ (X.fn x = true ∨ X.env.scope.names.lookup x = some .local))
    (h : sG T (n + 1) N sc e = some t) (hJ : ∀ i ∈ t.is, i ∈ J) : PG X e (tG (S.with r) Wf t.is (asg ((Cfs k).withLam lam) t)) := by
  have hK : X.K = (S.with r).K := f.hK
  cases e with
  | Name x p =>
    simp only [sG, Option.map_eq_some_iff] at h
    obtain ⟨i, h1, rfl⟩ := h
    obtain ⟨l1, l2⟩ := hf i x (ixOf_get h1) (hJ i (by simp [Tg.is]))
    exact g_name (by rw [f.hN]; exact f.nd) (by rw [f.hN]; exact ixOf_get h1) l1 l2
  | Tuple es k' p =>
    simp only [sG] at h
    split at h
    · rename_i hs
      simp only [Option.map_eq_some_iff] at h
      obtain ⟨ts, h1, rfl⟩ := h
      obtain ⟨k1, k2⟩ := ih.gs (lam := lam) (r := r) F f hf h1 (fun i hi => hJ i (by simpa [Tg.is] using hi)) hs
      have plain : ∀ {es : List Expr}, es.all noStar = true → (assignEach es X.env).length = es.length ∧ (assignEach es X.env).findIdx? (·.1) = none := fun {es} => by
        induction es with
        | nil => exact fun _ => ⟨rfl, rfl⟩
        | cons a as iha =>
          intro hs
          simp only [List.all_cons, Bool.and_eq_true] at hs
          obtain ⟨z1, z2⟩ := iha hs.2
          have e : assignEach (a :: as) X.env = (false, assign a X.env) :: assignEach as X.env := by
            cases e' : a <;> first | rfl | (rw [e'] at hs; simp [noStar] at hs)
          rw [e]
          refine ⟨by rw [List.length_cons, List.length_cons, z1], ?_⟩
          rw [List.findIdx?_cons, z2]
          rfl
      obtain ⟨z1, z2⟩ := plain hs
      exact g_tup hK f.calm k1 k2 z1 z2
    · cases h
  | Attribute o a p =>
    simp only [sG, Option.map_eq_some_iff] at h
    obtain ⟨x, h1, rfl⟩ := h
    exact g_attr (C := (Cfs k).withLam lam) hK ((F k (Nat.le_refl _)).tabs r |> fun t => ⟨t.att, t.isi⟩) (ih.e F f FitL.none takes0 h1).1
  | Subscript o i p =>
    simp only [sG] at h
    split at h
    · rename_i hx
      simp only [Option.bind_eq_some_iff, Option.map_eq_some_iff] at h
      obtain ⟨x, h1, y, h2, rfl⟩ := h
      refine g_ix (ih.e F f FitL.none takes0 h1).1 (ih.e F f FitL.none takes0 h2).1 ?_
      cases e' : i <;> first | (intro _; rfl) | (rw [e'] at hx; cases hx)
    · cases h
  | _ => simp [sG] at h
theorem sI_fold {n : Nat} {N : List Str} {ln : Option Nat} {lb : Bool} {sc : Scope} {tg e : Expr} {ex : Ex} (h : sI T n N ln lb sc tg e = some ex) : ∀ env x, foldedSetIterable e env x = pure x := by
  intro env x
  by_cases hset : (∃ a b c, e = .Set a b c)
  · obtain ⟨a, b, c, rfl⟩ := hset
    cases n <;> simp [sI] at h
  · cases e <;> first | rfl | exact absurd ⟨_, _, _, rfl⟩ hset
theorem okLC {n : Nat} (ih : OkN S Cfs P w base T n) {k : Nat} {r : Option (Addr × Addr × Nat × List V)} {X : Cx} {N : List Str} {ln : Option Nat} {lb : Bool} {sc : Scope} {lam : Nat → List W → List W → M W} {elt : Expr} {gs : List Comprehension} {scope : Scope} {pos : Pos} {ex : Ex} {Wx : WX} (F : ∀ j, j ≤ k → Facts S Cfs P w base T j) (f : FitX S P w base k X N sc) (fl : FitL (S.with r) k X ln lb lam) (tk : L2N.Takes X Wx)
    (h : sLC T (n + 1) N ln lb sc elt gs scope = some ex) : PE X (.ListComp elt gs scope pos) (tL (S.with r) Wx (evC ((Cfs k).withLam lam) ex)) ∧ ∀ ρ, ev ((Cfs k).withLam lam) ex ρ = (evC ((Cfs k).withLam lam) ex ρ >>= fun ws => pure (.lst ws)) := by
  simp only [sLC] at h
  split at h
  · rename_i tg it ifs
    split at h
    · rename_i hb
      simp only [Option.bind_eq_some_iff] at h
      obtain ⟨i, h1, t, h2, c, h3, x, h4, h⟩ := h
      split at h
      · rename_i hj
        cases h
        have hj' : ∀ j ∈ t.is, j ∈ (ownOf N scope).map (·.2) := fun j hm => by
          have := List.all_eq_true.mp hj j hm
          simpa using this
        have ok : BlkOk X.N X.env.scope scope (ownOf N scope) := by
          rw [f.hN, f.hs]; exact blkOk_by hb
        have hf : ∀ (s : Shared) (H : Hp) (C : Addr) (cl : List (Str × Addr)) (fp : List Addr) (i : Nat) (x : Str), N[i]? = some x → i ∈ (ownOf N scope).map (·.2) → Loc (X.blk s H scope (compEnvC scope cl C X.env) fp).env.scope x ∧ ((X.blk s H scope (compEnvC scope cl C X.env) fp).fn x = true ∨ (X.blk s H scope (compEnvC scope cl C X.env) fp).env.scope.names.lookup x = some .local) := by
          intro s H C cl fp i x hx hi
          obtain ⟨p, hp, rfl⟩ := List.mem_map.mp hi
          obtain ⟨k1, kd, k2, k3⟩ := own_mem hp
          have e : x = p.1 := by
            have := ixOf_get k1
            rw [hx] at this
            exact Option.some.inj this
          subst e
          have lk : scope.names.lookup p.1 = some kd := ok.uniq (p.1, kd) k2
          show Loc (relS scope X.env.scope) p.1 ∧ ((scope.names.lookup p.1 == some .cell) = true ∨ (relS scope X.env.scope).names.lookup p.1 = some .local)
          rcases k3 with k3 | k3
          · subst k3
            exact ⟨.inl (relS_local lk), .inr (relS_local lk)⟩
          · subst k3
            exact ⟨.inr (relS_cell lk), .inl (by rw [lk]; rfl)⟩
        have kI := ih.i (lam := lam) F f fl tk h1
        refine ⟨l_comp f.calm (by rw [f.hN]; exact f.nd) kI.1 ok hj' (fun s H C cl fp => ih.g F (f.blk s H scope cl C fp) (hf s H C cl fp) h2 hj') (fun s H C cl fp => ih.t F (f.blk s H scope cl C fp) takes0 h3) (fun s H C cl fp => (ih.e F (f.blk s H scope cl C fp) FitL.none takes0 h4).1) (kI.2 X.env), fun ρ => ?_⟩
        have z : evC ((Cfs k).withLam lam) (.comp x t i c ((ownOf N scope).map (·.2))) ρ = (evI ((Cfs k).withLam lam) i ρ >>= fun xs => sz xs.1.length >>= fun _ => compL xs.2 (turnL (asg ((Cfs k).withLam lam) t) (evT ((Cfs k).withLam lam) c) (ev ((Cfs k).withLam lam) x) (wipeW ρ ((ownOf N scope).map (·.2)))) xs.1) := rfl
        rw [z]
        simp only [M.bind_assoc]
        rfl
      · cases h
    · cases h
  · rename_i tg it ifs tg1 it1 ifs1
    split at h
    · rename_i hb
      simp only [Option.bind_eq_some_iff] at h
      obtain ⟨i, h1, t, h2, c, h3, i1, h5, t1, h6, c1, h7, x, h4, h⟩ := h
      split at h
      · rename_i hj
        obtain ⟨hj, hj1⟩ := hj
        cases h
        have hj' : ∀ j ∈ t.is, j ∈ (ownOf N scope).map (·.2) := fun j hm => by
          have := List.all_eq_true.mp hj j hm
          simpa using this
        have hj1' : ∀ j ∈ t1.is, j ∈ (ownOf N scope).map (·.2) := fun j hm => by
          have := List.all_eq_true.mp hj1 j hm
          simpa using this
        have ok : BlkOk X.N X.env.scope scope (ownOf N scope) := by
          rw [f.hN, f.hs]; exact blkOk_by hb
        have hf : ∀ (s : Shared) (H : Hp) (C : Addr) (cl : List (Str × Addr)) (fp : List Addr) (i : Nat) (x : Str), N[i]? = some x → i ∈ (ownOf N scope).map (·.2) → Loc (X.blk s H scope (compEnvC scope cl C X.env) fp).env.scope x ∧ ((X.blk s H scope (compEnvC scope cl C X.env) fp).fn x = true ∨ (X.blk s H scope (compEnvC scope cl C X.env) fp).env.scope.names.lookup x = some .local) := by
          intro s H C cl fp i x hx hi
          obtain ⟨p, hp, rfl⟩ := List.mem_map.mp hi
          obtain ⟨k1, kd, k2, k3⟩ := own_mem hp
          have e : x = p.1 := by
            have := ixOf_get k1
            rw [hx] at this
            exact Option.some.inj this
          subst e
          have lk : scope.names.lookup p.1 = some kd := ok.uniq (p.1, kd) k2
          show Loc (relS scope X.env.scope) p.1 ∧ ((scope.names.lookup p.1 == some .cell) = true ∨ (relS scope X.env.scope).names.lookup p.1 = some .local)
          rcases k3 with k3 | k3
          · subst k3
            exact ⟨.inl (relS_local lk), .inr (relS_local lk)⟩
          · subst k3
            exact ⟨.inr (relS_cell lk), .inl (by rw [lk]; rfl)⟩
        have kI := ih.i (lam := lam) F f fl tk h1
        refine ⟨l_comp2 f.calm (by rw [f.hN]; exact f.nd) kI.1 ok hj' (fun _ z => z) hj1' (fun s H C cl fp => ih.g F (f.blk s H scope cl C fp) (hf s H C cl fp) h2 hj') (fun s H C cl fp => ih.t F (f.blk s H scope cl C fp) takes0 h3) (fun s H C cl fp => (ih.i F (f.blk s H scope cl C fp) FitL.none takes0 h5).1) (fun s H C cl fp => ih.g F (f.blk s H scope cl C fp) (hf s H C cl fp) h6 hj1') (fun s H C cl fp => ih.t F (f.blk s H scope cl C fp) takes0 h7) (fun s H C cl fp => (ih.e F (f.blk s H scope cl C fp) FitL.none takes0 h4).1) (kI.2 X.env) (sI_fold h5), fun ρ => ?_⟩
        have z : evC ((Cfs k).withLam lam) (.comp2 x t i c t1 i1 c1 ((ownOf N scope).map (·.2)) t1.is) ρ = (evI ((Cfs k).withLam lam) i ρ >>= fun xs => M.chk (decide (xs.1.length ≤ 4096)) >>= fun _ => compL xs.2 (turn2 (asg ((Cfs k).withLam lam) t) (evT ((Cfs k).withLam lam) c) (evI ((Cfs k).withLam lam) i1) (asg ((Cfs k).withLam lam) t1) (evT ((Cfs k).withLam lam) c1) (ev ((Cfs k).withLam lam) x) t1.is (wipeW ρ ((ownOf N scope).map (·.2)))) xs.1) := rfl
        rw [z]
        simp only [M.bind_assoc]
        rfl
      · cases h
    · cases h
  · cases h
theorem okI {n : Nat} (ih : OkN S Cfs P w base T n) {k : Nat} {r : Option (Addr × Addr × Nat × List V)} {X : Cx} {N : List Str} {ln : Option Nat} {lb : Bool} {sc : Scope} {lam : Nat → List W → List W → M W} {tg e : Expr} {ex : Ex} {Wx : WX} (F : ∀ j, j ≤ k → Facts S Cfs P w base T j) (f : FitX S P w base k X N sc) (fl : FitL (S.with r) k X ln lb lam) (tk : L2N.Takes X Wx)
    (h : sI T (n + 1) N ln lb sc tg e = some ex) : PI X tg e (tI (S.with r) Wx (evI ((Cfs k).withLam lam) ex)) ∧ ∀ env x, foldedSetIterable e env x = pure x := by
  have hK : X.K = (S.with r).K := f.hK
  have it_ : ∀ {ex : Ex}, (sE T n N ln lb sc e).map Ex.it = some ex → PI X tg e (tI (S.with r) Wx (evI ((Cfs k).withLam lam) ex)) := fun {ex} h => by
    simp only [Option.map_eq_some_iff] at h
    obtain ⟨x, h1, rfl⟩ := h
    exact p_it hK (ih.e F f fl tk h1).1
  by_cases hset : (∃ a b c, e = .Set a b c)
  · obtain ⟨a, b, c, rfl⟩ := hset
    simp [sI] at h
  · refine ⟨?_, fun env x => ?_⟩
    · by_cases hcall : ∃ x p es kws pos, e = .Call (.Name x p) es kws pos
      · obtain ⟨x, p, es, kws, pos, rfl⟩ := hcall
        simp only [sI] at h
        split at h
        · rename_i hh
          obtain ⟨hg, hb, hk, hs⟩ := hh
          have hkw : kws = [] := List.isEmpty_iff.mp hk
          subst hkw
          have gl := f.gl hg
          have hm : X.mg x = none := by rw [f.hm]; exact (F k (Nat.le_refl _)).blt x hb
          split at h
          · rename_i hx
            subst hx
            split at h
            · simp only [Option.bind_eq_some_iff, Option.map_eq_some_iff] at h
              obtain ⟨a, h1, y, h2, rfl⟩ := h
              rw [one_eq h1] at hs ⊢
              simp only [List.all_cons, List.all_nil, Bool.and_true] at hs
              exact p_rng1 gl hm (ih.e F f fl tk h2).1 (by rw [starEach_cons hs]; rfl) (starEach_cons hs)
            · simp only [Option.bind_eq_some_iff, Option.map_eq_some_iff] at h
              obtain ⟨a, h1, y, h2, z, h3, rfl⟩ := h
              rw [two_eq h1] at hs ⊢
              simp only [List.all_cons, List.all_nil, Bool.and_true, Bool.and_eq_true] at hs
              exact p_rng2 gl hm (ih.e F f fl tk h2).1 (ih.e F f fl tk h3).1 (by rw [starEach_cons hs.1, starEach_cons hs.2]; rfl) (by rw [starEach_cons hs.2]; rfl) (starEach_cons hs.1) (starEach_cons hs.2)
          · split at h
            · rename_i hx
              subst hx
              split at h
              · rename_i ht
                cases tg with
                | Tuple elts kk tpos =>
                  simp only [Option.bind_eq_some_iff, Option.map_eq_some_iff] at h
                  obtain ⟨a, h1, y, h2, rfl⟩ := h
                  rw [one_eq h1] at hs ⊢
                  simp only [List.all_cons, List.all_nil, Bool.and_true] at hs
                  exact p_enm hK gl hm (ih.e F f fl tk h2).1 (by rw [starEach_cons hs]; rfl) (starEach_cons hs)
                | _ => cases ht
              · cases h
            · split at h
              · rename_i hx
                subst hx
                split at h
                · rename_i ht
                  cases tg with
                  | Tuple elts kk tpos =>
                    simp only [Option.bind_eq_some_iff, Option.map_eq_some_iff] at h
                    obtain ⟨a, h1, y, h2, z, h3, rfl⟩ := h
                    rw [two_eq h1] at hs ⊢
                    simp only [List.all_cons, List.all_nil, Bool.and_true, Bool.and_eq_true] at hs
                    exact p_zip hK gl hm (ih.e F f fl tk h2).1 (ih.e F f fl tk h3).1 (starEach_cons hs.1) (starEach_cons hs.2) (by rw [starEach_cons hs.2]; rfl)
                  | _ => cases ht
                · cases h
              · exact it_ h
        · exact it_ h
      · have h : (sE T n N ln lb sc e).map Ex.it = some ex := by
          cases e with
          | Call fn es kws pos => cases fn <;> first | exact h | exact absurd ⟨_, _, _, _, _, rfl⟩ hcall
          | Set a b c => exact absurd ⟨_, _, _, rfl⟩ hset
          | _ => exact h
        exact it_ h
    · cases e <;> first | rfl | exact absurd ⟨_, _, _, rfl⟩ hset
/-- the built-in's rule -/
def BiOk (S : Sta) (X : Cx) (x : Str) (b : Bi) : Prop := (∃ id, bootBuiltins x = some (.builtin id) ∧ CallR X (.builtin id) (rB S (biW b))) ∨ ∃ t, bootBuiltins x = some (.type t) ∧ CallR X (.type t) (rB S (biW b))
theorem bi1_ok {S : Sta} {X : Cx} (hK : X.K = S.K) (hc : X.calm = true) (hu : X.A.units + 65 < cLine) (hg : X.A.guards = some []) {x : Str} {b : Bi} (h : bi1 x = some b) : BiOk S X x b := by
  have all : ∀ p ∈ bis1, BiOk S X p.1 p.2 :=
    List.forall_mem_cons.2 ⟨.inl ⟨"len", by decide +kernel, b_len hK⟩,
    List.forall_mem_cons.2 ⟨.inl ⟨"all", by decide +kernel, b_all hK hc⟩,
    List.forall_mem_cons.2 ⟨.inl ⟨"any", by decide +kernel, b_any hK hc⟩,
    List.forall_mem_cons.2 ⟨.inl ⟨"sum", by decide +kernel, b_sum hK hc⟩,
    List.forall_mem_cons.2 ⟨.inl ⟨"min", by decide +kernel, b_min1 hK hc⟩,
    List.forall_mem_cons.2 ⟨.inl ⟨"max", by decide +kernel, b_max1 hK hc⟩,
    List.forall_mem_cons.2 ⟨.inr ⟨"tuple", by decide +kernel, b_tup hK⟩,
    List.forall_mem_cons.2 ⟨.inr ⟨"list", by decide +kernel, b_lst hK⟩,
    List.forall_mem_cons.2 ⟨.inl ⟨"sorted", by decide +kernel, b_srt hK hu⟩,
    List.forall_mem_cons.2 ⟨.inl ⟨"abs", by decide +kernel, b_abs⟩,
    List.forall_mem_cons.2 ⟨.inr ⟨"int", by decide +kernel, b_int⟩,
    List.forall_mem_cons.2 ⟨.inr ⟨"bool", by decide +kernel, b_bool⟩,
    List.forall_mem_cons.2 ⟨.inl ⟨"repr", by decide +kernel, b_repr hK hu hg⟩, fun _ z => nomatch z⟩⟩⟩⟩⟩⟩⟩⟩⟩⟩⟩⟩⟩
  exact all (x, b) (PySem.mem_of_lookup h)
theorem bi2_ok {S : Sta} {X : Cx} (hc : X.calm = true) {x : Str} {b : Bi} (h : bi2 x = some b) : BiOk S X x b := by
  have all : ∀ p ∈ bis2, BiOk S X p.1 p.2 :=
    List.forall_mem_cons.2 ⟨.inl ⟨"min", by decide +kernel, b_min2 hc⟩,
    List.forall_mem_cons.2 ⟨.inl ⟨"max", by decide +kernel, b_max2 hc⟩, fun _ z => nomatch z⟩⟩
  exact all (x, b) (PySem.mem_of_lookup h)
theorem bi_call {S : Sta} {X : Cx} {Wx : WX} {x : Str} {b : Bi} {e : Expr} {es : List Expr} {fs : Ρ → M (List W)} {p pos : Pos} (h : BiOk S X x b) (hg : Gl X x) (hm : X.mg x = none) (hd : notDbg x = true) (ha : PA X (e :: es) (tA S Wx fs)) (hs : (e :: es).all noStar = true) :
    PE X (.Call (.Name x p) (e :: es) [] pos) (tE S Wx (fun ρ => do let ws ← fs ρ; M.lift (biW b ws (← M.get)))) := by
  obtain ⟨d1, d2, d3⟩ := dbg_of hd
  simp only [List.all_cons, Bool.and_eq_true] at hs
  rcases h with ⟨id, h1, h2⟩ | ⟨t, h1, h2⟩
  · exact s_bi h2 hg hm h1 ha d3 d1 (starEach_cons hs.1) (starEach_plain hs.2)
  · exact s_bt h2 hg hm h1 ha d3 d1 (starEach_cons hs.1) (starEach_plain hs.2)
theorem tyNames_ok {x : Str} {n : String} (h : tyNames.lookup x = some n) : bootBuiltins x = some (.type n) := by
  have all : ∀ p ∈ tyNames, bootBuiltins p.1 = some (.type p.2) :=
    List.forall_mem_cons.2 ⟨by decide +kernel, List.forall_mem_cons.2 ⟨by decide +kernel, List.forall_mem_cons.2 ⟨by decide +kernel, List.forall_mem_cons.2 ⟨by decide +kernel, List.forall_mem_cons.2 ⟨by decide +kernel, List.forall_mem_cons.2 ⟨by decide +kernel, List.forall_mem_cons.2 ⟨by decide +kernel, fun _ z => nomatch z⟩⟩⟩⟩⟩⟩⟩
  exact all (x, n) (PySem.mem_of_lookup h)
theorem okC {n : Nat} (ih : OkN S Cfs P w base T n) {k : Nat} {r : Option (Addr × Addr × Nat × List V)} {X : Cx} {N : List Str} {ln : Option Nat} {lb : Bool} {sc : Scope} {lam : Nat → List W → List W → M W} {fn : Expr} {es : List Expr} {kws : List Keyword} {pos : Pos} {ex : Ex} {Wx : WX} (F : ∀ j, j ≤ k → Facts S Cfs P w base T j) (f : FitX S P w base k X N sc) (fl : FitL (S.with r) k X ln lb lam) (tk : L2N.Takes X Wx)
    (h : sC T (n + 1) N ln lb sc fn es kws = some ex) : PE X (.Call fn es kws pos) (tE (S.with r) Wx (ev ((Cfs k).withLam lam) ex)) := by
  have hK : X.K = (S.with r).K := f.hK
  obtain ⟨⟨x, p, rfl⟩, hs⟩ := sC_call h
  have Fk := F k (Nat.le_refl _)
  unfold sC at h
  dsimp only at h
  split at h
  · rename_i hh
    obtain ⟨hd, _⟩ := hh
    obtain ⟨d1, d2, d3⟩ := dbg_of hd
    split at h
    · rename_i hv
      split at h
      · rename_i hl
        obtain ⟨hlb, hkw, hes⟩ := hl
        have hkw := List.isEmpty_iff.mp hkw
        subst hkw
        simp only [Option.bind_eq_some_iff, Option.map_eq_some_iff] at h
        obtain ⟨i, h1, a, h2, rfl⟩ := h
        cases es with
        | nil => cases hes
        | cons e es =>
          simp only [List.all_cons, Bool.and_eq_true] at hs
          exact s_callV (C := (Cfs k).withLam lam) hK f.hm f.room f.grd tk (fl.reg hlb) (by rw [f.hN]; exact ixOf_get h1) (by rw [f.hs]; exact vis_of hv) d1 d2 (ih.a F f fl tk h2).1 (starEach_cons hs.1) (starEach_plain hs.2)
      · cases h
    · split at h
      · rename_i hg
        have gl := f.gl hg
        split at h
        · rename_i hf
          split at h
          · rename_i hks
            simp only [Option.bind_eq_some_iff, Option.map_eq_some_iff] at h
            obtain ⟨ks, h1, a, h2, b, h3, rfl⟩ := h
            obtain ⟨q1, q2, q3, q4⟩ := kw_facts (env := X.env) (pos := pos) h1
            obtain ⟨u, u1, u2, u3⟩ := Fk.fn x hf
            have ka := ih.a (lam := lam) F f fl tk h2
            have kb := ih.a (lam := lam) F f fl tk h3
            have hkA := kb.2.2 hks
            refine s_call (C := (Cfs k).withLam lam) gl d1 (by rw [f.hm]; exact u1) (by rw [f.hK]; exact u2) (fun n rn e => u3 n ks rn e r X Wx f.hK f.hm f.hP f.hw f.hb f.room f.grd tk) (fun ρ st zs st' e => ?_) ka.2.1 ka.1 (pk_args hkA) q1 q2 (fun e r' he => ?_) ?_
            · rw [args_len hkA e, List.length_map, q4]
            · subst he
              simp only [List.all_cons, Bool.and_eq_true] at hs
              exact starEach_cons hs.1
            · rw [starEach_plain hs, q3]; rfl
          · cases h
        · split at h
          · rename_i hh
            split at h
            · rename_i hkw
              have hkw := List.isEmpty_iff.mp hkw
              subst hkw
              exact ih.h F f fl tk hg hd hs hh h
            · cases h
          · split at h
            · rename_i hb
              have hm : X.mg x = none := by rw [f.hm]; exact Fk.blt x hb
              split at h
              · rename_i hkw
                have hkw := List.isEmpty_iff.mp hkw
                subst hkw
                split at h
                · simp only [Option.bind_eq_some_iff] at h
                  obtain ⟨a, h1, h⟩ := h
                  rw [one_eq h1] at hs ⊢
                  split at h
                  · rename_i b hb1
                    obtain ⟨⟨p1, q1, rfl⟩, g1, g2, g3⟩ := setArg_eq hb1
                    simp only [Option.bind_eq_some_iff, Option.map_eq_some_iff] at h
                    obtain ⟨q, h2, y, h3, rfl⟩ := h
                    have hm2 : X.mg "set" = none := by rw [f.hm]; exact Fk.blt "set" g2
                    have hq := PySem.mem_of_lookup h2
                    have za := s_cons (ih.e F f fl tk h3).1 s_nil (starEach_cons g3)
                    unfold bis3 at hq
                    rcases List.mem_cons.mp hq with e | hq
                    · cases e
                      exact s_sset hK f.calm f.hu gl hm (f.gl g1) hm2 za (starEach_cons g3)
                    · cases List.mem_singleton.mp hq
                      exact s_slen hK f.calm gl hm (f.gl g1) hm2 za (starEach_cons g3)
                  · simp only [Option.bind_eq_some_iff, Option.map_eq_some_iff] at h
                    obtain ⟨b, h2, y, h3, rfl⟩ := h
                    have hs1 := hs
                    simp only [List.all_cons, List.all_nil, Bool.and_true] at hs1
                    exact bi_call (bi1_ok hK f.calm f.hu f.grd h2) gl hm hd (s_cons (ih.e F f fl tk h3).1 s_nil (starEach_cons hs1)) hs
                · simp only [Option.bind_eq_some_iff] at h
                  obtain ⟨q, h1, h⟩ := h
                  rw [two_eq h1] at hs ⊢
                  have hs1 := hs
                  simp only [List.all_cons, List.all_nil, Bool.and_true, Bool.and_eq_true] at hs1
                  split at h
                  · rename_i hx
                    subst hx
                    simp only [Option.bind_eq_some_iff, Option.map_eq_some_iff] at h
                    obtain ⟨y, h2, t, h3, rfl⟩ := h
                    have hT : ∃ (c : V) (cu : Value), PE X q.2 (tC c) ∧ TyV (S.with r) t cu ∧ L2.RelV c cu := by
                      cases e : q.2 with
                      | Name z p3 =>
                        rw [e] at h3
                        simp only [sTy] at h3
                        split at h3
                        · rename_i hz
                          obtain ⟨z1, z2, z3⟩ := dbg_of hz.2
                          split at h3
                          · rename_i hc
                            cases h3
                            obtain ⟨a, ha⟩ := Fk.cls z hc
                            exact ⟨.ref a, .ref a, pe_glob (f.gl hz.1) (by rw [f.hm]; exact ha) rfl z1, ⟨ha, a, rfl⟩, rfl⟩
                          · split at h3
                            · rename_i hbz
                              simp only [Option.map_eq_some_iff] at h3
                              obtain ⟨m, h4, rfl⟩ := h3
                              exact ⟨.ty m, .type m, pe_bltn (f.gl hz.1) (by rw [f.hm]; exact Fk.blt z hbz) (tyNames_ok h4) rfl z3 z1, rfl, rfl⟩
                            · cases h3
                        · cases h3
                      | _ => rw [e] at h3; simp [sTy] at h3
                    obtain ⟨c, cu, k1, k2, k3⟩ := hT
                    exact s_isi (C := (Cfs k).withLam lam) hK (Fk.tabs r |> fun t => ⟨t.att, t.isi⟩) k1 k2 k3 gl hm (by decide +kernel) (ih.e F f fl tk h2).1 (starEach_cons hs1.1) (starEach_cons hs1.2) (by rw [starEach_cons hs1.2]; rfl)
                  · simp only [Option.bind_eq_some_iff, Option.map_eq_some_iff] at h
                    obtain ⟨b, h2, y, h3, z, h4, rfl⟩ := h
                    exact bi_call (bi2_ok f.calm h2) gl hm hd (s_cons (ih.e F f fl tk h3).1 (s_cons (ih.e F f fl tk h4).1 s_nil (starEach_cons hs1.2)) (starEach_cons hs1.1)) hs
              · cases h
            · cases h
      · cases h
  · cases h
theorem splitLast_eq : ∀ {es : List Expr} {p : List Expr × Expr}, splitLast es = some p → es = p.1 ++ [p.2]
  | [], p, h => by cases h
  | [e], p, h => by simp only [splitLast, Option.some.injEq] at h; subst h; rfl
  | e :: a :: r, p, h => by
    simp only [splitLast, Option.map_eq_some_iff] at h
    obtain ⟨q, h1, rfl⟩ := h
    have := splitLast_eq (es := a :: r) h1
    rw [this]; rfl
theorem paramNames_some {params : Arguments} {ps : List Str} (h : paramNames params = some ps) : ∃ as, params = ⟨[], as, none, [], [], none, []⟩ ∧ ps = as.map (·.arg) := by
  unfold paramNames at h
  split at h
  · cases h; exact ⟨_, rfl, rfl⟩
  · cases h
theorem allIx_get {N : List Str} : ∀ {xs : List Str} {js : List Nat}, allIx N xs = some js → js.map (fun j => N[j]?) = xs.map some
  | [], js, h => by simp only [allIx, Option.some.injEq] at h; subst h; rfl
  | x :: xs, js, h => by
    simp only [allIx, Option.bind_eq_some_iff, Option.map_eq_some_iff] at h
    obtain ⟨i, h1, is, h2, rfl⟩ := h
    rw [List.map_cons, List.map_cons, allIx_get h2, ixOf_get h1]
theorem sA_len {n : Nat} : ∀ {m : Nat} {N : List Str} {ln : Option Nat} {lb : Bool} {sc : Scope} {es : List Expr} {as : As}, sA T m N ln lb sc es = some as → as.len = es.length
  | 0, N, ln, lb, sc, es, as, h => by simp [sA] at h
  | m + 1, N, ln, lb, sc, [], as, h => by simp only [sA, Option.some.injEq] at h; subst h; rfl
  | m + 1, N, ln, lb, sc, e :: r, as, h => by
    simp only [sA] at h
    split at h
    · simp only [Option.bind_eq_some_iff, Option.map_eq_some_iff] at h
      obtain ⟨x, h1, y, h2, rfl⟩ := h
      show y.len + 1 = _
      rw [sA_len (n := n) h2, List.length_cons]
    · simp only [Option.bind_eq_some_iff, Option.map_eq_some_iff] at h
      obtain ⟨x, h1, y, h2, rfl⟩ := h
      show y.len + 1 = _
      rw [sA_len (n := n) h2, List.length_cons]
theorem pe_stuck {S : Sta} {X : Cx} {Wx : WX} {e : Expr} {f : Ρ → M W} (h : ∀ ρ st, f ρ st = .stuck) : PE X e (tE S Wx f) := ⟨fun pins s σ H Q I q => by
  obtain ⟨G, ρ, st, a, fi⟩ := q
  rw [h] at fi
  exact fi.elim⟩
theorem okH {n : Nat} (ih : OkN S Cfs P w base T n) {k : Nat} {r : Option (Addr × Addr × Nat × List V)} {X : Cx} {N : List Str} {ln : Option Nat} {lb : Bool} {sc : Scope} {lam : Nat → List W → List W → M W} {x : Str} {es : List Expr} {p pos : Pos} {ex : Ex} {Wx : WX} (F : ∀ j, j ≤ k → Facts S Cfs P w base T j) (f : FitX S P w base k X N sc) (fl : FitL (S.with r) k X ln lb lam) (tk : L2N.Takes X Wx)
    (hg : gloB sc x = true) (hd : notDbg x = true) (hs : es.all noStar = true) (hx : x ∈ T.hof) (h : sH T (n + 1) N ln lb sc x es = some ex) : PE X (.Call (.Name x p) es [] pos) (tE (S.with r) Wx (ev ((Cfs k).withLam lam) ex)) := by
  have hK : X.K = (S.with r).K := f.hK
  obtain ⟨d1, d2, d3⟩ := dbg_of hd
  have Fk := F k (Nat.le_refl _)
  obtain ⟨g, fd, pps, u1, u2, u3, u4⟩ := Fk.hof x hx
  unfold sH at h
  simp only [Option.bind_eq_some_iff] at h
  obtain ⟨q, h1, l, h2, h⟩ := h
  have es_eq := splitLast_eq h1
  cases e : q.2 with
  | Lambda params body scope lpos =>
    rw [e] at h es_eq
    simp only [Option.bind_eq_some_iff] at h
    obtain ⟨ps, h3, js, h4, h⟩ := h
    split at h
    · rename_i hb
      simp only [Bool.and_eq_true] at hb
      obtain ⟨hb1, hb2⟩ := hb
      simp only [Option.bind_eq_some_iff, Option.map_eq_some_iff] at h
      obtain ⟨a, h5, b, h6, rfl⟩ := h
      have SC := NdefX.nscope_by hb1
      obtain ⟨as, hpar, hps⟩ := paramNames_some h3
      have ndp : ps.Nodup := by
        have z := SC.nd.sublist (List.take_sublist (ps.length + (freeNames scope).length) _)
        rw [SC.pre] at z
        exact (List.nodup_append.mp z).1
      have hq1 : q.1.all noStar = true := by
        rw [es_eq, List.all_append, Bool.and_eq_true] at hs
        exact hs.1
      have hla := sA_len (n := n) h5
      cases eh : (Cfs k).hof x (a.len + 1) with
      | none =>
        refine pe_stuck fun ρ st => ?_
        show (M.lift ((Cfs k).hof x (a.len + 1)) >>= _) st = .stuck
        rw [eh]
        rfl
      | some hh =>
        obtain ⟨j, rfl, lm, FH⟩ := u4 _ _ eh
        obtain ⟨q1, ⟨c, Pt, q2, q3, q4, q5⟩, q6⟩ := fl.mkl l h2
        have ka := ih.a (lam := lam) F f fl tk h5
        rw [es_eq]
        have main := s_callL (k := j + 1) (C := (Cfs (j + 2)).withLam lam) (L := lamW (Cfs j) ps.length (freeNames scope).length (ps ++ freeNames scope ++ T.extra.filter (fun y => decide (y ∉ ps ++ freeNames scope))).length b) (D := ⟨params, body, scope, ps ++ freeNames scope ++ T.extra.filter (fun y => decide (y ∉ ps ++ freeNames scope)), ps, freeNames scope⟩) (n := l) (js := js) (lpos := lpos) (p := p) (pos := pos) (ps := pps) (fd := fd) (g := g) (c := c) (P := Pt)
          hK f.hm f.room f.grd tk (f.gl hg) d1 (by rw [f.hm]; exact u1) (by rw [f.hK]; exact u2) (fun m h e => ?_) u3 (fun r' => ?_) (fun as' cs st hne => ?_) q3 q2 q1 q4 q5 (by rw [hpar]; rfl) (fun y hy e => ?_) (NdefX.ndef_fr hb2) (by rw [f.hN]; exact allIx_get h4) q6 (ka.2.2 hq1) (fun e r'' he => ?_)
        · have elen : q.1.length = a.len := hla.symm
          have eL : ((Cfs (j + 2)).withLam lam).lamF = fun np nf sl b => lamW (Cfs j) np nf sl b := Fk.lamF j rfl
          have fin : (fun ρ => (do
              let h ← M.lift (((Cfs (j + 2)).withLam lam).hof x (q.1.length + 1))
              let ws ← evs ((Cfs (j + 2)).withLam lam) a ρ
              let cs ← M.lift (getVs ρ js)
              M.chk (noclos ws && noclos cs)
              M.noCl (h (fun _ => lamW (Cfs j) ps.length (freeNames scope).length (ps ++ freeNames scope ++ T.extra.filter (fun y => decide (y ∉ ps ++ freeNames scope))).length b) (ws ++ [.clo l cs])))) = ev ((Cfs (j + 2)).withLam lam) (.callL x a l ps.length (freeNames scope).length (ps ++ freeNames scope ++ T.extra.filter (fun y => decide (y ∉ ps ++ freeNames scope))).length b js) := by
            funext ρ
            simp only [ev]
            rw [elen, eL]
          rw [← fin]
          exact main
        · obtain ⟨j', e1, e2, e3⟩ := u4 m h e
          have : j' = j := by omega
          subst this
          refine ⟨e2, ?_⟩
          rw [f.hP, f.hw, f.hb]
          exact ⟨fun r' lam' => e3.of r' lam'⟩
        · rw [f.hP, f.hw, f.hb]
          refine lamW_of (S := S.with r') (C := Cfs j) SC rfl (fun cl pm cv ctv us hl => ?_) fun A outer s H E f' c' cl hr hgd => ?_
          · rw [hps]
            exact bind_plain hpar rfl (hps ▸ ndp) (by rw [hps] at hl; exact hl)
          · refine (ih.e (k := j) (r := r') (ln := none) (lb := false) (lam := (Cfs j).lam) (fun i hi => F i (by omega)) ⟨rfl, rfl, rfl, rfl, rfl, hr, hgd, rfl, rfl, SC.nd, rfl⟩ FitL.none ?_ h6).1
            exact L2N.takes_of (E := E) rfl rfl rfl rfl
        · unfold lamW at hne
          by_cases z : as'.length = ps.length ∧ cs.length = (freeNames scope).length ∧ ps.length + (freeNames scope).length ≤ (ps ++ freeNames scope ++ T.extra.filter (fun y => decide (y ∉ ps ++ freeNames scope))).length
          · exact z.1
          · rw [if_neg z] at hne; exact absurd rfl hne
        · rw [f.hs]; exact NdefX.ndef_free hb2 y hy e
        · rw [es_eq, he] at hs
          simp only [List.all_cons, Bool.and_eq_true] at hs
          exact ⟨starEach_cons hs.1, starEach_plain hs.2⟩
    · cases h
  | _ => rw [e] at h; cases h
theorem OkN.succ {n : Nat} (ih : OkN S Cfs P w base T n) : OkN S Cfs P w base T (n + 1) where
  e := okE ih
  lc := okLC ih
  c := okC ih
  h := okH ih
  a := okA ih
  i := okI ih
  t := okT ih
  g := okG ih
  gs := okGs ih
theorem okN : ∀ n, OkN S Cfs P w base T n
  | 0 => .zero
  | n + 1 => (okN n).succ
end
end Pf

/-! part P25 -/
set_option Elab.async false
set_option linter.all false
set_option maxRecDepth 100000
set_option autoImplicit false
set_option maxHeartbeats 4000000
/-! Statements: from the text to the fragment, and that it means the same. -/
namespace Pf
open PySem PySem.Spec PyProof.Rows L2

/-! ### how stores go -/
def isLC : Expr → Bool
  | .ListComp _ _ _ _ => true | .SetComp _ _ _ _ => true | .DictComp _ _ _ _ _ => true
  | _ => false
/-- a comprehension whose list goes to the name at once -/
def swB (sc : Scope) (tg e : Expr) : Bool := match tg, e with
  | .Name x p, .ListComp _ _ scope pos => decide (sc.names.lookup x = some .local) && (p.line == pos.line) && !(scope.names.any fun (n, k) => n == x && (k == .local || k == .cell))
  | _, _ => false
theorem sw_none {tg e : Expr} {l : Nat} {env : Env} (h : isLC e = false) : swapsWith e (some tg) l env = pure false := by
  cases e <;> first | rfl | cases h
theorem sw_drop {e : Expr} {l : Nat} {env : Env} (h : isLC e = false) : swapsWith e none l env = pure false := by
  cases e <;> first | rfl | cases h
/-- is it stored from the right, name by name? -/
def parNames (sc : Scope) (ts : List Expr) : List Str := ts.filterMap fun
  | .Name id pos => if sc.names.lookup id == some .local && pos.line == (ts.head?.map (·.pos.line)).getD 0 then some id else none
  | _ => none
def anyStar (vs : List Expr) : Bool := vs.any fun | .Starred .. => true | _ => false
def isTT : Expr → Expr → Bool
  | .Tuple _ _ _, .Tuple _ _ _ => true
  | .List _ _, .Tuple _ _ _ => true
  | _, _ => false
/-- surely not -/
def noPar (sc : Scope) (tg e : Expr) : Bool := match tg, e with
  | .Tuple ts _ _, .Tuple vs _ _ => !(ts.length == 2 || ts.length == 3) || vs.length != ts.length || anyStar vs || (parNames sc ts).length != ts.length || (parNames sc ts).eraseDups.length != (parNames sc ts).length || vs.all (foldedForSure 8)
  | tg, e => !isTT tg e
/-- surely -/
def isPar (sc : Scope) (tg e : Expr) : Bool := match tg, e with
  | .Tuple ts _ _, .Tuple vs _ _ => (ts.length == 2 || ts.length == 3) && vs.length == ts.length && !anyStar vs && (parNames sc ts).length == ts.length && (parNames sc ts).eraseDups.length == (parNames sc ts).length && !vs.all (foldedForSure 8) && !vs.all (constantsAlone 8)
  | _, _ => false
theorem kind_eq {env : Env} {x : Str} : env.kindOf x = env.scope.names.lookup x := rfl
theorem swapped_tt {env : Env} {ts vs : List Expr} {k k2 : Nat} {p p2 : Pos} (hk : env.scope.kind = .function) : swappedStores [.Tuple ts k p] (.Tuple vs k2 p2) env =
    (if (!(ts.length == 2 || ts.length == 3) || vs.length != ts.length) = true then pure none else if anyStar vs = true then pure none else
      if ((parNames env.scope ts).length != ts.length || (parNames env.scope ts).eraseDups.length != (parNames env.scope ts).length) = true then pure none else if vs.all (foldedForSure 8) = true then pure none else
      if vs.all (constantsAlone 8) = true then unsupported "assign.tuple-of-constant-expressions:order-of-the-stores" else pure (some (parNames env.scope ts))) := by
  have hb : env.blockKind = .function := by unfold Env.blockKind; rw [hk]; rfl
  unfold swappedStores
  simp only [hb]
  by_cases h1 : (!(ts.length == 2 || ts.length == 3) || vs.length != ts.length) = true
  · rw [if_pos h1, if_pos (by rw [h1]; rfl)]
  rw [if_neg h1, if_neg (by rw [Bool.not_eq_true] at h1; rw [h1]; decide)]
  by_cases h2 : anyStar vs = true
  · rw [if_pos h2]; exact if_pos h2
  rw [if_neg h2]
  refine (if_neg h2).trans ?_
  by_cases h3 : ((parNames env.scope ts).length != ts.length || (parNames env.scope ts).eraseDups.length != (parNames env.scope ts).length) = true
  · rw [if_pos h3]; exact if_pos h3
  rw [if_neg h3]
  refine (if_neg h3).trans ?_
  by_cases h4 : vs.all (foldedForSure 8) = true
  · rw [if_pos h4, if_pos h4]
  rw [if_neg h4, if_neg h4]
  by_cases h5 : vs.all (constantsAlone 8) = true
  · rw [if_pos h5, if_pos h5]; rfl
  · rw [if_neg h5, if_neg h5]; rfl

theorem isTT_none {env : Env} {tg e : Expr} (h : isTT tg e = false) : swappedStores [tg] e env = pure none := by
  cases tg <;> cases e <;> first | rfl | cases h
theorem noPar_none {env : Env} {tg e : Expr} (hk : env.scope.kind = .function) (h : noPar env.scope tg e = true) : swappedStores [tg] e env = pure none := by
  by_cases hT : ∃ ts k p vs k2 p2, tg = .Tuple ts k p ∧ e = .Tuple vs k2 p2
  · obtain ⟨ts, k, p, vs, k2, p2, rfl, rfl⟩ := hT
    rw [swapped_tt hk]
    simp only [noPar, Bool.or_eq_true] at h
    by_cases h1 : (!(ts.length == 2 || ts.length == 3) || vs.length != ts.length) = true
    · rw [if_pos h1]
    rw [if_neg h1]
    by_cases h2 : anyStar vs = true
    · rw [if_pos h2]
    rw [if_neg h2]
    by_cases h3 : ((parNames env.scope ts).length != ts.length || (parNames env.scope ts).eraseDups.length != (parNames env.scope ts).length) = true
    · rw [if_pos h3]
    rw [if_neg h3]
    by_cases h4 : vs.all (foldedForSure 8) = true
    · rw [if_pos h4]
    · exfalso
      rw [Bool.or_eq_true] at h1 h3
      rcases h with ((((h | h) | h) | h) | h) | h
      · exact h1 (.inl h)
      · exact h1 (.inr h)
      · exact h2 h
      · exact h3 (.inl h)
      · exact h3 (.inr h)
      · exact h4 h
  · refine isTT_none ?_
    cases tg with
    | Tuple ts k p => cases e with
      | Tuple vs k2 p2 => exact absurd ⟨ts, k, p, vs, k2, p2, rfl, rfl⟩ hT
      | _ => rfl
    | _ => simpa [noPar] using h
theorem isPar_some {env : Env} {ts vs : List Expr} {k k2 : Nat} {p p2 : Pos} (hk : env.scope.kind = .function) (h : isPar env.scope (.Tuple ts k p) (.Tuple vs k2 p2) = true) : swappedStores [.Tuple ts k p] (.Tuple vs k2 p2) env = pure (some (parNames env.scope ts)) := by
  rw [swapped_tt hk]
  simp only [isPar, Bool.and_eq_true, Bool.not_eq_true', beq_iff_eq] at h
  obtain ⟨⟨⟨⟨⟨⟨h1, h2⟩, h3⟩, h4⟩, h5⟩, h6⟩, h7⟩ := h
  rw [if_neg (by rw [h1, h2]; simp), if_neg (by rw [h3]; simp), if_neg (by rw [h4, h5, h4]; simp), if_neg (by rw [h6]; simp), if_neg (by rw [h7]; simp)]
/-- no list goes to its name at once -/
theorem sw_asg {env : Env} {tg e : Expr} {l : Nat} (hk : env.scope.kind = .function) (h : swB env.scope tg e = false) (h2 : ∀ a b c d, e ≠ .SetComp a b c d) (h3 : ∀ a b c d f, e ≠ .DictComp a b c d f) : swapsWith e (some tg) l env = pure false := by
  by_cases hl : isLC e = false
  · exact sw_none hl
  · cases e with
    | ListComp elt gs scope pos =>
      cases tg with
      | Name x p =>
        have hb : env.blockKind = .function := by unfold Env.blockKind; rw [hk]; rfl
        have z : swapsWith (.ListComp elt gs scope pos) (some (.Name x p)) l env = pure (env.blockKind == .function && env.kindOf x == some .local && p.line == pos.line && !(scope.names.any fun (n, k) => n == x && (k == .local || k == .cell))) := rfl
        rw [z, hb]
        have h : (decide (env.scope.names.lookup x = some .local) && (p.line == pos.line) && !(scope.names.any fun (n, k) => n == x && (k == .local || k == .cell))) = false := h
        by_cases hx : env.scope.names.lookup x = some .local
        · have e1 : (env.kindOf x == some .local) = true := by rw [kind_eq, hx]; rfl
          rw [e1]
          rw [show decide (env.scope.names.lookup x = some .local) = true from decide_eq_true hx] at h
          exact congrArg pure h
        · have e1 : (env.kindOf x == some .local) = false := by
            rw [kind_eq]
            cases q : env.scope.names.lookup x with
            | none => rfl
            | some kd => cases kd <;> first | rfl | exact absurd q hx
          rw [e1]; rfl
      | _ => rfl
    | SetComp a b c d => exact absurd rfl (h2 a b c d)
    | DictComp a b c d f => exact absurd rfl (h3 a b c d f)
    | _ => exact absurd rfl hl
end Pf

/-! part P26 -/
set_option Elab.async false
set_option linter.all false
set_option maxRecDepth 100000
set_option autoImplicit false
set_option maxHeartbeats 4000000
/-! Statements: from the text to the fragment, and that it means the same. -/
namespace Pf
open PySem PySem.Spec PyProof.Rows L2

/-- around a statement -/
structure Sp where
  T : Txt
  m : Nat
  N : List Str
  ln : Option Nat
  lb : Bool
  cel : List Str
  mu : Bool
  sc : Scope
/-- a new list -/
def sLx (p : Sp) : Expr → Option Ex
  | .List es _ => (sA p.T p.m p.N p.ln p.lb p.sc es).map .lst
  | .ListComp elt gs scope _ => sLC p.T p.m p.N p.ln p.lb p.sc elt gs scope
  | .BinOp a op b _ => (match op with
    | .Add => (sE p.T p.m p.N p.ln p.lb p.sc a).bind fun x => (sE p.T p.m p.N p.ln p.lb p.sc b).map fun y => .bin .Add x y
    | _ => none)
  | .Call (.Name x _) es kws _ => if gloB p.sc x = true ∧ notDbg x = true ∧ x ∈ p.T.blt ∧ kws.isEmpty = true ∧ es.all noStar = true then
      (one es).bind fun a => if x = "list" then (sE p.T p.m p.N p.ln p.lb p.sc a).map fun y => .bi .list (.cons y .nil)
        else if x = "sorted" then (sE p.T p.m p.N p.ln p.lb p.sc a).map fun y => .bi .sorted (.cons y .nil) else none
    else none
  | _ => none
def isComp : Expr → Bool
  | .SetComp _ _ _ _ => true | .DictComp _ _ _ _ _ => true
  | _ => false
/-- a value that goes to a name or back: a list that is new may become a cell -/
def sV (p : Sp) (c : Bool) (e : Expr) : Option Ex := if c = true then (match sLx p e with
    | some x => some (.nw x)
    | none => sE p.T p.m p.N p.ln p.lb p.sc e)
  else sE p.T p.m p.N p.ln p.lb p.sc e
def celB (p : Sp) : Expr → Bool
  | .Name x _ => decide (x ∈ p.cel)
  | _ => false
def locAll (p : Sp) (is : List Nat) : Bool := is.all fun i => match p.N[i]? with
  | some x => locB p.sc x
  | none => false
def sPar (p : Sp) : Expr → Expr → Option Sx
  | .Tuple ts _ _, .Tuple vs _ _ => (allIx p.N (parNames p.sc ts)).bind fun is => (sA p.T p.m p.N p.ln p.lb p.sc vs).bind fun as => (match is with
    | [i, j] => if i ≠ j then some (.set (.tup (.cons (.var i) (.cons (.var j) .nil))) (.tup as)) else none
    | [i, j, l] => if i ≠ j ∧ i ≠ l ∧ j ≠ l then some (.set (.tup (.cons (.var i) (.cons (.var j) (.cons (.var l) .nil)))) (.tup as)) else none
    | _ => none)
  | _, _ => none
def sSw (p : Sp) : Expr → Expr → Option Sx
  | .Name x _, .ListComp elt gs scope _ => (ixOf p.N x).bind fun i => (sLC p.T p.m p.N p.ln p.lb p.sc elt gs scope).map fun y => .set (.var i) (if x ∈ p.cel then .nw y else y)
  | _, _ => none
def sAsg (p : Sp) (tg e : Expr) : Option Sx :=
  if swB p.sc tg e = true then sSw p tg e
  else if isPar p.sc tg e = true then sPar p tg e
  else if noPar p.sc tg e = true ∧ isComp e = false ∧ noStar tg = true then
    (sG p.T p.m p.N p.sc tg).bind fun t => if locAll p t.is = true then (sV p (celB p tg) e).map fun x => .set t x else none
  else none
def sMe (p : Sp) (o : Expr) (m : Str) (es : List Expr) : Option Sx :=
  if m = "append" then (one es).bind fun a => (sE p.T p.m p.N p.ln p.lb p.sc o).bind fun x => (sE p.T p.m p.N p.ln p.lb p.sc a).map fun y => .app x y
  else if m = "extend" then (one es).bind fun a => (sE p.T p.m p.N p.ln p.lb p.sc o).bind fun x => (sLx p a).map fun y => .ext x y
  else none
def sExp (p : Sp) : Expr → Option Sx
  | .Call (.Attribute o m apos) es kws cpos => if kws.isEmpty = true ∧ attrOk o = true ∧ es.all noStar = true ∧ (apos.endLine == cpos.line) = true then sMe p o m es else none
  | e => if isLC e = true then none else (sE p.T p.m p.N p.ln p.lb p.sc e).map .drop
mutual
def sS (p : Sp) : Nat → Stmt → Option Sx
  | 0, _ => none
  | n + 1, s => match s with
    | .Assign ts e _ => (one ts).bind fun tg => sAsg p tg e
    | .Expr e _ => sExp p e
    | .Return eo _ => (match eo with
      | none => some .retN
      | some e => (sV p p.mu e).map .ret)
    | .If c a b _ => (sE p.T p.m p.N p.ln p.lb p.sc c).bind fun x => (sSs p n a).bind fun y => (sSs p n b).map fun z => .ifs x y z
    | .For tg it b oe _ => if oe.isEmpty = true then (sI p.T p.m p.N p.ln p.lb p.sc tg it).bind fun x => (sG p.T p.m p.N p.sc tg).bind fun t => if locAll p t.is = true then (sSs p n b).map fun y => .for_ t x y else none else none
    | .While c b oe _ => if oe.isEmpty = true then (sE p.T p.m p.N p.ln p.lb p.sc c).bind fun x => (sSs p n b).map fun y => .while_ x y else none
    | .Pass _ => some .pass
    | .Raise _ _ _ => some .never
    | _ => none
def sSs (p : Sp) : Nat → List Stmt → Option Sxs
  | 0, _ => none
  | n + 1, ss => match ss with
    | [] => some .nil
    | s :: r => (sS p n s).bind fun x => (sSs p n r).map fun y => .cons x y
end

section
variable {S : Sta} {Cfs : Nat → Cf} {P : Program} {w : World} {base : Heap} {p : Sp} {k : Nat} {r : Option (Addr × Addr × Nat × List V)} {X : Cx} {lam : Nat → List W → List W → M W} {Wx : WX}
/-- what is known around a statement -/
structure FitS (S : Sta) (Cfs : Nat → Cf) (P : Program) (w : World) (base : Heap) (p : Sp) (k : Nat) (r : Option (Addr × Addr × Nat × List V)) (X : Cx) (lam : Nat → List W → List W → M W) (Wx : WX) : Prop where
  F : ∀ j, j ≤ k → Facts S Cfs P w base p.T j
  f : FitX S P w base k X p.N p.sc
  fl : FitL (S.with r) k X p.ln p.lb lam
  tk : L2N.Takes X Wx
  po : PassesOwn (model X.prog X.w) X.A X.env X.xe
  fn : ∀ y, X.fn y = true
  kd : p.sc.kind = .function
abbrev Rx (p : Sp) : Ρ := List.replicate p.N.length none
theorem okLx (h0 : FitS S Cfs P w base p k r X lam Wx) {e : Expr} {ex : Ex} (h : sLx p e = some ex) : PE X e (tL (S.with r) Wx (evC ((Cfs k).withLam lam) ex)) := by
  have hK : X.K = (S.with r).K := h0.f.hK
  cases e with
  | List es pos =>
    simp only [sLx, Option.map_eq_some_iff] at h
    obtain ⟨as, h1, rfl⟩ := h
    exact l_lst ((okN p.m).a h0.F h0.f h0.fl h0.tk h1).1
  | ListComp elt gs scope pos =>
    simp only [sLx] at h
    exact ((okN p.m).lc h0.F h0.f h0.fl h0.tk h).1
  | BinOp a op b pos =>
    simp only [sLx] at h
    cases op with
    | Add =>
      simp only [Option.bind_eq_some_iff, Option.map_eq_some_iff] at h
      obtain ⟨x, h1, y, h2, rfl⟩ := h
      exact l_cat ((okN p.m).e h0.F h0.f h0.fl h0.tk h1).1 ((okN p.m).e h0.F h0.f h0.fl h0.tk h2).1
    | _ => cases h
  | Call fn es kws pos =>
    cases fn with
    | Name x px =>
      simp only [sLx] at h
      split at h
      · rename_i hh
        obtain ⟨hg, hd, hb, hkw, hs⟩ := hh
        obtain ⟨d1, d2, d3⟩ := dbg_of hd
        have hm : X.mg x = none := by rw [h0.f.hm]; exact (h0.F k (Nat.le_refl _)).blt x hb
        have hkw := List.isEmpty_iff.mp hkw
        subst hkw
        simp only [Option.bind_eq_some_iff] at h
        obtain ⟨a, h1, h⟩ := h
        rw [one_eq h1] at hs ⊢
        have hs1 := hs
        simp only [List.all_cons, List.all_nil, Bool.and_true] at hs1
        split at h
        · rename_i hx
          subst hx
          simp only [Option.map_eq_some_iff] at h
          obtain ⟨y, h2, rfl⟩ := h
          have z := s_cons ((okN p.m).e h0.F h0.f h0.fl h0.tk h2).1 s_nil (starEach_cons hs1)
          exact l_bt (bl_lst hK) (h0.f.gl hg) hm (by decide +kernel) z d3 d1 (starEach_cons hs1) rfl
        · split at h
          · rename_i hx
            subst hx
            simp only [Option.map_eq_some_iff] at h
            obtain ⟨y, h2, rfl⟩ := h
            have z := s_cons ((okN p.m).e h0.F h0.f h0.fl h0.tk h2).1 s_nil (starEach_cons hs1)
            exact l_bi (bl_srt hK h0.f.hu) (h0.f.gl hg) hm (by decide +kernel) z d3 d1 (starEach_cons hs1) rfl
          · cases h
      · cases h
    | _ => simp [sLx] at h
  | _ => simp [sLx] at h
theorem okV (h0 : FitS S Cfs P w base p k r X lam Wx) {c : Bool} {e : Expr} {ex : Ex} (h : sV p c e = some ex) : PE X e (tE (S.with r) Wx (ev ((Cfs k).withLam lam) ex)) := by
  have pl : ∀ {ex : Ex}, sE p.T p.m p.N p.ln p.lb p.sc e = some ex → PE X e (tE (S.with r) Wx (ev ((Cfs k).withLam lam) ex)) := fun h => ((okN p.m).e h0.F h0.f h0.fl h0.tk h).1
  unfold sV at h
  split at h
  · cases q : sLx p e with
    | none => rw [q] at h; exact pl h
    | some x =>
      rw [q] at h
      cases h
      exact s_newL (okLx h0 q)
  · exact pl h
theorem loc_all {is : List Nat} (h : locAll p is = true) (hs : X.env.scope = p.sc) (hf : ∀ y, X.fn y = true) : ∀ i x, p.N[i]? = some x → i ∈ is → Loc X.env.scope x ∧ (X.fn x = true ∨ X.env.scope.names.lookup x = some .local) := by
  intro i x e hi
  have z := List.all_eq_true.mp h i hi
  simp only [e] at z
  rw [hs]
  exact ⟨loc_of z, .inl (hf x)⟩
theorem filterMap_full {α β : Type} {f : α → Option β} : ∀ {ts : List α}, (ts.filterMap f).length = ts.length → ∀ (n : Nat) (x : β), (ts.filterMap f)[n]? = some x → ∃ t, ts[n]? = some t ∧ f t = some x
  | [], _, n, x, e => by simp at e
  | t :: ts, h, n, x, e => by
    have hle := List.length_filterMap_le f ts
    cases q : f t with
    | none =>
      rw [List.filterMap_cons_none q, List.length_cons] at h
      omega
    | some y =>
      rw [List.filterMap_cons_some q] at h e
      simp only [List.length_cons, Nat.add_right_cancel_iff] at h
      cases n with
      | zero =>
        simp only [List.getElem?_cons_zero, Option.some.injEq] at e
        subst e
        exact ⟨t, rfl, q⟩
      | succ n => simpa using filterMap_full h n x (by simpa using e)
/-- the names of a pair are all plain -/
theorem parNames_all {sc : Scope} {ts : List Expr} (h : (parNames sc ts).length = ts.length) : ∀ (n : Nat) (x : Str), (parNames sc ts)[n]? = some x → sc.names.lookup x = some .local ∧ ∃ p : Pos, ts[n]? = some (Expr.Name x p) := by
  intro n x e
  obtain ⟨t, h1, h2⟩ := filterMap_full h n x e
  cases t with
  | Name id pos =>
    dsimp only at h2
    split at h2
    · rename_i z
      cases h2
      rw [Bool.and_eq_true] at z
      refine ⟨?_, pos, h1⟩
      have z := z.1
      cases q : sc.names.lookup x with
      | none => rw [q] at z; cases z
      | some kd => rw [q] at z; cases kd <;> first | rfl | cases z
    · cases h2
  | _ => cases h2
theorem sz_long {n : Nat} {α : Type} {k : Unit → M α} (h : k () = M.stuck) : (sz n >>= k) = M.stuck := by
  funext st
  show M.bind (M.chk (decide (n ≤ SZ))) k st = _
  unfold M.bind M.chk
  cases decide (n ≤ SZ) with
  | true => exact congrFun h st
  | false => rfl
/-- a pair goes to a pair: as one by one -/
theorem par2_eq {C : Cf} {i j : Nat} {as : As} : exec C (.set (.tup (.cons (.var i) (.cons (.var j) .nil))) (.tup as)) = (fun ρ => do
      let ws ← evs C as ρ
      match ws with
      | [a, b] => pure (.nx ((ρ.set i (some a)).set j (some b)))
      | _ => M.stuck) := by
  funext ρ
  show (((evs C as ρ >>= fun ws => sz ws.length >>= fun _ => pure (.tup ws)) >>= fun w => M.nox (asg C (.tup (.cons (.var i) (.cons (.var j) .nil))) w ρ) >>= fun ρ2 => pure (.nx ρ2)) : M Fl) = _
  rw [M.bind_assoc]
  congr 1
  funext ws
  rw [M.bind_assoc]
  match ws with
  | [] => rfl
  | [a] => rfl
  | [a, b] => rfl
  | a :: b :: c :: d => exact sz_long rfl
theorem par3_eq {C : Cf} {i j l : Nat} {as : As} : exec C (.set (.tup (.cons (.var i) (.cons (.var j) (.cons (.var l) .nil)))) (.tup as)) = (fun ρ => do
      let ws ← evs C as ρ
      match ws with
      | [a, b, c] => pure (.nx (((ρ.set i (some a)).set j (some b)).set l (some c)))
      | _ => M.stuck) := by
  funext ρ
  show (((evs C as ρ >>= fun ws => sz ws.length >>= fun _ => pure (.tup ws)) >>= fun w => M.nox (asg C (.tup (.cons (.var i) (.cons (.var j) (.cons (.var l) .nil)))) w ρ) >>= fun ρ2 => pure (.nx ρ2)) : M Fl) = _
  rw [M.bind_assoc]
  congr 1
  funext ws
  rw [M.bind_assoc]
  match ws with
  | [] => rfl
  | [a] => rfl
  | [a, b] => rfl
  | [a, b, c] => rfl
  | a :: b :: c :: d :: e => exact sz_long rfl
theorem okPar (h0 : FitS S Cfs P w base p k r X lam Wx) {tg e : Expr} {pos : Pos} {sx : Sx} (hp : isPar p.sc tg e = true) (h : sPar p tg e = some sx) : PS X (.Assign [tg] e pos) (tS (S.with r) Wx (Rx p) (exec ((Cfs k).withLam lam) sx)) := by
  cases tg with
  | Tuple ts k1 p1 =>
    cases e with
    | Tuple vs k2 p2 =>
      have hk : X.env.scope.kind = .function := by rw [h0.f.hs]; exact h0.kd
      have hw := isPar_some (env := X.env) (k := k1) (k2 := k2) (p := p1) (p2 := p2) hk (by rw [h0.f.hs]; exact hp)
      rw [h0.f.hs] at hw
      simp only [isPar, Bool.and_eq_true, beq_iff_eq] at hp
      obtain ⟨⟨⟨⟨⟨⟨g1, g2⟩, g3⟩, g4⟩, g5⟩, g6⟩, g7⟩ := hp
      simp only [sPar, Option.bind_eq_some_iff] at h
      obtain ⟨is, h1, as, h2, h⟩ := h
      have ga := allIx_get h1
      have gn := parNames_all g4
      have hA := ((okN p.m).a h0.F h0.f h0.fl h0.tk h2).1
      split at h
      · rename_i i j
        split at h
        · rename_i hij
          cases h
          rw [par2_eq]
          generalize hN : parNames p.sc ts = ns at ga g4 gn hw
          match ns, ga with
          | [x, y], ga =>
            simp only [List.map_cons, List.map_nil, List.cons.injEq, and_true] at ga
            obtain ⟨l1, px, t1⟩ := gn 0 x rfl
            obtain ⟨l2, py, t2⟩ := gn 1 y rfl
            match ts, g4 with
            | [ta, tb], g4 =>
              simp only [List.getElem?_cons_zero, List.getElem?_cons_succ, Option.some.injEq] at t1 t2
              subst t1 t2
              match vs, g2 with
              | [a, b], g2 =>
                exact x_par open_none open_none (ps_par h0.f.calm (by rw [h0.f.hN]; exact h0.f.nd) (by rw [h0.f.hN]; exact ga.1) (by rw [h0.f.hN]; exact ga.2) hij (by rw [h0.f.hs]; exact l1) (by rw [h0.f.hs]; exact l2) hA hw)
          | [], ga => exact absurd (congrArg List.length ga) (by simp)
          | [_], ga => exact absurd (congrArg List.length ga) (by simp)
          | _ :: _ :: _ :: _, ga => exact absurd (congrArg List.length ga) (by simp)
        · cases h
      · rename_i i j l
        split at h
        · rename_i hij
          cases h
          rw [par3_eq]
          generalize hN : parNames p.sc ts = ns at ga g4 gn hw
          match ns, ga with
          | [x, y, z], ga =>
            simp only [List.map_cons, List.map_nil, List.cons.injEq, and_true] at ga
            obtain ⟨l1, px, t1⟩ := gn 0 x rfl
            obtain ⟨l2, py, t2⟩ := gn 1 y rfl
            obtain ⟨l3, pz, t3⟩ := gn 2 z rfl
            match ts, g4 with
            | [ta, tb, tc], g4 =>
              simp only [List.getElem?_cons_zero, List.getElem?_cons_succ, Option.some.injEq] at t1 t2 t3
              subst t1 t2 t3
              match vs, g2 with
              | [a, b, c], g2 =>
                exact x_par3 open_none open_none open_none (ps_par3 h0.f.calm (by rw [h0.f.hN]; exact h0.f.nd) (by rw [h0.f.hN]; exact ga.1) (by rw [h0.f.hN]; exact ga.2.1) (by rw [h0.f.hN]; exact ga.2.2) hij.1 hij.2.1 hij.2.2 (by rw [h0.f.hs]; exact l1) (by rw [h0.f.hs]; exact l2) (by rw [h0.f.hs]; exact l3) hA hw)
          | [], ga => exact absurd (congrArg List.length ga) (by simp)
          | [_], ga => exact absurd (congrArg List.length ga) (by simp)
          | [_, _], ga => exact absurd (congrArg List.length ga) (by simp)
          | _ :: _ :: _ :: _ :: _, ga => exact absurd (congrArg List.length ga) (by simp)
        · cases h
      · cases h
    | _ => simp [sPar] at h
  | _ => simp [sPar] at h
/-- the names of a block -/
theorem blk_loc {N : List Str} {sc scope : Scope} (f : FitX S P w base k X N sc) (ok : BlkOk X.N X.env.scope scope (ownOf N scope)) (s : Shared) (H : Hp) (C : Addr) (cl : List (Str × Addr)) (fp : List Addr) (i : Nat) (x : Str) (hx : N[i]? = some x) (hi : i ∈ (ownOf N scope).map (·.2)) :
    Loc (X.blk s H scope (compEnvC scope cl C X.env) fp).env.scope x ∧ ((X.blk s H scope (compEnvC scope cl C X.env) fp).fn x = true ∨ (X.blk s H scope (compEnvC scope cl C X.env) fp).env.scope.names.lookup x = some .local) := by
  obtain ⟨p, hp, rfl⟩ := List.mem_map.mp hi
  obtain ⟨k1, kd, k2, k3⟩ := own_mem hp
  have e : x = p.1 := by
    have := ixOf_get k1
    rw [hx] at this
    exact Option.some.inj this
  subst e
  have lk : scope.names.lookup p.1 = some kd := ok.uniq (p.1, kd) k2
  show Loc (relS scope X.env.scope) p.1 ∧ ((scope.names.lookup p.1 == some .cell) = true ∨ (relS scope X.env.scope).names.lookup p.1 = some .local)
  rcases k3 with k3 | k3
  · subst k3
    exact ⟨.inl (relS_local lk), .inr (relS_local lk)⟩
  · subst k3
    exact ⟨.inr (relS_cell lk), .inl (by rw [lk]; rfl)⟩
theorem okSet (h0 : FitS S Cfs P w base p k r X lam Wx) {x : Str} {i : Nat} {px pl pos : Pos} {elt : Expr} {gs : List Comprehension} {scope : Scope} {y : Ex} (hi : p.N[i]? = some x) (hx : p.sc.names.lookup x = some .local)
    (hsw : swapsWith (.ListComp elt gs scope pl) (some (.Name x px)) pos.line X.env = pure true) (h : sLC p.T p.m p.N p.ln p.lb p.sc elt gs scope = some y) :
    PS X (.Assign [.Name x px] (.ListComp elt gs scope pl) pos) (tAsg (tL (S.with r) Wx (evC ((Cfs k).withLam lam) y)) (gName i)) := by
  obtain ⟨F, f, fl, tk, _, _, _⟩ := h0
  cases hm : p.m with
  | zero => rw [hm] at h; simp [sLC] at h
  | succ n =>
    rw [hm] at h
    have ih : OkN S Cfs P w base p.T n := okN n
    simp only [sLC] at h
    split at h
    · rename_i tg it ifs
      split at h
      · rename_i hb
        simp only [Option.bind_eq_some_iff] at h
        obtain ⟨j, h1, t, h2, c, h3, x', h4, h⟩ := h
        split at h
        · rename_i hj
          cases h
          have hj' : ∀ j ∈ t.is, j ∈ (ownOf p.N scope).map (·.2) := fun j hm => by
            have := List.all_eq_true.mp hj j hm
            simpa using this
          have ok : BlkOk X.N X.env.scope scope (ownOf p.N scope) := by
            rw [f.hN, f.hs]; exact blkOk_by hb
          have hf := blk_loc f ok
          have kI := ih.i (lam := lam) F f fl tk h1
          have z := ps_setLc (spos := pos) f.calm (by rw [f.hN]; exact f.nd) (by rw [f.hN]; exact hi) (by rw [f.hs]; exact hx) hsw kI.1 ok (fun s H C cl fp => ih.g (r := r) (lam := lam) F (f.blk s H scope cl C fp) (hf s H C cl fp) h2 hj') (fun s H C cl fp => ih.t (r := r) (lam := lam) F (f.blk s H scope cl C fp) takes0 h3) (fun s H C cl fp => (ih.e (r := r) (lam := lam) F (f.blk s H scope cl C fp) FitL.none takes0 h4).1) (kI.2 X.env)
          exact z.impW fun D σ H h => tLc_of hj' h
        · cases h
      · cases h
    · rename_i tg it ifs tg1 it1 ifs1
      split at h
      · rename_i hb
        simp only [Option.bind_eq_some_iff] at h
        obtain ⟨j, h1, t, h2, c, h3, i1, h5, t1, h6, c1, h7, x', h4, h⟩ := h
        split at h
        · rename_i hj
          obtain ⟨hj, hj1⟩ := hj
          cases h
          have hj' : ∀ j ∈ t.is, j ∈ (ownOf p.N scope).map (·.2) := fun j hm => by
            have := List.all_eq_true.mp hj j hm
            simpa using this
          have hj1' : ∀ j ∈ t1.is, j ∈ (ownOf p.N scope).map (·.2) := fun j hm => by
            have := List.all_eq_true.mp hj1 j hm
            simpa using this
          have ok : BlkOk X.N X.env.scope scope (ownOf p.N scope) := by
            rw [f.hN, f.hs]; exact blkOk_by hb
          have hf := blk_loc f ok
          have kI := ih.i (lam := lam) F f fl tk h1
          have z := ps_setLc2 (spos := pos) f.calm (by rw [f.hN]; exact f.nd) (by rw [f.hN]; exact hi) (by rw [f.hs]; exact hx) hsw kI.1 ok hj1' (fun s H C cl fp => ih.g (r := r) (lam := lam) F (f.blk s H scope cl C fp) (hf s H C cl fp) h2 hj') (fun s H C cl fp => ih.t (r := r) (lam := lam) F (f.blk s H scope cl C fp) takes0 h3) (fun s H C cl fp => (ih.i (r := r) (lam := lam) F (f.blk s H scope cl C fp) FitL.none takes0 h5).1) (fun s H C cl fp => ih.g (r := r) (lam := lam) F (f.blk s H scope cl C fp) (hf s H C cl fp) h6 hj1') (fun s H C cl fp => ih.t (r := r) (lam := lam) F (f.blk s H scope cl C fp) takes0 h7) (fun s H C cl fp => (ih.e (r := r) (lam := lam) F (f.blk s H scope cl C fp) FitL.none takes0 h4).1) (kI.2 X.env) (sI_fold h5)
          exact z.impW fun D σ H h => tLc2_of hj' (fun _ z => z) h
        · cases h
      · cases h
    · cases h
theorem okSw (h0 : FitS S Cfs P w base p k r X lam Wx) {tg e : Expr} {pos : Pos} {sx : Sx} (hp : swB p.sc tg e = true) (h : sSw p tg e = some sx) : PS X (.Assign [tg] e pos) (tS (S.with r) Wx (Rx p) (exec ((Cfs k).withLam lam) sx)) := by
  cases tg with
  | Name x px =>
    cases e with
    | ListComp elt gs scope pl =>
      have hk : X.env.scope.kind = .function := by rw [h0.f.hs]; exact h0.kd
      simp only [sSw, Option.bind_eq_some_iff, Option.map_eq_some_iff] at h
      obtain ⟨i, h1, y, h2, rfl⟩ := h
      have hp : (decide (p.sc.names.lookup x = some .local) && (px.line == pl.line) && !(scope.names.any fun (n, k) => n == x && (k == .local || k == .cell))) = true := hp
      simp only [Bool.and_eq_true, decide_eq_true_eq, Bool.not_eq_true'] at hp
      obtain ⟨⟨hx, hl⟩, ha⟩ := hp
      have hsw := sw_true (env := X.env) (elt := elt) (gs := gs) (scope := scope) (pos := pl) (py := px) (y := x) (l := pos.line) hk (by rw [h0.f.hs]; exact hx) hl ha
      have z : PS X (.Assign [.Name x px] (.ListComp elt gs scope pl) pos) (tAsg (tL (S.with r) Wx (evC ((Cfs k).withLam lam) y)) (gName i)) := by
        exact okSet h0 (ixOf_get h1) hx hsw h2
      have q : ∀ ρ, ev ((Cfs k).withLam lam) y ρ = (evC ((Cfs k).withLam lam) y ρ >>= fun ws => pure (.lst ws)) := ((okN p.m).lc (pos := pl) h0.F h0.f h0.fl h0.tk h2).2
      by_cases hc : x ∈ p.cel
      · rw [if_pos hc]
        exact x_setNew open_none z
      · rw [if_neg hc]
        have e1 : exec ((Cfs k).withLam lam) (.set (.var i) y) = fun ρ => (do let w ← (do let ws ← evC ((Cfs k).withLam lam) y ρ; pure (W.lst ws)); let ρ2 ← M.nox (pure (ρ.set i (some w))); pure (.nx ρ2)) := by
          funext ρ
          show ((ev ((Cfs k).withLam lam) y ρ >>= fun w => M.nox (pure (ρ.set i (some w))) >>= fun ρ2 => pure (Fl.nx ρ2)) : M Fl) = _
          rw [q]
        rw [e1]
        exact x_setFrz open_none z
    | _ => simp [sSw] at h
  | _ => cases e <;> simp [sSw] at h
theorem okAsg (h0 : FitS S Cfs P w base p k r X lam Wx) {tg e : Expr} {pos : Pos} {sx : Sx} (h : sAsg p tg e = some sx) : PS X (.Assign [tg] e pos) (tS (S.with r) Wx (Rx p) (exec ((Cfs k).withLam lam) sx)) := by
  have hk : X.env.scope.kind = .function := by rw [h0.f.hs]; exact h0.kd
  unfold sAsg at h
  split at h
  · rename_i hp; exact okSw h0 hp h
  · rename_i hsw
    split at h
    · rename_i hp; exact okPar h0 hp h
    · split at h
      · rename_i hh
        obtain ⟨g1, g2, g3⟩ := hh
        simp only [Option.bind_eq_some_iff] at h
        obtain ⟨t, h1, h⟩ := h
        split at h
        · rename_i hl
          simp only [Option.map_eq_some_iff] at h
          obtain ⟨x, h2, rfl⟩ := h
          have hg := (okN p.m).g (r := r) (lam := lam) h0.F h0.f (loc_all hl h0.f.hs h0.fn) h1 (fun _ z => z)
          refine x_set (fun i _ => open_none) (okV h0 h2) hg ?_ (noPar_none hk (by rw [h0.f.hs]; exact g1)) ?_
          · refine sw_asg hk (by rw [h0.f.hs]; simpa using hsw) ?_ ?_
            · rintro a b c d rfl; cases g2
            · rintro a b c d f rfl; cases g2
          · cases tg <;> first | rfl | cases g3
        · cases h
      · cases h
theorem sMe_kw {o : Expr} {m : Str} {es : List Expr} {sx : Sx} (h : sMe p o m es = some sx) : ∃ a, es = [a] := by
  unfold sMe at h
  split at h
  · simp only [Option.bind_eq_some_iff] at h
    obtain ⟨a, h1, _⟩ := h
    exact ⟨a, one_eq h1⟩
  · split at h
    · simp only [Option.bind_eq_some_iff] at h
      obtain ⟨a, h1, _⟩ := h
      exact ⟨a, one_eq h1⟩
    · cases h
theorem okExp (h0 : FitS S Cfs P w base p k r X lam Wx) {e : Expr} {pos : Pos} {sx : Sx} (h : sExp p e = some sx) : PS X (.Expr e pos) (tS (S.with r) Wx (Rx p) (exec ((Cfs k).withLam lam) sx)) := by
  have hK : X.K = (S.with r).K := h0.f.hK
  have pl : ∀ {e : Expr}, (if isLC e = true then none else (sE p.T p.m p.N p.ln p.lb p.sc e).map Sx.drop) = some sx → PS X (.Expr e pos) (tS (S.with r) Wx (Rx p) (exec ((Cfs k).withLam lam) sx)) := fun {e} h => by
    split at h
    · cases h
    · rename_i hl
      simp only [Option.map_eq_some_iff] at h
      obtain ⟨x, h1, rfl⟩ := h
      exact x_drop ((okN p.m).e h0.F h0.f h0.fl h0.tk h1).1 (sw_drop (by simpa using hl))
  by_cases hc : ∃ o m apos es kws cpos, e = .Call (.Attribute o m apos) es kws cpos
  · obtain ⟨o, m, apos, es, kws, cpos, rfl⟩ := hc
    simp only [sExp] at h
    split at h
    · rename_i hh
      obtain ⟨g1, g2, g3, g4⟩ := hh
      have hkw := List.isEmpty_iff.mp g1
      subst hkw
      obtain ⟨a, rfl⟩ := sMe_kw h
      have hs1 : noStar a = true := by simpa using g3
      have e1 : starEach [a] X.env = (false, eval a X.env) :: starEach [] X.env := starEach_cons hs1
      unfold sMe at h
      split at h
      · rename_i hm
        subst hm
        simp only [Option.bind_eq_some_iff, Option.map_eq_some_iff] at h
        obtain ⟨b, hb, x, h1, y, h2, rfl⟩ := h
        cases hb
        exact x_app hK ((okN p.m).e h0.F h0.f h0.fl h0.tk h1).1 ((okN p.m).e h0.F h0.f h0.fl h0.tk h2).1 (attr_ok g2) (by rw [e1]; rfl) g4 e1 rfl (sw_drop rfl)
      · split at h
        · rename_i hm
          subst hm
          simp only [Option.bind_eq_some_iff, Option.map_eq_some_iff] at h
          obtain ⟨b, hb, x, h1, y, h2, rfl⟩ := h
          cases hb
          exact x_ext hK ((okN p.m).e h0.F h0.f h0.fl h0.tk h1).1 (okLx h0 h2) (attr_ok g2) (by rw [e1]; rfl) g4 e1 rfl (sw_drop rfl)
        · cases h
    · cases h
  · refine pl ?_
    cases e with
    | Call fn es kws cpos => cases fn <;> first | exact h | exact absurd ⟨_, _, _, _, _, _, rfl⟩ hc
    | _ => exact h
/-- all statements -/
structure OkS (S : Sta) (Cfs : Nat → Cf) (P : Program) (w : World) (base : Heap) (p : Sp) (n : Nat) : Prop where
  s : ∀ {k : Nat} {r : Option (Addr × Addr × Nat × List V)} {X : Cx} {lam : Nat → List W → List W → M W} {Wx : WX} {sm : Stmt} {sx : Sx}, FitS S Cfs P w base p k r X lam Wx → sS p n sm = some sx → PS X sm (tS (S.with r) Wx (Rx p) (exec ((Cfs k).withLam lam) sx))
  ss : ∀ {k : Nat} {r : Option (Addr × Addr × Nat × List V)} {X : Cx} {lam : Nat → List W → List W → M W} {Wx : WX} {sms : List Stmt} {sxs : Sxs}, FitS S Cfs P w base p k r X lam Wx → sSs p n sms = some sxs → PSs X sms (tS (S.with r) Wx (Rx p) (execs ((Cfs k).withLam lam) sxs))
theorem okS : ∀ n, OkS S Cfs P w base p n
  | 0 => ⟨fun _ h => by simp [sS] at h, fun _ h => by simp [sSs] at h⟩
  | n + 1 => by
    have ih : OkS S Cfs P w base p n := okS n
    refine ⟨fun {k r X lam Wx sm sx} h0 h => ?_, fun {k r X lam Wx sms sxs} h0 h => ?_⟩
    · cases sm with
      | Assign ts e pos =>
        simp only [sS, Option.bind_eq_some_iff] at h
        obtain ⟨tg, h1, h⟩ := h
        rw [one_eq h1]
        exact okAsg h0 h
      | Expr e pos =>
        simp only [sS] at h
        exact okExp h0 h
      | Return eo pos =>
        simp only [sS] at h
        cases eo with
        | none =>
          cases h
          exact x_retN
        | some e =>
          simp only [Option.map_eq_some_iff] at h
          obtain ⟨x, h1, rfl⟩ := h
          exact x_ret (okV h0 h1)
      | If c a b pos =>
        simp only [sS, Option.bind_eq_some_iff, Option.map_eq_some_iff] at h
        obtain ⟨x, h1, y, h2, z, h3, rfl⟩ := h
        exact x_if ((okN p.m).e h0.F h0.f h0.fl h0.tk h1).2.1 (ih.ss h0 h2) (ih.ss h0 h3)
      | For tg it b oe pos =>
        simp only [sS] at h
        split at h
        · rename_i ho
          have ho := List.isEmpty_iff.mp ho
          subst ho
          simp only [Option.bind_eq_some_iff] at h
          obtain ⟨x, h1, t, h2, h⟩ := h
          split at h
          · rename_i hl
            simp only [Option.map_eq_some_iff] at h
            obtain ⟨y, h3, rfl⟩ := h
            have hg := (okN p.m).g (r := r) (lam := lam) h0.F h0.f (loc_all hl h0.f.hs h0.fn) h2 (fun _ z => z)
            have hi := (okN p.m).i h0.F h0.f h0.fl h0.tk h1
            exact x_for h0.po h0.f.calm (fun i _ => open_none) hi.1 hg (ih.ss h0 h3) (hi.2 X.env)
          · cases h
        · cases h
      | While c b oe pos =>
        simp only [sS] at h
        split at h
        · rename_i ho
          have ho := List.isEmpty_iff.mp ho
          subst ho
          simp only [Option.bind_eq_some_iff, Option.map_eq_some_iff] at h
          obtain ⟨x, h1, y, h2, rfl⟩ := h
          exact x_while h0.po ((okN p.m).e h0.F h0.f h0.fl h0.tk h1).2.1 (ih.ss h0 h2)
        · cases h
      | Pass pos =>
        cases h
        exact x_pass
      | Raise a b pos =>
        cases h
        exact x_never
      | _ => simp [sS] at h
    · cases sms with
      | nil =>
        cases h
        exact x_nil
      | cons s r' =>
        simp only [sSs, Option.bind_eq_some_iff, Option.map_eq_some_iff] at h
        obtain ⟨x, h1, y, h2, rfl⟩ := h
        exact x_cons (ih.s h0 h1) (ih.ss h0 h2)
end
end Pf

/-! part P27 -/
set_option Elab.async false
set_option linter.all false
set_option maxRecDepth 100000
set_option autoImplicit false
set_option maxHeartbeats 400000
/-! The program's defs, level by level. -/
namespace Pf
open PySem PySem.Spec PyProof.Rows L2

/-- a def where it lies -/
structure DefI where
  f : Addr
  name : Str
  qual : Str
  params : Arguments
  body : List Stmt
  scope : Scope
  dV : Value
  kV : Value
  doc : Value
  pm : Value
  cdv : Value
  ct : Value
  oc : Value
  an : Option Addr
  od : Option Addr
  osl : Array (Option Value)
  N : List Str
  ps : List Str
  cel : List Str
  ln : Option Nat
  lb : Bool
  m : Nat
  n : Nat
abbrev DefI.fd (I : DefI) : FuncData := PySem.W.fnOf I.name I.qual I.params I.body I.scope I.dV I.kV I.doc I.pm I.an I.cdv I.ct
abbrev DefI.sp (I : DefI) (T : Txt) (mu : Bool) : Sp := ⟨T, I.m, I.N, I.ln, I.lb, I.cel, mu, I.scope⟩
/-- .. means what the table says -/
structure DefOk (S : Sta) (base : Heap) (T : Txt) (I : DefI) (d : Fd) : Prop where
  lk : S.K.lookup I.f = some ⟨I.oc, I.od, .func I.fd, I.osl⟩
  cd : PySem.W.codeIn S.K I.cdv I.qual = true
  SC : FnScope I.N I.ps I.scope
  hN : I.N.length = d.slots
  hps : I.ps.length = d.ps
  tx : sSs (I.sp T d.mu) I.n I.body = some d.body
  mkl : ∀ l, I.ln = some l → I.qual ++ ".<locals>." ++ "<lambda>" = S.lq l ∧ ∃ c P, I.cdv = .ref c ∧ LamX.TabB base S.gv c P ∧ (P, S.lq l) ∈ S.T ∧ ∀ p ∈ S.T, p.1 = P → p.2 = S.lq l
section
variable {S : Sta} {Cfs : Nat → Cf} {P : Program} {w : World} {base : Heap} {T : Txt} {k : Nat} {I : DefI} {d : Fd} {Rg : List Env → Shared → Hp → Prop} {lam : Nat → List W → List W → M W} {r : Option (Addr × Addr × Nat × List V)}
theorem fnR_def (F : ∀ j, j ≤ k → Facts S Cfs P w base T j) (h : DefOk S base T I d) (hRg : I.lb = true → ∀ outer s H, Rg outer s H → RegE (S.with r) P w base k lam outer s H) :
    FnR Rg (S.with r) P w base (k + 1) I.f I.fd I.ps (runF ((Cfs k).withLam lam) d) := by
  refine fnR_of (Rg := Rg) (S := S.with r) (C := (Cfs k).withLam lam) (P := P) (w := w) (base := base) (k := k) (f := I.f) (name := I.name) (qual := I.qual) (params := I.params) (body := I.body) (scope := I.scope) (dV := I.dV) (kV := I.kV) (doc := I.doc) (pm := I.pm) (cdv := I.cdv) (ct := I.ct) (oc := I.oc) (an := I.an) (od := I.od) (osl := I.osl) (N := I.N) (ps := I.ps) (fd := d) h.lk h.cd h.SC h.hN h.hps ?_
  intro A outer s H E hr hg hrg
  have tk : L2N.Takes (cxOf (L2N.CX P w) P w S.K S.gv base I.N I.qual I.scope I.f I.cdv A outer s H E) (Wu E) := L2N.takes_of (E := E) rfl rfl rfl rfl
  have po : PassesOwn (model P w) (A.deeper (envOfC I.qual I.scope s.heap.objs.size I.f I.cdv)) (cxOf (L2N.CX P w) P w S.K S.gv base I.N I.qual I.scope I.f I.cdv A outer s H E).env (cxOf (L2N.CX P w) P w S.K S.gv base I.N I.qual I.scope I.f I.cdv A outer s H E).xe := PassesOwn.leaving
  have fx : FitX S P w base k (cxOf (L2N.CX P w) P w S.K S.gv base I.N I.qual I.scope I.f I.cdv A outer s H E) I.N I.scope := ⟨rfl, rfl, rfl, rfl, rfl, hr, hg, rfl, rfl, h.SC.nd, rfl⟩
  have eq1 : (cxOf (L2N.CX P w) P w S.K S.gv base I.N I.qual I.scope I.f I.cdv A outer s H E).env.qual = I.qual ++ ".<locals>." := rfl
  have eq2 : (cxOf (L2N.CX P w) P w S.K S.gv base I.N I.qual I.scope I.f I.cdv A outer s H E).env.code = I.cdv := rfl
  have reg : I.lb = true → RegOk (S.with r) (cxOf (L2N.CX P w) P w S.K S.gv base I.N I.qual I.scope I.f I.cdv A outer s H E) k lam := fun z => RegE.ok (CX := L2N.CX P w) (P := P) (w := w) (K := S.K) (mg := S.gv) (hRg z outer s H hrg)
  have fl : FitL (S.with r) k (cxOf (L2N.CX P w) P w S.K S.gv base I.N I.qual I.scope I.f I.cdv A outer s H E) I.ln I.lb lam := by
    refine ⟨reg, fun l e => ?_⟩
    obtain ⟨h1, c, Pt, h2, h3, h4, h5⟩ := h.mkl l e
    rw [eq1, eq2]
    exact ⟨h1, ⟨c, Pt, h2, h3, h4, h5⟩, fun _ => rfl⟩
  have h0 : FitS S Cfs P w base (I.sp T d.mu) k r (cxOf (L2N.CX P w) P w S.K S.gv base I.N I.qual I.scope I.f I.cdv A outer s H E) lam (Wu E) := ⟨F, fx, fl, tk, po, fun _ => rfl, h.SC.kind⟩
  exact (okS I.n).ss h0 h.tx
end

/-! ### the table -/
structure Tab where
  defs : List (Str × Fd × (Nat → List Str → Option (List W → List W → Option (List W))))
  clss : List (Str × Bool × Fd × (Nat → List Str → Option (List W → List W → Option (List W))))
  hofs : List (Str × Fd)
  gv : Str → Option W
  isi : Ty → Ty → Option Bool
  att : Str → Str → Bool
  xc : Str → Option (List Str)
  fuel : Nat
def Tab.base (t : Tab) : Cf := ⟨fun _ _ _ => none, fun _ _ _ => none, t.gv, fun _ _ _ => M.stuck, fun _ _ _ _ _ _ => M.stuck, fun _ => false, fun _ _ => none, t.isi, t.att, t.xc, t.fuel⟩
def Tab.fn0 (t : Tab) (C : Cf) (x : Str) (n : Nat) (ks : List Str) : Option (List W → List W → M W) := (t.defs.lookup x).bind fun d => (d.2 n ks).map fun b => bndW b (runF C d.1)
def Tab.fn1 (t : Tab) (C D : Cf) (x : Str) (n : Nat) (ks : List Str) : Option (List W → List W → M W) := match t.fn0 C x n ks with
  | some f => some f
  | none => (t.clss.lookup x).bind fun c => (c.2.2 (n + 1) ks).map fun b => mkW x c.1 (bndW b (runF D c.2.1))
def Tab.hof (t : Tab) (C : Cf) (x : Str) (m : Nat) : Option ((Nat → List W → List W → M W) → List W → M W) := (t.hofs.lookup x).bind fun d => if m = d.ps then some fun lam => runF (C.withLam lam) d else none
def Tab.cf (t : Tab) : Nat → Cf
  | 0 => t.base
  | 1 => { t.base with fn := t.fn0 t.base }
  | k + 2 => { t.base with fn := t.fn1 (t.cf (k + 1)) (t.cf k), hof := t.hof (t.cf (k + 1)), lamF := fun np nf sl b => lamW (t.cf k) np nf sl b }
theorem lam_self (C : Cf) : C.withLam C.lam = C := rfl
end Pf

/-! part P28 -/
set_option Elab.async false
set_option linter.all false
set_option maxRecDepth 100000
set_option autoImplicit false
set_option maxHeartbeats 1000000
/-! What is known of the defs, at every level. -/
namespace Pf
open PySem PySem.Spec PyProof.Rows L2

structure TabOk (S : Sta) (base : Heap) (T : Txt) (t : Tab) : Prop where
  tabs : ∀ r, Tabs (S.with r) t.base
  fns : ∀ x ∈ T.fns, (∃ I d b, t.defs.lookup x = some (d, b) ∧ t.clss.lookup x = none ∧ DefOk S base T I d ∧ I.lb = false ∧ S.gv x = some (.ref I.f) ∧ PySem.W.keepIn S.K (.ref I.f) = true ∧ ∀ n ks g, b n ks = some g → ∀ r, Bnd (S.with r) I.fd I.ps n ks g) ∨
    (∃ I mu d b C, t.defs.lookup x = none ∧ t.clss.lookup x = some (mu, d, b) ∧ DefOk S base T I d ∧ I.lb = false ∧ S.gv x = some (.ref C) ∧ Mk S.K C I.f ∧ PySem.W.keepIn S.K (.ref C) = true ∧ ∀ n ks g, b n ks = some g → ∀ r, Bnd (S.with r) I.fd I.ps n ks g)
  hof : ∀ x ∈ T.hof, ∃ I d, t.hofs.lookup x = some d ∧ DefOk S base T I d ∧ S.gv x = some (.ref I.f) ∧ PySem.W.keepIn S.K (.ref I.f) = true ∧ ∀ s us, us.length = I.ps.length → S.K.In s.heap → BindsTo s I.fd ⟨us, []⟩ (I.ps.zip us)
  cst : ∀ x ∈ T.cst, ∃ u v, S.gv x = some u ∧ RelV v u ∧ ∀ w, t.gv x = some w → ∀ r G, RelW (S.with r) G v w
  blt : ∀ x ∈ T.blt, S.gv x = none
  cls : ∀ x ∈ T.cls, ∃ a, S.gv x = some (.ref a)
section
variable {S : Sta} {P : Program} {w : World} {base : Heap} {T : Txt} {t : Tab}
theorem cf_gv (k : Nat) : (t.cf k).gv = t.gv := by
  match k with
  | 0 => rfl
  | 1 => rfl
  | k + 2 => rfl
theorem cf_att (k : Nat) : (t.cf k).att = t.att := by
  match k with
  | 0 => rfl
  | 1 => rfl
  | k + 2 => rfl
theorem cf_isi (k : Nat) : (t.cf k).isi = t.isi := by
  match k with
  | 0 => rfl
  | 1 => rfl
  | k + 2 => rfl
theorem fn0_ok (h : TabOk S base T t) {k : Nat} (F : ∀ j, j ≤ k → Facts S t.cf P w base T j) {x : Str} (hx : x ∈ T.fns) {u : Value} (hu : S.gv x = some u) {n : Nat} {ks : List Str} {rn : List W → List W → M W} (e : t.fn0 (t.cf k) x n ks = some rn) (r : Option (Addr × Addr × Nat × List V)) (X : Cx) (Wx : WX) (hK : X.K = S.K) (hm : X.mg = S.gv) (hP : X.prog = P) (hw : X.w = w) (hb : X.base = base) (hr : Room (k + 1) X.A) (hg : X.A.guards = some []) (tk : L2N.Takes X Wx) : CallOk (S.with r) X Wx u n ks rn := by
  unfold Tab.fn0 at e
  simp only [Option.bind_eq_some_iff, Option.map_eq_some_iff] at e
  obtain ⟨d, e1, b, e2, rfl⟩ := e
  rcases h.fns x hx with ⟨I, d', b', h1, _, h2, h3, h4, h5, h6⟩ | ⟨I, mu, d', b', C, h1, _⟩
  · rw [h1] at e1
    cases e1
    rw [h4] at hu
    cases hu
    subst hP hw hb
    have W0 := fnR_def (Rg := fun _ _ _ => True) (lam := (t.cf k).lam) (r := r) F h2 (fun z => by rw [h3] at z; cases z)
    exact callOk_fn (S := S.with r) hK hm W0 hr hg tk (h6 n ks b e2 r)
  · rw [h1] at e1; cases e1
theorem fn1_ok (h : TabOk S base T t) {k : Nat} (F : ∀ j, j ≤ k + 1 → Facts S t.cf P w base T j) {x : Str} (hx : x ∈ T.fns) {u : Value} (hu : S.gv x = some u) {n : Nat} {ks : List Str} {rn : List W → List W → M W} (e : t.fn1 (t.cf (k + 1)) (t.cf k) x n ks = some rn) (r : Option (Addr × Addr × Nat × List V)) (X : Cx) (Wx : WX) (hK : X.K = S.K) (hm : X.mg = S.gv) (hP : X.prog = P) (hw : X.w = w) (hb : X.base = base) (hr : Room (k + 2) X.A) (hg : X.A.guards = some []) (tk : L2N.Takes X Wx) : CallOk (S.with r) X Wx u n ks rn := by
  unfold Tab.fn1 at e
  cases q : t.fn0 (t.cf (k + 1)) x n ks with
  | some f =>
    rw [q] at e
    cases e
    exact fn0_ok h F hx hu q r X Wx hK hm hP hw hb hr hg tk
  | none =>
    rw [q] at e
    simp only [Option.bind_eq_some_iff, Option.map_eq_some_iff] at e
    obtain ⟨c, e1, b, e2, rfl⟩ := e
    rcases h.fns x hx with ⟨I, d', b', _, h1, _⟩ | ⟨I, mu, d', b', C, _, h1, h2, h3, h4, h5, h6, h7⟩
    · rw [h1] at e1; cases e1
    · rw [h1] at e1
      cases e1
      rw [h4] at hu
      cases hu
      subst hP hw hb
      have W0 := fnR_def (Rg := fun _ _ _ => True) (k := k) (lam := (t.cf k).lam) (r := r) (fun j hj => F j (by omega)) h2 (fun z => by rw [h3] at z; cases z)
      exact callOk_mk (S := S.with r) hK hm h5 h4 W0 hr hg tk (h7 (n + 1) ks b e2 r)
theorem facts (h : TabOk S base T t) : ∀ k, Facts S t.cf P w base T k := by
  intro k
  induction k using Nat.strongRecOn with
  | ind k ih =>
    refine ⟨fun r => ?_, fun x hx => ?_, fun x hx => ?_, fun j e => ?_, fun x hx => ?_, h.blt, h.cls⟩
    · have z := h.tabs r
      exact ⟨(by rw [cf_att]; exact z.att), (by rw [cf_isi]; exact z.isi)⟩
    · have kp : ∃ u, S.gv x = some u ∧ PySem.W.keepIn S.K u = true := by
        rcases h.fns x hx with ⟨I, d', b', _, _, _, _, h4, h5, _⟩ | ⟨I, mu, d', b', C, _, _, _, _, h4, _, h6, _⟩
        · exact ⟨_, h4, h5⟩
        · exact ⟨_, h4, h6⟩
      obtain ⟨u, u1, u2⟩ := kp
      refine ⟨u, u1, u2, fun n ks rn e => ?_⟩
      match k, ih, e with
      | 0, ih, e => cases e
      | 1, ih, e => exact fun r X Wx a1 a2 a3 a4 a5 a6 a7 a8 => fn0_ok h (k := 0) (fun j hj => ih j (by omega)) hx u1 e r X Wx a1 a2 a3 a4 a5 a6 a7 a8
      | k + 2, ih, e => exact fun r X Wx a1 a2 a3 a4 a5 a6 a7 a8 => fn1_ok h (k := k) (fun j hj => ih j (by omega)) hx u1 e r X Wx a1 a2 a3 a4 a5 a6 a7 a8
    · obtain ⟨I, d, h1, h2, h3, h4, h5⟩ := h.hof x hx
      refine ⟨I.f, I.fd, I.ps, h3, h4, h5, fun m hh e => ?_⟩
      match k, ih, e with
      | 0, ih, e => cases e
      | 1, ih, e => cases e
      | k + 2, ih, e =>
        have e : t.hof (t.cf (k + 1)) x m = some hh := e
        unfold Tab.hof at e
        rw [h1] at e
        have e : (if m = d.ps then some fun lam => runF ((t.cf (k + 1)).withLam lam) d else none) = some hh := e
        split at e
        · rename_i em
          cases e
          refine ⟨k, rfl, by rw [em, h2.hps], ⟨fun r lam => ?_⟩⟩
          exact fnR_def (Rg := RegE (S.with r) P w base (k + 1) lam) (lam := lam) (r := r) (fun j hj => ih j (by omega)) h2 (fun _ _ _ _ z => z)
        · cases e
    · subst e
      rfl
    · obtain ⟨u, v, h1, h2, h3⟩ := h.cst x hx
      exact ⟨u, v, h1, h2, fun w e => h3 w (by rw [cf_gv] at e; exact e)⟩
end
end Pf

/-! part P29 -/
set_option Elab.async false
set_option linter.all false
set_option maxRecDepth 100000
set_option autoImplicit false
set_option maxHeartbeats 1000000
/-! How defs take values. -/
namespace Pf
open PySem PySem.Spec PyProof.Rows L2

def sel {α : Type} : List Nat → List α → Option (List α)
  | [], _ => some []
  | i :: is, l => (l[i]?).bind fun x => (sel is l).map (x :: ·)
theorem sel_vals {vs : List V} {us : List Value} (r : Vals vs us) : ∀ {is : List Nat} {xs : List V}, sel is vs = some xs → ∃ ys, sel is us = some ys ∧ Vals xs ys
  | [], xs, e => by cases e; exact ⟨[], rfl, .nil⟩
  | i :: is, xs, e => by
    simp only [sel, Option.bind_eq_some_iff, Option.map_eq_some_iff] at e
    obtain ⟨x, e1, zs, e2, rfl⟩ := e
    obtain ⟨ys, e3, r3⟩ := sel_vals r e2
    obtain ⟨u, e4, r4⟩ := Vals.get r e1
    exact ⟨u :: ys, by simp only [sel, e4, e3, Option.bind_some, Option.map_some], .cons r4 r3⟩
theorem sel_rel {S : Sta} {G : Wd} {vs : List V} {ws : List W} (r : RelWs S G vs ws) : ∀ {is : List Nat} {zs : List W}, sel is ws = some zs → ∃ xs, sel is vs = some xs ∧ RelWs S G xs zs
  | [], zs, e => by cases e; exact ⟨[], rfl, RelWs.nil⟩
  | i :: is, zs, e => by
    simp only [sel, Option.bind_eq_some_iff, Option.map_eq_some_iff] at e
    obtain ⟨x, e1, ys, e2, rfl⟩ := e
    obtain ⟨xs, e3, r3⟩ := sel_rel r e2
    obtain ⟨v, e4, r4⟩ := r.get e1
    exact ⟨v :: xs, by simp only [sel, e4, e3, Option.bind_some, Option.map_some], RelWs.cons r4 r3⟩
theorem bnd_sel {S : Sta} {fd : FuncData} {ps ks : List Str} {n : Nat} {is : List Nat} {dV : List V} {dU : List Value} {dW : List W} (hd : Vals dV dU) (hr : ∀ G, RelWs S G dV dW) (hlen : is.length = ps.length)
    (h : ∀ (s : Shared) (us ws ys : List Value), us.length = n → ws.length = ks.length → S.K.In s.heap → sel is (us ++ (ws ++ dU)) = some ys → BindsTo s fd ⟨us, ks.zip ws⟩ (ps.zip ys)) : Bnd S fd ps n ks (fun wv wz => sel is (wv ++ (wz ++ dW))) := by
  refine ⟨fun G vs zs us ws wv wz wr rv rz rwv rwz l1 l2 e => ?_⟩
  obtain ⟨xs, e1, r1⟩ := sel_rel (rwv.append (rwz.append (hr G))) e
  obtain ⟨ys, e2, r2⟩ := sel_vals (rv.append (rz.append hd)) e1
  have sl : ∀ {is : List Nat} {l ys : List Value}, sel is l = some ys → ys.length = is.length := by
    intro is
    induction is with
    | nil => intro l ys e; cases e; rfl
    | cons i is ih =>
      intro l ys e
      simp only [sel, Option.bind_eq_some_iff, Option.map_eq_some_iff] at e
      obtain ⟨x, _, zs, e2, rfl⟩ := e
      rw [List.length_cons, List.length_cons, ih e2]
  refine ⟨xs, ys, r2, r1, (sl e2).trans hlen, fun s X => h s us ws ys (by rw [← rv.length, rwv.length, l1]) (by rw [← rz.length, rwz.length, l2]) X e2⟩
end Pf

/-! part P30 -/
set_option Elab.async false
set_option linter.all false
set_option maxRecDepth 100000
set_option autoImplicit false
set_option maxHeartbeats 1000000
/-! What the top leaves, as far as the defs need it. -/
namespace Pf
open PySem PySem.Spec PyProof.Rows L2

def isTabO (o : Obj) : Bool := match o.cls with
  | .none => (match o.data with
    | .fields _ => true
    | _ => false)
  | _ => false
def isLstO (o : Obj) : Bool := match o.cls with
  | .type c => decide (c = "list")
  | _ => false
/-- without lists, without tables of code objects -/
def cutK (K : PySem.W.Frag) : PySem.W.Frag := K.filter fun p => !(isTabO p.2) && !(isLstO p.2)
/-- each member lies in the heap -/
def MemIn (K : PySem.W.Frag) (h : Heap) : Prop := ∀ p ∈ K, h.get? p.1 = some p.2
theorem lookup_mem {K : PySem.W.Frag} {a : Addr} {o : Obj} (h : K.lookup a = some o) : (a, o) ∈ K := by
  induction K with
  | nil => cases h
  | cons p K ih =>
    obtain ⟨b, x⟩ := p
    rw [List.lookup_cons] at h
    cases e : a == b with
    | true => rw [e] at h; cases h; rw [beq_iff_eq.mp e]; exact List.mem_cons_self
    | false => rw [e] at h; exact List.mem_cons_of_mem _ (ih h)
theorem MemIn.cut {K : PySem.W.Frag} {h : Heap} (x : MemIn K h) : (cutK K).In h := fun a o e => x _ (List.mem_filter.mp (lookup_mem e)).1
theorem MemIn.in_ {K : PySem.W.Frag} {h : Heap} (x : MemIn K h) : K.In h := fun a o e => x _ (lookup_mem e)
theorem cut_not {K : PySem.W.Frag} {a : Addr} {o : Obj} (e : (cutK K).lookup a = some o) : isTabO o = false ∧ isLstO o = false := by
  have z := (List.mem_filter.mp (lookup_mem e)).2
  simp only [Bool.and_eq_true, Bool.not_eq_true'] at z
  exact z
theorem frG_mem {g : Addr → Option Obj} {h : Heap} (e : ∀ a, g a = h.get? a) {as : List Addr} : MemIn (He.frG g as) h := fun p hp => by
  obtain ⟨a, _, h2⟩ := List.mem_filterMap.mp hp
  simp only [Option.map_eq_some_iff] at h2
  obtain ⟨o, h3, rfl⟩ := h2
  rw [← e, h3]
/-- a def's code object and its table -/
def tabOf (K : PySem.W.Frag) (p : Str × Option Str) : Addr × Addr := match K.lookup (He.fAd K p) with
  | some ⟨_, _, .func fd, _⟩ => (match fd.code with
    | .ref c => (match K.lookup c with
      | some ⟨_, _, .fields vs, _⟩ => (match (vs[11]? : Option Value) with
        | some (.ref P) => (c, P)
        | _ => (c, 0))
      | _ => (c, 0))
    | _ => (0, 0))
  | _ => (0, 0)
def codB (K : PySem.W.Frag) (p : Str × Option Str) : Bool := match K.lookup (He.fAd K p) with
  | some ⟨_, _, .func fd, _⟩ => (match fd.code with
    | .ref c => (match K.lookup c with
      | some ⟨.type cn, _, .fields vs, _⟩ => decide (cn = "code") && (match (vs[11]? : Option Value) with
        | some (.ref P) => decide (c ≠ P) && (match vs.getD 11 .none with
            | .ref P2 => decide (P2 = P)
            | _ => false) && (match vs.getD 18 .none with
            | .str _ _ => true
            | _ => false) && (match vs.getD 7 .none with
            | .int _ _ => true
            | _ => false) && (match vs.getD 9 .none with
            | .bool _ => true
            | _ => false) && (match vs.getD 10 .none with
            | .int _ _ => true
            | _ => false) && (match K.lookup P with
            | some ⟨.none, none, .fields ps, sl⟩ => decide (ps.size = 0) && decide (sl.size = 0)
            | _ => false) && decide (mainGlobals ≠ P)
        | _ => false)
      | _ => false)
    | _ => false)
  | _ => false
theorem codB_ok {K : PySem.W.Frag} {h : Heap} (X : K.In h) {p : Str × Option Str} (e : codB K p = true) : ∃ oc od fd osl, K.lookup (He.fAd K p) = some ⟨oc, od, .func fd, osl⟩ ∧ fd.code = .ref (tabOf K p).1 ∧ PySem.W.CodeHd h (tabOf K p).1 (tabOf K p).2 ∧ h.get? (tabOf K p).2 = some { cls := .none, data := .fields #[] } ∧ mainGlobals ≠ (tabOf K p).2 := by
  unfold codB at e
  unfold tabOf
  split at e
  · rename_i oc od fd osl q
    rw [q]
    try dsimp only
    split at e
    · rename_i c qc
      try rw [qc]
      try dsimp only
      split at e
      · rename_i cn d2 vs sl2 q2
        try rw [q2]
        try dsimp only
        simp only [Bool.and_eq_true, decide_eq_true_eq] at e
        obtain ⟨e1, e2⟩ := e
        split at e2
        · rename_i P q3
          try rw [q3]
          try dsimp only
          simp only [Bool.and_eq_true, decide_eq_true_eq] at e2
          obtain ⟨⟨⟨⟨⟨⟨⟨g1, g2⟩, g3⟩, g4⟩, g5⟩, g6⟩, g7⟩, g8⟩ := e2
          split at g2
          · rename_i P2 r2
            split at g3
            · rename_i f3 t3 r3
              split at g4
              · rename_i f4 t4 r4
                split at g5
                · rename_i f5 r5
                  split at g6
                  · rename_i f6 t6 r6
                    split at g7
                    · rename_i ps sl r7
                      simp only [Bool.and_eq_true, decide_eq_true_eq] at g7
                      subst e1
                      refine ⟨oc, od, fd, osl, rfl, qc, ⟨_, vs, f3, t3, f4, t4, f5, f6, t6, X _ _ q2, rfl, rfl, q3, ?_, r3, r4, r5, r6, g1⟩, ?_, g8⟩
                      · rw [r2]; have g2 : P2 = P := by simpa using g2
                        rw [g2]
                      · have z := X _ _ r7
                        rw [Array.eq_empty_of_size_eq_zero g7.1, Array.eq_empty_of_size_eq_zero g7.2] at z
                        exact z
                    · cases g7
                  · cases g6
                · cases g5
              · cases g4
            · cases g3
          · cases g2
        · cases e2
      · cases e
    · cases e
  · cases e
mutual
/-- a value that is written in K -/
def valB (K : PySem.W.Frag) : W → Value → Bool
  | .non, u => (match u with | .none => true | _ => false)
  | .bl b, u => (match u with | .bool c => b == c | _ => false)
  | .int i, u => (match u with | .int j _ => decide (i = j) | _ => false)
  | .str x, u => (match u with | .str y _ => decide (x = y) | _ => false)
  | .tup ws, u => (match u with
    | .ref a => (match K.lookup a with
      | some ⟨.type c, _, .seq its _, _⟩ => decide (c = "tuple") && (decide (its.size ≤ sizeLine) && valBs K ws its.toList)
      | _ => false)
    | _ => false)
  | .lst _, _ => false | .dic _ _, _ => false | .obj _ _ _, _ => false | .ref _, _ => false | .glo _, _ => false | .ty _, _ => false | .clo _ _, _ => false
def valBs (K : PySem.W.Frag) : List W → List Value → Bool
  | [], us => us.isEmpty
  | w :: ws, us => (match us with
    | [] => false
    | u :: us => valB K w u && valBs K ws us)
end
mutual
theorem valB_ok {K : PySem.W.Frag} : ∀ (w : W) (u : Value), valB K w u = true → ∃ v, RelV v u ∧ ∀ S G, S.K = K → RelW S G v w
  | .non, u, h => by
    unfold valB at h
    split at h
    · exact ⟨.non, rfl, fun S G _ => by simp only [RelW]⟩
    · cases h
  | .bl b, u, h => by
    unfold valB at h
    split at h
    · rename_i c
      have e : b = c := eq_of_beq h
      subst e
      exact ⟨.bl b, rfl, fun S G _ => by simp only [RelW]⟩
    · cases h
  | .int i, u, h => by
    unfold valB at h
    split at h
    · rename_i c t
      have e : i = c := of_decide_eq_true h
      subst e
      exact ⟨.int i, ⟨t, rfl⟩, fun S G _ => by simp only [RelW]⟩
    · cases h
  | .str i, u, h => by
    unfold valB at h
    split at h
    · rename_i c t
      have e : i = c := of_decide_eq_true h
      subst e
      exact ⟨.str i, ⟨t, rfl⟩, fun S G _ => by simp only [RelW]⟩
    · cases h
  | .tup ws, u, h => by
    unfold valB at h
    split at h
    · rename_i a
      split at h
      · rename_i c od its n osl q
        simp only [Bool.and_eq_true, decide_eq_true_eq] at h
        obtain ⟨h1, h2, h3⟩ := h
        obtain ⟨vs, r1, r2⟩ := valBs_ok ws its.toList h3
        refine ⟨.ref a, rfl, fun S G e => ?_⟩
        simp only [RelW]
        exact ⟨a, vs, rfl, .inr ⟨_, its, n, e ▸ q, congrArg Value.type h1, rfl, h2, r1⟩, r2 S G e⟩
      · cases h
    · cases h
  | .lst _, _, h => by simp [valB] at h
  | .dic _ _, _, h => by simp [valB] at h
  | .obj _ _ _, _, h => by simp [valB] at h
  | .ref _, _, h => by simp [valB] at h
  | .glo _, _, h => by simp [valB] at h
  | .ty _, _, h => by simp [valB] at h
  | .clo _ _, _, h => by simp [valB] at h
theorem valBs_ok {K : PySem.W.Frag} : ∀ (ws : List W) (us : List Value), valBs K ws us = true → ∃ vs, Vals vs us ∧ ∀ S G, S.K = K → RelWs S G vs ws
  | [], us, h => by
    unfold valBs at h
    rw [List.isEmpty_iff.mp h]
    exact ⟨[], .nil, fun _ _ _ => RelWs.nil⟩
  | w :: ws, us, h => by
    unfold valBs at h
    split at h
    · cases h
    · rename_i u us
      rw [Bool.and_eq_true] at h
      obtain ⟨v, r1, r2⟩ := valB_ok w u h.1
      obtain ⟨vs, r3, r4⟩ := valBs_ok ws us h.2
      exact ⟨v :: vs, .cons r1 r3, fun S G e => RelWs.cons (r2 S G e) (r4 S G e)⟩
end
/-- more that is looked at: the module's name x stands for w; at a path lies w; isinstance of a type in a class; a class as isinstance wants it -/
inductive Xa where
  | cst (x : Str) (w : W)
  | adr (p : PySem.W.Frag → Addr) (w : W)
  | kit (t c : Ty) (b : Bool)
  | clsx (x : Str)
def tyA (K : PySem.W.Frag) : Ty → Value
  | .ty n => .type n
  | .cl x => .ref (He.ga K x)
def Xa.ok (K : PySem.W.Frag) : Xa → Bool
  | .cst x w => (match PySem.W.nsIn K mainGlobals x with
    | some (some u) => valB K w u
    | _ => false)
  | .adr p w => valB K w (.ref (p K))
  | .kit t c b => decide (PySem.W.kitOne K (tyA K t) (tyA K c) = some b)
  | .clsx x => (He.Fa.cls x).ok K && (He.eqO (PySem.W.findIn K (.ref (He.ga K x)) "__class__") (some (some (.builtin "object.__class__"))) && (He.eqO (PySem.W.specialIn K (.builtin "object.__class__") "__get__") (some (some (.builtin "getset_descriptor.__get__"))) &&
      (decide (PySem.W.takesIn K (.builtin "object.__class__") = some true) && decide (PySem.W.mroIn K (He.ga K x) (.type "object") = some true))))
theorem clsx_ok {K : PySem.W.Frag} {x : Str} (h : (Xa.clsx x).ok K = true) : ClsX K (He.ga K x) := by
  obtain ⟨h1, h⟩ := Bool.and_eq_true_iff.mp h
  obtain ⟨h2, h⟩ := Bool.and_eq_true_iff.mp h
  obtain ⟨h3, h⟩ := Bool.and_eq_true_iff.mp h
  obtain ⟨h4, h5⟩ := Bool.and_eq_true_iff.mp h
  exact ⟨He.cls_ok h1, He.eqO_ok h2, He.eqO_ok h3, of_decide_eq_true h4, of_decide_eq_true h5⟩
theorem cst_ok {K : PySem.W.Frag} {h : Heap} {mg : Str → Option Value} (X : K.In h) (G : h.Ns mainGlobals mg) {x : Str} {w : W} (c : (Xa.cst x w).ok K = true) : ∃ u v, mg x = some u ∧ RelV v u ∧ ∀ S G, S.K = K → RelW S G v w := by
  have c : (match PySem.W.nsIn K mainGlobals x with
    | some (some u) => valB K w u
    | _ => false) = true := c
  cases e : PySem.W.nsIn K mainGlobals x with
  | none => rw [e] at c; cases c
  | some o =>
    rw [e] at c
    cases o with
    | none => cases c
    | some u =>
      obtain ⟨v, r1, r2⟩ := valB_ok w u c
      exact ⟨u, v, PySem.W.mg_of X G e, r1, r2⟩
/-- what is observed: facts, defs, defs that hold functions; all on what is kept -/
abbrev AlP : Type := He.AlD × Bool
def obsP (fa : List He.Fa) (fn : List He.DefD) (cs : List (Str × Option Str)) (xs : List Xa) (K : PySem.W.Frag) : AlP := (He.obsD fa fn (cutK K), (cs.all fun p => codB K p && decide (He.fAd (cutK K) p = He.fAd K p)) && (decide ((cs.map fun p => (tabOf K p).2).Nodup) && xs.all fun x => x.ok (cutK K)))
def valP (fn : List He.DefD) : AlP := (He.valD fn, true)
def SaysP (fa : List He.Fa) (fn : List He.DefD) (cs : List (Str × Option Str)) (xs : List Xa) (h : Heap) : Prop := ∃ K : PySem.W.Frag, MemIn K h ∧ obsP fa fn cs xs K = valP fn
def obsPG (n : Nat) (fa : List He.Fa) (fn : List He.DefD) (cs : List (Str × Option Str)) (xs : List Xa) (g : Addr → Option Obj) : AlP := obsP fa fn cs xs (He.frG g (He.asD g n))
def hookP (n : Nat) (fa : List He.Fa) (fn : List He.DefD) (cs : List (Str × Option Str)) (xs : List Xa) : PySem.W.Hook where
  α := AlP
  obs := fun s => obsPG n fa fn cs xs s.heap.get?
  val := fun _ => valP fn
  says := fun _ h => SaysP fa fn cs xs h
  of := fun _ _ e => ⟨_, frG_mem (fun _ => rfl), e⟩
  keeps := fun _ _ _ ⟨K, hK, c⟩ k => ⟨K, fun p hp => k _ _ (hK p hp), c⟩
theorem obsPG_eq {n : Nat} {fa : List He.Fa} {fn : List He.DefD} {cs : List (Str × Option Str)} {xs : List Xa} {g : Addr → Option Obj} {s : Shared} (h : ∀ a, g a = s.heap.get? a) : obsPG n fa fn cs xs g = (hookP n fa fn cs xs).obs s := by
  have e : g = s.heap.get? := funext h
  rw [e]
  rfl
end Pf

/-! part P31 -/
set_option Elab.async false
set_option linter.all false
set_option maxRecDepth 100000
set_option autoImplicit false
set_option maxHeartbeats 1000000
/-! The call of the law. -/
namespace Pf
open PySem PySem.Spec PyProof.Rows L2

section
variable {S : Sta} {P : Program} {w : World} {mb : Str → Option Value} {k : Nat} {fa a : Addr} {cs : List (Addr × Addr)} {fd : FuncData} {x : Str} {rn : List W → M W} {s₁ : Shared} {vs : List Value} {ns : List Int}
/-- the heap at the law's entry: the script, the tables -/
def entryH (a : Addr) (ts : List Addr) (vs : List Value) (ns : List Int) : Hp := fun b =>
  if b = a then some (.frz { cls := .type "list", data := .seq vs.toArray } (.lst (ns.map V.int))) else if b ∈ ts then some (.tbl #[]) else none
theorem entry_cases {a b : Addr} {ts : List Addr} {vs : List Value} {ns : List Int} {u : HO} (h : entryH a ts vs ns b = some u) : (b = a ∧ u = .frz { cls := .type "list", data := .seq vs.toArray } (.lst (ns.map V.int))) ∨ (b ∈ ts ∧ u = .tbl #[]) := by
  unfold entryH at h
  by_cases e : b = a
  · rw [if_pos e] at h; exact .inl ⟨e, (Option.some.inj h).symm⟩
  · rw [if_neg e] at h
    by_cases e2 : b ∈ ts
    · rw [if_pos e2] at h; exact .inr ⟨e2, (Option.some.inj h).symm⟩
    · rw [if_neg e2] at h; cases h
theorem ints_rel {G : Wd} : ∀ {ns : List Int}, RelWs S G (ns.map V.int) (ns.map W.int)
  | [] => RelWs.nil
  | n :: ns => RelWs.cons (by simp only [RelW]) ints_rel
theorem law_callW (KX : S.K.In s₁.heap) (noL : ∀ b o, S.K.lookup b = some o → isTabO o = false ∧ isLstO o = false) (hns : s₁.heap.Ns mainGlobals S.gv) (hb : s₁.heap.Ns builtinsNs mb) (hbb : ∀ x : Str, x ≠ "__name__" → mb x = bootBuiltins x) (hlim : s₁.heap.NoLimit) (hg : s₁.gens = #[])
    (hT : ∀ p ∈ cs, s₁.heap.get? p.2 = some { cls := .none, data := .fields #[] }) (C : ∀ p ∈ cs, PySem.W.CodeHd s₁.heap p.1 p.2)
    (hbm : ∃ (bm : Addr) (ob : Obj), S.gv "__builtins__" = some (.ref bm) ∧ bm ≠ builtinsNs ∧ s₁.heap.get? bm = some ob ∧ ob.cls = .type "module" ∧ ob.dict = some builtinsNs ∧ ob.data = .plain)
    (ha : s₁.heap.get? a = some { cls := .type "list", data := .seq vs.toArray }) (hi : IntsAre vs ns) (hl : ns.length ≤ sizeLine) (hr : Room k callerA)
    (T1 : ∀ q ∈ S.T, q.1 ∈ cs.map (·.2)) (T2 : ∀ p ∈ cs, ∃ q, (p.2, q) ∈ S.T)
    (F : ∀ base : Heap, S.K.In base → base.Ns mainGlobals S.gv → (∀ p ∈ cs, LamX.TabB base S.gv p.1 p.2) → FnW S P w base k fa fd [x] rn) (hbind : ∀ (s : Shared) (u : Value), BindsTo s fd ⟨[u], []⟩ [(x, u)])
    (res : ∃ st, rn [.lst (ns.map W.int)] [] = .ok (.bl true) st) :
    codeAny (model P w) callerA (.call (.ref fa) ⟨[.ref a], []⟩) (fun r s' => r = .ok (.ret (.bool true)) ∧ OldK s₁.heap s'.heap ∧ s'.os = s₁.os ∧ AllBare s'.gens) s₁ := by
  have rv := vals_ints hi
  have isT : ∀ b : Addr, b ∈ cs.map (·.2) → s₁.heap.get? b = some { cls := .none, data := .fields #[] } := fun b hb => by
    obtain ⟨p, hp, e⟩ := List.mem_map.mp hb
    rw [← e]; exact hT p hp
  have aT : a ∉ cs.map (·.2) := fun z => by
    have q := isT a z
    rw [ha] at q
    cases q
  obtain ⟨H, eH⟩ : ∃ H, H = entryH a (cs.map (·.2)) vs ns := ⟨_, rfl⟩
  have Ha : H a = some (.frz { cls := .type "list", data := .seq vs.toArray } (.lst (ns.map V.int))) := by rw [eH]; exact if_pos rfl
  have Ht : ∀ p ∈ cs, H p.2 = some (.tbl #[]) := fun p hp => by
    have h1 : p.2 ∈ cs.map (·.2) := List.mem_map.mpr ⟨p, hp, rfl⟩
    rw [eH]
    unfold entryH
    rw [if_neg (show ¬ p.2 = a from fun z => aT (by rw [← z]; exact h1)), if_pos h1]
  have Hc : ∀ b u, H b = some u → (b = a ∧ u = .frz { cls := .type "list", data := .seq vs.toArray } (.lst (ns.map V.int))) ∨ (b ∈ cs.map (·.2) ∧ u = .tbl #[]) := fun b u e => entry_cases (by rw [← eH]; exact e)
  clear eH
  -- an object that is neither a list nor a table is in the base
  have off : ∀ {b : Addr} {o : Obj}, s₁.heap.get? b = some o → isTabO o = false → isLstO o = false → H b = none := fun {b o} e h1 h2 => by
    cases q : H b with
    | none => rfl
    | some u =>
      rcases Hc b u q with ⟨rfl, _⟩ | ⟨hb, _⟩
      · rw [ha] at e; cases e; cases h2
      · rw [isT b hb] at e; cases e; cases h1
  have base_of : ∀ {b : Addr} {o : Obj}, s₁.heap.get? b = some o → H b = none → (hidT s₁.heap H).get? b = some o := fun e n => hidT_get e n
  have dk : ∀ {b : Addr} {o : Obj} {es : Array DictEntry} {ep : Nat}, s₁.heap.get? b = some o → o.data = .dict es ep → H b = none := fun {b o es ep} e d => by
    cases q : H b with
    | none => rfl
    | some u =>
      rcases Hc b u q with ⟨rfl, _⟩ | ⟨hb, _⟩
      · rw [ha] at e; cases e; cases d
      · rw [isT b hb] at e; cases e; cases d
  have nsK : ∀ {b : Addr} {m : Str → Option Value}, s₁.heap.Ns b m → (hidT s₁.heap H).Ns b m := fun {b m} ⟨o, es, ep, e, d, r⟩ => ⟨o, es, ep, base_of e (dk e d), d, r⟩
  have hKb : S.K.In (hidT s₁.heap H) := fun b o e => base_of (KX b o e) (off (KX b o e) (noL b o e).1 (noL b o e).2)
  have hM : L2.Mod S.K S.gv (hidT s₁.heap H) := ⟨hKb, nsK hns, ⟨mb, nsK hb, hbb⟩, let ⟨mc, h1, h2⟩ := hlim; ⟨mc, nsK h1, h2⟩⟩
  have hok : HOk P w H s₁.heap := fun b u e => by
    rcases Hc b u e with ⟨rfl, rfl⟩ | ⟨hb, rfl⟩
    · exact ⟨ha, by rw [List.length_map]; exact hl, vs, _, rv, ha⟩
    · exact isT b hb
  have TB : ∀ p ∈ cs, LamX.TabB (hidT s₁.heap H) S.gv p.1 p.2 := fun p hp => by
    have hTp := hT p hp
    refine ⟨?_, ?_, fun z => ?_⟩
    · obtain ⟨o, us, file, tf, flags, tg, inF, text, tt, e1, r1, r2, r3⟩ := C p hp
      refine ⟨o, us, file, tf, flags, tg, inF, text, tt, base_of e1 (off e1 ?_ ?_), r1, r2, r3⟩
      · unfold isTabO; rw [r1]
      · unfold isLstO; rw [r1]; decide
    · obtain ⟨bm, ob, b1, b2, b3, b4, b5, b6⟩ := hbm
      refine ⟨bm, ob, b1, b2, fun q => ?_, fun q => ?_, base_of b3 (off b3 ?_ ?_), b4, b5, b6⟩
      · obtain ⟨o, es, ep, e, hd, _⟩ := hns
        rw [q, e] at b3
        cases b3
        rw [hd] at b6
        cases b6
      · rw [q, hTp] at b3
        cases b3
        cases b6
      · unfold isTabO; rw [b4]
      · unfold isLstO; rw [b4]; decide
    · obtain ⟨o, es, ep, e, hd, _⟩ := hns
      rw [z, hTp] at e
      cases e
      cases hd
  have e0 : Env0 P w S.K S.gv (hidT s₁.heap H) callerA [] s₁ H := ⟨rfl, hM, fun b o e => of_hidT e, Nat.le_of_eq (hidT_size _ _), trivial, fun b hb => absurd (show b ∈ ([] : List Addr) from hb) (by simp), hok, .of_eq hg⟩
  have rst : RelSt S ⟨0, fun _ => 0, H⟩ [] := by
    refine ⟨rfl, fun i j h => absurd (show i < 0 from h) (Nat.not_lt_zero i), fun i c e => by simp at e, ?_, fun b ps e => ?_⟩
    · intro q hq
      obtain ⟨p, hp, ep⟩ := List.mem_map.mp (T1 q hq)
      exact ⟨#[], by rw [← ep]; exact Ht p hp, trivial, fun pos cv z => by cases z⟩
    · rcases Hc b _ e with ⟨_, z⟩ | ⟨hb, _⟩
      · cases z
      · obtain ⟨p, hp, ep⟩ := List.mem_map.mp hb
        rw [← ep]; exact T2 p hp
  have rel : RelWs S ⟨0, fun _ => 0, H⟩ [V.ref a] [.lst (ns.map W.int)] := RelWs.cons (by
    simp only [RelW]
    exact ⟨a, _, _, rfl, Ha, ints_rel⟩) RelWs.nil
  obtain ⟨st', er⟩ := res
  have sp : spW S rn [V.ref a] H (fun v _ => v = .bl true) (fun _ _ _ => False) := ⟨⟨0, fun _ => 0, H⟩, [], _, rfl, rst, rel, by
    rw [er]
    intro G' g rs v r
    simpa only [RelW] using r⟩
  refine codeAny_mono ((F _ hKb (nsK hns) TB).run callerA [] s₁ H ⟨[.ref a], []⟩ [.ref a] [.ref a] _ _ hr rfl e0 (hbind s₁ (.ref a)) (.cons rfl .nil) rfl trivial sp) fun r s' h => ?_
  cases r with
  | error e =>
    obtain ⟨_, _, _, _, _, _, _, _, _, _, _, _, z⟩ := h
    exact z.elim
  | ok fl =>
    cases fl with
    | next => exact False.elim h
    | brk => exact False.elim h
    | cont => exact False.elim h
    | ret u =>
      obtain ⟨v, H', os, bare, un, hok', r', q⟩ := h
      have q' : v = .bl true := q
      subst q'
      obtain rfl : u = Value.bool true := r'
      have key : ∀ b o, b ∉ cs.map (·.2) → s₁.heap.get? b = some o → s'.heap.get? b = some o := fun b o nb e => by
        cases q : H b with
        | none => exact un.keep b o e q (by intro z; exact absurd (show b ∈ ([] : List Addr) from z) (by simp)) (by simp)
        | some u =>
          rcases Hc b u q with ⟨_, z⟩ | ⟨z, _⟩
          · subst z
            have z2 := un.frzs b _ _ q
            have e1 := (hok b _ q).1
            have e2 := (hok' b _ z2).1
            rw [e] at e1; cases e1
            exact e2
          · exact absurd z nb
      have grown : ∀ p ∈ cs, ∃ more : Array Value, s'.heap.get? p.2 = some { cls := .none, data := .fields more } := fun p hp => by
        obtain ⟨more, z⟩ := un.tbls p.2 #[] (Ht p hp)
        exact ⟨_, hok' p.2 _ z⟩
      refine ⟨rfl, ⟨fun b o e => ?_, fun b o e => ?_⟩, os, bare⟩
      · by_cases hb : b ∈ cs.map (·.2)
        · obtain ⟨p, hp, ep⟩ := List.mem_map.mp hb
          obtain ⟨more, hm⟩ := grown p hp
          rw [← ep] at e ⊢
          rw [hT p hp] at e
          cases e
          exact .inr (.inl ⟨((C p hp).tab (hT p hp)).isCodeTable, rfl, #[], more, rfl, by rw [Array.empty_append]; exact hm⟩)
        · exact .inl (key b o hb e)
      · by_cases hb : b ∈ cs.map (·.2)
        · obtain ⟨p, hp, ep⟩ := List.mem_map.mp hb
          obtain ⟨more, hm⟩ := grown p hp
          rw [← ep]
          exact ⟨_, hm⟩
        · exact ⟨o, key b o hb e⟩
end
end Pf

/-! part P32 -/
set_option Elab.async false
set_option linter.all false
set_option maxRecDepth 100000
set_option autoImplicit false
set_option maxHeartbeats 1000000
/-! The law's walk over the head. -/
namespace Pf
open PySem PySem.Spec PyProof.Rows L2

/-- what a law must bring at the head's heap -/
structure LawAt (l : PySem.W.OpenLaw) (w : World) (k n : Nat) (x : Str) (mg : Str → Option Value) (fa : Addr) (h : Heap) (S : Sta) (tabs : List (Addr × Addr)) (fd : FuncData) (rn : List W → M W) : Prop where
  gv : S.gv = mg
  KX : S.K.In h
  noL : ∀ b o, S.K.lookup b = some o → isTabO o = false ∧ isLstO o = false
  hT : ∀ p ∈ tabs, h.get? p.2 = some { cls := .none, data := .fields #[] }
  C : ∀ p ∈ tabs, PySem.W.CodeHd h p.1 p.2
  T1 : ∀ q ∈ S.T, q.1 ∈ tabs.map (·.2)
  T2 : ∀ p ∈ tabs, ∃ q, (p.2, q) ∈ S.T
  hbind : ∀ (s : Shared) (u : Value), BindsTo s fd ⟨[u], []⟩ [(x, u)]
  F : ∀ base : Heap, S.K.In base → base.Ns mainGlobals S.gv → (∀ p ∈ tabs, LamX.TabB base S.gv p.1 p.2) → FnW S l.prog w base k fa fd [x] rn
  res : ∀ ns : List Int, ns.length ≤ n → (∀ z ∈ ns, Builtin.Int.intBits z ≤ 1048576) → ∃ st, rn [.lst (ns.map W.int)] [] = .ok (.bl true) st
theorem walkW {l : PySem.W.OpenLaw} {n k : Nat} {q : Program} {loose : List Str} {XP : (Str → Option Value) → Heap → Prop} {YP : World → Heap → Prop} {d : DefRec} {x : Str}
    (hn : l.most = some n) (hn2 : n ≤ sizeLine) (hdf : d.params.defaults = []) (hr : Room k callerA)
    (F : ∀ (w : World) (mg : Str → Option Value) (fa : Addr) (h : Heap), YP w h → h.Ns mainGlobals mg → mg d.name = some (.ref fa) → ∃ S tabs fd rn, LawAt l w k n x mg fa h S tabs fd rn) :
    PySem.W.WalkO q loose XP YP l.row.toRowW d [] (fun f vs => PySem.call f vs) := by
  refine Att.attach_callB hn hdf fun w s₀ s₁ mg mb fa o pm cd doc a vs ns G Y ho hd hcd hmg hobj hints hlen hbits hg => ?_
  obtain ⟨S, tabs, fd, rn, A⟩ := F w mg fa _ Y G.T.g hmg
  have e := A.gv
  subst e
  exact law_callW A.KX A.noL G.T.g G.T.b G.T.builtins G.T.nolimit hg A.hT A.C G.T.bmain hobj hints (Nat.le_trans hlen hn2) hr A.T1 A.T2 A.F A.hbind (A.res ns hlen hbits)

/-! ### defs by the head -/
/-- a def of the head as the table wants it -/
theorem defOk_of {S : Sta} {base : Heap} {T : Txt} {x qual : Str} {params : Arguments} {body : List Stmt} {scope : Scope} {dvs : List V} {kws : List (Str × V)} {f : Addr} {fd : FuncData} (D : FunD S.K x qual params body scope dvs kws f fd) {N ps cel : List Str} {ln : Option Nat} {lb : Bool} {m n : Nat} {d : Fd}
    (SC : FnScope N ps scope) (hN : N.length = d.slots) (hps : ps.length = d.ps) (tx : sSs ⟨T, m, N, ln, lb, cel, d.mu, scope⟩ n body = some d.body)
    (mkl : ∀ l, ln = some l → qual ++ ".<locals>." ++ "<lambda>" = S.lq l ∧ ∃ c P, fd.code = .ref c ∧ LamX.TabB base S.gv c P ∧ (P, S.lq l) ∈ S.T ∧ ∀ p ∈ S.T, p.1 = P → p.2 = S.lq l) :
    ∃ I : DefI, I.f = f ∧ I.fd = fd ∧ I.ps = ps ∧ I.lb = lb ∧ DefOk S base T I d := by
  obtain ⟨oc, od, dV, kV, doc, pm, an, cdv, ct, osl, rfl, lk, hcd, _, _⟩ := D.ex
  exact ⟨⟨f, x, qual, params, body, scope, dV, kV, doc, pm, cdv, ct, oc, an, od, osl, N, ps, cel, ln, lb, m, n⟩, rfl, rfl, rfl, rfl, ⟨lk, hcd, SC, hN, hps, tx, mkl⟩⟩
end Pf

/-! part P33 -/
set_option Elab.async false
set_option linter.all false
set_option maxRecDepth 100000
set_option autoImplicit false
set_option maxHeartbeats 1000000
/-! A law's table, and what is left to be shown of it. -/
namespace Pf
open PySem PySem.Spec PyProof.Rows L2

/-- one def -/
structure Ent where
  x : Str
  d : He.DefD
  N : List Str
  ps : List Str
  cel : List Str
  ln : Option Nat
  lb : Bool
  m : Nat
  n : Nat
  fd : Fd
  bd : Nat → List Str → Option (List W → List W → Option (List W))
structure Lw where
  T : Txt
  fs : List Ent
  cl : List (Bool × Ent)
  ho : List Ent
  law : Ent
  lqs : List He.DefD
  cst : List (Str × W)
  kd : List ((PySem.W.Frag → Addr) × W)
  att : List (Str × Str)
  isi : List ((Ty × Ty) × Bool)
  fuel : Nat
def lqOf (d : He.DefD) : Str := d.qual ++ ".<locals>." ++ "<lambda>"
def Lw.es (L : Lw) : List Ent := L.law :: (L.fs ++ L.cl.map (·.2) ++ L.ho)
def Lw.fn (L : Lw) : List He.DefD := L.es.map (·.d)
def Lw.fa (L : Lw) : List He.Fa := L.fs.map (fun e => .glo e.x) ++ L.cl.flatMap (fun c => [.glo c.2.x, .mkr c.2.x]) ++ L.ho.map (fun e => .glo e.x) ++ L.T.blt.map .free ++ L.T.cls.map .glo ++
  L.att.flatMap (fun p => [.glo p.1, .cls p.1, .noat p.1 p.2]) ++ [.glo "law", .glo "__builtins__"]
def Lw.cs (L : Lw) : List (Str × Option Str) := L.lqs.map (·.at_)
def tyN : Ty → List Str
  | .ty _ => []
  | .cl x => [x]
def Lw.xs (L : Lw) : List Xa := L.cst.map (fun p => .cst p.1 p.2) ++ L.kd.map (fun p => .adr p.1 p.2) ++ L.isi.flatMap (fun q => .kit q.1.1 q.1.2 q.2 :: (tyN q.1.1).map .clsx)
def Lw.tab (L : Lw) : Tab := ⟨L.fs.map fun e => (e.x, e.fd, e.bd), L.cl.map fun c => (c.2.x, c.1, c.2.fd, c.2.bd), L.ho.map fun e => (e.x, e.fd), fun x => L.cst.lookup x, fun a b => L.isi.lookup (a, b), fun c f => decide ((c, f) ∈ L.att), fun _ => none, L.fuel⟩

/-- plain parameters -/
def plainB (m : Nat) (n : Nat) (ks : List Str) : Option (List W → List W → Option (List W)) := if n = m ∧ ks = [] then some (fun ws _ => some ws) else none
def plainD (d : He.DefD) (ps : List Str) : Prop := d.params = ⟨[], d.params.args, none, [], [], none, []⟩ ∧ d.params.args.map (·.arg) = ps ∧ ps.Nodup ∧ d.dfl = [] ∧ d.kwd = []
/-- what is to be shown of a def -/
structure Ent.Good (L : Lw) (e : Ent) : Prop where
  SC : FnScope e.N e.ps e.d.scope
  hN : e.N.length = e.fd.slots
  hps : e.ps.length = e.fd.ps
  tx : sSs ⟨L.T, e.m, e.N, e.ln, e.lb, e.cel, e.fd.mu, e.d.scope⟩ e.n e.d.body = some e.fd.body
  lq : ∀ l, e.ln = some l → L.lqs[l]? = some e.d
  bnd : ∀ (K : PySem.W.Frag), (∀ x ∈ L.xs, x.ok K = true) → ∀ fd, FunD K e.d.name e.d.qual e.d.params e.d.body e.d.scope (e.d.dvs K) (e.d.kws K) (He.fAd K e.d.at_) fd → ∀ n ks g, e.bd n ks = some g → ∀ S : Sta, S.K = K → Bnd S fd e.ps n ks g
structure Lw.Good (L : Lw) : Prop where
  es : ∀ e ∈ L.es, e.Good L
  hf : L.T.fns = L.fs.map (·.x) ++ L.cl.map (·.2.x)
  hh : L.T.hof = L.ho.map (·.x)
  hc : L.T.cst = L.cst.map (·.1)
  nf : L.T.fns.Nodup
  nh : L.T.hof.Nodup
  nc : L.T.cst.Nodup
  ic : ∀ q ∈ L.isi, (∀ x ∈ tyN q.1.1, x ∈ L.T.cls) ∧ ∀ x ∈ tyN q.1.2, x ∈ L.T.cls
  af : ∀ e ∈ L.fs, e.d.at_ = (e.x, none) ∧ e.lb = false
  ac : ∀ c ∈ L.cl, c.2.d.at_ = (c.2.x, some ("__init__" : Str)) ∧ c.2.lb = false
  ah : ∀ e ∈ L.ho, e.d.at_ = (e.x, none) ∧ plainD e.d e.ps
  al : L.law.d.at_ = (("law" : Str), none) ∧ L.law.lb = false ∧ plainD L.law.d L.law.ps ∧ L.law.ps.length = 1
theorem vals_nil {us : List Value} (h : Vals ([] : List V) us) : us = [] := List.length_eq_zero_iff.mp h.length.symm
theorem plain_binds {K : PySem.W.Frag} {d : He.DefD} {ps : List Str} {f : Addr} {fd : FuncData} (p : plainD d ps) (D : FunD K d.name d.qual d.params d.body d.scope (d.dvs K) (d.kws K) f fd) (s : Shared) (us : List Value) (hl : us.length = ps.length) : BindsTo s fd ⟨us, []⟩ (ps.zip us) := by
  obtain ⟨p1, p2, p3, p4, p5⟩ := p
  have e1 : d.dvs K = [] := by unfold He.DefD.dvs; rw [p4]; rfl
  rw [e1] at D
  refine D.bindsA (ps := ps) (fun kV doc pm an cdv ct us hl => ?_) s us hl
  have z := bind_plain (fd := PySem.W.fnOf d.name d.qual d.params d.body d.scope .none kV doc pm an cdv ct) (as := d.params.args) (us := us) p1 rfl (by rw [p2]; exact p3) (by rw [p2]; exact hl)
  rw [p2] at z
  exact z
theorem bnd_plain {K : PySem.W.Frag} {d : He.DefD} {ps : List Str} {m : Nat} (p : plainD d ps) (hm : m = ps.length) (fd : FuncData) {f : Addr} (D : FunD K d.name d.qual d.params d.body d.scope (d.dvs K) (d.kws K) f fd) (n : Nat) (ks : List Str) (g : List W → List W → Option (List W)) (e : plainB m n ks = some g) (S : Sta) (hK : S.K = K) : Bnd S fd ps n ks g := by
  unfold plainB at e
  split at e
  · rename_i h
    obtain ⟨rfl, rfl⟩ := h
    cases e
    refine ⟨fun G vs zs us ws wv wz wr rv rz rwv rwz l1 l2 e => ?_⟩
    cases e
    have hl : us.length = ps.length := by rw [← rv.length, rwv.length, l1, hm]
    refine ⟨vs, us, rv, rwv, hl, fun s _ => ?_⟩
    have e0 : ([] : List Str).zip ws = [] := rfl
    rw [e0]
    exact plain_binds p D s us hl
  · cases e
theorem mapLook {α β : Type} {k : α → Str} {v : α → β} : ∀ {l : List α}, (l.map k).Nodup → ∀ a ∈ l, (l.map fun a => (k a, v a)).lookup (k a) = some (v a)
  | [], _, a, h => nomatch h
  | b :: l, nd, a, h => by
    rw [List.map_cons, List.nodup_cons] at nd
    rw [List.map_cons, List.lookup_cons]
    rcases List.mem_cons.mp h with e | e
    · subst e; rw [beq_self_eq_true]
    · have ne : (k a == k b) = false := beq_eq_false_iff_ne.mpr fun z => nd.1 (List.mem_map.mpr ⟨a, e, z⟩)
      rw [ne]
      exact mapLook nd.2 a e
theorem mapLookN {α β : Type} {k : α → Str} {v : α → β} {x : Str} : ∀ {l : List α}, x ∉ l.map k → (l.map fun a => (k a, v a)).lookup x = none
  | [], _ => rfl
  | b :: l, h => by
    rw [List.map_cons, List.mem_cons, not_or] at h
    rw [List.map_cons, List.lookup_cons, beq_eq_false_iff_ne.mpr h.1]
    exact mapLookN h.2
theorem look_mem {α : Type} [BEq α] [LawfulBEq α] {β : Type} {l : List (α × β)} {a : α} {b : β} (h : l.lookup a = some b) : (a, b) ∈ l := by
  induction l with
  | nil => cases h
  | cons p l ih =>
    obtain ⟨c, d⟩ := p
    rw [List.lookup_cons] at h
    cases e : a == c with
    | true => rw [e] at h; cases h; rw [beq_iff_eq.mp e]; exact List.mem_cons_self
    | false => rw [e] at h; exact List.mem_cons_of_mem _ (ih h)
end Pf

/-! part P34 -/
set_option Elab.async false
set_option linter.all false
set_option maxRecDepth 100000
set_option autoImplicit false
set_option maxHeartbeats 1000000
/-! From the head's heap to the law. -/
namespace Pf
open PySem PySem.Spec PyProof.Rows L2

theorem fact_mem {fa : List He.Fa} {fn : List He.DefD} {K : PySem.W.Frag} (c : He.SaysD fa fn K) {f : He.Fa} (h : f ∈ fa) : f.ok K = true := by
  obtain ⟨i, hi⟩ := List.mem_iff_getElem?.mp h
  exact c.fact i hi
theorem def_mem {fa : List He.Fa} {fn : List He.DefD} {K : PySem.W.Frag} (c : He.SaysD fa fn K) {d : He.DefD} (h : d ∈ fn) : ∃ fd, FunD K d.name d.qual d.params d.body d.scope (d.dvs K) (d.kws K) (He.fAd K d.at_) fd := by
  obtain ⟨i, hi⟩ := List.mem_iff_getElem?.mp h
  exact c.def_ i hi
theorem nodup_inj {α β : Type} {f : α → β} : ∀ {l : List α}, (l.map f).Nodup → ∀ a ∈ l, ∀ b ∈ l, f a = f b → a = b
  | [], _, a, h, _, _, _ => nomatch h
  | x :: l, nd, a, ha, b, hb, e => by
    rw [List.map_cons, List.nodup_cons] at nd
    rcases List.mem_cons.mp ha with ea | ha' <;> rcases List.mem_cons.mp hb with eb | hb'
    · rw [ea, eb]
    · subst ea; exact absurd (List.mem_map.mpr ⟨b, hb', e.symm⟩) nd.1
    · subst eb; exact absurd (List.mem_map.mpr ⟨a, ha', e⟩) nd.1
    · exact nodup_inj nd.2 a ha' b hb' e
/-- what is known at the head's heap -/
structure HeadAt (L : Lw) (K0 : PySem.W.Frag) (h : Heap) (mg : Str → Option Value) : Prop where
  mem : MemIn K0 h
  ns : h.Ns mainGlobals mg
  c : He.SaysD L.fa L.fn (cutK K0)
  cod : ∀ p ∈ L.cs, codB K0 p = true ∧ He.fAd (cutK K0) p = He.fAd K0 p
  nd : (L.cs.map fun p => (tabOf K0 p).2).Nodup
  xs : ∀ x ∈ L.xs, x.ok (cutK K0) = true
theorem headAt {L : Lw} {h : Heap} {mg : Str → Option Value} (Y : SaysP L.fa L.fn L.cs L.xs h) (ns : h.Ns mainGlobals mg) : ∃ K0, HeadAt L K0 h mg := by
  obtain ⟨K0, hK, e⟩ := Y
  have e1 : He.obsD L.fa L.fn (cutK K0) = He.valD L.fn := congrArg (fun z : AlP => z.1) e
  have e2 : ((L.cs.all fun p => codB K0 p && decide (He.fAd (cutK K0) p = He.fAd K0 p)) && (decide ((L.cs.map fun p => (tabOf K0 p).2).Nodup) && L.xs.all fun x => x.ok (cutK K0))) = true := congrArg (fun z : AlP => z.2) e
  simp only [Bool.and_eq_true, List.all_eq_true, decide_eq_true_eq] at e2
  exact ⟨K0, hK, ns, e1, e2.1, e2.2.1, e2.2.2⟩
def staOf (L : Lw) (K0 : PySem.W.Frag) (mg : Str → Option Value) : Sta := ⟨cutK K0, mg, none, fun l => (L.lqs[l]?).elim ("x" : Str) lqOf, L.lqs.map fun d => ((tabOf K0 d.at_).2, lqOf d)⟩
def tabsOf (L : Lw) (K0 : PySem.W.Frag) : List (Addr × Addr) := L.lqs.map fun d => tabOf K0 d.at_
section
variable {L : Lw} {K0 : PySem.W.Frag} {h : Heap} {mg : Str → Option Value} {base : Heap}
theorem HeadAt.glo (A : HeadAt L K0 h mg) {x : Str} (hx : He.Fa.glo x ∈ L.fa) : mg x = some (.ref (He.ga (cutK K0) x)) := He.glo_ok A.mem.cut A.ns (fact_mem A.c hx)
theorem fa_fs {x : Str} (hx : x ∈ L.fs.map (·.x)) : He.Fa.glo x ∈ L.fa := by
  obtain ⟨e, h1, rfl⟩ := List.mem_map.mp hx
  simp only [Lw.fa, List.mem_append, List.mem_map, List.mem_flatMap]
  exact .inl (.inl (.inl (.inl (.inl (.inl ⟨e, h1, rfl⟩)))))
theorem fa_cl {c : Bool × Ent} (hx : c ∈ L.cl) : He.Fa.glo c.2.x ∈ L.fa ∧ He.Fa.mkr c.2.x ∈ L.fa := by
  simp only [Lw.fa, List.mem_append, List.mem_map, List.mem_flatMap]
  exact ⟨.inl (.inl (.inl (.inl (.inl (.inr ⟨c, hx, by simp⟩))))), .inl (.inl (.inl (.inl (.inl (.inr ⟨c, hx, by simp⟩)))))⟩
theorem fa_ho {e : Ent} (hx : e ∈ L.ho) : He.Fa.glo e.x ∈ L.fa := by
  simp only [Lw.fa, List.mem_append, List.mem_map, List.mem_flatMap]
  exact .inl (.inl (.inl (.inl (.inr ⟨e, hx, rfl⟩))))
theorem fa_blt {x : Str} (hx : x ∈ L.T.blt) : He.Fa.free x ∈ L.fa := by
  simp only [Lw.fa, List.mem_append, List.mem_map, List.mem_flatMap]
  exact .inl (.inl (.inl (.inr ⟨x, hx, rfl⟩)))
theorem fa_cls {x : Str} (hx : x ∈ L.T.cls) : He.Fa.glo x ∈ L.fa := by
  simp only [Lw.fa, List.mem_append, List.mem_map, List.mem_flatMap]
  exact .inl (.inl (.inr ⟨x, hx, rfl⟩))
theorem fa_att {p : Str × Str} (hx : p ∈ L.att) : He.Fa.glo p.1 ∈ L.fa ∧ He.Fa.cls p.1 ∈ L.fa ∧ He.Fa.noat p.1 p.2 ∈ L.fa := by
  simp only [Lw.fa, List.mem_append, List.mem_map, List.mem_flatMap]
  exact ⟨.inl (.inr ⟨p, hx, by simp⟩), .inl (.inr ⟨p, hx, by simp⟩), .inl (.inr ⟨p, hx, by simp⟩)⟩
theorem fa_law : He.Fa.glo "law" ∈ L.fa := by
  simp only [Lw.fa, List.mem_append]
  exact .inr (by simp)
/-- a def of the table, where it lies -/
theorem defAt (G : L.Good) (A : HeadAt L K0 h mg) (TB : ∀ p ∈ tabsOf L K0, LamX.TabB base mg p.1 p.2) {e : Ent} (he : e ∈ L.es) :
    ∃ I : DefI, I.f = He.fAd (cutK K0) e.d.at_ ∧ I.ps = e.ps ∧ I.lb = e.lb ∧ DefOk (staOf L K0 mg) base L.T I e.fd ∧ FunD (cutK K0) e.d.name e.d.qual e.d.params e.d.body e.d.scope (e.d.dvs (cutK K0)) (e.d.kws (cutK K0)) (He.fAd (cutK K0) e.d.at_) I.fd := by
  obtain ⟨fd, D⟩ := def_mem A.c (d := e.d) (List.mem_map.mpr ⟨e, he, rfl⟩)
  have g := G.es e he
  obtain ⟨I, h1, h2, h3, h4, h5⟩ := defOk_of (S := staOf L K0 mg) (base := base) (T := L.T) D (N := e.N) (ps := e.ps) (cel := e.cel) (ln := e.ln) (lb := e.lb) (m := e.m) (n := e.n) (d := e.fd) g.SC g.hN g.hps g.tx (fun l el => by
    have e1 := g.lq l el
    have hm : e.d ∈ L.lqs := List.mem_of_getElem? e1
    have e2 : (staOf L K0 mg).lq l = lqOf e.d := by show (L.lqs[l]?).elim ("x" : Str) lqOf = _; rw [e1]; rfl
    refine ⟨e2.symm, (tabOf K0 e.d.at_).1, (tabOf K0 e.d.at_).2, ?_, TB _ (List.mem_map.mpr ⟨e.d, hm, rfl⟩), ?_, ?_⟩
    · obtain ⟨k1, k2⟩ := A.cod e.d.at_ (List.mem_map.mpr ⟨e.d, hm, rfl⟩)
      obtain ⟨oc, od, fd', osl, q1, q2, _⟩ := codB_ok A.mem.in_ k1
      obtain ⟨oc2, od2, dV, kV, doc, pm, an, cdv, ct, osl2, z1, z2, _⟩ := D.ex
      have r1 := A.mem.in_ _ _ q1
      have r2 := A.mem.cut _ _ z2
      rw [k2, r1] at r2
      cases r2
      exact q2
    · rw [e2]; exact List.mem_map.mpr ⟨e.d, hm, rfl⟩
    · intro p hp ep
      obtain ⟨d', hd', rfl⟩ := List.mem_map.mp hp
      have nd := A.nd
      unfold Lw.cs at nd
      rw [List.map_map] at nd
      have := nodup_inj nd d' hd' e.d hm ep
      rw [e2, this])
  exact ⟨I, h1, h3, h4, h5, h2 ▸ D⟩
theorem tabOk (G : L.Good) (A : HeadAt L K0 h mg) (TB : ∀ p ∈ tabsOf L K0, LamX.TabB base mg p.1 p.2) : TabOk (staOf L K0 mg) base L.T L.tab := by
  have ndF : (L.fs.map (·.x) ++ L.cl.map (·.2.x)).Nodup := G.hf ▸ G.nf
  refine ⟨fun r => ⟨fun c f a e1 e2 => ?_, fun t c b e1 => ?_⟩, fun x hx => ?_, fun x hx => ?_, fun x hx => ?_, fun x hx => ?_, fun x hx => ?_⟩
  · have hm : (c, f) ∈ L.att := of_decide_eq_true e1
    obtain ⟨f1, f2, f3⟩ := fa_att hm
    have e2 : mg c = some (.ref a) := e2
    rw [A.glo f1] at e2
    cases e2
    exact ⟨He.cls_ok (fact_mem A.c f2), He.noat_ok (fact_mem A.c f3)⟩
  · have hm : ((t, c), b) ∈ L.isi := look_mem e1
    have x1 : (Xa.kit t c b) ∈ L.xs := by
      simp only [Lw.xs, List.mem_append, List.mem_flatMap]
      exact .inr ⟨_, hm, List.mem_cons_self⟩
    have c1 : PySem.W.kitOne (cutK K0) (tyA (cutK K0) t) (tyA (cutK K0) c) = some b := of_decide_eq_true (A.xs _ x1)
    have tv : ∀ (t : Ty) (u : Value), (∀ x ∈ tyN t, x ∈ L.T.cls) → TyV ((staOf L K0 mg).with r) t u → u = tyA (cutK K0) t := fun t u ht hu => by
      cases t with
      | ty n => exact hu
      | cl x =>
        have q : mg x = some u := hu.1
        rw [A.glo (fa_cls (ht x (by simp [tyN])))] at q
        exact (Option.some.inj q).symm
    refine ⟨fun x a et ga => ?_, fun u v hu hv => by rw [tv t u (G.ic _ hm).1 hu, tv c v (G.ic _ hm).2 hv]; exact c1⟩
    subst et
    have ga : mg x = some (.ref a) := ga
    rw [A.glo (fa_cls ((G.ic _ hm).1 x (by simp [tyN])))] at ga
    cases ga
    refine clsx_ok (A.xs _ ?_)
    simp only [Lw.xs, List.mem_append, List.mem_flatMap]
    exact .inr ⟨_, hm, by simp [tyN]⟩
  · rw [G.hf] at hx
    rcases List.mem_append.mp hx with hx | hx
    · obtain ⟨e, h1, rfl⟩ := List.mem_map.mp hx
      have he : e ∈ L.es := by
        simp only [Lw.es, List.mem_cons, List.mem_append]
        exact .inr (.inl (.inl h1))
      obtain ⟨I, k1, k2, k3, k4, k5⟩ := defAt G A TB he
      obtain ⟨a1, a2⟩ := G.af e h1
      have k1' : I.f = He.ga (cutK K0) e.x := by rw [k1, a1]; rfl
      have nd1 := (List.nodup_append.mp ndF)
      refine .inl ⟨I, e.fd, e.bd, ?_, ?_, k4, by rw [k3, a2], ?_, ?_, fun n ks g eg r => ?_⟩
      · exact mapLook (k := fun e : Ent => e.x) (v := fun e : Ent => (e.fd, e.bd)) nd1.1 e h1
      · exact mapLookN (k := fun c : Bool × Ent => c.2.x) (v := fun c : Bool × Ent => (c.1, c.2.fd, c.2.bd)) (fun z => nd1.2.2 _ hx _ z rfl)
      · show mg e.x = _
        rw [k1']
        exact A.glo (fa_fs hx)
      · rw [k1]; exact k5.kp
      · rw [k2]
        exact (G.es e he).bnd (cutK K0) A.xs I.fd k5 n ks g eg _ rfl
    · obtain ⟨c, h1, rfl⟩ := List.mem_map.mp hx
      have he : c.2 ∈ L.es := by
        simp only [Lw.es, List.mem_cons, List.mem_append]
        exact .inr (.inl (.inr (List.mem_map.mpr ⟨c, h1, rfl⟩)))
      obtain ⟨I, k1, k2, k3, k4, k5⟩ := defAt G A TB he
      obtain ⟨a1, a2⟩ := G.ac c h1
      obtain ⟨f1, f2⟩ := fa_cl h1
      have nd1 := (List.nodup_append.mp ndF)
      have mk := fact_mem A.c f2
      have k1' : I.f = He.ma (cutK K0) (He.ga (cutK K0) c.2.x) "__init__" := by rw [k1, a1]; rfl
      refine .inr ⟨I, c.1, c.2.fd, c.2.bd, He.ga (cutK K0) c.2.x, ?_, ?_, k4, by rw [k3, a2], A.glo f1, ?_, ?_, fun n ks g eg r => ?_⟩
      · exact mapLookN (k := fun e : Ent => e.x) (v := fun e : Ent => (e.fd, e.bd)) (fun z => nd1.2.2 _ z _ hx rfl)
      · exact mapLook (k := fun c : Bool × Ent => c.2.x) (v := fun c : Bool × Ent => (c.1, c.2.fd, c.2.bd)) nd1.2.1 c h1
      · rw [k1']; exact He.mkr_ok mk
      · obtain ⟨_, z⟩ := He.ba mk
        obtain ⟨_, z⟩ := He.ba z
        exact (He.ba z).2
      · rw [k2]
        exact (G.es c.2 he).bnd (cutK K0) A.xs I.fd k5 n ks g eg _ rfl
  · rw [G.hh] at hx
    obtain ⟨e, h1, rfl⟩ := List.mem_map.mp hx
    have he : e ∈ L.es := by
      simp only [Lw.es, List.mem_cons, List.mem_append]
      exact .inr (.inr h1)
    obtain ⟨I, k1, k2, k3, k4, k5⟩ := defAt G A TB he
    obtain ⟨a1, a2⟩ := G.ah e h1
    have k1' : I.f = He.ga (cutK K0) e.x := by rw [k1, a1]; rfl
    refine ⟨I, e.fd, ?_, k4, ?_, ?_, fun s us hl _ => ?_⟩
    · exact mapLook (k := fun e : Ent => e.x) (v := fun e : Ent => e.fd) (by have := G.nh; rw [G.hh] at this; exact this) e h1
    · show mg e.x = _
      rw [k1']
      exact A.glo (fa_ho h1)
    · rw [k1]; exact k5.kp
    · rw [k2] at hl ⊢
      exact plain_binds a2 k5 s us hl
  · rw [G.hc] at hx
    obtain ⟨p, h1, rfl⟩ := List.mem_map.mp hx
    have x1 : (Xa.cst p.1 p.2) ∈ L.xs := by
      simp only [Lw.xs, List.mem_append, List.mem_map]
      exact .inl (.inl ⟨p, h1, rfl⟩)
    obtain ⟨u, v, q1, q2, q3⟩ := cst_ok A.mem.cut A.ns (A.xs _ x1)
    refine ⟨u, v, q1, q2, fun w e r G' => ?_⟩
    have e : L.cst.lookup p.1 = some w := e
    have nd : (L.cst.map (·.1)).Nodup := by have := G.nc; rw [G.hc] at this; exact this
    have z := mapLook (k := fun p : Str × W => p.1) (v := fun p : Str × W => p.2) nd p h1
    have z : L.cst.lookup p.1 = some p.2 := by simpa using z
    rw [z] at e
    cases e
    exact q3 _ _ rfl
  · exact He.free_ok A.mem.cut A.ns (fact_mem A.c (fa_blt hx))
  · exact ⟨_, A.glo (fa_cls hx)⟩
theorem lawAt {l : PySem.W.OpenLaw} {w : World} {k n : Nat} {x : Str} {fa : Addr} (G : L.Good) (hx : L.law.ps = [x]) (Y : SaysP L.fa L.fn L.cs L.xs h) (ns : h.Ns mainGlobals mg) (hfa : mg "law" = some (.ref fa))
    (res : ∀ ns : List Int, ns.length ≤ n → (∀ z ∈ ns, Builtin.Int.intBits z ≤ 1048576) → ∃ st, runF (L.tab.cf k) L.law.fd [.lst (ns.map W.int)] [] = .ok (.bl true) st) :
    ∃ S tabs fd rn, LawAt l w (k + 1) n x mg fa h S tabs fd rn := by
  obtain ⟨K0, A⟩ := headAt Y ns
  have hl : L.law ∈ L.es := List.mem_cons_self
  obtain ⟨fd, D⟩ := def_mem A.c (d := L.law.d) (List.mem_map.mpr ⟨L.law, hl, rfl⟩)
  obtain ⟨a1, a2, a3, a4⟩ := G.al
  have cods : ∀ p ∈ tabsOf L K0, PySem.W.CodeHd h p.1 p.2 ∧ h.get? p.2 = some { cls := .none, data := .fields #[] } := fun p hp => by
    obtain ⟨d, hd, rfl⟩ := List.mem_map.mp hp
    obtain ⟨k1, _⟩ := A.cod d.at_ (List.mem_map.mpr ⟨d, hd, rfl⟩)
    obtain ⟨_, _, _, _, _, _, q1, q2, _⟩ := codB_ok A.mem.in_ k1
    exact ⟨q1, q2⟩
  refine ⟨staOf L K0 mg, tabsOf L K0, fd, runF (L.tab.cf k) L.law.fd, rfl, A.mem.cut, fun b o e => cut_not e, fun p hp => (cods p hp).2, fun p hp => (cods p hp).1, fun q hq => ?_, fun p hp => ?_, fun s u => ?_, fun base hKb hns TB => ?_, res⟩
  · obtain ⟨d, hd, rfl⟩ := List.mem_map.mp hq
    exact List.mem_map.mpr ⟨tabOf K0 d.at_, List.mem_map.mpr ⟨d, hd, rfl⟩, rfl⟩
  · obtain ⟨d, hd, rfl⟩ := List.mem_map.mp hp
    exact ⟨lqOf d, List.mem_map.mpr ⟨d, hd, rfl⟩⟩
  · have z := plain_binds a3 D s [u] (by rw [hx]; rfl)
    rw [hx] at z
    exact z
  · have TB : ∀ p ∈ tabsOf L K0, LamX.TabB base mg p.1 p.2 := TB
    obtain ⟨I, k1, k2, k3, k4, k5⟩ := defAt (base := base) G A TB hl
    have F := facts (P := l.prog) (w := w) (tabOk (base := base) G A TB)
    have W0 := fnR_def (Rg := fun _ _ _ => True) (k := k) (lam := (L.tab.cf k).lam) (r := none) (fun j _ => F j) k4 (fun z => by rw [k3, a2] at z; cases z)
    have e1 : He.fAd (cutK K0) L.law.d.at_ = fa := by
      rw [a1]
      have q := A.glo fa_law
      rw [hfa] at q
      exact (Value.ref.inj (Option.some.inj q)).symm
    have e2 : I.fd = fd := by
      obtain ⟨_, _, _, _, _, _, _, _, _, _, _, z1, _⟩ := k5.ex
      obtain ⟨_, _, _, _, _, _, _, _, _, _, _, z2, _⟩ := D.ex
      rw [z1] at z2
      cases z2
      rfl
    rw [k1, k2, e1, e2, hx] at W0
    exact W0
end
end Pf

/-! part P35 -/
set_option Elab.async false
set_option linter.all false
set_option maxRecDepth 100000
set_option autoImplicit false
set_option maxHeartbeats 1000000
/-! Keyword-only defaults; a def's text by its place; the whole proof of a law. -/
namespace Pf
open PySem PySem.Spec PyProof.Rows L2

/-- a keyword-only default, if it is an object -/
def kwdAt (p : Str × Option Str) (x : Str) (K : PySem.W.Frag) : Addr := match K.lookup (He.fAd K p) with
  | some ⟨_, _, .func fd, _⟩ => (match fd.kwdefaults with
    | .ref D => (match PySem.W.nsIn K D x with
      | some (some (.ref a)) => a
      | _ => 0)
    | _ => 0)
  | _ => 0
theorem adr_rel {L : Lw} {K : PySem.W.Frag} (X : ∀ x ∈ L.xs, x.ok K = true) {p : PySem.W.Frag → Addr} {w : W} (h : (p, w) ∈ L.kd) : ∀ S G, S.K = K → RelW S G (.ref (p K)) w := by
  have x1 : (Xa.adr p w) ∈ L.xs := by
    simp only [Lw.xs, List.mem_append, List.mem_map]
    exact .inl (.inr ⟨_, h, rfl⟩)
  have z : valB K w (.ref (p K)) = true := X _ x1
  obtain ⟨v, r1, r2⟩ := valB_ok _ _ z
  cases v with
  | ref a =>
    have e : Value.ref (p K) = .ref a := r1
    cases e
    exact r2
  | int i => obtain ⟨t, e⟩ := r1; cases e
  | str i => obtain ⟨t, e⟩ := r1; cases e
  | byt i => obtain ⟨t, e⟩ := r1; cases e
  | flt i => obtain ⟨t, e⟩ := r1; cases e
  | _ => cases r1
theorem bnd_kws {K : PySem.W.Frag} {x qual : Str} {params : Arguments} {body : List Stmt} {scope : Scope} {kws : List (Str × V)} {f : Addr} {fd : FuncData} {ps : List Str} (F : FunD K x qual params body scope [] kws f fd) {n : Nat} {ks : List Str} {is : List Nat} (ms : List (Str × V)) (dW : List W)
    (hms : ∀ q ∈ ms, q ∈ kws) (hk : kws ≠ []) (hlen : is.length = ps.length)
    (h : ∀ (D : Addr) (doc pm : Value) (an : Option Addr) (cdv ct : Value) (us ws mv ys : List Value), us.length = n → ws.length = ks.length → mv.length = ms.length → sel is (us ++ (ws ++ mv)) = some ys →
      KwChain D ((ms.map (·.1)).zip mv) (bindArgs (PySem.W.fnOf x qual params body scope .none (.ref D) doc pm an cdv ct) ⟨us, ks.zip ws⟩) (ps.zip ys))
    (S : Sta) (hS : S.K = K) (hr : ∀ G, RelWs S G (ms.map (·.2)) dW) : Bnd S fd ps n ks (fun wv wz => sel is (wv ++ (wz ++ dW))) := by
  obtain ⟨oc, od, dV, kV, doc, pm, an, cdv, ct, osl, rfl, lk, hcd, hD, hK⟩ := F.ex
  rcases hD with ⟨_, rfl⟩ | ⟨e, _⟩
  · rcases hK with e | ⟨D, rfl, hq⟩
    · exact absurd e hk
    · obtain ⟨mv, hl, rk, hks⟩ := kwd_vals (ms := ms) fun q hm => hq q (hms q hm)
      refine bnd_sel (dU := mv) rk hr hlen fun s us ws ys l1 l2 X e => ?_
      exact BindsTo.of_looks fun M => KwChain.looks (hS ▸ X) hks (h D doc pm an cdv ct us ws mv ys l1 l2 hl e)
  · exact absurd rfl e
/-- a plain def called by keywords -/
theorem bnd_kwp {K : PySem.W.Frag} {x qual : Str} {params : Arguments} {body : List Stmt} {scope : Scope} {f : Addr} {fd : FuncData} {ps : List Str} (F : FunD K x qual params body scope [] [] f fd) {n : Nat} {ks : List Str} {is : List Nat} (hlen : is.length = ps.length)
    (h : ∀ (kV doc pm : Value) (an : Option Addr) (cdv ct : Value) (us ws ys : List Value), us.length = n → ws.length = ks.length → sel is (us ++ (ws ++ [])) = some ys →
      bindArgs (PySem.W.fnOf x qual params body scope .none kV doc pm an cdv ct) ⟨us, ks.zip ws⟩ = pure (ps.zip ys))
    (S : Sta) (hS : S.K = K) : Bnd S fd ps n ks (fun wv wz => sel is (wv ++ (wz ++ []))) := by
  obtain ⟨oc, od, dV, kV, doc, pm, an, cdv, ct, osl, rfl, lk, hcd, hD, hK⟩ := F.ex
  rcases hD with ⟨_, rfl⟩ | ⟨e, _⟩
  · refine bnd_sel (dV := []) (dU := []) .nil (fun _ => RelWs.nil) hlen fun s us ws ys l1 l2 X e => ?_
    exact .of_eq (h kV doc pm an cdv ct us ws ys l1 l2 e)
  · exact absurd rfl e
def clsS (s : Stmt) : List Stmt := match s with
  | .ClassDef _ _ _ b _ _ _ _ _ _ _ => b
  | _ => []
end Pf

/-! part Q1 -/
set_option Elab.async false
set_option linter.all false
set_option maxRecDepth 100000
set_option autoImplicit false
set_option maxHeartbeats 1000000
/-! Rules that run the fragment. -/
namespace Pf
open PySem L2

def R.bnd {α β : Type} (r : R α) (k : α → M β) : R β := match r with
  | .ok a st => k a st
  | .exc c fs xs st => .exc c fs xs st
  | .stuck => .stuck
def R.nx {α : Type} (r : R α) : R α := match r with
  | .ok a st => .ok a st
  | .exc _ _ _ _ => .stuck
  | .stuck => .stuck
section
variable {α β : Type} (st : St)
theorem run_bind (m : M α) (k : α → M β) : (m >>= k) st = R.bnd (m st) k := Eq.trans rfl rfl
theorem bnd_ok (a : α) (k : α → M β) : R.bnd (.ok a st) k = k a st := Eq.trans rfl rfl
theorem run_pure (a : α) : (pure a : M α) st = .ok a st := Eq.trans rfl rfl
theorem run_lift (a : α) : M.lift (some a) st = .ok a st := Eq.trans rfl rfl
theorem run_get : M.get st = .ok st st := Eq.trans rfl rfl
theorem run_chk : M.chk true st = .ok () st := Eq.trans rfl rfl
theorem run_chkd (p : Prop) [Decidable p] (h : p) : M.chk (decide p) st = .ok () st := by rw [decide_eq_true h]; rfl
theorem run_nox (m : M α) : M.nox m st = R.nx (m st) := Eq.trans rfl rfl
theorem nx_ok (a : α) : R.nx (.ok a st) = .ok a st := Eq.trans rfl rfl
theorem run_toB (m : M W) : M.toB m st = R.bnd (m st) fun w => M.lift (asBl w) := Eq.trans rfl rfl
theorem run_toI (m : M W) : M.toI m st = R.bnd (m st) fun w => M.lift (asI w) := Eq.trans rfl rfl
theorem run_sz (n : Nat) (h : n ≤ SZ) : sz n st = .ok () st := run_chkd st _ h
theorem run_ite (c : Prop) [Decidable c] (a b : M α) : (if c then a else b) st = if c then a st else b st := by split <;> rfl
theorem run_chkG : M.chkG [] st = .ok () st := by rw [M.chkG_nil]; rfl
end
theorem chkG_one {i : Nat} {xs : List W} {st : St} (h : st[i]? = some (.lst xs)) : M.chkG [(i, xs)] st = .ok () st := if_pos fun p hp => by
  rcases List.mem_singleton.mp hp with rfl
  exact h

section
variable (C : Cf) (ρ : Ρ)
theorem ev_var (i : Nat) : ev C (.var i) ρ = M.lift (getV ρ i) := Eq.trans rfl rfl
theorem ev_glo (x : Str) : ev C (.glo x) ρ = M.lift (C.gv x) := Eq.trans rfl rfl
theorem ev_cst (w : W) : ev C (.cst w) ρ = pure w := Eq.trans rfl rfl
theorem ev_tup (es : As) : ev C (.tup es) ρ = (evs C es ρ >>= fun ws => sz ws.length >>= fun _ => pure (.tup ws)) := Eq.trans rfl rfl
theorem ev_lst (es : As) : ev C (.lst es) ρ = (evs C es ρ >>= fun ws => sz ws.length >>= fun _ => pure (.lst ws)) := Eq.trans rfl rfl
theorem ev_bin (op : Operator) (a b : Ex) : ev C (.bin op a b) ρ = (ev C a ρ >>= fun x => ev C b ρ >>= fun y => M.get >>= fun st => M.lift (binW op x y st)) := Eq.trans rfl rfl
theorem ev_neg (a : Ex) : ev C (.neg a) ρ = (ev C a ρ >>= fun x => M.lift (asI x) >>= fun i => pure (.int (-i))) := Eq.trans rfl rfl
theorem ev_not (a : Ex) : ev C (.not a) ρ = (M.toB (ev C a ρ) >>= fun b => pure (.bl (!b))) := Eq.trans rfl rfl
theorem ev_and (a b : Ex) : ev C (.and a b) ρ = (M.toB (ev C a ρ) >>= fun x => if x = true then M.toB (ev C b ρ) >>= fun y => pure (.bl y) else pure (.bl false)) := Eq.trans rfl rfl
theorem ev_or (a b : Ex) : ev C (.or a b) ρ = (M.toB (ev C a ρ) >>= fun x => if x = true then pure (.bl true) else M.toB (ev C b ρ) >>= fun y => pure (.bl y)) := Eq.trans rfl rfl
theorem ev_ite (c a b : Ex) : ev C (.ite c a b) ρ = (M.toB (ev C c ρ) >>= fun x => if x = true then ev C a ρ else ev C b ρ) := Eq.trans rfl rfl
theorem ev_cmp (op : CmpOp) (a b : Ex) : ev C (.cmp op a b) ρ = (ev C a ρ >>= fun x => ev C b ρ >>= fun y => M.get >>= fun st => M.lift (cmpW op x y st) >>= fun r => pure (.bl r)) := Eq.trans rfl rfl
theorem ev_cmp2 (o p : CmpOp) (a b c : Ex) : ev C (.cmp2 o p a b c) ρ = (ev C a ρ >>= fun x => ev C b ρ >>= fun y => M.get >>= fun st => M.lift (cmpW o x y st) >>= fun r => if r = true then ev C c ρ >>= fun z => M.get >>= fun st => M.lift (cmpW p y z st) >>= fun q => pure (.bl q) else pure (.bl false)) := Eq.trans rfl rfl
theorem ev_call (x : Str) (es : As) (ks : List Str) (kes : As) : ev C (.call x es ks kes) ρ = (evs C es ρ >>= fun ws => evs C kes ρ >>= fun zs => M.lift (C.fn x ws.length ks) >>= fun f => f ws zs) := Eq.trans rfl rfl
theorem ev_bi (f : Bi) (es : As) : ev C (.bi f es) ρ = (evs C es ρ >>= fun ws => M.get >>= fun st => M.lift (biW f ws st)) := Eq.trans rfl rfl
theorem ev_isi (e : Ex) (t : Ty) : ev C (.isi e t) ρ = (ev C e ρ >>= fun w => M.get >>= fun st => M.lift (tyW w st) >>= fun y => M.lift (C.isi y t) >>= fun b => pure (.bl b)) := Eq.trans rfl rfl
theorem ev_callV (i : Nat) (es : As) : ev C (.callV i es) ρ = (M.lift (getV ρ i) >>= fun w => M.lift (asClo w) >>= fun c => evs C es ρ >>= fun ws => C.lam c.1 c.2 ws) := Eq.trans rfl rfl
theorem ev_attr (o : Ex) (f : Str) : ev C (.attr o f) ρ = (ev C o ρ >>= fun w => M.get >>= fun st => M.lift (getF C w f st)) := Eq.trans rfl rfl
theorem ev_ix (a b : Ex) : ev C (.ix a b) ρ = (ev C a ρ >>= fun x => ev C b ρ >>= fun y => M.get >>= fun st => M.lift (ixW x y st)) := Eq.trans rfl rfl
theorem ev_sl (a lo hi : Ex) : ev C (.sl a lo hi) ρ = (ev C a ρ >>= fun x => M.toI (ev C lo ρ) >>= fun l => M.toI (ev C hi ρ) >>= fun h => M.get >>= fun st => M.lift (slW x (some l) (some h) st)) := Eq.trans rfl rfl
theorem ev_slL (a lo : Ex) : ev C (.slL a lo) ρ = (ev C a ρ >>= fun x => M.toI (ev C lo ρ) >>= fun l => M.get >>= fun st => M.lift (slW x (some l) none st)) := Eq.trans rfl rfl
theorem ev_slH (a hi : Ex) : ev C (.slH a hi) ρ = (ev C a ρ >>= fun x => M.toI (ev C hi ρ) >>= fun h => M.get >>= fun st => M.lift (slW x none (some h) st)) := Eq.trans rfl rfl
theorem ev_slN (a : Ex) : ev C (.slN a) ρ = (ev C a ρ >>= fun x => M.get >>= fun st => M.lift (slW x none none st)) := Eq.trans rfl rfl
/-- one turn of a comprehension -/
def turnC (elt : Ex) (t : Tg) (ifs : As) (ρ : Ρ) (x : W) : M (List W) := asg C t x ρ >>= fun ρ2 => evT C ifs ρ2 >>= fun b => if b = true then ev C elt ρ2 >>= fun w => pure [w] else pure []
theorem ev_comp (elt : Ex) (t : Tg) (it : Ex) (ifs : As) (own : List Nat) : ev C (.comp elt t it ifs own) ρ = (evI C it ρ >>= fun xs => sz xs.1.length >>= fun _ => compL xs.2 (fun x => M.nox (turnC C elt t ifs (wipeW ρ own) x)) xs.1 >>= fun ws => pure (.lst ws)) := Eq.trans rfl rfl
theorem ev_callL (x : Str) (es : As) (n np nf sl : Nat) (body : Ex) (caps : List Nat) : ev C (.callL x es n np nf sl body caps) ρ = (M.lift (C.hof x (es.len + 1)) >>= fun h => evs C es ρ >>= fun ws => M.lift (getVs ρ caps) >>= fun cs => M.chk (noclos ws && noclos cs) >>= fun _ => M.noCl (h (fun _ => C.lamF np nf sl body) (ws ++ [.clo n cs]))) := rfl
theorem ev_nw (e : Ex) : ev C (.nw e) ρ = (evC C e ρ >>= fun ws => newC (.lst ws)) := Eq.trans rfl rfl
theorem evC_lst (es : As) : evC C (.lst es) ρ = (evs C es ρ >>= fun ws => sz ws.length >>= fun _ => pure ws) := Eq.trans rfl rfl
theorem evC_comp (elt : Ex) (t : Tg) (it : Ex) (ifs : As) (own : List Nat) : evC C (.comp elt t it ifs own) ρ = (evI C it ρ >>= fun xs => sz xs.1.length >>= fun _ => compL xs.2 (fun x => M.nox (turnC C elt t ifs (wipeW ρ own) x)) xs.1) := Eq.trans rfl rfl
theorem evC_bin (op : Operator) (a b : Ex) : evC C (.bin op a b) ρ = (ev C a ρ >>= fun x => ev C b ρ >>= fun y => M.get >>= fun st => M.lift (catW op x y st)) := Eq.trans rfl rfl
theorem evC_bi (f : Bi) (es : As) : evC C (.bi f es) ρ = (evs C es ρ >>= fun ws => M.get >>= fun st => M.lift (bLC f ws st)) := Eq.trans rfl rfl
theorem evI_it (e : Ex) : evI C (.it e) ρ = (ev C e ρ >>= fun w => M.get >>= fun st => M.lift (itemsOf w st) >>= fun xs => pure (xs, gdOf w xs)) := Eq.trans rfl rfl
theorem evI_rng (a b : Ex) : evI C (.rng a b) ρ = (ev C a ρ >>= fun x => ev C b ρ >>= fun y => M.lift (asI x) >>= fun i => M.lift (asI y) >>= fun j => M.chk (rngOk i j) >>= fun _ => pure (rngL i (j - i).toNat, [])) := Eq.trans rfl rfl
theorem evI_enm (e : Ex) : evI C (.enm e) ρ = (ev C e ρ >>= fun w => M.get >>= fun st => M.lift (seqOf w st) >>= fun xs => pure (enumL 0 xs, gdOf w xs)) := Eq.trans rfl rfl
theorem evI_zip (a b : Ex) : evI C (.zip a b) ρ = (ev C a ρ >>= fun x => ev C b ρ >>= fun y => M.chk (isTup x == isTup y) >>= fun _ => M.get >>= fun st => M.lift (seqOf x st) >>= fun xs => M.get >>= fun st => M.lift (seqOf y st) >>= fun ys => pure (zipL xs ys, gdOf x xs ++ gdOf y ys)) := Eq.trans rfl rfl
theorem evT_nil : evT C .nil ρ = pure true := Eq.trans rfl rfl
theorem evT_one (e : Ex) : evT C (.cons e .nil) ρ = M.toB (ev C e ρ) := Eq.trans rfl rfl
theorem evs_nil : evs C .nil ρ = pure [] := Eq.trans rfl rfl
theorem evs_cons (e : Ex) (r : As) : evs C (.cons e r) ρ = (ev C e ρ >>= fun w => evs C r ρ >>= fun ws => pure (w :: ws)) := Eq.trans rfl rfl
theorem evs_star (e : Ex) (r : As) : evs C (.star e r) ρ = (ev C e ρ >>= fun w => M.get >>= fun st => M.lift (seqOf w st) >>= fun xs => evs C r ρ >>= fun ws => pure (xs ++ ws)) := Eq.trans rfl rfl
theorem asg_var (i : Nat) (w : W) : asg C (.var i) w ρ = pure (ρ.set i (some w)) := Eq.trans rfl rfl
theorem asg_tup (ts : Tgs) (w : W) : asg C (.tup ts) w ρ = (M.get >>= fun st => M.lift (seqOf w st) >>= fun xs => M.chk (decide (xs.length = ts.len)) >>= fun _ => asgs C ts xs ρ) := Eq.trans rfl rfl
theorem asg_attr (o : Ex) (f : Str) (w : W) : asg C (.attr o f) w ρ = (ev C o ρ >>= fun v => setF C v f w >>= fun _ => pure ρ) := Eq.trans rfl rfl
theorem asg_ix (o i : Ex) (w : W) : asg C (.ix o i) w ρ = (ev C o ρ >>= fun v => ev C i ρ >>= fun k => setI v k w >>= fun _ => pure ρ) := Eq.trans rfl rfl
theorem asgs_nil : asgs C .nil [] ρ = pure ρ := Eq.trans rfl rfl
theorem asgs_cons (t : Tg) (r : Tgs) (x : W) (xs : List W) : asgs C (.cons t r) (x :: xs) ρ = (asg C t x ρ >>= fun ρ2 => asgs C r xs ρ2) := Eq.trans rfl rfl
theorem tlen_nil : Tgs.len .nil = 0 := Eq.trans rfl rfl
theorem tlen_cons (t : Tg) (r : Tgs) : Tgs.len (.cons t r) = r.len + 1 := Eq.trans rfl rfl
theorem alen_nil : As.len .nil = 0 := Eq.trans rfl rfl
theorem alen_cons (t : Ex) (r : As) : As.len (.cons t r) = r.len + 1 := Eq.trans rfl rfl
/-- behind a statement -/
def thenX (r : Sxs) : Fl → M Fl
  | .nx ρ2 => execs C r ρ2
  | .rt w => pure (.rt w)
theorem thenX_nx (r : Sxs) (ρ2 : Ρ) : thenX C r (.nx ρ2) = execs C r ρ2 := Eq.trans rfl rfl
theorem thenX_rt (r : Sxs) (w : W) : thenX C r (.rt w) = pure (.rt w) := Eq.trans rfl rfl
theorem execs_nil : execs C .nil ρ = pure (.nx ρ) := Eq.trans rfl rfl
theorem execs_cons (s : Sx) (r : Sxs) : execs C (.cons s r) ρ = (exec C s ρ >>= thenX C r) := Eq.trans rfl rfl
theorem exec_set (t : Tg) (e : Ex) : exec C (.set t e) ρ = (ev C e ρ >>= fun w => M.nox (asg C t w ρ) >>= fun ρ2 => pure (.nx ρ2)) := Eq.trans rfl rfl
theorem exec_app (o e : Ex) : exec C (.app o e) ρ = (ev C o ρ >>= fun v => M.get >>= fun st => M.lift (lstOf v st) >>= fun _ => ev C e ρ >>= fun w => appC v w >>= fun _ => pure (.nx ρ)) := Eq.trans rfl rfl
theorem exec_ext (o e : Ex) : exec C (.ext o e) ρ = (ev C o ρ >>= fun v => M.get >>= fun st => M.lift (lstOf v st) >>= fun _ => evC C e ρ >>= fun w => extC v w >>= fun _ => pure (.nx ρ)) := Eq.trans rfl rfl
theorem exec_drop (e : Ex) : exec C (.drop e) ρ = (ev C e ρ >>= fun _ => pure (.nx ρ)) := Eq.trans rfl rfl
theorem exec_ret (e : Ex) : exec C (.ret e) ρ = (ev C e ρ >>= fun w => pure (.rt w)) := Eq.trans rfl rfl
theorem exec_retN : exec C .retN ρ = pure (.rt .non) := Eq.trans rfl rfl
theorem exec_pass : exec C .pass ρ = pure (.nx ρ) := Eq.trans rfl rfl
theorem exec_ifs (c : Ex) (a b : Sxs) : exec C (.ifs c a b) ρ = (M.toB (ev C c ρ) >>= fun t => if t = true then execs C a ρ else execs C b ρ) := Eq.trans rfl rfl
def forX (t : Tg) (b : Sxs) (gd : Gd) (xs : List W) (ρ : Ρ) : M Fl := forL gd (fun x ρ => M.nox (asg C t x ρ)) (execs C b) xs ρ
def whX (c : Ex) (b : Sxs) (n : Nat) (ρ : Ρ) : M Fl := whL (fun ρ => M.toB (ev C c ρ)) (execs C b) n ρ
theorem exec_for (t : Tg) (it : Ex) (b : Sxs) : exec C (.for_ t it b) ρ = (evI C it ρ >>= fun xs => forX C t b xs.2 xs.1 ρ) := Eq.trans rfl rfl
theorem exec_while (c : Ex) (b : Sxs) : exec C (.while_ c b) ρ = whX C c b C.fuel ρ := Eq.trans rfl rfl
end
theorem getV_zero (w : W) (ρ : Ρ) : getV (some w :: ρ) 0 = some w := Eq.trans rfl rfl
theorem getV_succ (o : Option W) (ρ : Ρ) (i : Nat) : getV (o :: ρ) (i + 1) = getV ρ i := Eq.trans rfl rfl
theorem set_zero (o w : Option W) (ρ : Ρ) : List.set (o :: ρ) 0 w = w :: ρ := Eq.trans rfl rfl
theorem set_succ (o w : Option W) (ρ : Ρ) (i : Nat) : List.set (o :: ρ) (i + 1) w = o :: List.set ρ i w := Eq.trans rfl rfl
theorem wipe_nil (ρ : Ρ) : wipeW ρ [] = ρ := Eq.trans rfl rfl
theorem wipe_cons (ρ : Ρ) (i : Nat) (is : List Nat) : wipeW ρ (i :: is) = (wipeW ρ is).set i none := Eq.trans rfl rfl
theorem asBl_bl (b : Bool) : asBl (.bl b) = some b := Eq.trans rfl rfl
theorem asI_int (i : Int) : asI (.int i) = some i := Eq.trans rfl rfl
theorem asClo_clo (n : Nat) (cs : List W) : asClo (.clo n cs) = some (n, cs) := Eq.trans rfl rfl
theorem bndW_plain (f : List W → M W) (ws zs : List W) : bndW (fun ws _ => some ws) f ws zs = f ws := Eq.trans rfl rfl
/-- tests in a row -/
theorem ite_and (p q : Bool) (st : St) : (if p = true then R.ok (W.bl q) st else R.ok (W.bl false) st) = R.ok (W.bl (p && q)) st := by cases p <;> rfl
theorem ite_or (p q : Bool) (st : St) : (if p = true then R.ok (W.bl true) st else R.ok (W.bl q) st) = R.ok (W.bl (p || q)) st := by cases p <;> rfl

/-! ### comprehensions -/
theorem compL_run {α : Type} {gd : Gd} {f : W → M (List W)} {enc : α → W} {g : α → List W} {st : St} (hg : M.chkG gd st = .ok () st) : ∀ (l : List α), (∀ a ∈ l, f (enc a) st = .ok (g a) st) → compL gd f (l.map enc) st = .ok (l.flatMap g) st
  | [], _ => by
    show (M.chkG gd >>= fun _ => pure []) st = _
    rw [run_bind, hg]; rfl
  | a :: l, h => by
    show (M.chkG gd >>= fun _ => f (enc a) >>= fun b => compL gd f (l.map enc) >>= fun r => pure (b ++ r)) st = _
    rw [run_bind, hg, bnd_ok, run_bind, h a List.mem_cons_self, bnd_ok, run_bind, compL_run hg l fun b hb => h b (List.mem_cons_of_mem _ hb), bnd_ok]
    rfl
theorem flatMap_one {α β : Type} (g : α → β) : ∀ l : List α, l.flatMap (fun a => [g a]) = l.map g
  | [] => rfl
  | a :: l => by rw [List.flatMap_cons, flatMap_one g l]; rfl
/-- .. without tests -/
theorem compL_map {α : Type} {gd : Gd} {f : W → M (List W)} {enc : α → W} {g : α → W} {st : St} (hg : M.chkG gd st = .ok () st) (l : List α) (h : ∀ a ∈ l, f (enc a) st = .ok [g a] st) : compL gd f (l.map enc) st = .ok (l.map g) st := by
  rw [compL_run (g := fun a => [g a]) hg l h, flatMap_one]
/-! ### for -/
section
variable {C : Cf} {t : Tg} {b : Sxs}
theorem forX_nil (ρ : Ρ) (st : St) : forX C t b [] [] ρ st = .ok (.nx ρ) st := by
  show (M.chkG [] >>= fun _ => pure (Fl.nx ρ)) st = _
  rw [run_bind, run_chkG]; rfl
theorem forX_run {α β : Type} {gd : Gd} {enc : α → W} {I : β → Ρ → St → Prop} {g : β → α → β} (hg : ∀ x ρ st, I x ρ st → M.chkG gd st = .ok () st) :
    ∀ (l : List α) (x : β) (ρ : Ρ) (st : St), I x ρ st → (∀ a ∈ l, ∀ x ρ st, I x ρ st → ∃ ρ2 st2, (M.nox (asg C t (enc a) ρ) >>= execs C b) st = .ok (.nx ρ2) st2 ∧ I (g x a) ρ2 st2) → ∃ ρ2 st2, forX C t b gd (l.map enc) ρ st = .ok (.nx ρ2) st2 ∧ I (l.foldl g x) ρ2 st2
  | [], x, ρ, st, h, _ => ⟨ρ, st, by show (M.chkG gd >>= fun _ => pure (Fl.nx ρ)) st = _; rw [run_bind, hg x ρ st h]; rfl, h⟩
  | a :: l, x, ρ, st, h, hb => by
    obtain ⟨ρ2, st2, e, h2⟩ := hb a List.mem_cons_self x ρ st h
    obtain ⟨ρ3, st3, e3, h3⟩ := forX_run hg l (g x a) ρ2 st2 h2 fun c hc => hb c (List.mem_cons_of_mem _ hc)
    refine ⟨ρ3, st3, ?_, h3⟩
    show (M.chkG gd >>= fun _ => M.nox (asg C t (enc a) ρ) >>= fun ρ2 => execs C b ρ2 >>= fun r => match r with
      | .nx ρ3 => forX C t b gd (l.map enc) ρ3
      | .rt w => pure (.rt w)) st = _
    rw [run_bind, hg x ρ st h, bnd_ok]
    rw [run_bind] at e ⊢
    cases q : M.nox (asg C t (enc a) ρ) st with
    | ok ρ4 st4 =>
      rw [q] at e
      rw [bnd_ok] at e ⊢
      rw [run_bind, e, bnd_ok]
      exact e3
    | exc c fs xs st' => rw [q] at e; cases e
    | stuck => rw [q] at e; cases e
/-- a walk that may give a value back at once; the cells stay -/
theorem forX_ret {α : Type} {gd : Gd} {enc : α → W} {J : Ρ → Prop} {p : α → Bool} {w : W} {st : St} (hg : M.chkG gd st = .ok () st) :
    ∀ (l : List α) (ρ : Ρ), J ρ → (∀ a ∈ l, ∀ ρ, J ρ → (p a = true → ∃ ρ2, (M.nox (asg C t (enc a) ρ) >>= execs C b) st = .ok (.nx ρ2) st ∧ J ρ2) ∧ (p a = false → (M.nox (asg C t (enc a) ρ) >>= execs C b) st = .ok (.rt w) st)) →
      (l.all p = true → ∃ ρ2, forX C t b gd (l.map enc) ρ st = .ok (.nx ρ2) st ∧ J ρ2) ∧ (l.all p = false → forX C t b gd (l.map enc) ρ st = .ok (.rt w) st)
  | [], ρ, h, _ => ⟨fun _ => ⟨ρ, by show (M.chkG gd >>= fun _ => pure (Fl.nx ρ)) st = _; rw [run_bind, hg]; rfl, h⟩, fun z => (by cases z)⟩
  | a :: l, ρ, h, hb => by
    obtain ⟨b1, b2⟩ := hb a List.mem_cons_self ρ h
    have un : forX C t b gd ((a :: l).map enc) ρ st = R.bnd ((M.nox (asg C t (enc a) ρ) >>= execs C b) st) fun r => match r with
      | .nx ρ3 => forX C t b gd (l.map enc) ρ3
      | .rt w => pure (.rt w) := by
      show (M.chkG gd >>= fun _ => M.nox (asg C t (enc a) ρ) >>= fun ρ2 => execs C b ρ2 >>= fun r => match r with
        | .nx ρ3 => forX C t b gd (l.map enc) ρ3
        | .rt w => pure (.rt w)) st = _
      rw [run_bind, hg, bnd_ok, run_bind, run_bind]
      cases M.nox (asg C t (enc a) ρ) st <;> rfl
    rw [List.all_cons]
    cases q : p a with
    | true =>
      obtain ⟨ρ2, e, h2⟩ := b1 q
      rw [un, e, bnd_ok, Bool.true_and]
      exact forX_ret hg l ρ2 h2 fun c hc => hb c (List.mem_cons_of_mem _ hc)
    | false =>
      rw [un, b2 q, bnd_ok, Bool.false_and]
      exact ⟨fun z => (by cases z), fun _ => rfl⟩
theorem forX_all {α β : Type} {gd : Gd} {enc : α → W} {J : Ρ → Prop} {p : α → Bool} {w : W} {st : St} {k : Fl → M β} {res : R β} {l : List α} {ρ : Ρ} (hg : M.chkG gd st = .ok () st) (h0 : J ρ)
    (hb : ∀ a ∈ l, ∀ ρ, J ρ → (p a = true → ∃ ρ2, (M.nox (asg C t (enc a) ρ) >>= execs C b) st = .ok (.nx ρ2) st ∧ J ρ2) ∧ (p a = false → (M.nox (asg C t (enc a) ρ) >>= execs C b) st = .ok (.rt w) st))
    (h1 : l.all p = true → ∀ ρ2, J ρ2 → k (.nx ρ2) st = res) (h2 : l.all p = false → k (.rt w) st = res) : R.bnd (forX C t b gd (l.map enc) ρ st) k = res := by
  obtain ⟨a1, a2⟩ := forX_ret (C := C) (t := t) (b := b) hg l ρ h0 hb
  cases q : l.all p with
  | true =>
    obtain ⟨ρ2, e, j⟩ := a1 q
    rw [e, bnd_ok]
    exact h1 q ρ2 j
  | false =>
    rw [a2 q, bnd_ok]
    exact h2 q
theorem forX_fold {α β γ : Type} {gd : Gd} {enc : α → W} {I : β → Ρ → St → Prop} {g : β → α → β} {st : St} {k : Fl → M γ} {res : R γ} {l : List α} {x : β} {ρ : Ρ} (hg : ∀ x ρ st, I x ρ st → M.chkG gd st = .ok () st) (h0 : I x ρ st)
    (hb : ∀ a ∈ l, ∀ x ρ st, I x ρ st → ∃ ρ2 st2, (M.nox (asg C t (enc a) ρ) >>= execs C b) st = .ok (.nx ρ2) st2 ∧ I (g x a) ρ2 st2)
    (hk : ∀ ρ2 st2, I (l.foldl g x) ρ2 st2 → k (.nx ρ2) st2 = res) : R.bnd (forX C t b gd (l.map enc) ρ st) k = res := by
  obtain ⟨ρ2, st2, e, h⟩ := forX_run (C := C) (t := t) (b := b) hg l x ρ st h0 hb
  rw [e, bnd_ok]
  exact hk ρ2 st2 h
/-- place by place: what comes out -/
theorem forX_ex {α : Type} {gd : Gd} {enc : α → W} {I : Nat → Ρ → St → Prop} (hg : ∀ i ρ st, I i ρ st → M.chkG gd st = .ok () st) :
    ∀ (l : List α) (n : Nat) (ρ : Ρ) (st : St), I n ρ st → (∀ i a ρ st, l[i]? = some a → I (n + i) ρ st → ∃ ρ2 st2, (M.nox (asg C t (enc a) ρ) >>= execs C b) st = .ok (.nx ρ2) st2 ∧ I (n + i + 1) ρ2 st2) →
      ∃ ρ2 st2, forX C t b gd (l.map enc) ρ st = .ok (.nx ρ2) st2 ∧ I (n + l.length) ρ2 st2
  | [], n, ρ, st, h, _ => ⟨ρ, st, by
      show (M.chkG gd >>= fun _ => pure (Fl.nx ρ)) st = _
      rw [run_bind, hg n ρ st h]; rfl, h⟩
  | a :: l, n, ρ, st, h, hb => by
    obtain ⟨ρ2, st2, e, h2⟩ := hb 0 a ρ st rfl h
    have un : forX C t b gd ((a :: l).map enc) ρ st = R.bnd ((M.nox (asg C t (enc a) ρ) >>= execs C b) st) fun r => match r with
      | .nx ρ3 => forX C t b gd (l.map enc) ρ3
      | .rt w => pure (.rt w) := by
      show (M.chkG gd >>= fun _ => M.nox (asg C t (enc a) ρ) >>= fun ρ2 => execs C b ρ2 >>= fun r => match r with
        | .nx ρ3 => forX C t b gd (l.map enc) ρ3
        | .rt w => pure (.rt w)) st = _
      rw [run_bind, hg n ρ st h, bnd_ok, run_bind, run_bind]
      cases M.nox (asg C t (enc a) ρ) st <;> rfl
    rw [un, e, bnd_ok]
    obtain ⟨ρ3, st3, e3, h3⟩ := forX_ex hg l (n + 1) ρ2 st2 h2 (fun i c ρ st hi hI => by
      have q := hb (i + 1) c ρ st (by simpa using hi) (by rw [show n + (i + 1) = n + 1 + i by omega]; exact hI)
      rw [show n + (i + 1) + 1 = n + 1 + i + 1 by omega] at q
      exact q)
    refine ⟨ρ3, st3, e3, ?_⟩
    rw [List.length_cons, show n + (l.length + 1) = n + 1 + l.length by omega]
    exact h3
/-- place by place -/
theorem forX_at {α γ : Type} {gd : Gd} {enc : α → W} {I : Nat → Ρ → St → Prop} {k : Fl → M γ} {res : R γ} (hg : ∀ i ρ st, I i ρ st → M.chkG gd st = .ok () st) :
    ∀ (l : List α) (n : Nat) (ρ : Ρ) (st : St), I n ρ st → (∀ i a ρ st, l[i]? = some a → I (n + i) ρ st → ∃ ρ2 st2, (M.nox (asg C t (enc a) ρ) >>= execs C b) st = .ok (.nx ρ2) st2 ∧ I (n + i + 1) ρ2 st2) →
      (∀ ρ2 st2, I (n + l.length) ρ2 st2 → k (.nx ρ2) st2 = res) → R.bnd (forX C t b gd (l.map enc) ρ st) k = res
  | [], n, ρ, st, h, _, hk => by
    have e : forX C t b gd (([] : List α).map enc) ρ st = .ok (.nx ρ) st := by
      show (M.chkG gd >>= fun _ => pure (Fl.nx ρ)) st = _
      rw [run_bind, hg n ρ st h]; rfl
    rw [e, bnd_ok]
    exact hk ρ st h
  | a :: l, n, ρ, st, h, hb, hk => by
    obtain ⟨ρ2, st2, e, h2⟩ := hb 0 a ρ st rfl h
    have un : forX C t b gd ((a :: l).map enc) ρ st = R.bnd ((M.nox (asg C t (enc a) ρ) >>= execs C b) st) fun r => match r with
      | .nx ρ3 => forX C t b gd (l.map enc) ρ3
      | .rt w => pure (.rt w) := by
      show (M.chkG gd >>= fun _ => M.nox (asg C t (enc a) ρ) >>= fun ρ2 => execs C b ρ2 >>= fun r => match r with
        | .nx ρ3 => forX C t b gd (l.map enc) ρ3
        | .rt w => pure (.rt w)) st = _
      rw [run_bind, hg n ρ st h, bnd_ok, run_bind, run_bind]
      cases M.nox (asg C t (enc a) ρ) st <;> rfl
    rw [un, e, bnd_ok]
    refine forX_at hg l (n + 1) ρ2 st2 h2 (fun i c ρ st hi hI => ?_) (fun ρ2 st2 hI => ?_)
    · have q := hb (i + 1) c ρ st (by simpa using hi) (by rw [show n + (i + 1) = n + 1 + i by omega]; exact hI)
      rw [show n + (i + 1) + 1 = n + 1 + i + 1 by omega] at q
      exact q
    · refine hk ρ2 st2 ?_
      rw [List.length_cons, show n + (l.length + 1) = n + 1 + l.length by omega]
      exact hI
end

/-! ### defs -/
def St.Ok (st : St) : Prop := st.all (Cell.low st.length) = true
theorem runF_eq (C : Cf) (fd : Fd) (ws : List W) (st : St) {ρ : Ρ} (hl : ws.length = fd.ps ∧ fd.ps ≤ fd.slots) (he : ws.map some ++ List.replicate (fd.slots - fd.ps) none = ρ) : runF C fd ws st = fin fd.mu st.length (execs C fd.body ρ st) := by
  unfold runF
  rw [if_pos hl, he]
theorem fin_ok {mu : Bool} {st st' : St} {w : W} (ho : st.Ok) (ht : st'.take st.length = st) (hw : w.low st.length = true) : fin mu st.length (.ok (.rt w) st') = .ok w st := by
  have hn : st.length ≤ st'.length := by
    have := congrArg List.length ht
    rw [List.length_take] at this
    omega
  unfold fin
  simp only [ht]
  rw [if_pos (by rw [show st.all (Cell.low st.length) = true from ho, decide_eq_true hn]; rfl), if_pos hw]
theorem fin_okN {mu : Bool} {st st' : St} {ρ : Ρ} (ho : st.Ok) (ht : st'.take st.length = st) : fin mu st.length (.ok (.nx ρ) st') = .ok .non st := by
  have hn : st.length ≤ st'.length := by
    have := congrArg List.length ht
    rw [List.length_take] at this
    omega
  unfold fin
  simp only [ht]
  rw [if_pos (by rw [show st.all (Cell.low st.length) = true from ho, decide_eq_true hn]; rfl), if_pos (show W.low st.length W.non = true from rfl)]
/-- a def that leaves the cells as they are -/
theorem runF_pure {C : Cf} {fd : Fd} {ws : List W} {st st' : St} {w : W} {ρ : Ρ} (ho : st.Ok) (hl : ws.length = fd.ps ∧ fd.ps ≤ fd.slots) (he : ws.map some ++ List.replicate (fd.slots - fd.ps) none = ρ) (h : execs C fd.body ρ st = .ok (.rt w) st') (ht : st'.take st.length = st) (hw : w.low st.length = true) : runF C fd ws st = .ok w st := by
  rw [runF_eq C fd ws st hl he, h, fin_ok ho ht hw]
theorem runF_pureN {C : Cf} {fd : Fd} {ws : List W} {st st' : St} {ρ ρ' : Ρ} (ho : st.Ok) (hl : ws.length = fd.ps ∧ fd.ps ≤ fd.slots) (he : ws.map some ++ List.replicate (fd.slots - fd.ps) none = ρ) (h : execs C fd.body ρ st = .ok (.nx ρ') st') (ht : st'.take st.length = st) : runF C fd ws st = .ok .non st := by
  rw [runF_eq C fd ws st hl he, h, fin_okN ho ht]
/-- a lambda -/
theorem lamW_pure {C : Cf} {ps fr sl : Nat} {body : Ex} {cs as : List W} {st st' : St} {w : W} {ρ : Ρ} (ho : st.Ok) (hl : as.length = ps ∧ cs.length = fr ∧ ps + fr ≤ sl) (he : as.map some ++ (cs.map some ++ List.replicate (sl - ps - fr) none) = ρ) (h : ev C body ρ st = .ok w st') (ht : st'.take st.length = st) (hw : w.low st.length = true) : lamW C ps fr sl body cs as st = .ok w st := by
  unfold lamW
  rw [if_pos hl, he, run_bind, h, bnd_ok, run_pure, fin_ok ho ht hw]
theorem noCl_ok {α : Type} {m : M W} {st : St} {w : W} (hn : st.all Cell.noclo = true) (h : m st = .ok w st) (hw : w.noclo = true) : M.noCl m st = .ok w st := by
  unfold M.noCl
  rw [if_pos hn, h]
  show (if (w.noclo && st.all Cell.noclo) = true then R.ok w st else R.stuck) = _
  rw [if_pos (by rw [hw, hn]; rfl)]
theorem take_self (st : St) : st.take st.length = st := List.take_length
theorem take_app (st st' : St) : (st ++ st').take st.length = st := List.take_left
end Pf

/-! part Q2 -/
set_option Elab.async false
set_option linter.all false
set_option maxRecDepth 100000
set_option autoImplicit false
set_option maxHeartbeats 1000000
/-! Operations on values that are known. -/
namespace Pf
open PySem L2
section
variable (C : Cf) (lam : Nat → List W → List W → M W)
theorem withLam_fn : (C.withLam lam).fn = C.fn := Eq.trans rfl rfl
theorem withLam_gv : (C.withLam lam).gv = C.gv := Eq.trans rfl rfl
theorem withLam_lam : (C.withLam lam).lam = lam := Eq.trans rfl rfl
theorem withLam_isi : (C.withLam lam).isi = C.isi := Eq.trans rfl rfl
theorem withLam_att : (C.withLam lam).att = C.att := Eq.trans rfl rfl
theorem withLam_hof : (C.withLam lam).hof = C.hof := Eq.trans rfl rfl
end
theorem sz_0 (st : St) : sz 0 st = .ok () st := run_sz _ _ (by decide)
theorem sz_1 (st : St) : sz 1 st = .ok () st := run_sz _ _ (by decide)
theorem sz_2 (st : St) : sz 2 st = .ok () st := run_sz _ _ (by decide)
theorem sz_3 (st : St) : sz 3 st = .ok () st := run_sz _ _ (by decide)
theorem sz_4 (st : St) : sz 4 st = .ok () st := run_sz _ _ (by decide)
theorem sz_5 (st : St) : sz 5 st = .ok () st := run_sz _ _ (by decide)
theorem sz_6 (st : St) : sz 6 st = .ok () st := run_sz _ _ (by decide)
theorem sz_7 (st : St) : sz 7 st = .ok () st := run_sz _ _ (by decide)
theorem sz_8 (st : St) : sz 8 st = .ok () st := run_sz _ _ (by decide)
theorem sz_9 (st : St) : sz 9 st = .ok () st := run_sz _ _ (by decide)
theorem sz_10 (st : St) : sz 10 st = .ok () st := run_sz _ _ (by decide)
theorem sz_11 (st : St) : sz 11 st = .ok () st := run_sz _ _ (by decide)
theorem sz_12 (st : St) : sz 12 st = .ok () st := run_sz _ _ (by decide)
theorem sz_13 (st : St) : sz 13 st = .ok () st := run_sz _ _ (by decide)
theorem sz_14 (st : St) : sz 14 st = .ok () st := run_sz _ _ (by decide)
theorem cast_0 : (((0 : Nat)) : Int) = 0 := Eq.trans rfl rfl
theorem cast_1 : (((1 : Nat)) : Int) = 1 := Eq.trans rfl rfl
theorem cast_2 : (((2 : Nat)) : Int) = 2 := Eq.trans rfl rfl
theorem cast_3 : (((3 : Nat)) : Int) = 3 := Eq.trans rfl rfl
theorem cast_4 : (((4 : Nat)) : Int) = 4 := Eq.trans rfl rfl
theorem cast_5 : (((5 : Nat)) : Int) = 5 := Eq.trans rfl rfl
theorem cast_6 : (((6 : Nat)) : Int) = 6 := Eq.trans rfl rfl
theorem cast_7 : (((7 : Nat)) : Int) = 7 := Eq.trans rfl rfl
theorem cast_8 : (((8 : Nat)) : Int) = 8 := Eq.trans rfl rfl
theorem cast_9 : (((9 : Nat)) : Int) = 9 := Eq.trans rfl rfl
theorem noclos_nil : noclos [] = true := by rw [noclos]
section
variable (st : St)
theorem ty_non : tyW .non st = some (.ty "NoneType") := Eq.trans rfl rfl
theorem ty_bl (b : Bool) : tyW (.bl b) st = some (.ty "bool") := Eq.trans rfl rfl
theorem ty_int (b : Int) : tyW (.int b) st = some (.ty "int") := Eq.trans rfl rfl
theorem ty_str (b : Str) : tyW (.str b) st = some (.ty "str") := Eq.trans rfl rfl
theorem ty_tup (b : List W) : tyW (.tup b) st = some (.ty "tuple") := Eq.trans rfl rfl
theorem ty_lst (b : List W) : tyW (.lst b) st = some (.ty "list") := Eq.trans rfl rfl
theorem ty_obj (c : Str) (f : List Str) (b : List W) : tyW (.obj c f b) st = some (.cl c) := Eq.trans rfl rfl
theorem eqv_int (i j : Int) : eqvW (.int i) (.int j) = decide (i = j) := by
  show (i == j) = _
  by_cases h : i = j <;> simp [h]
theorem eqv_str (i j : Str) : eqvW (.str i) (.str j) = decide (i = j) := by
  show (i == j) = _
  by_cases h : i = j <;> simp [h]
theorem eqv_tup (xs ys : List W) : eqvW (.tup xs) (.tup ys) = eqvWs xs ys := by
  show PyData.eqv (.tuple (toDs xs)) (.tuple (toDs ys)) = _
  simp only [PyData.eqv]
  rfl
theorem eqvs_nil : eqvWs [] [] = true := by show PyData.eqvAll [] [] = true; simp only [PyData.eqvAll]
theorem eqvs_nc (x : W) (xs : List W) : eqvWs [] (x :: xs) = false := by show PyData.eqvAll [] (_ :: _) = false; simp only [PyData.eqvAll]
theorem eqvs_cn (x : W) (xs : List W) : eqvWs (x :: xs) [] = false := by show PyData.eqvAll (_ :: _) [] = false; simp only [PyData.eqvAll]
theorem eqvs_cons (x y : W) (xs ys : List W) : eqvWs (x :: xs) (y :: ys) = (eqvW x y && eqvWs xs ys) := by show PyData.eqvAll (_ :: _) (_ :: _) = _; simp only [PyData.eqvAll]; rfl
theorem eqv_bl (a b : Bool) : eqvW (.bl a) (.bl b) = (a == b) := rfl
theorem eqv_str_int (i : Str) (j : Int) : eqvW (.str i) (.int j) = false := rfl
theorem eqv_int_str (i : Int) (j : Str) : eqvW (.int i) (.str j) = false := rfl
theorem eqv_non : eqvW .non .non = true := rfl
/-! flat -/
theorem flat_int (i : Int) : (W.int i).flat = true := by unfold W.flat W.isD W.dep; rfl
theorem flat_bl (i : Bool) : (W.bl i).flat = true := by unfold W.flat W.isD W.dep; rfl
theorem flat_str (x : Str) (h : PyData.strOk x = true) : (W.str x).flat = true := by unfold W.flat W.isD W.dep; rw [h]; rfl
theorem flat_tup (xs : List W) : (W.tup xs).flat = (isDs xs && decide (deps xs + 1 ≤ 60)) := by unfold W.flat W.isD W.dep; rfl
theorem flat_lst (xs : List W) : (W.lst xs).flat = (isDs xs && decide (deps xs + 1 ≤ 60)) := by unfold W.flat W.isD W.dep; rfl
theorem isDs_nil : isDs [] = true := by unfold isDs; rfl
theorem isDs_cons (w : W) (ws : List W) : isDs (w :: ws) = (w.isD && isDs ws) := by rw [isDs]
theorem isD_int (i : Int) : (W.int i).isD = true := by unfold W.isD; rfl
theorem isD_bl (i : Bool) : (W.bl i).isD = true := by unfold W.isD; rfl
theorem isD_non : W.non.isD = true := by unfold W.isD; rfl
theorem isD_str (x : Str) : (W.str x).isD = PyData.strOk x := by unfold W.isD; rfl
theorem isD_tup (xs : List W) : (W.tup xs).isD = isDs xs := by rw [W.isD]
theorem deps_nil : deps [] = 0 := by unfold deps; rfl
theorem deps_cons (w : W) (ws : List W) : deps (w :: ws) = max w.dep (deps ws) := by rw [deps]
theorem dep_int (i : Int) : (W.int i).dep = 0 := by unfold W.dep; rfl
theorem dep_bl (i : Bool) : (W.bl i).dep = 0 := by unfold W.dep; rfl
theorem dep_non : W.non.dep = 0 := by unfold W.dep; rfl
theorem dep_str (x : Str) : (W.str x).dep = 0 := by unfold W.dep; rfl
theorem dep_tup (xs : List W) : (W.tup xs).dep = deps xs + 1 := by rw [W.dep]
theorem isDs_map {α : Type} {f : α → W} : ∀ {l : List α}, (∀ a ∈ l, (f a).isD = true) → isDs (l.map f) = true
  | [], _ => isDs_nil
  | a :: l, h => by rw [List.map_cons, isDs_cons, h a List.mem_cons_self, isDs_map fun b hb => h b (List.mem_cons_of_mem _ hb)]; rfl
theorem deps_map {α : Type} {f : α → W} {d : Nat} : ∀ {l : List α}, (∀ a ∈ l, (f a).dep ≤ d) → deps (l.map f) ≤ d
  | [], _ => by rw [List.map_nil, deps_nil]; exact Nat.zero_le _
  | a :: l, h => by rw [List.map_cons, deps_cons]; exact Nat.max_le.mpr ⟨h a List.mem_cons_self, deps_map fun b hb => h b (List.mem_cons_of_mem _ hb)⟩
/-- data of a depth -/
structure Dt (d : Nat) (w : W) : Prop where
  isd : w.isD = true
  p : w.dep ≤ d
  l : ∀ n, w.low n = true
  c : w.noclo = true
theorem Dt.flat {d : Nat} {w : W} (h : Dt d w) (hd : d ≤ 60) : w.flat = true := by
  unfold W.flat
  rw [h.isd, decide_eq_true (Nat.le_trans h.p hd)]
  rfl
theorem Dt.mono {d d' : Nat} {w : W} (h : Dt d w) (hd : d ≤ d') : Dt d' w := ⟨h.isd, Nat.le_trans h.p hd, h.l, h.c⟩
theorem lows_map {α : Type} {f : α → W} {n : Nat} : ∀ {l : List α}, (∀ a ∈ l, (f a).low n = true) → lows n (l.map f) = true
  | [], _ => by rw [List.map_nil, lows]
  | a :: l, h => by rw [List.map_cons, lows, h a List.mem_cons_self, lows_map fun b hb => h b (List.mem_cons_of_mem _ hb)]; rfl
theorem dt_int (i : Int) : Dt 0 (.int i) := ⟨isD_int i, Nat.le_of_eq (dep_int i), fun n => by rw [W.low], by rw [W.noclo]⟩
theorem dt_bl (i : Bool) : Dt 0 (.bl i) := ⟨isD_bl i, Nat.le_of_eq (dep_bl i), fun n => by rw [W.low], by rw [W.noclo]⟩
theorem dt_non : Dt 0 .non := ⟨isD_non, Nat.le_of_eq dep_non, fun n => by rw [W.low], by rw [W.noclo]⟩
theorem dt_str {x : Str} (h : PyData.strOk x = true) : Dt 0 (.str x) := ⟨(isD_str x).trans h, Nat.le_of_eq (dep_str x), fun n => by rw [W.low], by rw [W.noclo]⟩
/-- data in a row -/
def Dts (d : Nat) (ws : List W) : Prop := ∀ w ∈ ws, Dt d w
theorem dts_nil {d : Nat} : Dts d [] := fun _ h => nomatch h
theorem dts_cons {d : Nat} {w : W} {ws : List W} (h : Dt d w) (r : Dts d ws) : Dts d (w :: ws) := fun u hu => by
  rcases List.mem_cons.mp hu with e | e
  · rw [e]; exact h
  · exact r u e
theorem dts_map {α : Type} {f : α → W} {d : Nat} {l : List α} (h : ∀ a ∈ l, Dt d (f a)) : Dts d (l.map f) := fun u hu => by
  obtain ⟨a, ha, rfl⟩ := List.mem_map.mp hu
  exact h a ha
theorem dts_app {d : Nat} {ws us : List W} (h : Dts d ws) (r : Dts d us) : Dts d (ws ++ us) := fun u hu => (List.mem_append.mp hu).elim (h u) (r u)
theorem Dts.isD {d : Nat} {ws : List W} (h : Dts d ws) : isDs ws = true := by have := isDs_map (f := id) (l := ws) fun a ha => (h a ha).isd; simpa using this
theorem Dts.dep {d : Nat} {ws : List W} (h : Dts d ws) : deps ws ≤ d := by have := deps_map (f := id) (l := ws) (d := d) fun a ha => (h a ha).p; simpa using this
theorem Dts.low {d : Nat} {ws : List W} (h : Dts d ws) (n : Nat) : lows n ws = true := by have := lows_map (f := id) (l := ws) (n := n) fun a ha => (h a ha).l n; simpa using this
theorem noclos_of {ws : List W} : (∀ w ∈ ws, w.noclo = true) → noclos ws = true := by
  induction ws with
  | nil => intro _; rw [noclos]
  | cons w ws ih => intro h; rw [noclos, h w List.mem_cons_self, ih fun b hb => h b (List.mem_cons_of_mem _ hb)]; rfl
theorem Dts.noc {d : Nat} {ws : List W} (h : Dts d ws) : noclos ws = true := noclos_of fun w hw => (h w hw).c
theorem dt_tup {d : Nat} {ws : List W} (h : Dts d ws) : Dt (d + 1) (.tup ws) := ⟨(isD_tup ws).trans h.isD, by rw [dep_tup]; exact Nat.succ_le_succ h.dep, fun n => by rw [W.low]; exact h.low n, by rw [W.noclo]; exact h.noc⟩
theorem Dts.flat {d : Nat} {ws : List W} (h : Dts d ws) (hd : d ≤ 60) : ws.all W.flat = true := List.all_eq_true.mpr fun w hw => (h w hw).flat hd

/-! compares -/
theorem cmp_eq_int (i j : Int) : cmpW .Eq (.int i) (.int j) st = some (decide (i = j)) := by
  show (if ((W.int i).flat && (W.int j).flat) = true then some (eqvW (.int i) (.int j)) else none) = _
  rw [flat_int, flat_int, eqv_int]; rfl
theorem cmp_lt_int (i j : Int) : cmpW .Lt (.int i) (.int j) st = some (decide (i < j)) := Eq.trans rfl rfl
theorem cmp_le_int (i j : Int) : cmpW .LtE (.int i) (.int j) st = some (decide (i ≤ j)) := Eq.trans rfl rfl
theorem cmp_gt_int (i j : Int) : cmpW .Gt (.int i) (.int j) st = some (decide (j < i)) := Eq.trans rfl rfl
theorem cmp_ge_int (i j : Int) : cmpW .GtE (.int i) (.int j) st = some (decide (j ≤ i)) := Eq.trans rfl rfl
theorem cmp_eq_val {a b : W} {d : Nat} (ha : Dt d (valW a st)) (hb : Dt d (valW b st)) (hd : d ≤ 60) : cmpW .Eq a b st = some (eqvW (valW a st) (valW b st)) := by
  show (if ((valW a st).flat && (valW b st).flat) = true then some (eqvW (valW a st) (valW b st)) else none) = _
  rw [ha.flat hd, hb.flat hd]; rfl
theorem cmp_ne_val {a b : W} {d : Nat} (ha : Dt d (valW a st)) (hb : Dt d (valW b st)) (hd : d ≤ 60) : cmpW .NotEq a b st = some (!eqvW (valW a st) (valW b st)) := by
  show (if ((valW a st).flat && (valW b st).flat) = true then some (!eqvW (valW a st) (valW b st)) else none) = _
  rw [ha.flat hd, hb.flat hd]; rfl
theorem cmp_in_tup {a : W} {ws : List W} {d : Nat} (ha : Dt d a) (hb : Dts d ws) (hv : valW a st = a) (hs : isStr a = none) (hd : d ≤ 60) : cmpW .In a (.tup ws) st = some (inW a ws) := by
  have e : cmpW .In a (.tup ws) st = (if ((valW a st).flat && ws.all W.flat) = true then some (inW (valW a st) ws) else none) := by
    unfold cmpW
    rw [hv]
    cases a <;> first | rfl | cases hs
  rw [e, hv, ha.flat hd, hb.flat hd]; rfl
theorem cmp_in_str {x : Str} {ws : List W} {d : Nat} (ha : PyData.strOk x = true) (hb : Dts d ws) (hd : d ≤ 60) : cmpW .In (.str x) (.tup ws) st = some (inW (.str x) ws) := by
  show (if ((W.str x).flat && ws.all W.flat) = true then some (inW (.str x) ws) else none) = _
  rw [(dt_str ha).flat (Nat.zero_le _), hb.flat hd]; rfl
theorem cmp_nin_tup {a : W} {ws : List W} {d : Nat} (ha : Dt d a) (hb : Dts d ws) (hv : valW a st = a) (hs : isStr a = none) (hd : d ≤ 60) : cmpW .NotIn a (.tup ws) st = some (!inW a ws) := by
  have e : cmpW .NotIn a (.tup ws) st = (if ((valW a st).flat && ws.all W.flat) = true then some (!inW (valW a st) ws) else none) := by
    unfold cmpW
    rw [hv]
    cases a <;> first | rfl | cases hs
  rw [e, hv, ha.flat hd, hb.flat hd]; rfl
theorem cmp_nin_lst {a : W} {ws : List W} {d : Nat} (ha : Dt d a) (hb : Dts d ws) (hv : valW a st = a) (hs : isStr a = none) (hd : d ≤ 60) : cmpW .NotIn a (.lst ws) st = some (!inW a ws) := by
  have e : cmpW .NotIn a (.lst ws) st = (if ((valW a st).flat && ws.all W.flat) = true then some (!inW (valW a st) ws) else none) := by
    unfold cmpW
    rw [hv]
    cases a <;> first | rfl | cases hs
  rw [e, hv, ha.flat hd, hb.flat hd]; rfl
theorem inW_int (i : Int) (l : List Int) : inW (.int i) (l.map W.int) = decide (i ∈ l) := by
  unfold inW
  rw [List.any_map]
  induction l with
  | nil => simp
  | cons a l ih =>
    rw [List.any_cons, ih]
    show (eqvW (.int a) (.int i) || _) = _
    rw [eqv_int]
    by_cases h : a = i
    · subst h; simp
    · have h' : ¬ i = a := fun e => h e.symm
      simp [h, h']
/-! numbers -/
theorem bin_add_int (i j : Int) : binW .Add (.int i) (.int j) st = some (.int (i + j)) := Eq.trans rfl rfl
theorem bin_sub_int (i j : Int) : binW .Sub (.int i) (.int j) st = some (.int (i - j)) := Eq.trans rfl rfl
theorem bin_mul_int (i j : Int) (h : cmul i j = true) : binW .Mult (.int i) (.int j) st = some (.int (i * j)) := by show (if cmul i j = true then some (W.int (i * j)) else none) = _; rw [if_pos h]
theorem bin_add_tup (xs ys : List W) (h : xs.length + ys.length ≤ SZ) : binW .Add (.tup xs) (.tup ys) st = some (.tup (xs ++ ys)) := by show (if xs.length + ys.length ≤ SZ then _ else _) = _; rw [if_pos h]
/-! sequences -/
theorem seq_tup (xs : List W) : seqOf (.tup xs) st = some xs := Eq.trans rfl rfl
theorem seq_lst (xs : List W) : seqOf (.lst xs) st = some xs := Eq.trans rfl rfl
theorem lst_lst (xs : List W) : lstOf (.lst xs) st = some xs := Eq.trans rfl rfl
theorem items_tup (xs : List W) : itemsOf (.tup xs) st = some xs := Eq.trans rfl rfl
theorem items_lst (xs : List W) : itemsOf (.lst xs) st = some xs := Eq.trans rfl rfl
theorem gd_tup (xs : List W) (ys : List W) : gdOf (.tup xs) ys = [] := Eq.trans rfl rfl
theorem gd_lst (xs : List W) (ys : List W) : gdOf (.lst xs) ys = [] := Eq.trans rfl rfl
theorem isT_tup (xs : List W) : isTup (.tup xs) = true := Eq.trans rfl rfl
theorem isT_lst (xs : List W) : isTup (.lst xs) = false := Eq.trans rfl rfl
theorem bi_len_tup (xs : List W) : biW .len [.tup xs] st = some (.int xs.length) := Eq.trans rfl rfl
theorem bi_len_lst (xs : List W) : biW .len [.lst xs] st = some (.int xs.length) := Eq.trans rfl rfl
theorem bi_tuple_lst (xs : List W) : biW .tuple [.lst xs] st = some (.tup xs) := Eq.trans rfl rfl
theorem bi_min2 (i j : Int) : biW .min2 [.int i, .int j] st = some (.int (if j < i then j else i)) := Eq.trans rfl rfl
theorem bi_max2 (i j : Int) : biW .max2 [.int i, .int j] st = some (.int (if j > i then j else i)) := Eq.trans rfl rfl
theorem bi_int (i : Int) : biW .int [.int i] st = some (.int i) := Eq.trans rfl rfl
theorem bi_abs (i : Int) : biW .abs [.int i] st = some (.int (if i < 0 then -i else i)) := Eq.trans rfl rfl
theorem asBools_map {α : Type} (f : α → Bool) : ∀ l : List α, asBools (l.map fun a => W.bl (f a)) = some (l.map f)
  | [] => rfl
  | a :: l => by
    show (asBools (l.map fun a => W.bl (f a))).map (f a :: ·) = _
    rw [asBools_map f l]; rfl
theorem asInts_map {α : Type} (f : α → Int) : ∀ l : List α, asInts (l.map fun a => W.int (f a)) = some (l.map f)
  | [] => rfl
  | a :: l => by
    show (asInts (l.map fun a => W.int (f a))).map (f a :: ·) = _
    rw [asInts_map f l]; rfl
theorem bi_all {α : Type} (f : α → Bool) (l : List α) : biW .all [.lst (l.map fun a => W.bl (f a))] st = some (.bl (l.all f)) := by
  show (asBools (l.map fun a => W.bl (f a))).map (fun bs => W.bl (bs.all id)) = _
  rw [asBools_map f l, Option.map_some, List.all_map]; rfl
theorem bi_any {α : Type} (f : α → Bool) (l : List α) : biW .any [.lst (l.map fun a => W.bl (f a))] st = some (.bl (l.any f)) := by
  show (asBools (l.map fun a => W.bl (f a))).map (fun bs => W.bl (bs.any id)) = _
  rw [asBools_map f l, Option.map_some, List.any_map]; rfl
theorem bi_sum {α : Type} (f : α → Int) (l : List α) : biW .sum [.lst (l.map fun a => W.int (f a))] st = some (.int (l.map f).sum) := by
  show (asInts (l.map fun a => W.int (f a))).map (fun bs => W.int bs.sum) = _
  rw [asInts_map f l]; rfl
theorem ix_tup {ws : List W} {i : Int} {w : W} (h : L2.atI ws i = some w) : ixW (.tup ws) (.int i) st = some w := h
theorem ix_lst {ws : List W} {i : Int} {w : W} (h : L2.atI ws i = some w) : ixW (.lst ws) (.int i) st = some w := h
theorem sl_tup (xs : List W) (lo hi : Option Int) : slW (.tup xs) lo hi st = some (.tup (cutW xs lo hi)) := Eq.trans rfl rfl
theorem sl_lst (xs : List W) (lo hi : Option Int) : slW (.lst xs) lo hi st = some (.lst (cutW xs lo hi)) := rfl
theorem val_tup (xs : List W) : valW (.tup xs) st = .tup xs := Eq.trans rfl rfl
theorem val_lst (xs : List W) : valW (.lst xs) st = .lst xs := Eq.trans rfl rfl
theorem val_int (i : Int) : valW (.int i) st = .int i := Eq.trans rfl rfl
theorem val_str (i : Str) : valW (.str i) st = .str i := Eq.trans rfl rfl
end
end Pf

/-! part Q3 -/
set_option Elab.async false
set_option linter.all false
set_option maxRecDepth 100000
set_option autoImplicit false
set_option maxHeartbeats 1000000
/-! Rows of values. -/
namespace Pf
open PySem L2

def nW (n : Nat) : W := .int (n : Int)
theorem dt_n (n : Nat) : Dt 0 (nW n) := dt_int _
theorem zipL_map {α β : Type} (f : α → W) (g : β → W) : ∀ (l : List α) (m : List β), zipL (l.map f) (m.map g) = (l.zip m).map fun p => .tup [f p.1, g p.2]
  | [], m => by cases m <;> rfl
  | a :: l, [] => rfl
  | a :: l, b :: m => by
    rw [List.map_cons, List.map_cons, zipL, zipL_map f g l m]
    rfl
theorem enumL_map {α : Type} (f : α → W) : ∀ (l : List α) (k : Nat), enumL k (l.map f) = (l.zipIdx k).map fun p => .tup [nW p.2, f p.1]
  | [], k => rfl
  | a :: l, k => by
    rw [List.map_cons, enumL, enumL_map f l (k + 1)]
    rfl
theorem enumL_eq (ws : List W) (k : Nat) : enumL k ws = (ws.zipIdx k).map fun p => .tup [nW p.2, p.1] := by
  have h := enumL_map id ws k
  rw [List.map_id] at h
  exact h
theorem enumL_len : ∀ (l : List W) (k : Nat), (enumL k l).length = l.length
  | [], k => rfl
  | a :: l, k => by rw [enumL, List.length_cons, enumL_len l (k + 1), List.length_cons]
theorem zipL_len : ∀ (l m : List W), (zipL l m).length ≤ l.length
  | [], m => by cases m <;> exact Nat.zero_le _
  | a :: l, [] => Nat.zero_le _
  | a :: l, b :: m => by rw [zipL, List.length_cons, List.length_cons]; exact Nat.succ_le_succ (zipL_len l m)
theorem cut_from {α : Type} (xs : List α) (k : Nat) : cutW xs (some (k : Int)) none = xs.drop k := by
  unfold cutW
  rw [show HT.sIx xs.length 0 (some (k : Int)) = min k xs.length from HT.sIx_nat _ _ _, show HT.sIx xs.length xs.length none = xs.length from rfl]
  rw [List.take_of_length_le (by simp)]
  by_cases h : k ≤ xs.length
  · rw [Nat.min_eq_left h]
  · rw [Nat.min_eq_right (by omega), List.drop_length, List.drop_eq_nil_of_le (by omega)]
theorem cut_to {α : Type} (xs : List α) (k : Nat) : cutW xs none (some (k : Int)) = xs.take k := by
  unfold cutW
  rw [show HT.sIx xs.length 0 none = 0 from rfl, show HT.sIx xs.length xs.length (some (k : Int)) = min k xs.length from HT.sIx_nat _ _ _, List.drop_zero, Nat.sub_zero]
  by_cases h : k ≤ xs.length
  · rw [Nat.min_eq_left h]
  · rw [Nat.min_eq_right (by omega), List.take_length, List.take_of_length_le (by omega)]
theorem cut_1 {α : Type} (xs : List α) : cutW xs (some 1) none = xs.drop 1 := cut_from xs 1
theorem cut_m1 {α : Type} (xs : List α) (x : α) : cutW (xs ++ [x]) none (some (-1)) = xs := by
  unfold cutW
  have e : HT.sIx (xs ++ [x]).length (xs ++ [x]).length (some (-1)) = xs.length := by
    show (if (-1 : Int) < 0 then ((-1 : Int) + ((xs ++ [x]).length : Int)).toNat else min (-1 : Int).toNat (xs ++ [x]).length) = xs.length
    rw [if_pos (by decide), List.length_append, List.length_singleton]
    omega
  rw [e, show HT.sIx (xs ++ [x]).length 0 none = 0 from rfl, List.drop_zero, Nat.sub_zero, List.take_left]
theorem at_nat {α : Type} (xs : List α) (k : Nat) : L2.atI xs (k : Int) = xs[k]? := by
  unfold L2.atI L2.ixN
  rw [if_pos (by omega)]
  by_cases h : k < xs.length
  · rw [if_pos (by omega), Option.bind_some, Int.toNat_natCast]
  · rw [if_neg (by omega), Option.bind_none, List.getElem?_eq_none (by omega)]
theorem at_m1 {α : Type} (xs : List α) (x : α) : L2.atI (xs ++ [x]) (-1) = some x := by
  unfold L2.atI L2.ixN
  rw [if_neg (by decide), if_pos (by rw [List.length_append]; simp; omega), Option.bind_some]
  have : (-1 + ((xs ++ [x]).length : Int)).toNat = xs.length := by rw [List.length_append, List.length_singleton]; omega
  rw [this]
  simp
theorem at_map {α : Type} (f : α → W) (l : List α) (k : Nat) : L2.atI (l.map f) (k : Int) = l[k]?.map f := by rw [at_nat, List.getElem?_map]
theorem ixw_tup (ws : List W) (i : Int) (st : St) : ixW (.tup ws) (.int i) st = L2.atI ws i := rfl
theorem ixw_lst (ws : List W) (i : Int) (st : St) : ixW (.lst ws) (.int i) st = L2.atI ws i := rfl
theorem at_0 (a : W) (r : List W) : L2.atI (a :: r) 0 = some a := at_nat (a :: r) 0
theorem at_1 (a b : W) (r : List W) : L2.atI (a :: b :: r) 1 = some b := at_nat (a :: b :: r) 1
theorem at_2 (a b c : W) (r : List W) : L2.atI (a :: b :: c :: r) 2 = some c := at_nat (a :: b :: c :: r) 2
theorem at_3 (a b c d : W) (r : List W) : L2.atI (a :: b :: c :: d :: r) 3 = some d := at_nat (a :: b :: c :: d :: r) 3
theorem at_4 (a b c d x : W) (r : List W) : L2.atI (a :: b :: c :: d :: x :: r) 4 = some x := at_nat (a :: b :: c :: d :: x :: r) 4
theorem at_5 (a b c d x y : W) (r : List W) : L2.atI (a :: b :: c :: d :: x :: y :: r) 5 = some y := at_nat (a :: b :: c :: d :: x :: y :: r) 5
theorem at_6 (a b c d x y z : W) (r : List W) : L2.atI (a :: b :: c :: d :: x :: y :: z :: r) 6 = some z := at_nat (a :: b :: c :: d :: x :: y :: z :: r) 6
theorem at_m1_1 (a : W) : L2.atI [a] (-1) = some a := at_m1 [] a
theorem at_m1_2 (a b : W) : L2.atI [a, b] (-1) = some b := at_m1 [a] b
theorem at_m1_3 (a b c : W) : L2.atI [a, b, c] (-1) = some c := at_m1 [a, b] c
theorem cut_m1_1 (a : W) : cutW [a] none (some (-1)) = [] := cut_m1 [] a
theorem cut_m1_2 (a b : W) : cutW [a, b] none (some (-1)) = [a] := cut_m1 [a] b
theorem cut_m1_3 (a b c : W) : cutW [a, b, c] none (some (-1)) = [a, b] := cut_m1 [a, b] c
theorem eqv_n (a b : Nat) : eqvW (nW a) (nW b) = decide (a = b) := by
  unfold nW
  rw [eqv_int]
  by_cases h : a = b
  · simp [h]
  · rw [decide_eq_false h, decide_eq_false (by omega)]
theorem inW_n (i : Nat) (l : List Nat) : inW (nW i) (l.map nW) = decide (i ∈ l) := by
  unfold inW
  rw [List.any_map]
  induction l with
  | nil => simp
  | cons a l ih =>
    rw [List.any_cons, ih]
    show (eqvW (nW a) (nW i) || _) = _
    rw [eqv_n]
    by_cases h : a = i
    · subst h; simp
    · have h' : ¬ i = a := fun e => h e.symm
      simp [h, h']
/-- ascending -/
def risB (l : List Nat) : Bool := (l.zip (l.drop 1)).all fun p => decide (p.1 < p.2)
/-- unlike -/
def unlB (l : List Nat) : Bool := (l.zipIdx).all fun p => !decide (p.1 ∈ l.take p.2)

/-! ### cells that are sound -/
structure St.Okn (st : St) : Prop where
  ok : st.Ok
  nc : st.all Cell.noclo = true

mutual
theorem low_mono {n m : Nat} (h : n ≤ m) : ∀ w : W, w.low n = true → w.low m = true
  | .tup xs, z => by rw [W.low] at z ⊢; exact lows_mono h xs z
  | .lst xs, z => by rw [W.low] at z ⊢; exact lows_mono h xs z
  | .dic _ xs, z => by rw [W.low] at z ⊢; exact lows_mono h xs z
  | .obj _ _ xs, z => by rw [W.low] at z ⊢; exact lows_mono h xs z
  | .clo _ xs, z => by rw [W.low] at z ⊢; exact lows_mono h xs z
  | .ref i, z => by
    rw [W.low, decide_eq_true_eq] at z ⊢
    omega
  | .non, _ => by rw [W.low]
  | .bl _, _ => by rw [W.low]
  | .int _, _ => by rw [W.low]
  | .str _, _ => by rw [W.low]
  | .glo _, _ => by rw [W.low]
  | .ty _, _ => by rw [W.low]
theorem lows_mono {n m : Nat} (h : n ≤ m) : ∀ ws : List W, lows n ws = true → lows m ws = true
  | [], _ => by rw [lows]
  | w :: ws, z => by
    rw [lows, Bool.and_eq_true] at z ⊢
    exact ⟨low_mono h w z.1, lows_mono h ws z.2⟩
end
theorem cell_mono {n m : Nat} (h : n ≤ m) (c : Cell) (z : c.low n = true) : c.low m = true := by
  cases c with
  | lst xs => exact lows_mono h xs z
  | ins c fs xs => exact lows_mono h xs z
theorem okn_app {st : St} {c : Cell} (h : st.Okn) (h1 : c.low (st.length + 1) = true) (h2 : c.noclo = true) : St.Okn (st ++ [c]) := by
  refine ⟨?_, ?_⟩
  · show (st ++ [c]).all (Cell.low (st ++ [c]).length) = true
    rw [List.length_append, List.length_singleton, List.all_append, List.all_cons, List.all_nil, h1, Bool.and_true, Bool.and_true, List.all_eq_true]
    exact fun x hx => cell_mono (Nat.le_succ _) x (List.all_eq_true.mp h.ok x hx)
  · rw [List.all_append, h.nc, List.all_cons, List.all_nil, h2]; rfl
theorem okn_nil : St.Okn [] := ⟨rfl, rfl⟩
theorem app_get (st : St) (c : Cell) : (st ++ [c])[st.length]? = some c := by simp
theorem app_set (st : St) (c d : Cell) : (st ++ [c]).set st.length d = st ++ [d] := by simp
theorem setF_last {C : Cf} {st : St} {c : Str} {fs : List Str} {xs : List W} {f : Str} {w : W} (ha : C.att c f = true) (hf : f ∉ fs) (hl : fs.length < 1000) : setF C (.ref st.length) f w (st ++ [.ins c fs xs]) = .ok () (st ++ [.ins c (fs ++ [f]) (xs ++ [w])]) := by
  unfold setF
  simp only [app_get]
  rw [if_pos ⟨ha, hl⟩, if_neg hf, app_set]
theorem fin_okS {mu : Bool} {n : Nat} {st : St} {ρ : Ρ} (ho : st.Okn) (hn : n = st.length) : fin mu n (.ok (.nx ρ) st) = .ok .non st := by
  subst hn
  unfold fin
  simp only [List.take_length]
  rw [if_pos (by rw [show st.all (Cell.low st.length) = true from ho.ok, decide_eq_true (Nat.le_refl _)]; rfl), if_pos (show W.low st.length W.non = true by rw [W.low])]
/-! ### the data of halls -/
def nameB (x : Str) : Bool := decide (1 ≤ x.length ∧ x.length ≤ 8) && x.cps.toList.all fun c => decide (97 ≤ c ∧ c ≤ 122)
structure Turn (κ : Type) where
  kind : κ
  first : Nat
  last : Nat
  len : Nat
  hand : Bool
  pts : Nat
structure Hl (κ : Type) where
  machines : List κ
  slots : Nat
  hands : List Nat
  clean : List (κ × Nat)
  breaks : Nat
  repair : Nat
  ills : Nat
inductive Pl where
  | free
  | runs (t l : Nat)
  | clean (l : Nat)
  | broken (l : Nat)
  deriving DecidableEq
structure Sat where
  slot : Nat
  places : List Pl
  done : List Nat
  breaks : Nat
  ills : Nat
  deriving DecidableEq
structure Names {κ : Type} (e : κ → Str) : Prop where
  inj : ∀ a b, e a = e b → a = b
  nm : ∀ a, nameB (e a) = true
section
variable {κ : Type} [DecidableEq κ] (e : κ → Str)
def kW (k : κ) : W := .str (e k)
def tuW (t : Turn κ) : W := .tup [kW e t.kind, nW t.first, nW t.last, nW t.len, .bl t.hand, nW t.pts]
def loW (l : List (Turn κ)) : W := .tup (l.map (tuW e))
def plW : Pl → W
  | .free => .tup [.str "free"]
  | .runs t l => .tup [.str "runs", nW t, nW l]
  | .clean l => .tup [.str "clean", nW l]
  | .broken l => .tup [.str "broken", nW l]
def plsW (l : List Pl) : W := .tup (l.map plW)
def nsW (l : List Nat) : W := .tup (l.map nW)
def saW (s : Sat) : W := .tup [nW s.slot, plsW s.places, nsW s.done, nW s.breaks, nW s.ills]
def mvW (m : List Nat × Nat) : W := .tup [nsW m.1, nW m.2]
def prW (p : Nat × Nat) : W := .tup [nW p.1, nW p.2]
def orW (o : List (Nat × Nat)) : W := .tup (o.map prW)
def cnW (p : κ × Nat) : W := .tup [kW e p.1, nW p.2]
def hlW (h : Hl κ) : W := .obj "Hall" ["machines", "slots", "hands", "clean", "breaks", "repair", "ills"] [.tup (h.machines.map (kW e)), nW h.slots, nsW h.hands, .tup (h.clean.map (cnW e)), nW h.breaks, nW h.repair, nW h.ills]
variable {e}
theorem Names.ok (E : Names e) (a : κ) : PyData.strOk (e a) = true := by
  have h := E.nm a
  unfold nameB at h
  rw [Bool.and_eq_true, List.all_eq_true] at h
  unfold PyData.strOk
  rw [Array.all_eq_true_iff_forall_mem]
  intro c hc
  have := h.2 c (Array.mem_toList_iff.mpr hc)
  rw [decide_eq_true_eq] at this ⊢
  omega
theorem dt_k (E : Names e) (a : κ) : Dt 0 (kW e a) := dt_str (E.ok a)
theorem strOk_lit : PyData.strOk "free" = true ∧ PyData.strOk "runs" = true ∧ PyData.strOk "clean" = true ∧ PyData.strOk "broken" = true := by decide +kernel
theorem dt_tu (E : Names e) (t : Turn κ) : Dt 1 (tuW e t) := dt_tup (dts_cons (dt_k E _) (dts_cons (dt_n _) (dts_cons (dt_n _) (dts_cons (dt_n _) (dts_cons (dt_bl _) (dts_cons (dt_n _) dts_nil))))))
theorem dt_lo (E : Names e) (l : List (Turn κ)) : Dt 2 (loW e l) := dt_tup (dts_map fun t _ => dt_tu E t)
theorem dt_pl (p : Pl) : Dt 1 (plW p) := by
  cases p with
  | free => exact dt_tup (dts_cons (dt_str strOk_lit.1) dts_nil)
  | runs t l => exact dt_tup (dts_cons (dt_str strOk_lit.2.1) (dts_cons (dt_n _) (dts_cons (dt_n _) dts_nil)))
  | clean l => exact dt_tup (dts_cons (dt_str strOk_lit.2.2.1) (dts_cons (dt_n _) dts_nil))
  | broken l => exact dt_tup (dts_cons (dt_str strOk_lit.2.2.2) (dts_cons (dt_n _) dts_nil))
theorem dt_pls (l : List Pl) : Dt 2 (plsW l) := dt_tup (dts_map fun p _ => dt_pl p)
theorem dt_ns (l : List Nat) : Dt 1 (nsW l) := dt_tup (dts_map fun p _ => dt_n p)
theorem dt_sa (s : Sat) : Dt 3 (saW s) := dt_tup (dts_cons ((dt_n _).mono (by decide)) (dts_cons (dt_pls _) (dts_cons ((dt_ns _).mono (by decide)) (dts_cons ((dt_n _).mono (by decide)) (dts_cons ((dt_n _).mono (by decide)) dts_nil)))))
theorem dt_mv (m : List Nat × Nat) : Dt 2 (mvW m) := dt_tup (dts_cons (dt_ns _) (dts_cons ((dt_n _).mono (by decide)) dts_nil))
theorem dt_pr (p : Nat × Nat) : Dt 1 (prW p) := dt_tup (dts_cons (dt_n _) (dts_cons (dt_n _) dts_nil))
theorem dt_or (o : List (Nat × Nat)) : Dt 2 (orW o) := dt_tup (dts_map fun p _ => dt_pr p)
theorem dt_cn (E : Names e) (p : κ × Nat) : Dt 1 (cnW e p) := dt_tup (dts_cons (dt_k E _) (dts_cons (dt_n _) dts_nil))
theorem eqv_k (E : Names e) (a b : κ) : eqvW (kW e a) (kW e b) = decide (a = b) := by
  unfold kW
  rw [eqv_str]
  by_cases h : a = b
  · subst h; simp
  · have : ¬ e a = e b := fun z => h (E.inj _ _ z)
    simp [h, this]
theorem eqv_free (p : Pl) : eqvW (plW p) (.tup [.str "free"]) = decide (p = .free) := by
  cases p with
  | free => unfold plW; rw [eqv_tup, eqvs_cons, eqvs_nil, eqv_str]; rfl
  | runs t l => unfold plW; rw [eqv_tup, eqvs_cons, eqvs_cn]; simp
  | clean l => unfold plW; rw [eqv_tup, eqvs_cons, eqvs_cn]; simp
  | broken l => unfold plW; rw [eqv_tup, eqvs_cons, eqvs_cn]; simp
/-- halls that can be made -/
structure HlOk (e : κ → Str) (h : Hl κ) : Prop where
  m1 : 1 ≤ h.machines.length
  m2 : h.machines.length ≤ 2
  s1 : 1 ≤ h.slots
  s2 : h.slots ≤ 5
  hl : h.hands.length = h.slots
  h2 : ∀ x ∈ h.hands, x ≤ 2
  cm : ∀ p ∈ h.clean, p.1 ∈ h.machines ∧ p.2 ≤ 2
  ca : ∀ i p q, h.clean[i]? = some p → h.clean[i + 1]? = some q → (e p.1).cps.toList < (e q.1).cps.toList
  b2 : h.breaks ≤ 2
  r1 : 1 ≤ h.repair
  r2 : h.repair ≤ 3
  i2 : h.ills ≤ 2
def cleanF (h : Hl κ) (k : κ) : Nat := ((h.clean.filter fun p => decide (p.1 = k)).map (·.2)).sum
theorem inW_k (E : Names e) (a : κ) (l : List κ) : inW (kW e a) (l.map (kW e)) = decide (a ∈ l) := by
  unfold inW
  rw [List.any_map]
  induction l with
  | nil => simp
  | cons b l ih =>
    rw [List.any_cons, ih]
    show (eqvW (kW e b) (kW e a) || _) = _
    rw [eqv_k E]
    by_cases h : b = a
    · subst h; simp
    · have h' : ¬ a = b := fun e => h e.symm
      simp [h, h']
theorem low_of {d : Nat} {w : W} (h : Dt d w) (n : Nat) : w.low n = true := h.l n
end
end Pf

/-! part Q4 -/
set_option Elab.async false
set_option linter.all false
set_option maxRecDepth 100000
set_option autoImplicit false
set_option maxHeartbeats 1000000
/-! Cells that are read, numbers in order, words. -/
namespace Pf
open PySem L2

/-- a row of values, by value or in a cell -/
structure SeqAt (w : W) (xs : List W) (st : St) : Prop where
  seq : seqOf w st = some xs
  items : itemsOf w st = some xs
  gd : M.chkG (gdOf w xs) st = .ok () st
  ix : ∀ i, ixW w (.int i) st = L2.atI xs i
  len : biW .len [w] st = some (.int xs.length)
theorem seqAt_tup (xs : List W) (st : St) : SeqAt (.tup xs) xs st := ⟨rfl, rfl, run_chkG st, fun _ => rfl, rfl⟩
theorem seqAt_lst (xs : List W) (st : St) : SeqAt (.lst xs) xs st := ⟨rfl, rfl, run_chkG st, fun _ => rfl, rfl⟩
theorem seqAt_ref {i : Nat} {xs : List W} {st : St} (h : st[i]? = some (.lst xs)) : SeqAt (.ref i) xs st := by
  have e : seqOf (.ref i) st = some xs := by
    show (match st[i]? with | some (.lst xs) => some xs | _ => none) = _
    rw [h]
  refine ⟨e, e, chkG_one h, fun j => ?_, ?_⟩
  · show (seqOf (.ref i) st).bind (fun xs => ixW.atI xs j) = _
    rw [e]; rfl
  · show (match isStr (.ref i) with
      | some x => if x.length ≤ SZ then some (W.int x.length) else none
      | none => (seqOf (.ref i) st).map fun (xs : List W) => W.int xs.length) = _
    rw [e]; rfl
section
variable (C : Cf) (ρ : Ρ)
def turnO (t : Tg) (ifs : As) (it2 : Ex) (ρ : Ρ) (x : W) : M (Option (Ρ × List W × Gd)) := asg C t x ρ >>= fun ρ2 => evT C ifs ρ2 >>= fun b => if b = true then evI C it2 ρ2 >>= fun ys => M.chk (decide (ys.1.length ≤ 4096)) >>= fun _ => pure (some (ρ2, ys.1, ys.2)) else pure none
def turnI (elt : Ex) (t2 : Tg) (ifs2 : As) (own2 : List Nat) : Option (Ρ × List W × Gd) → M (List W)
  | some r => compL r.2.2 (fun y => M.nox (turnC C elt t2 ifs2 (wipeW r.1 own2) y)) r.2.1
  | none => pure []
def turn2C (elt : Ex) (t : Tg) (ifs : As) (t2 : Tg) (it2 : Ex) (ifs2 : As) (own2 : List Nat) (ρ : Ρ) (x : W) : M (List W) := M.nox (turnO C t ifs it2 ρ x) >>= turnI C elt t2 ifs2 own2
theorem ev_comp2 (elt : Ex) (t : Tg) (it : Ex) (ifs : As) (t2 : Tg) (it2 : Ex) (ifs2 : As) (own own2 : List Nat) : ev C (.comp2 elt t it ifs t2 it2 ifs2 own own2) ρ = (evI C it ρ >>= fun xs => M.chk (decide (xs.1.length ≤ 4096)) >>= fun _ => compL xs.2 (turn2C C elt t ifs t2 it2 ifs2 own2 (wipeW ρ own)) xs.1 >>= fun ws => pure (.lst ws)) := Eq.trans rfl rfl
theorem evC_comp2 (elt : Ex) (t : Tg) (it : Ex) (ifs : As) (t2 : Tg) (it2 : Ex) (ifs2 : As) (own own2 : List Nat) : evC C (.comp2 elt t it ifs t2 it2 ifs2 own own2) ρ = (evI C it ρ >>= fun xs => M.chk (decide (xs.1.length ≤ 4096)) >>= fun _ => compL xs.2 (turn2C C elt t ifs t2 it2 ifs2 own2 (wipeW ρ own)) xs.1) := Eq.trans rfl rfl
theorem turnI_some (elt : Ex) (t2 : Tg) (ifs2 : As) (own2 : List Nat) (ρ : Ρ) (ys : List W) (gd : Gd) : turnI C elt t2 ifs2 own2 (some (ρ, ys, gd)) = compL gd (fun y => M.nox (turnC C elt t2 ifs2 (wipeW ρ own2) y)) ys := Eq.trans rfl rfl
theorem turnI_none (elt : Ex) (t2 : Tg) (ifs2 : As) (own2 : List Nat) : turnI C elt t2 ifs2 own2 none = pure [] := Eq.trans rfl rfl
end
/-! numbers in order -/
theorem leW_n (a b : Nat) : leW (nW a) (nW b) = decide (a ≤ b) := by
  show (!PySem.W.dataLt (.int (b : Int)) (.int (a : Int))) = _
  rw [PySem.W.dataLt_int]
  by_cases h : a ≤ b
  · rw [decide_eq_true h, decide_eq_false (by omega)]; rfl
  · rw [decide_eq_false h, decide_eq_true (by omega)]; rfl
theorem srt_n (l : List Nat) : srtW (l.map nW) = some ((l.mergeSort fun a b => decide (a ≤ b)).map nW) := by
  have h1 : srtOk (l.map nW) = true := by
    unfold srtOk
    rw [Bool.and_eq_true, Bool.and_eq_true]
    refine ⟨⟨(dts_map (d := 0) fun a _ => dt_n a : Dts 0 (l.map nW)).flat (by decide), ?_⟩, ?_⟩
    · rw [List.all_eq_true]
      intro a ha
      obtain ⟨x, _, rfl⟩ := List.mem_map.mp ha
      rw [List.all_eq_true]
      intro b hb
      obtain ⟨y, _, rfl⟩ := List.mem_map.mp hb
      show PySem.W.alike (.int x) (.int y) = true
      simp only [PySem.W.alike]
    · rw [Bool.or_eq_true]
      refine .inr (List.all_eq_true.mpr fun a ha => ?_)
      obtain ⟨x, _, rfl⟩ := List.mem_map.mp ha
      rfl
  unfold srtW
  rw [if_pos h1, List.map_mergeSort (s := leW) fun a _ b _ => (leW_n a b).symm]
theorem bi_sorted_n (l : List Nat) (st : St) : biW .sorted [.lst (l.map nW)] st = some (.lst ((l.mergeSort fun a b => decide (a ≤ b)).map nW)) := by
  show (some (l.map nW)).bind (fun xs => (srtW xs).map W.lst) = _
  rw [Option.bind_some, srt_n]; rfl
theorem bi_tuple_seq {w : W} {xs : List W} {st : St} (h : SeqAt w xs st) : biW .tuple [w] st = some (.tup xs) := by
  show (seqOf w st).map W.tup = _
  rw [h.seq]; rfl
/-! words -/
theorem wd_ne : decide (("free" : Str) = "runs") = false ∧ decide (("clean" : Str) = "runs") = false ∧ decide (("broken" : Str) = "runs") = false ∧ decide (("free" : Str) = "broken") = false ∧ decide (("runs" : Str) = "broken") = false ∧ decide (("clean" : Str) = "broken") = false ∧
    decide (("free" : Str) = "clean") = false ∧ decide (("runs" : Str) = "clean") = false ∧ decide (("broken" : Str) = "clean") = false ∧ decide (("runs" : Str) = "free") = false ∧ decide (("clean" : Str) = "free") = false ∧ decide (("broken" : Str) = "free") = false := by decide +kernel
def Pl.word : Pl → Str
  | .free => "free"
  | .runs _ _ => "runs"
  | .clean _ => "clean"
  | .broken _ => "broken"
def Pl.nums : Pl → List Nat
  | .free => []
  | .runs t l => [t, l]
  | .clean l => [l]
  | .broken l => [l]
theorem plW_eq (p : Pl) : plW p = .tup (.str p.word :: p.nums.map nW) := by cases p <;> rfl
theorem word_ok (p : Pl) : PyData.strOk p.word = true := by
  cases p
  · exact strOk_lit.1
  · exact strOk_lit.2.1
  · exact strOk_lit.2.2.1
  · exact strOk_lit.2.2.2
def Pl.isRuns : Pl → Bool
  | .runs _ _ => true
  | _ => false
def Pl.isBroken : Pl → Bool
  | .broken _ => true
  | _ => false
theorem word_runs (p : Pl) : decide (p.word = "runs") = p.isRuns := by
  cases p
  · exact wd_ne.1
  · exact decide_eq_true rfl
  · exact wd_ne.2.1
  · exact wd_ne.2.2.1
theorem word_broken (p : Pl) : decide (p.word = "broken") = p.isBroken := by
  cases p
  · exact wd_ne.2.2.2.1
  · exact wd_ne.2.2.2.2.1
  · exact wd_ne.2.2.2.2.2.1
  · exact decide_eq_true rfl
theorem cmp_eq_str {x y : Str} (hx : PyData.strOk x = true) (hy : PyData.strOk y = true) (st : St) : cmpW .Eq (.str x) (.str y) st = some (decide (x = y)) := by
  rw [cmp_eq_val st (a := .str x) (b := .str y) (d := 0) (dt_str hx) (dt_str hy) (by decide)]
  exact congrArg some (eqv_str x y)
theorem cmp_ne_str {x y : Str} (hx : PyData.strOk x = true) (hy : PyData.strOk y = true) (st : St) : cmpW .NotEq (.str x) (.str y) st = some (!decide (x = y)) := by
  rw [cmp_ne_val st (a := .str x) (b := .str y) (d := 0) (dt_str hx) (dt_str hy) (by decide)]
  exact congrArg (fun z => some (!z)) (eqv_str x y)
theorem cmp_runs (p : Pl) (st : St) : cmpW .Eq (.str p.word) (.str "runs") st = some p.isRuns := by rw [cmp_eq_str (word_ok p) strOk_lit.2.1, word_runs]
theorem cmp_nruns (p : Pl) (st : St) : cmpW .NotEq (.str p.word) (.str "runs") st = some (!p.isRuns) := by rw [cmp_ne_str (word_ok p) strOk_lit.2.1, word_runs]
theorem cmp_broken (p : Pl) (st : St) : cmpW .Eq (.str p.word) (.str "broken") st = some p.isBroken := by rw [cmp_eq_str (word_ok p) strOk_lit.2.2.2, word_broken]
theorem inW_one (x y : Str) : inW (.str x) [.str y] = decide (y = x) := by
  unfold inW
  rw [List.any_cons, List.any_nil, eqv_str, Bool.or_false]
/-! turns that run -/
def runF_ (l : List Pl) : List Nat := l.filterMap fun p => match p with
  | .runs t _ => some t
  | _ => none
theorem run_newC (c : Cell) (st : St) : newC c st = .ok (.ref st.length) (st ++ [c]) := Eq.trans rfl rfl
theorem setI_last {st : St} {xs : List W} {m : Nat} {w : W} (hm : m < xs.length) : setI (.ref st.length) (.int (m : Int)) w (st ++ [.lst xs]) = .ok () (st ++ [.lst (xs.set m w)]) := by
  unfold setI
  simp only [app_get]
  have e : L2.ixN xs.length (m : Int) = some m := by
    unfold L2.ixN
    rw [if_pos (by omega), if_pos (by omega), Int.toNat_natCast]
  rw [e]
  show R.ok () ((st ++ [Cell.lst xs]).set st.length (.lst (xs.set m w))) = _
  rw [app_set]
theorem seqAt_last (st : St) (xs : List W) : SeqAt (.ref st.length) xs (st ++ [.lst xs]) := seqAt_ref (app_get st _)
/-! what is right -/
section
variable {κ : Type} [DecidableEq κ]
def canB (t : Turn κ) (k : κ) (s : Nat) : Bool := decide (t.kind = k) && (decide (t.first ≤ s) && decide (s + t.len ≤ t.last + 1))
/-- may a machine of kind k stand so? -/
def placeB (h : Hl κ) (lot : List (Turn κ)) (k : κ) : Pl → Bool
  | .free => true
  | .runs t l => (match lot[t]? with
    | some u => decide (u.kind = k) && (decide (1 ≤ l) && decide (l < u.len))
    | none => false)
  | .clean l => decide (1 ≤ l) && decide (l ≤ cleanF h k)
  | .broken l => decide (1 ≤ l) && decide (l < h.repair)
def placeBi (h : Hl κ) (lot : List (Turn κ)) (m : Nat) (p : Pl) : Bool := match h.machines[m]? with
  | some k => placeB h lot k p
  | none => false
def stateB (h : Hl κ) (lot : List (Turn κ)) (s : Sat) : Bool := decide (s.slot ≤ h.slots) && (((s.places.zipIdx 0).all fun p => placeBi h lot p.2 p.1) && (((s.done.all fun i => decide (i < lot.length)) && risB s.done) && (decide (s.breaks ≤ h.breaks) && (decide (s.ills ≤ h.ills) &&
  (unlB (runF_ s.places) && !((runF_ s.places).any fun i => decide (i ∈ s.done)))))))
def moveB (h : Hl κ) (s : Sat) (m : List Nat × Nat) : Bool := !decide (s.slot = h.slots) && ((m.1.all (fun i => decide (i < s.places.length)) && risB m.1) && (decide (m.1.length ≤ s.breaks) && (!(m.1.any fun i => (s.places[i]?.map Pl.isBroken).getD false) && decide (m.2 ≤ min s.ills ((h.hands[s.slot]?).getD 0)))))
def pairsB (n k : Nat) (o : List (Nat × Nat)) : Bool := (o.all fun p => decide (p.1 < n) && decide (p.2 < k)) && (risB (o.map (·.2)) && unlB (o.map (·.1)))
def canBi (h : Hl κ) (lot : List (Turn κ)) (s : Nat) (p : Nat × Nat) : Bool := match lot[p.1]?, h.machines[p.2]? with
  | some t, some k => canB t k s
  | _, _ => false
def ordersB (h : Hl κ) (lot : List (Turn κ)) (s : Nat) (o : List (Nat × Nat)) : Bool := pairsB lot.length h.machines.length o && o.all (canBi h lot s)
/-- is an order carried out? -/
def carriedB (lot : List (Turn κ)) (now : List Pl) (done : List Nat) (p : Nat × Nat) (hands : Int) : Bool := !(decide (p.1 ∈ done) || (decide (p.1 ∈ runF_ now) || !decide (now[p.2]? = some .free))) && (!(((lot[p.1]?).map Turn.hand).getD false) || decide (0 < hands))
def behindF (h : Hl κ) (k : κ) : Pl → Pl × List Nat
  | .free => (.free, [])
  | .runs t l => if 1 < l then (.runs t (l - 1), []) else (if 0 < cleanF h k then .clean (cleanF h k) else .free, [t])
  | .clean l => if 1 < l then (.clean (l - 1), []) else (.free, [])
  | .broken l => if 1 < l then (.broken (l - 1), []) else (.free, [])
def behindFi (h : Hl κ) (m : Nat) (p : Pl) : Pl × List Nat := match h.machines[m]? with
  | some k => behindF h k p
  | none => (p, [])
def nowF (h : Hl κ) (s : Sat) (m : List Nat × Nat) : List Pl := (s.places.zipIdx 0).map fun p => if p.2 ∈ m.1 then .broken h.repair else p.1
def ordF (lot : List (Turn κ)) (done : List Nat) (x : List Pl × Int) (p : Nat × Nat) : List Pl × Int :=
  if carriedB lot x.1 done p x.2 = true then (x.1.set p.2 (.runs p.1 (((lot[p.1]?).map Turn.len).getD 0)), if ((lot[p.1]?).map Turn.hand).getD false = true then x.2 - 1 else x.2) else x
def afterF (h : Hl κ) (lot : List (Turn κ)) (s : Sat) (m : List Nat × Nat) (o : List (Nat × Nat)) : List Pl := (o.foldl (ordF lot s.done) (nowF h s m, (((h.hands[s.slot]?).getD 0 : Nat) : Int) - (m.2 : Int))).1
def bhF (h : Hl κ) (now : List Pl) : List (Pl × List Nat) := (now.zipIdx 0).map fun p => behindFi h p.2 p.1
def stepF (h : Hl κ) (lot : List (Turn κ)) (s : Sat) (m : List Nat × Nat) (o : List (Nat × Nat)) : Sat :=
  ⟨s.slot + 1, (bhF h (afterF h lot s m o)).map (·.1), (s.done ++ (bhF h (afterF h lot s m o)).flatMap (·.2)).mergeSort fun a b => decide (a ≤ b), s.breaks - m.1.length, s.ills - m.2⟩
theorem bh_fresh (h : Hl κ) (now : List Pl) : ((bhF h now).flatMap (·.2)).length ≤ now.length := by
  have b2 : ∀ b ∈ bhF h now, b.2.length ≤ 1 := fun b hb => by
    unfold bhF at hb
    obtain ⟨p, _, rfl⟩ := List.mem_map.mp hb
    unfold behindFi
    split
    · rename_i k _
      unfold behindF
      cases p.1 <;> simp only [] <;> (try split) <;> simp
    · simp
  have : ∀ l : List (Pl × List Nat), (∀ b ∈ l, b.2.length ≤ 1) → (l.flatMap (·.2)).length ≤ l.length := fun l => by
    induction l with
    | nil => intro _; simp
    | cons b l ih =>
      intro hb
      rw [List.flatMap_cons, List.length_append, List.length_cons]
      have := hb b List.mem_cons_self
      have := ih fun c hc => hb c (List.mem_cons_of_mem _ hc)
      omega
  have := this _ b2
  have e : (bhF h now).length = now.length := by unfold bhF; rw [List.length_map, List.length_zipIdx]
  omega
theorem ordF_len (lot : List (Turn κ)) (done : List Nat) (x : List Pl × Int) (p : Nat × Nat) : (ordF lot done x p).1.length = x.1.length := by
  unfold ordF
  split
  · rw [List.length_set]
  · rfl
theorem after_len (h : Hl κ) (lot : List (Turn κ)) (s : Sat) (m : List Nat × Nat) (o : List (Nat × Nat)) : (afterF h lot s m o).length = s.places.length := by
  have : ∀ (o : List (Nat × Nat)) (x : List Pl × Int), (o.foldl (ordF lot s.done) x).1.length = x.1.length := fun o => by
    induction o with
    | nil => intro x; rfl
    | cons p o ih => intro x; rw [List.foldl_cons, ih, ordF_len]
  unfold afterF
  rw [this]
  show (nowF h s m).length = _
  unfold nowF
  rw [List.length_map, List.length_zipIdx]
theorem step_len (h : Hl κ) (lot : List (Turn κ)) (s : Sat) (m : List Nat × Nat) (o : List (Nat × Nat)) : (stepF h lot s m o).places.length = s.places.length ∧ (stepF h lot s m o).done.length ≤ s.done.length + s.places.length ∧ (stepF h lot s m o).slot = s.slot + 1 := by
  refine ⟨?_, ?_, rfl⟩
  · show ((bhF h (afterF h lot s m o)).map (·.1)).length = _
    rw [List.length_map]
    unfold bhF
    rw [List.length_map, List.length_zipIdx, after_len]
  · show ((s.done ++ (bhF h (afterF h lot s m o)).flatMap (·.2)).mergeSort fun a b => decide (a ≤ b)).length ≤ _
    rw [List.length_mergeSort, List.length_append]
    have := bh_fresh h (afterF h lot s m o)
    rw [after_len] at this
    omega
/-- behind so many slots -/
def goF (h : Hl κ) (lot : List (Turn κ)) (s : Sat) : List ((List Nat × Nat) × List (Nat × Nat)) → Sat
  | [] => s
  | p :: r => goF h lot (stepF h lot s p.1 p.2) r
theorem goF_snoc (h : Hl κ) (lot : List (Turn κ)) : ∀ (l : List ((List Nat × Nat) × List (Nat × Nat))) (s : Sat) (p : (List Nat × Nat) × List (Nat × Nat)), goF h lot s (l ++ [p]) = stepF h lot (goF h lot s l) p.1 p.2
  | [], s, p => rfl
  | q :: l, s, p => goF_snoc h lot l _ p
theorem goF_len (h : Hl κ) (lot : List (Turn κ)) : ∀ (l : List ((List Nat × Nat) × List (Nat × Nat))) (s : Sat), (goF h lot s l).places.length = s.places.length ∧ (goF h lot s l).done.length ≤ s.done.length + l.length * s.places.length ∧ (goF h lot s l).slot = s.slot + l.length
  | [], s => ⟨rfl, by simp [goF], rfl⟩
  | q :: l, s => by
    obtain ⟨a, b, c⟩ := goF_len h lot l (stepF h lot s q.1 q.2)
    obtain ⟨a1, b1, c1⟩ := step_len h lot s q.1 q.2
    show (goF h lot (stepF h lot s q.1 q.2) l).places.length = _ ∧ (goF h lot (stepF h lot s q.1 q.2) l).done.length ≤ _ ∧ (goF h lot (stepF h lot s q.1 q.2) l).slot = _
    rw [a1] at a b
    refine ⟨a, ?_, by rw [c, c1, List.length_cons]; omega⟩
    rw [List.length_cons, Nat.add_mul, Nat.one_mul]
    omega
def planB (h : Hl κ) (lot : List (Turn κ)) (o : List (List (Nat × Nat))) : Bool := decide (o.length = h.slots) && (o.zipIdx 0).all fun p => ordersB h lot p.2 p.1
def plnW (o : List (List (Nat × Nat))) : W := .tup (o.map orW)
def couW (c : List (List Nat × Nat)) : W := .tup (c.map mvW)
def noO (c : List (List Nat × Nat)) : List ((List Nat × Nat) × List (Nat × Nat)) := c.map fun m => (m, [])
/-- is it a course? -/
def courseB (h : Hl κ) (c : List (List Nat × Nat)) : Bool := decide (c.length = h.slots) && (c.zipIdx 0).all fun p => moveB h (goF h [] (⟨0, List.replicate h.machines.length .free, [], h.breaks, h.ills⟩) (noO (c.take p.2))) p.1
end
end Pf

/-! part Q5 -/
set_option Elab.async false
set_option linter.all false
set_option maxRecDepth 100000
set_option autoImplicit false
set_option maxHeartbeats 1000000
/-! Draws, strings. -/
namespace Pf
open PySem L2

theorem bin_mod_int (st : St) (i j : Int) (h : j ≠ 0) : binW .Mod (.int i) (.int j) st = some (.int (i.fmod j)) := by
  show (if j ≠ 0 then some (i.fmod j) else none).map W.int = _
  rw [if_pos h]; rfl
theorem bin_div_int (st : St) (i j : Int) (h : j ≠ 0) (h2 : j.natAbs < 1073741824) : binW .FloorDiv (.int i) (.int j) st = some (.int (i.fdiv j)) := by
  show (if j ≠ 0 ∧ j.natAbs < 1073741824 then some (i.fdiv j) else none).map W.int = _
  rw [if_pos ⟨h, h2⟩]; rfl
theorem cmul_l (i j : Int) (h : -(2 ^ 64) < i ∧ i < 2 ^ 64) : cmul i j = true := by unfold cmul; rw [decide_eq_true h]; rfl
theorem cmul_r (i j : Int) (h : -(2 ^ 64) < j ∧ j < 2 ^ 64) : cmul i j = true := by unfold cmul; rw [decide_eq_true h, Bool.or_true]
theorem bin_pow_lit (st : St) : binW .Pow (.int 10) (.int 18) st = some (.int 1000000000000000000) := by kernel_rfl
theorem setI_ref {st : St} {i : Nat} {xs : List W} {m : Nat} {w : W} (h : st[i]? = some (.lst xs)) (hm : m < xs.length) : setI (.ref i) (.int (m : Int)) w st = .ok () (st.set i (.lst (xs.set m w))) := by
  unfold setI
  simp only [h]
  have e : L2.ixN xs.length (m : Int) = some m := by
    unfold L2.ixN
    rw [if_pos (by omega), if_pos (by omega), Int.toNat_natCast]
  rw [e]
theorem okn_set {st : St} {i : Nat} {c : Cell} (h : st.Okn) (h1 : c.low st.length = true) (h2 : c.noclo = true) : St.Okn (st.set i c) := by
  refine ⟨?_, ?_⟩
  · show (st.set i c).all (Cell.low (st.set i c).length) = true
    rw [List.length_set, List.all_eq_true]
    intro x hx
    rcases List.mem_or_eq_of_mem_set hx with hx | hx
    · exact List.all_eq_true.mp h.ok x hx
    · rw [hx]; exact h1
  · rw [List.all_eq_true]
    intro x hx
    rcases List.mem_or_eq_of_mem_set hx with hx | hx
    · exact List.all_eq_true.mp h.nc x hx
    · rw [hx]; exact h2
/-- a def that leaves the cells otherwise -/
theorem runF_st {C : Cf} {fd : Fd} {ws : List W} {st st' : St} {w : W} {ρ : Ρ} (hl : ws.length = fd.ps ∧ fd.ps ≤ fd.slots) (he : ws.map some ++ List.replicate (fd.slots - fd.ps) none = ρ) (h : execs C fd.body ρ st = .ok (.rt w) st') (ho : st'.Okn) (hlen : st'.length = st.length) (hw : w.low st.length = true) : runF C fd ws st = .ok w st' := by
  rw [runF_eq C fd ws st hl he, h]
  unfold fin
  rw [← hlen] at hw ⊢
  simp only [List.take_length]
  rw [if_pos (by rw [show st'.all (Cell.low st'.length) = true from ho.ok, decide_eq_true (Nat.le_refl _)]; rfl), if_pos hw]
/-- .. and gives a new cell back -/
theorem runF_new {C : Cf} {fd : Fd} {ws : List W} {st : St} {c : Cell} {ρ : Ρ} (hmu : fd.mu = true) (hl : ws.length = fd.ps ∧ fd.ps ≤ fd.slots) (he : ws.map some ++ List.replicate (fd.slots - fd.ps) none = ρ) (h : execs C fd.body ρ st = .ok (.rt (.ref st.length)) (st ++ [c])) (ho : st.Okn) (hc : c.low st.length = true) : runF C fd ws st = .ok (.ref st.length) (st ++ [c]) := by
  rw [runF_eq C fd ws st hl he, h]
  unfold fin
  simp only [take_app, app_get]
  rw [if_pos (by rw [show st.all (Cell.low st.length) = true from ho.ok, List.length_append, decide_eq_true (by omega)]; rfl), if_neg (by rw [W.low, decide_eq_true_eq]; omega), if_pos hc, if_pos hmu]

/-! ### draws -/
structure Draws (st : St) (i : Nat) : Prop where
  ex : ∃ A S T : Int, st[i]? = some (.lst [.int A, .int S, .int T]) ∧ 0 ≤ A ∧ 0 ≤ S ∧ S < 2147483549 ∧ 0 ≤ T
/-- only the draws went on -/
structure Next (st : St) (i : Nat) (st' : St) : Prop where
  ok : st'.Okn
  d : Draws st' i
  len : st'.length = st.length
  ne : ∀ k, k ≠ i → st'[k]? = st[k]?
theorem Next.refl {st : St} {i : Nat} (h : st.Okn) (d : Draws st i) : Next st i st := ⟨h, d, rfl, fun _ _ => rfl⟩
theorem Next.trans {a b c : St} {i : Nat} (x : Next a i b) (y : Next b i c) : Next a i c := ⟨y.ok, y.d, y.len.trans x.len, fun k hk => (y.ne k hk).trans (x.ne k hk)⟩
theorem Draws.lt {st : St} {i : Nat} (d : Draws st i) : i < st.length := by
  obtain ⟨A, S, T, h, _⟩ := d.ex
  exact (List.getElem?_eq_some_iff.mp h).1
theorem next_set {st : St} {i : Nat} {A S T : Int} (h : st.Okn) (hi : i < st.length) (hA : 0 ≤ A) (hS : 0 ≤ S) (hS2 : S < 2147483549) (hT : 0 ≤ T) : Next st i (st.set i (.lst [.int A, .int S, .int T])) :=
  ⟨okn_set h rfl rfl, ⟨A, S, T, List.getElem?_set_self hi, hA, hS, hS2, hT⟩, List.length_set, fun k hk => List.getElem?_set_ne (Ne.symm hk)⟩

/-! ### strings -/
theorem bi_len_str {x : Str} (h : x.length ≤ SZ) (st : St) : biW .len [.str x] st = some (.int x.length) := by
  show (if x.length ≤ SZ then some (W.int x.length) else none) = _
  rw [if_pos h]
theorem ix_str {x : Str} (h : x.length ≤ SZ) {i c : Nat} (hc : x.cps.toList[i]? = some c) (st : St) : ixW (.str x) (.int (i : Int)) st = some (.str ⟨#[c]⟩) := by
  show (if x.length ≤ SZ then (L2.atI x.cps.toList (i : Int)).map (fun c => W.str ⟨#[c]⟩) else none) = _
  rw [if_pos h, at_nat, hc]; rfl
theorem add_str {x y : Str} (h : x.length + y.length ≤ SZ) (st : St) : binW .Add (.str x) (.str y) st = some (.str (x ++ y)) := by
  show (if x.length + y.length ≤ SZ then some (W.str (x ++ y)) else none) = _
  rw [if_pos h]
theorem items_str (x : Str) (st : St) : itemsOf (.str x) st = some (x.cps.toList.map fun c => .str ⟨#[c]⟩) := rfl
theorem gd_str (x : Str) (xs : List W) : gdOf (.str x) xs = [] := rfl
theorem app_cps (x y : Str) : (x ++ y).cps.toList = x.cps.toList ++ y.cps.toList := by
  show (x.cps ++ y.cps).toList = _
  simp
theorem len_cps (x : Str) : x.length = x.cps.toList.length := by simp [Str.length]
theorem app_len (x y : Str) : (x ++ y).length = x.length + y.length := by rw [len_cps, app_cps, List.length_append, ← len_cps, ← len_cps]
theorem add_lst (xs ys : List W) (h : xs.length + ys.length ≤ SZ) (st : St) : binW .Add (.lst xs) (.lst ys) st = some (.lst (xs ++ ys)) := by
  show (if xs.length + ys.length ≤ SZ then some (W.lst (xs ++ ys)) else none) = _
  rw [if_pos h]
def letB (x : Str) : Bool := x.cps.toList.all fun c => decide (97 ≤ c ∧ c ≤ 122)
theorem nameB_iff (x : Str) : nameB x = true ↔ (1 ≤ x.length ∧ x.length ≤ 8) ∧ letB x = true := by unfold nameB letB; rw [Bool.and_eq_true, decide_eq_true_eq]
theorem nameB_ok {x : Str} (h : nameB x = true) : PyData.strOk x = true := (⟨fun _ _ _ => rfl, fun _ => h⟩ : Names (fun _ : Unit => x)).ok ()
def lettersS : Str := "abcdefghijklmnopqrstuvwxyz"
theorem letters_cps : lettersS.cps.toList = (List.range 26).map (97 + ·) := by decide +kernel
theorem letters_len : lettersS.length = 26 := by decide +kernel
theorem inW_str (x : Str) (l : List Str) : inW (.str x) (l.map W.str) = decide (x ∈ l) := by
  unfold inW
  rw [List.any_map]
  induction l with
  | nil => simp
  | cons a l ih =>
    rw [List.any_cons, ih]
    show (eqvW (.str a) (.str x) || _) = _
    rw [eqv_str]
    by_cases h : a = x
    · subst h; simp
    · have h' : ¬ x = a := fun e => h e.symm
      simp [h, h']
theorem cmp_nin_str {x : Str} {ws : List W} {d : Nat} (ha : PyData.strOk x = true) (hb : Dts d ws) (hd : d ≤ 60) (st : St) : cmpW .NotIn (.str x) (.tup ws) st = some (!inW (.str x) ws) := by
  show (if ((W.str x).flat && ws.all W.flat) = true then some (!inW (.str x) ws) else none) = _
  rw [(dt_str ha).flat (Nat.zero_le _), hb.flat hd]; rfl
theorem rngL_nat (n : Nat) : rngL 0 n = (List.range n).map nW := by
  unfold rngL
  refine List.map_congr_left fun i _ => ?_
  show W.int (0 + (i : Int)) = .int (i : Int)
  rw [Int.zero_add]
theorem rngOk_n {a b : Int} (ha : 0 ≤ a) (hb : 0 ≤ b) (hb2 : b ≤ 1000000) (ha2 : a ≤ 1000000) : rngOk a b = true := by
  unfold rngOk
  rw [decide_eq_true_eq]
  refine ⟨by omega, by omega, by omega, by omega, ?_⟩
  unfold SZ
  omega
theorem bnd_eq {α β : Type} {r : R α} {a : α} {st : St} {k : α → M β} (h : r = .ok a st) : R.bnd r k = k a st := by rw [h]; rfl
theorem bnd_bnd {α β γ : Type} (r : R α) (k : α → M β) (l : β → M γ) : R.bnd (R.bnd r k) l = R.bnd r (fun a => k a >>= l) := by cases r <;> rfl
end Pf

/-! part Q6 -/
set_option Elab.async false
set_option linter.all false
set_option maxRecDepth 100000
set_option autoImplicit false
set_option maxHeartbeats 1000000
/-! Two new lists beside each other; halls, lots and slots that are written out. -/
namespace Pf
open PySem L2

section
variable (st : St) (a b : List W) (w : W)
theorem len_app1 (c : Cell) : (st ++ [c]).length = st.length + 1 := by simp
theorem getB1 (c d : Cell) : (st ++ [c] ++ [d])[st.length]? = some c := by simp
theorem getB2 (c d : Cell) : (st ++ [c] ++ [d])[st.length + 1]? = some d := by
  have := app_get (st ++ [c]) d
  rwa [len_app1] at this
theorem setB1 (c d c' : Cell) : (st ++ [c] ++ [d]).set st.length c' = st ++ [c'] ++ [d] := by simp
theorem setB2 (c d d' : Cell) : (st ++ [c] ++ [d]).set (st.length + 1) d' = st ++ [c] ++ [d'] := by
  have := app_set (st ++ [c]) d d'
  rwa [len_app1] at this
theorem lst_ref {i : Nat} {st : St} {xs : List W} (h : st[i]? = some (.lst xs)) : lstOf (.ref i) st = some xs := by
  show (match st[i]? with | some (.lst xs) => some xs | _ => none) = _
  rw [h]
theorem val_ref {i : Nat} {st : St} {xs : List W} (h : st[i]? = some (.lst xs)) : valW (.ref i) st = .lst xs := by
  show celW (.ref i) st[i]? = _
  rw [h]; rfl
theorem appC_ref {i : Nat} {st : St} {xs : List W} {w : W} (h : st[i]? = some (.lst xs)) : appC (.ref i) w st = if xs.length < SZ then R.ok () (st.set i (.lst (xs ++ [w]))) else R.stuck := by
  unfold appC
  simp only [h]
theorem lst_A : lstOf (.ref st.length) (st ++ [.lst a]) = some a := lst_ref (app_get st _)
theorem lst_B1 (d : Cell) : lstOf (.ref st.length) (st ++ [.lst a] ++ [d]) = some a := lst_ref (getB1 st _ _)
theorem lst_B2 (c : Cell) : lstOf (.ref (st.length + 1)) (st ++ [c] ++ [.lst b]) = some b := lst_ref (getB2 st _ _)
theorem val_A : valW (.ref st.length) (st ++ [.lst a]) = .lst a := val_ref (app_get st _)
theorem val_B1 (d : Cell) : valW (.ref st.length) (st ++ [.lst a] ++ [d]) = .lst a := val_ref (getB1 st _ _)
theorem val_B2 (c : Cell) : valW (.ref (st.length + 1)) (st ++ [c] ++ [.lst b]) = .lst b := val_ref (getB2 st _ _)
theorem app_A : appC (.ref st.length) w (st ++ [.lst a]) = if a.length < SZ then R.ok () (st ++ [.lst (a ++ [w])]) else R.stuck := by rw [appC_ref (app_get st _), app_set]
theorem app_B1 (d : Cell) : appC (.ref st.length) w (st ++ [.lst a] ++ [d]) = if a.length < SZ then R.ok () (st ++ [.lst (a ++ [w])] ++ [d]) else R.stuck := by rw [appC_ref (getB1 st _ _), setB1]
theorem app_B2 (c : Cell) : appC (.ref (st.length + 1)) w (st ++ [c] ++ [.lst b]) = if b.length < SZ then R.ok () (st ++ [c] ++ [.lst (b ++ [w])]) else R.stuck := by rw [appC_ref (getB2 st _ _), setB2]
end
theorem okn_lst {st : St} {a : List W} {d : Nat} (h : st.Okn) (ha : Dts d a) : St.Okn (st ++ [.lst a]) := okn_app h (ha.low _) ha.noc
theorem take_B (st : St) (c d : Cell) : (st ++ [c] ++ [d]).take st.length = st := by rw [List.append_assoc, List.take_left]
theorem ltS_0 : (0 < SZ) = True := eq_true (by decide)
theorem ltS_1 : (1 < SZ) = True := eq_true (by decide)
theorem ltS_2 : (2 < SZ) = True := eq_true (by decide)
theorem ltS_3 : (3 < SZ) = True := eq_true (by decide)
theorem ltS_4 : (4 < SZ) = True := eq_true (by decide)
theorem ltS_5 : (5 < SZ) = True := eq_true (by decide)
theorem ltS_6 : (6 < SZ) = True := eq_true (by decide)
theorem ltS_7 : (7 < SZ) = True := eq_true (by decide)
theorem ltS_8 : (8 < SZ) = True := eq_true (by decide)
theorem add_ref (i : Nat) (ys : List W) (st : St) : binW .Add (.ref i) (.lst ys) st = (lstOf (.ref i) st).bind fun xs => if xs.length + ys.length ≤ SZ then some (.lst (xs ++ ys)) else none := by
  show (match lstOf (.ref i) st with
    | some xs => (match lstOf (.lst ys) st with
      | some ys => if xs.length + ys.length ≤ SZ then some (W.lst (xs ++ ys)) else none
      | none => none)
    | none => none) = _
  cases lstOf (.ref i) st <;> rfl
theorem leS_2 : (2 ≤ SZ) = True := eq_true (by decide)
theorem leS_3 : (3 ≤ SZ) = True := eq_true (by decide)
theorem leS_4 : (4 ≤ SZ) = True := eq_true (by decide)
theorem leS_5 : (5 ≤ SZ) = True := eq_true (by decide)
theorem leS_6 : (6 ≤ SZ) = True := eq_true (by decide)
theorem leS_7 : (7 ≤ SZ) = True := eq_true (by decide)
theorem leS_8 : (8 ≤ SZ) = True := eq_true (by decide)
theorem okDD {st : St} (h : st.Okn) (ds es : List Sat) : St.Okn (st ++ [.lst (ds.map saW)] ++ [.lst (es.map saW)]) := okn_lst (okn_lst h (dts_map fun s _ => dt_sa s)) (dts_map fun s _ => dt_sa s)
theorem okD1 {st : St} (h : st.Okn) (ds : List Sat) : St.Okn (st ++ [.lst (ds.map saW)]) := okn_lst h (dts_map fun s _ => dt_sa s)
/-- a list that can be shown -/
def shwOk (w : W) : Bool := match shwW w with
  | some z => PyData.strOk z
  | none => false
theorem shw_of {w : W} (h : shwOk w = true) : ∃ z, shwW w = some z ∧ PyData.strOk z = true := by
  unfold shwOk at h
  split at h
  · rename_i z q; exact ⟨z, q, h⟩
  · cases h
theorem bi_repr {w : W} {st : St} {xs : List W} {z : Str} (h : valW w st = .lst xs) (hz : shwW (.lst xs) = some z) : biW .repr [w] st = some (.str z) := by
  show (if isSq (valW w st) then (shwW (valW w st)).map W.str else none) = _
  rw [h, hz]; rfl

/-! ### written out -/
theorem risB_pair : ∀ l : List Nat, risB l = true → l.Pairwise fun a b => decide (a ≤ b) = true
  | [], _ => .nil
  | [a], _ => List.pairwise_singleton _ _
  | a :: b :: l, h => by
    have h2 : (decide (a < b) && risB (b :: l)) = true := h
    rw [Bool.and_eq_true, decide_eq_true_eq] at h2
    have ih := risB_pair (b :: l) h2.2
    refine List.pairwise_cons.mpr ⟨fun c hc => ?_, ih⟩
    rcases List.mem_cons.mp hc with e | e
    · rw [e]; exact decide_eq_true (by omega)
    · have := (List.pairwise_cons.mp ih).1 c e
      rw [decide_eq_true_eq] at this ⊢
      omega
theorem sort_ris {l : List Nat} (h : risB l = true) : (l.mergeSort fun a b => decide (a ≤ b)) = l := List.mergeSort_of_pairwise (risB_pair l h)
section
variable {κ : Type} [DecidableEq κ]
def freshF (h : Hl κ) (lot : List (Turn κ)) (s : Sat) (m : List Nat × Nat) (o : List (Nat × Nat)) : List Nat := s.done ++ (bhF h (afterF h lot s m o)).flatMap (·.2)
/-- the state behind, nothing put in order -/
def stepG (h : Hl κ) (lot : List (Turn κ)) (s : Sat) (m : List Nat × Nat) (o : List (Nat × Nat)) : Sat :=
  ⟨s.slot + 1, (bhF h (afterF h lot s m o)).map (·.1), freshF h lot s m o, s.breaks - m.1.length, s.ills - m.2⟩
theorem stepG_eq {h : Hl κ} {lot : List (Turn κ)} {s : Sat} {m : List Nat × Nat} {o : List (Nat × Nat)} (H : risB (freshF h lot s m o) = true) : stepF h lot s m o = stepG h lot s m o := by
  unfold stepF stepG
  rw [show (s.done ++ (bhF h (afterF h lot s m o)).flatMap (·.2)) = freshF h lot s m o from rfl, sort_ris H]
def hlB (h : Hl κ) : Bool := decide (1 ≤ h.machines.length) && (decide (h.machines.length ≤ 2) && (decide (1 ≤ h.slots) && (decide (h.slots ≤ 5) && (decide (h.hands.length = h.slots) && (h.hands.all (fun x => decide (x ≤ 2)) && (decide (h.clean.length ≤ 1) && (h.clean.all (fun p => decide (p.1 ∈ h.machines) && decide (p.2 ≤ 2)) &&
  (decide (h.breaks ≤ 2) && (decide (1 ≤ h.repair) && (decide (h.repair ≤ 3) && decide (h.ills ≤ 2)))))))))))
theorem hlOk_of {h : Hl κ} (e : κ → Str) (H : hlB h = true) : HlOk e h := by
  unfold hlB at H
  simp only [Bool.and_eq_true, decide_eq_true_eq, List.all_eq_true] at H
  obtain ⟨a1, a2, a3, a4, a5, a6, a7, a8, a9, a10, a11, a12⟩ := H
  exact ⟨a1, a2, a3, a4, a5, a6, a8, fun i p q h1 h2 => by have := (List.getElem?_eq_some_iff.mp h2).1; omega, a9, a10, a11, a12⟩
def turnB (slots : Nat) (t : Turn κ) : Bool := decide (t.first ≤ t.last) && (decide (t.last < slots) && (decide (1 ≤ t.len) && (decide (t.len ≤ 3) && (decide (1 ≤ t.pts) && decide (t.pts ≤ 9)))))
def goG (h : Hl κ) (lot : List (Turn κ)) (s : Sat) : List ((List Nat × Nat) × List (Nat × Nat)) → Sat
  | [] => s
  | p :: r => goG h lot (stepG h lot s p.1 p.2) r
def goB (h : Hl κ) (lot : List (Turn κ)) (s : Sat) : List ((List Nat × Nat) × List (Nat × Nat)) → Bool
  | [] => true
  | p :: r => risB (freshF h lot s p.1 p.2) && goB h lot (stepG h lot s p.1 p.2) r
theorem goG_eq {h : Hl κ} {lot : List (Turn κ)} : ∀ {l : List ((List Nat × Nat) × List (Nat × Nat))} {s : Sat}, goB h lot s l = true → goF h lot s l = goG h lot s l
  | [], _, _ => rfl
  | p :: r, s, H => by
    unfold goB at H
    rw [Bool.and_eq_true] at H
    unfold goF goG
    rw [stepG_eq H.1]
    exact goG_eq H.2
def frs (h : Hl κ) : Sat := ⟨0, List.replicate h.machines.length .free, [], h.breaks, h.ills⟩
def courseG (h : Hl κ) (c : List (List Nat × Nat)) : Bool := decide (c.length = h.slots) && (c.zipIdx 0).all fun p => goB h [] (frs h) (noO (c.take p.2)) && moveB h (goG h [] (frs h) (noO (c.take p.2))) p.1
theorem courseG_ok {h : Hl κ} {c : List (List Nat × Nat)} (H : courseG h c = true) : courseB h c = true := by
  unfold courseG at H
  unfold courseB
  rw [Bool.and_eq_true, List.all_eq_true] at H ⊢
  refine ⟨H.1, fun p hp => ?_⟩
  have := H.2 p hp
  rw [Bool.and_eq_true] at this
  rw [show (⟨0, List.replicate h.machines.length .free, [], h.breaks, h.ills⟩ : Sat) = frs h from rfl, goG_eq this.1]
  exact this.2
def stepOk (h : Hl κ) (lot : List (Turn κ)) (s : Sat) (m : List Nat × Nat) (o : List (Nat × Nat)) (D : Sat) : Bool :=
  hlB h && ((decide (lot.length ≤ 4) && lot.all (turnB h.slots)) && (decide (s.places.length = h.machines.length) && (decide (s.done.length ≤ 1000) && (decide (m.1.length ≤ 1000) && (decide (o.length ≤ 1000) && (stateB h lot s && (decide (s.slot < h.slots) && (moveB h s m && (ordersB h lot s.slot o && (risB (freshF h lot s m o) && decide (stepG h lot s m o = D)))))))))))
def runOk (h : Hl κ) (lot : List (Turn κ)) (o : List (List (Nat × Nat))) (c : List (List Nat × Nat)) (D : Sat) : Bool :=
  hlB h && ((decide (lot.length ≤ 4) && lot.all (turnB h.slots)) && (o.all (fun p => decide (p.length ≤ 1000)) && (c.all (fun m => decide (m.1.length ≤ 1000)) && (planB h lot o && (courseG h c && (goB h lot (frs h) (c.zip o) && decide (goG h lot (frs h) (c.zip o) = D)))))))
end
end Pf

/-! part Q7 -/
set_option Elab.async false
set_option linter.all false
set_option maxRecDepth 100000
set_option autoImplicit false
set_option maxHeartbeats 1000000
/-! What can be shown. -/
namespace Pf
open PySem L2

/-- small ints -/
def smI (i : Int) : Bool := decide (-100 ≤ i ∧ i < 1000)
mutual
/-- a bound of what is shown -/
def shB : W → Nat
  | .non => 4 | .bl _ => 5 | .int _ => 4
  | .str x => 10 * x.length + 2
  | .tup xs => shBs xs + 3
  | .lst xs => shBs xs + 3
  | .dic _ _ => 0 | .obj _ _ _ => 0 | .ref _ => 0 | .glo _ => 0 | .ty _ => 0 | .clo _ _ => 0
def shBs : List W → Nat
  | [] => 0
  | w :: ws => shB w + 2 + shBs ws
end
mutual
def shK : W → Bool
  | .non => true | .bl _ => true | .int i => smI i
  | .str x => PyData.strOk x
  | .tup xs => shKs xs
  | .lst xs => shKs xs
  | .dic _ _ => false | .obj _ _ _ => false | .ref _ => false | .glo _ => false | .ty _ => false | .clo _ _ => false
def shKs : List W → Bool
  | [] => true
  | w :: ws => shK w && shKs ws
end
theorem smI_all : ∀ k : _root_.Fin 1100, ((toString ((k.val : Int) - 100) : Str)).length ≤ 4 ∧ PyData.strOk (toString ((k.val : Int) - 100) : Str) = true ∧ (((k.val : Int) - 100).natAbs.log2 < 1920) := by decide +kernel
theorem smI_ok {i : Int} (h : smI i = true) : ((toString i : Str)).length ≤ 4 ∧ PyData.strOk (toString i : Str) = true ∧ i.natAbs.log2 < 1920 := by
  unfold smI at h
  rw [decide_eq_true_eq] at h
  have := smI_all ⟨(i + 100).toNat, by omega⟩
  rw [show (((⟨(i + 100).toNat, by omega⟩ : _root_.Fin 1100).val : Int) - 100) = i by show (((i + 100).toNat : Int) - 100) = i; omega] at this
  exact this
theorem ok_app {x y : Str} (hx : PyData.strOk x = true) (hy : PyData.strOk y = true) : PyData.strOk (x ++ y) = true := by
  unfold PyData.strOk at hx hy ⊢
  show (x.cps ++ y.cps).all _ = true
  rw [Array.all_append, hx, hy]; rfl
theorem hexOk (w c : Nat) : ∀ d ∈ (let d := (Nat.toDigits 16 c).map Char.toNat; List.replicate (w - d.length) 48 ++ d), d < 0x110000 := fun d hd => by
  rcases List.mem_append.mp hd with h | h
  · rw [(List.mem_replicate.mp h).2]; decide
  · obtain ⟨ch, _, rfl⟩ := List.mem_map.mp h
    have := ch.valid
    show ch.val.toNat < 0x110000
    rcases this with h | h
    · exact Nat.lt_trans h (by decide)
    · exact h.2
theorem reprCh_ok (q c : Nat) (hc : c < 0x110000) : ∀ d ∈ Builtin.Str.reprChar q c, d < 0x110000 := by
  intro d hd
  unfold Builtin.Str.reprChar at hd
  have two : ∀ a b : Nat, a < 0x110000 → b < 0x110000 → d ∈ [a, b] → d < 0x110000 := fun a b ha hb h => by
    simp only [List.mem_cons, List.not_mem_nil, or_false] at h
    rcases h with h | h <;> rw [h] <;> assumption
  dsimp only at hd
  split at hd
  · exact two 92 c (by decide) hc hd
  split at hd
  · exact two _ _ (by decide) (by decide) hd
  split at hd
  · exact two _ _ (by decide) (by decide) hd
  split at hd
  · exact two _ _ (by decide) (by decide) hd
  split at hd
  · rw [List.mem_singleton.mp hd]; exact hc
  split at hd
  · rcases List.mem_append.mp hd with h | h
    · exact two _ _ (by decide) (by decide) h
    · exact hexOk 2 c d h
  split at hd
  · rcases List.mem_append.mp hd with h | h
    · exact two _ _ (by decide) (by decide) h
    · exact hexOk 4 c d h
  · rcases List.mem_append.mp hd with h | h
    · exact two _ _ (by decide) (by decide) h
    · exact hexOk 8 c d h
theorem reprText_ok {x : Str} (h : PyData.strOk x = true) : PyData.strOk (PySem.reprText x) = true ∧ (PySem.reprText x).length ≤ 10 * x.length + 2 := by
  have hx : ∀ c ∈ x.cps.toList, c < 0x110000 := fun c hc => by
    unfold PyData.strOk at h
    rw [Array.all_eq_true_iff_forall_mem] at h
    simpa using h c (Array.mem_toList_iff.mp hc)
  have hq : PySem.reprQuote x < 0x110000 := by
    unfold PySem.reprQuote
    split <;> decide
  refine ⟨?_, StrLaws.reprText_len x fun c hc => Nat.lt_trans (hx c hc) (by decide)⟩
  have fold : ∀ (l : List Nat) (acc : Array Nat), (∀ c ∈ l, c < 0x110000) → (∀ c ∈ acc.toList, c < 0x110000) → ∀ c ∈ (l.foldl (fun out c => out ++ (Builtin.Str.reprChar (PySem.reprQuote x) c).toArray) acc).toList, c < 0x110000 := fun l => by
    induction l with
    | nil => intro acc _ h; exact h
    | cons c l ih =>
      intro acc h1 h2
      rw [List.foldl_cons]
      refine ih _ (fun d hd => h1 d (List.mem_cons_of_mem _ hd)) fun d hd => ?_
      rw [Array.toList_append] at hd
      rcases List.mem_append.mp hd with z | z
      · exact h2 d z
      · exact reprCh_ok _ c (h1 c List.mem_cons_self) d (by simpa using z)
  unfold PyData.strOk
  rw [Array.all_eq_true_iff_forall_mem]
  intro c hc
  rw [decide_eq_true_eq]
  have hc := Array.mem_toList_iff.mpr hc
  unfold PySem.reprText at hc
  dsimp only at hc
  rw [Array.toList_push, ← Array.foldl_toList] at hc
  rcases List.mem_append.mp hc with z | z
  · exact fold _ _ hx (fun d hd => by rw [show d = PySem.reprQuote x by simpa using hd]; exact hq) c z
  · rw [List.mem_singleton.mp z]; exact hq
/-- texts in a row: how long, how good -/
def TxB (ts : List Str) (n : Nat) : Prop := (ts.map fun t => t.length + 2).sum ≤ n ∧ ∀ t ∈ ts, PyData.strOk t = true
theorem textFrom_ok : ∀ (ts : List Str) (k : Nat) (acc : Str), PyData.strOk acc = true → (∀ t ∈ ts, PyData.strOk t = true) → PyData.strOk (PySem.textFrom k acc ts) = true ∧ (PySem.textFrom k acc ts).length ≤ acc.length + (ts.map fun t => t.length + 2).sum
  | [], k, acc, h, _ => ⟨h, Nat.le_add_right _ _⟩
  | t :: ts, k, acc, h, ht => by
    have hc : PyData.strOk ((if k > 0 then ", " else "" : String) : Str) = true ∧ ((if k > 0 then ", " else "" : String) : Str).length ≤ 2 := by
      split
      · exact ⟨by decide +kernel, by decide +kernel⟩
      · exact ⟨by decide +kernel, by decide +kernel⟩
    obtain ⟨a, b⟩ := textFrom_ok ts (k + 1) (acc ++ (if k > 0 then ", " else "" : String) ++ t) (ok_app (ok_app h hc.1) (ht t List.mem_cons_self)) fun u hu => ht u (List.mem_cons_of_mem _ hu)
    refine ⟨a, Nat.le_trans b ?_⟩
    rw [app_len, app_len, List.map_cons, List.sum_cons]
    have := hc.2
    omega
theorem join_ok : ∀ ts : List Str, (∀ t ∈ ts, PyData.strOk t = true) → PyData.strOk (Str.join ", " ts) = true ∧ (Str.join ", " ts).length ≤ (ts.map fun t => t.length + 2).sum
  | [], _ => ⟨by decide +kernel, Nat.le_refl _⟩
  | [x], h => ⟨h x List.mem_cons_self, by show x.length ≤ _; simp⟩
  | x :: y :: r, h => by
    obtain ⟨a, b⟩ := join_ok (y :: r) fun t ht => h t (List.mem_cons_of_mem _ ht)
    refine ⟨ok_app (ok_app (h x List.mem_cons_self) (by decide +kernel)) a, ?_⟩
    show (x ++ ", " ++ Str.join ", " (y :: r)).length ≤ _
    rw [app_len, app_len, List.map_cons, List.sum_cons]
    have e2 : ((", " : String) : Str).length = 2 := rfl
    rw [e2]
    omega
mutual
theorem sh_ok : ∀ w : W, shK w = true → w.toD.shown.length ≤ shB w ∧ PyData.strOk w.toD.shown = true ∧ w.toD.showable = true ∧ w.isD = true
  | .non, _ => ⟨by decide +kernel, by decide +kernel, by decide +kernel, isD_non⟩
  | .bl b, _ => by cases b <;> exact ⟨by decide +kernel, by decide +kernel, by decide +kernel, isD_bl _⟩
  | .int i, h => by
    rw [shK] at h
    obtain ⟨a, b, c⟩ := smI_ok h
    simp only [W.toD, PyData.shown, PyData.showable, shB]
    exact ⟨a, b, decide_eq_true c, isD_int i⟩
  | .str x, h => by
    rw [shK] at h
    obtain ⟨a, b⟩ := reprText_ok h
    simp only [W.toD, PyData.shown, PyData.showable, shB]
    exact ⟨b, a, trivial, (isD_str x).trans h⟩
  | .tup xs, h => by
    rw [shK] at h
    obtain ⟨a, b, c, d⟩ := shs_ok xs h
    obtain ⟨j1, j2⟩ := join_ok _ b
    simp only [W.toD, PyData.shown, PyData.showable, shB]
    refine ⟨?_, ?_, c, (isD_tup xs).trans d⟩
    · unfold PySem.tupleText
      rw [app_len, app_len]
      have e1 : (("(" : String) : Str).length = 1 := rfl
      have e2 : ((if (PyData.shownAll (toDs xs)).length == 1 then ",)" else ")" : String) : Str).length ≤ 2 := by split <;> decide +kernel
      rw [e1]
      omega
    · unfold PySem.tupleText
      exact ok_app (ok_app (by decide +kernel) j1) (by split <;> decide +kernel)
  | .lst xs, h => by
    rw [shK] at h
    obtain ⟨a, b, c, d⟩ := shs_ok xs h
    obtain ⟨j1, j2⟩ := textFrom_ok (PyData.shownAll (toDs xs)) 0 "[" (by decide +kernel) b
    simp only [W.toD, PyData.shown, PyData.showable, shB]
    refine ⟨?_, ?_, c, by rw [W.isD]; exact d⟩
    · unfold PySem.listText
      rw [app_len]
      have e1 : (("[" : String) : Str).length = 1 := rfl
      have e2 : (("]" : String) : Str).length = 1 := rfl
      rw [e2]
      rw [e1] at j2
      omega
    · unfold PySem.listText
      exact ok_app j1 (by decide +kernel)
  | .dic _ _, h => by rw [shK] at h; cases h
  | .obj _ _ _, h => by rw [shK] at h; cases h
  | .ref _, h => by rw [shK] at h; cases h
  | .glo _, h => by rw [shK] at h; cases h
  | .ty _, h => by rw [shK] at h; cases h
  | .clo _ _, h => by rw [shK] at h; cases h
theorem shs_ok : ∀ ws : List W, shKs ws = true → ((PyData.shownAll (toDs ws)).map fun t => t.length + 2).sum ≤ shBs ws ∧ (∀ t ∈ PyData.shownAll (toDs ws), PyData.strOk t = true) ∧ PyData.showableAll (toDs ws) = true ∧ isDs ws = true
  | [], _ => by
    simp only [toDs, PyData.shownAll, PyData.showableAll, shBs]
    exact ⟨Nat.le_refl _, (fun _ h => nomatch h), trivial, isDs_nil⟩
  | w :: ws, h => by
    rw [shKs, Bool.and_eq_true] at h
    obtain ⟨a, b, c, d⟩ := sh_ok w h.1
    obtain ⟨a', b', c', d'⟩ := shs_ok ws h.2
    simp only [toDs, PyData.shownAll, PyData.showableAll, shBs]
    refine ⟨?_, fun t ht => ?_, by rw [c, c']; rfl, by rw [isDs_cons, d, d']; rfl⟩
    · rw [List.map_cons, List.sum_cons]; omega
    · rcases List.mem_cons.mp ht with e | e
      · rw [e]; exact b
      · exact b' t e
end
theorem shwOk_of {w : W} (h : shK w = true) (hd : w.dep ≤ 60) (hs : shB w ≤ SZ) : shwOk w = true := by
  obtain ⟨a, b, c, d⟩ := sh_ok w h
  unfold shwOk shwW
  rw [if_pos ⟨by unfold W.flat; rw [d, decide_eq_true hd]; rfl, c, Nat.le_trans a hs⟩]
  exact b
/-- what is shown is short, by its parts -/
structure Sh (n : Nat) (w : W) : Prop where
  k : shK w = true
  b : shB w ≤ n
theorem Sh.mono {n m : Nat} {w : W} (h : Sh n w) (z : n ≤ m) : Sh m w := ⟨h.k, Nat.le_trans h.b z⟩
theorem sh_n {i : Nat} (h : i < 1000) : Sh 4 (nW i) := ⟨by rw [nW, shK]; unfold smI; rw [decide_eq_true_eq]; omega, Nat.le_refl _⟩
theorem sh_int {i : Int} (h1 : -100 ≤ i) (h : i < 1000) : Sh 4 (.int i) := ⟨by rw [shK]; unfold smI; rw [decide_eq_true_eq]; omega, Nat.le_refl _⟩
theorem sh_bl (b : Bool) : Sh 5 (.bl b) := ⟨by rw [shK], Nat.le_refl _⟩
theorem sh_str {x : Str} (h : PyData.strOk x = true) {n : Nat} (hl : x.length ≤ n) : Sh (10 * n + 2) (.str x) := ⟨by rw [shK]; exact h, by rw [shB]; omega⟩
theorem shs_all {n : Nat} : ∀ {ws : List W}, (∀ w ∈ ws, Sh n w) → shKs ws = true ∧ shBs ws ≤ ws.length * (n + 2)
  | [], _ => ⟨by rw [shKs], by rw [shBs]; exact Nat.zero_le _⟩
  | w :: ws, h => by
    obtain ⟨a, b⟩ := shs_all fun u hu => h u (List.mem_cons_of_mem _ hu)
    have q := h w List.mem_cons_self
    refine ⟨by rw [shKs, q.k, a]; rfl, ?_⟩
    have := q.b
    rw [shBs, List.length_cons, Nat.add_mul]
    omega
theorem sh_tup {n m : Nat} {ws : List W} (h : ∀ w ∈ ws, Sh n w) (hl : ws.length ≤ m) : Sh (m * (n + 2) + 3) (.tup ws) := by
  obtain ⟨a, b⟩ := shs_all h
  refine ⟨by rw [shK]; exact a, ?_⟩
  rw [shB]
  have := Nat.mul_le_mul_right (n + 2) hl
  omega
theorem sh_lst {n m : Nat} {ws : List W} (h : ∀ w ∈ ws, Sh n w) (hl : ws.length ≤ m) : Sh (m * (n + 2) + 3) (.lst ws) := by
  obtain ⟨a, b⟩ := shs_all h
  refine ⟨by rw [shK]; exact a, ?_⟩
  rw [shB]
  have := Nat.mul_le_mul_right (n + 2) hl
  omega
end Pf

/-! part Q8 -/
set_option Elab.async false
set_option linter.all false
set_option maxRecDepth 100000
set_option autoImplicit false
set_option maxHeartbeats 1000000
/-! Names, yards, orders and moves in order. -/
namespace Pf
open PySem L2

abbrev Nm := {x : Str // nameB x = true}
def eN (x : Nm) : Str := x.1
theorem eN_ok : Names eN := ⟨fun a b h => Subtype.ext h, fun a => a.2⟩
theorem zip_ix {α : Type} (l : List α) : (List.range l.length).map nW = (l.zipIdx 0).map fun p => nW p.2 := by
  rw [← List.range'_eq_zipIdx_snd l, List.map_map]; rfl
where
  List.range'_eq_zipIdx_snd {α : Type} (l : List α) : (l.zipIdx 0).map (·.2) = List.range l.length := by rw [List.zipIdx_map_snd, List.range_eq_range']
theorem rngL_zip {α : Type} (l : List α) : rngL 0 l.length = (l.zipIdx 0).map fun p => nW p.2 := by rw [rngL_nat, zip_ix]
section
variable {κ : Type} (e : κ → Str)
/-- the parts of a hall in a row -/
def yrL (h : Hl κ) : List W := [.tup (h.machines.map (kW e)), nW h.slots, nsW h.hands, .tup (h.clean.map (cnW e)), nW h.breaks, nW h.repair, nW h.ills]
def yrW (h : Hl κ) : W := .tup (yrL e h)
end
/-! ### in order -/
theorem alike_pr (a b : Nat × Nat) : PySem.W.alike (prW a).toD (prW b).toD = true := by
  simp [prW, nW, W.toD, toDs, PySem.W.alike, PySem.W.alikeAll]
theorem alike_ns : ∀ a b : List Nat, PySem.W.alikeAll (toDs (a.map nW)) (toDs (b.map nW)) = true
  | [], _ => by simp [toDs, PySem.W.alikeAll]
  | _ :: _, [] => by simp [toDs, PySem.W.alikeAll]
  | a :: l, b :: m => by
    rw [List.map_cons, List.map_cons, toDs, toDs, PySem.W.alikeAll, alike_ns l m]
    simp [nW, W.toD, PySem.W.alike]
theorem alike_prs : ∀ a b : List (Nat × Nat), PySem.W.alikeAll (toDs (a.map prW)) (toDs (b.map prW)) = true
  | [], _ => by simp [toDs, PySem.W.alikeAll]
  | _ :: _, [] => by simp [toDs, PySem.W.alikeAll]
  | a :: l, b :: m => by rw [List.map_cons, List.map_cons, toDs, toDs, PySem.W.alikeAll, alike_prs l m, alike_pr]; rfl
theorem alike_or (a b : List (Nat × Nat)) : alikeW (orW a) (orW b) = true := by
  show PySem.W.alike (.tuple (toDs (a.map prW))) (.tuple (toDs (b.map prW))) = true
  rw [PySem.W.alike, alike_prs]
theorem alike_mv (a b : List Nat × Nat) : alikeW (mvW a) (mvW b) = true := by
  show PySem.W.alike (.tuple [.tuple (toDs (a.1.map nW)), .int a.2]) (.tuple [.tuple (toDs (b.1.map nW)), .int b.2]) = true
  simp [PySem.W.alike, PySem.W.alikeAll, alike_ns]
theorem alike_nsW (a b : List Nat) : alikeW (nsW a) (nsW b) = true := by
  show PySem.W.alike (.tuple (toDs (a.map nW))) (.tuple (toDs (b.map nW))) = true
  rw [PySem.W.alike, alike_ns]
theorem srt_tups {α : Type} {f : α → W} {d : Nat} (hd : d ≤ 60) (h1 : ∀ a, Dt d (f a)) (h2 : ∀ a b, alikeW (f a) (f b) = true) (h3 : ∀ a, isTupD (f a) = true) (l : List α) : srtW (l.map f) = some ((l.mergeSort fun a b => leW (f a) (f b)).map f) := by
  have ok : srtOk (l.map f) = true := by
    unfold srtOk
    rw [Bool.and_eq_true, Bool.and_eq_true]
    refine ⟨⟨(dts_map fun a _ => h1 a).flat hd, ?_⟩, ?_⟩
    · rw [List.all_eq_true]
      intro a ha
      obtain ⟨x, _, rfl⟩ := List.mem_map.mp ha
      rw [List.all_eq_true]
      intro b hb
      obtain ⟨y, _, rfl⟩ := List.mem_map.mp hb
      exact h2 x y
    · rw [Bool.or_eq_true]
      refine .inl (List.all_eq_true.mpr fun a ha => ?_)
      obtain ⟨x, _, rfl⟩ := List.mem_map.mp ha
      exact h3 x
  unfold srtW
  rw [if_pos ok, List.map_mergeSort (s := leW) fun a _ b _ => rfl]
def leO (a b : List (Nat × Nat)) : Bool := leW (orW a) (orW b)
def leM (a b : List Nat × Nat) : Bool := leW (mvW a) (mvW b)
def leL (a b : List Nat) : Bool := leW (nsW a) (nsW b)
theorem srt_or (l : List (List (Nat × Nat))) : srtW (l.map orW) = some ((l.mergeSort leO).map orW) := srt_tups (d := 2) (by decide) dt_or alike_or (fun _ => rfl) l
theorem srt_mv (l : List (List Nat × Nat)) : srtW (l.map mvW) = some ((l.mergeSort leM).map mvW) := srt_tups (d := 2) (by decide) dt_mv alike_mv (fun _ => rfl) l
theorem srt_ns (l : List (List Nat)) : srtW (l.map nsW) = some ((l.mergeSort leL).map nsW) := srt_tups (d := 1) (by decide) dt_ns alike_nsW (fun _ => rfl) l
theorem bi_sorted_l {xs ys : List W} (h : srtW xs = some ys) {w : W} {st : St} (hw : seqOf w st = some xs) : biW .sorted [w] st = some (.lst ys) := by
  show (seqOf w st).bind (fun xs => (srtW xs).map W.lst) = _
  rw [hw, Option.bind_some, h]; rfl
theorem leO_trans (a b c : List (Nat × Nat)) (h1 : leO a b = true) (h2 : leO b c = true) : leO a c = true := leW_trans _ _ _ h1 h2
theorem leO_total (a b : List (Nat × Nat)) : (leO a b || leO b a) = true := leW_total _ _
theorem leM_trans (a b c : List Nat × Nat) (h1 : leM a b = true) (h2 : leM b c = true) : leM a c = true := leW_trans _ _ _ h1 h2
theorem leM_total (a b : List Nat × Nat) : (leM a b || leM b a) = true := leW_total _ _
theorem leL_trans (a b c : List Nat) (h1 : leL a b = true) (h2 : leL b c = true) : leL a c = true := leW_trans _ _ _ h1 h2
theorem leL_total (a b : List Nat) : (leL a b || leL b a) = true := leW_total _ _
/-! ### all orders -/
section
variable {κ : Type} [DecidableEq κ]
/-- the turns that may begin -/
def idxF (lot : List (Turn κ)) (k : κ) (s : Nat) : List Nat := ((lot.zipIdx 0).filter fun p => canB p.1 k s).map (·.2)
def extF (lot : List (Turn κ)) (s : Nat) (found : List (List (Nat × Nat))) (p : κ × Nat) : List (List (Nat × Nat)) := found.flatMap fun o => ((idxF lot p.1 s).filter fun t => !decide (t ∈ o.map (·.1))).map fun t => o ++ [(t, p.2)]
def addF (lot : List (Turn κ)) (s : Nat) (found : List (List (Nat × Nat))) (p : κ × Nat) : List (List (Nat × Nat)) := found ++ extF lot s found p
def ordsF (ms : List κ) (lot : List (Turn κ)) (s : Nat) : List (List (Nat × Nat)) := (ms.zipIdx 0).foldl (addF lot s) [[]]
def sordF (ms : List κ) (lot : List (Turn κ)) (s : Nat) : List (List (Nat × Nat)) := (ordsF ms lot s).mergeSort leO
theorem idxF_len (lot : List (Turn κ)) (k : κ) (s : Nat) : (idxF lot k s).length ≤ lot.length := by
  unfold idxF
  rw [List.length_map]
  exact Nat.le_trans (List.length_filter_le _ _) (by rw [List.length_zipIdx]; exact Nat.le_refl _)
theorem extF_len (lot : List (Turn κ)) (s : Nat) (p : κ × Nat) : ∀ found : List (List (Nat × Nat)), (extF lot s found p).length ≤ found.length * lot.length
  | [] => Nat.zero_le _
  | o :: r => by
    have ih := extF_len lot s p r
    unfold extF at ih ⊢
    rw [List.flatMap_cons, List.length_append, List.length_cons, Nat.add_mul, Nat.one_mul, List.length_map]
    have h1 := List.length_filter_le (fun t => !decide (t ∈ o.map (·.1))) (idxF lot p.1 s)
    have h2 := idxF_len lot p.1 s
    omega
theorem addF_len (lot : List (Turn κ)) (hl : lot.length ≤ 4) (s : Nat) (p : κ × Nat) (found : List (List (Nat × Nat))) : (addF lot s found p).length ≤ 5 * found.length := by
  unfold addF
  rw [List.length_append]
  have h1 := extF_len lot s p found
  have h2 := Nat.mul_le_mul_left found.length hl
  omega
theorem addF_len2 (lot : List (Turn κ)) (hl : lot.length ≤ 4) (s : Nat) : ∀ (l : List (κ × Nat)) (found : List (List (Nat × Nat))), (l.foldl (addF lot s) found).length ≤ 5 ^ l.length * found.length
  | [], found => by simp
  | p :: l, found => by
    rw [List.foldl_cons, List.length_cons, Nat.pow_succ]
    refine Nat.le_trans (addF_len2 lot hl s l _) ?_
    rw [Nat.mul_assoc]
    exact Nat.mul_le_mul_left _ (addF_len lot hl s p found)
theorem ordsF_len (ms : List κ) (hm : ms.length ≤ 2) (lot : List (Turn κ)) (hl : lot.length ≤ 4) (s : Nat) : (ordsF ms lot s).length ≤ 25 := by
  unfold ordsF
  refine Nat.le_trans (addF_len2 lot hl s _ _) ?_
  rw [List.length_zipIdx]
  have := Nat.pow_le_pow_right (n := 5) (by decide) hm
  simp only [List.length_cons, List.length_nil]
  omega
/-- what all orders are like -/
theorem extF_in {lot : List (Turn κ)} {s : Nat} {found : List (List (Nat × Nat))} {p : κ × Nat} {o : List (Nat × Nat)} (h : o ∈ extF lot s found p) : ∃ o0 ∈ found, ∃ t u, lot[t]? = some u ∧ canB u p.1 s = true ∧ t ∉ o0.map (·.1) ∧ o = o0 ++ [(t, p.2)] := by
  unfold extF at h
  obtain ⟨o0, h0, h⟩ := List.mem_flatMap.mp h
  obtain ⟨t, ht, rfl⟩ := List.mem_map.mp h
  rw [List.mem_filter, Bool.not_eq_true', decide_eq_false_iff_not] at ht
  obtain ⟨ht1, ht2⟩ := ht
  unfold idxF at ht1
  obtain ⟨q, hq, rfl⟩ := List.mem_map.mp ht1
  rw [List.mem_filter] at hq
  exact ⟨o0, h0, q.2, q.1, List.mem_zipIdx_iff_getElem?.mp hq.1, hq.2, ht2, rfl⟩
end
/-! ### one cell more -/
/-- the cells that stood there, and others behind them -/
structure Ext (st st' : St) : Prop where
  ok : st'.Okn
  tk : st'.take st.length = st
  le : st.length ≤ st'.length
theorem Ext.refl {st : St} (h : st.Okn) : Ext st st := ⟨h, take_self st, Nat.le_refl _⟩
theorem Ext.app {st st' : St} (h : Ext st st') {ws : List W} {d : Nat} (hw : Dts d ws) : Ext st (st' ++ [.lst ws]) := by
  refine ⟨okn_lst h.ok hw, ?_, by rw [List.length_append]; exact Nat.le_trans h.le (Nat.le_add_right _ _)⟩
  rw [List.take_append_of_le_length h.le]; exact h.tk
theorem add_lst_ref (xs : List W) {ys : List W} {i : Nat} {st : St} (h : lstOf (.ref i) st = some ys) (hl : xs.length + ys.length ≤ SZ) : binW .Add (.lst xs) (.ref i) st = some (.lst (xs ++ ys)) := by
  show (match lstOf (.ref i) st with
    | some ys => if xs.length + ys.length ≤ SZ then some (W.lst (xs ++ ys)) else none
    | none => none) = _
  rw [h]
  show (if xs.length + ys.length ≤ SZ then some (W.lst (xs ++ ys)) else none) = _
  rw [if_pos hl]
theorem okL {st : St} (h : st.Okn) {ws : List W} {d : Nat} (hw : Dts d ws) : St.Okn (st ++ [.lst ws]) := okn_lst h hw
theorem extC_A (st : St) (a ys : List W) : extC (.ref st.length) ys (st ++ [.lst a]) = if a.length + ys.length ≤ SZ then R.ok () (st ++ [.lst (a ++ ys)]) else R.stuck := by
  unfold extC
  simp only [app_get]
  by_cases h : a.length + ys.length ≤ SZ
  · rw [if_pos h, if_pos h, app_set]
  · rw [if_neg h, if_neg h]
end Pf

/-! part Q9 -/
set_option Elab.async false
set_option linter.all false
set_option maxRecDepth 100000
set_option autoImplicit false
set_option maxHeartbeats 1000000
/-! Statement by statement: what stands behind each. -/
namespace Pf
open PySem L2

/-- a run ends well, and so -/
def Okk {α : Type} (r : R α) (Q : α → St → Prop) : Prop := ∃ a st, r = .ok a st ∧ Q a st
theorem Okk.imp {α : Type} {r : R α} {Q Q' : α → St → Prop} (h : Okk r Q) (i : ∀ a st, Q a st → Q' a st) : Okk r Q' := let ⟨a, st, e, q⟩ := h; ⟨a, st, e, i a st q⟩
theorem okk_ok {α : Type} {a : α} {st : St} {Q : α → St → Prop} (h : Q a st) : Okk (.ok a st) Q := ⟨a, st, rfl, h⟩
theorem okk_bnd {α β : Type} {r : R α} {k : α → M β} {P : α → St → Prop} {Q : β → St → Prop} (h : Okk r P) (hk : ∀ a st, P a st → Okk (k a st) Q) : Okk (R.bnd r k) Q := by
  obtain ⟨a, st, e, p⟩ := h
  rw [e, bnd_ok]
  exact hk a st p
theorem okk_bind {α β : Type} {m : M α} {k : α → M β} {st : St} {P : α → St → Prop} {Q : β → St → Prop} (h : Okk (m st) P) (hk : ∀ a st, P a st → Okk (k a st) Q) : Okk ((m >>= k) st) Q := by
  rw [run_bind]; exact okk_bnd h hk
theorem okk_eq {α : Type} {r : R α} {a : α} {st : St} {Q : α → St → Prop} (h : r = .ok a st) (q : Q a st) : Okk r Q := ⟨a, st, h, q⟩
section
variable {C : Cf} {ρ : Ρ} {st : St}
/-- what stands behind a statement -/
def Nx (P : Ρ → St → Prop) : Fl → St → Prop
  | .nx ρ, st => P ρ st
  | .rt _, _ => False
def Rt (P : W → St → Prop) : Fl → St → Prop
  | .nx _, _ => False
  | .rt w, st => P w st
/-- either -/
def Nr (P : Ρ → St → Prop) (P' : W → St → Prop) : Fl → St → Prop
  | .nx ρ, st => P ρ st
  | .rt w, st => P' w st
theorem okk_nx {r : R Fl} {P : Ρ → St → Prop} {ρ1 : Ρ} {st1 : St} (h : r = .ok (.nx ρ1) st1) (p : P ρ1 st1) : Okk r (Nx P) := ⟨.nx ρ1, st1, h, p⟩
theorem okk_rt {r : R Fl} {P : W → St → Prop} {w : W} {st1 : St} (h : r = .ok (.rt w) st1) (p : P w st1) : Okk r (Rt P) := ⟨.rt w, st1, h, p⟩
theorem z_nil {P : Ρ → St → Prop} (h : P ρ st) : Okk (execs C .nil ρ st) (Nx P) := ⟨.nx ρ, st, rfl, h⟩
theorem z_seq {s : Sx} {r : Sxs} (P : Ρ → St → Prop) {Q : Fl → St → Prop} (h : Okk (exec C s ρ st) (Nx P)) (hk : ∀ ρ st, P ρ st → Okk (execs C r ρ st) Q) : Okk (execs C (.cons s r) ρ st) Q := by
  rw [execs_cons]
  refine okk_bind h fun f st1 q => ?_
  cases f with
  | nx ρ1 => rw [thenX_nx]; exact hk ρ1 st1 q
  | rt w => exact q.elim
theorem z_ret {s : Sx} {r : Sxs} {P : W → St → Prop} (h : Okk (exec C s ρ st) (Rt P)) : Okk (execs C (.cons s r) ρ st) (Rt P) := by
  rw [execs_cons]
  refine okk_bind h fun f st1 q => ?_
  cases f with
  | nx ρ1 => exact q.elim
  | rt w => rw [thenX_rt]; exact okk_eq (run_pure _ _) q
theorem z_sr {s : Sx} {r : Sxs} (P : Ρ → St → Prop) {P' : W → St → Prop} (h : Okk (exec C s ρ st) (Nr P P')) (hk : ∀ ρ st, P ρ st → Okk (execs C r ρ st) (Rt P')) : Okk (execs C (.cons s r) ρ st) (Rt P') := by
  rw [execs_cons]
  refine okk_bind h fun f st1 q => ?_
  cases f with
  | nx ρ1 => rw [thenX_nx]; exact hk ρ1 st1 q
  | rt w => rw [thenX_rt]; exact okk_eq (run_pure _ _) q
/-- x = e -/
theorem z_var {i : Nat} {e : Ex} {P : Ρ → St → Prop} (V : W → St → Prop) (h : Okk (ev C e ρ st) V) (hk : ∀ w st, V w st → P (ρ.set i (some w)) st) : Okk (exec C (.set (.var i) e) ρ st) (Nx P) := by
  rw [exec_set]
  refine okk_bind h fun w st1 q => ?_
  rw [run_bind, run_nox, asg_var, run_pure, nx_ok, bnd_ok]
  exact okk_eq (run_pure _ _) (hk w st1 q)
theorem asg_v {i : Nat} {w : W} {Q : Ρ → St → Prop} (h : Q (ρ.set i (some w)) st) : Okk (M.nox (asg C (.var i) w ρ) st) Q := ⟨_, st, by rw [run_nox, asg_var, run_pure, nx_ok], h⟩
theorem z_rets {e : Ex} {V : W → St → Prop} (h : Okk (ev C e ρ st) V) : Okk (exec C (.ret e) ρ st) (Rt V) := by
  rw [exec_ret]
  exact okk_bind h fun w st1 q => okk_eq (run_pure _ _) q
theorem e_ite {c a b : Ex} {V : W → St → Prop} (B : Bool → St → Prop) (h : Okk (M.toB (ev C c ρ) st) B) (ht : ∀ st, B true st → Okk (ev C a ρ st) V) (hf : ∀ st, B false st → Okk (ev C b ρ st) V) : Okk (ev C (.ite c a b) ρ st) V := by
  rw [ev_ite]
  refine okk_bind h fun x st1 q => ?_
  cases x with
  | true => rw [if_pos rfl]; exact ht st1 q
  | false => rw [if_neg (by decide)]; exact hf st1 q
theorem z_ifs {c : Ex} {a b : Sxs} {Q : Fl → St → Prop} (B : Bool → St → Prop) (h : Okk (M.toB (ev C c ρ) st) B) (ht : ∀ st, B true st → Okk (execs C a ρ st) Q) (hf : ∀ st, B false st → Okk (execs C b ρ st) Q) : Okk (exec C (.ifs c a b) ρ st) Q := by
  rw [exec_ifs]
  refine okk_bind h fun x st1 q => ?_
  cases x with
  | true => rw [if_pos rfl]; exact ht st1 q
  | false => rw [if_neg (by decide)]; exact hf st1 q
/-- a walk with an invariant -/
theorem z_for {α : Type} {t : Tg} {it : Ex} {b : Sxs} {enc : α → W} {gd : Gd} (l : List α) (st0 : St) (I : Nat → Ρ → St → Prop) (hi : evI C it ρ st = .ok (l.map enc, gd) st0) (hg : ∀ i ρ st, I i ρ st → M.chkG gd st = .ok () st) (h0 : I 0 ρ st0)
    (hb : ∀ i a ρ st, l[i]? = some a → I i ρ st → Okk (M.nox (asg C t (enc a) ρ) st) fun ρ1 st1 => Okk (execs C b ρ1 st1) (Nx (I (i + 1)))) : Okk (exec C (.for_ t it b) ρ st) (Nx (I l.length)) := by
  rw [exec_for, run_bind, hi, bnd_ok]
  obtain ⟨ρ2, st2, e, h⟩ := forX_ex (C := C) (t := t) (b := b) (enc := enc) (gd := gd) (I := I) hg l 0 ρ st0 h0 (fun i a ρ st ha hI => by
    rw [Nat.zero_add] at hI ⊢
    obtain ⟨ρ1, st1, e1, f, st2, e2, q⟩ := hb i a ρ st ha hI
    cases f with
    | nx ρ2 => exact ⟨ρ2, st2, by rw [run_bind, e1, bnd_ok, e2], q⟩
    | rt w => exact q.elim)
  rw [Nat.zero_add] at h
  exact ⟨.nx ρ2, st2, e, h⟩
/-- a walk that folds -/
theorem z_fold {α β : Type} {t : Tg} {it : Ex} {b : Sxs} {enc : α → W} {gd : Gd} (l : List α) (st0 : St) (g : β → α → β) (x : β) (I : β → Ρ → St → Prop) (hi : evI C it ρ st = .ok (l.map enc, gd) st0) (hg : ∀ x ρ st, I x ρ st → M.chkG gd st = .ok () st) (h0 : I x ρ st0)
    (hb : ∀ a x ρ st, a ∈ l → I x ρ st → Okk (M.nox (asg C t (enc a) ρ) st) fun ρ1 st1 => Okk (execs C b ρ1 st1) (Nx (I (g x a)))) : Okk (exec C (.for_ t it b) ρ st) (Nx (I (l.foldl g x))) := by
  rw [exec_for, run_bind, hi, bnd_ok]
  obtain ⟨ρ2, st2, e, h⟩ := forX_run (C := C) (t := t) (b := b) (enc := enc) (gd := gd) (I := I) (g := g) hg l x ρ st0 h0 (fun a ha x ρ st hI => by
    obtain ⟨ρ1, st1, e1, f, st2, e2, q⟩ := hb a x ρ st ha hI
    cases f with
    | nx ρ2 => exact ⟨ρ2, st2, by rw [run_bind, e1, bnd_ok, e2], q⟩
    | rt w => exact q.elim)
  exact ⟨.nx ρ2, st2, e, h⟩
end
/-! ### defs -/
/-- the draws went on, new cells behind are gone -/
structure Went (st : St) (i : Nat) (st' : St) : Prop where
  ok : st'.Okn
  nx : Next st i (st'.take st.length)
  le : st.length ≤ st'.length
theorem runF_okk {C : Cf} {fd : Fd} {ws : List W} {st : St} {ρ : Ρ} {V : W → St → Prop} (hl : ws.length = fd.ps ∧ fd.ps ≤ fd.slots) (he : ws.map some ++ List.replicate (fd.slots - fd.ps) none = ρ)
    (h : Okk (execs C fd.body ρ st) (Rt fun w st' => st'.length = st.length ∧ st'.Okn ∧ w.low st.length = true ∧ V w st')) : Okk (runF C fd ws st) V := by
  obtain ⟨f, st', e, q⟩ := h
  cases f with
  | nx ρ => exact q.elim
  | rt w => exact ⟨w, st', runF_st hl he e q.2.1 q.1 q.2.2.1, q.2.2.2⟩
/-- .. the cells that are new are gone -/
theorem runF_cut {C : Cf} {fd : Fd} {ws : List W} {st : St} {ρ : Ρ} {V : W → St → Prop} (hl : ws.length = fd.ps ∧ fd.ps ≤ fd.slots) (he : ws.map some ++ List.replicate (fd.slots - fd.ps) none = ρ)
    (h : Okk (execs C fd.body ρ st) (Rt fun w st' => st.length ≤ st'.length ∧ St.Okn (st'.take st.length) ∧ w.low st.length = true ∧ V w (st'.take st.length))) : Okk (runF C fd ws st) V := by
  obtain ⟨f, st', e, q⟩ := h
  cases f with
  | nx ρ => exact q.elim
  | rt w =>
    obtain ⟨q1, q2, q3, q4⟩ := q
    refine ⟨w, st'.take st.length, ?_, q4⟩
    rw [runF_eq C fd ws st hl he, e]
    have ho : (st'.take st.length).all (Cell.low st.length) = true := by
      have := q2.ok
      have h2 : (st'.take st.length).all (Cell.low (st'.take st.length).length) = true := this
      rwa [List.length_take, Nat.min_eq_left q1] at h2
    unfold fin
    simp only []
    rw [if_pos (by rw [ho, decide_eq_true q1]; rfl), if_pos q3]
/-- .. and the ones that stood there stand as they stood -/
theorem runF_ext {C : Cf} {fd : Fd} {ws : List W} {st : St} {ρ : Ρ} {w : W} (hl : ws.length = fd.ps ∧ fd.ps ≤ fd.slots) (he : ws.map some ++ List.replicate (fd.slots - fd.ps) none = ρ) (hs : st.Okn) (hw : w.low st.length = true)
    (h : Okk (execs C fd.body ρ st) (Rt fun w' st' => Ext st st' ∧ w' = w)) : runF C fd ws st = .ok w st := by
  obtain ⟨u, st', e, rfl, rfl⟩ := runF_cut (V := fun w' st' => w' = w ∧ st' = st) hl he (h.imp fun f st' q => by
    cases f with
    | nx ρ => exact q.elim
    | rt w' =>
      obtain ⟨x, rfl⟩ := q
      exact ⟨x.le, by rw [x.tk]; exact hs, hw, rfl, x.tk⟩)
  exact e
end Pf

/-! part Q10 -/
set_option Elab.async false
set_option linter.all false
set_option maxRecDepth 100000
set_option autoImplicit false
set_option maxHeartbeats 1000000
/-! A thing equals itself; the first of sorted ones. -/
namespace Pf
open PySem L2
mutual
theorem eqvW_refl : ∀ w : W, eqvW w w = true
  | .non => rfl
  | .bl b => by rw [eqv_bl]; cases b <;> rfl
  | .int i => by rw [eqv_int, decide_eq_true rfl]
  | .str x => by rw [eqv_str, decide_eq_true rfl]
  | .tup xs => by rw [eqv_tup]; exact eqvWs_refl xs
  | .lst xs => by
    show PyData.eqv (.list (toDs xs)) (.list (toDs xs)) = true
    simp only [PyData.eqv]
    exact eqvWs_refl xs
  | .dic _ _ => rfl | .obj _ _ _ => rfl | .ref _ => rfl | .glo _ => rfl | .ty _ => rfl | .clo _ _ => rfl
theorem eqvWs_refl : ∀ ws : List W, eqvWs ws ws = true
  | [] => eqvs_nil
  | w :: ws => by rw [eqvs_cons, eqvW_refl w, eqvWs_refl ws]; rfl
end
theorem cmp_self {w : W} {d : Nat} (hw : Dt d w) (hd : d ≤ 60) {st : St} (hv : valW w st = w) : cmpW .Eq w w st = some true := by
  rw [cmp_eq_val st (a := w) (b := w) (d := d) (by rw [hv]; exact hw) (by rw [hv]; exact hw) hd, eqvW_refl]
theorem leO_nil {o : List (Nat × Nat)} (h : leO o [] = true) : o = [] := by
  cases o with
  | nil => rfl
  | cons p o =>
    exfalso
    have h : (!PySem.W.dataLt (.tuple []) (.tuple (toDs ((p :: o).map prW)))) = true := h
    have e : PySem.W.dataLt (.tuple []) (.tuple (toDs ((p :: o).map prW))) = true := by
      rw [List.map_cons, toDs, PySem.W.dataLt_tuple, PySem.W.keyToksAll, PySem.W.keyToksAll, PySem.W.lex_atom (by simp), PySem.W.lex_one]
      rfl
    rw [e] at h
    cases h
theorem sord_head {l : List (List (Nat × Nat))} (h : [] ∈ l) : (l.mergeSort leO)[0]? = some [] := by
  have pw := List.pairwise_mergeSort leO_trans leO_total l
  have hm : [] ∈ l.mergeSort leO := List.mem_mergeSort.mpr h
  cases q : l.mergeSort leO with
  | nil => rw [q] at hm; cases hm
  | cons x r =>
    rw [q] at hm pw
    rcases List.mem_cons.mp hm with e | e
    · rw [← e]; rfl
    · have := leO_nil ((List.pairwise_cons.mp pw).1 [] e)
      rw [this]; rfl
theorem sord_again (l : List (List (Nat × Nat))) : (l.mergeSort leO).mergeSort leO = l.mergeSort leO := List.mergeSort_of_pairwise (List.pairwise_mergeSort leO_trans leO_total l)
theorem at_get (ws : List W) (k : Nat) {w : W} (h : ws[k]? = some w) : L2.atI ws (k : Int) = some w := (at_nat ws k).trans h
section
variable {κ : Type} [DecidableEq κ]
def extI (ix : List Nat) (found : List (List (Nat × Nat))) (m : Nat) : List (List (Nat × Nat)) := found.flatMap fun o => (ix.filter fun t => !decide (t ∈ o.map (·.1))).map fun t => o ++ [(t, m)]
theorem nil_ords (ms : List κ) (lot : List (Turn κ)) (s : Nat) : [] ∈ ordsF ms lot s := by
  have : ∀ (l : List (κ × Nat)) (found : List (List (Nat × Nat))), [] ∈ found → [] ∈ l.foldl (addF lot s) found := fun l => by
    induction l with
    | nil => intro found h; exact h
    | cons p l ih => intro found h; rw [List.foldl_cons]; exact ih _ (List.mem_append_left _ h)
  exact this _ _ List.mem_cons_self
theorem ords_two (k : κ) (lot : List (Turn κ)) (s : Nat) {ix : List Nat} (h : idxF lot k s = ix) : ordsF [k, k] lot s = ([[]] ++ extI ix [[]] 0) ++ extI ix ([[]] ++ extI ix [[]] 0) 1 := by
  subst h
  rfl
theorem ords_none (k : κ) (s : Nat) : ordsF [k, k] ([] : List (Turn κ)) s = [[]] := rfl
end
/-- orders can be shown -/
theorem sh_pr {p : Nat × Nat} (h1 : p.1 < 1000) (h2 : p.2 < 1000) : Sh 20 (prW p) := (sh_tup (n := 4) (m := 2) (fun w hw => by
  simp only [List.mem_cons, List.not_mem_nil, or_false] at hw
  rcases hw with rfl | rfl
  · exact sh_n h1
  · exact sh_n h2) (by simp)).mono (by decide)
theorem sh_or {o : List (Nat × Nat)} (h : ∀ p ∈ o, p.1 < 1000 ∧ p.2 < 1000) (hl : o.length ≤ 10) : Sh 300 (orW o) := (sh_tup (n := 20) (m := 10) (fun w hw => by
  obtain ⟨p, hp, rfl⟩ := List.mem_map.mp hw
  exact sh_pr (h p hp).1 (h p hp).2) (by rw [List.length_map]; exact hl)).mono (by decide)
theorem Sh.ok {n d : Nat} {w : W} (h : Sh n w) (hd : Dt d w) (h1 : d ≤ 60) (hs : n ≤ SZ) : shwOk w = true := shwOk_of h.k (Nat.le_trans hd.p h1) (Nat.le_trans h.b hs)
theorem compL_st {α : Type} {f : W → M (List W)} {enc : α → W} {g : α → W} {I : St → Prop} : ∀ (l : List α) (st : St), I st → (∀ a ∈ l, ∀ st, I st → ∃ st2, f (enc a) st = .ok [g a] st2 ∧ I st2) → ∃ st', compL [] f (l.map enc) st = .ok (l.map g) st' ∧ I st'
  | [], st, h, _ => ⟨st, by
      show (M.chkG [] >>= fun _ => pure []) st = _
      rw [run_bind, run_chkG]; rfl, h⟩
  | a :: l, st, h, hb => by
    obtain ⟨st2, e, h2⟩ := hb a List.mem_cons_self st h
    obtain ⟨st3, e3, h3⟩ := compL_st l st2 h2 fun b hb' => hb b (List.mem_cons_of_mem _ hb')
    refine ⟨st3, ?_, h3⟩
    show (M.chkG [] >>= fun _ => f (enc a) >>= fun b => compL [] f (l.map enc) >>= fun r => pure (b ++ r)) st = _
    rw [run_bind, run_chkG, bnd_ok, run_bind, e, bnd_ok, run_bind, e3, bnd_ok]
    rfl
end Pf

/-! part K09a -/
set_option Elab.async false
set_option linter.all false
set_option maxRecDepth 100000
set_option autoImplicit false
set_option maxHeartbeats 0
namespace Pf.Law
open PySem PySem.Spec PyProof.Rows L2 Pf
abbrev pw : Program := PySem.Challenge.pw_turnsmade_k09_whole_orders
def st (i : Nat) : Stmt := pw.main.body.getD i (.Pass ⟨0, 0, 0, 0⟩)
def mt (i j : Nat) : Stmt := (clsS (st i)).getD j (.Pass ⟨0, 0, 0, 0⟩)
def T : Txt := ⟨[("_law_right" : Str), ("_law_purse" : Str), ("_law_yard" : Str), ("_law_hall" : Str), ("_law_lot" : Str), ("_law_all_orders" : Str), ("_law_same" : Str), ("orders" : Str), ("_law_take" : Str), ("_law_name" : Str), ("_law_pick" : Str), ("check_hall" : Str), ("check_lot" : Str), ("check_number" : Str), ("orders_in" : Str), ("is_name" : Str), ("check_within" : Str), ("is_between" : Str), ("clean_fault" : Str), ("lot_fault" : Str), ("can_begin" : Str), ("is_tuple_up_to" : Str), ("is_text" : Str), ("is_number" : Str), ("is_pair" : Str), ("is_named" : Str), ("is_turn_in" : Str), ("is_tuple_of" : Str), ("is_truth" : Str), ("Hall" : Str)], ["fault_of"], ["MOST_MACHINES", "MOST_SLOTS", "MOST_HANDS", "MOST_BREAKS", "MOST_REPAIR", "MOST_ILLS", "LETTERS", "MOST_CLEAN", "MOST_TURNS", "MOST_LENGTH", "MOST_POINTS"], ["all", "range", "max", "min", "len", "tuple", "sorted", "int", "abs", "set", "repr", "isinstance", "enumerate", "str", "bool"], ["Hall"], [], []⟩
def b_f_law : Sxs := (.cons (.ret (.bi .all (.cons (.comp (.call "_law_right" (.cons (.call "_law_purse" (.cons (.var 0) (.cons (.var 1) .nil)) [] .nil) .nil) [] .nil) (.var 1) (.rng (.cst (.int 0)) (.bi .max2 (.cons (.cst (.int 2)) (.cons (.bi .min2 (.cons (.bi .len (.cons (.var 0) .nil)) (.cons (.cst (.int 3)) .nil))) .nil)))) .nil [1]) .nil))) .nil)
def d_f_law : He.DefD := ⟨("law", none), "law", "law", defArgs (st 64), defBody (st 64), defScope (st 64), [], []⟩
def fd_f_law : Fd := ⟨1, 2, b_f_law, false⟩
def e_f_law : Ent := ⟨"law", d_f_law, ["cells", "at"], ["cells"], [], none, false, 80, 80, fd_f_law, plainB 1⟩
def b_f_law_right : Sxs := (.cons (.for_ (.var 1) (.rng (.cst (.int 0)) (.cst (.int 6))) (.cons (.set (.var 2) (.call "_law_yard" (.cons (.var 0) (.cons (.cst (.int 5)) .nil)) [] .nil)) (.cons (.set (.tup (.cons (.var 3) (.cons (.var 4) .nil))) (.tup (.cons (.call "_law_hall" (.cons (.var 2) .nil) [] .nil) (.cons (.call "_law_lot" (.cons (.var 0) (.cons (.var 2) (.cons (.cst (.int 4)) .nil))) [] .nil) .nil)))) (.cons (.for_ (.var 5) (.rng (.cst (.int 0)) (.ix (.var 2) (.cst (.int 1)))) (.cons (.set (.var 6) (.bi .tuple (.cons (.call "_law_all_orders" (.cons (.var 2) (.cons (.var 4) (.cons (.var 5) .nil))) [] .nil) .nil))) (.cons (.ifs (.not (.call "_law_same" (.cons (.lst (.cons (.call "orders" (.cons (.var 3) (.cons (.var 4) (.cons (.var 5) .nil))) [] .nil) (.cons (.call "orders" .nil ["slot", "lot", "hall"] (.cons (.var 5) (.cons (.var 4) (.cons (.var 3) .nil)))) .nil))) (.cons (.lst (.cons (.var 6) (.cons (.var 6) .nil))) .nil)) [] .nil)) (.cons (.ret (.cst (.bl false))) .nil) .nil) .nil))) .nil)))) (.cons (.set (.tup (.cons (.var 7) (.cons (.var 8) .nil))) (.tup (.cons (.ix (.ix (.var 2) (.cst (.int 0))) (.cst (.int 0))) (.cons (.ix (.var 2) (.cst (.int 1))) .nil)))) (.cons (.set (.var 3) (.call "_law_hall" (.cons (.tup (.cons (.tup (.cons (.var 7) (.cons (.var 7) .nil))) (.cons (.var 8) (.cons (.bin .Mult (.tup (.cons (.cst (.int 0)) .nil)) (.var 8)) (.cons (.tup .nil) (.cons (.cst (.int 0)) (.cons (.cst (.int 1)) (.cons (.cst (.int 0)) .nil)))))))) .nil) [] .nil)) (.cons (.set (.var 4) (.bi .tuple (.cons (.comp (.tup (.cons (.var 7) (.cons (.cst (.int 0)) (.cons (.bin .Sub (.var 8) (.cst (.int 1))) (.cons (.cst (.int 1)) (.cons (.cmp .Gt (.var 10) (.cst (.int 1))) (.cons (.bin .Add (.cst (.int 1)) (.var 10)) .nil))))))) (.var 10) (.rng (.cst (.int 0)) (.cst (.int 4))) .nil [10]) .nil))) (.cons (.set (.var 9) (.call "orders" (.cons (.var 3) (.cons (.var 4) (.cons (.call "_law_take" (.cons (.var 0) (.cons (.var 8) .nil)) [] .nil) .nil))) [] .nil)) (.cons (.ret (.and (.cmp .Eq (.bi .len (.cons (.var 9) .nil)) (.cst (.int 21))) (.and (.cmp .Eq (.ix (.var 9) (.cst (.int 0))) (.tup .nil)) (.and (.cmp .Eq (.var 9) (.bi .tuple (.cons (.bi .sorted (.cons (.var 9) .nil)) .nil))) (.cmp .Eq (.call "orders" (.cons (.var 3) (.cons (.tup .nil) (.cons (.cst (.int 0)) .nil))) [] .nil) (.tup (.cons (.tup .nil) .nil))))))) .nil))))))
def d_f_law_right : He.DefD := ⟨("_law_right", none), "_law_right", "_law_right", defArgs (st 63), defBody (st 63), defScope (st 63), [], []⟩
def fd_f_law_right : Fd := ⟨1, 11, b_f_law_right, false⟩
def e_f_law_right : Ent := ⟨"_law_right", d_f_law_right, ["draws", "turn", "yard", "hall", "lot", "slot", "due", "kind", "slots", "told", "at"], ["draws"], [], none, false, 80, 80, fd_f_law_right, plainB 1⟩
def b_f_law_purse : Sxs := (.cons (.set (.var 2) (.ite (.cmp .Lt (.var 1) (.bi .len (.cons (.var 0) .nil))) (.ix (.var 0) (.var 1)) (.cst (.int 0)))) (.cons (.set (.var 3) (.bin .Mod (.bi .int (.cons (.bin .Add (.bin .Add (.bin .Mult (.var 2) (.cst (.int 69621))) (.bin .Mult (.var 1) (.cst (.int 40692)))) (.cst (.int 10007))) .nil)) (.cst (.int 2147483549)))) (.cons (.for_ (.var 4) (.it (.ite (.cmp .GtE (.var 1) (.bi .len (.cons (.var 0) .nil))) (.slH (.var 0) (.cst (.int 4))) (.lst .nil))) (.cons (.set (.var 3) (.bin .Mod (.bi .int (.cons (.bin .Add (.bin .Mult (.var 3) (.cst (.int 45991))) (.var 4)) .nil)) (.cst (.int 2147483549)))) .nil)) (.cons (.ret (.nw (.lst (.cons (.ite (.cmp .GtE (.bi .abs (.cons (.var 2) .nil)) (.bin .Pow (.cst (.int 10)) (.cst (.int 18)))) (.bi .abs (.cons (.var 2) .nil)) (.cst (.int 0))) (.cons (.var 3) (.cons (.cst (.int 0)) .nil)))))) .nil))))
def d_f_law_purse : He.DefD := ⟨("_law_purse", none), "_law_purse", "_law_purse", defArgs (st 51), defBody (st 51), defScope (st 51), [], []⟩
def fd_f_law_purse : Fd := ⟨2, 5, b_f_law_purse, true⟩
def e_f_law_purse : Ent := ⟨"_law_purse", d_f_law_purse, ["cells", "at", "cell", "seed", "other"], ["cells", "at"], [], none, false, 80, 80, fd_f_law_purse, plainB 2⟩
def b_f_law_yard : Sxs := (.cons (.set (.var 2) (.call "_law_name" (.cons (.var 0) (.cons (.tup .nil) .nil)) [] .nil)) (.cons (.set (.tup (.cons (.var 3) (.cons (.var 4) .nil))) (.tup (.cons (.call "_law_name" (.cons (.var 0) (.cons (.tup (.cons (.var 2) .nil)) .nil)) [] .nil) (.cons (.bin .Add (.cst (.int 1)) (.call "_law_take" (.cons (.var 0) (.cons (.var 1) .nil)) [] .nil)) .nil)))) (.cons (.set (.tup (.cons (.var 5) (.cons (.var 6) (.cons (.var 7) .nil)))) (.tup (.cons (.call "_law_pick" (.cons (.var 0) (.cons (.tup (.cons (.tup (.cons (.var 2) .nil)) (.cons (.tup (.cons (.var 2) (.cons (.var 2) .nil))) (.cons (.tup (.cons (.var 2) (.cons (.var 3) .nil))) (.cons (.tup (.cons (.var 2) (.cons (.var 3) .nil))) .nil))))) .nil)) [] .nil) (.cons (.tup .nil) (.cons (.tup .nil) .nil))))) (.cons (.for_ (.var 8) (.rng (.cst (.int 0)) (.var 4)) (.cons (.set (.var 6) (.bin .Add (.var 6) (.tup (.cons (.call "_law_pick" (.cons (.var 0) (.cons (.tup (.cons (.cst (.int 0)) (.cons (.cst (.int 1)) (.cons (.cst (.int 1)) (.cons (.cst (.int 2)) .nil))))) .nil)) [] .nil) .nil)))) .nil)) (.cons (.for_ (.var 9) (.it (.bi .sset (.cons (.var 5) .nil))) (.cons (.ifs (.cmp .Eq (.call "_law_take" (.cons (.var 0) (.cons (.cst (.int 2)) .nil)) [] .nil) (.cst (.int 0))) (.cons (.set (.var 7) (.bin .Add (.var 7) (.tup (.cons (.tup (.cons (.var 9) (.cons (.call "_law_take" (.cons (.var 0) (.cons (.cst (.int 3)) .nil)) [] .nil) .nil))) .nil)))) .nil) .nil) .nil)) (.cons (.ret (.tup (.cons (.var 5) (.cons (.var 4) (.cons (.var 6) (.cons (.var 7) (.cons (.call "_law_take" (.cons (.var 0) (.cons (.cst (.int 3)) .nil)) [] .nil) (.cons (.bin .Add (.cst (.int 1)) (.call "_law_take" (.cons (.var 0) (.cons (.cst (.int 3)) .nil)) [] .nil)) (.cons (.call "_law_take" (.cons (.var 0) (.cons (.cst (.int 3)) .nil)) [] .nil) .nil))))))))) .nil))))))
def d_f_law_yard : He.DefD := ⟨("_law_yard", none), "_law_yard", "_law_yard", defArgs (st 56), defBody (st 56), defScope (st 56), [], []⟩
def fd_f_law_yard : Fd := ⟨2, 10, b_f_law_yard, false⟩
def e_f_law_yard : Ent := ⟨"_law_yard", d_f_law_yard, ["draws", "most", "kind", "other", "slots", "machines", "hands", "clean", "slot", "each"], ["draws", "most"], [], none, false, 80, 80, fd_f_law_yard, plainB 2⟩
def b_f_law_hall : Sxs := (.cons (.ret (.call "Hall" (.cons (.ix (.var 0) (.cst (.int 0))) (.cons (.ix (.var 0) (.cst (.int 1))) (.cons (.ix (.var 0) (.cst (.int 2))) .nil))) ["clean", "breaks", "repair", "ills"] (.cons (.ix (.var 0) (.cst (.int 3))) (.cons (.ix (.var 0) (.cst (.int 4))) (.cons (.ix (.var 0) (.cst (.int 5))) (.cons (.ix (.var 0) (.cst (.int 6))) .nil)))))) .nil)
def d_f_law_hall : He.DefD := ⟨("_law_hall", none), "_law_hall", "_law_hall", defArgs (st 57), defBody (st 57), defScope (st 57), [], []⟩
def fd_f_law_hall : Fd := ⟨1, 1, b_f_law_hall, false⟩
def e_f_law_hall : Ent := ⟨"_law_hall", d_f_law_hall, ["yard"], ["yard"], [], none, false, 80, 80, fd_f_law_hall, plainB 1⟩
def b_f_law_lot : Sxs := (.cons (.set (.var 3) (.tup .nil)) (.cons (.for_ (.var 4) (.rng (.cst (.int 0)) (.call "_law_take" (.cons (.var 0) (.cons (.bin .Add (.var 2) (.cst (.int 1))) .nil)) [] .nil)) (.cons (.set (.var 5) (.ite (.cmp .Gt (.call "_law_take" (.cons (.var 0) (.cons (.cst (.int 9)) .nil)) [] .nil) (.cst (.int 0))) (.call "_law_pick" (.cons (.var 0) (.cons (.ix (.var 1) (.cst (.int 0))) .nil)) [] .nil) (.call "_law_name" (.cons (.var 0) (.cons (.ix (.var 1) (.cst (.int 0))) .nil)) [] .nil))) (.cons (.set (.var 6) (.ite (.cmp .Eq (.call "_law_take" (.cons (.var 0) (.cons (.cst (.int 2)) .nil)) [] .nil) (.cst (.int 0))) (.call "_law_take" (.cons (.var 0) (.cons (.ix (.var 1) (.cst (.int 1))) .nil)) [] .nil) (.cst (.int 0)))) (.cons (.set (.var 7) (.bin .Add (.var 6) (.call "_law_take" (.cons (.var 0) (.cons (.bin .Sub (.ix (.var 1) (.cst (.int 1))) (.var 6)) .nil)) [] .nil))) (.cons (.set (.var 7) (.ite (.cmp .Eq (.call "_law_take" (.cons (.var 0) (.cons (.cst (.int 2)) .nil)) [] .nil) (.cst (.int 0))) (.var 7) (.bin .Sub (.ix (.var 1) (.cst (.int 1))) (.cst (.int 1))))) (.cons (.set (.var 8) (.call "_law_pick" (.cons (.var 0) (.cons (.tup (.cons (.cst (.int 1)) (.cons (.cst (.int 1)) (.cons (.cst (.int 1)) (.cons (.cst (.int 2)) (.cons (.cst (.int 2)) (.cons (.cst (.int 3)) .nil))))))) .nil)) [] .nil)) (.cons (.set (.var 3) (.bin .Add (.var 3) (.tup (.cons (.tup (.cons (.var 5) (.cons (.var 6) (.cons (.var 7) (.cons (.var 8) (.cons (.cmp .Gt (.call "_law_take" (.cons (.var 0) (.cons (.cst (.int 3)) .nil)) [] .nil) (.cst (.int 0))) (.cons (.bin .Add (.cst (.int 1)) (.call "_law_take" (.cons (.var 0) (.cons (.cst (.int 9)) .nil)) [] .nil)) .nil))))))) .nil)))) .nil))))))) (.cons (.ret (.var 3)) .nil)))
def d_f_law_lot : He.DefD := ⟨("_law_lot", none), "_law_lot", "_law_lot", defArgs (st 58), defBody (st 58), defScope (st 58), [], []⟩
def fd_f_law_lot : Fd := ⟨3, 9, b_f_law_lot, false⟩
def e_f_law_lot : Ent := ⟨"_law_lot", d_f_law_lot, ["draws", "yard", "most", "found", "at", "kind", "first", "last", "length"], ["draws", "yard", "most"], [], none, false, 80, 80, fd_f_law_lot, plainB 3⟩
def b_f_law_all_orders : Sxs := (.cons (.set (.var 3) (.lst (.cons (.tup .nil) .nil))) (.cons (.for_ (.var 4) (.rng (.cst (.int 0)) (.bi .len (.cons (.ix (.var 0) (.cst (.int 0))) .nil))) (.cons (.set (.var 5) (.nw (.lst .nil))) (.cons (.for_ (.var 6) (.it (.var 3)) (.cons (.for_ (.var 7) (.rng (.cst (.int 0)) (.bi .len (.cons (.var 1) .nil))) (.cons (.set (.tup (.cons (.var 8) (.cons (.var 9) (.cons (.var 10) (.cons (.var 11) (.cons (.var 12) (.cons (.var 13) .nil))))))) (.ix (.var 1) (.var 7))) (.cons (.ifs (.and (.cmp .Eq (.var 8) (.ix (.ix (.var 0) (.cst (.int 0))) (.var 4))) (.cmp2 .LtE .LtE (.var 9) (.var 2) (.bin .Sub (.bin .Add (.var 10) (.cst (.int 1))) (.var 11)))) (.cons (.ifs (.cmp .NotIn (.var 7) (.comp (.ix (.var 14) (.cst (.int 0))) (.var 14) (.it (.var 6)) .nil [14])) (.cons (.app (.var 5) (.bin .Add (.var 6) (.tup (.cons (.tup (.cons (.var 7) (.cons (.var 4) .nil))) .nil)))) .nil) .nil) .nil) .nil) .nil))) .nil)) (.cons (.set (.var 3) (.bin .Add (.var 3) (.var 5))) .nil)))) (.cons (.ret (.bi .sorted (.cons (.var 3) .nil))) .nil)))
def d_f_law_all_orders : He.DefD := ⟨("_law_all_orders", none), "_law_all_orders", "_law_all_orders", defArgs (st 61), defBody (st 61), defScope (st 61), [], []⟩
def fd_f_law_all_orders : Fd := ⟨3, 15, b_f_law_all_orders, false⟩
def e_f_law_all_orders : Ent := ⟨"_law_all_orders", d_f_law_all_orders, ["yard", "lot", "slot", "found", "machine", "longer", "some", "turn", "kind", "first", "last", "length", "needs", "worth_here", "pair"], ["yard", "lot", "slot"], ["longer"], none, false, 80, 80, fd_f_law_all_orders, plainB 3⟩
def b_f_law_same : Sxs := (.cons (.ret (.cmp .Eq (.bi .repr (.cons (.var 0) .nil)) (.bi .repr (.cons (.var 1) .nil)))) .nil)
def d_f_law_same : He.DefD := ⟨("_law_same", none), "_law_same", "_law_same", defArgs (st 54), defBody (st 54), defScope (st 54), [], []⟩
def fd_f_law_same : Fd := ⟨2, 2, b_f_law_same, false⟩
def e_f_law_same : Ent := ⟨"_law_same", d_f_law_same, ["told", "due"], ["told", "due"], [], none, false, 80, 80, fd_f_law_same, plainB 2⟩
def b_f_orders : Sxs := (.cons (.drop (.call "check_hall" (.cons (.var 0) .nil) [] .nil)) (.cons (.drop (.call "check_lot" (.cons (.var 0) (.cons (.var 1) .nil)) [] .nil)) (.cons (.drop (.call "check_number" (.cons (.var 2) (.cons (.cst (.int 0)) (.cons (.bin .Sub (.attr (.var 0) "slots") (.cst (.int 1))) .nil))) [] .nil)) (.cons (.ret (.call "orders_in" (.cons (.var 0) (.cons (.var 1) (.cons (.var 2) .nil))) [] .nil)) .nil))))
def d_f_orders : He.DefD := ⟨("orders", none), "orders", "orders", defArgs (st 49), defBody (st 49), defScope (st 49), [], []⟩
def s_f_orders : Nat → List Str → Option (List W → List W → Option (List W)) := fun n ks =>
  if n = 0 ∧ ks = (["slot", "lot", "hall"] : List Str) then some (fun wv wz => sel [2, 1, 0] (wv ++ (wz ++ []))) else if n = 3 ∧ ks = ([] : List Str) then some (fun wv wz => sel [0, 1, 2] (wv ++ (wz ++ []))) else none
def fd_f_orders : Fd := ⟨3, 3, b_f_orders, false⟩
def e_f_orders : Ent := ⟨"orders", d_f_orders, ["hall", "lot", "slot"], ["hall", "lot", "slot"], [], none, false, 80, 80, fd_f_orders, s_f_orders⟩
def b_f_law_take : Sxs := (.cons (.set (.tup (.cons (.var 2) (.cons (.var 3) (.cons (.var 4) .nil)))) (.var 0)) (.cons (.set (.ix (.var 0) (.cst (.int 1))) (.bin .Mod (.bi .int (.cons (.bin .Add (.bin .Add (.bin .Mult (.var 3) (.bin .Add (.cst (.int 50027)) (.bin .Mult (.cst (.int 6)) (.var 4)))) (.bin .Mult (.cst (.int 12347)) (.var 4))) (.cst (.int 12358))) .nil)) (.cst (.int 2147483549)))) (.cons (.set (.ix (.var 0) (.cst (.int 2))) (.bin .Add (.var 4) (.cst (.int 1)))) (.cons (.ifs (.cmp .Gt (.var 2) (.cst (.int 0))) (.cons (.set (.ix (.var 0) (.cst (.int 0))) (.bin .FloorDiv (.bi .int (.cons (.var 2) .nil)) (.var 1))) (.cons (.ret (.bin .Mod (.bi .int (.cons (.var 2) .nil)) (.var 1))) .nil)) .nil) (.cons (.ret (.bin .Mod (.bi .int (.cons (.bin .FloorDiv (.ix (.var 0) (.cst (.int 1))) (.cst (.int 128))) .nil)) (.var 1))) .nil)))))
def d_f_law_take : He.DefD := ⟨("_law_take", none), "_law_take", "_law_take", defArgs (st 52), defBody (st 52), defScope (st 52), [], []⟩
def fd_f_law_take : Fd := ⟨2, 5, b_f_law_take, false⟩
def e_f_law_take : Ent := ⟨"_law_take", d_f_law_take, ["draws", "many", "figures", "seed", "turn"], ["draws", "many"], [], none, false, 80, 80, fd_f_law_take, plainB 2⟩
def b_f_law_name : Sxs := (.cons (.set (.tup (.cons (.var 2) (.cons (.var 3) .nil))) (.tup (.cons (.cst (.str "abcdefghijklmnopqrstuvwxyz")) (.cons (.cst (.str "")) .nil)))) (.cons (.for_ (.var 4) (.rng (.cst (.int 0)) (.bin .Add (.cst (.int 1)) (.call "_law_take" (.cons (.var 0) (.cons (.cst (.int 8)) .nil)) [] .nil))) (.cons (.set (.var 3) (.bin .Add (.var 3) (.call "_law_pick" (.cons (.var 0) (.cons (.var 2) .nil)) [] .nil))) .nil)) (.cons (.ret (.ix (.comp (.var 5) (.var 5) (.it (.bin .Add (.lst (.cons (.var 3) .nil)) (.comp (.bin .Add (.cst (.str "k")) (.var 6)) (.var 6) (.it (.var 2)) .nil [6]))) (.cons (.cmp .NotIn (.var 5) (.var 1)) .nil) [5]) (.cst (.int 0)))) .nil)))
def d_f_law_name : He.DefD := ⟨("_law_name", none), "_law_name", "_law_name", defArgs (st 55), defBody (st 55), defScope (st 55), [], []⟩
def fd_f_law_name : Fd := ⟨2, 7, b_f_law_name, false⟩
def e_f_law_name : Ent := ⟨"_law_name", d_f_law_name, ["draws", "taken", "letters", "found", "turn", "each", "letter"], ["draws", "taken"], [], none, false, 80, 80, fd_f_law_name, plainB 2⟩
def b_f_law_pick : Sxs := (.cons (.ret (.ix (.var 1) (.call "_law_take" (.cons (.var 0) (.cons (.bi .len (.cons (.var 1) .nil)) .nil)) [] .nil))) .nil)
def d_f_law_pick : He.DefD := ⟨("_law_pick", none), "_law_pick", "_law_pick", defArgs (st 53), defBody (st 53), defScope (st 53), [], []⟩
def fd_f_law_pick : Fd := ⟨2, 2, b_f_law_pick, false⟩
def e_f_law_pick : Ent := ⟨"_law_pick", d_f_law_pick, ["draws", "some"], ["draws", "some"], [], none, false, 80, 80, fd_f_law_pick, plainB 2⟩
def b_f_check_hall : Sxs := (.cons (.ifs (.not (.isi (.var 0) (.cl "Hall"))) (.cons (.never) .nil) .nil) .nil)
def d_f_check_hall : He.DefD := ⟨("check_hall", none), "check_hall", "check_hall", defArgs (st 45), defBody (st 45), defScope (st 45), [], []⟩
def fd_f_check_hall : Fd := ⟨1, 1, b_f_check_hall, false⟩
def e_f_check_hall : Ent := ⟨"check_hall", d_f_check_hall, ["hall"], ["hall"], [], none, false, 80, 80, fd_f_check_hall, plainB 1⟩
def b_f_check_lot : Sxs := (.cons (.for_ (.var 2) (.it (.call "lot_fault" (.cons (.attr (.var 0) "slots") (.cons (.var 1) .nil)) [] .nil)) (.cons (.never) .nil)) .nil)
def d_f_check_lot : He.DefD := ⟨("check_lot", none), "check_lot", "check_lot", defArgs (st 46), defBody (st 46), defScope (st 46), [], []⟩
def fd_f_check_lot : Fd := ⟨2, 3, b_f_check_lot, false⟩
def e_f_check_lot : Ent := ⟨"check_lot", d_f_check_lot, ["hall", "lot", "fault"], ["hall", "lot"], [], none, false, 80, 80, fd_f_check_lot, plainB 2⟩
def b_f_check_number : Sxs := (.cons (.ifs (.not (.call "is_between" (.cons (.var 0) (.cons (.var 1) (.cons (.var 2) .nil))) [] .nil)) (.cons (.never) .nil) .nil) .nil)
def d_f_check_number : He.DefD := ⟨("check_number", none), "check_number", "check_number", defArgs (st 47), defBody (st 47), defScope (st 47), [], []⟩
def fd_f_check_number : Fd := ⟨3, 3, b_f_check_number, false⟩
def e_f_check_number : Ent := ⟨"check_number", d_f_check_number, ["value", "low", "high"], ["value", "low", "high"], [], none, false, 80, 80, fd_f_check_number, plainB 3⟩
def b_f_orders_in : Sxs := (.cons (.set (.var 3) (.lst (.cons (.tup .nil) .nil))) (.cons (.for_ (.tup (.cons (.var 4) (.cons (.var 5) .nil))) (.enm (.attr (.var 0) "machines")) (.cons (.set (.var 6) (.comp (.var 10) (.tup (.cons (.var 10) (.cons (.var 11) .nil))) (.enm (.var 1)) (.cons (.call "can_begin" (.cons (.var 11) (.cons (.var 5) (.cons (.var 2) .nil))) [] .nil) .nil) [10, 11])) (.cons (.set (.var 7) (.nw (.lst .nil))) (.cons (.for_ (.var 8) (.it (.var 3)) (.cons (.set (.var 9) (.comp (.var 11) (.tup (.cons (.var 11) (.cons (.var 12) .nil))) (.it (.var 8)) .nil [11, 12])) (.cons (.ext (.var 7) (.comp (.tup (.star (.var 8) (.cons (.tup (.cons (.var 10) (.cons (.var 4) .nil))) .nil))) (.var 10) (.it (.var 6)) (.cons (.cmp .NotIn (.var 10) (.var 9)) .nil) [10])) .nil))) (.cons (.set (.var 3) (.bin .Add (.var 3) (.var 7))) .nil))))) (.cons (.ret (.bi .tuple (.cons (.bi .sorted (.cons (.var 3) .nil)) .nil))) .nil)))
def d_f_orders_in : He.DefD := ⟨("orders_in", none), "orders_in", "orders_in", defArgs (st 43), defBody (st 43), defScope (st 43), [], []⟩
def fd_f_orders_in : Fd := ⟨3, 13, b_f_orders_in, false⟩
def e_f_orders_in : Ent := ⟨"orders_in", d_f_orders_in, ["hall", "lot", "slot", "found", "machine", "kind", "some", "longer", "orders", "used", "index", "turn", "_"], ["hall", "lot", "slot"], ["longer"], none, false, 80, 80, fd_f_orders_in, plainB 3⟩
def b_f_is_name : Sxs := (.cons (.ret (.and (.call "is_text" (.cons (.var 0) .nil) [] .nil) (.and (.cmp2 .LtE .LtE (.cst (.int 1)) (.bi .len (.cons (.var 0) .nil)) (.cst (.int 8))) (.bi .all (.cons (.comp (.cmp .In (.var 1) (.glo "LETTERS")) (.var 1) (.it (.var 0)) .nil [1]) .nil))))) .nil)
def d_f_is_name : He.DefD := ⟨("is_name", none), "is_name", "is_name", defArgs (st 15), defBody (st 15), defScope (st 15), [], []⟩
def fd_f_is_name : Fd := ⟨1, 2, b_f_is_name, false⟩
def e_f_is_name : Ent := ⟨"is_name", d_f_is_name, ["value", "sign"], ["value"], [], none, false, 80, 80, fd_f_is_name, plainB 1⟩
def b_f_check_within : Sxs := (.cons (.ifs (.not (.call "is_between" (.cons (.var 0) (.cons (.var 1) (.cons (.var 2) .nil))) [] .nil)) (.cons (.never) .nil) .nil) .nil)
def d_f_check_within : He.DefD := ⟨("check_within", none), "check_within", "check_within", defArgs (st 31), defBody (st 31), defScope (st 31), [], []⟩
def fd_f_check_within : Fd := ⟨3, 3, b_f_check_within, false⟩
def e_f_check_within : Ent := ⟨"check_within", d_f_check_within, ["value", "low", "high"], ["value", "low", "high"], [], none, false, 80, 80, fd_f_check_within, plainB 3⟩
def b_f_is_between : Sxs := (.cons (.ret (.and (.call "is_number" (.cons (.var 0) .nil) [] .nil) (.cmp2 .LtE .LtE (.var 1) (.var 0) (.var 2)))) .nil)
def d_f_is_between : He.DefD := ⟨("is_between", none), "is_between", "is_between", defArgs (st 12), defBody (st 12), defScope (st 12), [], []⟩
def fd_f_is_between : Fd := ⟨3, 3, b_f_is_between, false⟩
def e_f_is_between : Ent := ⟨"is_between", d_f_is_between, ["value", "low", "high"], ["value", "low", "high"], [], none, false, 80, 80, fd_f_is_between, plainB 3⟩
def b_f_clean_fault : Sxs := (.cons (.ifs (.not (.isi (.var 0) (.ty "tuple"))) (.cons (.ret (.tup (.cons (.cst .non) .nil))) .nil) .nil) (.cons (.ret (.callL "fault_of" (.cons (.var 0) (.cons (.cst (.int 0)) (.cons (.bi .len (.cons (.var 0) .nil)) .nil))) 0 2 1 3 (.and (.call "is_pair" (.cons (.var 1) .nil) [] .nil) (.and (.call "is_named" (.cons (.ix (.var 1) (.cst (.int 0))) (.cons (.var 2) .nil)) [] .nil) (.and (.call "is_between" (.cons (.ix (.var 1) (.cst (.int 1))) (.cons (.cst (.int 0)) (.cons (.glo "MOST_CLEAN") .nil))) [] .nil) (.or (.cmp .Eq (.var 0) (.tup .nil)) (.cmp .Lt (.ix (.ix (.var 0) (.neg (.cst (.int 1)))) (.cst (.int 0))) (.ix (.var 1) (.cst (.int 0)))))))) [1])) .nil))
def d_f_clean_fault : He.DefD := ⟨("clean_fault", none), "clean_fault", "clean_fault", defArgs (st 32), defBody (st 32), defScope (st 32), [], []⟩
def fd_f_clean_fault : Fd := ⟨2, 2, b_f_clean_fault, false⟩
def e_f_clean_fault : Ent := ⟨"clean_fault", d_f_clean_fault, ["value", "machines"], ["value", "machines"], [], (some 0), false, 80, 80, fd_f_clean_fault, plainB 2⟩
def b_f_lot_fault : Sxs := (.cons (.ret (.callL "fault_of" (.cons (.var 1) (.cons (.cst (.int 0)) (.cons (.glo "MOST_TURNS") .nil))) 1 2 1 3 (.call "is_turn_in" (.cons (.var 2) (.cons (.var 1) .nil)) [] .nil) [0])) .nil)
def d_f_lot_fault : He.DefD := ⟨("lot_fault", none), "lot_fault", "lot_fault", defArgs (st 41), defBody (st 41), defScope (st 41), [], []⟩
def fd_f_lot_fault : Fd := ⟨2, 2, b_f_lot_fault, false⟩
def e_f_lot_fault : Ent := ⟨"lot_fault", d_f_lot_fault, ["slots", "value"], ["slots", "value"], [], (some 1), false, 80, 80, fd_f_lot_fault, plainB 2⟩
def b_f_can_begin : Sxs := (.cons (.ret (.and (.cmp .Eq (.ix (.var 0) (.cst (.int 0))) (.var 1)) (.cmp2 .LtE .LtE (.ix (.var 0) (.cst (.int 1))) (.var 2) (.bin .Sub (.bin .Add (.ix (.var 0) (.cst (.int 2))) (.cst (.int 1))) (.ix (.var 0) (.cst (.int 3))))))) .nil)
def d_f_can_begin : He.DefD := ⟨("can_begin", none), "can_begin", "can_begin", defArgs (st 42), defBody (st 42), defScope (st 42), [], []⟩
def fd_f_can_begin : Fd := ⟨3, 3, b_f_can_begin, false⟩
def e_f_can_begin : Ent := ⟨"can_begin", d_f_can_begin, ["turn", "kind", "slot"], ["turn", "kind", "slot"], [], none, false, 80, 80, fd_f_can_begin, plainB 3⟩
def b_f_is_tuple_up_to : Sxs := (.cons (.ret (.and (.isi (.var 0) (.ty "tuple")) (.cmp2 .LtE .LtE (.var 1) (.bi .len (.cons (.var 0) .nil)) (.var 2)))) .nil)
def d_f_is_tuple_up_to : He.DefD := ⟨("is_tuple_up_to", none), "is_tuple_up_to", "is_tuple_up_to", defArgs (st 19), defBody (st 19), defScope (st 19), [], []⟩
def fd_f_is_tuple_up_to : Fd := ⟨3, 3, b_f_is_tuple_up_to, false⟩
def e_f_is_tuple_up_to : Ent := ⟨"is_tuple_up_to", d_f_is_tuple_up_to, ["value", "low", "high"], ["value", "low", "high"], [], none, false, 80, 80, fd_f_is_tuple_up_to, plainB 3⟩
def b_f_is_text : Sxs := (.cons (.ret (.isi (.var 0) (.ty "str"))) .nil)
def d_f_is_text : He.DefD := ⟨("is_text", none), "is_text", "is_text", defArgs (st 13), defBody (st 13), defScope (st 13), [], []⟩
def fd_f_is_text : Fd := ⟨1, 1, b_f_is_text, false⟩
def e_f_is_text : Ent := ⟨"is_text", d_f_is_text, ["value"], ["value"], [], none, false, 80, 80, fd_f_is_text, plainB 1⟩
def b_f_is_number : Sxs := (.cons (.ret (.and (.isi (.var 0) (.ty "int")) (.and (.not (.isi (.var 0) (.ty "bool"))) (.cmp .GtE (.var 0) (.cst (.int 0)))))) .nil)
def d_f_is_number : He.DefD := ⟨("is_number", none), "is_number", "is_number", defArgs (st 11), defBody (st 11), defScope (st 11), [], []⟩
def fd_f_is_number : Fd := ⟨1, 1, b_f_is_number, false⟩
def e_f_is_number : Ent := ⟨"is_number", d_f_is_number, ["value"], ["value"], [], none, false, 80, 80, fd_f_is_number, plainB 1⟩
def b_f_is_pair : Sxs := (.cons (.ret (.call "is_tuple_of" (.cons (.var 0) (.cons (.cst (.int 2)) .nil)) [] .nil)) .nil)
def d_f_is_pair : He.DefD := ⟨("is_pair", none), "is_pair", "is_pair", defArgs (st 18), defBody (st 18), defScope (st 18), [], []⟩
def fd_f_is_pair : Fd := ⟨1, 1, b_f_is_pair, false⟩
def e_f_is_pair : Ent := ⟨"is_pair", d_f_is_pair, ["value"], ["value"], [], none, false, 80, 80, fd_f_is_pair, plainB 1⟩
def b_f_is_named : Sxs := (.cons (.ret (.and (.call "is_text" (.cons (.var 0) .nil) [] .nil) (.cmp .In (.var 0) (.var 1)))) .nil)
def d_f_is_named : He.DefD := ⟨("is_named", none), "is_named", "is_named", defArgs (st 16), defBody (st 16), defScope (st 16), [], []⟩
def fd_f_is_named : Fd := ⟨2, 2, b_f_is_named, false⟩
def e_f_is_named : Ent := ⟨"is_named", d_f_is_named, ["value", "names"], ["value", "names"], [], none, false, 80, 80, fd_f_is_named, plainB 2⟩
def b_f_is_turn_in : Sxs := (.cons (.ifs (.or (.not (.call "is_tuple_of" (.cons (.var 1) (.cons (.cst (.int 6)) .nil)) [] .nil)) (.or (.not (.call "is_name" (.cons (.ix (.var 1) (.cst (.int 0))) .nil) [] .nil)) (.not (.call "is_between" (.cons (.ix (.var 1) (.cst (.int 1))) (.cons (.cst (.int 0)) (.cons (.bin .Sub (.var 0) (.cst (.int 1))) .nil))) [] .nil)))) (.cons (.ret (.cst (.bl false))) .nil) .nil) (.cons (.ifs (.or (.not (.call "is_between" (.cons (.ix (.var 1) (.cst (.int 2))) (.cons (.ix (.var 1) (.cst (.int 1))) (.cons (.bin .Sub (.var 0) (.cst (.int 1))) .nil))) [] .nil)) (.not (.call "is_between" (.cons (.ix (.var 1) (.cst (.int 3))) (.cons (.cst (.int 1)) (.cons (.glo "MOST_LENGTH") .nil))) [] .nil))) (.cons (.ret (.cst (.bl false))) .nil) .nil) (.cons (.ret (.and (.call "is_truth" (.cons (.ix (.var 1) (.cst (.int 4))) .nil) [] .nil) (.call "is_between" (.cons (.ix (.var 1) (.cst (.int 5))) (.cons (.cst (.int 1)) (.cons (.glo "MOST_POINTS") .nil))) [] .nil))) .nil)))
def d_f_is_turn_in : He.DefD := ⟨("is_turn_in", none), "is_turn_in", "is_turn_in", defArgs (st 40), defBody (st 40), defScope (st 40), [], []⟩
def fd_f_is_turn_in : Fd := ⟨2, 2, b_f_is_turn_in, false⟩
def e_f_is_turn_in : Ent := ⟨"is_turn_in", d_f_is_turn_in, ["slots", "value"], ["slots", "value"], [], none, false, 80, 80, fd_f_is_turn_in, plainB 2⟩
def b_f_is_tuple_of : Sxs := (.cons (.ret (.and (.isi (.var 0) (.ty "tuple")) (.cmp .Eq (.bi .len (.cons (.var 0) .nil)) (.var 1)))) .nil)
def d_f_is_tuple_of : He.DefD := ⟨("is_tuple_of", none), "is_tuple_of", "is_tuple_of", defArgs (st 17), defBody (st 17), defScope (st 17), [], []⟩
def fd_f_is_tuple_of : Fd := ⟨2, 2, b_f_is_tuple_of, false⟩
def e_f_is_tuple_of : Ent := ⟨"is_tuple_of", d_f_is_tuple_of, ["value", "many"], ["value", "many"], [], none, false, 80, 80, fd_f_is_tuple_of, plainB 2⟩
def b_f_is_truth : Sxs := (.cons (.ret (.isi (.var 0) (.ty "bool"))) .nil)
def d_f_is_truth : He.DefD := ⟨("is_truth", none), "is_truth", "is_truth", defArgs (st 14), defBody (st 14), defScope (st 14), [], []⟩
def fd_f_is_truth : Fd := ⟨1, 1, b_f_is_truth, false⟩
def e_f_is_truth : Ent := ⟨"is_truth", d_f_is_truth, ["value"], ["value"], [], none, false, 80, 80, fd_f_is_truth, plainB 1⟩
def b_f_fault_of : Sxs := (.cons (.ifs (.not (.call "is_tuple_up_to" (.cons (.var 0) (.cons (.var 1) (.cons (.var 2) .nil))) [] .nil)) (.cons (.ret (.tup (.cons (.cst .non) .nil))) .nil) .nil) (.cons (.for_ (.tup (.cons (.var 4) (.cons (.var 5) .nil))) (.enm (.var 0)) (.cons (.ifs (.not (.callV 3 (.cons (.slH (.var 0) (.var 4)) (.cons (.var 5) .nil)))) (.cons (.ret (.tup (.cons (.var 4) .nil))) .nil) .nil) .nil)) (.cons (.ret (.tup .nil)) .nil)))
def d_f_fault_of : He.DefD := ⟨("fault_of", none), "fault_of", "fault_of", defArgs (st 22), defBody (st 22), defScope (st 22), [], []⟩
def fd_f_fault_of : Fd := ⟨4, 6, b_f_fault_of, false⟩
def e_f_fault_of : Ent := ⟨"fault_of", d_f_fault_of, ["values", "low", "high", "is_right", "index", "value"], ["values", "low", "high", "is_right"], [], none, true, 80, 80, fd_f_fault_of, plainB 4⟩
def b_c_Hall : Sxs := (.cons (.for_ (.var 8) (.it (.callL "fault_of" (.cons (.var 1) (.cons (.cst (.int 1)) (.cons (.glo "MOST_MACHINES") .nil))) 2 2 0 2 (.call "is_name" (.cons (.var 1) .nil) [] .nil) [])) (.cons (.never) .nil)) (.cons (.drop (.call "check_within" (.cons (.var 2) (.cons (.cst (.int 1)) (.cons (.glo "MOST_SLOTS") .nil))) [] .nil)) (.cons (.for_ (.var 8) (.it (.callL "fault_of" (.cons (.var 3) (.cons (.var 2) (.cons (.var 2) .nil))) 2 2 0 2 (.call "is_between" (.cons (.var 1) (.cons (.cst (.int 0)) (.cons (.glo "MOST_HANDS") .nil))) [] .nil) [])) (.cons (.never) .nil)) (.cons (.for_ (.var 8) (.it (.call "clean_fault" (.cons (.var 4) (.cons (.var 1) .nil)) [] .nil)) (.cons (.never) .nil)) (.cons (.drop (.call "check_within" (.cons (.var 5) (.cons (.cst (.int 0)) (.cons (.glo "MOST_BREAKS") .nil))) [] .nil)) (.cons (.drop (.call "check_within" (.cons (.var 6) (.cons (.cst (.int 1)) (.cons (.glo "MOST_REPAIR") .nil))) [] .nil)) (.cons (.drop (.call "check_within" (.cons (.var 7) (.cons (.cst (.int 0)) (.cons (.glo "MOST_ILLS") .nil))) [] .nil)) (.cons (.set (.attr (.var 0) "machines") (.var 1)) (.cons (.set (.attr (.var 0) "slots") (.var 2)) (.cons (.set (.attr (.var 0) "hands") (.var 3)) (.cons (.set (.attr (.var 0) "clean") (.var 4)) (.cons (.set (.attr (.var 0) "breaks") (.var 5)) (.cons (.set (.attr (.var 0) "repair") (.var 6)) (.cons (.set (.attr (.var 0) "ills") (.var 7)) .nil))))))))))))))
def d_c_Hall : He.DefD := ⟨("Hall", some "__init__"), "__init__", "Hall.__init__", defArgs (mt 33 0), defBody (mt 33 0), defScope (mt 33 0), [], [("clean", .adr (kwdAt ("Hall", some "__init__") "clean")), ("breaks", .int 0), ("repair", .int 1), ("ills", .int 0)]⟩
def s_c_Hall : Nat → List Str → Option (List W → List W → Option (List W)) := fun n ks =>
  if n = 4 ∧ ks = (["clean", "breaks", "repair", "ills"] : List Str) then some (fun wv wz => sel [0, 1, 2, 3, 4, 5, 6, 7] (wv ++ (wz ++ []))) else none
def fd_c_Hall : Fd := ⟨8, 9, b_c_Hall, false⟩
def e_c_Hall : Ent := ⟨"Hall", d_c_Hall, ["self", "machines", "slots", "hands", "clean", "breaks", "repair", "ills", "fault"], ["self", "machines", "slots", "hands", "clean", "breaks", "repair", "ills"], [], (some 2), false, 80, 80, fd_c_Hall, s_c_Hall⟩
def L : Lw := ⟨T, [e_f_law_right, e_f_law_purse, e_f_law_yard, e_f_law_hall, e_f_law_lot, e_f_law_all_orders, e_f_law_same, e_f_orders, e_f_law_take, e_f_law_name, e_f_law_pick, e_f_check_hall, e_f_check_lot, e_f_check_number, e_f_orders_in, e_f_is_name, e_f_check_within, e_f_is_between, e_f_clean_fault, e_f_lot_fault, e_f_can_begin, e_f_is_tuple_up_to, e_f_is_text, e_f_is_number, e_f_is_pair, e_f_is_named, e_f_is_turn_in, e_f_is_tuple_of, e_f_is_truth], [(false, e_c_Hall)], [e_f_fault_of], e_f_law, [d_f_clean_fault, d_f_lot_fault, d_c_Hall], [("MOST_MACHINES", (.int 2)), ("MOST_SLOTS", (.int 5)), ("MOST_HANDS", (.int 2)), ("MOST_BREAKS", (.int 2)), ("MOST_REPAIR", (.int 3)), ("MOST_ILLS", (.int 2)), ("LETTERS", (.str "abcdefghijklmnopqrstuvwxyz")), ("MOST_CLEAN", (.int 2)), ("MOST_TURNS", (.int 4)), ("MOST_LENGTH", (.int 3)), ("MOST_POINTS", (.int 9))], [(kwdAt ("Hall", some "__init__") "clean", (.tup []))], [("Hall", "machines"), ("Hall", "slots"), ("Hall", "hands"), ("Hall", "clean"), ("Hall", "breaks"), ("Hall", "repair"), ("Hall", "ills")], [((.ty "NoneType", .cl "Hall"), false), ((.ty "bool", .cl "Hall"), false), ((.ty "int", .cl "Hall"), false), ((.ty "str", .cl "Hall"), false), ((.ty "tuple", .cl "Hall"), false), ((.ty "list", .cl "Hall"), false), ((.cl "Hall", .cl "Hall"), true), ((.ty "NoneType", .ty "tuple"), false), ((.ty "bool", .ty "tuple"), false), ((.ty "int", .ty "tuple"), false), ((.ty "str", .ty "tuple"), false), ((.ty "tuple", .ty "tuple"), true), ((.ty "list", .ty "tuple"), false), ((.cl "Hall", .ty "tuple"), false), ((.ty "NoneType", .ty "str"), false), ((.ty "bool", .ty "str"), false), ((.ty "int", .ty "str"), false), ((.ty "str", .ty "str"), true), ((.ty "tuple", .ty "str"), false), ((.ty "list", .ty "str"), false), ((.cl "Hall", .ty "str"), false), ((.ty "NoneType", .ty "int"), false), ((.ty "bool", .ty "int"), true), ((.ty "int", .ty "int"), true), ((.ty "str", .ty "int"), false), ((.ty "tuple", .ty "int"), false), ((.ty "list", .ty "int"), false), ((.cl "Hall", .ty "int"), false), ((.ty "NoneType", .ty "bool"), false), ((.ty "bool", .ty "bool"), true), ((.ty "int", .ty "bool"), false), ((.ty "str", .ty "bool"), false), ((.ty "tuple", .ty "bool"), false), ((.ty "list", .ty "bool"), false), ((.cl "Hall", .ty "bool"), false)], 100000⟩
theorem g_f_law : e_f_law.Good L := ⟨⟨by kernel_rfl, by kernel_rfl, by kernel_rfl, by decide +kernel, by kernel_rfl, by decide +kernel, by decide +kernel⟩, rfl, rfl, by kernel_rfl, (fun l e => nomatch e), fun K _ fd D n ks g e S hK => bnd_plain (d := d_f_law) (ps := e_f_law.ps) (m := 1) ⟨by kernel_rfl, by kernel_rfl, by decide +kernel, rfl, rfl⟩ rfl fd D n ks g e S hK⟩
theorem g_f_law_right : e_f_law_right.Good L := ⟨⟨by kernel_rfl, by kernel_rfl, by kernel_rfl, by decide +kernel, by kernel_rfl, by decide +kernel, by decide +kernel⟩, rfl, rfl, by kernel_rfl, (fun l e => nomatch e), fun K _ fd D n ks g e S hK => bnd_plain (d := d_f_law_right) (ps := e_f_law_right.ps) (m := 1) ⟨by kernel_rfl, by kernel_rfl, by decide +kernel, rfl, rfl⟩ rfl fd D n ks g e S hK⟩
theorem g_f_law_purse : e_f_law_purse.Good L := ⟨⟨by kernel_rfl, by kernel_rfl, by kernel_rfl, by decide +kernel, by kernel_rfl, by decide +kernel, by decide +kernel⟩, rfl, rfl, by kernel_rfl, (fun l e => nomatch e), fun K _ fd D n ks g e S hK => bnd_plain (d := d_f_law_purse) (ps := e_f_law_purse.ps) (m := 2) ⟨by kernel_rfl, by kernel_rfl, by decide +kernel, rfl, rfl⟩ rfl fd D n ks g e S hK⟩
theorem g_f_law_yard : e_f_law_yard.Good L := ⟨⟨by kernel_rfl, by kernel_rfl, by kernel_rfl, by decide +kernel, by kernel_rfl, by decide +kernel, by decide +kernel⟩, rfl, rfl, by kernel_rfl, (fun l e => nomatch e), fun K _ fd D n ks g e S hK => bnd_plain (d := d_f_law_yard) (ps := e_f_law_yard.ps) (m := 2) ⟨by kernel_rfl, by kernel_rfl, by decide +kernel, rfl, rfl⟩ rfl fd D n ks g e S hK⟩
theorem g_f_law_hall : e_f_law_hall.Good L := ⟨⟨by kernel_rfl, by kernel_rfl, by kernel_rfl, by decide +kernel, by kernel_rfl, by decide +kernel, by decide +kernel⟩, rfl, rfl, by kernel_rfl, (fun l e => nomatch e), fun K _ fd D n ks g e S hK => bnd_plain (d := d_f_law_hall) (ps := e_f_law_hall.ps) (m := 1) ⟨by kernel_rfl, by kernel_rfl, by decide +kernel, rfl, rfl⟩ rfl fd D n ks g e S hK⟩
theorem g_f_law_lot : e_f_law_lot.Good L := ⟨⟨by kernel_rfl, by kernel_rfl, by kernel_rfl, by decide +kernel, by kernel_rfl, by decide +kernel, by decide +kernel⟩, rfl, rfl, by kernel_rfl, (fun l e => nomatch e), fun K _ fd D n ks g e S hK => bnd_plain (d := d_f_law_lot) (ps := e_f_law_lot.ps) (m := 3) ⟨by kernel_rfl, by kernel_rfl, by decide +kernel, rfl, rfl⟩ rfl fd D n ks g e S hK⟩
theorem g_f_law_all_orders : e_f_law_all_orders.Good L := ⟨⟨by kernel_rfl, by kernel_rfl, by kernel_rfl, by decide +kernel, by kernel_rfl, by decide +kernel, by decide +kernel⟩, rfl, rfl, by kernel_rfl, (fun l e => nomatch e), fun K _ fd D n ks g e S hK => bnd_plain (d := d_f_law_all_orders) (ps := e_f_law_all_orders.ps) (m := 3) ⟨by kernel_rfl, by kernel_rfl, by decide +kernel, rfl, rfl⟩ rfl fd D n ks g e S hK⟩
theorem g_f_law_same : e_f_law_same.Good L := ⟨⟨by kernel_rfl, by kernel_rfl, by kernel_rfl, by decide +kernel, by kernel_rfl, by decide +kernel, by decide +kernel⟩, rfl, rfl, by kernel_rfl, (fun l e => nomatch e), fun K _ fd D n ks g e S hK => bnd_plain (d := d_f_law_same) (ps := e_f_law_same.ps) (m := 2) ⟨by kernel_rfl, by kernel_rfl, by decide +kernel, rfl, rfl⟩ rfl fd D n ks g e S hK⟩
theorem bf_orders (K : PySem.W.Frag) (X : ∀ x ∈ L.xs, x.ok K = true) (fd : FuncData) (D : FunD K d_f_orders.name d_f_orders.qual d_f_orders.params d_f_orders.body d_f_orders.scope (d_f_orders.dvs K) (d_f_orders.kws K) (He.fAd K d_f_orders.at_) fd) (n : Nat) (ks : List Str) (g : List W → List W → Option (List W)) (e : s_f_orders n ks = some g) (S : Sta) (hK : S.K = K) : Bnd S fd ["hall", "lot", "slot"] n ks g := by
  have D : FunD K d_f_orders.name d_f_orders.qual d_f_orders.params d_f_orders.body d_f_orders.scope [] [] (He.fAd K d_f_orders.at_) fd := D
  unfold s_f_orders at e
  split at e
  · rename_i h; obtain ⟨rfl, rfl⟩ := h; cases e
    refine bnd_kwp D rfl (fun kV doc pm an cdv ct us ws ys l1 l2 e => ?_) S hK
    match us, l1, ws, l2, e with
    | [], _, [b0, b1, b2], _, e => cases e; kernel_rfl
  split at e
  · rename_i h; obtain ⟨rfl, rfl⟩ := h; cases e
    refine bnd_kwp D rfl (fun kV doc pm an cdv ct us ws ys l1 l2 e => ?_) S hK
    match us, l1, ws, l2, e with
    | [a0, a1, a2], _, [], _, e => cases e; kernel_rfl
  cases e
theorem g_f_orders : e_f_orders.Good L := ⟨⟨by kernel_rfl, by kernel_rfl, by kernel_rfl, by decide +kernel, by kernel_rfl, by decide +kernel, by decide +kernel⟩, rfl, rfl, by kernel_rfl, (fun l e => nomatch e), bf_orders⟩
theorem g_f_law_take : e_f_law_take.Good L := ⟨⟨by kernel_rfl, by kernel_rfl, by kernel_rfl, by decide +kernel, by kernel_rfl, by decide +kernel, by decide +kernel⟩, rfl, rfl, by kernel_rfl, (fun l e => nomatch e), fun K _ fd D n ks g e S hK => bnd_plain (d := d_f_law_take) (ps := e_f_law_take.ps) (m := 2) ⟨by kernel_rfl, by kernel_rfl, by decide +kernel, rfl, rfl⟩ rfl fd D n ks g e S hK⟩
theorem g_f_law_name : e_f_law_name.Good L := ⟨⟨by kernel_rfl, by kernel_rfl, by kernel_rfl, by decide +kernel, by kernel_rfl, by decide +kernel, by decide +kernel⟩, rfl, rfl, by kernel_rfl, (fun l e => nomatch e), fun K _ fd D n ks g e S hK => bnd_plain (d := d_f_law_name) (ps := e_f_law_name.ps) (m := 2) ⟨by kernel_rfl, by kernel_rfl, by decide +kernel, rfl, rfl⟩ rfl fd D n ks g e S hK⟩
theorem g_f_law_pick : e_f_law_pick.Good L := ⟨⟨by kernel_rfl, by kernel_rfl, by kernel_rfl, by decide +kernel, by kernel_rfl, by decide +kernel, by decide +kernel⟩, rfl, rfl, by kernel_rfl, (fun l e => nomatch e), fun K _ fd D n ks g e S hK => bnd_plain (d := d_f_law_pick) (ps := e_f_law_pick.ps) (m := 2) ⟨by kernel_rfl, by kernel_rfl, by decide +kernel, rfl, rfl⟩ rfl fd D n ks g e S hK⟩
theorem g_f_check_hall : e_f_check_hall.Good L := ⟨⟨by kernel_rfl, by kernel_rfl, by kernel_rfl, by decide +kernel, by kernel_rfl, by decide +kernel, by decide +kernel⟩, rfl, rfl, by kernel_rfl, (fun l e => nomatch e), fun K _ fd D n ks g e S hK => bnd_plain (d := d_f_check_hall) (ps := e_f_check_hall.ps) (m := 1) ⟨by kernel_rfl, by kernel_rfl, by decide +kernel, rfl, rfl⟩ rfl fd D n ks g e S hK⟩
theorem g_f_check_lot : e_f_check_lot.Good L := ⟨⟨by kernel_rfl, by kernel_rfl, by kernel_rfl, by decide +kernel, by kernel_rfl, by decide +kernel, by decide +kernel⟩, rfl, rfl, by kernel_rfl, (fun l e => nomatch e), fun K _ fd D n ks g e S hK => bnd_plain (d := d_f_check_lot) (ps := e_f_check_lot.ps) (m := 2) ⟨by kernel_rfl, by kernel_rfl, by decide +kernel, rfl, rfl⟩ rfl fd D n ks g e S hK⟩
theorem g_f_check_number : e_f_check_number.Good L := ⟨⟨by kernel_rfl, by kernel_rfl, by kernel_rfl, by decide +kernel, by kernel_rfl, by decide +kernel, by decide +kernel⟩, rfl, rfl, by kernel_rfl, (fun l e => nomatch e), fun K _ fd D n ks g e S hK => bnd_plain (d := d_f_check_number) (ps := e_f_check_number.ps) (m := 3) ⟨by kernel_rfl, by kernel_rfl, by decide +kernel, rfl, rfl⟩ rfl fd D n ks g e S hK⟩
theorem g_f_orders_in : e_f_orders_in.Good L := ⟨⟨by kernel_rfl, by kernel_rfl, by kernel_rfl, by decide +kernel, by kernel_rfl, by decide +kernel, by decide +kernel⟩, rfl, rfl, by kernel_rfl, (fun l e => nomatch e), fun K _ fd D n ks g e S hK => bnd_plain (d := d_f_orders_in) (ps := e_f_orders_in.ps) (m := 3) ⟨by kernel_rfl, by kernel_rfl, by decide +kernel, rfl, rfl⟩ rfl fd D n ks g e S hK⟩
theorem g_f_is_name : e_f_is_name.Good L := ⟨⟨by kernel_rfl, by kernel_rfl, by kernel_rfl, by decide +kernel, by kernel_rfl, by decide +kernel, by decide +kernel⟩, rfl, rfl, by kernel_rfl, (fun l e => nomatch e), fun K _ fd D n ks g e S hK => bnd_plain (d := d_f_is_name) (ps := e_f_is_name.ps) (m := 1) ⟨by kernel_rfl, by kernel_rfl, by decide +kernel, rfl, rfl⟩ rfl fd D n ks g e S hK⟩
theorem g_f_check_within : e_f_check_within.Good L := ⟨⟨by kernel_rfl, by kernel_rfl, by kernel_rfl, by decide +kernel, by kernel_rfl, by decide +kernel, by decide +kernel⟩, rfl, rfl, by kernel_rfl, (fun l e => nomatch e), fun K _ fd D n ks g e S hK => bnd_plain (d := d_f_check_within) (ps := e_f_check_within.ps) (m := 3) ⟨by kernel_rfl, by kernel_rfl, by decide +kernel, rfl, rfl⟩ rfl fd D n ks g e S hK⟩
theorem g_f_is_between : e_f_is_between.Good L := ⟨⟨by kernel_rfl, by kernel_rfl, by kernel_rfl, by decide +kernel, by kernel_rfl, by decide +kernel, by decide +kernel⟩, rfl, rfl, by kernel_rfl, (fun l e => nomatch e), fun K _ fd D n ks g e S hK => bnd_plain (d := d_f_is_between) (ps := e_f_is_between.ps) (m := 3) ⟨by kernel_rfl, by kernel_rfl, by decide +kernel, rfl, rfl⟩ rfl fd D n ks g e S hK⟩
theorem g_f_clean_fault : e_f_clean_fault.Good L := ⟨⟨by kernel_rfl, by kernel_rfl, by kernel_rfl, by decide +kernel, by kernel_rfl, by decide +kernel, by decide +kernel⟩, rfl, rfl, by kernel_rfl, (fun l e => by cases e; rfl), fun K _ fd D n ks g e S hK => bnd_plain (d := d_f_clean_fault) (ps := e_f_clean_fault.ps) (m := 2) ⟨by kernel_rfl, by kernel_rfl, by decide +kernel, rfl, rfl⟩ rfl fd D n ks g e S hK⟩
theorem g_f_lot_fault : e_f_lot_fault.Good L := ⟨⟨by kernel_rfl, by kernel_rfl, by kernel_rfl, by decide +kernel, by kernel_rfl, by decide +kernel, by decide +kernel⟩, rfl, rfl, by kernel_rfl, (fun l e => by cases e; rfl), fun K _ fd D n ks g e S hK => bnd_plain (d := d_f_lot_fault) (ps := e_f_lot_fault.ps) (m := 2) ⟨by kernel_rfl, by kernel_rfl, by decide +kernel, rfl, rfl⟩ rfl fd D n ks g e S hK⟩
theorem g_f_can_begin : e_f_can_begin.Good L := ⟨⟨by kernel_rfl, by kernel_rfl, by kernel_rfl, by decide +kernel, by kernel_rfl, by decide +kernel, by decide +kernel⟩, rfl, rfl, by kernel_rfl, (fun l e => nomatch e), fun K _ fd D n ks g e S hK => bnd_plain (d := d_f_can_begin) (ps := e_f_can_begin.ps) (m := 3) ⟨by kernel_rfl, by kernel_rfl, by decide +kernel, rfl, rfl⟩ rfl fd D n ks g e S hK⟩
theorem g_f_is_tuple_up_to : e_f_is_tuple_up_to.Good L := ⟨⟨by kernel_rfl, by kernel_rfl, by kernel_rfl, by decide +kernel, by kernel_rfl, by decide +kernel, by decide +kernel⟩, rfl, rfl, by kernel_rfl, (fun l e => nomatch e), fun K _ fd D n ks g e S hK => bnd_plain (d := d_f_is_tuple_up_to) (ps := e_f_is_tuple_up_to.ps) (m := 3) ⟨by kernel_rfl, by kernel_rfl, by decide +kernel, rfl, rfl⟩ rfl fd D n ks g e S hK⟩
theorem g_f_is_text : e_f_is_text.Good L := ⟨⟨by kernel_rfl, by kernel_rfl, by kernel_rfl, by decide +kernel, by kernel_rfl, by decide +kernel, by decide +kernel⟩, rfl, rfl, by kernel_rfl, (fun l e => nomatch e), fun K _ fd D n ks g e S hK => bnd_plain (d := d_f_is_text) (ps := e_f_is_text.ps) (m := 1) ⟨by kernel_rfl, by kernel_rfl, by decide +kernel, rfl, rfl⟩ rfl fd D n ks g e S hK⟩
theorem g_f_is_number : e_f_is_number.Good L := ⟨⟨by kernel_rfl, by kernel_rfl, by kernel_rfl, by decide +kernel, by kernel_rfl, by decide +kernel, by decide +kernel⟩, rfl, rfl, by kernel_rfl, (fun l e => nomatch e), fun K _ fd D n ks g e S hK => bnd_plain (d := d_f_is_number) (ps := e_f_is_number.ps) (m := 1) ⟨by kernel_rfl, by kernel_rfl, by decide +kernel, rfl, rfl⟩ rfl fd D n ks g e S hK⟩
theorem g_f_is_pair : e_f_is_pair.Good L := ⟨⟨by kernel_rfl, by kernel_rfl, by kernel_rfl, by decide +kernel, by kernel_rfl, by decide +kernel, by decide +kernel⟩, rfl, rfl, by kernel_rfl, (fun l e => nomatch e), fun K _ fd D n ks g e S hK => bnd_plain (d := d_f_is_pair) (ps := e_f_is_pair.ps) (m := 1) ⟨by kernel_rfl, by kernel_rfl, by decide +kernel, rfl, rfl⟩ rfl fd D n ks g e S hK⟩
theorem g_f_is_named : e_f_is_named.Good L := ⟨⟨by kernel_rfl, by kernel_rfl, by kernel_rfl, by decide +kernel, by kernel_rfl, by decide +kernel, by decide +kernel⟩, rfl, rfl, by kernel_rfl, (fun l e => nomatch e), fun K _ fd D n ks g e S hK => bnd_plain (d := d_f_is_named) (ps := e_f_is_named.ps) (m := 2) ⟨by kernel_rfl, by kernel_rfl, by decide +kernel, rfl, rfl⟩ rfl fd D n ks g e S hK⟩
theorem g_f_is_turn_in : e_f_is_turn_in.Good L := ⟨⟨by kernel_rfl, by kernel_rfl, by kernel_rfl, by decide +kernel, by kernel_rfl, by decide +kernel, by decide +kernel⟩, rfl, rfl, by kernel_rfl, (fun l e => nomatch e), fun K _ fd D n ks g e S hK => bnd_plain (d := d_f_is_turn_in) (ps := e_f_is_turn_in.ps) (m := 2) ⟨by kernel_rfl, by kernel_rfl, by decide +kernel, rfl, rfl⟩ rfl fd D n ks g e S hK⟩
theorem g_f_is_tuple_of : e_f_is_tuple_of.Good L := ⟨⟨by kernel_rfl, by kernel_rfl, by kernel_rfl, by decide +kernel, by kernel_rfl, by decide +kernel, by decide +kernel⟩, rfl, rfl, by kernel_rfl, (fun l e => nomatch e), fun K _ fd D n ks g e S hK => bnd_plain (d := d_f_is_tuple_of) (ps := e_f_is_tuple_of.ps) (m := 2) ⟨by kernel_rfl, by kernel_rfl, by decide +kernel, rfl, rfl⟩ rfl fd D n ks g e S hK⟩
theorem g_f_is_truth : e_f_is_truth.Good L := ⟨⟨by kernel_rfl, by kernel_rfl, by kernel_rfl, by decide +kernel, by kernel_rfl, by decide +kernel, by decide +kernel⟩, rfl, rfl, by kernel_rfl, (fun l e => nomatch e), fun K _ fd D n ks g e S hK => bnd_plain (d := d_f_is_truth) (ps := e_f_is_truth.ps) (m := 1) ⟨by kernel_rfl, by kernel_rfl, by decide +kernel, rfl, rfl⟩ rfl fd D n ks g e S hK⟩
theorem g_f_fault_of : e_f_fault_of.Good L := ⟨⟨by kernel_rfl, by kernel_rfl, by kernel_rfl, by decide +kernel, by kernel_rfl, by decide +kernel, by decide +kernel⟩, rfl, rfl, by kernel_rfl, (fun l e => nomatch e), fun K _ fd D n ks g e S hK => bnd_plain (d := d_f_fault_of) (ps := e_f_fault_of.ps) (m := 4) ⟨by kernel_rfl, by kernel_rfl, by decide +kernel, rfl, rfl⟩ rfl fd D n ks g e S hK⟩
theorem bc_Hall (K : PySem.W.Frag) (X : ∀ x ∈ L.xs, x.ok K = true) (fd : FuncData) (D : FunD K d_c_Hall.name d_c_Hall.qual d_c_Hall.params d_c_Hall.body d_c_Hall.scope (d_c_Hall.dvs K) (d_c_Hall.kws K) (He.fAd K d_c_Hall.at_) fd) (n : Nat) (ks : List Str) (g : List W → List W → Option (List W)) (e : s_c_Hall n ks = some g) (S : Sta) (hK : S.K = K) : Bnd S fd ["self", "machines", "slots", "hands", "clean", "breaks", "repair", "ills"] n ks g := by
  have D : FunD K d_c_Hall.name d_c_Hall.qual d_c_Hall.params d_c_Hall.body d_c_Hall.scope [] [("clean", .ref (kwdAt ("Hall", some "__init__") "clean" K)), ("breaks", .int 0), ("repair", .int 1), ("ills", .int 0)] (He.fAd K d_c_Hall.at_) fd := D
  unfold s_c_Hall at e
  split at e
  · rename_i h; obtain ⟨rfl, rfl⟩ := h; cases e
    refine bnd_kws D [] [] (by simp) (by simp) rfl (fun D doc pm an cdv ct us ws mv ys l1 l2 l3 e => ?_) S hK (fun G => RelWs.nil)
    match us, l1, ws, l2, mv, l3, e with
    | [a0, a1, a2, a3], _, [b0, b1, b2, b3], _, [], _, e => cases e; exact rfl
  cases e
theorem g_c_Hall : e_c_Hall.Good L := ⟨⟨by kernel_rfl, by kernel_rfl, by kernel_rfl, by decide +kernel, by kernel_rfl, by decide +kernel, by decide +kernel⟩, rfl, rfl, by kernel_rfl, (fun l e => by cases e; rfl), bc_Hall⟩
theorem goods : ∀ e ∈ L.es, e.Good L := (List.forall_mem_cons.2 ⟨g_f_law, List.forall_mem_cons.2 ⟨g_f_law_right, List.forall_mem_cons.2 ⟨g_f_law_purse, List.forall_mem_cons.2 ⟨g_f_law_yard, List.forall_mem_cons.2 ⟨g_f_law_hall, List.forall_mem_cons.2 ⟨g_f_law_lot, List.forall_mem_cons.2 ⟨g_f_law_all_orders, List.forall_mem_cons.2 ⟨g_f_law_same, List.forall_mem_cons.2 ⟨g_f_orders, List.forall_mem_cons.2 ⟨g_f_law_take, List.forall_mem_cons.2 ⟨g_f_law_name, List.forall_mem_cons.2 ⟨g_f_law_pick, List.forall_mem_cons.2 ⟨g_f_check_hall, List.forall_mem_cons.2 ⟨g_f_check_lot, List.forall_mem_cons.2 ⟨g_f_check_number, List.forall_mem_cons.2 ⟨g_f_orders_in, List.forall_mem_cons.2 ⟨g_f_is_name, List.forall_mem_cons.2 ⟨g_f_check_within, List.forall_mem_cons.2 ⟨g_f_is_between, List.forall_mem_cons.2 ⟨g_f_clean_fault, List.forall_mem_cons.2 ⟨g_f_lot_fault, List.forall_mem_cons.2 ⟨g_f_can_begin, List.forall_mem_cons.2 ⟨g_f_is_tuple_up_to, List.forall_mem_cons.2 ⟨g_f_is_text, List.forall_mem_cons.2 ⟨g_f_is_number, List.forall_mem_cons.2 ⟨g_f_is_pair, List.forall_mem_cons.2 ⟨g_f_is_named, List.forall_mem_cons.2 ⟨g_f_is_turn_in, List.forall_mem_cons.2 ⟨g_f_is_tuple_of, List.forall_mem_cons.2 ⟨g_f_is_truth, List.forall_mem_cons.2 ⟨g_c_Hall, List.forall_mem_cons.2 ⟨g_f_fault_of, fun _ z => nomatch z⟩⟩⟩⟩⟩⟩⟩⟩⟩⟩⟩⟩⟩⟩⟩⟩⟩⟩⟩⟩⟩⟩⟩⟩⟩⟩⟩⟩⟩⟩⟩⟩)
theorem good : L.Good := ⟨goods, by kernel_rfl, by kernel_rfl, by kernel_rfl, by decide +kernel, by decide +kernel, by decide +kernel, by decide +kernel, (List.forall_mem_cons.2 ⟨⟨rfl, rfl⟩, List.forall_mem_cons.2 ⟨⟨rfl, rfl⟩, List.forall_mem_cons.2 ⟨⟨rfl, rfl⟩, List.forall_mem_cons.2 ⟨⟨rfl, rfl⟩, List.forall_mem_cons.2 ⟨⟨rfl, rfl⟩, List.forall_mem_cons.2 ⟨⟨rfl, rfl⟩, List.forall_mem_cons.2 ⟨⟨rfl, rfl⟩, List.forall_mem_cons.2 ⟨⟨rfl, rfl⟩, List.forall_mem_cons.2 ⟨⟨rfl, rfl⟩, List.forall_mem_cons.2 ⟨⟨rfl, rfl⟩, List.forall_mem_cons.2 ⟨⟨rfl, rfl⟩, List.forall_mem_cons.2 ⟨⟨rfl, rfl⟩, List.forall_mem_cons.2 ⟨⟨rfl, rfl⟩, List.forall_mem_cons.2 ⟨⟨rfl, rfl⟩, List.forall_mem_cons.2 ⟨⟨rfl, rfl⟩, List.forall_mem_cons.2 ⟨⟨rfl, rfl⟩, List.forall_mem_cons.2 ⟨⟨rfl, rfl⟩, List.forall_mem_cons.2 ⟨⟨rfl, rfl⟩, List.forall_mem_cons.2 ⟨⟨rfl, rfl⟩, List.forall_mem_cons.2 ⟨⟨rfl, rfl⟩, List.forall_mem_cons.2 ⟨⟨rfl, rfl⟩, List.forall_mem_cons.2 ⟨⟨rfl, rfl⟩, List.forall_mem_cons.2 ⟨⟨rfl, rfl⟩, List.forall_mem_cons.2 ⟨⟨rfl, rfl⟩, List.forall_mem_cons.2 ⟨⟨rfl, rfl⟩, List.forall_mem_cons.2 ⟨⟨rfl, rfl⟩, List.forall_mem_cons.2 ⟨⟨rfl, rfl⟩, List.forall_mem_cons.2 ⟨⟨rfl, rfl⟩, List.forall_mem_cons.2 ⟨⟨rfl, rfl⟩, fun _ z => nomatch z⟩⟩⟩⟩⟩⟩⟩⟩⟩⟩⟩⟩⟩⟩⟩⟩⟩⟩⟩⟩⟩⟩⟩⟩⟩⟩⟩⟩⟩), (List.forall_mem_cons.2 ⟨⟨rfl, rfl⟩, fun _ z => nomatch z⟩), (List.forall_mem_cons.2 ⟨⟨rfl, ⟨by kernel_rfl, by kernel_rfl, by decide +kernel, rfl, rfl⟩⟩, fun _ z => nomatch z⟩), ⟨rfl, rfl, ⟨by kernel_rfl, by kernel_rfl, by decide +kernel, rfl, rfl⟩, rfl⟩⟩
end Pf.Law

/-! part K09c -/
set_option Elab.async false
set_option linter.all false
set_option maxRecDepth 100000
set_option autoImplicit false
set_option maxHeartbeats 0
namespace Pf.Law
open PySem L2 Pf
abbrev cf (j : Nat) : Cf := L.tab.cf j
theorem fn__law_right (j : Nat) : (cf (j + 1)).fn "_law_right" 1 [] = some (bndW (fun ws _ => some ws) (runF (cf j) fd_f_law_right)) := by cases j <;> kernel_rfl
theorem fn__law_purse (j : Nat) : (cf (j + 1)).fn "_law_purse" 2 [] = some (bndW (fun ws _ => some ws) (runF (cf j) fd_f_law_purse)) := by cases j <;> kernel_rfl
theorem fn__law_yard (j : Nat) : (cf (j + 1)).fn "_law_yard" 2 [] = some (bndW (fun ws _ => some ws) (runF (cf j) fd_f_law_yard)) := by cases j <;> kernel_rfl
theorem fn__law_hall (j : Nat) : (cf (j + 1)).fn "_law_hall" 1 [] = some (bndW (fun ws _ => some ws) (runF (cf j) fd_f_law_hall)) := by cases j <;> kernel_rfl
theorem fn__law_lot (j : Nat) : (cf (j + 1)).fn "_law_lot" 3 [] = some (bndW (fun ws _ => some ws) (runF (cf j) fd_f_law_lot)) := by cases j <;> kernel_rfl
theorem fn__law_all_orders (j : Nat) : (cf (j + 1)).fn "_law_all_orders" 3 [] = some (bndW (fun ws _ => some ws) (runF (cf j) fd_f_law_all_orders)) := by cases j <;> kernel_rfl
theorem fn__law_same (j : Nat) : (cf (j + 1)).fn "_law_same" 2 [] = some (bndW (fun ws _ => some ws) (runF (cf j) fd_f_law_same)) := by cases j <;> kernel_rfl
theorem fn_orders_slot_lot_hall_0 (j : Nat) : (cf (j + 1)).fn "orders" 0 ["slot", "lot", "hall"] = some (bndW (fun wv wz => sel [2, 1, 0] (wv ++ (wz ++ []))) (runF (cf j) fd_f_orders)) := by cases j <;> kernel_rfl
theorem fn_orders_3 (j : Nat) : (cf (j + 1)).fn "orders" 3 [] = some (bndW (fun wv wz => sel [0, 1, 2] (wv ++ (wz ++ []))) (runF (cf j) fd_f_orders)) := by cases j <;> kernel_rfl
theorem fn__law_take (j : Nat) : (cf (j + 1)).fn "_law_take" 2 [] = some (bndW (fun ws _ => some ws) (runF (cf j) fd_f_law_take)) := by cases j <;> kernel_rfl
theorem fn__law_name (j : Nat) : (cf (j + 1)).fn "_law_name" 2 [] = some (bndW (fun ws _ => some ws) (runF (cf j) fd_f_law_name)) := by cases j <;> kernel_rfl
theorem fn__law_pick (j : Nat) : (cf (j + 1)).fn "_law_pick" 2 [] = some (bndW (fun ws _ => some ws) (runF (cf j) fd_f_law_pick)) := by cases j <;> kernel_rfl
theorem fn_check_hall (j : Nat) : (cf (j + 1)).fn "check_hall" 1 [] = some (bndW (fun ws _ => some ws) (runF (cf j) fd_f_check_hall)) := by cases j <;> kernel_rfl
theorem fn_check_lot (j : Nat) : (cf (j + 1)).fn "check_lot" 2 [] = some (bndW (fun ws _ => some ws) (runF (cf j) fd_f_check_lot)) := by cases j <;> kernel_rfl
theorem fn_check_number (j : Nat) : (cf (j + 1)).fn "check_number" 3 [] = some (bndW (fun ws _ => some ws) (runF (cf j) fd_f_check_number)) := by cases j <;> kernel_rfl
theorem fn_orders_in (j : Nat) : (cf (j + 1)).fn "orders_in" 3 [] = some (bndW (fun ws _ => some ws) (runF (cf j) fd_f_orders_in)) := by cases j <;> kernel_rfl
theorem fn_is_name (j : Nat) : (cf (j + 1)).fn "is_name" 1 [] = some (bndW (fun ws _ => some ws) (runF (cf j) fd_f_is_name)) := by cases j <;> kernel_rfl
theorem fn_check_within (j : Nat) : (cf (j + 1)).fn "check_within" 3 [] = some (bndW (fun ws _ => some ws) (runF (cf j) fd_f_check_within)) := by cases j <;> kernel_rfl
theorem fn_is_between (j : Nat) : (cf (j + 1)).fn "is_between" 3 [] = some (bndW (fun ws _ => some ws) (runF (cf j) fd_f_is_between)) := by cases j <;> kernel_rfl
theorem fn_clean_fault (j : Nat) : (cf (j + 1)).fn "clean_fault" 2 [] = some (bndW (fun ws _ => some ws) (runF (cf j) fd_f_clean_fault)) := by cases j <;> kernel_rfl
theorem fn_lot_fault (j : Nat) : (cf (j + 1)).fn "lot_fault" 2 [] = some (bndW (fun ws _ => some ws) (runF (cf j) fd_f_lot_fault)) := by cases j <;> kernel_rfl
theorem fn_can_begin (j : Nat) : (cf (j + 1)).fn "can_begin" 3 [] = some (bndW (fun ws _ => some ws) (runF (cf j) fd_f_can_begin)) := by cases j <;> kernel_rfl
theorem fn_is_tuple_up_to (j : Nat) : (cf (j + 1)).fn "is_tuple_up_to" 3 [] = some (bndW (fun ws _ => some ws) (runF (cf j) fd_f_is_tuple_up_to)) := by cases j <;> kernel_rfl
theorem fn_is_text (j : Nat) : (cf (j + 1)).fn "is_text" 1 [] = some (bndW (fun ws _ => some ws) (runF (cf j) fd_f_is_text)) := by cases j <;> kernel_rfl
theorem fn_is_number (j : Nat) : (cf (j + 1)).fn "is_number" 1 [] = some (bndW (fun ws _ => some ws) (runF (cf j) fd_f_is_number)) := by cases j <;> kernel_rfl
theorem fn_is_pair (j : Nat) : (cf (j + 1)).fn "is_pair" 1 [] = some (bndW (fun ws _ => some ws) (runF (cf j) fd_f_is_pair)) := by cases j <;> kernel_rfl
theorem fn_is_named (j : Nat) : (cf (j + 1)).fn "is_named" 2 [] = some (bndW (fun ws _ => some ws) (runF (cf j) fd_f_is_named)) := by cases j <;> kernel_rfl
theorem fn_is_turn_in (j : Nat) : (cf (j + 1)).fn "is_turn_in" 2 [] = some (bndW (fun ws _ => some ws) (runF (cf j) fd_f_is_turn_in)) := by cases j <;> kernel_rfl
theorem fn_is_tuple_of (j : Nat) : (cf (j + 1)).fn "is_tuple_of" 2 [] = some (bndW (fun ws _ => some ws) (runF (cf j) fd_f_is_tuple_of)) := by cases j <;> kernel_rfl
theorem fn_is_truth (j : Nat) : (cf (j + 1)).fn "is_truth" 1 [] = some (bndW (fun ws _ => some ws) (runF (cf j) fd_f_is_truth)) := by cases j <;> kernel_rfl
theorem fn_Hall_clean_breaks_repair_ills_3 (j : Nat) : (cf (j + 2)).fn "Hall" 3 ["clean", "breaks", "repair", "ills"] = some (mkW "Hall" false (bndW (fun wv wz => sel [0, 1, 2, 3, 4, 5, 6, 7] (wv ++ (wz ++ []))) (runF (cf j) fd_c_Hall))) := by kernel_rfl
theorem hof_fault_of (j : Nat) : (cf (j + 2)).hof "fault_of" 4 = some (fun lam => runF ((cf (j + 1)).withLam lam) fd_f_fault_of) := by kernel_rfl
theorem lamF_s (j np nf sl : Nat) (b : Ex) : (cf (j + 2)).lamF np nf sl b = lamW (cf j) np nf sl b := rfl
theorem gv_MOST_MACHINES (j : Nat) : (cf j).gv "MOST_MACHINES" = some (.int 2) := by rw [cf_gv]; kernel_rfl
theorem gv_MOST_SLOTS (j : Nat) : (cf j).gv "MOST_SLOTS" = some (.int 5) := by rw [cf_gv]; kernel_rfl
theorem gv_MOST_HANDS (j : Nat) : (cf j).gv "MOST_HANDS" = some (.int 2) := by rw [cf_gv]; kernel_rfl
theorem gv_MOST_BREAKS (j : Nat) : (cf j).gv "MOST_BREAKS" = some (.int 2) := by rw [cf_gv]; kernel_rfl
theorem gv_MOST_REPAIR (j : Nat) : (cf j).gv "MOST_REPAIR" = some (.int 3) := by rw [cf_gv]; kernel_rfl
theorem gv_MOST_ILLS (j : Nat) : (cf j).gv "MOST_ILLS" = some (.int 2) := by rw [cf_gv]; kernel_rfl
theorem gv_LETTERS (j : Nat) : (cf j).gv "LETTERS" = some (.str "abcdefghijklmnopqrstuvwxyz") := by rw [cf_gv]; kernel_rfl
theorem gv_MOST_CLEAN (j : Nat) : (cf j).gv "MOST_CLEAN" = some (.int 2) := by rw [cf_gv]; kernel_rfl
theorem gv_MOST_TURNS (j : Nat) : (cf j).gv "MOST_TURNS" = some (.int 4) := by rw [cf_gv]; kernel_rfl
theorem gv_MOST_LENGTH (j : Nat) : (cf j).gv "MOST_LENGTH" = some (.int 3) := by rw [cf_gv]; kernel_rfl
theorem gv_MOST_POINTS (j : Nat) : (cf j).gv "MOST_POINTS" = some (.int 9) := by rw [cf_gv]; kernel_rfl
theorem isi_0 (j : Nat) : (cf j).isi (.ty "NoneType") (.cl "Hall") = some false := by rw [cf_isi]; kernel_rfl
theorem isi_1 (j : Nat) : (cf j).isi (.ty "bool") (.cl "Hall") = some false := by rw [cf_isi]; kernel_rfl
theorem isi_2 (j : Nat) : (cf j).isi (.ty "int") (.cl "Hall") = some false := by rw [cf_isi]; kernel_rfl
theorem isi_3 (j : Nat) : (cf j).isi (.ty "str") (.cl "Hall") = some false := by rw [cf_isi]; kernel_rfl
theorem isi_4 (j : Nat) : (cf j).isi (.ty "tuple") (.cl "Hall") = some false := by rw [cf_isi]; kernel_rfl
theorem isi_5 (j : Nat) : (cf j).isi (.ty "list") (.cl "Hall") = some false := by rw [cf_isi]; kernel_rfl
theorem isi_6 (j : Nat) : (cf j).isi (.cl "Hall") (.cl "Hall") = some true := by rw [cf_isi]; kernel_rfl
theorem isi_7 (j : Nat) : (cf j).isi (.ty "NoneType") (.ty "tuple") = some false := by rw [cf_isi]; kernel_rfl
theorem isi_8 (j : Nat) : (cf j).isi (.ty "bool") (.ty "tuple") = some false := by rw [cf_isi]; kernel_rfl
theorem isi_9 (j : Nat) : (cf j).isi (.ty "int") (.ty "tuple") = some false := by rw [cf_isi]; kernel_rfl
theorem isi_10 (j : Nat) : (cf j).isi (.ty "str") (.ty "tuple") = some false := by rw [cf_isi]; kernel_rfl
theorem isi_11 (j : Nat) : (cf j).isi (.ty "tuple") (.ty "tuple") = some true := by rw [cf_isi]; kernel_rfl
theorem isi_12 (j : Nat) : (cf j).isi (.ty "list") (.ty "tuple") = some false := by rw [cf_isi]; kernel_rfl
theorem isi_13 (j : Nat) : (cf j).isi (.cl "Hall") (.ty "tuple") = some false := by rw [cf_isi]; kernel_rfl
theorem isi_14 (j : Nat) : (cf j).isi (.ty "NoneType") (.ty "str") = some false := by rw [cf_isi]; kernel_rfl
theorem isi_15 (j : Nat) : (cf j).isi (.ty "bool") (.ty "str") = some false := by rw [cf_isi]; kernel_rfl
theorem isi_16 (j : Nat) : (cf j).isi (.ty "int") (.ty "str") = some false := by rw [cf_isi]; kernel_rfl
theorem isi_17 (j : Nat) : (cf j).isi (.ty "str") (.ty "str") = some true := by rw [cf_isi]; kernel_rfl
theorem isi_18 (j : Nat) : (cf j).isi (.ty "tuple") (.ty "str") = some false := by rw [cf_isi]; kernel_rfl
theorem isi_19 (j : Nat) : (cf j).isi (.ty "list") (.ty "str") = some false := by rw [cf_isi]; kernel_rfl
theorem isi_20 (j : Nat) : (cf j).isi (.cl "Hall") (.ty "str") = some false := by rw [cf_isi]; kernel_rfl
theorem isi_21 (j : Nat) : (cf j).isi (.ty "NoneType") (.ty "int") = some false := by rw [cf_isi]; kernel_rfl
theorem isi_22 (j : Nat) : (cf j).isi (.ty "bool") (.ty "int") = some true := by rw [cf_isi]; kernel_rfl
theorem isi_23 (j : Nat) : (cf j).isi (.ty "int") (.ty "int") = some true := by rw [cf_isi]; kernel_rfl
theorem isi_24 (j : Nat) : (cf j).isi (.ty "str") (.ty "int") = some false := by rw [cf_isi]; kernel_rfl
theorem isi_25 (j : Nat) : (cf j).isi (.ty "tuple") (.ty "int") = some false := by rw [cf_isi]; kernel_rfl
theorem isi_26 (j : Nat) : (cf j).isi (.ty "list") (.ty "int") = some false := by rw [cf_isi]; kernel_rfl
theorem isi_27 (j : Nat) : (cf j).isi (.cl "Hall") (.ty "int") = some false := by rw [cf_isi]; kernel_rfl
theorem isi_28 (j : Nat) : (cf j).isi (.ty "NoneType") (.ty "bool") = some false := by rw [cf_isi]; kernel_rfl
theorem isi_29 (j : Nat) : (cf j).isi (.ty "bool") (.ty "bool") = some true := by rw [cf_isi]; kernel_rfl
theorem isi_30 (j : Nat) : (cf j).isi (.ty "int") (.ty "bool") = some false := by rw [cf_isi]; kernel_rfl
theorem isi_31 (j : Nat) : (cf j).isi (.ty "str") (.ty "bool") = some false := by rw [cf_isi]; kernel_rfl
theorem isi_32 (j : Nat) : (cf j).isi (.ty "tuple") (.ty "bool") = some false := by rw [cf_isi]; kernel_rfl
theorem isi_33 (j : Nat) : (cf j).isi (.ty "list") (.ty "bool") = some false := by rw [cf_isi]; kernel_rfl
theorem isi_34 (j : Nat) : (cf j).isi (.cl "Hall") (.ty "bool") = some false := by rw [cf_isi]; kernel_rfl
theorem att_Hall_machines (j : Nat) : (cf j).att "Hall" "machines" = true := by rw [cf_att]; kernel_rfl
theorem att_Hall_slots (j : Nat) : (cf j).att "Hall" "slots" = true := by rw [cf_att]; kernel_rfl
theorem att_Hall_hands (j : Nat) : (cf j).att "Hall" "hands" = true := by rw [cf_att]; kernel_rfl
theorem att_Hall_clean (j : Nat) : (cf j).att "Hall" "clean" = true := by rw [cf_att]; kernel_rfl
theorem att_Hall_breaks (j : Nat) : (cf j).att "Hall" "breaks" = true := by rw [cf_att]; kernel_rfl
theorem att_Hall_repair (j : Nat) : (cf j).att "Hall" "repair" = true := by rw [cf_att]; kernel_rfl
theorem att_Hall_ills (j : Nat) : (cf j).att "Hall" "ills" = true := by rw [cf_att]; kernel_rfl
end Pf.Law

/-! part SR -/
set_option Elab.async false
set_option linter.all false
set_option maxRecDepth 100000
set_option autoImplicit false
set_option maxHeartbeats 4000000
namespace Pf.Law
open PySem L2 Pf
theorem RR : type_of% (And.intro @run_bind (And.intro @bnd_ok (And.intro @run_pure (And.intro @run_lift (And.intro @run_get (And.intro @run_chk (And.intro @run_nox (And.intro @nx_ok (And.intro @run_toB (And.intro @run_toI (And.intro @sz_0 (And.intro @sz_1 (And.intro @sz_2 (And.intro @sz_3 (And.intro @sz_4 (And.intro @sz_5 (And.intro @sz_6 (And.intro @sz_7 (And.intro @sz_8 (And.intro @sz_9 (And.intro @sz_10 (And.intro @sz_11 (And.intro @sz_12 (And.intro @sz_13 (And.intro @sz_14 (And.intro @run_ite (And.intro @run_chkG (And.intro @ev_var (And.intro @ev_glo (And.intro @ev_cst (And.intro @ev_tup (And.intro @ev_lst (And.intro @ev_bin (And.intro @ev_neg (And.intro @ev_not (And.intro @ev_and (And.intro @ev_or (And.intro @ev_ite (And.intro @ev_cmp (And.intro @ev_cmp2 (And.intro @ev_call (And.intro @ev_bi (And.intro @ev_isi (And.intro @ev_callV (And.intro @ev_attr (And.intro @ev_ix (And.intro @ev_sl (And.intro @ev_slL (And.intro @ev_slH (And.intro @ev_slN (And.intro @ev_comp (And.intro @ev_nw (And.intro @evC_lst (And.intro @evC_comp (And.intro @evC_bin (And.intro @evC_bi (And.intro @evI_it (And.intro @evI_rng (And.intro @evI_enm (And.intro @evI_zip (And.intro @evT_nil (And.intro @evT_one (And.intro @evs_nil (And.intro @evs_cons (And.intro @evs_star (And.intro @asg_var (And.intro @asg_tup (And.intro @asg_attr (And.intro @asg_ix (And.intro @asgs_nil (And.intro @asgs_cons (And.intro @tlen_nil (And.intro @tlen_cons (And.intro @alen_nil (And.intro @alen_cons (And.intro @thenX_nx (And.intro @thenX_rt (And.intro @execs_nil (And.intro @execs_cons (And.intro @exec_set (And.intro @exec_app (And.intro @exec_ext (And.intro @exec_drop (And.intro @exec_ret (And.intro @exec_retN (And.intro @exec_pass (And.intro @exec_ifs (And.intro @exec_for (And.intro @exec_while (And.intro @getV_zero (And.intro @getV_succ (And.intro @set_zero (And.intro @set_succ (And.intro @wipe_nil (And.intro @wipe_cons (And.intro @asBl_bl (And.intro @asI_int (And.intro @asClo_clo (And.intro @bndW_plain (And.intro @ite_and (And.intro @ite_or (And.intro @withLam_fn (And.intro @withLam_gv (And.intro @withLam_lam (And.intro @withLam_isi (And.intro @withLam_att (And.intro @withLam_hof (And.intro @forX_nil (And.intro @noclos_nil (And.intro @ltS_0 (And.intro @ltS_1 (And.intro @ltS_2 (And.intro @ltS_3 (And.intro @ltS_4 (And.intro @ltS_5 (And.intro @ltS_6 (And.intro @ltS_7 (And.intro @ltS_8 (And.intro @add_ref (And.intro @leS_2 (And.intro @leS_3 (And.intro @leS_4 (And.intro @leS_5 (And.intro @leS_6 (And.intro @leS_7 (And.intro @leS_8 (And.intro @Option.bind_some.{0, 0} (And.intro @len_app1 (And.intro @lst_A (And.intro @lst_B1 (And.intro @lst_B2 (And.intro @val_A (And.intro @val_B1 (And.intro @val_B2 (And.intro @app_A (And.intro @app_B1 (And.intro @app_B2 (And.intro @run_newC (And.intro @ev_comp2 (And.intro @evC_comp2 (And.intro @turnI_some (And.intro @turnI_none (And.intro @ty_non (And.intro @ty_bl (And.intro @ty_int (And.intro @ty_str (And.intro @ty_tup (And.intro @ty_lst (And.intro @ty_obj (And.intro @cmp_eq_int (And.intro @cmp_lt_int (And.intro @cmp_le_int (And.intro @cmp_gt_int (And.intro @cmp_ge_int (And.intro @bin_add_int (And.intro @bin_sub_int (And.intro @seq_tup (And.intro @seq_lst (And.intro @lst_lst (And.intro @items_tup (And.intro @items_lst (And.intro @gd_tup (And.intro @gd_lst (And.intro @isT_tup (And.intro @isT_lst (And.intro @bi_len_tup (And.intro @bi_len_lst (And.intro @bi_tuple_lst (And.intro @bi_min2 (And.intro @bi_max2 (And.intro @bi_int (And.intro @bi_abs (And.intro @bi_all (And.intro @bi_any (And.intro @bi_sum (And.intro @sl_tup (And.intro @val_tup (And.intro @val_lst (And.intro @val_int (And.intro @val_str (And.intro @List.length_cons.{0} (And.intro @List.length_nil.{0} (And.intro @Nat.zero_add (And.intro @cast_0 (And.intro @cast_1 (And.intro @cast_2 (And.intro @cast_3 (And.intro @cast_4 (And.intro @cast_5 (And.intro @cast_6 (And.intro @cast_7 (And.intro @cast_8 (And.intro @cast_9 (And.intro @decide_true (And.intro @decide_false (And.intro @Bool.not_true (And.intro @Bool.not_false (And.intro @Bool.true_and (And.intro @Bool.and_true (And.intro @Bool.false_and (And.intro @Bool.and_false (And.intro @Bool.true_or (And.intro @Bool.or_true (And.intro @Bool.false_or (And.intro @Bool.or_false (And.intro @if_true.{1} (And.intro @if_false.{1} (And.intro @Bool.false_eq_true (And.intro @beq_self_eq_true.{0} (And.intro @List.append_nil.{0} (And.intro @List.nil_append.{0} (And.intro @List.cons_append.{0} (And.intro @fn__law_right (And.intro @fn__law_purse (And.intro @fn__law_yard (And.intro @fn__law_hall (And.intro @fn__law_lot (And.intro @fn__law_all_orders (And.intro @fn__law_same (And.intro @fn_orders_slot_lot_hall_0 (And.intro @fn_orders_3 (And.intro @fn__law_take (And.intro @fn__law_name (And.intro @fn__law_pick (And.intro @fn_check_hall (And.intro @fn_check_lot (And.intro @fn_check_number (And.intro @fn_orders_in (And.intro @fn_is_name (And.intro @fn_check_within (And.intro @fn_is_between (And.intro @fn_clean_fault (And.intro @fn_lot_fault (And.intro @fn_can_begin (And.intro @fn_is_tuple_up_to (And.intro @fn_is_text (And.intro @fn_is_number (And.intro @fn_is_pair (And.intro @fn_is_named (And.intro @fn_is_turn_in (And.intro @fn_is_tuple_of (And.intro @fn_is_truth (And.intro @fn_Hall_clean_breaks_repair_ills_3 (And.intro @hof_fault_of (And.intro @lamF_s (And.intro @gv_MOST_MACHINES (And.intro @gv_MOST_SLOTS (And.intro @gv_MOST_HANDS (And.intro @gv_MOST_BREAKS (And.intro @gv_MOST_REPAIR (And.intro @gv_MOST_ILLS (And.intro @gv_LETTERS (And.intro @gv_MOST_CLEAN (And.intro @gv_MOST_TURNS (And.intro @gv_MOST_LENGTH (And.intro @gv_MOST_POINTS (And.intro @isi_0 (And.intro @isi_1 (And.intro @isi_2 (And.intro @isi_3 (And.intro @isi_4 (And.intro @isi_5 (And.intro @isi_6 (And.intro @isi_7 (And.intro @isi_8 (And.intro @isi_9 (And.intro @isi_10 (And.intro @isi_11 (And.intro @isi_12 (And.intro @isi_13 (And.intro @isi_14 (And.intro @isi_15 (And.intro @isi_16 (And.intro @isi_17 (And.intro @isi_18 (And.intro @isi_19 (And.intro @isi_20 (And.intro @isi_21 (And.intro @isi_22 (And.intro @isi_23 (And.intro @isi_24 (And.intro @isi_25 (And.intro @isi_26 (And.intro @isi_27 (And.intro @isi_28 (And.intro @isi_29 (And.intro @isi_30 (And.intro @isi_31 (And.intro @isi_32 (And.intro @isi_33 (And.intro @isi_34 (And.intro @att_Hall_machines (And.intro @att_Hall_slots (And.intro @att_Hall_hands (And.intro @att_Hall_clean (And.intro @att_Hall_breaks (And.intro @att_Hall_repair @att_Hall_ills))))))))))))))))))))))))))))))))))))))))))))))))))))))))))))))))))))))))))))))))))))))))))))))))))))))))))))))))))))))))))))))))))))))))))))))))))))))))))))))))))))))))))))))))))))))))))))))))))))))))))))))))))))))))))))))))))))))))))))))))))))))))))))))))))))))))))))))))))))))))))))))))))))))))) := And.intro @run_bind (And.intro @bnd_ok (And.intro @run_pure (And.intro @run_lift (And.intro @run_get (And.intro @run_chk (And.intro @run_nox (And.intro @nx_ok (And.intro @run_toB (And.intro @run_toI (And.intro @sz_0 (And.intro @sz_1 (And.intro @sz_2 (And.intro @sz_3 (And.intro @sz_4 (And.intro @sz_5 (And.intro @sz_6 (And.intro @sz_7 (And.intro @sz_8 (And.intro @sz_9 (And.intro @sz_10 (And.intro @sz_11 (And.intro @sz_12 (And.intro @sz_13 (And.intro @sz_14 (And.intro @run_ite (And.intro @run_chkG (And.intro @ev_var (And.intro @ev_glo (And.intro @ev_cst (And.intro @ev_tup (And.intro @ev_lst (And.intro @ev_bin (And.intro @ev_neg (And.intro @ev_not (And.intro @ev_and (And.intro @ev_or (And.intro @ev_ite (And.intro @ev_cmp (And.intro @ev_cmp2 (And.intro @ev_call (And.intro @ev_bi (And.intro @ev_isi (And.intro @ev_callV (And.intro @ev_attr (And.intro @ev_ix (And.intro @ev_sl (And.intro @ev_slL (And.intro @ev_slH (And.intro @ev_slN (And.intro @ev_comp (And.intro @ev_nw (And.intro @evC_lst (And.intro @evC_comp (And.intro @evC_bin (And.intro @evC_bi (And.intro @evI_it (And.intro @evI_rng (And.intro @evI_enm (And.intro @evI_zip (And.intro @evT_nil (And.intro @evT_one (And.intro @evs_nil (And.intro @evs_cons (And.intro @evs_star (And.intro @asg_var (And.intro @asg_tup (And.intro @asg_attr (And.intro @asg_ix (And.intro @asgs_nil (And.intro @asgs_cons (And.intro @tlen_nil (And.intro @tlen_cons (And.intro @alen_nil (And.intro @alen_cons (And.intro @thenX_nx (And.intro @thenX_rt (And.intro @execs_nil (And.intro @execs_cons (And.intro @exec_set (And.intro @exec_app (And.intro @exec_ext (And.intro @exec_drop (And.intro @exec_ret (And.intro @exec_retN (And.intro @exec_pass (And.intro @exec_ifs (And.intro @exec_for (And.intro @exec_while (And.intro @getV_zero (And.intro @getV_succ (And.intro @set_zero (And.intro @set_succ (And.intro @wipe_nil (And.intro @wipe_cons (And.intro @asBl_bl (And.intro @asI_int (And.intro @asClo_clo (And.intro @bndW_plain (And.intro @ite_and (And.intro @ite_or (And.intro @withLam_fn (And.intro @withLam_gv (And.intro @withLam_lam (And.intro @withLam_isi (And.intro @withLam_att (And.intro @withLam_hof (And.intro @forX_nil (And.intro @noclos_nil (And.intro @ltS_0 (And.intro @ltS_1 (And.intro @ltS_2 (And.intro @ltS_3 (And.intro @ltS_4 (And.intro @ltS_5 (And.intro @ltS_6 (And.intro @ltS_7 (And.intro @ltS_8 (And.intro @add_ref (And.intro @leS_2 (And.intro @leS_3 (And.intro @leS_4 (And.intro @leS_5 (And.intro @leS_6 (And.intro @leS_7 (And.intro @leS_8 (And.intro @Option.bind_some.{0, 0} (And.intro @len_app1 (And.intro @lst_A (And.intro @lst_B1 (And.intro @lst_B2 (And.intro @val_A (And.intro @val_B1 (And.intro @val_B2 (And.intro @app_A (And.intro @app_B1 (And.intro @app_B2 (And.intro @run_newC (And.intro @ev_comp2 (And.intro @evC_comp2 (And.intro @turnI_some (And.intro @turnI_none (And.intro @ty_non (And.intro @ty_bl (And.intro @ty_int (And.intro @ty_str (And.intro @ty_tup (And.intro @ty_lst (And.intro @ty_obj (And.intro @cmp_eq_int (And.intro @cmp_lt_int (And.intro @cmp_le_int (And.intro @cmp_gt_int (And.intro @cmp_ge_int (And.intro @bin_add_int (And.intro @bin_sub_int (And.intro @seq_tup (And.intro @seq_lst (And.intro @lst_lst (And.intro @items_tup (And.intro @items_lst (And.intro @gd_tup (And.intro @gd_lst (And.intro @isT_tup (And.intro @isT_lst (And.intro @bi_len_tup (And.intro @bi_len_lst (And.intro @bi_tuple_lst (And.intro @bi_min2 (And.intro @bi_max2 (And.intro @bi_int (And.intro @bi_abs (And.intro @bi_all (And.intro @bi_any (And.intro @bi_sum (And.intro @sl_tup (And.intro @val_tup (And.intro @val_lst (And.intro @val_int (And.intro @val_str (And.intro @List.length_cons.{0} (And.intro @List.length_nil.{0} (And.intro @Nat.zero_add (And.intro @cast_0 (And.intro @cast_1 (And.intro @cast_2 (And.intro @cast_3 (And.intro @cast_4 (And.intro @cast_5 (And.intro @cast_6 (And.intro @cast_7 (And.intro @cast_8 (And.intro @cast_9 (And.intro @decide_true (And.intro @decide_false (And.intro @Bool.not_true (And.intro @Bool.not_false (And.intro @Bool.true_and (And.intro @Bool.and_true (And.intro @Bool.false_and (And.intro @Bool.and_false (And.intro @Bool.true_or (And.intro @Bool.or_true (And.intro @Bool.false_or (And.intro @Bool.or_false (And.intro @if_true.{1} (And.intro @if_false.{1} (And.intro @Bool.false_eq_true (And.intro @beq_self_eq_true.{0} (And.intro @List.append_nil.{0} (And.intro @List.nil_append.{0} (And.intro @List.cons_append.{0} (And.intro @fn__law_right (And.intro @fn__law_purse (And.intro @fn__law_yard (And.intro @fn__law_hall (And.intro @fn__law_lot (And.intro @fn__law_all_orders (And.intro @fn__law_same (And.intro @fn_orders_slot_lot_hall_0 (And.intro @fn_orders_3 (And.intro @fn__law_take (And.intro @fn__law_name (And.intro @fn__law_pick (And.intro @fn_check_hall (And.intro @fn_check_lot (And.intro @fn_check_number (And.intro @fn_orders_in (And.intro @fn_is_name (And.intro @fn_check_within (And.intro @fn_is_between (And.intro @fn_clean_fault (And.intro @fn_lot_fault (And.intro @fn_can_begin (And.intro @fn_is_tuple_up_to (And.intro @fn_is_text (And.intro @fn_is_number (And.intro @fn_is_pair (And.intro @fn_is_named (And.intro @fn_is_turn_in (And.intro @fn_is_tuple_of (And.intro @fn_is_truth (And.intro @fn_Hall_clean_breaks_repair_ills_3 (And.intro @hof_fault_of (And.intro @lamF_s (And.intro @gv_MOST_MACHINES (And.intro @gv_MOST_SLOTS (And.intro @gv_MOST_HANDS (And.intro @gv_MOST_BREAKS (And.intro @gv_MOST_REPAIR (And.intro @gv_MOST_ILLS (And.intro @gv_LETTERS (And.intro @gv_MOST_CLEAN (And.intro @gv_MOST_TURNS (And.intro @gv_MOST_LENGTH (And.intro @gv_MOST_POINTS (And.intro @isi_0 (And.intro @isi_1 (And.intro @isi_2 (And.intro @isi_3 (And.intro @isi_4 (And.intro @isi_5 (And.intro @isi_6 (And.intro @isi_7 (And.intro @isi_8 (And.intro @isi_9 (And.intro @isi_10 (And.intro @isi_11 (And.intro @isi_12 (And.intro @isi_13 (And.intro @isi_14 (And.intro @isi_15 (And.intro @isi_16 (And.intro @isi_17 (And.intro @isi_18 (And.intro @isi_19 (And.intro @isi_20 (And.intro @isi_21 (And.intro @isi_22 (And.intro @isi_23 (And.intro @isi_24 (And.intro @isi_25 (And.intro @isi_26 (And.intro @isi_27 (And.intro @isi_28 (And.intro @isi_29 (And.intro @isi_30 (And.intro @isi_31 (And.intro @isi_32 (And.intro @isi_33 (And.intro @isi_34 (And.intro @att_Hall_machines (And.intro @att_Hall_slots (And.intro @att_Hall_hands (And.intro @att_Hall_clean (And.intro @att_Hall_breaks (And.intro @att_Hall_repair @att_Hall_ills))))))))))))))))))))))))))))))))))))))))))))))))))))))))))))))))))))))))))))))))))))))))))))))))))))))))))))))))))))))))))))))))))))))))))))))))))))))))))))))))))))))))))))))))))))))))))))))))))))))))))))))))))))))))))))))))))))))))))))))))))))))))))))))))))))))))))))))))))))))))))))))))))))))))
end Pf.Law

/-! part S1 -/
set_option Elab.async false
set_option linter.all false
set_option maxRecDepth 100000
set_option autoImplicit false
set_option maxHeartbeats 4000000
namespace Pf.Law
open PySem L2 Pf
theorem is_number_i (j : Nat) (i : Int) (st : St) (ho : st.Okn) : runF (cf j) fd_f_is_number [.int i] st = .ok (.bl (decide (0 ≤ i))) st :=
  runF_pure ho.ok ⟨rfl, by decide⟩ rfl (st' := st) (by
    (show execs _ b_f_is_number _ _ = _; unfold b_f_is_number; try simp only [fd_f_is_number, List.map_cons, List.map_nil, List.reduceReplicate, Nat.reduceSub, List.cons_append, List.nil_append])
    simp only [RR, Nat.reduceAdd, Int.reduceEq, Int.reduceLE, Int.reduceLT, Int.reduceAdd, Int.reduceSub, Int.reduceMul, reduceIte]) (take_self st) (by rw [W.low])
theorem is_between_i (j : Nat) (v lo hi : Int) (st : St) (ho : st.Okn) : runF (cf (j + 1)) fd_f_is_between [.int v, .int lo, .int hi] st = .ok (.bl (decide (0 ≤ v) && (decide (lo ≤ v) && decide (v ≤ hi)))) st :=
  runF_pure ho.ok ⟨rfl, by decide⟩ rfl (st' := st) (by
    (show execs _ b_f_is_between _ _ = _; unfold b_f_is_between; try simp only [fd_f_is_between, List.map_cons, List.map_nil, List.reduceReplicate, Nat.reduceSub, List.cons_append, List.nil_append])
    simp only [RR, Nat.reduceAdd, Int.reduceEq, Int.reduceLE, Int.reduceLT, Int.reduceAdd, Int.reduceSub, Int.reduceMul, reduceIte, is_number_i _ _ _ ho]) (take_self st) (by rw [W.low])
theorem is_text_s (j : Nat) (x : Str) (st : St) (ho : st.Okn) : runF (cf j) fd_f_is_text [.str x] st = .ok (.bl true) st :=
  runF_pure ho.ok ⟨rfl, by decide⟩ rfl (st' := st) (by
    (show execs _ b_f_is_text _ _ = _; unfold b_f_is_text; try simp only [fd_f_is_text, List.map_cons, List.map_nil, List.reduceReplicate, Nat.reduceSub, List.cons_append, List.nil_append])
    simp only [RR, Nat.reduceAdd, Int.reduceEq, Int.reduceLE, Int.reduceLT, Int.reduceAdd, Int.reduceSub, Int.reduceMul, reduceIte]) (take_self st) (by rw [W.low])
theorem is_truth_b (j : Nat) (x : Bool) (st : St) (ho : st.Okn) : runF (cf j) fd_f_is_truth [.bl x] st = .ok (.bl true) st :=
  runF_pure ho.ok ⟨rfl, by decide⟩ rfl (st' := st) (by
    (show execs _ b_f_is_truth _ _ = _; unfold b_f_is_truth; try simp only [fd_f_is_truth, List.map_cons, List.map_nil, List.reduceReplicate, Nat.reduceSub, List.cons_append, List.nil_append])
    simp only [RR, Nat.reduceAdd, Int.reduceEq, Int.reduceLE, Int.reduceLT, Int.reduceAdd, Int.reduceSub, Int.reduceMul, reduceIte]) (take_self st) (by rw [W.low])
theorem letters_in : ∀ i : _root_.Fin 26, (!(Builtin.Str.occurrences "abcdefghijklmnopqrstuvwxyz" (⟨#[97 + i.val]⟩ : Str) 0 (Str.length "abcdefghijklmnopqrstuvwxyz") 1).isEmpty) = true := by decide +kernel
theorem is_name_s (j : Nat) (x : Str) (hx : nameB x = true) (st : St) (ho : st.Okn) : runF (cf (j + 1)) fd_f_is_name [.str x] st = .ok (.bl true) st := by
  unfold nameB at hx
  rw [Bool.and_eq_true, decide_eq_true_eq, List.all_eq_true] at hx
  obtain ⟨⟨h1, h2⟩, h3⟩ := hx
  refine runF_pure ho.ok ⟨rfl, by decide⟩ rfl (st' := st) ?_ (take_self st) (by rw [W.low])
  (show execs _ b_f_is_name _ _ = _; unfold b_f_is_name; try simp only [fd_f_is_name, List.map_cons, List.map_nil, List.reduceReplicate, Nat.reduceSub, List.cons_append, List.nil_append])
  have hl : biW .len [.str x] st = some (.int x.length) := by
    show (if x.length ≤ SZ then some (W.int x.length) else none) = _
    rw [if_pos (by unfold SZ; omega)]
  have hi : itemsOf (.str x) st = some (x.cps.toList.map fun c => .str ⟨#[c]⟩) := rfl
  have hg : gdOf (.str x) (x.cps.toList.map fun c => .str ⟨#[c]⟩) = [] := rfl
  have hs : (x.cps.toList.map fun c => W.str ⟨#[c]⟩).length ≤ SZ := by
    have : x.cps.toList.length = x.length := by simp [Str.length]
    rw [List.length_map, this]; unfold SZ; omega
  simp only [RR, Nat.reduceAdd, Int.reduceEq, Int.reduceLE, Int.reduceLT, Int.reduceAdd, Int.reduceSub, Int.reduceMul, reduceIte, is_text_s _ _ _ ho, hl, hi, hg, run_sz _ _ hs, show decide ((1 : Int) ≤ (x.length : Int)) = true from decide_eq_true (by omega), show decide ((x.length : Int) ≤ 8) = true from decide_eq_true (by omega)]
  rw [compL_map (enc := fun c => W.str ⟨#[c]⟩) (g := fun c => W.bl ((fun _ => true) c)) (run_chkG st) _ ?h]
  case h =>
    intro c hc
    have := h3 c hc
    rw [decide_eq_true_eq] at this
    have e : c = 97 + (⟨c - 97, by omega⟩ : _root_.Fin 26).val := by show c = 97 + (c - 97); omega
    have q : cmpW .In (.str ⟨#[c]⟩) (.str "abcdefghijklmnopqrstuvwxyz") st = some true := by
      show some (!(Builtin.Str.occurrences "abcdefghijklmnopqrstuvwxyz" (⟨#[c]⟩ : Str) 0 (Str.length "abcdefghijklmnopqrstuvwxyz") 1).isEmpty) = _
      rw [e, letters_in]
    simp only [RR, Nat.reduceAdd, Int.reduceEq, Int.reduceLE, Int.reduceLT, Int.reduceAdd, Int.reduceSub, Int.reduceMul, reduceIte, turnC, q]
  simp only [RR, Nat.reduceAdd, Int.reduceEq, Int.reduceLE, Int.reduceLT, Int.reduceAdd, Int.reduceSub, Int.reduceMul, reduceIte]
  simp
theorem is_named_s (j : Nat) (x : Str) (ws : List W) {d : Nat} (hx : PyData.strOk x = true) (hw : Dts d ws) (hd : d ≤ 60) (st : St) (ho : st.Okn) : runF (cf (j + 1)) fd_f_is_named [.str x, .tup ws] st = .ok (.bl (inW (.str x) ws)) st :=
  runF_pure ho.ok ⟨rfl, by decide⟩ rfl (st' := st) (by
    (show execs _ b_f_is_named _ _ = _; unfold b_f_is_named; try simp only [fd_f_is_named, List.map_cons, List.map_nil, List.reduceReplicate, Nat.reduceSub, List.cons_append, List.nil_append])
    simp only [RR, Nat.reduceAdd, Int.reduceEq, Int.reduceLE, Int.reduceLT, Int.reduceAdd, Int.reduceSub, Int.reduceMul, reduceIte, is_text_s _ _ _ ho, cmp_in_str st hx hw hd]) (take_self st) (by rw [W.low])
theorem is_tuple_of_t (j : Nat) (ws : List W) (n : Int) (st : St) (ho : st.Okn) : runF (cf j) fd_f_is_tuple_of [.tup ws, .int n] st = .ok (.bl (decide ((ws.length : Int) = n))) st :=
  runF_pure ho.ok ⟨rfl, by decide⟩ rfl (st' := st) (by
    (show execs _ b_f_is_tuple_of _ _ = _; unfold b_f_is_tuple_of; try simp only [fd_f_is_tuple_of, List.map_cons, List.map_nil, List.reduceReplicate, Nat.reduceSub, List.cons_append, List.nil_append])
    simp only [RR, Nat.reduceAdd, Int.reduceEq, Int.reduceLE, Int.reduceLT, Int.reduceAdd, Int.reduceSub, Int.reduceMul, reduceIte]) (take_self st) (by rw [W.low])
theorem is_pair_t (j : Nat) (ws : List W) (st : St) (ho : st.Okn) : runF (cf (j + 1)) fd_f_is_pair [.tup ws] st = .ok (.bl (decide ((ws.length : Int) = 2))) st :=
  runF_pure ho.ok ⟨rfl, by decide⟩ rfl (st' := st) (by
    (show execs _ b_f_is_pair _ _ = _; unfold b_f_is_pair; try simp only [fd_f_is_pair, List.map_cons, List.map_nil, List.reduceReplicate, Nat.reduceSub, List.cons_append, List.nil_append])
    simp only [RR, Nat.reduceAdd, Int.reduceEq, Int.reduceLE, Int.reduceLT, Int.reduceAdd, Int.reduceSub, Int.reduceMul, reduceIte, is_tuple_of_t _ _ _ _ ho]) (take_self st) (by rw [W.low])
theorem is_tuple_up_to_t (j : Nat) (ws : List W) (lo hi : Int) (st : St) (ho : st.Okn) : runF (cf j) fd_f_is_tuple_up_to [.tup ws, .int lo, .int hi] st = .ok (.bl (decide (lo ≤ (ws.length : Int)) && decide ((ws.length : Int) ≤ hi))) st :=
  runF_pure ho.ok ⟨rfl, by decide⟩ rfl (st' := st) (by
    (show execs _ b_f_is_tuple_up_to _ _ = _; unfold b_f_is_tuple_up_to; try simp only [fd_f_is_tuple_up_to, List.map_cons, List.map_nil, List.reduceReplicate, Nat.reduceSub, List.cons_append, List.nil_append])
    simp only [RR, Nat.reduceAdd, Int.reduceEq, Int.reduceLE, Int.reduceLT, Int.reduceAdd, Int.reduceSub, Int.reduceMul, reduceIte]) (take_self st) (by rw [W.low])
end Pf.Law

/-! part S2 -/
set_option Elab.async false
set_option linter.all false
set_option maxRecDepth 100000
set_option autoImplicit false
set_option maxHeartbeats 4000000
namespace Pf.Law
open PySem L2 Pf
theorem fault_of_ok (j : Nat) (lam : Nat → List W → List W → M W) (ws : List W) (lo hi : Int) (n : Nat) (cs : List W) (st : St) (ho : st.Okn) (h1 : lo ≤ (ws.length : Int)) (h2 : (ws.length : Int) ≤ hi)
    (hlam : ∀ (i : Nat) (w : W), ws[i]? = some w → lam n cs [.tup (ws.take i), w] st = .ok (.bl true) st) : runF ((cf (j + 1)).withLam lam) fd_f_fault_of [.tup ws, .int lo, .int hi, .clo n cs] st = .ok (.tup []) st := by
  refine runF_pure ho.ok ⟨rfl, by decide⟩ rfl (st' := st) ?_ (take_self st) (by rw [W.low, lows])
  (show execs _ b_f_fault_of _ _ = _; unfold b_f_fault_of; try simp only [fd_f_fault_of, List.map_cons, List.map_nil, List.reduceReplicate, Nat.reduceSub, List.cons_append, List.nil_append])
  simp only [RR, Nat.reduceAdd, Int.reduceEq, Int.reduceLE, Int.reduceLT, Int.reduceAdd, Int.reduceSub, Int.reduceMul, reduceIte, is_tuple_up_to_t _ _ _ _ _ ho, decide_eq_true h1, decide_eq_true h2, enumL_eq]
  refine forX_all (J := fun ρ => ∃ a b, ρ = [some (.tup ws), some (.int lo), some (.int hi), some (.clo n cs), a, b]) (p := fun _ => true) (w := .non) (run_chkG st) ⟨_, _, rfl⟩ (fun p hp ρ ⟨a, b, e⟩ => ⟨fun _ => ?_, fun z => by cases z⟩) (fun _ ρ2 ⟨a, b, e⟩ => ?_) (fun z => by simp at z)
  · subst e
    have q := hlam p.2 p.1 (by
      have := List.mem_zipIdx_iff_getElem?.mp hp
      simpa using this)
    refine ⟨_, ?_, some (nW p.2), some p.1, rfl⟩
    simp only [RR, Nat.reduceAdd, Int.reduceEq, Int.reduceLE, Int.reduceLT, Int.reduceAdd, Int.reduceSub, Int.reduceMul, reduceIte, show asI (nW p.2) = some (p.2 : Int) from rfl, cut_to, q]
  · subst e
    simp only [RR, Nat.reduceAdd, Int.reduceEq, Int.reduceLE, Int.reduceLT, Int.reduceAdd, Int.reduceSub, Int.reduceMul, reduceIte]
/-- .. of a def's lambda -/
theorem fault_call (j : Nat) {es : As} {n np nf sl : Nat} {body : Ex} {caps : List Nat} {ρ : Ρ} {st : St} {ws cs : List W} {lo hi : Int} (ho : st.Okn) (he : evs (cf (j + 2)) es ρ st = .ok [.tup ws, .int lo, .int hi] st) (hl : es.len = 3) (hc : getVs ρ caps = some cs)
    (hn1 : noclos ws = true) (hn2 : noclos cs = true) (h1 : lo ≤ (ws.length : Int)) (h2 : (ws.length : Int) ≤ hi) (hlam : ∀ (i : Nat) (w : W), ws[i]? = some w → lamW (cf j) np nf sl body cs [.tup (ws.take i), w] st = .ok (.bl true) st) :
    ev (cf (j + 2)) (.callL "fault_of" es n np nf sl body caps) ρ st = .ok (.tup []) st := by
  have q : (noclos [W.tup ws, W.int lo, W.int hi] && noclos cs) = true := by simp only [noclos, W.noclo, hn1, hn2, Bool.and_self]
  have r : M.noCl (runF ((cf (j + 1)).withLam fun _ => lamW (cf j) np nf sl body) fd_f_fault_of [.tup ws, .int lo, .int hi, .clo n cs]) st = .ok (.tup []) st :=
    noCl_ok (α := Nat) ho.nc (fault_of_ok j _ ws lo hi n cs st ho h1 h2 hlam) (by rw [W.noclo, noclos])
  simp only [RR, Nat.reduceAdd, Int.reduceEq, Int.reduceLE, Int.reduceLT, Int.reduceAdd, Int.reduceSub, Int.reduceMul, reduceIte, ev_callL, he, hl, hc, hof_fault_of, q]
  exact r
theorem check_within_i (j : Nat) (v lo hi : Int) (h0 : 0 ≤ v) (h1 : lo ≤ v) (h2 : v ≤ hi) (st : St) (ho : st.Okn) : runF (cf (j + 2)) fd_f_check_within [.int v, .int lo, .int hi] st = .ok .non st := by
  refine runF_pureN ho.ok ⟨rfl, by decide⟩ rfl (st' := st) (ρ' := [some (.int v), some (.int lo), some (.int hi)]) ?_ (take_self st)
  (show execs _ b_f_check_within _ _ = _; unfold b_f_check_within; try simp only [fd_f_check_within, List.map_cons, List.map_nil, List.reduceReplicate, Nat.reduceSub, List.cons_append, List.nil_append])
  simp only [RR, Nat.reduceAdd, Int.reduceEq, Int.reduceLE, Int.reduceLT, Int.reduceAdd, Int.reduceSub, Int.reduceMul, reduceIte, is_between_i _ _ _ _ _ ho, decide_eq_true h0, decide_eq_true h1, decide_eq_true h2]

end Pf.Law

/-! part S3 -/
set_option Elab.async false
set_option linter.all false
set_option maxRecDepth 100000
set_option autoImplicit false
set_option maxHeartbeats 4000000
namespace Pf.Law
open PySem L2 Pf
section
variable {κ : Type} [DecidableEq κ] {e : κ → Str}
theorem clean_fault_h (j : Nat) (E : Names e) (h : Hl κ) (V : HlOk e h) (st : St) (ho : st.Okn) : runF (cf (j + 4)) fd_f_clean_fault [.tup (h.clean.map (cnW e)), .tup (h.machines.map (kW e))] st = .ok (.tup []) st := by
  refine runF_pure ho.ok ⟨rfl, by decide⟩ rfl (st' := st) ?_ (take_self st) (by rw [W.low, lows])
  (show execs _ b_f_clean_fault _ _ = _; unfold b_f_clean_fault; try simp only [fd_f_clean_fault, List.map_cons, List.map_nil, List.reduceReplicate, Nat.reduceSub, List.cons_append, List.nil_append])
  simp only [RR, Nat.reduceAdd, Int.reduceEq, Int.reduceLE, Int.reduceLT, Int.reduceAdd, Int.reduceSub, Int.reduceMul, reduceIte]
  rw [fault_call (j := j + 2) (ws := h.clean.map (cnW e)) (cs := [.tup (h.machines.map (kW e))]) (lo := 0) (hi := ((h.clean.map (cnW e)).length : Int)) ho ?_ rfl rfl (dts_map fun p _ => dt_cn E p : Dts 1 _).noc ?_ (by omega) (Int.le_refl _) ?_]
  · simp only [RR, Nat.reduceAdd, Int.reduceEq, Int.reduceLE, Int.reduceLT, Int.reduceAdd, Int.reduceSub, Int.reduceMul, reduceIte]
  · simp only [RR, Nat.reduceAdd, Int.reduceEq, Int.reduceLE, Int.reduceLT, Int.reduceAdd, Int.reduceSub, Int.reduceMul, reduceIte]
  · rw [noclos, W.noclo, (dts_map fun p _ => dt_k E p : Dts 0 _).noc, noclos]; rfl
  · intro i w hw
    rw [List.getElem?_map, Option.map_eq_some_iff] at hw
    obtain ⟨p, hp, rfl⟩ := hw
    obtain ⟨c1, c2⟩ := V.cm p (List.mem_of_getElem? hp)
    refine lamW_pure ho.ok ⟨rfl, rfl, by decide⟩ rfl (st' := st) ?_ (take_self st) (by rw [W.low])
    have q1 := is_named_s (j := j) (e p.1) (h.machines.map (kW e)) (d := 0) (E.ok _) (dts_map fun a _ => dt_k E a) (by decide) st ho
    have q2 : inW (.str (e p.1)) (h.machines.map (kW e)) = true := by
      have := inW_k E p.1 h.machines
      unfold kW at this ⊢
      rw [this, decide_eq_true c1]
    rw [q2] at q1
    simp only [cnW, kW, List.map_cons, List.map_nil, List.reduceReplicate, Nat.reduceSub, List.cons_append, List.nil_append]
    have q3 : cmpW .Eq (.tup (List.take i (h.clean.map (cnW e)))) (.tup []) st = some (decide (i = 0)) := by
      rw [cmp_eq_val st (a := .tup (List.take i (h.clean.map (cnW e)))) (b := .tup []) (d := 2) (dt_tup (d := 1) fun w hw => by obtain ⟨a, _, rfl⟩ := List.mem_map.mp (List.mem_of_mem_take hw); exact dt_cn E a) (dt_tup dts_nil) (by decide), val_tup, val_tup, eqv_tup]
      cases i with
      | zero => rw [List.take_zero, eqvs_nil]; rfl
      | succ i =>
        have hlt := (List.getElem?_eq_some_iff.mp hp).1
        cases hc : h.clean with
        | nil => rw [hc] at hlt; exact absurd hlt (Nat.not_lt_zero _)
        | cons a l => rw [List.map_cons, List.take_succ_cons, eqvs_cn]; rfl
    have e1 : (decide ((0 : Int) ≤ (p.2 : Int)) && (decide ((0 : Int) ≤ (p.2 : Int)) && decide ((p.2 : Int) ≤ 2))) = true := by
      rw [decide_eq_true (by omega : (0 : Int) ≤ (p.2 : Int)), decide_eq_true (by omega : (p.2 : Int) ≤ 2)]; rfl
    simp only [RR, Nat.reduceAdd, Int.reduceEq, Int.reduceLE, Int.reduceLT, Int.reduceAdd, Int.reduceSub, Int.reduceMul, reduceIte, is_pair_t _ _ _ ho, ixw_tup, at_0, at_1, q1, nW, is_between_i _ _ _ _ _ ho, e1, q3]
    cases i with
    | zero => simp only [RR, Nat.reduceAdd, Int.reduceEq, Int.reduceLE, Int.reduceLT, Int.reduceAdd, Int.reduceSub, Int.reduceMul, reduceIte]
    | succ i =>
      have hlt := (List.getElem?_eq_some_iff.mp hp).1
      obtain ⟨o, ho'⟩ : ∃ o, h.clean[i]? = some o := ⟨_, List.getElem?_eq_getElem (by omega)⟩
      have ca := V.ca i o p ho' hp
      have hz : List.take (i + 1) (h.clean.map (cnW e)) = List.take i (h.clean.map (cnW e)) ++ [cnW e o] := by
        rw [List.take_succ, List.getElem?_map, ho']; rfl
      have q4 : cmpW .Lt (.str (e o.1)) (.str (e p.1)) st = some true := by
        show some (decide ((e o.1).cps.toList < (e p.1).cps.toList)) = _
        rw [decide_eq_true ca]
      simp only [RR, Nat.reduceAdd, Int.reduceEq, Int.reduceLE, Int.reduceLT, Int.reduceAdd, Int.reduceSub, Int.reduceMul, reduceIte, hz, show decide (i + 1 = 0) = false from rfl, show (-(1 : Int)) = -1 from rfl, ixw_tup, at_m1, cnW, kW, at_0, q4]
theorem getF_hl (j : Nat) (h : Hl κ) (st : St) : getF (cf j) (hlW e h) "machines" st = some (.tup (h.machines.map (kW e))) ∧ getF (cf j) (hlW e h) "slots" st = some (nW h.slots) ∧ getF (cf j) (hlW e h) "hands" st = some (nsW h.hands) ∧ getF (cf j) (hlW e h) "clean" st = some (.tup (h.clean.map (cnW e))) ∧
    getF (cf j) (hlW e h) "breaks" st = some (nW h.breaks) ∧ getF (cf j) (hlW e h) "repair" st = some (nW h.repair) ∧ getF (cf j) (hlW e h) "ills" st = some (nW h.ills) := by
  have g : ∀ f, (cf j).att "Hall" f = true → getF (cf j) (hlW e h) f st = fieldW (hlW e h) f st := fun f hf => by
    show (if (cf j).att "Hall" f = true then fieldW (hlW e h) f st else none) = _
    rw [if_pos hf]
  refine ⟨?_, ?_, ?_, ?_, ?_, ?_, ?_⟩
  · rw [g _ (att_Hall_machines j)]; rfl
  · rw [g _ (att_Hall_slots j)]; rfl
  · rw [g _ (att_Hall_hands j)]; rfl
  · rw [g _ (att_Hall_clean j)]; rfl
  · rw [g _ (att_Hall_breaks j)]; rfl
  · rw [g _ (att_Hall_repair j)]; rfl
  · rw [g _ (att_Hall_ills j)]; rfl
end

end Pf.Law

/-! part S4 -/
set_option Elab.async false
set_option linter.all false
set_option maxRecDepth 100000
set_option autoImplicit false
set_option maxHeartbeats 4000000
namespace Pf.Law
open PySem L2 Pf
section
variable {κ : Type} [DecidableEq κ] {e : κ → Str}
theorem hl_dts (E : Names e) (h : Hl κ) : Dts 2 [.tup (h.machines.map (kW e)), nW h.slots, nsW h.hands, .tup (h.clean.map (cnW e)), nW h.breaks, nW h.repair, nW h.ills] :=
  dts_cons ((dt_tup (dts_map fun k _ => dt_k E k)).mono (by decide)) (dts_cons ((dt_n _).mono (by decide)) (dts_cons ((dt_ns _).mono (by decide)) (dts_cons (dt_tup (dts_map fun p _ => dt_cn E p)) (dts_cons ((dt_n _).mono (by decide)) (dts_cons ((dt_n _).mono (by decide)) (dts_cons ((dt_n _).mono (by decide)) dts_nil))))))
theorem hall_init (j : Nat) (E : Names e) (h : Hl κ) (V : HlOk e h) (st : St) (ho : st.Okn) :
    runF (cf (j + 5)) fd_c_Hall [.ref st.length, .tup (h.machines.map (kW e)), nW h.slots, nsW h.hands, .tup (h.clean.map (cnW e)), nW h.breaks, nW h.repair, nW h.ills] (st ++ [.ins "Hall" [] []]) =
      .ok .non (st ++ [.ins "Hall" ["machines", "slots", "hands", "clean", "breaks", "repair", "ills"] [.tup (h.machines.map (kW e)), nW h.slots, nsW h.hands, .tup (h.clean.map (cnW e)), nW h.breaks, nW h.repair, nW h.ills]]) := by
  have ho1 : St.Okn (st ++ [.ins "Hall" [] []]) := okn_app ho rfl rfl
  rw [runF_eq _ _ _ _ ⟨rfl, by decide⟩ rfl]
  have hz : ∀ {r : R Fl} {ρ : Ρ} {st1 st2 : St}, r = .ok (.nx ρ) st2 → st2.Okn → st1.length = st2.length → fin fd_c_Hall.mu st1.length r = .ok .non st2 := fun e o l => by rw [e, fin_okS o l]
  refine hz (ρ := [some (.ref st.length), some (.tup (h.machines.map (kW e))), some (nW h.slots), some (nsW h.hands), some (.tup (h.clean.map (cnW e))), some (nW h.breaks), some (nW h.repair), some (nW h.ills), none]) ?_ (okn_app ho ?_ ?_) ?_
  · (show execs _ b_c_Hall _ _ = _; unfold b_c_Hall; try simp only [fd_c_Hall, List.map_cons, List.map_nil, List.reduceReplicate, Nat.reduceSub, List.cons_append, List.nil_append])
    simp only [RR, Nat.reduceAdd, Int.reduceEq, Int.reduceLE, Int.reduceLT, Int.reduceAdd, Int.reduceSub, Int.reduceMul, reduceIte]
    rw [fault_call (j := j + 3) (ws := h.machines.map (kW e)) (cs := []) (lo := 1) (hi := 2) ho1 ?_ rfl rfl (dts_map fun p _ => dt_k E p : Dts 0 _).noc noclos_nil (by rw [List.length_map]; have := V.m1; omega) (by rw [List.length_map]; have := V.m2; omega) ?_]
    rotate_left
    · simp only [RR, Nat.reduceAdd, Int.reduceEq, Int.reduceLE, Int.reduceLT, Int.reduceAdd, Int.reduceSub, Int.reduceMul, reduceIte]
    · intro i w hw
      rw [List.getElem?_map, Option.map_eq_some_iff] at hw
      obtain ⟨k, hk, rfl⟩ := hw
      refine lamW_pure ho1.ok ⟨rfl, rfl, by decide⟩ rfl (st' := st ++ [.ins "Hall" [] []]) ?_ (take_self _) (by rw [W.low])
      have q := is_name_s (j + 1) (e k) (E.nm k) _ ho1
      simp only [List.map_cons, List.map_nil, List.reduceReplicate, Nat.reduceSub, List.cons_append, List.nil_append]
      unfold kW
      simp only [RR, Nat.reduceAdd, Int.reduceEq, Int.reduceLE, Int.reduceLT, Int.reduceAdd, Int.reduceSub, Int.reduceMul, reduceIte, q]
    have q1 := check_within_i (j + 2) (h.slots : Int) 1 5 (by omega) (by have := V.s1; omega) (by have := V.s2; omega) _ ho1
    simp only [RR, Nat.reduceAdd, Int.reduceEq, Int.reduceLE, Int.reduceLT, Int.reduceAdd, Int.reduceSub, Int.reduceMul, reduceIte, nW, q1]
    rw [fault_call (j := j + 3) (ws := h.hands.map nW) (cs := []) (lo := (h.slots : Int)) (hi := (h.slots : Int)) ho1 ?_ rfl rfl (dts_map fun p _ => dt_n p : Dts 0 _).noc noclos_nil (by rw [List.length_map, V.hl]; exact Int.le_refl _) (by rw [List.length_map, V.hl]; exact Int.le_refl _) ?_]
    rotate_left
    · simp only [RR, Nat.reduceAdd, Int.reduceEq, Int.reduceLE, Int.reduceLT, Int.reduceAdd, Int.reduceSub, Int.reduceMul, reduceIte, nsW]
    · intro i w hw
      rw [List.getElem?_map, Option.map_eq_some_iff] at hw
      obtain ⟨k, hk, rfl⟩ := hw
      refine lamW_pure ho1.ok ⟨rfl, rfl, by decide⟩ rfl (st' := st ++ [.ins "Hall" [] []]) ?_ (take_self _) (by rw [W.low])
      simp only [List.map_cons, List.map_nil, List.reduceReplicate, Nat.reduceSub, List.cons_append, List.nil_append]
      have := V.h2 k (List.mem_of_getElem? hk)
      simp only [RR, Nat.reduceAdd, Int.reduceEq, Int.reduceLE, Int.reduceLT, Int.reduceAdd, Int.reduceSub, Int.reduceMul, reduceIte, nW, is_between_i _ _ _ _ _ ho1, decide_eq_true (by omega : (0 : Int) ≤ (k : Int)), decide_eq_true (by omega : (k : Int) ≤ 2)]
    have q2 := clean_fault_h j E h V _ ho1
    have q3 := check_within_i (j + 2) (h.breaks : Int) 0 2 (by omega) (by omega) (by have := V.b2; omega) _ ho1
    have q4 := check_within_i (j + 2) (h.repair : Int) 1 3 (by omega) (by have := V.r1; omega) (by have := V.r2; omega) _ ho1
    have q5 := check_within_i (j + 2) (h.ills : Int) 0 2 (by omega) (by omega) (by have := V.i2; omega) _ ho1
    simp only [RR, Nat.reduceAdd, Int.reduceEq, Int.reduceLE, Int.reduceLT, Int.reduceAdd, Int.reduceSub, Int.reduceMul, reduceIte, q2, q3, q4, q5]
    rw [setF_last (att_Hall_machines _) (by decide) (by decide)]
    simp only [RR, Nat.reduceAdd, Int.reduceEq, Int.reduceLE, Int.reduceLT, Int.reduceAdd, Int.reduceSub, Int.reduceMul, reduceIte]
    rw [setF_last (att_Hall_slots _) (by decide +kernel) (by decide)]
    simp only [RR, Nat.reduceAdd, Int.reduceEq, Int.reduceLE, Int.reduceLT, Int.reduceAdd, Int.reduceSub, Int.reduceMul, reduceIte]
    rw [setF_last (att_Hall_hands _) (by decide +kernel) (by decide)]
    simp only [RR, Nat.reduceAdd, Int.reduceEq, Int.reduceLE, Int.reduceLT, Int.reduceAdd, Int.reduceSub, Int.reduceMul, reduceIte]
    rw [setF_last (att_Hall_clean _) (by decide +kernel) (by decide)]
    simp only [RR, Nat.reduceAdd, Int.reduceEq, Int.reduceLE, Int.reduceLT, Int.reduceAdd, Int.reduceSub, Int.reduceMul, reduceIte]
    rw [setF_last (att_Hall_breaks _) (by decide +kernel) (by decide)]
    simp only [RR, Nat.reduceAdd, Int.reduceEq, Int.reduceLE, Int.reduceLT, Int.reduceAdd, Int.reduceSub, Int.reduceMul, reduceIte]
    rw [setF_last (att_Hall_repair _) (by decide +kernel) (by decide)]
    simp only [RR, Nat.reduceAdd, Int.reduceEq, Int.reduceLE, Int.reduceLT, Int.reduceAdd, Int.reduceSub, Int.reduceMul, reduceIte]
    rw [setF_last (att_Hall_ills _) (by decide +kernel) (by decide)]
    simp only [RR, Nat.reduceAdd, Int.reduceEq, Int.reduceLE, Int.reduceLT, Int.reduceAdd, Int.reduceSub, Int.reduceMul, reduceIte]
  · exact (hl_dts E h).low _
  · exact (hl_dts E h).noc
  · simp
theorem hall_new (j : Nat) (E : Names e) (h : Hl κ) (V : HlOk e h) (st : St) (ho : st.Okn) {b : List W → List W → Option (List W)} {ws zs : List W}
    (hb : b (.ref st.length :: ws) zs = some [.ref st.length, .tup (h.machines.map (kW e)), nW h.slots, nsW h.hands, .tup (h.clean.map (cnW e)), nW h.breaks, nW h.repair, nW h.ills]) :
    mkW "Hall" false (bndW b (runF (cf (j + 5)) fd_c_Hall)) ws zs st = .ok (hlW e h) st := by
  have q := hall_init j E h V st ho
  have e1 : bndW b (runF (cf (j + 5)) fd_c_Hall) (.ref st.length :: ws) zs = runF (cf (j + 5)) fd_c_Hall [.ref st.length, .tup (h.machines.map (kW e)), nW h.slots, nsW h.hands, .tup (h.clean.map (cnW e)), nW h.breaks, nW h.repair, nW h.ills] := by
    unfold bndW
    rw [hb]
  unfold mkW
  rw [e1, q]
  have l : (Cell.ins "Hall" ["machines", "slots", "hands", "clean", "breaks", "repair", "ills"] [.tup (h.machines.map (kW e)), nW h.slots, nsW h.hands, .tup (h.clean.map (cnW e)), nW h.breaks, nW h.repair, nW h.ills]).low st.length = true := (hl_dts E h).low _
  show fin false st.length (.ok (.rt (.ref st.length)) _) = _
  unfold fin
  simp only [take_app, app_get]
  rw [if_pos (by rw [show st.all (Cell.low st.length) = true from ho.ok, List.length_append, decide_eq_true (by omega)]; rfl), if_neg (by rw [W.low, decide_eq_true_eq]; omega), if_pos l]
  rfl
end

end Pf.Law

/-! part S5 -/
set_option Elab.async false
set_option linter.all false
set_option maxRecDepth 100000
set_option autoImplicit false
set_option maxHeartbeats 4000000
namespace Pf.Law
open PySem L2 Pf
section
variable {κ : Type} [DecidableEq κ] {e : κ → Str}
structure TurnOk (slots : Nat) (t : Turn κ) : Prop where
  a : t.first ≤ t.last
  b : t.last < slots
  c : 1 ≤ t.len
  d : t.len ≤ 3
  p : 1 ≤ t.pts
  q : t.pts ≤ 9
structure LotOk (slots : Nat) (l : List (Turn κ)) : Prop where
  n : l.length ≤ 4
  t : ∀ t ∈ l, TurnOk slots t
theorem is_turn_in_h (j : Nat) (E : Names e) (slots : Nat) (t : Turn κ) (T : TurnOk slots t) (st : St) (ho : st.Okn) : runF (cf (j + 2)) fd_f_is_turn_in [nW slots, tuW e t] st = .ok (.bl true) st := by
  refine runF_pure ho.ok ⟨rfl, by decide⟩ rfl (st' := st) ?_ (take_self st) (by rw [W.low])
  (show execs _ b_f_is_turn_in _ _ = _; unfold b_f_is_turn_in; try simp only [fd_f_is_turn_in, List.map_cons, List.map_nil, List.reduceReplicate, Nat.reduceSub, List.cons_append, List.nil_append])
  have := T.a; have := T.b; have := T.c; have := T.d; have := T.p; have := T.q
  simp only [RR, Nat.reduceAdd, Int.reduceEq, Int.reduceLE, Int.reduceLT, Int.reduceAdd, Int.reduceSub, Int.reduceMul, reduceIte, tuW, kW, nW, is_tuple_of_t _ _ _ _ ho, ixw_tup, at_0, at_1, at_2, at_3, at_4, at_5, is_name_s _ _ (E.nm t.kind) _ ho, is_between_i _ _ _ _ _ ho, is_truth_b _ _ _ ho, decide_eq_true (by omega : (0 : Int) ≤ (t.first : Int)), decide_eq_true (by omega : (t.first : Int) ≤ (slots : Int) - 1), decide_eq_true (by omega : (0 : Int) ≤ (t.last : Int)), decide_eq_true (by omega : (t.first : Int) ≤ (t.last : Int)), decide_eq_true (by omega : (t.last : Int) ≤ (slots : Int) - 1), decide_eq_true (by omega : (0 : Int) ≤ (t.len : Int)), decide_eq_true (by omega : (1 : Int) ≤ (t.len : Int)), decide_eq_true (by omega : (t.len : Int) ≤ 3), decide_eq_true (by omega : (0 : Int) ≤ (t.pts : Int)), decide_eq_true (by omega : (1 : Int) ≤ (t.pts : Int)), decide_eq_true (by omega : (t.pts : Int) ≤ 9)]
theorem lot_fault_h (j : Nat) (E : Names e) (slots : Nat) (l : List (Turn κ)) (V : LotOk slots l) (st : St) (ho : st.Okn) : runF (cf (j + 5)) fd_f_lot_fault [nW slots, loW e l] st = .ok (.tup []) st := by
  refine runF_pure ho.ok ⟨rfl, by decide⟩ rfl (st' := st) ?_ (take_self st) (by rw [W.low, lows])
  (show execs _ b_f_lot_fault _ _ = _; unfold b_f_lot_fault; try simp only [fd_f_lot_fault, List.map_cons, List.map_nil, List.reduceReplicate, Nat.reduceSub, List.cons_append, List.nil_append])
  simp only [RR, Nat.reduceAdd, Int.reduceEq, Int.reduceLE, Int.reduceLT, Int.reduceAdd, Int.reduceSub, Int.reduceMul, reduceIte, loW]
  rw [fault_call (j := j + 3) (ws := l.map (tuW e)) (cs := [nW slots]) (lo := 0) (hi := 4) ho ?_ rfl rfl (dts_map fun p _ => dt_tu E p : Dts 1 _).noc ?_ (by omega) (by rw [List.length_map]; have := V.n; omega) ?_]
  · simp only [RR, Nat.reduceAdd, Int.reduceEq, Int.reduceLE, Int.reduceLT, Int.reduceAdd, Int.reduceSub, Int.reduceMul, reduceIte]
  · simp only [RR, Nat.reduceAdd, Int.reduceEq, Int.reduceLE, Int.reduceLT, Int.reduceAdd, Int.reduceSub, Int.reduceMul, reduceIte]
  · rw [noclos, noclos]; rfl
  · intro i w hw
    rw [List.getElem?_map, Option.map_eq_some_iff] at hw
    obtain ⟨t, ht, rfl⟩ := hw
    refine lamW_pure ho.ok ⟨rfl, rfl, by decide⟩ rfl (st' := st) ?_ (take_self st) (by rw [W.low])
    simp only [List.map_cons, List.map_nil, List.reduceReplicate, Nat.reduceSub, List.cons_append, List.nil_append]
    simp only [RR, Nat.reduceAdd, Int.reduceEq, Int.reduceLE, Int.reduceLT, Int.reduceAdd, Int.reduceSub, Int.reduceMul, reduceIte, is_turn_in_h j E slots t (V.t t (List.mem_of_getElem? ht)) st ho]
theorem check_hall_h (j : Nat) (h : Hl κ) (st : St) (ho : st.Okn) : runF (cf j) fd_f_check_hall [hlW e h] st = .ok .non st := by
  refine runF_pureN ho.ok ⟨rfl, by decide⟩ rfl (st' := st) (ρ' := [some (hlW e h)]) ?_ (take_self st)
  (show execs _ b_f_check_hall _ _ = _; unfold b_f_check_hall; try simp only [fd_f_check_hall, List.map_cons, List.map_nil, List.reduceReplicate, Nat.reduceSub, List.cons_append, List.nil_append])
  simp only [RR, Nat.reduceAdd, Int.reduceEq, Int.reduceLE, Int.reduceLT, Int.reduceAdd, Int.reduceSub, Int.reduceMul, reduceIte, show tyW (hlW e h) st = some (.cl "Hall") from rfl]
theorem check_lot_h (j : Nat) (E : Names e) (h : Hl κ) (l : List (Turn κ)) (V : LotOk h.slots l) (st : St) (ho : st.Okn) : runF (cf (j + 6)) fd_f_check_lot [hlW e h, loW e l] st = .ok .non st := by
  refine runF_pureN ho.ok ⟨rfl, by decide⟩ rfl (st' := st) (ρ' := [some (hlW e h), some (loW e l), none]) ?_ (take_self st)
  (show execs _ b_f_check_lot _ _ = _; unfold b_f_check_lot; try simp only [fd_f_check_lot, List.map_cons, List.map_nil, List.reduceReplicate, Nat.reduceSub, List.cons_append, List.nil_append])
  simp only [RR, Nat.reduceAdd, Int.reduceEq, Int.reduceLE, Int.reduceLT, Int.reduceAdd, Int.reduceSub, Int.reduceMul, reduceIte, (getF_hl (e := e) (j + 6) h st).2.1, lot_fault_h j E h.slots l V st ho]
def firstS (h : Hl κ) : Sat := ⟨0, List.replicate h.machines.length .free, [], h.breaks, h.ills⟩
end
end Pf.Law

/-! part S6 -/
set_option Elab.async false
set_option linter.all false
set_option maxRecDepth 100000
set_option autoImplicit false
set_option maxHeartbeats 4000000
namespace Pf.Law
open PySem L2 Pf
section
variable {κ : Type} [DecidableEq κ] {e : κ → Str}
theorem can_begin_h (j : Nat) (E : Names e) (t : Turn κ) (k : κ) (s : Nat) (st : St) (ho : st.Okn) : runF (cf j) fd_f_can_begin [tuW e t, kW e k, nW s] st = .ok (.bl (canB t k s)) st := by
  refine runF_pure ho.ok ⟨rfl, by decide⟩ rfl (st' := st) ?_ (take_self st) (by rw [W.low])
  (show execs _ b_f_can_begin _ _ = _; unfold b_f_can_begin; try simp only [fd_f_can_begin, List.map_cons, List.map_nil, List.reduceReplicate, Nat.reduceSub, List.cons_append, List.nil_append])
  have q : cmpW .Eq (kW e t.kind) (kW e k) st = some (decide (t.kind = k)) := by
    rw [cmp_eq_val st (a := kW e t.kind) (b := kW e k) (d := 0) (dt_k E _) (dt_k E _) (by decide)]
    exact congrArg some (eqv_k E _ _)
  simp only [RR, Nat.reduceAdd, Int.reduceEq, Int.reduceLE, Int.reduceLT, Int.reduceAdd, Int.reduceSub, Int.reduceMul, reduceIte, tuW, nW, ixw_tup, at_0, at_1, at_2, at_3, q]
  have e1 : (decide ((t.first : Int) ≤ (s : Int)) && decide ((s : Int) ≤ (t.last : Int) + 1 - (t.len : Int))) = (decide (t.first ≤ s) && decide (s + t.len ≤ t.last + 1)) := by
    congr 1
    · exact decide_eq_decide.mpr (by omega)
    · exact decide_eq_decide.mpr (by omega)
  rw [e1]; rfl
theorem between_n (v hi : Nat) : (decide ((0 : Int) ≤ (v : Int)) && (decide ((0 : Int) ≤ (v : Int)) && decide ((v : Int) ≤ (hi : Int) - 1))) = decide (v < hi) := by
  rw [decide_eq_true (by omega : (0 : Int) ≤ (v : Int)), Bool.true_and, Bool.true_and]
  exact decide_eq_decide.mpr (by omega)
theorem between_le (v hi : Nat) : (decide ((0 : Int) ≤ (v : Int)) && (decide ((0 : Int) ≤ (v : Int)) && decide ((v : Int) ≤ (hi : Int)))) = decide (v ≤ hi) := by
  rw [decide_eq_true (by omega : (0 : Int) ≤ (v : Int)), Bool.true_and, Bool.true_and]
  exact decide_eq_decide.mpr (by omega)
theorem between_1 (v hi : Nat) : (decide ((0 : Int) ≤ (v : Int)) && (decide ((1 : Int) ≤ (v : Int)) && decide ((v : Int) ≤ (hi : Int) - 1))) = (decide (1 ≤ v) && decide (v < hi)) := by
  rw [decide_eq_true (by omega : (0 : Int) ≤ (v : Int)), Bool.true_and]
  congr 1 <;> exact decide_eq_decide.mpr (by omega)
theorem between_1l (v hi : Nat) : (decide ((0 : Int) ≤ (v : Int)) && (decide ((1 : Int) ≤ (v : Int)) && decide ((v : Int) ≤ (hi : Int)))) = (decide (1 ≤ v) && decide (v ≤ hi)) := by
  rw [decide_eq_true (by omega : (0 : Int) ≤ (v : Int)), Bool.true_and]
  congr 1 <;> exact decide_eq_decide.mpr (by omega)
end

end Pf.Law

/-! part S7 -/
set_option Elab.async false
set_option linter.all false
set_option maxRecDepth 100000
set_option autoImplicit false
set_option maxHeartbeats 4000000
namespace Pf.Law
open PySem L2 Pf
section
variable {κ : Type} [DecidableEq κ] {e : κ → Str}
end

end Pf.Law

/-! part S8 -/
set_option Elab.async false
set_option linter.all false
set_option maxRecDepth 100000
set_option autoImplicit false
set_option maxHeartbeats 4000000
namespace Pf.Law
open PySem L2 Pf
section
variable {κ : Type} [DecidableEq κ] {e : κ → Str}
end

end Pf.Law

/-! part S9 -/
set_option Elab.async false
set_option linter.all false
set_option maxRecDepth 100000
set_option autoImplicit false
set_option maxHeartbeats 4000000
namespace Pf.Law
open PySem L2 Pf
section
variable {κ : Type} [DecidableEq κ] {e : κ → Str}
theorem nowF_len (h : Hl κ) (s : Sat) (m : List Nat × Nat) : (nowF h s m).length = s.places.length := by unfold nowF; rw [List.length_map, List.length_zipIdx]
end

end Pf.Law

/-! part S10 -/
set_option Elab.async false
set_option linter.all false
set_option maxRecDepth 100000
set_option autoImplicit false
set_option maxHeartbeats 4000000
namespace Pf.Law
open PySem L2 Pf
section
variable {κ : Type} [DecidableEq κ] {e : κ → Str}
theorem orders_in {h : Hl κ} {lot : List (Turn κ)} {s : Nat} {o : List (Nat × Nat)} (H : ordersB h lot s o = true) : ∀ p ∈ o, p.1 < lot.length ∧ p.2 < h.machines.length := by
  unfold ordersB pairsB at H
  rw [Bool.and_eq_true, Bool.and_eq_true, List.all_eq_true] at H
  intro p hp
  have := H.1.1 p hp
  rw [Bool.and_eq_true, decide_eq_true_eq, decide_eq_true_eq] at this
  exact this
end

end Pf.Law

/-! part S11 -/
set_option Elab.async false
set_option linter.all false
set_option maxRecDepth 100000
set_option autoImplicit false
set_option maxHeartbeats 4000000
namespace Pf.Law
open PySem L2 Pf
theorem law_take_s (j : Nat) (st : St) (i m : Nat) (ho : st.Okn) (D : Draws st i) (h1 : 1 ≤ m) (h2 : m < 1000000) : ∃ r st', runF (cf j) fd_f_law_take [.ref i, nW m] st = .ok (nW r) st' ∧ r < m ∧ Next st i st' := by
  have hi := D.lt
  obtain ⟨A, S, T, h, hA, hS, hS2, hT⟩ := D.ex
  obtain ⟨S', hS'⟩ : ∃ S', S' = (S * (50027 + 6 * T) + 12347 * T + 12358).fmod 2147483549 := ⟨_, rfl⟩
  have p1 : 0 ≤ S' := by rw [hS']; exact Int.fmod_nonneg_of_pos _ (by decide)
  have p2 : S' < 2147483549 := by rw [hS']; exact Int.fmod_lt_of_pos _ (by decide)
  have sq := seqAt_ref h
  have m1 := bin_mul_int st 6 T (cmul_l _ _ (by decide))
  have m2 := bin_mul_int st 12347 T (cmul_l _ _ (by decide))
  have m3 := bin_mul_int st S (50027 + 6 * T) (cmul_l _ _ (by omega))
  have m4 := bin_mod_int st (S * (50027 + 6 * T) + 12347 * T + 12358) 2147483549 (by decide)
  rw [← hS'] at m4
  have s1 : setI (.ref i) (.int 1) (.int S') st = .ok () (st.set i (.lst [.int A, .int S', .int T])) := setI_ref (m := 1) h (by simp)
  have g2 : (st.set i (.lst [.int A, .int S', .int T]))[i]? = some (.lst [.int A, .int S', .int T]) := List.getElem?_set_self hi
  have s2 : setI (.ref i) (.int 2) (.int (T + 1)) (st.set i (.lst [.int A, .int S', .int T])) = .ok () (st.set i (.lst [.int A, .int S', .int (T + 1)])) := (setI_ref (m := 2) g2 (by simp)).trans (by rw [List.set_set]; rfl)
  have g3 : (st.set i (.lst [.int A, .int S', .int (T + 1)]))[i]? = some (.lst [.int A, .int S', .int (T + 1)]) := List.getElem?_set_self hi
  have hm0 : (m : Int) ≠ 0 := by omega
  have hmp : (0 : Int) < (m : Int) := by omega
  have sq3 := seqAt_ref g3
  have ix1 : ixW (.ref i) (.int 1) (st.set i (.lst [.int A, .int S', .int (T + 1)])) = some (.int S') := (sq3.ix 1).trans (at_1 _ _ _)
  by_cases hp : 0 < A
  · obtain ⟨r, hr⟩ : ∃ r : Nat, (r : Int) = A.fmod (m : Int) := ⟨(A.fmod (m : Int)).toNat, Int.toNat_of_nonneg (Int.fmod_nonneg_of_pos _ hmp)⟩
    have hrm : r < m := by have := Int.fmod_lt_of_pos A hmp; omega
    have s3 : setI (.ref i) (.int 0) (.int (A.fdiv (m : Int))) (st.set i (.lst [.int A, .int S', .int (T + 1)])) = .ok () (st.set i (.lst [.int (A.fdiv (m : Int)), .int S', .int (T + 1)])) := (setI_ref (m := 0) g3 (by simp)).trans (by rw [List.set_set]; rfl)
    have nx : Next st i (st.set i (.lst [.int (A.fdiv (m : Int)), .int S', .int (T + 1)])) := next_set ho hi (Int.fdiv_nonneg hA (by omega)) p1 p2 (by omega)
    refine ⟨r, _, runF_st (ρ := [some (.ref i), some (nW m), none, none, none]) ⟨rfl, by decide⟩ rfl ?_ nx.ok nx.len (by rw [nW, W.low]), hrm, nx⟩
    (show execs _ b_f_law_take _ _ = _; unfold b_f_law_take; try simp only [fd_f_law_take, List.map_cons, List.map_nil, List.reduceReplicate, Nat.reduceSub, List.cons_append, List.nil_append])
    simp only [RR, Nat.reduceAdd, Int.reduceEq, Int.reduceLE, Int.reduceLT, Int.reduceAdd, Int.reduceSub, Int.reduceMul, reduceIte, sq.seq, m1, m2, m3, m4, s1, s2, decide_eq_true hp, nW, bin_div_int _ A (m : Int) hm0 (by omega), s3, bin_mod_int _ A (m : Int) hm0, hr]
  · obtain ⟨r, hr⟩ : ∃ r : Nat, (r : Int) = (S'.fdiv 128).fmod (m : Int) := ⟨((S'.fdiv 128).fmod (m : Int)).toNat, Int.toNat_of_nonneg (Int.fmod_nonneg_of_pos _ hmp)⟩
    have hrm : r < m := by have := Int.fmod_lt_of_pos (S'.fdiv 128) hmp; omega
    have nx : Next st i (st.set i (.lst [.int A, .int S', .int (T + 1)])) := next_set ho hi hA p1 p2 (by omega)
    refine ⟨r, _, runF_st (ρ := [some (.ref i), some (nW m), none, none, none]) ⟨rfl, by decide⟩ rfl ?_ nx.ok nx.len (by rw [nW, W.low]), hrm, nx⟩
    (show execs _ b_f_law_take _ _ = _; unfold b_f_law_take; try simp only [fd_f_law_take, List.map_cons, List.map_nil, List.reduceReplicate, Nat.reduceSub, List.cons_append, List.nil_append])
    simp only [RR, Nat.reduceAdd, Int.reduceEq, Int.reduceLE, Int.reduceLT, Int.reduceAdd, Int.reduceSub, Int.reduceMul, reduceIte, sq.seq, m1, m2, m3, m4, s1, s2, decide_eq_false hp, nW, ix1, bin_div_int _ S' 128 (by decide) (by decide), bin_mod_int _ (S'.fdiv 128) (m : Int) hm0, hr]
theorem law_pick_str (j : Nat) (st : St) (i : Nat) (ho : st.Okn) (D : Draws st i) : ∃ (r : Nat) (st' : St), runF (cf (j + 1)) fd_f_law_pick [.ref i, .str "abcdefghijklmnopqrstuvwxyz"] st = .ok (.str ⟨#[97 + r]⟩) st' ∧ r < 26 ∧ Next st i st' := by
  have l1 : biW .len [.str "abcdefghijklmnopqrstuvwxyz"] st = some (nW 26) := (bi_len_str (x := lettersS) (by rw [letters_len]; decide) st).trans (by rw [letters_len]; rfl)
  obtain ⟨r, st', e, hr, nx⟩ := law_take_s j st i 26 ho D (by decide) (by decide)
  have ix : ixW (.str "abcdefghijklmnopqrstuvwxyz") (nW r) st' = some (.str ⟨#[97 + r]⟩) := ix_str (x := lettersS) (by rw [letters_len]; decide) (by rw [letters_cps, List.getElem?_map, List.getElem?_range hr]; rfl) st'
  refine ⟨r, st', runF_st (ρ := [some (.ref i), some (.str "abcdefghijklmnopqrstuvwxyz")]) ⟨rfl, by decide⟩ rfl ?_ nx.ok nx.len (by rw [W.low]), hr, nx⟩
  (show execs _ b_f_law_pick _ _ = _; unfold b_f_law_pick; try simp only [fd_f_law_pick, List.map_cons, List.map_nil, List.reduceReplicate, Nat.reduceSub, List.cons_append, List.nil_append])
  simp only [RR, Nat.reduceAdd, Int.reduceEq, Int.reduceLE, Int.reduceLT, Int.reduceAdd, Int.reduceSub, Int.reduceMul, reduceIte, l1, e, ix]
theorem law_purse_i (j : Nat) (st : St) (ns : List Int) (a : Nat) (b : Int) (hb : b = (a : Int)) (hl : ns.length ≤ 1000) (ha : a ≤ 1000) (ho : st.Okn) : ∃ A S : Int, runF (cf j) fd_f_law_purse [.lst (ns.map W.int), .int b] st = .ok (.ref st.length) (st ++ [.lst [.int A, .int S, .int 0]]) ∧ 0 ≤ A ∧ 0 ≤ S ∧ S < 2147483549 := by
  have m1 : ∀ c : Int, binW .Mult (.int c) (.int 69621) st = some (.int (c * 69621)) := fun c => bin_mul_int st c 69621 (cmul_r _ _ (by decide))
  have m2 : ∀ c : Int, binW .Mult (.int c) (.int 40692) st = some (.int (c * 40692)) := fun c => bin_mul_int st c 40692 (cmul_r _ _ (by decide))
  have m3 : ∀ c : Int, binW .Mult (.int c) (.int 45991) st = some (.int (c * 45991)) := fun c => bin_mul_int st c 45991 (cmul_r _ _ (by decide))
  have m4 : ∀ c : Int, binW .Mod (.int c) (.int 2147483549) st = some (.int (c.fmod 2147483549)) := fun c => bin_mod_int st c _ (by decide)
  have fb : ∀ c : Int, 0 ≤ c.fmod 2147483549 ∧ c.fmod 2147483549 < 2147483549 := fun c => ⟨Int.fmod_nonneg_of_pos _ (by decide), Int.fmod_lt_of_pos _ (by decide)⟩
  have big : ∃ A S : Int, execs (cf j) b_f_law_purse [some (.lst (ns.map W.int)), some (.int b), none, none, none] st = .ok (.rt (.ref st.length)) (st ++ [.lst [.int A, .int S, .int 0]]) ∧ 0 ≤ A ∧ 0 ≤ S ∧ S < 2147483549 := by
    unfold b_f_law_purse
    by_cases hlt : a < ns.length
    · have a1 : L2.atI (ns.map W.int) b = some (.int ns[a]) := by rw [hb, at_map, List.getElem?_eq_getElem hlt]; rfl
      have d1 := decide_eq_true (by omega : b < (ns.length : Int))
      have d2 := decide_eq_false (by omega : ¬ ((ns.length : Int) ≤ b))
      have ab : ∀ c : Int, 0 ≤ (if c < 0 then -c else c) := fun c => by split <;> omega
      by_cases hc : (1000000000000000000 : Int) ≤ (if ns[a] < 0 then -ns[a] else ns[a])
      · refine ⟨if ns[a] < 0 then -ns[a] else ns[a], (ns[a] * 69621 + b * 40692 + 10007).fmod 2147483549, ?_, ab _, fb _⟩
        simp only [RR, Nat.reduceAdd, Int.reduceEq, Int.reduceLE, Int.reduceLT, Int.reduceAdd, Int.reduceSub, Int.reduceMul, reduceIte, List.length_map, d1, ixw_lst, a1, m1, m2, m4, d2, bin_pow_lit, decide_eq_true hc]
      · refine ⟨0, (ns[a] * 69621 + b * 40692 + 10007).fmod 2147483549, ?_, Int.le_refl 0, fb _⟩
        simp only [RR, Nat.reduceAdd, Int.reduceEq, Int.reduceLE, Int.reduceLT, Int.reduceAdd, Int.reduceSub, Int.reduceMul, reduceIte, List.length_map, d1, ixw_lst, a1, m1, m2, m4, d2, bin_pow_lit, decide_eq_false hc]
    · have c4 : cutW (ns.map W.int) none (some 4) = (ns.take 4).map W.int := by rw [show (4 : Int) = ((4 : Nat) : Int) from rfl, cut_to, List.map_take]
      have hc : decide ((1000000000000000000 : Int) ≤ (if (0 : Int) < 0 then -0 else 0)) = false := by kernel_rfl
      obtain ⟨S1, hS1⟩ : ∃ S1, S1 = (0 * 69621 + b * 40692 + 10007 : Int).fmod 2147483549 := ⟨_, rfl⟩
      have b1 := fb (0 * 69621 + b * 40692 + 10007)
      rw [← hS1] at b1
      have fin2 : ∀ (l : List Int) (x : Int), 0 ≤ x → x < 2147483549 → 0 ≤ l.foldl (fun x c => (x * 45991 + c).fmod 2147483549) x ∧ l.foldl (fun x c => (x * 45991 + c).fmod 2147483549) x < 2147483549 := fun l => by
        induction l with
        | nil => intro x h1 h2; exact ⟨h1, h2⟩
        | cons c l ih => intro x h1 h2; exact ih _ (fb _).1 (fb _).2
      have b2 := fin2 (ns.take 4) S1 b1.1 b1.2
      refine ⟨0, (ns.take 4).foldl (fun x c => (x * 45991 + c).fmod 2147483549) S1, ?_, Int.le_refl 0, b2⟩
      simp only [RR, Nat.reduceAdd, Int.reduceEq, Int.reduceLE, Int.reduceLT, Int.reduceAdd, Int.reduceSub, Int.reduceMul, reduceIte, List.length_map, decide_eq_false (by omega : ¬ b < (ns.length : Int)), m1, m2, m4, decide_eq_true (by omega : ((ns.length : Int) ≤ b)), sl_lst, c4, Int.zero_mul]
      rw [show (0 + b * 40692 + 10007 : Int).fmod 2147483549 = S1 by rw [hS1, Int.zero_mul]]
      refine forX_fold (g := fun x c => (x * 45991 + c).fmod 2147483549) (x := S1) (I := fun x ρ st' => st' = st ∧ ∃ a4, ρ = [some (.lst (ns.map W.int)), some (.int b), some (.int 0), some (.int x), a4]) (fun _ _ _ _ => run_chkG _) ⟨rfl, _, rfl⟩ (fun c _ x ρ st' ⟨i1, a4, i2⟩ => ?_) (fun ρ2 st2 ⟨i1, a4, i2⟩ => ?_)
      · subst i1 i2
        refine ⟨_, _, ?_, rfl, some (.int c), rfl⟩
        simp only [RR, Nat.reduceAdd, Int.reduceEq, Int.reduceLE, Int.reduceLT, Int.reduceAdd, Int.reduceSub, Int.reduceMul, reduceIte, m3, m4]
      · subst i1 i2
        simp only [RR, Nat.reduceAdd, Int.reduceEq, Int.reduceLE, Int.reduceLT, Int.reduceAdd, Int.reduceSub, Int.reduceMul, reduceIte, bin_pow_lit, hc]
  obtain ⟨A, S, e, h1, h2, h3⟩ := big
  exact ⟨A, S, runF_new rfl ⟨rfl, by decide⟩ rfl e ho rfl, h1, h2, h3⟩
theorem law_purse_s (j : Nat) (st : St) (ns : List Int) (a : Nat) (hl : ns.length ≤ 1000) (ha : a ≤ 1000) (ho : st.Okn) : ∃ A S : Int, runF (cf j) fd_f_law_purse [.lst (ns.map W.int), nW a] st = .ok (.ref st.length) (st ++ [.lst [.int A, .int S, .int 0]]) ∧ 0 ≤ A ∧ 0 ≤ S ∧ S < 2147483549 := law_purse_i j st ns a (a : Int) rfl hl ha ho

end Pf.Law

/-! part S12 -/
set_option Elab.async false
set_option linter.all false
set_option maxRecDepth 100000
set_option autoImplicit false
set_option maxHeartbeats 4000000
namespace Pf.Law
open PySem L2 Pf
def kS (r : Nat) : Str := "k" ++ (⟨#[97 + r]⟩ : Str)
theorem kS_ok : ∀ r : _root_.Fin 26, nameB (kS r.val) = true := by decide +kernel
theorem kS_ne : kS 0 ≠ kS 1 := by decide +kernel
theorem kS_ne2 : kS 0 ≠ kS 2 := by decide +kernel
theorem kS_ne3 : kS 1 ≠ kS 2 := by decide +kernel
theorem letB_app {x y : Str} (hx : letB x = true) (hy : letB y = true) : letB (x ++ y) = true := by
  unfold letB at hx hy ⊢
  rw [app_cps, List.all_append, hx, hy]; rfl
theorem law_name_s (j : Nat) (st : St) (i : Nat) (ts : List Str) (ho : st.Okn) (D : Draws st i) (ht : ts.length ≤ 2) (hn : ∀ t ∈ ts, nameB t = true) :
    ∃ (y : Str) (st' : St), runF (cf (j + 2)) fd_f_law_name [.ref i, .tup (ts.map W.str)] st = .ok (.str y) st' ∧ nameB y = true ∧ y ∉ ts ∧ Next st i st' := by
  obtain ⟨r, st1, e1, hr, nx1⟩ := law_take_s (j + 1) st i 8 ho D (by decide) (by decide)
  have rk : rngOk 0 (1 + (r : Int)) = true := rngOk_n (by omega) (by omega) (by omega) (by omega)
  have rn : rngL 0 ((1 + (r : Int)) - 0).toNat = (List.range (r + 1)).map nW := by rw [show ((1 + (r : Int)) - 0).toNat = r + 1 by omega, rngL_nat]
  obtain ⟨ρ2, st2, e2, nx2, x, a4, hx1, hx2, hρ⟩ := forX_ex (C := cf (j + 2)) (t := .var 4) (b := .cons (.set (.var 3) (.bin .Add (.var 3) (.call "_law_pick" (.cons (.var 0) (.cons (.var 2) .nil)) [] .nil))) .nil) (enc := nW)
    (I := fun n ρ st' => Next st i st' ∧ ∃ (x : Str) (a4 : Option W), x.length = n ∧ letB x = true ∧ ρ = [some (.ref i), some (.tup (ts.map W.str)), some (.str "abcdefghijklmnopqrstuvwxyz"), some (.str x), a4, none, none])
    (gd := []) (fun _ _ _ _ => run_chkG _) (List.range (r + 1)) 0 [some (.ref i), some (.tup (ts.map W.str)), some (.str "abcdefghijklmnopqrstuvwxyz"), some (.str ""), none, none, none] st1 ⟨nx1, "", none, rfl, rfl, rfl⟩ (fun n a ρ st' ha ⟨nx, x, a4, l1, l2, hρ⟩ => by
      subst hρ
      obtain ⟨q, st3, e3, hq, nx3⟩ := law_pick_str j st' i nx.ok nx.d
      have hlt := (List.getElem?_eq_some_iff.mp ha).1
      rw [List.length_range] at hlt
      have ad : binW .Add (.str x) (.str ⟨#[97 + q]⟩) st3 = some (.str (x ++ (⟨#[97 + q]⟩ : Str))) := add_str (by show x.length + 1 ≤ SZ; unfold SZ; omega) st3
      refine ⟨_, st3, ?_, nx.trans nx3, x ++ (⟨#[97 + q]⟩ : Str), some (nW a), ?_, ?_, rfl⟩
      · simp only [RR, Nat.reduceAdd, Int.reduceEq, Int.reduceLE, Int.reduceLT, Int.reduceAdd, Int.reduceSub, Int.reduceMul, reduceIte, e3, ad]
      · rw [app_len, l1]; rfl
      · refine letB_app l2 ?_
        show ((97 + q) :: ([] : List Nat)).all (fun c => decide (97 ≤ c ∧ c ≤ 122)) = true
        rw [List.all_cons, decide_eq_true (by omega)]; rfl)
  subst hρ
  rw [List.length_range, Nat.zero_add] at hx1
  have hxn : nameB x = true := (nameB_iff x).mpr ⟨by omega, hx2⟩
  obtain ⟨ks, hks⟩ : ∃ ks, ks = (List.range 26).map kS := ⟨_, rfl⟩
  have hall : ∀ z ∈ x :: ks, nameB z = true := fun z hz => by
    rcases List.mem_cons.mp hz with e | e
    · rw [e]; exact hxn
    · rw [hks] at e
      obtain ⟨q, hq, rfl⟩ := List.mem_map.mp e
      exact kS_ok ⟨q, List.mem_range.mp hq⟩
  obtain ⟨y, rest, hy⟩ : ∃ y rest, (x :: ks).filter (fun z => !decide (z ∈ ts)) = y :: rest := by
    have k0 : kS 0 ∈ x :: ks := by rw [hks]; exact List.mem_cons_of_mem _ (List.mem_map.mpr ⟨0, List.mem_range.mpr (by decide), rfl⟩)
    have k1 : kS 1 ∈ x :: ks := by rw [hks]; exact List.mem_cons_of_mem _ (List.mem_map.mpr ⟨1, List.mem_range.mpr (by decide), rfl⟩)
    have k2 : kS 2 ∈ x :: ks := by rw [hks]; exact List.mem_cons_of_mem _ (List.mem_map.mpr ⟨2, List.mem_range.mpr (by decide), rfl⟩)
    have : ¬ (kS 0 ∈ ts ∧ kS 1 ∈ ts ∧ kS 2 ∈ ts) := fun ⟨a, b, c⟩ => by
      match ts, ht, a, b, c with
      | [t], _, a, b, c =>
        rw [List.mem_singleton] at a b
        exact kS_ne (a.trans b.symm)
      | [t, u], _, a, b, c =>
        simp only [List.mem_cons, List.not_mem_nil, or_false] at a b c
        rcases a with a | a <;> rcases b with b | b <;> rcases c with c | c <;> first | exact kS_ne (a.trans b.symm) | exact kS_ne2 (a.trans c.symm) | exact kS_ne3 (b.trans c.symm)
    cases hf : (x :: ks).filter (fun z => !decide (z ∈ ts)) with
    | cons y rest => exact ⟨y, rest, rfl⟩
    | nil =>
      exfalso
      have q := List.filter_eq_nil_iff.mp hf
      have q0 := q _ k0
      have q1 := q _ k1
      have q2 := q _ k2
      simp only [Bool.not_eq_true', decide_eq_false_iff_not, Decidable.not_not] at q0 q1 q2
      exact this ⟨q0, q1, q2⟩
  have ym : y ∈ (x :: ks).filter (fun z => !decide (z ∈ ts)) := by rw [hy]; exact List.mem_cons_self
  rw [List.mem_filter] at ym
  refine ⟨y, st2, runF_st (ρ := [some (.ref i), some (.tup (ts.map W.str)), none, none, none, none, none]) ⟨rfl, by decide⟩ rfl ?_ nx2.ok nx2.len (by rw [W.low]), hall y ym.1, by simpa using ym.2, nx2⟩
  (show execs _ b_f_law_name _ _ = _; unfold b_f_law_name; try simp only [fd_f_law_name, List.map_cons, List.map_nil, List.reduceReplicate, Nat.reduceSub, List.cons_append, List.nil_append])
  have it := items_str lettersS st2
  rw [letters_cps, List.map_map] at it
  have it : itemsOf (.str "abcdefghijklmnopqrstuvwxyz") st2 = some ((List.range 26).map fun q => .str ⟨#[97 + q]⟩) := it
  have e1 : runF (cf (j + 1)) fd_f_law_take [.ref i, .int 8] st = .ok (.int (r : Int)) st1 := e1
  obtain ⟨c, hc⟩ : ∃ c : Int, c = (r : Int) := ⟨_, rfl⟩
  rw [← hc] at e1 rk rn
  clear hc
  simp only [RR, Nat.reduceAdd, Int.reduceEq, Int.reduceLE, Int.reduceLT, Int.reduceAdd, Int.reduceSub, Int.reduceMul, reduceIte, e1, rk, rn, e2, it, gd_str]
  rw [List.length_map, List.length_range, run_sz _ _ (by decide), bnd_ok, run_bind, compL_map (enc := fun q : Nat => W.str ⟨#[97 + q]⟩) (g := fun q => W.str (kS q)) (run_chkG _) _ ?h]
  case h =>
    intro q hq
    have ad : binW .Add (.str "k") (.str ⟨#[97 + q]⟩) st2 = some (.str (kS q)) := add_str (by
      have z : (("k" : Str)).length = 1 := by decide +kernel
      rw [z]
      show 1 + 1 ≤ SZ
      decide) st2
    simp only [RR, Nat.reduceAdd, Int.reduceEq, Int.reduceLE, Int.reduceLT, Int.reduceAdd, Int.reduceSub, Int.reduceMul, reduceIte, turnC, ad]
  have lk : ((List.range 26).map fun q => W.str (kS q)) = ks.map W.str := by rw [hks, List.map_map]; rfl
  rw [lk]
  have kl : ks.length = 26 := by rw [hks, List.length_map, List.length_range]
  have ad := add_lst [.str x] (ks.map W.str) (by rw [List.length_map, kl]; show 1 + 26 ≤ SZ; decide) st2
  have lm : (W.str x :: ks.map W.str) = (x :: ks).map W.str := rfl
  simp only [RR, Nat.reduceAdd, Int.reduceEq, Int.reduceLE, Int.reduceLT, Int.reduceAdd, Int.reduceSub, Int.reduceMul, reduceIte, ad, lm]
  rw [List.length_map, List.length_cons, kl, run_sz _ _ (by decide), bnd_ok, run_bind, compL_run (enc := W.str) (g := fun z => if (!decide (z ∈ ts)) = true then [W.str z] else []) (run_chkG _) _ ?h2]
  case h2 =>
    intro z hz
    have q : cmpW .NotIn (.str z) (.tup (ts.map W.str)) st2 = some (!decide (z ∈ ts)) := by
      rw [cmp_nin_str (d := 0) (nameB_ok (hall z hz)) (dts_map fun t ht => dt_str (nameB_ok (hn t ht))) (by decide), inW_str]
    simp only [RR, Nat.reduceAdd, Int.reduceEq, Int.reduceLE, Int.reduceLT, Int.reduceAdd, Int.reduceSub, Int.reduceMul, reduceIte, turnC, q]
    cases decide (z ∈ ts) <;> simp only [RR, Nat.reduceAdd, Int.reduceEq, Int.reduceLE, Int.reduceLT, Int.reduceAdd, Int.reduceSub, Int.reduceMul, reduceIte]
  have fm : ((x :: ks).flatMap fun z => if (!decide (z ∈ ts)) = true then [W.str z] else []) = ((x :: ks).filter fun z => !decide (z ∈ ts)).map W.str := by
    generalize x :: ks = l
    induction l with
    | nil => rfl
    | cons z l ih =>
      rw [List.flatMap_cons, ih, List.filter_cons]
      cases !decide (z ∈ ts) <;> rfl
  rw [fm, hy]
  simp only [RR, Nat.reduceAdd, Int.reduceEq, Int.reduceLE, Int.reduceLT, Int.reduceAdd, Int.reduceSub, Int.reduceMul, reduceIte, ixw_lst, List.map_cons, at_0]

end Pf.Law

/-! part S13 -/
set_option Elab.async false
set_option linter.all false
set_option maxRecDepth 100000
set_option autoImplicit false
set_option maxHeartbeats 4000000
namespace Pf.Law
open PySem L2 Pf
section
variable {κ : Type} [DecidableEq κ] {e : κ → Str}
theorem lotOk_of {slots : Nat} {l : List (Turn κ)} (h : (decide (l.length ≤ 4) && l.all (turnB slots)) = true) : LotOk slots l := by
  rw [Bool.and_eq_true, decide_eq_true_eq, List.all_eq_true] at h
  refine ⟨h.1, fun t ht => ?_⟩
  have := h.2 t ht
  unfold turnB at this
  simp only [Bool.and_eq_true, decide_eq_true_eq] at this
  obtain ⟨a, b, c, d, p, q⟩ := this
  exact ⟨a, b, c, d, p, q⟩
end
theorem law_same_s (j : Nat) (w1 w2 : W) (X : List W) (st : St) (ho : st.Okn) (h1 : valW w1 st = .lst X) (h2 : valW w2 st = .lst X) (hs : shwOk (.lst X) = true) : runF (cf j) fd_f_law_same [w1, w2] st = .ok (.bl true) st := by
  obtain ⟨z, hz, hk⟩ := shw_of hs
  refine runF_pure ho.ok ⟨rfl, by decide⟩ rfl (st' := st) ?_ (take_self st) (by rw [W.low])
  (show execs _ b_f_law_same _ _ = _; unfold b_f_law_same; try simp only [fd_f_law_same, List.map_cons, List.map_nil, List.reduceReplicate, Nat.reduceSub, List.cons_append, List.nil_append])
  simp only [RR, Nat.reduceAdd, Int.reduceEq, Int.reduceLE, Int.reduceLT, Int.reduceAdd, Int.reduceSub, Int.reduceMul, reduceIte, bi_repr h1 hz, bi_repr h2 hz, cmp_eq_str hk hk st, decide_eq_true (rfl : z = z)]
def eB (k o : Str) : Bool → Str := fun b => bif b then k else o
theorem eB_ok {k o : Str} (hk : nameB k = true) (ho : nameB o = true) (hn : k ≠ o) : Names (eB k o) := ⟨fun a b h => by
  cases a <;> cases b
  · rfl
  · exact absurd h.symm hn
  · exact absurd h hn
  · rfl, fun a => by cases a; exact ho; exact hk⟩
def h1 : Hl Bool := ⟨[true, false], 3, [1, 1, 0], [], 0, 1, 0⟩
def h2 : Hl Bool := ⟨[true, false], 3, [1, 1, 0], [], 0, 1, 1⟩
def l1 : List (Turn Bool) := [⟨true, 0, 2, 2, true, 3⟩, ⟨false, 0, 2, 1, true, 4⟩, ⟨false, 0, 2, 1, false, 1⟩]
theorem hr1 : stepOk h1 l1 ⟨0, [.free, .free], [], 0, 0⟩ ([], 0) [(0, 0), (1, 1)] ⟨1, [.runs 0 1, .free], [], 0, 0⟩ = true := by decide +kernel
theorem hr2 : stepOk h1 l1 ⟨0, [.free, .free], [0], 0, 0⟩ ([], 0) [(0, 0), (1, 1)] ⟨1, [.free, .free], [0, 1], 0, 0⟩ = true := by decide +kernel
theorem hr3 : stepOk h1 l1 ⟨2, [.free, .free], [], 0, 0⟩ ([], 0) [(2, 1)] ⟨3, [.free, .free], [2], 0, 0⟩ = true := by decide +kernel
theorem hr4 : stepOk h1 l1 ⟨1, [.runs 0 1, .free], [], 0, 0⟩ ([], 0) [(0, 0), (1, 1)] ⟨2, [.free, .free], [0, 1], 0, 0⟩ = true := by decide +kernel
theorem hr5 : stepOk h2 l1 ⟨0, [.free, .free], [], 0, 1⟩ ([], 1) [(0, 0), (1, 1)] ⟨1, [.free, .free], [], 0, 0⟩ = true := by decide +kernel

end Pf.Law

/-! part S17 -/
set_option Elab.async false
set_option linter.all false
set_option maxRecDepth 100000
set_option autoImplicit false
set_option maxHeartbeats 4000000
namespace Pf.Law
open PySem L2 Pf
theorem check_number_i (j : Nat) (v lo hi : Int) (h0 : 0 ≤ v) (h1 : lo ≤ v) (h2 : v ≤ hi) (st : St) (ho : st.Okn) : runF (cf (j + 2)) fd_f_check_number [.int v, .int lo, .int hi] st = .ok .non st := by
  refine runF_pureN ho.ok ⟨rfl, by decide⟩ rfl (st' := st) (ρ' := [some (.int v), some (.int lo), some (.int hi)]) ?_ (take_self st)
  (show execs _ b_f_check_number _ _ = _; unfold b_f_check_number; try simp only [fd_f_check_number, List.map_cons, List.map_nil, List.reduceReplicate, Nat.reduceSub, List.cons_append, List.nil_append])
  simp only [RR, Nat.reduceAdd, Int.reduceEq, Int.reduceLE, Int.reduceLT, Int.reduceAdd, Int.reduceSub, Int.reduceMul, reduceIte, is_between_i _ _ _ _ _ ho, decide_eq_true h0, decide_eq_true h1, decide_eq_true h2]
theorem law_pick_t (j : Nat) (st : St) (i : Nat) (ws : List W) (hw : ws ≠ []) (hl : ws.length < 1000000) (hlow : ∀ w ∈ ws, ∀ n, w.low n = true) (ho : st.Okn) (D : Draws st i) : ∃ (w : W) (st' : St), runF (cf (j + 1)) fd_f_law_pick [.ref i, .tup ws] st = .ok w st' ∧ w ∈ ws ∧ Next st i st' := by
  have l1 : biW .len [.tup ws] st = some (nW ws.length) := rfl
  obtain ⟨r, st', e, hr, nx⟩ := law_take_s j st i ws.length ho D (List.length_pos_iff.mpr hw) hl
  have ix : ixW (.tup ws) (nW r) st' = some ws[r] := (at_nat ws r).trans (List.getElem?_eq_getElem hr)
  refine ⟨ws[r], st', runF_st (ρ := [some (.ref i), some (.tup ws)]) ⟨rfl, by decide⟩ rfl ?_ nx.ok nx.len (hlow _ (List.getElem_mem hr) _), List.getElem_mem hr, nx⟩
  (show execs _ b_f_law_pick _ _ = _; unfold b_f_law_pick; try simp only [fd_f_law_pick, List.map_cons, List.map_nil, List.reduceReplicate, Nat.reduceSub, List.cons_append, List.nil_append])
  have e : runF (cf j) fd_f_law_take [.ref i, .int (ws.length : Int)] st = .ok (nW r) st' := e
  simp only [RR, Nat.reduceAdd, Int.reduceEq, Int.reduceLE, Int.reduceLT, Int.reduceAdd, Int.reduceSub, Int.reduceMul, reduceIte, e, ix]

end Pf.Law

/-! part S18 -/
set_option Elab.async false
set_option linter.all false
set_option maxRecDepth 100000
set_option autoImplicit false
set_option maxHeartbeats 4000000
namespace Pf.Law
open PySem L2 Pf
theorem bi_sset_n (ms : List Nm) (hm : ms.length ≤ 1000) (st : St) : ∃ cs : List Nm, biW .sset [.tup (ms.map (kW eN))] st = some (.lst (cs.map (kW eN))) ∧ (∀ c ∈ cs, c ∈ ms) ∧ cs.length ≤ ms.length ∧ cs.Pairwise (fun a b => (eN a).cps.toList < (eN b).cps.toList) := by
  have ded : ∀ l : List Nm, ∃ ds : List Nm, dedW (l.map (kW eN)) = ds.map (kW eN) ∧ (∀ d ∈ ds, d ∈ l) ∧ ds.length ≤ l.length := fun l => by
    induction l with
    | nil => exact ⟨[], rfl, (fun _ h => nomatch h), Nat.le_refl _⟩
    | cons x l ih =>
      obtain ⟨ds, e1, e2, e3⟩ := ih
      rw [List.map_cons]
      unfold dedW
      by_cases h : (l.map (kW eN)).any (W.beq (kW eN x)) = true
      · rw [if_pos h]; exact ⟨ds, e1, fun d hd => List.mem_cons_of_mem _ (e2 d hd), Nat.le_trans e3 (Nat.le_succ _)⟩
      · rw [if_neg h]
        exact ⟨x :: ds, by rw [e1]; rfl, fun d hd => (List.mem_cons.mp hd).elim (fun e => e ▸ List.mem_cons_self) fun z => List.mem_cons_of_mem _ (e2 d z), Nat.succ_le_succ e3⟩
  obtain ⟨ds, e1, e2, e3⟩ := ded ms
  have nd : ds.Nodup := by
    have := dedW_nodup (ms.map (kW eN))
    rw [e1] at this
    exact List.Pairwise.of_map _ (fun a b h e => h (by rw [e])) this
  have ok : srtOk (ds.map (kW eN)) = true := by
    unfold srtOk
    rw [Bool.and_eq_true, Bool.and_eq_true]
    refine ⟨⟨(dts_map (d := 0) fun a _ => dt_k eN_ok a : Dts 0 (ds.map (kW eN))).flat (by decide), ?_⟩, ?_⟩
    · rw [List.all_eq_true]
      intro a ha
      obtain ⟨x, _, rfl⟩ := List.mem_map.mp ha
      rw [List.all_eq_true]
      intro b hb
      obtain ⟨y, _, rfl⟩ := List.mem_map.mp hb
      show PySem.W.alike (.str _) (.str _) = true
      simp only [PySem.W.alike]
    · rw [Bool.or_eq_true]
      refine .inr (List.all_eq_true.mpr fun a ha => ?_)
      obtain ⟨x, _, rfl⟩ := List.mem_map.mp ha
      rfl
  have le_eq : ∀ a b : Nm, leW (kW eN a) (kW eN b) = !decide ((eN b).cps.toList < (eN a).cps.toList) := fun a b => by
    show (!PySem.W.dataLt (.str (eN b)) (.str (eN a))) = _
    rw [PySem.W.dataLt_str]
  refine ⟨ds.mergeSort fun a b => leW (kW eN a) (kW eN b), ?_, fun c hc => e2 c (List.mem_mergeSort.mp hc), by rw [List.length_mergeSort]; exact e3, ?_⟩
  · have isk : (ms.map (kW eN)).all isKW = true := List.all_eq_true.mpr fun w hw => by
      obtain ⟨a, _, rfl⟩ := List.mem_map.mp hw
      rfl
    show ((if (ms.map (kW eN)).all isKW = true ∧ (ms.map (kW eN)).length ≤ 1000 then some (dedW (ms.map (kW eN))) else none).bind fun xs => (srtW xs).map W.lst) = _
    rw [if_pos ⟨isk, by rw [List.length_map]; exact hm⟩, Option.bind_some, e1]
    unfold srtW
    rw [if_pos ok, List.map_mergeSort (s := leW) fun a _ b _ => rfl]
    rfl
  · have pw := List.pairwise_mergeSort (le := fun a b => leW (kW eN a) (kW eN b)) (fun a b c h1 h2 => leW_trans _ _ _ h1 h2) (fun a b => leW_total _ _) ds
    have nd2 : (ds.mergeSort fun a b => leW (kW eN a) (kW eN b)).Nodup := (List.mergeSort_perm _ _).nodup_iff.mpr nd
    refine List.Pairwise.imp_of_mem (R := fun a b => leW (kW eN a) (kW eN b) = true ∧ a ≠ b) (fun {a b} _ _ h => ?_) (List.pairwise_and_iff.mpr ⟨pw, nd2⟩)
    obtain ⟨h1, h2⟩ := h
    rw [le_eq, Bool.not_eq_true', decide_eq_false_iff_not] at h1
    by_cases z : (eN a).cps.toList < (eN b).cps.toList
    · exact z
    · exfalso
      refine h2 (Subtype.ext ?_)
      show eN a = eN b
      exact PySem.W.str_of_cps (List.le_antisymm (List.not_lt.mp h1) (List.not_lt.mp z))

end Pf.Law

/-! part S19 -/
set_option Elab.async false
set_option linter.all false
set_option maxRecDepth 100000
set_option autoImplicit false
set_option maxHeartbeats 4000000
namespace Pf.Law
open PySem L2 Pf
theorem rng_up {c : Int} {r : Nat} (hc : c = (r : Int)) (h : r ≤ 1000) : rngOk 0 c = true ∧ rngL 0 (c - 0).toNat = (List.range r).map nW := by
  subst hc
  refine ⟨rngOk_n (by omega) (by omega) (by omega) (by omega), ?_⟩
  rw [show ((r : Int) - 0).toNat = r by omega, rngL_nat]
theorem law_yard_s (j : Nat) (st : St) (i m : Nat) (ho : st.Okn) (D : Draws st i) (h1 : 1 ≤ m) (h2 : m ≤ 5) :
    Okk (runF (cf (j + 3)) fd_f_law_yard [.ref i, nW m] st) fun w st' => Next st i st' ∧ ∃ h : Hl Nm, w = yrW eN h ∧ HlOk eN h ∧ h.slots ≤ m ∧ h.clean.length ≤ 2 := by
  refine runF_okk (ρ := [some (.ref i), some (nW m), none, none, none, none, none, none, none, none]) ⟨rfl, by decide⟩ rfl ?_
  (show Okk (execs _ b_f_law_yard _ _) _; unfold b_f_law_yard)
  refine z_seq (fun ρ st1 => Next st i st1 ∧ ∃ x : Nm, ρ = [some (.ref i), some (nW m), some (kW eN x), none, none, none, none, none, none, none]) ?_ ?_
  · obtain ⟨x, st1, e1, hx, _, nx1⟩ := law_name_s j st i [] ho D (by decide) (fun _ h => nomatch h)
    have e1 : runF (cf (j + 2)) fd_f_law_name [.ref i, .tup []] st = .ok (.str x) st1 := e1
    refine okk_nx ?_ ⟨nx1, ⟨x, hx⟩, rfl⟩
    simp only [RR, Nat.reduceAdd, Int.reduceEq, Int.reduceLE, Int.reduceLT, Int.reduceAdd, Int.reduceSub, Int.reduceMul, reduceIte, e1]
    rfl
  rintro ρ st1 ⟨nx1, x, rfl⟩
  refine z_seq (fun ρ st1 => Next st i st1 ∧ ∃ (y : Nm) (sl : Nat), x ≠ y ∧ 1 ≤ sl ∧ sl ≤ m ∧ ρ = [some (.ref i), some (nW m), some (kW eN x), some (kW eN y), some (nW sl), none, none, none, none, none]) ?_ ?_
  · obtain ⟨y, st2, e2, hy, hyn, nx2⟩ := law_name_s j st1 i [x.1] nx1.ok nx1.d (by simp) (fun t h => by rw [List.mem_singleton.mp h]; exact x.2)
    have e2 : runF (cf (j + 2)) fd_f_law_name [.ref i, .tup [.str (eN x)]] st1 = .ok (.str y) st2 := e2
    obtain ⟨r, st3, e3, hr, nx3⟩ := law_take_s (j + 2) st2 i m nx2.ok nx2.d h1 (by omega)
    refine okk_nx ?_ ⟨nx1.trans (nx2.trans nx3), ⟨y, hy⟩, r + 1, fun e => hyn (by rw [e]; exact List.mem_singleton.mpr rfl), by omega, by omega, rfl⟩
    have cr : (1 + (r : Int)) = ((r + 1 : Nat) : Int) := by omega
    have e3 : runF (cf (j + 2)) fd_f_law_take [.ref i, .int (m : Int)] st2 = .ok (.int (r : Int)) st3 := e3
    simp only [RR, Nat.reduceAdd, Int.reduceEq, Int.reduceLE, Int.reduceLT, Int.reduceAdd, Int.reduceSub, Int.reduceMul, reduceIte, kW, e2, nW, e3, cr]
    rfl
  rintro ρ st2 ⟨nx2, y, sl, hne, l1, l2, rfl⟩
  refine z_seq (fun ρ st1 => Next st i st1 ∧ ∃ (ms : List Nm), 1 ≤ ms.length ∧ ms.length ≤ 2 ∧ ρ = [some (.ref i), some (nW m), some (kW eN x), some (kW eN y), some (nW sl), some (.tup (ms.map (kW eN))), some (nsW []), some (.tup []), none, none]) ?_ ?_
  · obtain ⟨w, st3, e3, hw, nx3⟩ := law_pick_t (j + 1) st2 i [.tup [kW eN x], .tup [kW eN x, kW eN x], .tup [kW eN x, kW eN y], .tup [kW eN x, kW eN y]] (by simp) (by simp) (fun w hw n => by
      have : Dt 1 w := by
        simp only [List.mem_cons, List.not_mem_nil, or_false] at hw
        rcases hw with rfl | rfl | rfl | rfl
        · exact dt_tup (dts_cons (dt_k eN_ok x) dts_nil)
        · exact dt_tup (dts_cons (dt_k eN_ok x) (dts_cons (dt_k eN_ok x) dts_nil))
        · exact dt_tup (dts_cons (dt_k eN_ok x) (dts_cons (dt_k eN_ok y) dts_nil))
        · exact dt_tup (dts_cons (dt_k eN_ok x) (dts_cons (dt_k eN_ok y) dts_nil))
      exact this.l n) nx2.ok nx2.d
    obtain ⟨ms, rfl, m1, m2⟩ : ∃ ms : List Nm, w = .tup (ms.map (kW eN)) ∧ 1 ≤ ms.length ∧ ms.length ≤ 2 := by
      simp only [List.mem_cons, List.not_mem_nil, or_false] at hw
      rcases hw with rfl | rfl | rfl | rfl
      · exact ⟨[x], rfl, by simp, by simp⟩
      · exact ⟨[x, x], rfl, by simp, by simp⟩
      · exact ⟨[x, y], rfl, by simp, by simp⟩
      · exact ⟨[x, y], rfl, by simp, by simp⟩
    refine okk_nx ?_ ⟨nx2.trans nx3, ms, m1, m2, rfl⟩
    simp only [RR, Nat.reduceAdd, Int.reduceEq, Int.reduceLE, Int.reduceLT, Int.reduceAdd, Int.reduceSub, Int.reduceMul, reduceIte, e3]
    rfl
  rintro ρ st3 ⟨nx3, ms, m1, m2, rfl⟩
  refine z_seq (fun ρ st1 => Next st i st1 ∧ ∃ (hs : List Nat) (a8 : Option W), hs.length = sl ∧ (∀ v ∈ hs, v ≤ 2) ∧ ρ = [some (.ref i), some (nW m), some (kW eN x), some (kW eN y), some (nW sl), some (.tup (ms.map (kW eN))), some (nsW hs), some (.tup []), a8, none]) ?_ ?_
  · obtain ⟨rk, rn⟩ := rng_up (c := (sl : Int)) rfl (by omega)
    refine (z_for (List.range sl) st3 (fun n ρ st1 => Next st i st1 ∧ ∃ (hs : List Nat) (a8 : Option W), hs.length = n ∧ (∀ v ∈ hs, v ≤ 2) ∧ ρ = [some (.ref i), some (nW m), some (kW eN x), some (kW eN y), some (nW sl), some (.tup (ms.map (kW eN))), some (nsW hs), some (.tup []), a8, none]) (enc := nW) (gd := []) ?_ (fun _ _ _ _ => run_chkG _) ⟨nx3, [], none, rfl, (fun _ h => nomatch h), rfl⟩ ?_).imp fun f st1 q => ?_
    · simp only [RR, Nat.reduceAdd, Int.reduceEq, Int.reduceLE, Int.reduceLT, Int.reduceAdd, Int.reduceSub, Int.reduceMul, reduceIte, nW, rk, rn]
    · rintro n a ρ st4 ha ⟨nx4, hs, a8, h1, h2, rfl⟩
      obtain ⟨w, st5, e5, hw, nx5⟩ := law_pick_t (j + 1) st4 i [nW 0, nW 1, nW 1, nW 2] (by simp) (by simp) (fun w hw n => by
        simp only [List.mem_cons, List.not_mem_nil, or_false] at hw
        rcases hw with rfl | rfl | rfl | rfl <;> exact (dt_n _).l n) nx4.ok nx4.d
      obtain ⟨v, rfl, hv⟩ : ∃ v : Nat, w = nW v ∧ v ≤ 2 := by
        simp only [List.mem_cons, List.not_mem_nil, or_false] at hw
        rcases hw with rfl | rfl | rfl | rfl
        · exact ⟨0, rfl, by decide⟩
        · exact ⟨1, rfl, by decide⟩
        · exact ⟨1, rfl, by decide⟩
        · exact ⟨2, rfl, by decide⟩
      have e5 : runF (cf (j + 2)) fd_f_law_pick [.ref i, .tup [.int 0, .int 1, .int 1, .int 2]] st4 = .ok (nW v) st5 := e5
      have hlt := (List.getElem?_eq_some_iff.mp ha).1
      rw [List.length_range] at hlt
      refine asg_v ?_
      refine z_seq (fun ρ st1 => Next st i st1 ∧ ∃ (hs : List Nat) (a8 : Option W), hs.length = n + 1 ∧ (∀ v ∈ hs, v ≤ 2) ∧ ρ = [some (.ref i), some (nW m), some (kW eN x), some (kW eN y), some (nW sl), some (.tup (ms.map (kW eN))), some (nsW hs), some (.tup []), a8, none]) ?_ fun ρ st1 q => z_nil q
      have ad := bin_add_tup st5 (hs.map nW) [nW v] (by rw [List.length_map]; unfold SZ; simp only [List.length_cons, List.length_nil]; omega)
      refine okk_nx ?_ ⟨nx4.trans nx5, hs ++ [v], some (nW a), by simp [h1], fun u hu => ?_, rfl⟩
      · simp only [RR, Nat.reduceAdd, Int.reduceEq, Int.reduceLE, Int.reduceLT, Int.reduceAdd, Int.reduceSub, Int.reduceMul, reduceIte, e5, nsW, ad, List.map_append, List.map_cons, List.map_nil]
      · rcases List.mem_append.mp hu with z | z
        · exact h2 u z
        · rw [List.mem_singleton.mp z]; exact hv
    · cases f with
      | nx ρ => rw [List.length_range] at q; exact q
      | rt w => exact q.elim
  rintro ρ st4 ⟨nx4, hs, a8, k1, k2, rfl⟩
  have rdy : ∀ (cl : List (Nm × Nat)) (c : Nm) (v : Nat), cl.length ≤ 2 → ∀ st, binW .Add (.tup (cl.map (cnW eN))) (.tup [.tup [kW eN c, nW v]]) st = some (.tup ((cl ++ [(c, v)]).map (cnW eN))) := fun cl c v hl st => by
    rw [bin_add_tup st (cl.map (cnW eN)) [.tup [kW eN c, nW v]] (by rw [List.length_map]; unfold SZ; simp only [List.length_cons, List.length_nil]; omega), List.map_append]; rfl
  refine z_seq (fun ρ st1 => Next st i st1 ∧ ∃ (cl : List (Nm × Nat)) (a9 : Option W), cl.length ≤ 2 ∧ (∀ p ∈ cl, p.1 ∈ ms ∧ p.2 ≤ 2) ∧ (cl.map (·.1)).Pairwise (fun a b => (eN a).cps.toList < (eN b).cps.toList) ∧ ρ = [some (.ref i), some (nW m), some (kW eN x), some (kW eN y), some (nW sl), some (.tup (ms.map (kW eN))), some (nsW hs), some (.tup (cl.map (cnW eN))), a8, a9]) ?_ ?_
  · obtain ⟨cs, c1, c2, c3, c4⟩ := bi_sset_n ms (by omega) st4
    refine (z_for cs st4 (fun n ρ st1 => Next st i st1 ∧ ∃ (cl : List (Nm × Nat)) (a9 : Option W), (cl.map (·.1)).Sublist (cs.take n) ∧ (∀ p ∈ cl, p.2 ≤ 2) ∧ ρ = [some (.ref i), some (nW m), some (kW eN x), some (kW eN y), some (nW sl), some (.tup (ms.map (kW eN))), some (nsW hs), some (.tup (cl.map (cnW eN))), a8, a9]) (enc := kW eN) (gd := []) ?_ (fun _ _ _ _ => run_chkG _) ⟨nx4, [], none, by simp, (fun _ h => nomatch h), rfl⟩ ?_).imp fun f st1 q => ?_
    · simp only [RR, Nat.reduceAdd, Int.reduceEq, Int.reduceLE, Int.reduceLT, Int.reduceAdd, Int.reduceSub, Int.reduceMul, reduceIte, c1]
    · rintro n c ρ st5 hc ⟨nx5, cl, a9, q1, q2, rfl⟩
      refine asg_v ?_
      have hlt := (List.getElem?_eq_some_iff.mp hc).1
      have tk : cs.take (n + 1) = cs.take n ++ [c] := by rw [List.take_add_one, hc]; rfl
      have ql : cl.length ≤ 2 := by
        have := q1.length_le
        rw [List.length_map, List.length_take] at this
        omega
      refine z_seq (fun ρ st1 => Next st i st1 ∧ ∃ (cl : List (Nm × Nat)) (a9 : Option W), (cl.map (·.1)).Sublist (cs.take (n + 1)) ∧ (∀ p ∈ cl, p.2 ≤ 2) ∧ ρ = [some (.ref i), some (nW m), some (kW eN x), some (kW eN y), some (nW sl), some (.tup (ms.map (kW eN))), some (nsW hs), some (.tup (cl.map (cnW eN))), a8, a9]) ?_ fun ρ st1 q => z_nil q
      obtain ⟨r, st6, e6, hr, nx6⟩ := law_take_s (j + 2) st5 i 2 nx5.ok nx5.d (by decide) (by decide)
      have e6 : runF (cf (j + 2)) fd_f_law_take [.ref i, .int 2] st5 = .ok (.int (r : Int)) st6 := e6
      refine z_ifs (fun b st1 => st1 = st6) ⟨decide ((r : Int) = 0), st6, by simp only [RR, Nat.reduceAdd, Int.reduceEq, Int.reduceLE, Int.reduceLT, Int.reduceAdd, Int.reduceSub, Int.reduceMul, reduceIte, e6], rfl⟩ (fun st1 e => ?_) (fun st1 e => ?_)
      · subst e
        obtain ⟨v, st7, e7, hv, nx7⟩ := law_take_s (j + 2) st1 i 3 nx6.ok nx6.d (by decide) (by decide)
        have e7 : runF (cf (j + 2)) fd_f_law_take [.ref i, .int 3] st1 = .ok (.int (v : Int)) st7 := e7
        refine okk_nx ?_ ⟨nx5.trans (nx6.trans nx7), cl ++ [(c, v)], some (kW eN c), ?_, ?_, rfl⟩
        · have rd := rdy cl c v ql st7
          unfold nW at rd
          simp only [RR, Nat.reduceAdd, Int.reduceEq, Int.reduceLE, Int.reduceLT, Int.reduceAdd, Int.reduceSub, Int.reduceMul, reduceIte, e7, rd]
        · rw [List.map_append, tk]
          exact q1.append (List.Sublist.refl _)
        · intro p hp
          rcases List.mem_append.mp hp with z | z
          · exact q2 p z
          · rw [List.mem_singleton.mp z]; show v ≤ 2; omega
      · subst e
        refine okk_nx ?_ ⟨nx5.trans nx6, cl, some (kW eN c), ?_, q2, rfl⟩
        · simp only [RR, Nat.reduceAdd, Int.reduceEq, Int.reduceLE, Int.reduceLT, Int.reduceAdd, Int.reduceSub, Int.reduceMul, reduceIte]
        · rw [tk]; exact q1.trans (List.sublist_append_left _ _)
    · cases f with
      | nx ρ =>
        obtain ⟨nx, cl, a9, q1, q2, e⟩ := q
        rw [List.take_length] at q1
        have ql := q1.length_le
        rw [List.length_map] at ql
        exact ⟨nx, cl, a9, by omega, fun p hp => ⟨c2 _ (q1.subset (List.mem_map.mpr ⟨p, hp, rfl⟩)), q2 p hp⟩, c4.sublist q1, e⟩
      | rt w => exact q.elim
  rintro ρ st5 ⟨nx5, cl, a9, p1, p2, p3, rfl⟩
  obtain ⟨b, st6, e6, hb, nx6⟩ := law_take_s (j + 2) st5 i 3 nx5.ok nx5.d (by decide) (by decide)
  obtain ⟨rp, st7, e7, hrp, nx7⟩ := law_take_s (j + 2) st6 i 3 nx6.ok nx6.d (by decide) (by decide)
  obtain ⟨il, st8, e8, hil, nx8⟩ := law_take_s (j + 2) st7 i 3 nx7.ok nx7.d (by decide) (by decide)
  have e6 : runF (cf (j + 2)) fd_f_law_take [.ref i, .int 3] st5 = .ok (.int (b : Int)) st6 := e6
  have e7 : runF (cf (j + 2)) fd_f_law_take [.ref i, .int 3] st6 = .ok (.int (rp : Int)) st7 := e7
  have e8 : runF (cf (j + 2)) fd_f_law_take [.ref i, .int 3] st7 = .ok (.int (il : Int)) st8 := e8
  have nx := nx5.trans (nx6.trans (nx7.trans nx8))
  have cr : (1 + (rp : Int)) = ((rp + 1 : Nat) : Int) := by omega
  have Dy : Dt 3 (yrW eN ⟨ms, sl, hs, cl, b, rp + 1, il⟩) := dt_tup (dts_cons ((dt_tup (dts_map fun k _ => dt_k eN_ok k)).mono (by decide)) (dts_cons ((dt_n _).mono (by decide)) (dts_cons ((dt_ns _).mono (by decide)) (dts_cons (dt_tup (dts_map fun p _ => dt_cn eN_ok p)) (dts_cons ((dt_n _).mono (by decide)) (dts_cons ((dt_n _).mono (by decide)) (dts_cons ((dt_n _).mono (by decide)) dts_nil)))))))
  refine z_ret (okk_rt (w := yrW eN ⟨ms, sl, hs, cl, b, rp + 1, il⟩) (st1 := st8) ?_ ⟨nx.len, nx.ok, Dy.l _, nx, ⟨ms, sl, hs, cl, b, rp + 1, il⟩, rfl, ⟨m1, m2, l1, by show sl ≤ 5; omega, k1, k2, p2, ?_, by show b ≤ 2; omega, by show 1 ≤ rp + 1; omega, by show rp + 1 ≤ 3; omega, by show il ≤ 2; omega⟩, l2, p1⟩)
  · simp only [RR, Nat.reduceAdd, Int.reduceEq, Int.reduceLE, Int.reduceLT, Int.reduceAdd, Int.reduceSub, Int.reduceMul, reduceIte, e6, e7, e8, cr]
    rfl
  · intro n p q hp hq
    have := List.pairwise_iff_getElem.mp p3
    obtain ⟨g1, g2⟩ := List.getElem?_eq_some_iff.mp hp
    obtain ⟨g3, g4⟩ := List.getElem?_eq_some_iff.mp hq
    have z := this n (n + 1) (by rw [List.length_map]; exact g1) (by rw [List.length_map]; exact g3) (Nat.lt_succ_self n)
    rw [List.getElem_map, List.getElem_map, g2, g4] at z
    exact z

end Pf.Law

/-! part S20 -/
set_option Elab.async false
set_option linter.all false
set_option maxRecDepth 100000
set_option autoImplicit false
set_option maxHeartbeats 4000000
namespace Pf.Law
open PySem L2 Pf
section
variable {κ : Type} [DecidableEq κ] {e : κ → Str}
theorem dt_yr (E : Names e) (h : Hl κ) : Dt 3 (yrW e h) := dt_tup (dts_cons ((dt_tup (dts_map fun k _ => dt_k E k)).mono (by decide)) (dts_cons ((dt_n _).mono (by decide)) (dts_cons ((dt_ns _).mono (by decide)) (dts_cons (dt_tup (dts_map fun p _ => dt_cn E p)) (dts_cons ((dt_n _).mono (by decide)) (dts_cons ((dt_n _).mono (by decide)) (dts_cons ((dt_n _).mono (by decide)) dts_nil)))))))
theorem dt_hl (E : Names e) (h : Hl κ) (n : Nat) : (hlW e h).low n = true := by
  unfold hlW
  rw [W.low]
  exact (hl_dts E h).low n
theorem law_hall_s (j : Nat) (E : Names e) (h : Hl κ) (V : HlOk e h) (st : St) (ho : st.Okn) : runF (cf (j + 7)) fd_f_law_hall [yrW e h] st = .ok (hlW e h) st := by
  refine runF_pure ho.ok ⟨rfl, by decide⟩ rfl (st' := st) ?_ (take_self st) (dt_hl E h _)
  (show execs _ b_f_law_hall _ _ = _; unfold b_f_law_hall; try simp only [fd_f_law_hall, List.map_cons, List.map_nil, List.reduceReplicate, Nat.reduceSub, List.cons_append, List.nil_append])
  have q := hall_new j E h V st ho (b := fun wv wz => sel [0, 1, 2, 3, 4, 5, 6, 7] (wv ++ (wz ++ []))) (ws := [.tup (h.machines.map (kW e)), nW h.slots, nsW h.hands]) (zs := [.tup (h.clean.map (cnW e)), nW h.breaks, nW h.repair, nW h.ills]) rfl
  simp only [List.append_nil] at q
  simp only [RR, Nat.reduceAdd, Int.reduceEq, Int.reduceLE, Int.reduceLT, Int.reduceAdd, Int.reduceSub, Int.reduceMul, reduceIte, yrW, yrL, ixw_tup, at_0, at_1, at_2, at_3, at_4, at_5, at_6, q]
end
theorem law_lot_s (j : Nat) (st : St) (i m : Nat) (h : Hl Nm) (V : HlOk eN h) (ho : st.Okn) (D : Draws st i) (h2 : m ≤ 4) :
    Okk (runF (cf (j + 3)) fd_f_law_lot [.ref i, yrW eN h, nW m] st) fun w st' => Next st i st' ∧ ∃ lot : List (Turn Nm), w = loW eN lot ∧ LotOk h.slots lot ∧ lot.length ≤ m := by
  have hs1 := V.s1; have hs2 := V.s2; have hm1 := V.m1; have hm2 := V.m2
  have tk : ∀ (st : St) (n : Nat), st.Okn → Draws st i → 1 ≤ n → n < 1000000 → ∃ (r : Nat) (st' : St), runF (cf (j + 2)) fd_f_law_take [.ref i, .int (n : Int)] st = .ok (.int (r : Int)) st' ∧ r < n ∧ Next st i st' := fun st n ho D a b => law_take_s (j + 2) st i n ho D a b
  refine runF_okk (ρ := [some (.ref i), some (yrW eN h), some (nW m), none, none, none, none, none, none]) ⟨rfl, by decide⟩ rfl ?_
  (show Okk (execs _ b_f_law_lot _ _) _; unfold b_f_law_lot)
  refine z_seq (fun ρ st1 => st1 = st ∧ ρ = [some (.ref i), some (yrW eN h), some (nW m), some (loW eN []), none, none, none, none, none]) ?_ ?_
  · refine okk_nx ?_ ⟨rfl, rfl⟩
    simp only [RR, Nat.reduceAdd, Int.reduceEq, Int.reduceLE, Int.reduceLT, Int.reduceAdd, Int.reduceSub, Int.reduceMul, reduceIte, loW, List.map_nil]
  rintro ρ st0 ⟨rfl, rfl⟩
  refine z_seq (fun ρ st1 => Next st0 i st1 ∧ ∃ (lot : List (Turn Nm)) (a4 a5 a6 a7 a8 : Option W), lot.length ≤ m ∧ (∀ t ∈ lot, TurnOk h.slots t) ∧ ρ = [some (.ref i), some (yrW eN h), some (nW m), some (loW eN lot), a4, a5, a6, a7, a8]) ?_ ?_
  · obtain ⟨n, st1, e1, hn, nx1⟩ := tk st0 (m + 1) ho D (by omega) (by omega)
    obtain ⟨rk, rn⟩ := rng_up (c := (n : Int)) rfl (by omega)
    have cm : ((m : Int) + 1) = ((m + 1 : Nat) : Int) := by omega
    refine (z_for (List.range n) st1 (fun n ρ st1 => Next st0 i st1 ∧ ∃ (lot : List (Turn Nm)) (a4 a5 a6 a7 a8 : Option W), lot.length = n ∧ (∀ t ∈ lot, TurnOk h.slots t) ∧ ρ = [some (.ref i), some (yrW eN h), some (nW m), some (loW eN lot), a4, a5, a6, a7, a8]) (enc := nW) (gd := []) ?_ (fun _ _ _ _ => run_chkG _) ⟨nx1, [], none, none, none, none, none, rfl, (fun _ h => nomatch h), rfl⟩ ?_).imp fun f st1 q => ?_
    · simp only [RR, Nat.reduceAdd, Int.reduceEq, Int.reduceLE, Int.reduceLT, Int.reduceAdd, Int.reduceSub, Int.reduceMul, reduceIte, nW, cm, e1, rk, rn]
    · rintro n' a ρ st2 ha ⟨nx2, lot, a4, a5, a6, a7, a8, ll, lt, rfl⟩
      have hlt := (List.getElem?_eq_some_iff.mp ha).1
      rw [List.length_range] at hlt
      refine asg_v ?_
      refine z_seq (fun ρ st1 => Next st0 i st1 ∧ ∃ (k : Nm) (a4 : Option W), ρ = [some (.ref i), some (yrW eN h), some (nW m), some (loW eN lot), a4, some (kW eN k), a6, a7, a8]) (z_var (fun w st1 => Next st0 i st1 ∧ ∃ k : Nm, w = kW eN k) ?_ fun w st1 ⟨nx, k, e⟩ => ⟨nx, k, some (nW a), by rw [e]; rfl⟩) ?_
      · obtain ⟨r, st3, e3, hr, nx3⟩ := tk st2 9 nx2.ok nx2.d (by decide) (by decide)
        have e3 : runF (cf (j + 2)) fd_f_law_take [.ref i, .int 9] st2 = .ok (.int (r : Int)) st3 := e3
        have nx3' := nx2.trans nx3
        refine e_ite (fun _ st1 => st3 = st1) ⟨_, st3, by simp only [RR, Nat.reduceAdd, Int.reduceEq, Int.reduceLE, Int.reduceLT, Int.reduceAdd, Int.reduceSub, Int.reduceMul, reduceIte, e3]; rfl, rfl⟩ ?_ ?_
        · rintro _ rfl
          obtain ⟨w, st4, e4, hw, nx4⟩ := law_pick_t (j + 1) st3 i (h.machines.map (kW eN)) (by intro z; rw [List.map_eq_nil_iff] at z; rw [z] at hm1; exact absurd hm1 (by decide)) (by rw [List.length_map]; omega) (fun w hw n => by
            obtain ⟨k, _, rfl⟩ := List.mem_map.mp hw
            exact (dt_k eN_ok k).l n) nx3.ok nx3.d
          obtain ⟨k, _, rfl⟩ := List.mem_map.mp hw
          refine okk_eq (st := st4) ?_ ⟨nx3'.trans nx4, k, rfl⟩
          simp only [RR, Nat.reduceAdd, Int.reduceEq, Int.reduceLE, Int.reduceLT, Int.reduceAdd, Int.reduceSub, Int.reduceMul, reduceIte, yrW, yrL, ixw_tup, at_0, e4]
        · rintro _ rfl
          obtain ⟨x, st4, e4, hx, _, nx4⟩ := law_name_s j st3 i (h.machines.map eN) nx3.ok nx3.d (by rw [List.length_map]; omega) (fun t ht => by
            obtain ⟨k, _, rfl⟩ := List.mem_map.mp ht
            exact k.2)
          rw [List.map_map] at e4
          have e4 : runF (cf (j + 2)) fd_f_law_name [.ref i, .tup (h.machines.map (kW eN))] st3 = .ok (kW eN ⟨x, hx⟩) st4 := e4
          refine okk_eq (st := st4) ?_ ⟨nx3'.trans nx4, ⟨x, hx⟩, rfl⟩
          simp only [RR, Nat.reduceAdd, Int.reduceEq, Int.reduceLE, Int.reduceLT, Int.reduceAdd, Int.reduceSub, Int.reduceMul, reduceIte, yrW, yrL, ixw_tup, at_0, e4]
      rintro ρ st3 ⟨nx3, k, a4, rfl⟩
      refine z_seq (fun ρ st1 => Next st0 i st1 ∧ ∃ (f : Nat), f < h.slots ∧ ρ = [some (.ref i), some (yrW eN h), some (nW m), some (loW eN lot), a4, some (kW eN k), some (nW f), a7, a8]) (z_var (fun w st1 => Next st0 i st1 ∧ ∃ f : Nat, f < h.slots ∧ w = nW f) ?_ fun w st1 ⟨nx, k, l, e⟩ => ⟨nx, k, l, by rw [e]; rfl⟩) ?_
      · obtain ⟨r, st4, e4, hr, nx4⟩ := tk st3 2 nx3.ok nx3.d (by decide) (by decide)
        have e4 : runF (cf (j + 2)) fd_f_law_take [.ref i, .int 2] st3 = .ok (.int (r : Int)) st4 := e4
        have nx4' := nx3.trans nx4
        refine e_ite (fun _ st1 => st4 = st1) ⟨_, st4, by simp only [RR, Nat.reduceAdd, Int.reduceEq, Int.reduceLE, Int.reduceLT, Int.reduceAdd, Int.reduceSub, Int.reduceMul, reduceIte, e4]; rfl, rfl⟩ ?_ ?_
        · rintro _ rfl
          obtain ⟨f, st5, e5, hf, nx5⟩ := tk st4 h.slots nx4.ok nx4.d hs1 (by omega)
          refine okk_eq (st := st5) ?_ ⟨nx4'.trans nx5, f, hf, rfl⟩
          simp only [RR, Nat.reduceAdd, Int.reduceEq, Int.reduceLE, Int.reduceLT, Int.reduceAdd, Int.reduceSub, Int.reduceMul, reduceIte, yrW, yrL, ixw_tup, at_1, nW, e5]
        · rintro _ rfl
          refine okk_eq (st := st4) ?_ ⟨nx4', 0, by omega, rfl⟩
          simp only [RR, Nat.reduceAdd, Int.reduceEq, Int.reduceLE, Int.reduceLT, Int.reduceAdd, Int.reduceSub, Int.reduceMul, reduceIte]
          rfl
      rintro ρ st4 ⟨nx4, f, hf, rfl⟩
      refine z_seq (fun ρ st1 => Next st0 i st1 ∧ ∃ (l : Nat), f ≤ l ∧ l < h.slots ∧ ρ = [some (.ref i), some (yrW eN h), some (nW m), some (loW eN lot), a4, some (kW eN k), some (nW f), some (nW l), a8]) (z_var (fun w st1 => Next st0 i st1 ∧ ∃ l : Nat, f ≤ l ∧ l < h.slots ∧ w = nW l) ?_ fun w st1 ⟨nx, k, l, l2, e⟩ => ⟨nx, k, l, l2, by rw [e]; rfl⟩) ?_
      · obtain ⟨r, st5, e5, hr, nx5⟩ := tk st4 (h.slots - f) nx4.ok nx4.d (by omega) (by omega)
        have c1 : (h.slots : Int) - (f : Int) = ((h.slots - f : Nat) : Int) := by omega
        refine okk_eq (st := st5) ?_ ⟨nx4.trans nx5, f + r, by omega, by omega, rfl⟩
        simp only [RR, Nat.reduceAdd, Int.reduceEq, Int.reduceLE, Int.reduceLT, Int.reduceAdd, Int.reduceSub, Int.reduceMul, reduceIte, yrW, yrL, ixw_tup, at_1, nW, c1, e5]
        rfl
      rintro ρ st5 ⟨nx5, l, l1, l2, rfl⟩
      refine z_seq (fun ρ st1 => Next st0 i st1 ∧ ∃ (l : Nat), f ≤ l ∧ l < h.slots ∧ ρ = [some (.ref i), some (yrW eN h), some (nW m), some (loW eN lot), a4, some (kW eN k), some (nW f), some (nW l), a8]) (z_var (fun w st1 => Next st0 i st1 ∧ ∃ l : Nat, f ≤ l ∧ l < h.slots ∧ w = nW l) ?_ fun w st1 ⟨nx, k, l, l2, e⟩ => ⟨nx, k, l, l2, by rw [e]; rfl⟩) ?_
      · obtain ⟨r, st6, e6, hr, nx6⟩ := tk st5 2 nx5.ok nx5.d (by decide) (by decide)
        have e6 : runF (cf (j + 2)) fd_f_law_take [.ref i, .int 2] st5 = .ok (.int (r : Int)) st6 := e6
        have nx6' := nx5.trans nx6
        refine e_ite (fun _ st1 => st6 = st1) ⟨_, st6, by simp only [RR, Nat.reduceAdd, Int.reduceEq, Int.reduceLE, Int.reduceLT, Int.reduceAdd, Int.reduceSub, Int.reduceMul, reduceIte, e6]; rfl, rfl⟩ ?_ ?_
        · rintro _ rfl
          refine okk_eq (st := st6) ?_ ⟨nx6', l, l1, l2, rfl⟩
          simp only [RR, Nat.reduceAdd, Int.reduceEq, Int.reduceLE, Int.reduceLT, Int.reduceAdd, Int.reduceSub, Int.reduceMul, reduceIte]
        · rintro _ rfl
          have c1 : (h.slots : Int) - 1 = ((h.slots - 1 : Nat) : Int) := by omega
          refine okk_eq (st := st6) ?_ ⟨nx6', h.slots - 1, by omega, by omega, rfl⟩
          simp only [RR, Nat.reduceAdd, Int.reduceEq, Int.reduceLE, Int.reduceLT, Int.reduceAdd, Int.reduceSub, Int.reduceMul, reduceIte, yrW, yrL, ixw_tup, at_1, nW, c1]
      rintro ρ st6 ⟨nx6, l, l1, l2, rfl⟩
      refine z_seq (fun ρ st1 => Next st0 i st1 ∧ ∃ (n : Nat), 1 ≤ n ∧ n ≤ 3 ∧ ρ = [some (.ref i), some (yrW eN h), some (nW m), some (loW eN lot), a4, some (kW eN k), some (nW f), some (nW l), some (nW n)]) (z_var (fun w st1 => Next st0 i st1 ∧ ∃ l : Nat, 1 ≤ l ∧ l ≤ 3 ∧ w = nW l) ?_ fun w st1 ⟨nx, k, l, l2, e⟩ => ⟨nx, k, l, l2, by rw [e]; rfl⟩) ?_
      · obtain ⟨w, st7, e7, hw, nx7⟩ := law_pick_t (j + 1) st6 i [nW 1, nW 1, nW 1, nW 2, nW 2, nW 3] (by simp) (by simp) (fun w hw n => by
          simp only [List.mem_cons, List.not_mem_nil, or_false] at hw
          rcases hw with rfl | rfl | rfl | rfl | rfl | rfl <;> exact (dt_n _).l n) nx6.ok nx6.d
        have e7 : runF (cf (j + 2)) fd_f_law_pick [.ref i, .tup [.int 1, .int 1, .int 1, .int 2, .int 2, .int 3]] st6 = .ok w st7 := e7
        refine okk_eq (a := w) (st := st7) ?_ ⟨nx6.trans nx7, ?_⟩
        · simp only [RR, Nat.reduceAdd, Int.reduceEq, Int.reduceLE, Int.reduceLT, Int.reduceAdd, Int.reduceSub, Int.reduceMul, reduceIte, e7]
        · simp only [List.mem_cons, List.not_mem_nil, or_false] at hw
          rcases hw with rfl | rfl | rfl | rfl | rfl | rfl
          · exact ⟨1, by decide, by decide, rfl⟩
          · exact ⟨1, by decide, by decide, rfl⟩
          · exact ⟨1, by decide, by decide, rfl⟩
          · exact ⟨2, by decide, by decide, rfl⟩
          · exact ⟨2, by decide, by decide, rfl⟩
          · exact ⟨3, by decide, by decide, rfl⟩
      rintro ρ st7 ⟨nx7, n, n1, n2, rfl⟩
      refine z_seq (fun ρ st1 => Next st0 i st1 ∧ ∃ (lot : List (Turn Nm)) (a4 a5 a6 a7 a8 : Option W), lot.length = n' + 1 ∧ (∀ t ∈ lot, TurnOk h.slots t) ∧ ρ = [some (.ref i), some (yrW eN h), some (nW m), some (loW eN lot), a4, a5, a6, a7, a8]) ?_ fun ρ st1 q => z_nil q
      obtain ⟨b, st8, e8, hb, nx8⟩ := tk st7 3 nx7.ok nx7.d (by decide) (by decide)
      obtain ⟨pt, st9, e9, hpt, nx9⟩ := tk st8 9 nx8.ok nx8.d (by decide) (by decide)
      have e8 : runF (cf (j + 2)) fd_f_law_take [.ref i, .int 3] st7 = .ok (.int (b : Int)) st8 := e8
      have e9 : runF (cf (j + 2)) fd_f_law_take [.ref i, .int 9] st8 = .ok (.int (pt : Int)) st9 := e9
      have cp : (1 + (pt : Int)) = ((pt + 1 : Nat) : Int) := by omega
      have ad : binW .Add (.tup (lot.map (tuW eN))) (.tup [.tup [kW eN k, .int (f : Int), .int (l : Int), .int (n : Int), .bl (decide ((0 : Int) < (b : Int))), .int ((pt + 1 : Nat) : Int)]]) st9 = some (.tup ((lot ++ [(⟨k, f, l, n, decide ((0 : Int) < (b : Int)), pt + 1⟩ : Turn Nm)]).map (tuW eN))) := by
        rw [bin_add_tup st9 _ _ (by rw [List.length_map]; unfold SZ; simp only [List.length_cons, List.length_nil]; omega), List.map_append]; rfl
      refine okk_nx ?_ ⟨nx7.trans (nx8.trans nx9), lot ++ [⟨k, f, l, n, decide ((0 : Int) < (b : Int)), pt + 1⟩], a4, some (kW eN k), some (nW f), some (nW l), some (nW n), by simp [ll], fun t ht => ?_, rfl⟩
      · simp only [RR, Nat.reduceAdd, Int.reduceEq, Int.reduceLE, Int.reduceLT, Int.reduceAdd, Int.reduceSub, Int.reduceMul, reduceIte, e8, e9, cp, loW, nW, ad]
      · rcases List.mem_append.mp ht with z | z
        · exact lt t z
        · rw [List.mem_singleton.mp z]
          exact ⟨l1, l2, n1, n2, by show 1 ≤ pt + 1; omega, by show pt + 1 ≤ 9; omega⟩
    · cases f with
      | nx ρ =>
        obtain ⟨nx, lot, a4, a5, a6, a7, a8, ll, lt, e⟩ := q
        rw [List.length_range] at ll
        exact ⟨nx, lot, a4, a5, a6, a7, a8, by omega, lt, e⟩
      | rt w => exact q.elim
  rintro ρ st1 ⟨nx, lot, a4, a5, a6, a7, a8, ll, lt, rfl⟩
  refine z_ret (okk_rt (w := loW eN lot) (st1 := st1) ?_ ⟨nx.len, nx.ok, (dt_lo eN_ok lot).l _, nx, lot, rfl, ⟨by omega, lt⟩, ll⟩)
  simp only [RR, Nat.reduceAdd, Int.reduceEq, Int.reduceLE, Int.reduceLT, Int.reduceAdd, Int.reduceSub, Int.reduceMul, reduceIte]

end Pf.Law

/-! part S21 -/
set_option Elab.async false
set_option linter.all false
set_option maxRecDepth 100000
set_option autoImplicit false
set_option maxHeartbeats 4000000
namespace Pf.Law
open PySem L2 Pf
section
variable {κ : Type} [DecidableEq κ] {e : κ → Str}
/-- the orders that one becomes -/
def ext1 (l : List (Turn κ × Nat)) (k : κ) (s m : Nat) (o : List (Nat × Nat)) : List (List (Nat × Nat)) := (l.filter fun q => canB q.1 k s && !decide (q.2 ∈ o.map (·.1))).map fun q => o ++ [(q.2, m)]
theorem extF_eq (lot : List (Turn κ)) (s : Nat) (found : List (List (Nat × Nat))) (p : κ × Nat) : extF lot s found p = found.flatMap fun o => ext1 (lot.zipIdx 0) p.1 s p.2 o := by
  unfold extF
  congr 1
  funext o
  unfold ext1 idxF
  rw [List.filter_map, List.filter_filter, List.map_map]
  congr 1
  refine List.filter_congr fun q _ => ?_
  show (!decide (q.2 ∈ o.map (·.1)) && canB q.1 p.1 s) = _
  rw [Bool.and_comm]
theorem ext1_len (l : List (Turn κ × Nat)) (k : κ) (s m : Nat) (o : List (Nat × Nat)) : (ext1 l k s m o).length ≤ l.length := by
  unfold ext1
  rw [List.length_map]
  exact List.length_filter_le _ _
theorem ext1_app (l l2 : List (Turn κ × Nat)) (k : κ) (s m : Nat) (o : List (Nat × Nat)) : ext1 (l ++ l2) k s m o = ext1 l k s m o ++ ext1 l2 k s m o := by
  unfold ext1
  rw [List.filter_append, List.map_append]
theorem dts_or (l : List (List (Nat × Nat))) : Dts 2 (l.map orW) := dts_map fun o _ => dt_or o
theorem found_step (ms : List (κ × Nat)) (lot : List (Turn κ)) (s n : Nat) (p : κ × Nat) (h : ms[n]? = some p) : (ms.take (n + 1)).foldl (addF lot s) [[]] = addF lot s ((ms.take n).foldl (addF lot s) [[]]) p := by
  rw [List.take_add_one, h, List.foldl_append]; rfl
theorem found_len (ms : List (κ × Nat)) (hm : ms.length ≤ 2) (lot : List (Turn κ)) (hl : lot.length ≤ 4) (s n : Nat) : ((ms.take n).foldl (addF lot s) [[]]).length ≤ 25 := by
  refine Nat.le_trans (addF_len2 lot hl s _ _) ?_
  have h1 : (ms.take n).length ≤ 2 := Nat.le_trans (by rw [List.length_take]; omega) hm
  have := Nat.pow_le_pow_right (n := 5) (by decide) h1
  simp only [List.length_cons, List.length_nil]
  omega
theorem found_olen2 (lot : List (Turn κ)) (s : Nat) : ∀ (l : List (κ × Nat)) (found : List (List (Nat × Nat))) (k : Nat), (∀ o ∈ found, o.length ≤ k) → ∀ o ∈ l.foldl (addF lot s) found, o.length ≤ k + l.length
  | [], found, k, h => by simpa using h
  | p :: l, found, k, h => by
    rw [List.foldl_cons, List.length_cons]
    have := found_olen2 lot s l (addF lot s found p) (k + 1) (fun o ho => by
      unfold addF at ho
      rcases List.mem_append.mp ho with z | z
      · exact Nat.le_succ_of_le (h o z)
      · obtain ⟨o0, h0, t, u, _, _, _, rfl⟩ := extF_in z
        rw [List.length_append]
        exact Nat.succ_le_succ (h o0 h0))
    intro o ho
    have := this o ho
    omega
theorem found_olen (ms : List (κ × Nat)) (lot : List (Turn κ)) (s n : Nat) (o : List (Nat × Nat)) (h : o ∈ (ms.take n).foldl (addF lot s) [[]]) : o.length ≤ (ms.take n).length := by
  have := found_olen2 lot s (ms.take n) [[]] 0 (fun o ho => by rw [List.mem_singleton.mp ho]; exact Nat.le_refl _) o h
  omega
theorem orders_in_h (j : Nat) (E : Names e) (h : Hl κ) (hm2 : h.machines.length ≤ 2) (lot : List (Turn κ)) (hl : lot.length ≤ 4) (s : Nat) (st : St) (ho : st.Okn) :
    runF (cf (j + 1)) fd_f_orders_in [hlW e h, loW e lot, nW s] st = .ok (.tup ((sordF h.machines lot s).map orW)) st := by
  refine runF_ext (ρ := [some (hlW e h), some (loW e lot), some (nW s), none, none, none, none, none, none, none, none, none, none]) ⟨rfl, by decide⟩ rfl ho ((dt_tup (dts_or _)).l _) ?_
  (show Okk (execs _ b_f_orders_in _ _) _; unfold b_f_orders_in)
  refine z_seq (fun ρ st1 => Ext st st1 ∧ ρ = [some (hlW e h), some (loW e lot), some (nW s), some (.lst (([[]] : List (List (Nat × Nat))).map orW)), none, none, none, none, none, none, none, none, none]) ?_ ?_
  · refine okk_nx ?_ ⟨Ext.refl ho, rfl⟩
    simp only [RR, Nat.reduceAdd, Int.reduceEq, Int.reduceLE, Int.reduceLT, Int.reduceAdd, Int.reduceSub, Int.reduceMul, reduceIte, List.map_cons, List.map_nil, orW]
  rintro ρ st1 ⟨x1, rfl⟩
  refine z_seq (fun ρ st1 => Ext st st1 ∧ ∃ a4 a5 a6 a7 a8 a9 a10 a11 a12, ρ = [some (hlW e h), some (loW e lot), some (nW s), some (.lst ((ordsF h.machines lot s).map orW)), a4, a5, a6, a7, a8, a9, a10, a11, a12]) ?_ ?_
  · refine (z_for (h.machines.zipIdx 0) st1 (fun n ρ st1 => Ext st st1 ∧ ∃ a4 a5 a6 a7 a8 a9 a10 a11 a12, ρ = [some (hlW e h), some (loW e lot), some (nW s), some (.lst ((((h.machines.zipIdx 0).take n).foldl (addF lot s) [[]]).map orW)), a4, a5, a6, a7, a8, a9, a10, a11, a12]) (enc := fun p : κ × Nat => .tup [nW p.2, kW e p.1]) (gd := []) ?_ (fun _ _ _ _ => run_chkG _) ⟨x1, none, none, none, none, none, none, none, none, none, rfl⟩ ?_).imp fun f st1 q => ?_
    · simp only [RR, Nat.reduceAdd, Int.reduceEq, Int.reduceLE, Int.reduceLT, Int.reduceAdd, Int.reduceSub, Int.reduceMul, reduceIte, (getF_hl (e := e) (j + 1) h st1).1, enumL_map]
    · rintro n p ρ st2 hp ⟨x2, a4, a5, a6, a7, a8, a9, a10, a11, a12, rfl⟩
      obtain ⟨found, hfound⟩ : ∃ found, found = ((h.machines.zipIdx 0).take n).foldl (addF lot s) [[]] := ⟨_, rfl⟩
      have fl : found.length ≤ 25 := by rw [hfound]; exact found_len _ (by rw [List.length_zipIdx]; exact hm2) lot hl s n
      rw [← hfound]
      refine okk_eq (a := [some (hlW e h), some (loW e lot), some (nW s), some (.lst (found.map orW)), some (nW p.2), some (kW e p.1), a6, a7, a8, a9, a10, a11, a12]) (st := st2) (by simp only [RR, Nat.reduceAdd, Int.reduceEq, Int.reduceLE, Int.reduceLT, Int.reduceAdd, Int.reduceSub, Int.reduceMul, reduceIte]) ?_
      refine z_seq (fun ρ st1 => st1 = st2 ∧ ∃ a10 a11, ρ = [some (hlW e h), some (loW e lot), some (nW s), some (.lst (found.map orW)), some (nW p.2), some (kW e p.1), some (.lst ((idxF lot p.1 s).map nW)), a7, a8, a9, a10, a11, a12]) ?_ ?_
      · refine okk_nx ?_ ⟨rfl, a10, a11, rfl⟩
        simp only [RR, Nat.reduceAdd, Int.reduceEq, Int.reduceLE, Int.reduceLT, Int.reduceAdd, Int.reduceSub, Int.reduceMul, reduceIte, loW, enumL_map]
        rw [List.length_map, List.length_zipIdx, run_sz _ _ (by unfold SZ; omega), bnd_ok, run_bind, compL_run (enc := fun q : Turn κ × Nat => W.tup [nW q.2, tuW e q.1]) (g := fun q => if canB q.1 p.1 s = true then [nW q.2] else []) (run_chkG st2) _ ?h1]
        case h1 =>
          intro q _
          have r := can_begin_h j E q.1 p.1 s st2 x2.ok
          simp only [RR, Nat.reduceAdd, Int.reduceEq, Int.reduceLE, Int.reduceLT, Int.reduceAdd, Int.reduceSub, Int.reduceMul, reduceIte, turnC, r]
          cases canB q.1 p.1 s <;> simp only [RR, Nat.reduceAdd, Int.reduceEq, Int.reduceLE, Int.reduceLT, Int.reduceAdd, Int.reduceSub, Int.reduceMul, reduceIte]
        have f : ((lot.zipIdx 0).flatMap fun q => if canB q.1 p.1 s = true then [nW q.2] else []) = (idxF lot p.1 s).map nW := by
          unfold idxF
          generalize lot.zipIdx 0 = l
          induction l with
          | nil => rfl
          | cons q l ih =>
            rw [List.flatMap_cons, ih, List.filter_cons]
            cases canB q.1 p.1 s <;> rfl
        simp only [RR, Nat.reduceAdd, Int.reduceEq, Int.reduceLE, Int.reduceLT, Int.reduceAdd, Int.reduceSub, Int.reduceMul, reduceIte, f]
      rintro ρ st3 ⟨rfl, a10, a11, rfl⟩
      refine z_seq (fun ρ st1 => st1 = st3 ++ [.lst []] ∧ ρ = [some (hlW e h), some (loW e lot), some (nW s), some (.lst (found.map orW)), some (nW p.2), some (kW e p.1), some (.lst ((idxF lot p.1 s).map nW)), some (.ref st3.length), a8, a9, a10, a11, a12]) ?_ ?_
      · refine okk_nx ?_ ⟨rfl, rfl⟩
        simp only [RR, Nat.reduceAdd, Int.reduceEq, Int.reduceLE, Int.reduceLT, Int.reduceAdd, Int.reduceSub, Int.reduceMul, reduceIte]
      rintro ρ st4 ⟨rfl, rfl⟩
      refine z_seq (fun ρ st1 => st1 = st3 ++ [.lst ((extF lot s found p).map orW)] ∧ ∃ a8 a9 a10 a11 a12, ρ = [some (hlW e h), some (loW e lot), some (nW s), some (.lst (found.map orW)), some (nW p.2), some (kW e p.1), some (.lst ((idxF lot p.1 s).map nW)), some (.ref st3.length), a8, a9, a10, a11, a12]) ?_ ?_
      · refine (z_for found (st3 ++ [.lst []]) (fun n ρ st1 => st1 = st3 ++ [.lst ((extF lot s (found.take n) p).map orW)] ∧ ∃ a8 a9 a10 a11 a12, ρ = [some (hlW e h), some (loW e lot), some (nW s), some (.lst (found.map orW)), some (nW p.2), some (kW e p.1), some (.lst ((idxF lot p.1 s).map nW)), some (.ref st3.length), a8, a9, a10, a11, a12]) (enc := orW) (gd := []) ?_ (fun _ _ _ _ => run_chkG _) ⟨rfl, a8, a9, a10, a11, a12, rfl⟩ ?_).imp fun f st1 q => ?_
        · simp only [RR, Nat.reduceAdd, Int.reduceEq, Int.reduceLE, Int.reduceLT, Int.reduceAdd, Int.reduceSub, Int.reduceMul, reduceIte]
        · rintro i o ρ st5 ho5 ⟨rfl, a8, a9, a10, a11, a12, rfl⟩
          have hlt := (List.getElem?_eq_some_iff.mp ho5).1
          have il := idxF_len lot p.1 s
          have xl := extF_len lot s p (found.take i)
          have xl2 : (found.take i).length * lot.length ≤ 25 * 4 := Nat.mul_le_mul (by rw [List.length_take]; omega) hl
          obtain ⟨acc, hacc⟩ : ∃ acc, acc = extF lot s (found.take i) p := ⟨_, rfl⟩
          have nx : extF lot s (found.take (i + 1)) p = acc ++ ((idxF lot p.1 s).filter fun t => !decide (t ∈ o.map (·.1))).map fun t => o ++ [(t, p.2)] := by
            rw [List.take_add_one, ho5, hacc]
            unfold extF
            rw [List.flatMap_append]
            congr 1
            simp
          rw [nx]
          rw [← hacc] at xl ⊢
          have okk : St.Okn (st3 ++ [.lst (acc.map orW)]) := okL x2.ok (dts_or acc)
          have hol : o.length ≤ 2 := by
            have := found_olen (h.machines.zipIdx 0) lot s n o (by rw [← hfound]; exact List.mem_of_getElem? ho5)
            have h3 : ((h.machines.zipIdx 0).take n).length ≤ 2 := by rw [List.length_take, List.length_zipIdx]; omega
            omega
          refine asg_v ?_
          refine z_seq (fun ρ st1 => st1 = st3 ++ [.lst (acc.map orW)] ∧ ∃ a11 a12, ρ = [some (hlW e h), some (loW e lot), some (nW s), some (.lst (found.map orW)), some (nW p.2), some (kW e p.1), some (.lst ((idxF lot p.1 s).map nW)), some (.ref st3.length), some (orW o), some (.lst (o.map fun t => nW t.1)), a10, a11, a12]) ?_ ?_
          · refine okk_nx ?_ ⟨rfl, a11, a12, rfl⟩
            simp only [RR, Nat.reduceAdd, Int.reduceEq, Int.reduceLE, Int.reduceLT, Int.reduceAdd, Int.reduceSub, Int.reduceMul, reduceIte, orW]
            rw [List.length_map, run_sz _ _ (by unfold SZ; omega), bnd_ok, run_bind, compL_map (enc := prW) (g := fun t => nW t.1) (run_chkG _) _ ?h2]
            case h2 =>
              intro t _
              simp only [RR, Nat.reduceAdd, Int.reduceEq, Int.reduceLE, Int.reduceLT, Int.reduceAdd, Int.reduceSub, Int.reduceMul, reduceIte, turnC, prW]
            simp only [RR, Nat.reduceAdd, Int.reduceEq, Int.reduceLE, Int.reduceLT, Int.reduceAdd, Int.reduceSub, Int.reduceMul, reduceIte]
          rintro ρ st6 ⟨rfl, a11, a12, rfl⟩
          refine z_seq (fun ρ st1 => st1 = st3 ++ [.lst ((acc ++ ((idxF lot p.1 s).filter fun t => !decide (t ∈ o.map (·.1))).map fun t => o ++ [(t, p.2)]).map orW)] ∧ ∃ a8 a9 a10 a11 a12, ρ = [some (hlW e h), some (loW e lot), some (nW s), some (.lst (found.map orW)), some (nW p.2), some (kW e p.1), some (.lst ((idxF lot p.1 s).map nW)), some (.ref st3.length), a8, a9, a10, a11, a12]) ?_ fun ρ st1 q => z_nil q
          refine okk_nx ?_ ⟨rfl, some (orW o), some (.lst (o.map fun t => nW t.1)), a10, a11, a12, rfl⟩
          simp only [RR, Nat.reduceAdd, Int.reduceEq, Int.reduceLE, Int.reduceLT, Int.reduceAdd, Int.reduceSub, Int.reduceMul, reduceIte]
          rw [List.length_map, run_sz _ _ (by unfold SZ; omega), bnd_ok, compL_run (enc := nW) (g := fun t => if (!decide (t ∈ o.map (·.1))) = true then [orW (o ++ [(t, p.2)])] else []) (run_chkG _) _ ?h3]
          case h3 =>
            intro t _
            have q : cmpW .NotIn (nW t) (.lst (o.map fun t => nW t.1)) (st3 ++ [.lst (acc.map orW)]) = some (!decide (t ∈ o.map (·.1))) := by
              have e1 : (o.map fun t => nW t.1) = (o.map (·.1)).map nW := by rw [List.map_map]; rfl
              rw [e1, cmp_nin_lst _ (d := 0) (dt_n t) (dts_map fun a _ => dt_n a) rfl rfl (by decide), inW_n]
            simp only [RR, Nat.reduceAdd, Int.reduceEq, Int.reduceLE, Int.reduceLT, Int.reduceAdd, Int.reduceSub, Int.reduceMul, reduceIte, turnC, q]
            cases decide (t ∈ o.map (·.1))
            · simp only [RR, Nat.reduceAdd, Int.reduceEq, Int.reduceLE, Int.reduceLT, Int.reduceAdd, Int.reduceSub, Int.reduceMul, reduceIte, orW]
              rw [List.length_append, List.length_map, run_sz _ _ (by unfold SZ; simp only [List.length_cons, List.length_nil]; omega)]
              simp only [RR, Nat.reduceAdd, Int.reduceEq, Int.reduceLE, Int.reduceLT, Int.reduceAdd, Int.reduceSub, Int.reduceMul, reduceIte]
              rw [List.map_append]; rfl
            · simp only [RR, Nat.reduceAdd, Int.reduceEq, Int.reduceLE, Int.reduceLT, Int.reduceAdd, Int.reduceSub, Int.reduceMul, reduceIte]
          have f : ((idxF lot p.1 s).flatMap fun t => if (!decide (t ∈ o.map (·.1))) = true then [orW (o ++ [(t, p.2)])] else []) = (((idxF lot p.1 s).filter fun t => !decide (t ∈ o.map (·.1))).map fun t => o ++ [(t, p.2)]).map orW := by
            generalize idxF lot p.1 s = l
            induction l with
            | nil => rfl
            | cons q l ih =>
              rw [List.flatMap_cons, ih, List.filter_cons]
              cases !decide (q ∈ o.map (·.1)) <;> rfl
          have fl2 : (((idxF lot p.1 s).filter fun t => !decide (t ∈ o.map (·.1))).map fun t => o ++ [(t, p.2)]).length ≤ 4 := by
            rw [List.length_map]
            exact Nat.le_trans (List.length_filter_le _ _) (Nat.le_trans il hl)
          simp only [RR, Nat.reduceAdd, Int.reduceEq, Int.reduceLE, Int.reduceLT, Int.reduceAdd, Int.reduceSub, Int.reduceMul, reduceIte, f, extC_A]
          rw [if_pos (by rw [List.length_map, List.length_map]; unfold SZ; omega), ← List.map_append]
          simp only [RR, Nat.reduceAdd, Int.reduceEq, Int.reduceLE, Int.reduceLT, Int.reduceAdd, Int.reduceSub, Int.reduceMul, reduceIte]
        · cases f with
          | nx ρ => rw [List.take_length] at q; exact q
          | rt w => exact q.elim
      rintro ρ st5 ⟨rfl, a8, a9, a10, a11, a12, rfl⟩
      have xl := extF_len lot s p found
      have xl2 : found.length * lot.length ≤ 25 * 4 := Nat.mul_le_mul fl hl
      rw [found_step _ lot s n p hp, ← hfound]
      refine z_seq (fun ρ st1 => Ext st st1 ∧ ∃ a4 a5 a6 a7 a8 a9 a10 a11 a12, ρ = [some (hlW e h), some (loW e lot), some (nW s), some (.lst ((addF lot s found p).map orW)), a4, a5, a6, a7, a8, a9, a10, a11, a12]) ?_ fun ρ st1 q => z_nil q
      refine okk_nx ?_ ⟨x2.app (dts_or (extF lot s found p)), some (nW p.2), some (kW e p.1), some (.lst ((idxF lot p.1 s).map nW)), some (.ref st3.length), a8, a9, a10, a11, a12, rfl⟩
      have ad := add_lst_ref (found.map orW) (lst_A st3 ((extF lot s found p).map orW)) (by rw [List.length_map, List.length_map]; unfold SZ; omega)
      unfold addF
      simp only [RR, Nat.reduceAdd, Int.reduceEq, Int.reduceLE, Int.reduceLT, Int.reduceAdd, Int.reduceSub, Int.reduceMul, reduceIte, ad, List.map_append]
    · cases f with
      | nx ρ =>
        obtain ⟨x, q⟩ := q
        rw [List.take_length] at q
        exact ⟨x, q⟩
      | rt w => exact q.elim
  rintro ρ st1 ⟨x1, a4, a5, a6, a7, a8, a9, a10, a11, a12, rfl⟩
  refine z_ret (okk_rt (w := .tup ((sordF h.machines lot s).map orW)) (st1 := st1) ?_ ⟨x1, rfl⟩)
  simp only [RR, Nat.reduceAdd, Int.reduceEq, Int.reduceLE, Int.reduceLT, Int.reduceAdd, Int.reduceSub, Int.reduceMul, reduceIte, bi_sorted_l (srt_or (ordsF h.machines lot s)) (seq_lst st1 _)]
  rfl
end

end Pf.Law

/-! part S22 -/
set_option Elab.async false
set_option linter.all false
set_option maxRecDepth 100000
set_option autoImplicit false
set_option maxHeartbeats 4000000
namespace Pf.Law
open PySem L2 Pf
section
variable {κ : Type} [DecidableEq κ] {e : κ → Str}
theorem law_all_orders_s (j : Nat) (E : Names e) (h : Hl κ) (hm2 : h.machines.length ≤ 2) (lot : List (Turn κ)) (hl : lot.length ≤ 4) (s : Nat) (st : St) (ho : st.Okn) :
    runF (cf j) fd_f_law_all_orders [yrW e h, loW e lot, nW s] st = .ok (.lst ((sordF h.machines lot s).map orW)) st := by
  refine runF_ext (ρ := [some (yrW e h), some (loW e lot), some (nW s), none, none, none, none, none, none, none, none, none, none, none, none]) ⟨rfl, by decide⟩ rfl ho (by rw [W.low]; exact (dts_or _).low _) ?_
  (show Okk (execs _ b_f_law_all_orders _ _) _; unfold b_f_law_all_orders)
  refine z_seq (fun ρ st1 => Ext st st1 ∧ ρ = [some (yrW e h), some (loW e lot), some (nW s), some (.lst (([[]] : List (List (Nat × Nat))).map orW)), none, none, none, none, none, none, none, none, none, none, none]) ?_ ?_
  · refine okk_nx ?_ ⟨Ext.refl ho, rfl⟩
    simp only [RR, Nat.reduceAdd, Int.reduceEq, Int.reduceLE, Int.reduceLT, Int.reduceAdd, Int.reduceSub, Int.reduceMul, reduceIte, List.map_cons, List.map_nil, orW]
  rintro ρ st1 ⟨x1, rfl⟩
  refine z_seq (fun ρ st1 => Ext st st1 ∧ ∃ a4 a5 a6 a7 a8 a9 a10 a11 a12 a13 a14, ρ = [some (yrW e h), some (loW e lot), some (nW s), some (.lst ((ordsF h.machines lot s).map orW)), a4, a5, a6, a7, a8, a9, a10, a11, a12, a13, a14]) ?_ ?_
  · obtain ⟨rk, _⟩ := rng_up (c := (h.machines.length : Int)) rfl (by omega)
    have rn : rngL 0 ((h.machines.length : Int) - 0).toNat = (h.machines.zipIdx 0).map fun p => nW p.2 := by rw [show ((h.machines.length : Int) - 0).toNat = h.machines.length by omega, rngL_zip]
    refine (z_for (h.machines.zipIdx 0) st1 (fun n ρ st1 => Ext st st1 ∧ ∃ a4 a5 a6 a7 a8 a9 a10 a11 a12 a13 a14, ρ = [some (yrW e h), some (loW e lot), some (nW s), some (.lst ((((h.machines.zipIdx 0).take n).foldl (addF lot s) [[]]).map orW)), a4, a5, a6, a7, a8, a9, a10, a11, a12, a13, a14]) (enc := fun p : κ × Nat => nW p.2) (gd := []) ?_ (fun _ _ _ _ => run_chkG _) ⟨x1, none, none, none, none, none, none, none, none, none, none, none, rfl⟩ ?_).imp fun f st1 q => ?_
    · simp only [RR, Nat.reduceAdd, Int.reduceEq, Int.reduceLE, Int.reduceLT, Int.reduceAdd, Int.reduceSub, Int.reduceMul, reduceIte, yrW, yrL, ixw_tup, at_0, List.length_map, rk, rn]
    · rintro n p ρ st2 hp ⟨x2, a4, a5, a6, a7, a8, a9, a10, a11, a12, a13, a14, rfl⟩
      obtain ⟨found, hfound⟩ : ∃ found, found = ((h.machines.zipIdx 0).take n).foldl (addF lot s) [[]] := ⟨_, rfl⟩
      have fl : found.length ≤ 25 := by rw [hfound]; exact found_len _ (by rw [List.length_zipIdx]; exact hm2) lot hl s n
      have hmp : h.machines[p.2]? = some p.1 := List.mem_zipIdx_iff_getElem?.mp (List.mem_of_getElem? hp)
      rw [← hfound]
      refine asg_v ?_
      refine z_seq (fun ρ st1 => st1 = st2 ++ [.lst []] ∧ ρ = [some (yrW e h), some (loW e lot), some (nW s), some (.lst (found.map orW)), some (nW p.2), some (.ref st2.length), a6, a7, a8, a9, a10, a11, a12, a13, a14]) ?_ ?_
      · refine okk_nx ?_ ⟨rfl, rfl⟩
        simp only [RR, Nat.reduceAdd, Int.reduceEq, Int.reduceLE, Int.reduceLT, Int.reduceAdd, Int.reduceSub, Int.reduceMul, reduceIte]
      rintro ρ st4 ⟨rfl, rfl⟩
      refine z_seq (fun ρ st1 => st1 = st2 ++ [.lst ((extF lot s found p).map orW)] ∧ ∃ a6 a7 a8 a9 a10 a11 a12 a13 a14, ρ = [some (yrW e h), some (loW e lot), some (nW s), some (.lst (found.map orW)), some (nW p.2), some (.ref st2.length), a6, a7, a8, a9, a10, a11, a12, a13, a14]) ?_ ?_
      · refine (z_for found (st2 ++ [.lst []]) (fun n ρ st1 => st1 = st2 ++ [.lst ((extF lot s (found.take n) p).map orW)] ∧ ∃ a6 a7 a8 a9 a10 a11 a12 a13 a14, ρ = [some (yrW e h), some (loW e lot), some (nW s), some (.lst (found.map orW)), some (nW p.2), some (.ref st2.length), a6, a7, a8, a9, a10, a11, a12, a13, a14]) (enc := orW) (gd := []) ?_ (fun _ _ _ _ => run_chkG _) ⟨rfl, a6, a7, a8, a9, a10, a11, a12, a13, a14, rfl⟩ ?_).imp fun f st1 q => ?_
        · simp only [RR, Nat.reduceAdd, Int.reduceEq, Int.reduceLE, Int.reduceLT, Int.reduceAdd, Int.reduceSub, Int.reduceMul, reduceIte]
        · rintro i o ρ st5 ho5 ⟨rfl, a6, a7, a8, a9, a10, a11, a12, a13, a14, rfl⟩
          have hlt := (List.getElem?_eq_some_iff.mp ho5).1
          have xl := extF_len lot s p (found.take i)
          have xl2 : (found.take i).length * lot.length ≤ 25 * 4 := Nat.mul_le_mul (by rw [List.length_take]; omega) hl
          obtain ⟨acc, hacc⟩ : ∃ acc, acc = extF lot s (found.take i) p := ⟨_, rfl⟩
          have nx : extF lot s (found.take (i + 1)) p = acc ++ ext1 (lot.zipIdx 0) p.1 s p.2 o := by
            rw [List.take_add_one, ho5, hacc, extF_eq, extF_eq, List.flatMap_append]
            simp only [Option.toList_some, List.flatMap_cons, List.flatMap_nil, List.append_nil]
          rw [nx]
          rw [← hacc] at xl ⊢
          have okk : ∀ acc : List (List (Nat × Nat)), St.Okn (st2 ++ [.lst (acc.map orW)]) := fun acc => okL x2.ok (dts_or acc)
          have hol : o.length ≤ 2 := by
            have := found_olen (h.machines.zipIdx 0) lot s n o (by rw [← hfound]; exact List.mem_of_getElem? ho5)
            have h3 : ((h.machines.zipIdx 0).take n).length ≤ 2 := by rw [List.length_take, List.length_zipIdx]; omega
            omega
          obtain ⟨rk2, _⟩ := rng_up (c := (lot.length : Int)) rfl (by omega)
          have rn2 : rngL 0 ((lot.length : Int) - 0).toNat = (lot.zipIdx 0).map fun q => nW q.2 := by rw [show ((lot.length : Int) - 0).toNat = lot.length by omega, rngL_zip]
          refine asg_v ?_
          refine z_seq (fun ρ st1 => st1 = st2 ++ [.lst ((acc ++ ext1 (lot.zipIdx 0) p.1 s p.2 o).map orW)] ∧ ∃ a6 a7 a8 a9 a10 a11 a12 a13 a14, ρ = [some (yrW e h), some (loW e lot), some (nW s), some (.lst (found.map orW)), some (nW p.2), some (.ref st2.length), a6, a7, a8, a9, a10, a11, a12, a13, a14]) ?_ fun ρ st1 q => z_nil q
          refine (z_for (lot.zipIdx 0) (st2 ++ [.lst (acc.map orW)]) (fun n ρ st1 => st1 = st2 ++ [.lst ((acc ++ ext1 ((lot.zipIdx 0).take n) p.1 s p.2 o).map orW)] ∧ ∃ a7 a8 a9 a10 a11 a12 a13 a14, ρ = [some (yrW e h), some (loW e lot), some (nW s), some (.lst (found.map orW)), some (nW p.2), some (.ref st2.length), some (orW o), a7, a8, a9, a10, a11, a12, a13, a14]) (enc := fun q : Turn κ × Nat => nW q.2) (gd := []) ?_ (fun _ _ _ _ => run_chkG _) ⟨by rw [List.take_zero]; simp [ext1], a7, a8, a9, a10, a11, a12, a13, a14, rfl⟩ ?_).imp fun f st1 q => ?_
          · simp only [RR, Nat.reduceAdd, Int.reduceEq, Int.reduceLE, Int.reduceLT, Int.reduceAdd, Int.reduceSub, Int.reduceMul, reduceIte, loW, List.length_map, rk2, rn2]
          · rintro t q ρ st6 hq ⟨rfl, a7, a8, a9, a10, a11, a12, a13, a14, rfl⟩
            have hqt : lot[q.2]? = some q.1 := List.mem_zipIdx_iff_getElem?.mp (List.mem_of_getElem? hq)
            obtain ⟨ac2, hac2⟩ : ∃ ac2, ac2 = acc ++ ext1 ((lot.zipIdx 0).take t) p.1 s p.2 o := ⟨_, rfl⟩
            have al2 : ac2.length ≤ 104 := by
              rw [hac2, List.length_append]
              have h3 := ext1_len ((lot.zipIdx 0).take t) p.1 s p.2 o
              rw [List.length_take, List.length_zipIdx] at h3
              omega
            have nx2 : acc ++ ext1 ((lot.zipIdx 0).take (t + 1)) p.1 s p.2 o = ac2 ++ (if canB q.1 p.1 s && !decide (q.2 ∈ o.map (·.1)) then [o ++ [(q.2, p.2)]] else []) := by
              have z : ext1 (some q).toList p.1 s p.2 o = (if canB q.1 p.1 s && !decide (q.2 ∈ o.map (·.1)) then [o ++ [(q.2, p.2)]] else []) := by
                show ext1 [q] p.1 s p.2 o = _
                unfold ext1
                rw [List.filter_cons, List.filter_nil]
                split <;> rfl
              rw [List.take_add_one, hq, ext1_app, ← List.append_assoc, hac2, z]
            rw [nx2, ← hac2]
            refine asg_v ?_
            refine z_seq (fun ρ st1 => st1 = st2 ++ [.lst (ac2.map orW)] ∧ ρ = [some (yrW e h), some (loW e lot), some (nW s), some (.lst (found.map orW)), some (nW p.2), some (.ref st2.length), some (orW o), some (nW q.2), some (kW e q.1.kind), some (nW q.1.first), some (nW q.1.last), some (nW q.1.len), some (.bl q.1.hand), some (nW q.1.pts), a14]) ?_ ?_
            · have a1 : L2.atI (lot.map (tuW e)) (q.2 : Int) = some (tuW e q.1) := by rw [at_map, hqt]; rfl
              refine okk_nx ?_ ⟨rfl, rfl⟩
              simp only [RR, Nat.reduceAdd, Int.reduceEq, Int.reduceLE, Int.reduceLT, Int.reduceAdd, Int.reduceSub, Int.reduceMul, reduceIte, loW, nW, ixw_tup, a1, tuW]
            rintro ρ st7 ⟨rfl, rfl⟩
            have a2 : L2.atI (h.machines.map (kW e)) (p.2 : Int) = some (kW e p.1) := by rw [at_map, hmp]; rfl
            have q1 : cmpW .Eq (kW e q.1.kind) (kW e p.1) (st2 ++ [.lst (ac2.map orW)]) = some (decide (q.1.kind = p.1)) := by
              rw [cmp_eq_val _ (a := kW e q.1.kind) (b := kW e p.1) (d := 0) (dt_k E _) (dt_k E _) (by decide)]
              exact congrArg some (eqv_k E _ _)
            have q2 : (decide ((q.1.first : Int) ≤ (s : Int)) && decide ((s : Int) ≤ (q.1.last : Int) + 1 - (q.1.len : Int))) = (decide (q.1.first ≤ s) && decide (s + q.1.len ≤ q.1.last + 1)) := congr (congrArg and (decide_eq_decide.mpr (by omega))) (decide_eq_decide.mpr (by omega))
            refine z_seq (fun ρ st1 => st1 = st2 ++ [.lst ((ac2 ++ (if canB q.1 p.1 s && !decide (q.2 ∈ o.map (·.1)) then [o ++ [(q.2, p.2)]] else [])).map orW)] ∧ ∃ a7 a8 a9 a10 a11 a12 a13 a14, ρ = [some (yrW e h), some (loW e lot), some (nW s), some (.lst (found.map orW)), some (nW p.2), some (.ref st2.length), some (orW o), a7, a8, a9, a10, a11, a12, a13, a14]) ?_ fun ρ st1 q => z_nil q
            refine z_ifs (fun b st1 => st1 = st2 ++ [.lst (ac2.map orW)] ∧ b = canB q.1 p.1 s) ⟨_, _, ?_, rfl, rfl⟩ ?_ ?_
            · simp only [RR, Nat.reduceAdd, Int.reduceEq, Int.reduceLE, Int.reduceLT, Int.reduceAdd, Int.reduceSub, Int.reduceMul, reduceIte, yrW, yrL, ixw_tup, at_0, nW, a2, q1]
              unfold canB
              cases decide (q.1.kind = p.1)
              · simp only [RR, Nat.reduceAdd, Int.reduceEq, Int.reduceLE, Int.reduceLT, Int.reduceAdd, Int.reduceSub, Int.reduceMul, reduceIte]
              · simp only [RR, Nat.reduceAdd, Int.reduceEq, Int.reduceLE, Int.reduceLT, Int.reduceAdd, Int.reduceSub, Int.reduceMul, reduceIte, q2]
            · rintro st8 ⟨rfl, hc⟩
              rw [← hc, Bool.true_and]
              refine z_seq (fun ρ st1 => st1 = st2 ++ [.lst ((ac2 ++ (if !decide (q.2 ∈ o.map (·.1)) then [o ++ [(q.2, p.2)]] else [])).map orW)] ∧ ∃ a7 a8 a9 a10 a11 a12 a13 a14, ρ = [some (yrW e h), some (loW e lot), some (nW s), some (.lst (found.map orW)), some (nW p.2), some (.ref st2.length), some (orW o), a7, a8, a9, a10, a11, a12, a13, a14]) ?_ fun ρ st1 q => z_nil q
              have q3 : cmpW .NotIn (nW q.2) (.lst (o.map fun t => nW t.1)) (st2 ++ [.lst (ac2.map orW)]) = some (!decide (q.2 ∈ o.map (·.1))) := by
                have e1 : (o.map fun t => nW t.1) = (o.map (·.1)).map nW := by rw [List.map_map]; rfl
                rw [e1, cmp_nin_lst _ (d := 0) (dt_n _) (dts_map fun a _ => dt_n a) rfl rfl (by decide), inW_n]
              refine z_ifs (fun b st1 => st1 = st2 ++ [.lst (ac2.map orW)] ∧ b = !decide (q.2 ∈ o.map (·.1))) ⟨_, _, ?_, rfl, rfl⟩ ?_ ?_
              · simp only [RR, Nat.reduceAdd, Int.reduceEq, Int.reduceLE, Int.reduceLT, Int.reduceAdd, Int.reduceSub, Int.reduceMul, reduceIte, orW]
                rw [List.length_map, run_sz _ _ (by unfold SZ; omega), bnd_ok, run_bind, compL_map (enc := prW) (g := fun t => nW t.1) (run_chkG _) _ ?h2]
                case h2 =>
                  intro t _
                  simp only [RR, Nat.reduceAdd, Int.reduceEq, Int.reduceLE, Int.reduceLT, Int.reduceAdd, Int.reduceSub, Int.reduceMul, reduceIte, turnC, prW, ixw_tup, at_0]
                simp only [RR, Nat.reduceAdd, Int.reduceEq, Int.reduceLE, Int.reduceLT, Int.reduceAdd, Int.reduceSub, Int.reduceMul, reduceIte, q3]
              · rintro st9 ⟨rfl, hb⟩
                rw [← hb]
                refine z_seq (fun ρ st1 => st1 = st2 ++ [.lst ((ac2 ++ [o ++ [(q.2, p.2)]]).map orW)] ∧ ρ = [some (yrW e h), some (loW e lot), some (nW s), some (.lst (found.map orW)), some (nW p.2), some (.ref st2.length), some (orW o), some (nW q.2), some (kW e q.1.kind), some (nW q.1.first), some (nW q.1.last), some (nW q.1.len), some (.bl q.1.hand), some (nW q.1.pts), a14]) ?_ fun ρ st1 ⟨e1, e2⟩ => z_nil ⟨by rw [if_pos rfl]; exact e1, _, _, _, _, _, _, _, _, e2⟩
                have ad := bin_add_tup (st2 ++ [.lst (ac2.map orW)]) (o.map prW) [.tup [nW q.2, nW p.2]] (by rw [List.length_map]; unfold SZ; simp only [List.length_cons, List.length_nil]; omega)
                have lt : (ac2.map orW).length < SZ := by rw [List.length_map]; unfold SZ; omega
                refine okk_nx ?_ ⟨rfl, rfl⟩
                simp only [RR, Nat.reduceAdd, Int.reduceEq, Int.reduceLE, Int.reduceLT, Int.reduceAdd, Int.reduceSub, Int.reduceMul, reduceIte, orW, ad]
                rw [if_pos lt, List.map_append, List.map_cons, List.map_nil]
                simp only [RR, Nat.reduceAdd, Int.reduceEq, Int.reduceLE, Int.reduceLT, Int.reduceAdd, Int.reduceSub, Int.reduceMul, reduceIte, orW, List.map_append, List.map_cons, List.map_nil, prW]
              · rintro st9 ⟨rfl, hb⟩
                rw [← hb]
                exact z_nil ⟨by simp, _, _, _, _, _, _, _, _, rfl⟩
            · rintro st8 ⟨rfl, hc⟩
              rw [← hc, Bool.false_and]
              exact z_nil ⟨by simp, _, _, _, _, _, _, _, _, rfl⟩
          · cases f with
            | nx ρ =>
              obtain ⟨x, a7, a8, a9, a10, a11, a12, a13, a14, q⟩ := q
              rw [List.take_length] at x
              exact ⟨x, _, a7, a8, a9, a10, a11, a12, a13, a14, q⟩
            | rt w => exact q.elim
        · cases f with
          | nx ρ => rw [List.take_length] at q; exact q
          | rt w => exact q.elim
      rintro ρ st5 ⟨rfl, a6, a7, a8, a9, a10, a11, a12, a13, a14, rfl⟩
      have xl := extF_len lot s p found
      have xl2 : found.length * lot.length ≤ 25 * 4 := Nat.mul_le_mul fl hl
      rw [found_step _ lot s n p hp, ← hfound]
      refine z_seq (fun ρ st1 => Ext st st1 ∧ ∃ a4 a5 a6 a7 a8 a9 a10 a11 a12 a13 a14, ρ = [some (yrW e h), some (loW e lot), some (nW s), some (.lst ((addF lot s found p).map orW)), a4, a5, a6, a7, a8, a9, a10, a11, a12, a13, a14]) ?_ fun ρ st1 q => z_nil q
      refine okk_nx ?_ ⟨x2.app (dts_or (extF lot s found p)), some (nW p.2), some (.ref st2.length), a6, a7, a8, a9, a10, a11, a12, a13, a14, rfl⟩
      have ad := add_lst_ref (found.map orW) (lst_A st2 ((extF lot s found p).map orW)) (by rw [List.length_map, List.length_map]; unfold SZ; omega)
      unfold addF
      simp only [RR, Nat.reduceAdd, Int.reduceEq, Int.reduceLE, Int.reduceLT, Int.reduceAdd, Int.reduceSub, Int.reduceMul, reduceIte, ad, List.map_append]
    · cases f with
      | nx ρ =>
        obtain ⟨x, q⟩ := q
        rw [List.take_length] at q
        exact ⟨x, q⟩
      | rt w => exact q.elim
  rintro ρ st1 ⟨x1, a4, a5, a6, a7, a8, a9, a10, a11, a12, a13, a14, rfl⟩
  refine z_ret (okk_rt (w := .lst ((sordF h.machines lot s).map orW)) (st1 := st1) ?_ ⟨x1, rfl⟩)
  simp only [RR, Nat.reduceAdd, Int.reduceEq, Int.reduceLE, Int.reduceLT, Int.reduceAdd, Int.reduceSub, Int.reduceMul, reduceIte, bi_sorted_l (srt_or (ordsF h.machines lot s)) (seq_lst st1 _)]
  rfl
end

end Pf.Law

/-! part S23 -/
set_option Elab.async false
set_option linter.all false
set_option maxRecDepth 100000
set_option autoImplicit false
set_option maxHeartbeats 4000000
namespace Pf.Law
open PySem L2 Pf
section
variable {κ : Type} [DecidableEq κ] {e : κ → Str}
theorem ords_bd (ms : List κ) (lot : List (Turn κ)) (s : Nat) : ∀ o ∈ ordsF ms lot s, ∀ p ∈ o, p.1 < lot.length ∧ p.2 < ms.length := by
  have go : ∀ (l : List (κ × Nat)) (found : List (List (Nat × Nat))), (∀ q ∈ l, q.2 < ms.length) → (∀ o ∈ found, ∀ p ∈ o, p.1 < lot.length ∧ p.2 < ms.length) → ∀ o ∈ l.foldl (addF lot s) found, ∀ p ∈ o, p.1 < lot.length ∧ p.2 < ms.length := fun l => by
    induction l with
    | nil => intro found _ h; exact h
    | cons q l ih =>
      intro found h1 h2
      rw [List.foldl_cons]
      refine ih _ (fun r hr => h1 r (List.mem_cons_of_mem _ hr)) fun o ho => ?_
      unfold addF at ho
      rcases List.mem_append.mp ho with z | z
      · exact h2 o z
      · obtain ⟨o0, h0, t, u, hu, _, _, rfl⟩ := extF_in z
        intro p hp
        rcases List.mem_append.mp hp with y | y
        · exact h2 o0 h0 p y
        · rw [List.mem_singleton.mp y]
          exact ⟨(List.getElem?_eq_some_iff.mp hu).1, h1 q List.mem_cons_self⟩
  refine go _ _ (fun q hq => ?_) (fun o ho p hp => by rw [List.mem_singleton.mp ho] at hp; cases hp)
  have := List.mem_zipIdx_iff_getElem?.mp hq
  exact (List.getElem?_eq_some_iff.mp this).1
theorem ords_len (ms : List κ) (lot : List (Turn κ)) (s : Nat) : ∀ o ∈ ordsF ms lot s, o.length ≤ ms.length := fun o ho => by
  have := found_olen (ms.zipIdx 0) lot s (ms.zipIdx 0).length o (by rw [List.take_length]; exact ho)
  rw [List.take_length, List.length_zipIdx] at this
  exact this
theorem sh_sord (ms : List κ) (hm : ms.length ≤ 2) (lot : List (Turn κ)) (hl : lot.length ≤ 4) (s : Nat) : Sh 8000 (.tup ((sordF ms lot s).map orW)) := (sh_tup (n := 300) (m := 25) (fun w hw => by
  obtain ⟨o, ho, rfl⟩ := List.mem_map.mp hw
  have ho := List.mem_mergeSort.mp ho
  exact sh_or (fun p hp => by have := ords_bd ms lot s o ho p hp; omega) (by have := ords_len ms lot s o ho; omega)) (by
  unfold sordF
  rw [List.length_map, List.length_mergeSort]
  exact ordsF_len ms hm lot hl s)).mono (by decide)
theorem orders_h (j : Nat) (E : Names e) (h : Hl κ) (hm2 : h.machines.length ≤ 2) (lot : List (Turn κ)) (L : LotOk h.slots lot) (s : Nat) (hs : s < h.slots) (st : St) (ho : st.Okn) :
    runF (cf (j + 7)) fd_f_orders [hlW e h, loW e lot, nW s] st = .ok (.tup ((sordF h.machines lot s).map orW)) st := by
  refine runF_pure ho.ok ⟨rfl, by decide⟩ rfl (st' := st) ?_ (take_self st) ((dt_tup (dts_or _)).l _)
  (show execs _ b_f_orders _ _ = _; unfold b_f_orders; try simp only [fd_f_orders, List.map_cons, List.map_nil, List.reduceReplicate, Nat.reduceSub, List.cons_append, List.nil_append])
  have r1 := check_number_i (j + 4) (s : Int) 0 ((h.slots : Int) - 1) (by omega) (by omega) (by omega) st ho
  have r2 := orders_in_h (j + 5) E h hm2 lot L.n s st ho
  unfold nW at r2
  simp only [RR, Nat.reduceAdd, Int.reduceEq, Int.reduceLE, Int.reduceLT, Int.reduceAdd, Int.reduceSub, Int.reduceMul, reduceIte, check_hall_h _ h st ho, check_lot_h j E h lot L st ho, (getF_hl (e := e) (j + 7) h st).2.1, nW, r1, r2]
end
/-- the law, by what each of its turns is -/
theorem law_by (hr : ∀ (j : Nat) (st : St) (i : Nat), st.Okn → Draws st i → Okk (runF (cf (j + 9)) fd_f_law_right [.ref i] st) fun w st' => w = .bl true ∧ Next st i st') (j : Nat) (ns : List Int) (hl : ns.length ≤ 63) : runF (cf (j + 10)) fd_f_law [.lst (ns.map W.int)] [] = .ok (.bl true) [] := by
  obtain ⟨c, hc, c1, c2⟩ : ∃ c : Int, (if (if (3 : Int) < (ns.length : Int) then 3 else (ns.length : Int)) > 2 then (if (3 : Int) < (ns.length : Int) then 3 else (ns.length : Int)) else 2) = c ∧ 0 ≤ c ∧ c ≤ 3 := ⟨_, rfl, by split <;> omega, by split <;> (try split) <;> omega⟩
  have rk : rngOk 0 c = true := rngOk_n (by omega) (by omega) (by omega) (by omega)
  have rn : rngL 0 (c - 0).toNat = (List.range c.toNat).map nW := by rw [Int.sub_zero, rngL_nat]
  obtain ⟨st', e, _⟩ := compL_st (enc := nW) (g := fun a : Nat => W.bl ((fun _ => true) a)) (I := St.Okn) (f := fun x => M.nox (turnC (cf (j + 10)) (.call "_law_right" (.cons (.call "_law_purse" (.cons (.var 0) (.cons (.var 1) .nil)) [] .nil) .nil) [] .nil) (.var 1) .nil [some (.lst (ns.map W.int)), none] x)) (List.range c.toNat) [] okn_nil (fun a ha st ho => by
    have hlt := List.mem_range.mp ha
    obtain ⟨A, S, e1, hA, hS, hS2⟩ := law_purse_s (j + 9) st ns a (by omega) (by omega) ho
    have ho2 : St.Okn (st ++ [.lst [.int A, .int S, .int 0]]) := okn_app ho rfl rfl
    have D : Draws (st ++ [.lst [.int A, .int S, .int 0]]) st.length := ⟨A, S, 0, app_get _ _, hA, hS, hS2, Int.le_refl 0⟩
    obtain ⟨w, st3, e2, rfl, nx⟩ := hr j _ _ ho2 D
    refine ⟨st3, ?_, nx.ok⟩
    simp only [RR, Nat.reduceAdd, Int.reduceEq, Int.reduceLE, Int.reduceLT, Int.reduceAdd, Int.reduceSub, Int.reduceMul, reduceIte, turnC, e1, e2])
  refine runF_pure (st := []) (st' := st') okn_nil.ok ⟨rfl, by decide⟩ rfl ?_ (List.take_zero) (by rw [W.low])
  (show execs _ b_f_law _ _ = _; unfold b_f_law; try simp only [fd_f_law, List.map_cons, List.map_nil, List.reduceReplicate, Nat.reduceSub, List.cons_append, List.nil_append])
  simp only [RR, Nat.reduceAdd, Int.reduceEq, Int.reduceLE, Int.reduceLT, Int.reduceAdd, Int.reduceSub, Int.reduceMul, reduceIte, List.length_map, hc, rk, rn]
  rw [List.length_range, run_sz _ _ (by unfold SZ; omega), bnd_ok, run_bind, e]
  simp only [RR, Nat.reduceAdd, Int.reduceEq, Int.reduceLE, Int.reduceLT, Int.reduceAdd, Int.reduceSub, Int.reduceMul, reduceIte]
  simp

end Pf.Law

/-! part SKk09 -/
set_option Elab.async false
set_option linter.all false
set_option maxRecDepth 100000
set_option autoImplicit false
set_option maxHeartbeats 4000000
namespace Pf.Law
open PySem L2 Pf
def lot21 (slots : Nat) (k : Nm) : List (Turn Nm) := (List.range 4).map fun (a : Nat) => ⟨k, 0, slots - 1, 1, decide ((1 : Int) < (a : Int)), 1 + a⟩
theorem lot21_ix (slots s : Nat) (h : s < slots) (k : Nm) : idxF (lot21 slots k) k s = [0, 1, 2, 3] := by
  have c : ∀ a : Nat, canB (⟨k, 0, slots - 1, 1, decide ((1 : Int) < (a : Int)), 1 + a⟩ : Turn Nm) k s = true := fun a => by
    unfold canB
    rw [decide_eq_true rfl, decide_eq_true (Nat.zero_le _), decide_eq_true (by show s + 1 ≤ slots - 1 + 1; omega)]; rfl
  show (([((⟨k, 0, slots - 1, 1, decide ((1 : Int) < ((0 : Nat) : Int)), 1 + 0⟩ : Turn Nm), 0), (⟨k, 0, slots - 1, 1, decide ((1 : Int) < ((1 : Nat) : Int)), 1 + 1⟩, 1), (⟨k, 0, slots - 1, 1, decide ((1 : Int) < ((2 : Nat) : Int)), 1 + 2⟩, 2), (⟨k, 0, slots - 1, 1, decide ((1 : Int) < ((3 : Nat) : Int)), 1 + 3⟩, 3)].filter fun p => canB p.1 k s).map (·.2)) = _
  simp only [List.filter_cons, c, if_true, List.filter_nil, List.map_cons, List.map_nil]
theorem law_right_s (j : Nat) (st : St) (i : Nat) (ho : st.Okn) (D : Draws st i) : Okk (runF (cf (j + 9)) fd_f_law_right [.ref i] st) fun w st' => w = .bl true ∧ Next st i st' := by
  refine runF_okk (ρ := [some (.ref i), none, none, none, none, none, none, none, none, none, none]) ⟨rfl, by decide⟩ rfl ?_
  (show Okk (execs _ b_f_law_right _ _) _; unfold b_f_law_right)
  refine z_seq (fun ρ st1 => Next st i st1 ∧ ∃ (a1 a3 a4 a5 a6 : Option W) (h : Hl Nm), HlOk eN h ∧ ρ = [some (.ref i), a1, some (yrW eN h), a3, a4, a5, a6, none, none, none, none]) ?_ ?_
  · refine (z_for (List.range 6) st (fun n ρ st1 => Next st i st1 ∧ ∃ (a1 a2 a3 a4 a5 a6 : Option W), (1 ≤ n → ∃ h : Hl Nm, HlOk eN h ∧ a2 = some (yrW eN h)) ∧ ρ = [some (.ref i), a1, a2, a3, a4, a5, a6, none, none, none, none]) (enc := nW) (gd := []) ?_ (fun _ _ _ _ => run_chkG _) ⟨Next.refl ho D, none, none, none, none, none, none, (fun h => absurd h (by decide)), rfl⟩ ?_).imp fun f st1 q => ?_
    · obtain ⟨rk, rn⟩ := rng_up (c := 6) (r := 6) rfl (by decide)
      have rn : rngL 0 (Int.toNat 6) = (List.range 6).map nW := rn
      simp only [RR, Nat.reduceAdd, Int.reduceEq, Int.reduceLE, Int.reduceLT, Int.reduceAdd, Int.reduceSub, Int.reduceMul, reduceIte, rk, rn]
    · rintro n a ρ st1 _ ⟨nx1, a1, a2, a3, a4, a5, a6, _, rfl⟩
      refine asg_v ?_
      refine z_seq (fun ρ st1 => Next st i st1 ∧ ∃ h : Hl Nm, HlOk eN h ∧ h.clean.length ≤ 2 ∧ ρ = [some (.ref i), some (nW a), some (yrW eN h), a3, a4, a5, a6, none, none, none, none]) ?_ ?_
      · obtain ⟨w, st2, e2, nx2, h, rfl, V, _, hc⟩ := law_yard_s (j + 5) st1 i 5 nx1.ok nx1.d (by decide) (by decide)
        have e2 : runF (cf (j + 8)) fd_f_law_yard [.ref i, .int 5] st1 = .ok (yrW eN h) st2 := e2
        refine okk_nx ?_ ⟨nx1.trans nx2, h, V, hc, rfl⟩
        simp only [RR, Nat.reduceAdd, Int.reduceEq, Int.reduceLE, Int.reduceLT, Int.reduceAdd, Int.reduceSub, Int.reduceMul, reduceIte, e2]
      rintro ρ st2 ⟨nx2, h, V, hc, rfl⟩
      have hs1 := V.s1; have hs2 := V.s2; have hm2 := V.m2
      refine z_seq (fun ρ st1 => Next st i st1 ∧ ∃ lot : List (Turn Nm), LotOk h.slots lot ∧ ρ = [some (.ref i), some (nW a), some (yrW eN h), some (hlW eN h), some (loW eN lot), a5, a6, none, none, none, none]) ?_ ?_
      · have e3 := law_hall_s (j + 1) eN_ok h V st2 nx2.ok
        obtain ⟨w, st3, e4, nx3, lot, rfl, L, _⟩ := law_lot_s (j + 5) st2 i 4 h V nx2.ok nx2.d (by decide)
        have e4 : runF (cf (j + 8)) fd_f_law_lot [.ref i, yrW eN h, .int 4] st2 = .ok (loW eN lot) st3 := e4
        refine okk_nx ?_ ⟨nx2.trans nx3, lot, L, rfl⟩
        simp only [RR, Nat.reduceAdd, Int.reduceEq, Int.reduceLE, Int.reduceLT, Int.reduceAdd, Int.reduceSub, Int.reduceMul, reduceIte, e3, e4]
      rintro ρ st3 ⟨nx3, lot, L, rfl⟩
      refine z_seq (fun ρ st1 => Next st i st1 ∧ ∃ (a1 a2 a3 a4 a5 a6 : Option W), (1 ≤ n + 1 → ∃ h : Hl Nm, HlOk eN h ∧ a2 = some (yrW eN h)) ∧ ρ = [some (.ref i), a1, a2, a3, a4, a5, a6, none, none, none, none]) ?_ fun ρ st1 q => z_nil q
      obtain ⟨rk, rn⟩ := rng_up (c := (h.slots : Int)) (r := h.slots) rfl (by omega)
      refine (z_for (List.range h.slots) st3 (fun n ρ st1 => st1 = st3 ∧ ∃ (a5 a6 : Option W), ρ = [some (.ref i), some (nW a), some (yrW eN h), some (hlW eN h), some (loW eN lot), a5, a6, none, none, none, none]) (enc := nW) (gd := []) ?_ (fun _ _ _ _ => run_chkG _) ⟨rfl, a5, a6, rfl⟩ ?_).imp fun f st1 q => ?_
      · simp only [RR, Nat.reduceAdd, Int.reduceEq, Int.reduceLE, Int.reduceLT, Int.reduceAdd, Int.reduceSub, Int.reduceMul, reduceIte, yrW, yrL, ixw_tup, at_1, nW, rk, rn]
      · rintro m s ρ st4 hs ⟨rfl, a5, a6, rfl⟩
        have hlt : s < h.slots := List.mem_range.mp (List.mem_of_getElem? hs)
        have e5 := law_all_orders_s (j + 8) eN_ok h hm2 lot L.n s st4 nx3.ok
        have e6 := orders_h (j + 1) eN_ok h hm2 lot L s hlt st4 nx3.ok
        have sh := (sh_lst (n := 8000) (m := 2) (ws := [.tup ((sordF h.machines lot s).map orW), .tup ((sordF h.machines lot s).map orW)]) (fun w hw => by
          simp only [List.mem_cons, List.not_mem_nil, or_false, or_self] at hw
          rw [hw]; exact sh_sord h.machines hm2 lot L.n s) (by simp))
        have dp : (W.lst [.tup ((sordF h.machines lot s).map orW), .tup ((sordF h.machines lot s).map orW)]).dep ≤ 60 := by
          have d1 := (dts_cons (dt_tup (dts_or (sordF h.machines lot s))) (dts_cons (dt_tup (dts_or (sordF h.machines lot s))) dts_nil)).dep
          rw [W.dep]
          omega
        have e7 := law_same_s (j + 8) (.lst [.tup ((sordF h.machines lot s).map orW), .tup ((sordF h.machines lot s).map orW)]) (.lst [.tup ((sordF h.machines lot s).map orW), .tup ((sordF h.machines lot s).map orW)]) _ st4 nx3.ok rfl rfl (shwOk_of sh.k dp (Nat.le_trans sh.b (by decide)))
        refine asg_v ?_
        refine z_seq (fun ρ st1 => st1 = st4 ∧ ∃ (a5 : Option W), ρ = [some (.ref i), some (nW a), some (yrW eN h), some (hlW eN h), some (loW eN lot), some (nW s), some (.tup ((sordF h.machines lot s).map orW)), none, none, none, none]) ?_ ?_
        · refine okk_nx ?_ ⟨rfl, none, rfl⟩
          simp only [RR, Nat.reduceAdd, Int.reduceEq, Int.reduceLE, Int.reduceLT, Int.reduceAdd, Int.reduceSub, Int.reduceMul, reduceIte, e5]
        rintro ρ st5 ⟨rfl, _, rfl⟩
        refine z_seq (fun ρ st1 => st1 = st5 ∧ ∃ (a5 a6 : Option W), ρ = [some (.ref i), some (nW a), some (yrW eN h), some (hlW eN h), some (loW eN lot), a5, a6, none, none, none, none]) ?_ fun ρ st1 q => z_nil q
        refine z_ifs (fun b st1 => b = false ∧ st1 = st5) ⟨_, _, ?_, rfl, rfl⟩ (fun st1 q => absurd q.1 (by decide)) ?_
        · have b1 : bndW (fun wv wz => sel [2, 1, 0] (wv ++ (wz ++ []))) (runF (cf (j + 8)) fd_f_orders) [] [nW s, loW eN lot, hlW eN h] st5 = .ok (.tup ((sordF h.machines lot s).map orW)) st5 := e6
          have b2 : bndW (fun wv wz => sel [0, 1, 2] (wv ++ (wz ++ []))) (runF (cf (j + 8)) fd_f_orders) [hlW eN h, loW eN lot, nW s] [] st5 = .ok (.tup ((sordF h.machines lot s).map orW)) st5 := e6
          simp only [List.append_nil] at b1 b2
          simp only [RR, Nat.reduceAdd, Int.reduceEq, Int.reduceLE, Int.reduceLT, Int.reduceAdd, Int.reduceSub, Int.reduceMul, reduceIte, b1, b2, e7]
        · rintro st6 ⟨_, rfl⟩
          exact z_nil ⟨rfl, _, _, rfl⟩
      · cases f with
        | nx ρ =>
          obtain ⟨rfl, a5, a6, e⟩ := q
          exact ⟨nx3, _, _, _, _, a5, a6, fun _ => ⟨h, V, rfl⟩, e⟩
        | rt w => exact q.elim
    · cases f with
      | nx ρ =>
        obtain ⟨nx, a1, a2, a3, a4, a5, a6, hq, e⟩ := q
        obtain ⟨h, V, rfl⟩ := hq (by decide)
        exact ⟨nx, a1, a3, a4, a5, a6, h, V, e⟩
      | rt w => exact q.elim
  rintro ρ st1 ⟨nx1, a1, a3, a4, a5, a6, h, V, rfl⟩
  have hs1 := V.s1; have hs2 := V.s2; have hm1 := V.m1
  obtain ⟨k, rest, hk⟩ : ∃ k rest, h.machines = k :: rest := by
    cases q : h.machines with
    | nil => rw [q] at hm1; exact absurd hm1 (by decide)
    | cons k r => exact ⟨k, r, rfl⟩
  refine z_seq (fun ρ st2 => st2 = st1 ∧ ρ = [some (.ref i), a1, some (yrW eN h), a3, a4, a5, a6, some (kW eN k), some (nW h.slots), none, none]) ?_ ?_
  · refine okk_nx ?_ ⟨rfl, rfl⟩
    simp only [RR, Nat.reduceAdd, Int.reduceEq, Int.reduceLE, Int.reduceLT, Int.reduceAdd, Int.reduceSub, Int.reduceMul, reduceIte, yrW, yrL, hk, List.map_cons, ixw_tup, at_0, at_1]
  rintro ρ st2 ⟨rfl, rfl⟩
  obtain ⟨h2, hh2⟩ : ∃ h2 : Hl Nm, h2 = ⟨[k, k], h.slots, List.replicate h.slots 0, [], 0, 1, 0⟩ := ⟨_, rfl⟩
  have V2 : HlOk eN h2 := by
    subst hh2
    exact ⟨by simp, by simp, hs1, hs2, List.length_replicate, fun x hx => by rw [(List.mem_replicate.mp hx).2]; decide, (fun _ h => nomatch h), (fun _ _ _ h => by simp at h), by simp, by simp, by simp, by simp⟩
  refine z_seq (fun ρ st3 => st3 = st2 ∧ ρ = [some (.ref i), a1, some (yrW eN h), some (hlW eN h2), a4, a5, a6, some (kW eN k), some (nW h.slots), none, none]) ?_ ?_
  · have m1 : binW .Mult (.tup [.int 0]) (.int (h.slots : Int)) st2 = some (nsW (List.replicate h.slots 0)) := by
      show (if 1 ≤ (h.slots : Int) ∧ (h.slots : Int) ≤ 1000 ∧ 1 ≤ 1000 ∧ [W.int 0] ≠ [] then some (W.tup (List.replicate (h.slots : Int).toNat [W.int 0]).flatten) else none) = _
      rw [if_pos ⟨by omega, by omega, by decide, by simp⟩, Int.toNat_natCast]
      have : ∀ n, (List.replicate n [W.int 0]).flatten = (List.replicate n 0).map nW := fun n => by
        induction n with
        | zero => rfl
        | succ n ih => rw [List.replicate_succ, List.flatten_cons, ih, List.replicate_succ, List.map_cons]; rfl
      rw [this]; rfl
    have e3 := law_hall_s (j + 1) eN_ok h2 V2 st2 nx1.ok
    have y2 : yrW eN h2 = .tup [.tup [kW eN k, kW eN k], .int (h.slots : Int), nsW (List.replicate h.slots 0), .tup [], .int 0, .int 1, .int 0] := by rw [hh2]; rfl
    rw [y2] at e3
    refine okk_nx ?_ ⟨rfl, rfl⟩
    simp only [RR, Nat.reduceAdd, Int.reduceEq, Int.reduceLE, Int.reduceLT, Int.reduceAdd, Int.reduceSub, Int.reduceMul, reduceIte, nW, m1, e3]
  rintro ρ st3 ⟨rfl, rfl⟩
  obtain ⟨lot, hlot⟩ : ∃ lot, lot = lot21 h.slots k := ⟨_, rfl⟩
  refine z_seq (fun ρ st4 => st4 = st3 ∧ ρ = [some (.ref i), a1, some (yrW eN h), some (hlW eN h2), some (loW eN lot), a5, a6, some (kW eN k), some (nW h.slots), none, none]) ?_ ?_
  · refine okk_nx ?_ ⟨rfl, rfl⟩
    obtain ⟨rk, rn⟩ := rng_up (c := 4) (r := 4) rfl (by decide)
    have rn : rngL 0 (Int.toNat 4) = (List.range 4).map nW := rn
    have c1 : (h.slots : Int) - 1 = ((h.slots - 1 : Nat) : Int) := by omega
    simp only [RR, Nat.reduceAdd, Int.reduceEq, Int.reduceLE, Int.reduceLT, Int.reduceAdd, Int.reduceSub, Int.reduceMul, reduceIte, rk, rn]
    rw [List.length_map, List.length_range, run_sz _ _ (by decide), bnd_ok, run_bind, compL_map (enc := nW) (g := fun (a : Nat) => tuW eN ⟨k, 0, h.slots - 1, 1, decide ((1 : Int) < (a : Int)), 1 + a⟩) (run_chkG _) _ ?hc]
    case hc =>
      intro a _
      have ca : (1 + (a : Int)) = ((1 + a : Nat) : Int) := by omega
      simp only [RR, Nat.reduceAdd, Int.reduceEq, Int.reduceLE, Int.reduceLT, Int.reduceAdd, Int.reduceSub, Int.reduceMul, reduceIte, turnC, nW, c1, tuW, ca]
    simp only [RR, Nat.reduceAdd, Int.reduceEq, Int.reduceLE, Int.reduceLT, Int.reduceAdd, Int.reduceSub, Int.reduceMul, reduceIte]
    have : (List.range 4).map (fun (a : Nat) => tuW eN ⟨k, 0, h.slots - 1, 1, decide ((1 : Int) < (a : Int)), 1 + a⟩) = lot.map (tuW eN) := by rw [hlot]; unfold lot21; rw [List.map_map]; rfl
    rw [this]; rfl
  rintro ρ st4 ⟨rfl, rfl⟩
  have L : LotOk h2.slots lot := by
    rw [hlot, hh2]
    refine ⟨by unfold lot21; simp, fun t ht => ?_⟩
    unfold lot21 at ht
    obtain ⟨a, ha, rfl⟩ := List.mem_map.mp ht
    have := List.mem_range.mp ha
    exact ⟨Nat.zero_le _, by show h.slots - 1 < h.slots; omega, by show 1 ≤ 1; omega, by show 1 ≤ 3; omega, by show 1 ≤ 1 + a; omega, by show 1 + a ≤ 9; omega⟩
  obtain ⟨s, st5, e5, hs, nx5⟩ := law_take_s (j + 8) st4 i h.slots nx1.ok nx1.d hs1 (by omega)
  have e5 : runF (cf (j + 8)) fd_f_law_take [.ref i, .int (h.slots : Int)] st4 = .ok (nW s) st5 := e5
  have sl2 : h2.slots = h.slots := by rw [hh2]
  have hm : h2.machines = [k, k] := by rw [hh2]
  obtain ⟨O, hO⟩ : ∃ O, O = sordF h2.machines lot s := ⟨_, rfl⟩
  refine z_seq (fun ρ st6 => st6 = st5 ∧ ρ = [some (.ref i), a1, some (yrW eN h), some (hlW eN h2), some (loW eN lot), a5, a6, some (kW eN k), some (nW h.slots), some (.tup (O.map orW)), none]) ?_ ?_
  · have e6 := orders_h (j + 1) eN_ok h2 V2.m2 lot L s (by rw [sl2]; exact hs) st5 nx5.ok
    have b2 : bndW (fun wv wz => sel [0, 1, 2] (wv ++ (wz ++ []))) (runF (cf (j + 8)) fd_f_orders) [hlW eN h2, loW eN lot, nW s] [] st5 = .ok (.tup (O.map orW)) st5 := by rw [hO]; exact e6
    simp only [List.append_nil] at b2
    refine okk_nx ?_ ⟨rfl, rfl⟩
    have e5' := e5
    unfold nW at e5'
    simp only [RR, Nat.reduceAdd, Int.reduceEq, Int.reduceLE, Int.reduceLT, Int.reduceAdd, Int.reduceSub, Int.reduceMul, reduceIte, show nW h.slots = .int (h.slots : Int) from rfl, e5, b2]
  rintro ρ st6 ⟨rfl, rfl⟩
  have nx := nx1.trans nx5
  refine z_ret (okk_rt (w := .bl true) (st1 := st6) ?_ ⟨nx.len, nx.ok, by rw [W.low], rfl, nx⟩)
  have O1 : O.length = 21 := by
    rw [hO]
    unfold sordF
    rw [List.length_mergeSort, hm, ords_two k lot s (ix := [0, 1, 2, 3]) (by rw [hlot]; exact lot21_ix h.slots s hs k)]
    rfl
  have O2 : L2.atI (O.map orW) 0 = some (.tup []) := by
    have q : O[0]? = some [] := by rw [hO]; exact sord_head (nil_ords _ _ _)
    have := at_map orW O 0
    rw [q] at this
    exact this
  have O3 : srtW (O.map orW) = some (O.map orW) := by rw [srt_or, hO]; unfold sordF; rw [sord_again]
  have c1 : cmpW .Eq (.tup (O.map orW)) (.tup (O.map orW)) st6 = some true := cmp_self (d := 3) (dt_tup (dts_or _)) (by decide) rfl
  have c2 : cmpW .Eq (.tup []) (.tup []) st6 = some true := cmp_self (d := 1) (dt_tup dts_nil) (by decide) rfl
  have c3 : cmpW .Eq (.tup [.tup []]) (.tup [.tup []]) st6 = some true := cmp_self (d := 2) (dt_tup (dts_cons (dt_tup dts_nil) dts_nil)) (by decide) rfl
  have e8 := orders_h (j + 1) eN_ok h2 V2.m2 ([] : List (Turn Nm)) ⟨Nat.zero_le _, fun _ h => nomatch h⟩ 0 (by rw [sl2]; omega) st6 nx5.ok
  have e9 : sordF h2.machines ([] : List (Turn Nm)) 0 = [[]] := by rw [hm]; unfold sordF; rw [ords_none, List.mergeSort_singleton]
  rw [e9] at e8
  have b3 : bndW (fun wv wz => sel [0, 1, 2] (wv ++ (wz ++ []))) (runF (cf (j + 8)) fd_f_orders) [hlW eN h2, .tup [], .int 0] [] st6 = .ok (.tup [.tup []]) st6 := e8
  simp only [List.append_nil] at b3
  have cl : ((21 : Nat) : Int) = 21 := rfl
  have sq : biW .sorted [.tup (O.map orW)] st6 = some (.lst (O.map orW)) := bi_sorted_l O3 (seq_tup st6 _)
  simp only [RR, Nat.reduceAdd, Int.reduceEq, Int.reduceLE, Int.reduceLT, Int.reduceAdd, Int.reduceSub, Int.reduceMul, reduceIte, List.length_map, O1, cl, ixw_tup, O2, c2, sq, c1, b3, c3]
theorem law_s (j : Nat) (ns : List Int) (hl : ns.length ≤ 63) : runF (cf (j + 10)) fd_f_law [.lst (ns.map W.int)] [] = .ok (.bl true) [] := law_by law_right_s j ns hl

end Pf.Law

/-! part K09b -/
set_option Elab.async false
set_option linter.all false
set_option maxRecDepth 100000
set_option autoImplicit false
set_option maxHeartbeats 0
namespace Pf.Law
open PySem PySem.Spec PyProof.Rows L2 Pf
abbrev rw_ : PySem.W.OpenLaw := PySem.Challenge.rw_turnsmade_k09_whole_orders
abbrev R : PySem.W.OpenRow := PySem.W.OpenLaw.row rw_
abbrev hk : PySem.W.Hook := hookP 6 L.fa L.fn L.cs L.xs
def ob (s : PySem.W.SharedT) : AlP := obsPG 6 L.fa L.fn L.cs L.xs (HandSHeadRun.getT s)
theorem ob_eq (s : PySem.W.SharedT) : ob s = hk.obs s.abs := obsPG_eq (HandSHeadRun.getT_eq s)
def names : List Str := (["TurnError", "InvalidNumber", "InvalidPart", "NotAHall", "InvalidMachines", "InvalidHands", "InvalidClean", "InvalidLot", "LETTERS", "is_number", "is_between", "is_text", "is_truth", "is_name", "is_named", "is_tuple_of", "is_pair", "is_tuple_up_to", "are_rising", "are_indexes", "fault_of", "MOST_MACHINES", "MOST_SLOTS", "MOST_HANDS", "MOST_CLEAN", "MOST_BREAKS", "MOST_REPAIR", "MOST_ILLS", "check_within", "clean_fault"] : List Str) ++ (["Hall", "parts_of", "hall_by", "MOST_LENGTH", "MOST_POINTS", "MOST_TURNS", "is_turn_in", "lot_fault", "can_begin", "orders_in", "check_hall", "check_lot", "check_number", "orders", "_law_purse", "_law_take", "_law_pick", "_law_same", "_law_name", "_law_yard", "_law_hall", "_law_lot", "_law_first", "_law_all_moves", "_law_all_orders", "_law_next", "_law_right"] : List Str)
theorem run (w : World) : HandSHeadRun.RunEq R (PySem.W.view R.prog [64]) hk ob 20000 names w := by
  intro os
  kernel_rfl
theorem holds_of (res : ∀ ns : List Int, ns.length ≤ 63 → (∀ z ∈ ns, Builtin.Int.intBits z ≤ 1048576) → ∃ st, runF (L.tab.cf 40) L.law.fd [.lst (ns.map W.int)] [] = .ok (.bl true) st) : PySem.Challenge.rw_turnsmade_k09_whole_orders.Holds := by
  w_on; o_law
  refine HandSHeadRun.head_any (r := PySem.W.OpenLaw.row PySem.Challenge.rw_turnsmade_k09_whole_orders) (q := PySem.W.view (PySem.W.OpenLaw.row PySem.Challenge.rw_turnsmade_k09_whole_orders).prog [64]) (H := hk) (ob := ob) (M := 20000) (loose := names) (d := HandSHeadRun.topDef (PySem.W.OpenLaw.row PySem.Challenge.rw_turnsmade_k09_whole_orders).prog 64) (kwd := []) ob_eq
    (by kernel_rfl) (fun s => by kernel_rfl) run (by kernel_rfl) (by kernel_rfl) (by kernel_rfl) (by rfl) (by first | assumption | decide +kernel) (by decide +kernel) ⟨rfl, rfl, rfl, rfl, rfl, by decide +kernel⟩ ?hw ?hc
  case hw => w_witness2
  case hc =>
    refine walkW (l := PySem.Challenge.rw_turnsmade_k09_whole_orders) (n := 63) (k := 41) (x := "cells") rfl (by decide) (by kernel_rfl) ⟨rfl, by decide, by decide⟩ ?F
    intro w mg fa h Y G hmg0
    have hmg : mg ("law" : Str) = some (.ref fa) := by
      have e : (HandSHeadRun.topDef (PySem.W.OpenLaw.row PySem.Challenge.rw_turnsmade_k09_whole_orders).prog 64).name = ("law" : Str) := by kernel_rfl
      rw [← e]
      exact hmg0
    exact lawAt good rfl Y G hmg res
end Pf.Law

theorem PySem.Challenge.cw_turnsmade_k09_whole_orders_holds : PySem.Challenge.rw_turnsmade_k09_whole_orders.Holds :=
  Pf.Law.holds_of fun ns hl _ => ⟨_, Pf.Law.law_s 30 ns hl⟩
