import PyProof.Rows.All
import Wide.All
import OpenK.AllK
import Wide.FinOn
import HandS.Base
import HandS.ForMost
import HandS.Exc
import HandS.ExcOwn
import HandS.TryOnly
import HandS.CallSlots
import HandS.Deep
import HandS.TupAny
import HandS.Wide
import HandS.Steps
import HandS.Flow
import KE.LtData
import KE.SortData
import KE.KDictKeyed
import KE.KeyNested
import HandS.SortInts
import HandS.Iter
import HandS.WordsExc
import HandS.Nested
import HandS.ExcInit
import KE.KExcSuper
import HandS.ExcField
import HandS.ExcIs
import KE.KExcIs
import HandS.IsInst
import HandS.Dict
import HandS.Text
import HandS.Head3
import HandS.HeadHook3
import HandS.HeadEnd
import HandS.Ends
import HandS.More
import HandS.Words
import HandS.Defaults
import HandS.FStr
import PySem.Challenge.RW_redopages_k12_texts_of_formulas
section
set_option linter.all false
/-! DT: the classes of the program by number, their attributes by number, the attributes' names. -/
namespace DN
open PySem
/-- 0 Role 1 Read 2 Made 3 Fresh 4 Both 5 Renewed 6 Kind 7 Catalog 8 Waits 9 Contents 10 Step 11 Log 12 Disk 13 Store 14 State 15 Price 16 Backup; errors: 20 RedoError 21 BadName 22 BadKind 23 NoKind 24 NoRole 25 BadStep 26 NoStep 27 BadFormula 28 BadStamp 29 BadWait 30 Held 31 Newer 32 Broken 33 MutualWait 34 BadSlot 35 BadSize 36 BadOrder 37 OutOfTurn (an error's fields: the last one first) -/
def flT : Nat → List Nat
  | 0 | 1 | 2 | 3 | 4 | 5 => [0, 1]
  | 6 => [0, 2]
  | 7 => [3]
  | 8 => [4]
  | 9 => [5, 6]
  | 10 => [7, 8, 9]
  | 11 => [10, 11]
  | 12 => [4]
  | 13 => [10, 12, 13, 14]
  | 14 => [15, 16]
  | 15 => [17, 18]
  | 16 => [19, 20, 21, 22, 23]
  | 21 | 22 | 23 | 24 => [0]
  | 25 => [24, 8]
  | 26 | 27 => [7]
  | 28 => [26, 25]
  | 29 | 34 => [27]
  | 30 => [28, 25]
  | 31 => [31, 30, 25, 29]
  | 32 => [34, 33, 32, 25]
  | 33 => [8]
  | 35 => [1]
  | 36 => [20]
  | 37 => [25]
  | _ => []
def nmT : Nat → Str
  | 0 => "name" | 1 => "group" | 2 => "roles" | 3 => "kinds" | 4 => "rows" | 5 => "formulas" | 6 => "numbers" | 7 => "number" | 8 => "kind" | 9 => "pages"
  | 10 => "catalog" | 11 => "steps" | 12 => "waits" | 13 => "log" | 14 => "disk" | 15 => "contents" | 16 => "pages_held" | 17 => "size" | 18 => "images" | 19 => "store"
  | 20 => "order" | 21 => "turn" | 22 => "seen" | 23 => "held" | 24 => "at" | 25 => "page" | 26 => "version" | 27 => "row" | 28 => "behind" | 29 => "step"
  | 30 => "stood" | 31 => "stamp" | 32 => "due" | 33 => "found" | 34 => "newer"
  | _ => ""
theorem nmT_inj : ∀ i j, i < 35 → j < 35 → nmT i = nmT j → i = j := by
  have h : ((List.range 35).all fun i => (List.range 35).all fun j => decide (nmT i = nmT j → i = j)) = true := by decide +kernel
  intro i j hi hj
  exact of_decide_eq_true (List.all_eq_true.mp (List.all_eq_true.mp h i (List.mem_range.mpr hi)) j (List.mem_range.mpr hj))
end DN

end
section
set_option Elab.async false
set_option linter.all false
set_option maxRecDepth 100000
set_option maxHeartbeats 4000000
/-! D0: data, ledgers, the state relation, the denotations' readings. -/
namespace DN
open PySem L2

/-! ### data -/
inductive P where
  | non | bl (b : Bool) | int (i : Int) | str (x : Str)
  | tup (xs : List P) | lst (xs : List P)
  | ins (c : Nat) (fs : List P)
  | dk (es : List P) | dn (es : List P) | set (xs : List P)
  | exn (c : Nat) (fs : List P) | scr (ns : List Int)
  deriving Inhabited
inductive D where
  | v (p : P) | r (n : Nat)
inductive MO where
  | lst (xs : List P)
  | dk (es : List (Key × P)) | dn (es : List (P × P))
  | ins (c : Nat) (fs : List (Nat × D))
  | dead
inductive Res (α : Type) where
  | ok (a : α) | ex (c : Nat) (fs : List P)
def M (α : Type) := List MO → Option (Res α × List MO)
namespace M
def ret {α : Type} (a : α) : M α := fun L => some (.ok a, L)
def bnd {α β : Type} (m : M α) (f : α → M β) : M β := fun L => match m L with
  | none => none
  | some (.ok a, L1) => f a L1
  | some (.ex c fs, L1) => some (.ex c fs, L1)
def stuck {α : Type} : M α := fun _ => none
def throw {α : Type} (c : Nat) (fs : List P) : M α := fun L => some (.ex c fs, L)
end M
instance : Monad M where
  pure := M.ret
  bind := M.bnd

/-- what is fixed: the written part, the world, classes by number, their attributes -/
structure G where
  K : PySem.W.Frag
  w : World
  cl : Nat → Addr

/-- the facts of a class whose instances we read -/
structure ClsF (g : G) (c : Nat) : Prop where
  cls : Cls g.K (g.cl c)
  att : ∀ f ∈ flT c, NoAttr g.K (g.cl c) (nmT f)
  nd : ((flT c).map nmT).Nodup
  few : (flT c).length < 1000

/-! ### a nested key -/
mutual
inductive NK : P → NestedKey → Prop where
  | non : NK .non .none
  | int (i : Int) : NK (.int i) (.num i)
  | str (x : Str) : NK (.str x) (.text x)
  | tup {ps : List P} {ks : List NestedKey} : NKs ps ks → NK (.tup ps) (.tup ks)
inductive NKs : List P → List NestedKey → Prop where
  | nil : NKs [] []
  | cons {p : P} {k : NestedKey} {ps : List P} {ks : List NestedKey} : NK p k → NKs ps ks → NKs (p :: ps) (k :: ks)
end

/-- a raw dict at d whose entries are the rows (key's number, its address, the value) -/
def DicPhi (w : World) (d : Addr) (rows : List (NestedKey × Addr × Value)) (h : Heap) : Prop :=
  ∃ o es ep, h.get? d = some o ∧ o.ExactDict ∧ o.data = .dict es ep ∧
    es.toList = rows.map (fun x => (⟨x.1.hash w, .ref x.2.1, x.2.2⟩ : DictEntry))

/-! ### what a value is -/
mutual
inductive Is (g : G) (F : Hp) : V → P → Prop where
  | non : Is g F .non .non
  | bl (b : Bool) : Is g F (.bl b) (.bl b)
  | int (i : Int) : Is g F (.int i) (.int i)
  | str (x : Str) : Is g F (.str x) (.str x)
  | tup {a : Addr} {vs : List V} {ps : List P} : SqT g.K F a vs → IsA g F vs ps → Is g F (.ref a) (.tup ps)
  | lst {a : Addr} {vs : List V} {ps : List P} : F a = some (.lst vs) → IsA g F vs ps → Is g F (.ref a) (.lst ps)
  | scr {a : Addr} {ns : List Int} : SqL g.K F a (ns.map V.int) → Is g F (.ref a) (.scr ns)
  | ins {a dx : Addr} {c : Nat} {vs : List V} {ps : List P} : F a = some (.ins (g.cl c) dx (((flT c).map nmT).zip vs)) →
      vs.length = (flT c).length → IsA g F vs ps → ClsF g c → Is g F (.ref a) (.ins c ps)
  | exn {a dx : Nat} {c : Nat} {vs : List V} {ps : List P} : F dx = some (.xd (((flT c).map nmT).zip vs)) → vs.length = (flT c).length → IsA g F vs ps → Is g F (.ref a) (.exn c (.int a :: .int dx :: ps))
inductive IsA (g : G) (F : Hp) : List V → List P → Prop where
  | nil : IsA g F [] []
  | cons {v : V} {p : P} {vs : List V} {ps : List P} : Is g F v p → IsA g F vs ps → IsA g F (v :: vs) (p :: ps)
end
def Sub (F F' : Hp) : Prop := ∀ a o, F a = some o → F' a = some o
theorem Sub.refl (F : Hp) : Sub F F := fun _ _ h => h
theorem Sub.trans {F F' F2 : Hp} (h : Sub F F') (h' : Sub F' F2) : Sub F F2 := fun a o e => h' a o (h a o e)
theorem Sub.sqL {K : PySem.W.Frag} {F F' : Hp} (s : Sub F F') {a : Addr} {xs : List V} (h : SqL K F a xs) : SqL K F' a xs := by
  rcases h with (h | ⟨o, h⟩) | h
  · exact .inl (.inl (s _ _ h))
  · exact .inl (.inr ⟨o, s _ _ h⟩)
  · exact .inr h
theorem Sub.sqT {K : PySem.W.Frag} {F F' : Hp} (s : Sub F F') {a : Addr} {xs : List V} (h : SqT K F a xs) : SqT K F' a xs := by
  rcases h with (h | ⟨o, h⟩) | h
  · exact .inl (.inl (s _ _ h))
  · exact .inl (.inr ⟨o, s _ _ h⟩)
  · exact .inr h
mutual
theorem Is.mono {g : G} {F F' : Hp} (s : Sub F F') {v : V} {p : P} (h : Is g F v p) : Is g F' v p := match h with
  | .non => .non
  | .bl b => .bl b
  | .int i => .int i
  | .str x => .str x
  | .tup h1 h2 => .tup (s.sqT h1) (IsA.mono s h2)
  | .lst h1 h2 => .lst (s _ _ h1) (IsA.mono s h2)
  | .scr h1 => .scr (s.sqL h1)
  | .ins h1 h2 h3 h4 => .ins (s _ _ h1) h2 (IsA.mono s h3) h4
  | .exn h1 h2 h3 => .exn (s _ _ h1) h2 (IsA.mono s h3)
theorem IsA.mono {g : G} {F F' : Hp} (s : Sub F F') {vs : List V} {ps : List P} (h : IsA g F vs ps) : IsA g F' vs ps := match h with
  | .nil => .nil
  | .cons h1 h2 => .cons (Is.mono s h1) (IsA.mono s h2)
end
theorem IsA.len {g : G} {F : Hp} : ∀ {vs : List V} {ps : List P}, IsA g F vs ps → vs.length = ps.length
  | _, _, .nil => rfl
  | _, _, .cons _ h => congrArg (· + 1) (IsA.len h)

def IsD (g : G) (F : Hp) (ρ : Nat → Addr) (n : Nat) (v : V) : D → Prop
  | .v p => Is g F v p
  | .r k => k < n ∧ v = .ref (ρ k)
def MoIs (g : G) (F : Hp) (ρ : Nat → Addr) (n : Nat) (H : Hp) (a : Addr) : MO → Prop
  | .lst xs => ∃ vs, H a = some (.lst vs) ∧ IsA g F vs xs
  | .dk es => ∃ kvs, H a = some (.dK kvs) ∧ Paired (fun (x : Key × V) (y : Key × P) => x.1 = y.1 ∧ Is g F x.2 y.2) kvs es ∧ (es.map (·.1)).Nodup
  | .dn es => ∃ rows : List (NestedKey × Addr × Value), H a = some (.ext (DicPhi g.w a rows)) ∧ (a == sysModules) = false ∧ (rows.map (·.1)).Nodup ∧
      Paired (fun (x : NestedKey × Addr × Value) (y : P × P) => NK y.1 x.1 ∧ x.1.depth ≤ 8 ∧ Is g F (.ref x.2.1) y.1 ∧ ∃ v, RelV v x.2.2 ∧ Is g F v y.2) rows es
  | .ins c fs => ∃ dx vs, H a = some (.ins (g.cl c) dx vs) ∧ Paired (fun (x : Str × V) (y : Nat × D) => x.1 = nmT y.1 ∧ IsD g F ρ n x.2 y.2) vs fs ∧
      ClsF g c ∧ (∀ y ∈ fs, y.1 ∈ flT c) ∧ (fs.map (·.1)).Nodup
  | .dead => True

/-- the state: F what is frozen, ρ where the ledger's objects stand -/
structure R (g : G) (F : Hp) (ρ : Nat → Addr) (L : List MO) (H : Hp) : Prop where
  sub : Sub F H
  ent : ∀ i m, L[i]? = some m → m ≠ .dead → F (ρ i) = none ∧ MoIs g F ρ L.length H (ρ i) m
  inj : ∀ i j m m', L[i]? = some m → L[j]? = some m' → m ≠ .dead → m' ≠ .dead → ρ i = ρ j → i = j
/-- the slots -/
def Sl (g : G) (F : Hp) (ρ : Nat → Addr) (n : Nat) (σ : St) (τ : List (Option D)) : Prop :=
  τ.length = σ.length ∧ ∀ (i : Nat) (d : D), τ[i]? = some (some d) → ∃ v, σ[i]? = some (some v) ∧ IsD g F ρ n v d
/-- what grows -/
structure Ext (F : Hp) (ρ : Nat → Addr) (n : Nat) (F' : Hp) (ρ' : Nat → Addr) (n' : Nat) : Prop where
  sub : Sub F F'
  rho : ∀ i, i < n → ρ' i = ρ i
  len : n ≤ n'
theorem Ext.refl {F : Hp} {ρ : Nat → Addr} {n : Nat} : Ext F ρ n F ρ n := ⟨Sub.refl _, fun _ _ => rfl, Nat.le_refl _⟩
theorem Ext.trans {F F' F2 : Hp} {ρ ρ' ρ2 : Nat → Addr} {n n' n2 : Nat} (a : Ext F ρ n F' ρ' n') (b : Ext F' ρ' n' F2 ρ2 n2) : Ext F ρ n F2 ρ2 n2 :=
  ⟨a.sub.trans b.sub, fun i h => (b.rho i (Nat.lt_of_lt_of_le h a.len)).trans (a.rho i h), Nat.le_trans a.len b.len⟩
theorem IsD.ext {g : G} {F F' : Hp} {ρ ρ' : Nat → Addr} {n n' : Nat} {v : V} {d : D} (e : Ext F ρ n F' ρ' n') (h : IsD g F ρ n v d) : IsD g F' ρ' n' v d := by
  cases d with
  | v p => exact Is.mono e.sub h
  | r k => exact ⟨Nat.lt_of_lt_of_le h.1 e.len, by rw [e.rho k h.1]; exact h.2⟩
theorem Sl.ext {g : G} {F F' : Hp} {ρ ρ' : Nat → Addr} {n n' : Nat} {σ : St} {τ : List (Option D)} (e : Ext F ρ n F' ρ' n') (h : Sl g F ρ n σ τ) : Sl g F' ρ' n' σ τ :=
  ⟨h.1, fun i d q => let ⟨v, a, b⟩ := h.2 i d q; ⟨v, a, b.ext e⟩⟩

/-! ### readings -/
abbrev Tau := List (Option D)
/-- the end of a run from F, ρ, n: what must hold -/
def Post {α β : Type} (g : G) (rel : Hp → (Nat → Addr) → Nat → β → α → Prop) (F : Hp) (ρ : Nat → Addr) (n : Nat) (W : Value → Option Addr → Hp → Prop) (Q : β → Hp → Prop) : Option (Res α × List MO) → Prop
  | none => False
  | some (.ok d, L) => ∀ F' ρ' b H', Ext F ρ n F' ρ' L.length → R g F' ρ' L H' → rel F' ρ' L.length b d → Q b H'
  | some (.ex c fs, L) => ∀ F' ρ' dx vs H', Ext F ρ n F' ρ' L.length → R g F' ρ' L H' → F' dx = some (.xd (((flT c).map nmT).zip vs)) → vs.length = (flT c).length → IsA g F' vs fs →
      W (.ref (g.cl c)) (some dx) H'
theorem Post.ext {α β : Type} {g : G} {rel : Hp → (Nat → Addr) → Nat → β → α → Prop} {F F1 : Hp} {ρ ρ1 : Nat → Addr} {n n1 : Nat} {W : Value → Option Addr → Hp → Prop} {Q : β → Hp → Prop} {o : Option (Res α × List MO)}
    (e : Ext F ρ n F1 ρ1 n1) (h : Post g rel F ρ n W Q o) : Post g rel F1 ρ1 n1 W Q o := by
  match o, h with
  | some (.ok d, L), h => exact fun F' ρ' b H' x => h F' ρ' b H' (e.trans x)
  | some (.ex c fs, L), h => exact fun F' ρ' dx vs H' x => h F' ρ' dx vs H' (e.trans x)
/-- a state, some values at hand (ctx), and a run from there that ends well -/
def Sat {α β : Type} (g : G) (rel : Hp → (Nat → Addr) → Nat → β → α → Prop) (W : WX) (ctx : List (V × D)) (f : Tau → M α) (σ : St) (H : Hp) (Q : β → Hp → Prop) : Prop :=
  ∃ F ρ τ L, R g F ρ L H ∧ Sl g F ρ L.length σ τ ∧ (∀ x ∈ ctx, IsD g F ρ L.length x.1 x.2) ∧ Post g rel F ρ L.length (fun c d H' => W c d σ H') Q (f τ L)
abbrev relV (g : G) (F : Hp) (ρ : Nat → Addr) (n : Nat) (v : V) (d : D) : Prop := IsD g F ρ n v d
abbrev relB (_ : Hp) (_ : Nat → Addr) (_ : Nat) (b : Bool) (c : Bool) : Prop := b = c
abbrev relU (_ : Hp) (_ : Nat → Addr) (_ : Nat) (_ : Unit) (_ : Unit) : Prop := True
def relA (g : G) (F : Hp) (ρ : Nat → Addr) (n : Nat) : List V → List D → Prop := Paired fun v d => IsD g F ρ n v d
def tE (g : G) (W : WX) (f : Tau → M D) : TE := fun σ H Q => Sat g (relV g) W [] f σ H Q
def tT (g : G) (W : WX) (f : Tau → M Bool) : TT := fun σ H Q => Sat g relB W [] f σ H Q
def tA (g : G) (W : WX) (f : Tau → M (List D)) : TA := fun σ H Q => Sat g (relA g) W [] f σ H Q

/-- THE STEP: what is bound runs first, the rest waits with its value at hand -/
theorem Sat.bind {α β γ δ : Type} {g : G} {ra : Hp → (Nat → Addr) → Nat → γ → α → Prop} {rb : Hp → (Nat → Addr) → Nat → δ → β → Prop} {W : WX} {ctx : List (V × D)} {fa : Tau → M α} {k : Tau → α → M β} {σ : St} {H : Hp} {Q : δ → Hp → Prop}
    (h : Sat g rb W ctx (fun τ => fa τ >>= k τ) σ H Q) :
    Sat g ra W [] fa σ H fun x H1 => ∃ F ρ τ L d, R g F ρ L H1 ∧ Sl g F ρ L.length σ τ ∧ (∀ y ∈ ctx, IsD g F ρ L.length y.1 y.2) ∧ ra F ρ L.length x d ∧ Post g rb F ρ L.length (fun c d H' => W c d σ H') Q (k τ d L) := by
  obtain ⟨F, ρ, τ, L, hR, hS, hc, hp⟩ := h
  refine ⟨F, ρ, τ, L, hR, hS, (fun y hy => by cases hy), ?_⟩
  have hp' : Post g rb F ρ L.length (fun c d H' => W c d σ H') Q (match fa τ L with | none => none | some (.ok a, L1) => k τ a L1 | some (.ex c fs, L1) => some (.ex c fs, L1)) := hp
  match e : fa τ L with
  | none =>
    rw [e] at hp'
    exact hp'
  | some (.ex c fs, L1) =>
    rw [e] at hp'
    exact hp'
  | some (.ok d, L1) =>
    rw [e] at hp'
    intro F1 ρ1 x H1 he hR1 hx
    exact ⟨F1, ρ1, τ, L1, d, hR1, hS.ext he, fun y hy => (hc y hy).ext he, hx, hp'.ext he⟩
/-- .. an expression's value -/
theorem Sat.bindV {β δ : Type} {g : G} {rb : Hp → (Nat → Addr) → Nat → δ → β → Prop} {W : WX} {ctx : List (V × D)} {fa : Tau → M D} {k : Tau → D → M β} {σ : St} {H : Hp} {Q : δ → Hp → Prop}
    (h : Sat g rb W ctx (fun τ => fa τ >>= k τ) σ H Q) :
    tE g W fa σ H fun x H1 => ∃ d, Sat g rb W ((x, d) :: ctx) (fun τ => k τ d) σ H1 Q := by
  obtain ⟨F, ρ, τ, L, hR, hS, hc, hp⟩ := Sat.bind (ra := relV g) h
  refine ⟨F, ρ, τ, L, hR, hS, hc, ?_⟩
  match e : fa τ L with
  | none =>
    rw [e] at hp
    exact hp
  | some (.ex c fs, L1) =>
    rw [e] at hp
    exact hp
  | some (.ok d, L1) =>
    rw [e] at hp
    intro F1 ρ1 x H1 he hR1 hx
    obtain ⟨F2, ρ2, τ2, L2, d2, a1, a2, a3, a4, a5⟩ := hp F1 ρ1 x H1 he hR1 hx
    refine ⟨d2, F2, ρ2, τ2, L2, a1, a2, fun y hy => ?_, a5⟩
    rcases List.mem_cons.mp hy with z | z
    · rw [z]; exact a4
    · exact a3 y z

theorem Post.mono {α β : Type} {g : G} {rel : Hp → (Nat → Addr) → Nat → β → α → Prop} {F : Hp} {ρ : Nat → Addr} {n : Nat} {W : Value → Option Addr → Hp → Prop} {Q Q' : β → Hp → Prop} {o : Option (Res α × List MO)}
    (h : Post g rel F ρ n W Q o) (w : ∀ b H, Q b H → Q' b H) : Post g rel F ρ n W Q' o := by
  match o, h with
  | some (.ok d, L), h => exact fun F' ρ' b H' a1 a2 a3 => w _ _ (h F' ρ' b H' a1 a2 a3)
  | some (.ex c fs, L), h => exact h
theorem Sat.mono {α β : Type} {g : G} {rel : Hp → (Nat → Addr) → Nat → β → α → Prop} {W : WX} {ctx : List (V × D)} {f : Tau → M α} {σ : St} {H : Hp} {Q Q' : β → Hp → Prop}
    (h : Sat g rel W ctx f σ H Q) (w : ∀ b H, Q b H → Q' b H) : Sat g rel W ctx f σ H Q' := by
  obtain ⟨F, ρ, τ, L, hR, hS, hc, hp⟩ := h
  exact ⟨F, ρ, τ, L, hR, hS, hc, hp.mono w⟩

theorem PE.weak {X : Cx} {e : Expr} {t t' : TE} (h : PE X e t) (w : ∀ σ H Q, t' σ H Q → t σ H Q) : PE X e t' := ⟨fun pins s σ H Q I q => h.run pins s σ H Q I (w σ H Q q)⟩
theorem PT.weak {X : Cx} {e : Expr} {t t' : TT} (h : PT X e t) (w : ∀ σ H Q, t' σ H Q → t σ H Q) : PT X e t' := ⟨fun pins s σ H Q I q => h.run pins s σ H Q I (w σ H Q q)⟩
theorem PA.weak {X : Cx} {e : List Expr} {t t' : TA} (h : PA X e t) (w : ∀ σ H Q, t' σ H Q → t σ H Q) : PA X e t' := ⟨fun pos pins s σ H Q I q => h.run pos pins s σ H Q I (w σ H Q q)⟩
theorem PS.weak {X : Cx} {e : Stmt} {t t' : TS} (h : PS X e t) (w : ∀ D σ H, t' D σ H → t D σ H) : PS X e t' := ⟨fun pins s σ H D I q => h.run pins s σ H D I (w D σ H q)⟩
theorem PSs.weak {X : Cx} {e : List Stmt} {t t' : TS} (h : PSs X e t) (w : ∀ D σ H, t' D σ H → t D σ H) : PSs X e t' := ⟨fun pins s σ H D I q => h.run pins s σ H D I (w D σ H q)⟩

/-! ### names, constants, operators -/
section
variable {X : Cx} {g : G} {W : WX}
def varD (i : Nat) (τ : Tau) : M D := fun L => match τ[i]? with
  | some (some d) => some (.ok d, L)
  | _ => none
def retD (d : D) (_ : Tau) : M D := pure d
theorem Sat.ret {α β : Type} {rel : Hp → (Nat → Addr) → Nat → β → α → Prop} {ctx : List (V × D)} {σ : St} {H : Hp} {Q : β → Hp → Prop} {f : Tau → M α} {a : α} {b : β}
    (h : Sat g rel W ctx f σ H Q) (hf : ∀ τ L, f τ L = some (.ok a, L)) (hr : ∀ F ρ n, (∀ x ∈ ctx, IsD g F ρ n x.1 x.2) → rel F ρ n b a) : Q b H := by
  obtain ⟨F, ρ, τ, L, hR, hS, hc, hp⟩ := h
  rw [hf] at hp
  exact hp F ρ b H Ext.refl hR (hr _ _ _ hc)
theorem de_int {i j pos} : PE X (.Constant (.int i) j pos) (tE g W (retD (.v (.int i)))) :=
  PE.weak pe_int fun σ H Q h => Sat.ret h (fun _ _ => rfl) fun _ _ _ _ => Is.int i
theorem de_bl {b j pos} : PE X (.Constant (.bool b) j pos) (tE g W (retD (.v (.bl b)))) :=
  PE.weak pe_bl fun σ H Q h => Sat.ret h (fun _ _ => rfl) fun _ _ _ _ => Is.bl b
theorem de_non {j pos} : PE X (.Constant .none j pos) (tE g W (retD (.v .non))) :=
  PE.weak pe_non fun σ H Q h => Sat.ret h (fun _ _ => rfl) fun _ _ _ _ => Is.non
theorem de_str {x j pos} : PE X (.Constant (.str x) j pos) (tE g W (retD (.v (.str x)))) :=
  PE.weak pe_str fun σ H Q h => Sat.ret h (fun _ _ => rfl) fun _ _ _ _ => Is.str x
theorem de_var {i : Nat} {x : Str} {pos : Pos} (hN : X.N[i]? = some x) (hv : Vis X.env.scope x) (hd : (x == ("__debug__" : Str)) = false := by decide) (hcd : (x == ("__classdict__" : Str)) = false := by decide) : PE X (.Name x pos) (tE g W (varD i)) := by
  refine PE.weak (pe_var hN hv hd hcd) fun σ H Q h => ?_
  obtain ⟨F, ρ, τ, L, hR, hS, hc, hp⟩ := h
  unfold varD at hp
  match e : τ[i]? with
  | none =>
    rw [e] at hp
    exact hp.elim
  | some none =>
    rw [e] at hp
    exact hp.elim
  | some (some d) =>
    rw [e] at hp
    obtain ⟨v, e1, e2⟩ := hS.2 i d e
    exact ⟨v, e1, hp F ρ v H Ext.refl hR e2⟩
def bin (op : D → D → M D) (fa fb : Tau → M D) (τ : Tau) : M D := do
  let x ← fa τ
  let y ← fb τ
  op x y
/-- what an operator's rule must give -/
def OpD (g : G) (op : D → D → M D) (r : R2) : Prop := ∀ (F : Hp) (ρ : Nat → Addr) (L : List MO) (H : Hp) (x y : V) (d e : D) (W : Value → Option Addr → Hp → Prop) (Q : VK),
  R g F ρ L H → IsD g F ρ L.length x d → IsD g F ρ L.length y e → Post g (relV g) F ρ L.length W Q (op d e L) → r x y H Q
theorem de_op {op : Operator} {r : R2} {od : D → D → M D} {a b : Expr} {fa fb : Tau → M D} {pos : Pos} (ho : OpR X (binaryOp op) r) (hd : OpD g od r) (ha : PE X a (tE g W fa)) (hb : PE X b (tE g W fb)) :
    PE X (.BinOp a op b pos) (tE g W (bin od fa fb)) := by
  refine PE.weak (pe_op ho ha hb) fun σ H Q h => ?_
  refine (Sat.bindV h).mono fun x H1 h1 => ?_
  obtain ⟨d, h1⟩ := h1
  refine (Sat.bindV h1).mono fun y H2 h2 => ?_
  obtain ⟨e, F, ρ, τ, L, hR, hS, hc, hp⟩ := h2
  exact hd F ρ L H2 x y d e _ Q hR (hc (x, d) (by simp)) (hc (y, e) (by simp)) hp
end
end DN

end
section
set_option Elab.async false
set_option linter.all false
set_option maxRecDepth 100000
set_option maxHeartbeats 4000000
/-! D1: the state grows; operators. -/
namespace DN
open PySem L2
section
variable {g : G} {F : Hp} {ρ : Nat → Addr} {n : Nat} {L : List MO} {H : Hp} {a p : Addr} {m : MO} {o : HO}
theorem MoIs.some (h : MoIs g F ρ n H a m) (nd : m ≠ .dead) : ∃ o, H a = some o := by
  cases m with
  | lst xs => obtain ⟨vs, e, _⟩ := h; exact ⟨_, e⟩
  | dk es => obtain ⟨vs, e, _⟩ := h; exact ⟨_, e⟩
  | dn es => obtain ⟨vs, e, _⟩ := h; exact ⟨_, e⟩
  | ins c fs => obtain ⟨dx, vs, e, _⟩ := h; exact ⟨_, e⟩
  | dead => exact absurd rfl nd
theorem MoIs.congr {H' : Hp} (h : MoIs g F ρ n H a m) (e : H' a = H a) : MoIs g F ρ n H' a m := by
  cases m with
  | lst xs => obtain ⟨vs, q, r⟩ := h; exact ⟨vs, e.trans q, r⟩
  | dk es => obtain ⟨vs, q, r⟩ := h; exact ⟨vs, e.trans q, r⟩
  | dn es => obtain ⟨vs, q, r⟩ := h; exact ⟨vs, e.trans q, r⟩
  | ins c fs => obtain ⟨dx, vs, q, r⟩ := h; exact ⟨dx, vs, e.trans q, r⟩
  | dead => trivial
theorem prd_mono {α β : Type} {A B : α → β → Prop} : ∀ {xs : List α} {ys : List β}, Paired A xs ys → (∀ x y, A x y → B x y) → Paired B xs ys
  | _, _, .nil, _ => .nil
  | _, _, .cons h t, f => .cons (f _ _ h) (prd_mono t f)
theorem prd_len {α β : Type} {A : α → β → Prop} : ∀ {xs : List α} {ys : List β}, Paired A xs ys → xs.length = ys.length
  | _, _, .nil => rfl
  | _, _, .cons _ t => congrArg (· + 1) (prd_len t)
theorem MoIs.ext {F' : Hp} {ρ' : Nat → Addr} {n' : Nat} (x : Ext F ρ n F' ρ' n') (h : MoIs g F ρ n H a m) : MoIs g F' ρ' n' H a m := by
  cases m with
  | lst xs => obtain ⟨vs, q, r⟩ := h; exact ⟨vs, q, IsA.mono x.sub r⟩
  | dk es => obtain ⟨vs, q, r, nd⟩ := h; exact ⟨vs, q, prd_mono r fun _ _ z => ⟨z.1, Is.mono x.sub z.2⟩, nd⟩
  | dn es =>
    obtain ⟨vs, q, sm, nd, r⟩ := h
    exact ⟨vs, q, sm, nd, prd_mono r fun _ _ z => ⟨z.1, z.2.1, Is.mono x.sub z.2.2.1, let ⟨v, r1, r2⟩ := z.2.2.2; ⟨v, r1, Is.mono x.sub r2⟩⟩⟩
  | ins c fs => obtain ⟨dx, vs, q, r, s⟩ := h; exact ⟨dx, vs, q, prd_mono r fun _ _ z => ⟨z.1, z.2.ext x⟩, s⟩
  | dead => trivial
theorem R.live (h : R g F ρ L H) {i : Nat} (e : L[i]? = some m) (nd : m ≠ .dead) : ∃ o, H (ρ i) = some o := (h.ent i m e nd).2.some nd
/-- something new is frozen at once -/
theorem R.frz (h : R g F ρ L H) (hp : H p = none) (o : HO) : R g (upd F p o) ρ L (upd H p o) where
  sub := fun a q e => by
    by_cases z : a = p
    · subst z
      rw [upd_same] at e ⊢
      exact e
    · rw [upd_ne z] at e ⊢
      exact h.sub a q e
  ent := fun i m e nd => by
    obtain ⟨q, hq⟩ := h.live e nd
    have ne : ρ i ≠ p := fun z => by rw [z, hp] at hq; cases hq
    obtain ⟨h1, h2⟩ := h.ent i m e nd
    refine ⟨by rw [upd_ne ne]; exact h1, (h2.congr (upd_ne ne)).ext (F' := upd F p o) (ρ' := ρ) ⟨fun b q eb => ?_, fun _ _ => rfl, Nat.le_refl _⟩⟩
    have nb : b ≠ p := fun z => by
      have := h.sub b q eb
      rw [z, hp] at this
      cases this
    rw [upd_ne nb]
    exact eb
  inj := h.inj
theorem Sub.frz (h : R g F ρ L H) (hp : H p = none) (o : HO) : Sub F (upd F p o) := fun b q eb => by
  have nb : b ≠ p := fun z => by
    have := h.sub b q eb
    rw [z, hp] at this
    cases this
  rw [upd_ne nb]
  exact eb
theorem R.fnone (h : R g F ρ L H) (hp : H p = none) : F p = none := by
  cases e : F p with
  | none => rfl
  | some q =>
    have := h.sub p q e
    rw [hp] at this
    cases this
def rput (ρ : Nat → Addr) (n : Nat) (p : Addr) : Nat → Addr := fun i => if i = n then p else ρ i
theorem rput_new {q : Addr} : rput ρ n q n = q := if_pos rfl
theorem rput_old {q : Addr} {i : Nat} (h : i < n) : rput ρ n q i = ρ i := if_neg (Nat.ne_of_lt h)
/-- .. is laid into the ledger -/
theorem Ext.new {q : Addr} : Ext F ρ n F (rput ρ n q) (n + 1) := ⟨Sub.refl _, fun i h => rput_old h, Nat.le_succ _⟩
theorem R.new (h : R g F ρ L H) (hp : H p = none) (o : HO) (m : MO) (hm : MoIs g F (rput ρ L.length p) (L.length + 1) (upd H p o) p m) : R g F (rput ρ L.length p) (L ++ [m]) (upd H p o) where
  sub := fun a q e => by
    have nb : a ≠ p := fun z => by
      have := h.sub a q e
      rw [z, hp] at this
      cases this
    rw [upd_ne nb]
    exact h.sub a q e
  ent := fun i m' e nd => by
    rw [List.length_append, List.length_singleton]
    by_cases hi : i < L.length
    · rw [List.getElem?_append_left hi] at e
      obtain ⟨q, hq⟩ := h.live e nd
      have ne : ρ i ≠ p := fun z => by rw [z, hp] at hq; cases hq
      obtain ⟨h1, h2⟩ := h.ent i m' e nd
      rw [rput_old hi]
      exact ⟨h1, (h2.congr (upd_ne ne)).ext Ext.new⟩
    · have hi' : i = L.length := by
        have := (List.getElem?_eq_some_iff.mp e).1
        rw [List.length_append, List.length_singleton] at this
        omega
      subst hi'
      rw [List.getElem?_append_right (Nat.le_refl _), Nat.sub_self] at e
      cases e
      rw [rput_new]
      exact ⟨h.fnone hp, hm⟩
  inj := by
    have key : ∀ (i : Nat) (m' : MO), (L ++ [m])[i]? = some m' → m' ≠ .dead → (i < L.length ∧ L[i]? = some m' ∧ rput ρ L.length p i = ρ i ∧ ρ i ≠ p) ∨ (i = L.length ∧ rput ρ L.length p i = p) := fun i m' e nd => by
      by_cases hi : i < L.length
      · rw [List.getElem?_append_left hi] at e
        obtain ⟨q, hq⟩ := h.live e nd
        exact .inl ⟨hi, e, rput_old hi, fun z => by rw [z, hp] at hq; cases hq⟩
      · have := (List.getElem?_eq_some_iff.mp e).1
        rw [List.length_append, List.length_singleton] at this
        have e2 : i = L.length := by omega
        exact .inr ⟨e2, by rw [e2]; exact rput_new⟩
    intro i j m1 m2 e1 e2 n1 n2 er
    rcases key i m1 e1 n1 with ⟨a1, a2, a3, a4⟩ | ⟨a1, a2⟩
    · rcases key j m2 e2 n2 with ⟨b1, b2, b3, b4⟩ | ⟨b1, b2⟩
      · rw [a3, b3] at er
        exact h.inj i j m1 m2 a2 b2 n1 n2 er
      · rw [a3, b2] at er
        exact absurd er a4
    · rcases key j m2 e2 n2 with ⟨b1, b2, b3, b4⟩ | ⟨b1, b2⟩
      · rw [a2, b3] at er
        exact absurd er.symm b4
      · rw [a1, b1]
/-- an entry is changed -/
theorem R.put (h : R g F ρ L H) {i : Nat} {m0 : MO} (e0 : L[i]? = some m0) (n0 : m0 ≠ .dead) (o : HO) (m : MO) (hm : MoIs g F ρ L.length (upd H (ρ i) o) (ρ i) m) : R g F ρ (L.set i m) (upd H (ρ i) o) where
  sub := fun a q e => by
    have nb : a ≠ ρ i := fun z => by
      have := (h.ent i m0 e0 n0).1
      rw [z, this] at e
      cases e
    rw [upd_ne nb]
    exact h.sub a q e
  ent := fun j m' e nd => by
    rw [List.length_set]
    by_cases hj : i = j
    · subst hj
      have hl : i < L.length := (List.getElem?_eq_some_iff.mp e0).1
      rw [List.getElem?_set_self hl] at e
      cases e
      exact ⟨(h.ent i m0 e0 n0).1, hm⟩
    · rw [List.getElem?_set_ne hj] at e
      obtain ⟨h1, h2⟩ := h.ent j m' e nd
      exact ⟨h1, h2.congr (upd_ne fun z => hj (h.inj i j m0 m' e0 e n0 nd z.symm))⟩
  inj := by
    have key : ∀ (j : Nat) (m' : MO), (L.set i m)[j]? = some m' → m' ≠ .dead → ∃ m2, L[j]? = some m2 ∧ m2 ≠ .dead := fun j m' e nd => by
      by_cases hj : i = j
      · subst hj
        exact ⟨m0, e0, n0⟩
      · rw [List.getElem?_set_ne hj] at e
        exact ⟨m', e, nd⟩
    intro j k m1 m2 e1 e2 n1 n2 er
    obtain ⟨x1, q1, r1⟩ := key j m1 e1 n1
    obtain ⟨x2, q2, r2⟩ := key k m2 e2 n2
    exact h.inj j k x1 x2 q1 q2 r1 r2 er
/-- an entry is taken off (its object may be frozen) -/
theorem R.kill (h : R g F ρ L H) (i : Nat) : R g F ρ (L.set i .dead) H where
  sub := h.sub
  ent := fun j m' e nd => by
    rw [List.length_set]
    by_cases hj : i = j
    · subst hj
      have hl : i < L.length := by
        have := (List.getElem?_eq_some_iff.mp e).1
        rwa [List.length_set] at this
      rw [List.getElem?_set_self hl] at e
      cases e
      exact absurd rfl nd
    · rw [List.getElem?_set_ne hj] at e
      exact h.ent j m' e nd
  inj := by
    have key : ∀ (j : Nat) (m' : MO), (L.set i .dead)[j]? = some m' → m' ≠ .dead → L[j]? = some m' := fun j m' e nd => by
      by_cases hj : i = j
      · subst hj
        have hl : i < L.length := by
          have := (List.getElem?_eq_some_iff.mp e).1
          rwa [List.length_set] at this
        rw [List.getElem?_set_self hl] at e
        cases e
        exact absurd rfl nd
      · rwa [List.getElem?_set_ne hj] at e
    exact fun j k m1 m2 e1 e2 n1 n2 er => h.inj j k m1 m2 (key j m1 e1 n1) (key k m2 e2 n2) n1 n2 er
theorem R.freeze (h : R g F ρ L H) {i : Nat} {m0 : MO} (e0 : L[i]? = some m0) (n0 : m0 ≠ .dead) {o : HO} (ho : H (ρ i) = some o) : R g (upd F (ρ i) o) ρ (L.set i .dead) H := by
  have h' := h.kill i
  have f0 := (h.ent i m0 e0 n0).1
  have sb : Sub F (upd F (ρ i) o) := fun b q eb => by
    have nb : b ≠ ρ i := fun z => by rw [z, f0] at eb; cases eb
    rw [upd_ne nb]
    exact eb
  refine ⟨fun a q e => ?_, fun j m' e nd => ?_, h'.inj⟩
  · by_cases z : a = ρ i
    · subst z
      rw [upd_same] at e
      rw [ho]
      exact e
    · rw [upd_ne z] at e
      exact h.sub a q e
  · obtain ⟨h1, h2⟩ := h'.ent j m' e nd
    have hj : i ≠ j := fun z => by
      subst z
      have hl : i < L.length := (List.getElem?_eq_some_iff.mp e0).1
      rw [List.getElem?_set_self hl] at e
      cases e
      exact nd rfl
    rw [List.getElem?_set_ne hj] at e
    have nr : ρ j ≠ ρ i := fun z => hj (h.inj i j m0 m' e0 e n0 nd z.symm)
    exact ⟨by rw [upd_ne nr]; exact h1, h2.ext ⟨sb, fun _ _ => rfl, Nat.le_refl _⟩⟩
end

/-! ### lists and tuples by their items -/
def asM (L : List MO) : D → Option (List P)
  | .v (.lst xs) => some xs
  | .r n => match L[n]? with
    | some (.lst xs) => some xs
    | _ => none
  | _ => none
def asL (L : List MO) : D → Option (List P)
  | .v (.scr ns) => some (ns.map P.int)
  | d => asM L d
def asT : D → Option (List P)
  | .v (.tup xs) => some xs
  | _ => none
theorem Is.inv_lst {g : G} {F : Hp} {v : V} {xs : List P} (h : Is g F v (.lst xs)) : ∃ a vs, v = .ref a ∧ F a = some (.lst vs) ∧ IsA g F vs xs := by
  cases h with
  | lst h1 h2 => exact ⟨_, _, rfl, h1, h2⟩
theorem Is.inv_tup {g : G} {F : Hp} {v : V} {xs : List P} (h : Is g F v (.tup xs)) : ∃ a vs, v = .ref a ∧ SqT g.K F a vs ∧ IsA g F vs xs := by
  cases h with
  | tup h1 h2 => exact ⟨_, _, rfl, h1, h2⟩
theorem Is.inv_int {g : G} {F : Hp} {v : V} {i : Int} (h : Is g F v (.int i)) : v = .int i := by cases h; rfl
theorem Is.inv_str {g : G} {F : Hp} {v : V} {i : Str} (h : Is g F v (.str i)) : v = .str i := by cases h; rfl
theorem Is.inv_bl {g : G} {F : Hp} {v : V} {i : Bool} (h : Is g F v (.bl i)) : v = .bl i := by cases h; rfl
theorem Is.inv_non {g : G} {F : Hp} {v : V} (h : Is g F v .non) : v = .non := by cases h; rfl
section
variable {g : G} {F : Hp} {ρ : Nat → Addr} {L : List MO} {H : Hp} {x y : V} {d e : D} {W : Value → Option Addr → Hp → Prop} {Q : VK}
theorem asM_at (hR : R g F ρ L H) (hx : IsD g F ρ L.length x d) {xs : List P} (h : asM L d = some xs) : ∃ a vs, x = .ref a ∧ H a = some (.lst vs) ∧ IsA g F vs xs := by
  match d, h, hx with
  | .v (.lst ys), h, hx =>
    cases h
    obtain ⟨a, vs, e, h1, h2⟩ := Is.inv_lst hx
    exact ⟨a, vs, e, hR.sub _ _ h1, h2⟩
  | .r n, h, hx =>
    unfold asM at h
    dsimp only at h
    match e : L[n]?, h with
    | some (.lst ys), h =>
      cases h
      obtain ⟨h1, vs, h2, h3⟩ := hR.ent n _ e (by intro z; cases z)
      exact ⟨ρ n, vs, hx.2, h2, h3⟩
theorem isA_ints (g : G) (F : Hp) : ∀ ns : List Int, IsA g F (ns.map V.int) (ns.map P.int)
  | [] => .nil
  | n :: ns => .cons (.int n) (isA_ints g F ns)
theorem asL_sq (hR : R g F ρ L H) (hx : IsD g F ρ L.length x d) {xs : List P} (h : asL L d = some xs) : ∃ a vs, x = .ref a ∧ SqL g.K H a vs ∧ IsA g F vs xs := by
  have key : asM L d = some xs → ∃ a vs, x = .ref a ∧ SqL g.K H a vs ∧ IsA g F vs xs := fun h => by
    obtain ⟨a, vs, e, h1, h2⟩ := asM_at hR hx h
    exact ⟨a, vs, e, SqL.of h1, h2⟩
  match d, h, hx, key with
  | .v (.scr ns), h, hx, _ =>
    cases h
    cases hx with
    | scr h1 => exact ⟨_, _, rfl, hR.sub.sqL h1, isA_ints g F ns⟩
  | .v .non, h, _, key => exact key h
  | .v (.bl _), h, _, key => exact key h
  | .v (.int _), h, _, key => exact key h
  | .v (.str _), h, _, key => exact key h
  | .v (.tup _), h, _, key => exact key h
  | .v (.lst _), h, _, key => exact key h
  | .v (.ins _ _), h, _, key => exact key h
  | .v (.dk _), h, _, key => exact key h
  | .v (.dn _), h, _, key => exact key h
  | .v (.set _), h, _, key => exact key h
  | .v (.exn _ _), h, _, key => exact key h
  | .r n, h, _, key => exact key h
theorem asT_sq (hR : R g F ρ L H) (hx : IsD g F ρ L.length x d) {xs : List P} (h : asT d = some xs) : ∃ a vs, x = .ref a ∧ SqT g.K H a vs ∧ IsA g F vs xs := by
  match d, h, hx with
  | .v (.tup ys), h, hx =>
    cases h
    obtain ⟨a, vs, e, h1, h2⟩ := Is.inv_tup hx
    exact ⟨a, vs, e, hR.sub.sqT h1, h2⟩
/-- a value that needs no object -/
theorem Post.val {p : P} {v : V} (hR : R g F ρ L H) (h : Post g (relV g) F ρ L.length W Q (some (.ok (.v p), L))) (hv : Is g F v p) : Q v H := h F ρ v H Ext.refl hR hv
theorem Post.tup {ps : List P} {vs : List V} (hR : R g F ρ L H) (h : Post g (relV g) F ρ L.length W Q (some (.ok (.v (.tup ps)), L))) (hv : IsA g F vs ps) {p : Addr} (hp : H p = none) : Q (.ref p) (upd H p (.tup vs)) := by
  refine h (upd F p (.tup vs)) ρ (.ref p) _ ⟨Sub.frz hR hp _, fun _ _ => rfl, Nat.le_refl _⟩ (hR.frz hp _) ?_
  exact Is.tup (SqT.of upd_same) (IsA.mono (Sub.frz hR hp _) hv)
theorem Post.lst {ps : List P} {vs : List V} (hR : R g F ρ L H) (h : Post g (relV g) F ρ L.length W Q (some (.ok (.v (.lst ps)), L))) (hv : IsA g F vs ps) {p : Addr} (hp : H p = none) : Q (.ref p) (upd H p (.lst vs)) := by
  refine h (upd F p (.lst vs)) ρ (.ref p) _ ⟨Sub.frz hR hp _, fun _ _ => rfl, Nat.le_refl _⟩ (hR.frz hp _) ?_
  exact Is.lst upd_same (IsA.mono (Sub.frz hR hp _) hv)
theorem Post.newL {ps : List P} {vs : List V} (hR : R g F ρ L H) (h : Post g (relV g) F ρ L.length W Q (some (.ok (.r L.length), L ++ [.lst ps]))) (hv : IsA g F vs ps) {p : Addr} (hp : H p = none) : Q (.ref p) (upd H p (.lst vs)) := by
  have e1 : (L ++ [MO.lst ps]).length = L.length + 1 := by rw [List.length_append, List.length_singleton]
  refine h F (rput ρ L.length p) (.ref p) _ (by rw [e1]; exact Ext.new) (hR.new hp _ _ ⟨vs, upd_same, hv⟩) ?_
  exact ⟨by rw [e1]; exact Nat.lt_succ_self _, by rw [rput_new]⟩
end

/-! ### plus, minus, times .. -/
def addD : D → D → M D := fun x y L => match x, y with
  | .v (.int a), .v (.int b) => some (.ok (.v (.int (a + b))), L)
  | .v (.str a), .v (.str b) => if a.length + b.length ≤ sizeLine then some (.ok (.v (.str (a ++ b))), L) else none
  | .v (.tup a), .v (.tup b) => if a.length + b.length ≤ sizeLine then some (.ok (.v (.tup (a ++ b))), L) else none
  | x, y => match asM L x, asM L y with
    | some a, some b => if a.length + b.length ≤ sizeLine then some (.ok (.v (.lst (a ++ b))), L) else none
    | _, _ => none
def intOp (C : Int → Int → Bool) (f : Int → Int → Int) : D → D → M D := fun x y L => match x, y with
  | .v (.int a), .v (.int b) => if C a b = true then some (.ok (.v (.int (f a b))), L) else none
  | _, _ => none
theorem opd_int {C : Int → Int → Prop} {Cb : Int → Int → Bool} {f : Int → Int → Int} {g : G} (hC : ∀ a b, Cb a b = true → C a b) : OpD g (intOp Cb f) (rI C fun i j => .int (f i j)) := by
  intro F ρ L H x y d e W Q hR hx hy hp
  unfold intOp at hp
  match d, e, hx, hy, hp with
  | .v (.int a), .v (.int b), hx, hy, hp =>
    dsimp only at hp
    by_cases hc : Cb a b = true
    · rw [if_pos hc] at hp
      exact ⟨a, b, Is.inv_int hx, Is.inv_int hy, hC _ _ hc, hp.val hR (.int _)⟩
    · rw [if_neg hc] at hp
      exact hp.elim
def subD : D → D → M D := intOp (fun _ _ => true) fun a b => a - b
def mulOkB (a b : Int) : Bool := (decide (-(2 ^ 64) < a) && decide (a < 2 ^ 64)) || (decide (-(2 ^ 64) < b) && decide (b < 2 ^ 64))
def mulD : D → D → M D := intOp mulOkB fun a b => a * b
def modD : D → D → M D := intOp (fun _ b => decide (0 < b)) fun a b => a % b
def powD : D → D → M D := intOp (fun a b => decide (0 ≤ b) && decide (b ≤ 1000000) && decide (a.natAbs < 2 ^ 64)) fun a b => a ^ b.toNat
theorem opd_sub {g : G} : OpD g subD (rI (fun _ _ => True) fun i j => .int (i - j)) := opd_int fun _ _ _ => trivial
theorem opd_mul {g : G} : OpD g mulD (rI CMul fun i j => .int (i * j)) := opd_int fun a b h => by
  unfold mulOkB at h
  unfold CMul
  simpa using h
theorem opd_mod {g : G} : OpD g modD (rI (fun _ j => 0 < j) fun i j => .int (i % j)) := opd_int fun a b h => by simpa using h
theorem opd_pow {g : G} : OpD g powD (rI CPow fun i j => .int (i ^ j.toNat)) := opd_int fun a b h => by
  unfold CPow
  simpa [and_assoc] using h
section
variable {X : Cx} {g : G} {W : WX} {a b : Expr} {fa fb : Tau → M D} {pos : Pos}
theorem op_subT : OpR X (binaryOp .Sub) (rI (fun _ _ => True) fun i j => .int (i - j)) := fun pins s σ H x y v u Q I r1 r2 ⟨i, j, e1, e2, _, q⟩ => op_sub pins s σ H x y v u Q I r1 r2 ⟨i, j, e1, e2, q⟩
theorem de_sub (ha : PE X a (tE g W fa)) (hb : PE X b (tE g W fb)) : PE X (.BinOp a .Sub b pos) (tE g W (bin subD fa fb)) := de_op op_subT opd_sub ha hb
theorem de_mul (ha : PE X a (tE g W fa)) (hb : PE X b (tE g W fb)) : PE X (.BinOp a .Mult b pos) (tE g W (bin mulD fa fb)) := de_op op_mul opd_mul ha hb
theorem de_mod (ha : PE X a (tE g W fa)) (hb : PE X b (tE g W fb)) : PE X (.BinOp a .Mod b pos) (tE g W (bin modD fa fb)) := de_op op_mod opd_mod ha hb
theorem de_pow (ha : PE X a (tE g W fa)) (hb : PE X b (tE g W fb)) : PE X (.BinOp a .Pow b pos) (tE g W (bin powD fa fb)) := de_op op_pow opd_pow ha hb
end
end DN

end
section
set_option Elab.async false
set_option linter.all false
set_option maxRecDepth 100000
set_option maxHeartbeats 4000000
/-! D2: plus, comparisons, in, subscripts, slices, displays, tests. -/
namespace DN
open PySem L2
theorem IsA.append {g : G} {F : Hp} : ∀ {vs ws : List V} {ps qs : List P}, IsA g F vs ps → IsA g F ws qs → IsA g F (vs ++ ws) (ps ++ qs)
  | _, _, _, _, .nil, h => h
  | _, _, _, _, .cons h t, h' => .cons h (IsA.append t h')
theorem IsA.get {g : G} {F : Hp} : ∀ {vs : List V} {ps : List P} {i : Nat} {p : P}, IsA g F vs ps → ps[i]? = some p → ∃ v, vs[i]? = some v ∧ Is g F v p
  | _, _, _, _, .nil, e => by simp at e
  | _, _, 0, _, .cons h _, e => by simp at e; subst e; exact ⟨_, rfl, h⟩
  | _, _, i + 1, p, .cons _ t, e => by
    obtain ⟨v, h1, h2⟩ := IsA.get (i := i) (p := p) t (by simpa using e)
    exact ⟨v, by simpa using h1, h2⟩
theorem IsA.take {g : G} {F : Hp} : ∀ {vs : List V} {ps : List P} (n : Nat), IsA g F vs ps → IsA g F (vs.take n) (ps.take n)
  | _, _, 0, _ => .nil
  | _, _, _ + 1, .nil => .nil
  | _, _, n + 1, .cons h t => .cons h (IsA.take n t)
theorem IsA.drop {g : G} {F : Hp} : ∀ {vs : List V} {ps : List P} (n : Nat), IsA g F vs ps → IsA g F (vs.drop n) (ps.drop n)
  | _, _, 0, h => h
  | _, _, _ + 1, .nil => .nil
  | _, _, n + 1, .cons _ t => IsA.drop n t
theorem IsA.set {g : G} {F : Hp} {v : V} {p : P} (hv : Is g F v p) : ∀ {vs : List V} {ps : List P} (n : Nat), IsA g F vs ps → IsA g F (vs.set n v) (ps.set n p)
  | _, _, _, .nil => .nil
  | _, _, 0, .cons _ t => .cons hv t
  | _, _, n + 1, .cons h t => .cons h (IsA.set hv n t)
theorem IsA.erase {g : G} {F : Hp} : ∀ {vs : List V} {ps : List P} (n : Nat), IsA g F vs ps → IsA g F (vs.eraseIdx n) (ps.eraseIdx n)
  | _, _, _, .nil => .nil
  | _, _, 0, .cons _ t => t
  | _, _, n + 1, .cons h t => .cons h (IsA.erase n t)

/-! ### plus -/
theorem opd_addI {g : G} {K : PySem.W.Frag} (hK : K = g.K) : OpD g addD (fun x y H Q => (∃ i j, x = .int i ∧ y = .int j ∧ Q (.int (i + j)) H) ∨ (∃ i j, x = .str i ∧ y = .str j ∧ i.length + j.length ≤ sizeLine ∧ Q (.str (i ++ j)) H) ∨ rCatA K x y H Q ∨ rCat x y H Q) := by
  subst hK
  intro F ρ L H x y d e W Q hR hx hy hp
  have lists : (match asM L d, asM L e with
      | some a, some b => if a.length + b.length ≤ sizeLine then (some (Res.ok (D.v (.lst (a ++ b))), L) : Option (Res D × List MO)) else none
      | _, _ => none) = addD d e L → rCat x y H Q := fun eq => by
    rw [← eq] at hp
    match e1 : asM L d, e2 : asM L e with
    | some a, some b =>
      rw [e1, e2] at hp
      dsimp only at hp
      by_cases hz : a.length + b.length ≤ sizeLine
      · rw [if_pos hz] at hp
        obtain ⟨p, vs, r1, h1, i1⟩ := asM_at hR hx e1
        obtain ⟨q, ws, r2, h2, i2⟩ := asM_at hR hy e2
        refine ⟨p, q, vs, ws, r1, r2, h1, h2, by rw [i1.len, i2.len]; exact hz, fun n hn => hp.lst hR (i1.append i2) hn⟩
      · rw [if_neg hz] at hp
        exact hp.elim
    | none, _ =>
      rw [e1] at hp
      exact hp.elim
    | some a, none =>
      rw [e1, e2] at hp
      exact hp.elim
  have hI : ∀ a b : Int, IsD g F ρ L.length x (.v (.int a)) → IsD g F ρ L.length y (.v (.int b)) → Post g (relV g) F ρ L.length W Q (addD (.v (.int a)) (.v (.int b)) L) → ∃ i j, x = .int i ∧ y = .int j ∧ Q (.int (i + j)) H :=
    fun a b hx hy hp => ⟨a, b, Is.inv_int hx, Is.inv_int hy, hp.val hR (.int _)⟩
  have hS : ∀ a b : Str, IsD g F ρ L.length x (.v (.str a)) → IsD g F ρ L.length y (.v (.str b)) → Post g (relV g) F ρ L.length W Q (addD (.v (.str a)) (.v (.str b)) L) → ∃ i j, x = .str i ∧ y = .str j ∧ i.length + j.length ≤ sizeLine ∧ Q (.str (i ++ j)) H := fun a b hx hy hp => by
    unfold addD at hp
    dsimp only at hp
    by_cases hz : a.length + b.length ≤ sizeLine
    · rw [if_pos hz] at hp
      exact ⟨a, b, Is.inv_str hx, Is.inv_str hy, hz, hp.val hR (.str _)⟩
    · rw [if_neg hz] at hp
      exact False.elim hp
  have hT : ∀ a b : List P, IsD g F ρ L.length x (.v (.tup a)) → IsD g F ρ L.length y (.v (.tup b)) → Post g (relV g) F ρ L.length W Q (addD (.v (.tup a)) (.v (.tup b)) L) → rCatA g.K x y H Q := fun a b hx hy hp => by
    unfold addD at hp
    dsimp only at hp
    by_cases hz : a.length + b.length ≤ sizeLine
    · rw [if_pos hz] at hp
      obtain ⟨p, vs, rfl, h1, i1⟩ := Is.inv_tup hx
      obtain ⟨q, ws, rfl, h2, i2⟩ := Is.inv_tup hy
      refine ⟨p, q, vs, ws, rfl, rfl, hR.sub.sqT h1, hR.sub.sqT h2, by rw [i1.len, i2.len]; exact hz, fun z => ?_, fun _ z => ?_, fun _ _ n hn => hp.tup hR (i1.append i2) hn⟩
      · subst z
        cases i1
        exact hp.val hR hy
      · subst z
        cases i2
        rw [List.append_nil] at hp
        exact hp.val hR hx
    · rw [if_neg hz] at hp
      exact False.elim hp
  cases d with
  | r n => exact .inr (.inr (.inr (lists rfl)))
  | v p =>
    cases p with
    | int a =>
      cases e with
      | r n => exact False.elim hp
      | v q =>
        cases q with
        | int b => exact .inl (hI a b hx hy hp)
        | _ => exact False.elim hp
    | str a =>
      cases e with
      | r n => exact False.elim hp
      | v q =>
        cases q with
        | str b => exact .inr (.inl (hS a b hx hy hp))
        | _ => exact False.elim hp
    | tup a =>
      cases e with
      | r n => exact False.elim hp
      | v q =>
        cases q with
        | tup b => exact .inr (.inr (.inl (hT a b hx hy hp)))
        | _ => exact False.elim hp
    | _ => exact .inr (.inr (.inr (lists rfl)))
section
variable {X : Cx} {g : G} {W : WX} {a b c : Expr} {fa fb fc : Tau → M D} {pos : Pos}
theorem de_add (hK : X.K = g.K) (ha : PE X a (tE g W fa)) (hb : PE X b (tE g W fb)) : PE X (.BinOp a .Add b pos) (tE g W (bin addD fa fb)) :=
  de_op (op_add.or (op_add_str.or (op_catA.or op_cat))) (opd_addI hK) ha hb
def fdivD : D → D → M D := intOp (fun _ b => decide (0 < b) && decide (b < 1073741824)) fun a b => a / b
theorem de_fdiv (ha : PE X a (tE g W fa)) (hb : PE X b (tE g W fb)) : PE X (.BinOp a .FloorDiv b pos) (tE g W (bin fdivD fa fb)) :=
  de_op op_fdiv (opd_int fun a b h => by unfold CDiv; simpa using h) ha hb
end

/-! ### data -/
mutual
def toD : P → Option PyData
  | .non => some .none
  | .bl b => some (.bool b)
  | .int i => some (.int i)
  | .str x => some (.str x)
  | .tup xs => (toDs xs).map .tuple
  | .lst xs => (toDs xs).map .list
  | _ => none
def toDs : List P → Option (List PyData)
  | [] => some []
  | x :: xs => match toD x, toDs xs with
    | some d, some ds => some (d :: ds)
    | _, _ => none
end
mutual
theorem dp_of {g : G} {F H : Hp} (s : Sub F H) {v : V} {p : P} (h : Is g F v p) {d : PyData} (e : toD p = some d) : Dp g.K H v d := match h with
  | .non => by simp only [toD, Option.some.injEq] at e; subst e; exact .non
  | .bl b => by simp only [toD, Option.some.injEq] at e; subst e; exact .bl b
  | .int i => by simp only [toD, Option.some.injEq] at e; subst e; exact .int i
  | .str x => by simp only [toD, Option.some.injEq] at e; subst e; exact .str x
  | .tup h1 h2 => by
    simp only [toD, Option.map_eq_some_iff] at e
    obtain ⟨ds, e1, rfl⟩ := e
    exact .tup (s.sqT h1) (dps_of s h2 e1)
  | .lst h1 h2 => by
    simp only [toD, Option.map_eq_some_iff] at e
    obtain ⟨ds, e1, rfl⟩ := e
    exact .lst (SqL.of (s _ _ h1)) (dps_of s h2 e1)
  | .scr _ => by simp only [toD] at e; cases e
  | .ins _ _ _ _ => by simp only [toD] at e; cases e
theorem dps_of {g : G} {F H : Hp} (s : Sub F H) {vs : List V} {ps : List P} (h : IsA g F vs ps) {ds : List PyData} (e : toDs ps = some ds) : DpAll g.K H vs ds := match h with
  | .nil => by simp only [toDs, Option.some.injEq] at e; subst e; exact .nil
  | .cons (p := p) (ps := ps) h1 h2 => by
    simp only [toDs] at e
    match e1 : toD p, e2 : toDs ps with
    | some d, some ds' =>
      rw [e1, e2] at e
      cases e
      exact .cons (dp_of s h1 e1) (dps_of s h2 e2)
    | none, _ => rw [e1] at e; cases e
    | some _, none => rw [e1, e2] at e; cases e
end
/-- a value as data, lists of the ledger too -/
def dOf (L : List MO) : D → Option PyData
  | .v p => toD p
  | .r n => match L[n]? with
    | some (.lst xs) => (toDs xs).map .list
    | _ => none
theorem dOf_dp {g : G} {F H : Hp} {ρ : Nat → Addr} {L : List MO} {x : V} {d : D} (hR : R g F ρ L H) (hx : IsD g F ρ L.length x d) {y : PyData} (h : dOf L d = some y) : Dp g.K H x y := by
  match d, h, hx with
  | .v p, h, hx => exact dp_of hR.sub hx h
  | .r n, h, hx =>
    unfold dOf at h
    dsimp only at h
    match e : L[n]?, h with
    | some (.lst ys), h =>
      simp only [Option.map_eq_some_iff] at h
      obtain ⟨ds, e1, rfl⟩ := h
      obtain ⟨h1, vs, h2, h3⟩ := hR.ent n _ e (by intro z; cases z)
      rw [hx.2]
      exact .lst (SqL.of h2) (dps_of hR.sub h3 e1)
def okD (d : PyData) : Bool := SeqAt.shaped d
def eqD (neg : Bool) : D → D → M D := fun x y L => match dOf L x, dOf L y with
  | some a, some b => if (okD a && okD b) = true then some (.ok (.v (.bl (if neg = true then !PyData.eqv a b else PyData.eqv a b))), L) else none
  | _, _ => none
section
variable {X : Cx} {g : G} {W : WX} {a b c : Expr} {fa fb fc : Tau → M D} {pos : Pos}
theorem opd_eq : OpD g (eqD false) (rEqD g.K) := by
  intro F ρ L H x y d e W Q hR hx hy hp
  unfold eqD at hp
  match e1 : dOf L d, e2 : dOf L e with
  | some p, some q =>
    rw [e1, e2] at hp
    dsimp only at hp
    by_cases hk : (okD p && okD q) = true
    · rw [if_pos hk] at hp
      rw [Bool.and_eq_true] at hk
      exact ⟨p, q, dOf_dp hR hx e1, dOf_dp hR hy e2, hk.1, hk.2, hp.val hR (.bl _)⟩
    · rw [if_neg hk] at hp
      exact hp.elim
  | none, _ => rw [e1] at hp; exact hp.elim
  | some _, none => rw [e1, e2] at hp; exact hp.elim
theorem opd_ne : OpD g (eqD true) (rNeD g.K) := by
  intro F ρ L H x y d e W Q hR hx hy hp
  unfold eqD at hp
  match e1 : dOf L d, e2 : dOf L e with
  | some p, some q =>
    rw [e1, e2] at hp
    dsimp only at hp
    by_cases hk : (okD p && okD q) = true
    · rw [if_pos hk] at hp
      rw [Bool.and_eq_true] at hk
      exact ⟨p, q, dOf_dp hR hx e1, dOf_dp hR hy e2, hk.1, hk.2, hp.val hR (.bl _)⟩
    · rw [if_neg hk] at hp
      exact hp.elim
  | none, _ => rw [e1] at hp; exact hp.elim
  | some _, none => rw [e1, e2] at hp; exact hp.elim
theorem opd_eqK {K : PySem.W.Frag} (hK : K = g.K) : OpD g (eqD false) (rEqD K) := by subst hK; exact opd_eq
theorem opd_neK {K : PySem.W.Frag} (hK : K = g.K) : OpD g (eqD true) (rNeD K) := by subst hK; exact opd_ne
/-- a comparison -/
theorem de_cmp {op : CmpOp} {r : R2} {od : D → D → M D} (ho : OpR X (compareOp op) r) (hd : OpD g od r) (ha : PE X a (tE g W fa)) (hb : PE X b (tE g W fb)) (hm : behindInMarks op b = false) :
    PE X (.Compare a [op] [b] pos) (tE g W (bin od fa fb)) := by
  refine PE.weak (pe_cmpR ho ha hb hm) fun σ H Q h => ?_
  refine (Sat.bindV h).mono fun x H1 h1 => ?_
  obtain ⟨d, h1⟩ := h1
  refine (Sat.bindV h1).mono fun y H2 h2 => ?_
  obtain ⟨e, F, ρ, τ, L, hR, hS, hc, hp⟩ := h2
  exact hd F ρ L H2 x y d e _ Q hR (hc (x, d) (by simp)) (hc (y, e) (by simp)) hp
theorem de_eq (hK : X.K = g.K) (hu : X.A.units + 64 < cLine) (ha : PE X a (tE g W fa)) (hb : PE X b (tE g W fb)) : PE X (.Compare a [.Eq] [b] pos) (tE g W (bin (eqD false) fa fb)) := de_cmp (op_eqD hu) (opd_eqK hK) ha hb (nomark _)
theorem de_ne (hK : X.K = g.K) (hu : X.A.units + 64 < cLine) (ha : PE X a (tE g W fa)) (hb : PE X b (tE g W fb)) : PE X (.Compare a [.NotEq] [b] pos) (tE g W (bin (eqD true) fa fb)) := de_cmp (op_neD hu) (opd_neK hK) ha hb (nomark _)
/-- order: ints; texts and data that are alike -/
def ordI (f : Int → Int → Bool) : D → D → M D := fun x y L => match x, y with
  | .v (.int a), .v (.int b) => some (.ok (.v (.bl (f a b))), L)
  | _, _ => none
def ltOk (a : PyData) : Bool := decide (a.depth ≤ 64) && (match a with | .none => false | _ => true)
def ltD : D → D → M D := fun x y L => match x, y with
  | .v (.int a), .v (.int b) => some (.ok (.v (.bl (decide (a < b)))), L)
  | x, y => match dOf L x, dOf L y with
    | some a, some b => if (PySem.W.alike a b && ltOk a) = true then some (.ok (.v (.bl (PySem.W.dataLt a b))), L) else none
    | _, _ => none
theorem opd_ordI {f : Int → Int → Bool} : OpD g (ordI f) (rI0 fun i j => .bl (f i j)) := by
  intro F ρ L H x y d e W Q hR hx hy hp
  unfold ordI at hp
  match d, e, hx, hy, hp with
  | .v (.int p), .v (.int q), hx, hy, hp => exact ⟨p, q, Is.inv_int hx, Is.inv_int hy, hp.val hR (.bl _)⟩
theorem de_le (ha : PE X a (tE g W fa)) (hb : PE X b (tE g W fb)) : PE X (.Compare a [.LtE] [b] pos) (tE g W (bin (ordI fun i j => decide (i ≤ j)) fa fb)) := de_cmp op_le opd_ordI ha hb (nomark _)
theorem de_ge (ha : PE X a (tE g W fa)) (hb : PE X b (tE g W fb)) : PE X (.Compare a [.GtE] [b] pos) (tE g W (bin (ordI fun i j => decide (j ≤ i)) fa fb)) := de_cmp op_ge opd_ordI ha hb (nomark _)
theorem de_gt (ha : PE X a (tE g W fa)) (hb : PE X b (tE g W fb)) : PE X (.Compare a [.Gt] [b] pos) (tE g W (bin (ordI fun i j => decide (j < i)) fa fb)) := de_cmp op_gt opd_ordI ha hb (nomark _)
theorem de_ltI (ha : PE X a (tE g W fa)) (hb : PE X b (tE g W fb)) : PE X (.Compare a [.Lt] [b] pos) (tE g W (bin (ordI fun i j => decide (i < j)) fa fb)) := de_cmp op_lt opd_ordI ha hb (nomark _)
end
end DN

end
section
set_option Elab.async false
set_option linter.all false
set_option maxRecDepth 100000
set_option maxHeartbeats 4000000
/-! D3: tests, and, or, not; order; in; is None; subscripts, slices, displays. -/
namespace DN
open PySem L2
section
variable {g : G} {F : Hp} {ρ : Nat → Addr} {L : List MO} {H : Hp} {x y : V} {d e : D}
/-- a leaf: the value at hand is used up -/
theorem Sat.leaf1 {α β : Type} {rel : Hp → (Nat → Addr) → Nat → β → α → Prop} {W : WX} {ctx : List (V × D)} {k : D → M α} {σ : St} {Q : β → Hp → Prop} (h : Sat g rel W ((x, d) :: ctx) (fun _ => k d) σ H Q) :
    ∃ F ρ L, R g F ρ L H ∧ IsD g F ρ L.length x d ∧ Post g rel F ρ L.length (fun c d H' => W c d σ H') Q (k d L) := by
  obtain ⟨F, ρ, τ, L, hR, hS, hc, hp⟩ := h
  exact ⟨F, ρ, L, hR, hc (x, d) (by simp), hp⟩
theorem Post.bool {b : Bool} {n : Nat} {W : Value → Option Addr → Hp → Prop} {Q : Bool → Hp → Prop} (hR : R g F ρ L H) (h : Post g relB F ρ L.length W Q (some (.ok b, L))) : Q b H := h F ρ b H Ext.refl hR rfl
theorem Post.bnd {α β γ δ : Type} {ra : Hp → (Nat → Addr) → Nat → γ → α → Prop} {rb : Hp → (Nat → Addr) → Nat → δ → β → Prop} {m : M α} {k : α → M β} {n : Nat} {W : Value → Option Addr → Hp → Prop} {Q : δ → Hp → Prop} {Qa : γ → Hp → Prop}
    (h : Post g rb F ρ n W Q ((m >>= k) L)) (w : ∀ a L1 F1 ρ1 b H1, m L = some (.ok a, L1) → Ext F ρ n F1 ρ1 L1.length → R g F1 ρ1 L1 H1 → ra F1 ρ1 L1.length b a → Post g rb F1 ρ1 L1.length W Q (k a L1) → Qa b H1) : Post g ra F ρ n W Qa (m L) := by
  have h' : Post g rb F ρ n W Q (match m L with | none => none | some (.ok a, L1) => k a L1 | some (.ex c fs, L1) => some (.ex c fs, L1)) := h
  match e : m L with
  | none => rw [e] at h'; exact h'
  | some (.ex c fs, L1) => rw [e] at h'; exact h'
  | some (.ok a, L1) =>
    rw [e] at h'
    exact fun F1 ρ1 b H1 x1 x2 x3 => w a L1 F1 ρ1 b H1 e x1 x2 x3 (h'.ext x1)
end
def asB : D → M Bool := fun x L => match x with
  | .v (.bl b) => some (.ok b, L)
  | _ => none
def tstD (f : Tau → M D) (τ : Tau) : M Bool := f τ >>= asB
theorem asB_post {g : G} {F : Hp} {ρ : Nat → Addr} {L : List MO} {H : Hp} {x : V} {d : D} {W : Value → Option Addr → Hp → Prop} {Q : Bool → Hp → Prop} (hR : R g F ρ L H) (hx : IsD g F ρ L.length x d) (hp : Post g relB F ρ L.length W Q (asB d L)) : ∃ c, x = .bl c ∧ Q c H := by
  match d, hx, hp with
  | .v (.bl b), hx, hp => exact ⟨b, Is.inv_bl hx, Post.bool (n := 0) hR hp⟩
section
variable {X : Cx} {g : G} {W : WX} {a b c e : Expr} {fa fb fc f : Tau → M D} {ta tb : Tau → M Bool} {pos : Pos}
theorem tst_of {σ : St} {H : Hp} {Q : Bool → Hp → Prop} (h : tT g W (tstD f) σ H Q) : tE g W f σ H fun x H1 => ∃ c, x = .bl c ∧ Q c H1 := by
  refine (Sat.bindV h).mono fun x H1 h1 => ?_
  obtain ⟨d, F, ρ, τ, L, hR, hS, hc, hp⟩ := h1
  exact asB_post hR (hc (x, d) (by simp)) hp
theorem dt_val (h : PE X e (tE g W f)) (he : ∀ whole, isTrue e X.env whole = (do let v ← whole; standAt e.pos; holding [v] (truthy v)) := by intro _; rfl) : PT X e (tT g W (tstD f)) :=
  PT.weak (pt_val h he) fun σ H Q q => tst_of q
theorem dt_cmp {op : CmpOp} {r : R2} {od : D → D → M D} (ho : OpR X (compareOp op) r) (hd : OpD g od r) (ha : PE X a (tE g W fa)) (hb : PE X b (tE g W fb)) (hm : behindInMarks op b = false) :
    PT X (.Compare a [op] [b] pos) (tT g W (tstD (bin od fa fb))) := by
  refine PT.weak (pt_cmpR ho ha hb hm) fun σ H Q h => ?_
  have h0 := tst_of h
  refine (Sat.bindV h0).mono fun x H1 h1 => ?_
  obtain ⟨d, h1⟩ := h1
  refine (Sat.bindV h1).mono fun y H2 h2 => ?_
  obtain ⟨e, F, ρ, τ, L, hR, hS, hc, hp⟩ := h2
  exact hd F ρ L H2 x y d e _ _ hR (hc (x, d) (by simp)) (hc (y, e) (by simp)) hp
theorem dt_eq (hK : X.K = g.K) (hu : X.A.units + 64 < cLine) (ha : PE X a (tE g W fa)) (hb : PE X b (tE g W fb)) : PT X (.Compare a [.Eq] [b] pos) (tT g W (tstD (bin (eqD false) fa fb))) := dt_cmp (op_eqD hu) (opd_eqK hK) ha hb (nomark _)
theorem dt_ne (hK : X.K = g.K) (hu : X.A.units + 64 < cLine) (ha : PE X a (tE g W fa)) (hb : PE X b (tE g W fb)) : PT X (.Compare a [.NotEq] [b] pos) (tT g W (tstD (bin (eqD true) fa fb))) := dt_cmp (op_neD hu) (opd_neK hK) ha hb (nomark _)
theorem dt_le (ha : PE X a (tE g W fa)) (hb : PE X b (tE g W fb)) : PT X (.Compare a [.LtE] [b] pos) (tT g W (tstD (bin (ordI fun i j => decide (i ≤ j)) fa fb))) := dt_cmp op_le opd_ordI ha hb (nomark _)
theorem dt_ge (ha : PE X a (tE g W fa)) (hb : PE X b (tE g W fb)) : PT X (.Compare a [.GtE] [b] pos) (tT g W (tstD (bin (ordI fun i j => decide (j ≤ i)) fa fb))) := dt_cmp op_ge opd_ordI ha hb (nomark _)
theorem dt_gt (ha : PE X a (tE g W fa)) (hb : PE X b (tE g W fb)) : PT X (.Compare a [.Gt] [b] pos) (tT g W (tstD (bin (ordI fun i j => decide (j < i)) fa fb))) := dt_cmp op_gt opd_ordI ha hb (nomark _)
theorem dt_ltI (ha : PE X a (tE g W fa)) (hb : PE X b (tE g W fb)) : PT X (.Compare a [.Lt] [b] pos) (tT g W (tstD (bin (ordI fun i j => decide (i < j)) fa fb))) := dt_cmp op_lt opd_ordI ha hb (nomark _)

/-! ### less than, for data -/
def rLtD (K : PySem.W.Frag) : R2 := fun x y H Q => ∃ d e, Dp K H x d ∧ Dp K H y e ∧ PySem.W.alike d e = true ∧ ltOk d = true ∧ Q (.bl (PySem.W.dataLt d e)) H
theorem op_ltD (hu : X.A.units + 64 < cLine) : OpR X (compareOp .Lt) (rLtD X.K) := by
  intro pins s σ H x y v u Q I rx ry h
  obtain ⟨d, e, hd, he, al, ok, q⟩ := h
  obtain ⟨as, r1⟩ := Dp.reads I d x v hd rx
  obtain ⟨bs, r2⟩ := Dp.reads I e y u he ry
  unfold ltOk at ok
  rw [Bool.and_eq_true] at ok
  have hdep : d.depth ≤ 64 := of_decide_eq_true ok.1
  have hm : min d.depth e.depth ≤ d.depth := Nat.min_le_left _ _
  refine PySem.W.rcLt_alike d e X.A s v u as bs r1 r2 al (fun z => ?_) (by omega) X.prog X.w X.xe _ ⟨.bl _, H, I, rfl, q⟩
  rw [z] at ok
  exact absurd ok.2 (by decide)
theorem opd_lt {K : PySem.W.Frag} (hK : K = g.K) : OpD g ltD (fun x y H Q => rI0 (fun i j => .bl (decide (i < j))) x y H Q ∨ rLtD K x y H Q) := by
  subst hK
  intro F ρ L H x y d e W Q hR hx hy hp
  have dat : (match dOf L d, dOf L e with
    | some a, some b => if (PySem.W.alike a b && ltOk a) = true then (some (Res.ok (D.v (.bl (PySem.W.dataLt a b))), L) : Option (Res D × List MO)) else none
    | _, _ => none) = ltD d e L → rLtD g.K x y H Q := fun eq => by
    rw [← eq] at hp
    match e1 : dOf L d, e2 : dOf L e with
    | some p, some q =>
      rw [e1, e2] at hp
      dsimp only at hp
      by_cases hk : (PySem.W.alike p q && ltOk p) = true
      · rw [if_pos hk] at hp
        rw [Bool.and_eq_true] at hk
        exact ⟨p, q, dOf_dp hR hx e1, dOf_dp hR hy e2, hk.1, hk.2, hp.val hR (.bl _)⟩
      · rw [if_neg hk] at hp
        exact False.elim hp
    | none, _ => rw [e1] at hp; exact False.elim hp
    | some _, none => rw [e1, e2] at hp; exact False.elim hp
  cases d with
  | r n => exact .inr (dat rfl)
  | v p =>
    cases p with
    | int a =>
      cases e with
      | r n => exact .inr (dat rfl)
      | v q =>
        cases q with
        | int b => exact .inl ⟨a, b, Is.inv_int hx, Is.inv_int hy, hp.val hR (.bl _)⟩
        | _ => exact .inr (dat rfl)
    | _ => exact .inr (dat rfl)
theorem de_lt (hK : X.K = g.K) (hu : X.A.units + 64 < cLine) (ha : PE X a (tE g W fa)) (hb : PE X b (tE g W fb)) : PE X (.Compare a [.Lt] [b] pos) (tE g W (bin ltD fa fb)) := de_cmp (op_lt.or (op_ltD hu)) (opd_lt hK) ha hb (nomark _)
theorem dt_lt (hK : X.K = g.K) (hu : X.A.units + 64 < cLine) (ha : PE X a (tE g W fa)) (hb : PE X b (tE g W fb)) : PT X (.Compare a [.Lt] [b] pos) (tT g W (tstD (bin ltD fa fb))) := dt_cmp (op_lt.or (op_ltD hu)) (opd_lt hK) ha hb (nomark _)

/-! ### in -/
def inD (neg : Bool) : D → D → M D := fun x y L => match dOf L x, dOf L y with
  | some a, some (.list bs) => if (okD a && okD (.list bs)) = true then some (.ok (.v (.bl (xor neg (bs.any fun z => PyData.eqv z a)))), L) else none
  | some a, some (.tuple bs) => if (okD a && okD (.list bs)) = true then some (.ok (.v (.bl (xor neg (bs.any fun z => PyData.eqv z a)))), L) else none
  | some (.str ⟨cs⟩), some (.str z) => if cs.size = 1 then some (.ok (.v (.bl (xor neg (decide (cs.getD 0 0 ∈ z.cps.toList))))), L) else none
  | _, _ => none
def rInD2 (K : PySem.W.Frag) (neg : Bool) : R2 := fun x y H Q => ∃ d ds, Dp K H x d ∧ (Dp K H y (.list ds) ∨ Dp K H y (.tuple ds)) ∧ SeqAt.shaped d = true ∧ SeqAt.shaped (.list ds) = true ∧ Q (.bl (xor neg (ds.any fun z => PyData.eqv z d))) H
theorem room_shp {A : Around} {d : PyData} {ds : List PyData} (h : SeqAt.shaped d = true) (hu : A.units + 65 < cLine) : A.units + 1 + min (PyData.depthAll ds) d.depth < cLine := by
  have h1 := SeqAt.depth_of_shaped h
  have h2 : min (PyData.depthAll ds) d.depth ≤ d.depth := Nat.min_le_right _ _
  omega
theorem op_in2 (hu : X.A.units + 65 < cLine) : OpR X (compareOp .In) (rInD2 X.K false) := by
  intro pins s σ H x y v u Q I rx ry h
  obtain ⟨d, ds, hd, he, sd, se, q⟩ := h
  obtain ⟨as, r1⟩ := Dp.reads I d x v hd rx
  rw [Bool.false_xor] at q
  rcases he with he | he
  · obtain ⟨bs, r2⟩ := Dp.reads I (.list ds) y u he ry
    exact SeqAt.in_list_reads r2 r1 (SeqAt.canLay_of_shaped se) (SeqAt.canLay_of_shaped sd) (room_shp sd hu) ⟨.bl _, H, I, rfl, q⟩
  · obtain ⟨bs, r2⟩ := Dp.reads I (.tuple ds) y u he ry
    exact SeqAt.in_tuple_reads r2 r1 (SeqAt.canLay_of_shaped se) (SeqAt.canLay_of_shaped sd) (room_shp sd hu) ⟨.bl _, H, I, rfl, q⟩
theorem op_nin2 (hu : X.A.units + 65 < cLine) : OpR X (compareOp .NotIn) (rInD2 X.K true) := by
  intro pins s σ H x y v u Q I rx ry h
  obtain ⟨d, ds, hd, he, sd, se, q⟩ := h
  obtain ⟨as, r1⟩ := Dp.reads I d x v hd rx
  rw [Bool.true_xor] at q
  rcases he with he | he
  · obtain ⟨bs, r2⟩ := Dp.reads I (.list ds) y u he ry
    exact SeqAt.notIn_list_reads r2 r1 (SeqAt.canLay_of_shaped se) (SeqAt.canLay_of_shaped sd) (room_shp sd hu) ⟨.bl _, H, I, rfl, q⟩
  · obtain ⟨bs, r2⟩ := Dp.reads I (.tuple ds) y u he ry
    exact SeqAt.notIn_tuple_reads r2 r1 (SeqAt.canLay_of_shaped se) (SeqAt.canLay_of_shaped sd) (room_shp sd hu) ⟨.bl _, H, I, rfl, q⟩
def rInS2 (neg : Bool) : R2 := fun x y H Q => ∃ (c : Nat) (z : Str), x = .str ⟨#[c]⟩ ∧ y = .str z ∧ Q (.bl (xor neg (decide (c ∈ z.cps.toList)))) H
theorem op_inS2 : OpR X (compareOp .In) (rInS2 false) := fun pins s σ H x y v u Q I rx ry ⟨c, z, e1, e2, q⟩ => op_in_sign pins s σ H x y v u Q I rx ry ⟨c, z, e1, e2, by rwa [Bool.false_xor] at q⟩
theorem op_ninS2 : OpR X (compareOp .NotIn) (rInS2 true) := fun pins s σ H x y v u Q I rx ry ⟨c, z, e1, e2, q⟩ => op_notIn_sign pins s σ H x y v u Q I rx ry ⟨c, z, e1, e2, by rwa [Bool.true_xor] at q⟩
theorem arr_one {cs : Array Nat} (h : cs.size = 1) : cs = #[cs.getD 0 0] := by
  obtain ⟨l⟩ := cs
  match l, h with
  | [a], _ => rfl
theorem dp_str {K : PySem.W.Frag} {H : Hp} {x : V} {z : Str} (h : Dp K H x (.str z)) : x = .str z := by cases h; rfl
theorem opd_in {K : PySem.W.Frag} {neg : Bool} (hK : K = g.K) : OpD g (inD neg) (fun x y H Q => rInD2 K neg x y H Q ∨ rInS2 neg x y H Q) := by
  subst hK
  intro F ρ L H x y d e W Q hR hx hy hp
  unfold inD at hp
  match e1 : dOf L d, e2 : dOf L e with
  | some p, some (.list bs) =>
    rw [e1, e2] at hp
    dsimp only at hp
    by_cases hk : (okD p && okD (.list bs)) = true
    · rw [if_pos hk] at hp
      rw [Bool.and_eq_true] at hk
      exact .inl ⟨p, bs, dOf_dp hR hx e1, .inl (dOf_dp hR hy e2), hk.1, hk.2, hp.val hR (.bl _)⟩
    · rw [if_neg hk] at hp
      exact False.elim hp
  | some p, some (.tuple bs) =>
    rw [e1, e2] at hp
    dsimp only at hp
    by_cases hk : (okD p && okD (.list bs)) = true
    · rw [if_pos hk] at hp
      rw [Bool.and_eq_true] at hk
      exact .inl ⟨p, bs, dOf_dp hR hx e1, .inr (dOf_dp hR hy e2), hk.1, hk.2, hp.val hR (.bl _)⟩
    · rw [if_neg hk] at hp
      exact False.elim hp
  | some (.str ⟨cs⟩), some (.str z) =>
    rw [e1, e2] at hp
    dsimp only at hp
    by_cases hk : cs.size = 1
    · rw [if_pos hk] at hp
      exact .inr ⟨cs.getD 0 0, z, (dp_str (dOf_dp hR hx e1)).trans (by rw [← arr_one hk]), dp_str (dOf_dp hR hy e2), hp.val hR (.bl _)⟩
    · rw [if_neg hk] at hp
      exact False.elim hp
  | none, _ => rw [e1] at hp; exact False.elim hp
  | some p, none => rw [e1, e2] at hp; cases p <;> exact False.elim hp
  | some p, some .none => rw [e1, e2] at hp; cases p <;> exact False.elim hp
  | some p, some (.bool _) => rw [e1, e2] at hp; cases p <;> exact False.elim hp
  | some p, some (.int _) => rw [e1, e2] at hp; cases p <;> exact False.elim hp
  | some p, some (.dict _) => rw [e1, e2] at hp; cases p <;> exact False.elim hp
  | some .none, some (.str z) => rw [e1, e2] at hp; exact False.elim hp
  | some (.bool _), some (.str z) => rw [e1, e2] at hp; exact False.elim hp
  | some (.int _), some (.str z) => rw [e1, e2] at hp; exact False.elim hp
  | some (.list _), some (.str z) => rw [e1, e2] at hp; exact False.elim hp
  | some (.tuple _), some (.str z) => rw [e1, e2] at hp; exact False.elim hp
  | some (.dict _), some (.str z) => rw [e1, e2] at hp; exact False.elim hp
theorem de_in (hK : X.K = g.K) (hu : X.A.units + 65 < cLine) (hm : behindInMarks .In b = false) (ha : PE X a (tE g W fa)) (hb : PE X b (tE g W fb)) : PE X (.Compare a [.In] [b] pos) (tE g W (bin (inD false) fa fb)) := de_cmp ((op_in2 hu).or op_inS2) (opd_in hK) ha hb hm
theorem de_nin (hK : X.K = g.K) (hu : X.A.units + 65 < cLine) (hm : behindInMarks .NotIn b = false) (ha : PE X a (tE g W fa)) (hb : PE X b (tE g W fb)) : PE X (.Compare a [.NotIn] [b] pos) (tE g W (bin (inD true) fa fb)) := de_cmp ((op_nin2 hu).or op_ninS2) (opd_in hK) ha hb hm
theorem dt_in (hK : X.K = g.K) (hu : X.A.units + 65 < cLine) (hm : behindInMarks .In b = false) (ha : PE X a (tE g W fa)) (hb : PE X b (tE g W fb)) : PT X (.Compare a [.In] [b] pos) (tT g W (tstD (bin (inD false) fa fb))) := dt_cmp ((op_in2 hu).or op_inS2) (opd_in hK) ha hb hm
theorem dt_nin (hK : X.K = g.K) (hu : X.A.units + 65 < cLine) (hm : behindInMarks .NotIn b = false) (ha : PE X a (tE g W fa)) (hb : PE X b (tE g W fb)) : PT X (.Compare a [.NotIn] [b] pos) (tT g W (tstD (bin (inD true) fa fb))) := dt_cmp ((op_nin2 hu).or op_ninS2) (opd_in hK) ha hb hm

/-! ### is None -/
def isNon : D → Bool
  | .v .non => true
  | _ => false
def isN (neg : Bool) : D → D → M D := fun x y L => match y with
  | .v .non => some (.ok (.v (.bl (xor neg (isNon x)))), L)
  | _ => none
theorem Is.ne_non {F : Hp} {v : V} {p : P} (h : Is g F v p) (hp : p ≠ .non) : v ≠ .non := by
  cases h <;> first | exact absurd rfl hp | (intro z; cases z)
theorem isN_dec {F : Hp} {ρ : Nat → Addr} {n : Nat} {x : V} {d : D} (hx : IsD g F ρ n x d) : decide (x = .non) = isNon d := by
  cases d with
  | r n =>
    rw [hx.2]
    rfl
  | v p =>
    by_cases z : p = .non
    · subst z
      rw [Is.inv_non hx]
      rfl
    · rw [decide_eq_false (Is.ne_non hx z)]
      cases p <;> first | rfl | exact absurd rfl z
theorem opd_isN : OpD g (isN false) (fun x y H Q => y = .non ∧ Q (.bl (decide (x = .non))) H) := by
  intro F ρ L H x y d e W Q hR hx hy hp
  unfold isN at hp
  match e, hy, hp with
  | .v .non, hy, hp =>
    refine ⟨Is.inv_non hy, ?_⟩
    rw [isN_dec hx]
    have q := hp.val hR (.bl _)
    rwa [Bool.false_xor] at q
theorem opd_notN : OpD g (isN true) (fun x y H Q => y = .non ∧ Q (.bl (!decide (x = .non))) H) := by
  intro F ρ L H x y d e W Q hR hx hy hp
  unfold isN at hp
  match e, hy, hp with
  | .v .non, hy, hp =>
    refine ⟨Is.inv_non hy, ?_⟩
    rw [isN_dec hx]
    have q := hp.val hR (.bl _)
    rwa [Bool.true_xor] at q
theorem de_is (ha : PE X a (tE g W fa)) (hb : PE X b (tE g W fb)) : PE X (.Compare a [.Is] [b] pos) (tE g W (bin (isN false) fa fb)) := de_cmp op_isN opd_isN ha hb (nomark _)
theorem de_isnt (ha : PE X a (tE g W fa)) (hb : PE X b (tE g W fb)) : PE X (.Compare a [.IsNot] [b] pos) (tE g W (bin (isN true) fa fb)) := de_cmp op_notN opd_notN ha hb (nomark _)
theorem dt_is (ha : PE X a (tE g W fa)) (hb : PE X b (tE g W fb)) : PT X (.Compare a [.Is] [b] pos) (tT g W (tstD (bin (isN false) fa fb))) := dt_cmp op_isN opd_isN ha hb (nomark _)
theorem dt_isnt (ha : PE X a (tE g W fa)) (hb : PE X b (tE g W fb)) : PT X (.Compare a [.IsNot] [b] pos) (tT g W (tstD (bin (isN true) fa fb))) := dt_cmp op_notN opd_notN ha hb (nomark _)
end
end DN

end
section
set_option Elab.async false
set_option linter.all false
set_option maxRecDepth 100000
set_option maxHeartbeats 4000000
/-! D4: and, or, not, if-else; chains; subscripts; slices; arguments, displays; truth; built-ins by name. -/
namespace DN
open PySem L2
section
variable {X : Cx} {g : G} {W : WX} {a b c e : Expr} {fa fb fc f : Tau → M D} {ta tb : Tau → M Bool} {pos : Pos} {rest : List Expr}
/-! ### and, or, not as tests -/
theorem Sat.bindB {β δ : Type} {rb : Hp → (Nat → Addr) → Nat → δ → β → Prop} {ctx : List (V × D)} {k : Tau → Bool → M β} {σ : St} {H : Hp} {Q : δ → Hp → Prop}
    (h : Sat g rb W ctx (fun τ => ta τ >>= k τ) σ H Q) : tT g W ta σ H fun b H1 => Sat g rb W ctx (fun τ => k τ b) σ H1 Q := by
  obtain ⟨F, ρ, τ, L, hR, hS, hc, hp⟩ := Sat.bind (ra := relB) h
  refine ⟨F, ρ, τ, L, hR, hS, hc, ?_⟩
  refine hp.mono fun b H1 ⟨F2, ρ2, τ2, L2, d2, a1, a2, a3, a4, a5⟩ => ?_
  subst a4
  exact ⟨F2, ρ2, τ2, L2, a1, a2, a3, a5⟩
def andB (ta tb : Tau → M Bool) (τ : Tau) : M Bool := do
  let b ← ta τ
  if b then tb τ else pure false
def orB (ta tb : Tau → M Bool) (τ : Tau) : M Bool := do
  let b ← ta τ
  if b then pure true else tb τ
def notB (ta : Tau → M Bool) (τ : Tau) : M Bool := do
  let b ← ta τ
  pure (!b)
theorem Sat.retB {ctx : List (V × D)} {σ : St} {H : Hp} {Q : Bool → Hp → Prop} {b : Bool} (h : Sat g relB W ctx (fun _ => pure b) σ H Q) : Q b H := by
  obtain ⟨F, ρ, τ, L, hR, hS, hc, hp⟩ := h
  exact hp F ρ b H Ext.refl hR rfl
theorem dw_and1 (ha : PT X a (tT g W ta)) : PW X (.BoolOp .And [a] pos) (tT g W ta) := pw_and1 ha
theorem dw_or1 (ha : PT X a (tT g W ta)) : PW X (.BoolOp .Or [a] pos) (tT g W ta) := pw_or1 ha
theorem PW.weak {t t' : TT} (h : PW X e t) (w : ∀ σ H Q, t' σ H Q → t σ H Q) : PW X e t' := ⟨fun wh pins s σ H Q I q => h.run wh pins s σ H Q I (w σ H Q q)⟩
theorem dw_and (ha : PT X a (tT g W ta)) (hb : PW X (.BoolOp .And (b :: rest) pos) (tT g W tb)) : PW X (.BoolOp .And (a :: b :: rest) pos) (tT g W (andB ta tb)) := by
  refine PW.weak (pw_and ha hb) fun σ H Q h => (Sat.bindB h).mono fun b H1 h1 => ?_
  cases b with
  | true => exact h1
  | false => exact Sat.retB h1
theorem dw_or (ha : PT X a (tT g W ta)) (hb : PW X (.BoolOp .Or (b :: rest) pos) (tT g W tb)) : PW X (.BoolOp .Or (a :: b :: rest) pos) (tT g W (orB ta tb)) := by
  refine PW.weak (pw_or ha hb) fun σ H Q h => (Sat.bindB h).mono fun b H1 h1 => ?_
  cases b with
  | true => exact Sat.retB h1
  | false => exact h1
theorem dt_not (ha : PT X a (tT g W ta)) : PT X (.UnaryOp .Not a pos) (tT g W (notB ta)) := by
  refine PT.weak (pt_not ha) fun σ H Q h => (Sat.bindB h).mono fun b H1 h1 => ?_
  exact Sat.retB h1
/-- .. as values of True, False -/
def valB (ta : Tau → M Bool) (τ : Tau) : M D := do
  let b ← ta τ
  pure (.v (.bl b))
theorem Sat.bindVal {β δ : Type} {rb : Hp → (Nat → Addr) → Nat → δ → β → Prop} {ctx : List (V × D)} {k : Tau → Bool → M β} {σ : St} {H : Hp} {Q : δ → Hp → Prop}
    (h : Sat g rb W ctx (fun τ => ta τ >>= k τ) σ H Q) : tE g W (valB ta) σ H fun x H1 => ∃ c, x = .bl c ∧ Sat g rb W ctx (fun τ => k τ c) σ H1 Q := by
  obtain ⟨F, ρ, τ, L, hR, hS, hc, hp⟩ := Sat.bind (ra := relB) h
  refine ⟨F, ρ, τ, L, hR, hS, hc, ?_⟩
  show Post g (relV g) F ρ L.length _ _ (M.bnd (ta τ) (fun b => M.ret (D.v (P.bl b))) L)
  unfold M.bnd M.ret
  match e : ta τ L with
  | none => rw [e] at hp; exact hp
  | some (.ex c fs, L1) => rw [e] at hp; exact hp
  | some (.ok d, L1) =>
    rw [e] at hp
    intro F1 ρ1 x H1 x1 x2 x3
    obtain ⟨F2, ρ2, τ2, L2, d2, a1, a2, a3, a4, a5⟩ := hp F1 ρ1 d H1 x1 x2 rfl
    subst a4
    exact ⟨d, Is.inv_bl x3, F2, ρ2, τ2, L2, a1, a2, a3, a5⟩
theorem de_one {op} (h : PE X a (tE g W f)) : PE X (.BoolOp op [a] pos) (tE g W f) := pe_one h
def andV (ta : Tau → M Bool) (fb : Tau → M D) (τ : Tau) : M D := do
  let b ← ta τ
  if b then fb τ else pure (.v (.bl false))
def orV (ta : Tau → M Bool) (fb : Tau → M D) (τ : Tau) : M D := do
  let b ← ta τ
  if b then pure (.v (.bl true)) else fb τ
def notV (ta : Tau → M Bool) (τ : Tau) : M D := do
  let b ← ta τ
  pure (.v (.bl (!b)))
theorem Sat.retV {ctx : List (V × D)} {σ : St} {H : Hp} {Q : V → Hp → Prop} {b : Bool} (h : Sat g (relV g) W ctx (fun _ => pure (D.v (.bl b))) σ H Q) : Q (.bl b) H := by
  obtain ⟨F, ρ, τ, L, hR, hS, hc, hp⟩ := h
  exact hp F ρ _ H Ext.refl hR (Is.bl b)
/-- an expression that gives True or False only: the value of its test -/
theorem tE_tst {σ : St} {H : Hp} {Q : VK} (h : tE g W (valB (tstD f)) σ H Q) : tE g W f σ H Q := by
  have h0 : Sat g (relV g) W [] (fun τ => f τ >>= fun d => asB d >>= fun b => pure (.v (.bl b))) σ H Q := by
    obtain ⟨F, ρ, τ, L, hR, hS, hc, hp⟩ := h
    refine ⟨F, ρ, τ, L, hR, hS, hc, ?_⟩
    have e : (valB (tstD f) τ : M D) L = (f τ >>= fun d => asB d >>= fun b => (pure (D.v (.bl b)) : M D)) L := by
      show M.bnd (M.bnd (f τ) asB) _ L = M.bnd (f τ) _ L
      unfold M.bnd
      match e : f τ L with
      | none => rfl
      | some (.ex c fs, L1) => rfl
      | some (.ok d, L1) => rfl
    exact Eq.mp (congrArg (fun o => Post g (relV g) F ρ L.length (fun c d H' => W c d σ H') Q o) e) hp
  refine (Sat.bindV h0).mono fun x H1 h1 => ?_
  obtain ⟨d, F, ρ, τ, L, hR, hS, hc, hp⟩ := h1
  have hx := hc (x, d) (by simp)
  match d, hx, hp with
  | .v (.bl b), hx, hp =>
    have e : x = .bl b := Is.inv_bl hx
    subst e
    exact hp F ρ _ H1 Ext.refl hR (Is.bl b)
theorem de_and (ha : PE X a (tE g W fa)) (hb : PE X (.BoolOp .And (b :: rest) pos) (tE g W fb)) : PE X (.BoolOp .And (a :: b :: rest) pos) (tE g W (andV (tstD fa) fb)) := by
  refine PE.weak (pe_and ha hb) fun σ H Q h => tE_tst ((Sat.bindVal h).mono fun x H1 h1 => ?_)
  obtain ⟨c, rfl, h1⟩ := h1
  refine ⟨c, rfl, ?_⟩
  cases c with
  | true => exact h1
  | false => exact Sat.retV h1
theorem de_or (ha : PE X a (tE g W fa)) (hb : PE X (.BoolOp .Or (b :: rest) pos) (tE g W fb)) : PE X (.BoolOp .Or (a :: b :: rest) pos) (tE g W (orV (tstD fa) fb)) := by
  refine PE.weak (pe_or ha hb) fun σ H Q h => tE_tst ((Sat.bindVal h).mono fun x H1 h1 => ?_)
  obtain ⟨c, rfl, h1⟩ := h1
  refine ⟨c, rfl, ?_⟩
  cases c with
  | true => exact Sat.retV h1
  | false => exact h1
theorem de_not (ha : PE X a (tE g W fa)) : PE X (.UnaryOp .Not a pos) (tE g W (notV (tstD fa))) := by
  refine PE.weak (pe_not ha) fun σ H Q h => tE_tst ((Sat.bindVal h).mono fun x H1 h1 => ?_)
  obtain ⟨c, rfl, h1⟩ := h1
  exact ⟨c, rfl, Sat.retV h1⟩
def ifE (t : Tau → M Bool) (fa fb : Tau → M D) (τ : Tau) : M D := do
  let b ← t τ
  if b then fa τ else fb τ
theorem de_if (hc : PT X c (tT g W ta)) (ha : PE X a (tE g W fa)) (hb : PE X b (tE g W fb)) : PE X (.IfExp c a b pos) (tE g W (ifE ta fa fb)) := by
  refine PE.weak (pe_ifExp hc ha hb) fun σ H Q h => (Sat.bindB h).mono fun b H1 h1 => ?_
  cases b with
  | true => exact h1
  | false => exact h1
/-! ### a < b < c -/
def chn (o1 o2 : D → D → M D) (fa fb fc : Tau → M D) (τ : Tau) : M D := do
  let x ← fa τ
  let y ← fb τ
  let z ← o1 x y
  let k ← asB z
  if k then (do let w ← fc τ; o2 y w) else pure (.v (.bl false))
theorem chn_sat {r r' : R2} {o1 o2 : D → D → M D} (h1 : OpD g o1 r) (h2 : OpD g o2 r') {σ : St} {H : Hp} {Q : VK} (h : tE g W (chn o1 o2 fa fb fc) σ H Q) : tChain r r' (tE g W fa) (tE g W fb) (tE g W fc) σ H Q := by
  refine (Sat.bindV h).mono fun x H1 q1 => ?_
  obtain ⟨d, q1⟩ := q1
  refine (Sat.bindV q1).mono fun y H2 q2 => ?_
  obtain ⟨e, F, ρ, τ, L, hR, hS, hc, hp⟩ := q2
  have hx := hc (x, d) (by simp)
  have hy := hc (y, e) (by simp)
  refine h1 F ρ L H2 x y d e (fun c d H' => W c d σ H') _ hR hx hy (Post.bnd (ra := relV g) hp fun z L1 F1 ρ1 v H3 ez x1 hR1 hz hp1 => ?_)
  have hy1 := hy.ext x1
  have hS1 := hS.ext x1
  match z, hz, hp1 with
  | .v (.bl k), hz, hp1 =>
    refine ⟨k, Is.inv_bl hz, ?_⟩
    cases k with
    | false =>
      rw [if_neg Bool.false_ne_true]
      exact hp1 F1 ρ1 _ H3 Ext.refl hR1 (Is.bl false)
    | true =>
      rw [if_pos rfl]
      have q3 : Sat g (relV g) W [(y, e)] (fun τ => fc τ >>= o2 e) σ H3 Q := ⟨F1, ρ1, τ, L1, hR1, hS1, fun p hp => by rw [List.mem_singleton.mp hp]; exact hy1, hp1⟩
      refine (Sat.bindV q3).mono fun w H4 q4 => ?_
      obtain ⟨dw, F2, ρ2, τ2, L2, hR2, hS2, hc2, hp2⟩ := q4
      exact h2 F2 ρ2 L2 H4 y w e dw _ _ hR2 (hc2 (y, e) (by simp)) (hc2 (w, dw) (by simp)) hp2
theorem de_chain {op op' : CmpOp} {r r' : R2} {o1 o2 : D → D → M D} (ho : OpR X (compareOp op) r) (ho' : OpR X (compareOp op') r') (h1 : OpD g o1 r) (h2 : OpD g o2 r') (ha : PE X a (tE g W fa)) (hb : PE X b (tE g W fb)) (hc : PE X c (tE g W fc))
    (hm : lastMarks [op, op'] [b, c] = false := by with_unfolding_all rfl) : PE X (.Compare a [op, op'] [b, c] pos) (tE g W (chn o1 o2 fa fb fc)) :=
  PE.weak (pe_chain ho ho' ha hb hc hm) fun σ H Q h => chn_sat h1 h2 h
theorem dt_chain {op op' : CmpOp} {r r' : R2} {o1 o2 : D → D → M D} (ho : OpR X (compareOp op) r) (ho' : OpR X (compareOp op') r') (h1 : OpD g o1 r) (h2 : OpD g o2 r') (ha : PE X a (tE g W fa)) (hb : PE X b (tE g W fb)) (hc : PE X c (tE g W fc))
    (hm : lastMarks [op, op'] [b, c] = false := by with_unfolding_all rfl) : PT X (.Compare a [op, op'] [b, c] pos) (tT g W (tstD (chn o1 o2 fa fb fc))) :=
  PT.weak (pt_chain ho ho' ha hb hc hm) fun σ H Q h => chn_sat h1 h2 (tst_of h)

/-! ### subscripts -/
def ixD : D → D → M D := fun x y L => match y with
  | .v (.int i) => match x with
    | .v (.tup xs) => (atI xs i).map fun p => (.ok (.v p), L)
    | .v (.str z) => if z.length ≤ sizeLine then (atI z.cps.toList i).map fun c => (.ok (.v (.str ⟨#[c]⟩)), L) else none
    | x => (asL L x).bind fun xs => (atI xs i).map fun p => (.ok (.v p), L)
  | _ => none
theorem atI_is {F : Hp} {vs : List V} {ps : List P} {i : Int} {p : P} (h : IsA g F vs ps) (e : atI ps i = some p) : ∃ v, atI vs i = some v ∧ Is g F v p := by
  unfold atI at e ⊢
  rw [h.len]
  cases q : ixN ps.length i with
  | none => rw [q] at e; cases e
  | some j =>
    rw [q] at e
    exact h.get e
theorem opd_ix {K : PySem.W.Frag} (hK : K = g.K) : OpD g ixD (rIx K) := by
  subst hK
  intro F ρ L H x y d e W Q hR hx hy hp
  unfold ixD at hp
  match e, hy, hp with
  | .v (.int i), hy, hp =>
    have ey := Is.inv_int hy
    have lists : Post g (relV g) F ρ L.length W Q ((asL L d).bind fun xs => (atI xs i).map fun p => (Res.ok (D.v p), L)) → rIxL g.K x y H Q := fun hp => by
      match e1 : asL L d with
      | none => rw [e1] at hp; exact False.elim hp
      | some xs =>
        rw [e1] at hp
        dsimp only [Option.bind] at hp
        match e2 : atI xs i with
        | none => rw [e2] at hp; exact False.elim hp
        | some p =>
          rw [e2] at hp
          obtain ⟨a, vs, h1, h2, h3⟩ := asL_sq hR hx e1
          obtain ⟨v, h4, h5⟩ := atI_is h3 e2
          exact ⟨a, vs, i, v, h1, ey, h2, h4, hp.val hR h5⟩
    cases d with
    | r n => exact .inl (lists hp)
    | v q =>
      cases q with
      | tup xs =>
        dsimp only at hp
        match e2 : atI xs i with
        | none => rw [e2] at hp; exact False.elim hp
        | some p =>
          rw [e2] at hp
          obtain ⟨a, vs, h1, h2, h3⟩ := Is.inv_tup hx
          obtain ⟨v, h4, h5⟩ := atI_is h3 e2
          exact .inr (.inl ⟨a, vs, i, v, h1, ey, hR.sub.sqT h2, h4, hp.val hR h5⟩)
      | str z =>
        dsimp only at hp
        by_cases hz : z.length ≤ sizeLine
        · rw [if_pos hz] at hp
          match e2 : atI z.cps.toList i with
          | none => rw [e2] at hp; exact False.elim hp
          | some c =>
            rw [e2] at hp
            exact .inr (.inr ⟨z, i, c, Is.inv_str hx, ey, hz, e2, hp.val hR (.str _)⟩)
        · rw [if_neg hz] at hp
          exact False.elim hp
      | _ => exact .inl (lists hp)
theorem de_ix (hK : X.K = g.K) (ha : PE X a (tE g W fa)) (hb : PE X b (tE g W fb)) (hs : PlainIx b) : PE X (.Subscript a b pos) (tE g W (bin ixD fa fb)) := by
  refine PE.weak (pe_ix ix_seq ha hb hs) fun σ H Q h => ?_
  refine (Sat.bindV h).mono fun x H1 h1 => ?_
  obtain ⟨d, h1⟩ := h1
  refine (Sat.bindV h1).mono fun y H2 h2 => ?_
  obtain ⟨e, F, ρ, τ, L, hR, hS, hc, hp⟩ := h2
  exact opd_ix hK F ρ L H2 x y d e _ Q hR (hc (x, d) (by simp)) (hc (y, e) (by simp)) hp
/-! ### slices -/
abbrev relO (_ : Hp) (_ : Nat → Addr) (_ : Nat) (b : Option Int) (c : Option Int) : Prop := b = c
def tO (g : G) (W : WX) (f : Tau → M (Option Int)) : TO := fun σ H Q => Sat g relO W [] f σ H Q
def noP (_ : Tau) : M (Option Int) := pure none
def asI : D → M (Option Int) := fun x L => match x with
  | .v (.int i) => some (.ok (some i), L)
  | .v .non => some (.ok none, L)
  | _ => none
def asJ : D → M (Option Int) := fun x L => match x with
  | .v (.int i) => some (.ok (some i), L)
  | _ => none
def part (f : Tau → M D) (τ : Tau) : M (Option Int) := f τ >>= asJ
theorem PO.weak {o : Option Expr} {t t' : TO} (h : PO X o t) (w : ∀ σ H Q, t' σ H Q → t σ H Q) : PO X o t' := ⟨fun pins s σ H Q I q => h.run pins s σ H Q I (w σ H Q q)⟩
theorem do_none : PO X none (tO g W noP) := PO.weak po_none fun σ H Q h => by
  obtain ⟨F, ρ, τ, L, hR, hS, hc, hp⟩ := h
  exact hp F ρ none H Ext.refl hR rfl
theorem do_some (h : PE X e (tE g W f)) : PO X (some e) (tO g W (part f)) := PO.weak (po_some h) fun σ H Q q => by
  refine (Sat.bindV q).mono fun x H1 h1 => ?_
  obtain ⟨d, F, ρ, τ, L, hR, hS, hc, hp⟩ := h1
  have hx := hc (x, d) (by simp)
  match d, hx, hp with
  | .v (.int i), hx, hp => exact ⟨i, Is.inv_int hx, hp F ρ (some i) H1 Ext.refl hR rfl⟩
def cutL {α : Type} (xs : List α) (lo hi : Option Int) : List α := (xs.drop (HT.sIx xs.length 0 lo)).take (HT.sIx xs.length xs.length hi - HT.sIx xs.length 0 lo)
def slD (x : D) (lo hi : Option Int) : M D := fun L => match x with
  | .v (.tup xs) => some (.ok (.v (.tup (cutL xs lo hi))), L)
  | .v (.str z) => if z.length ≤ sizeLine then some (.ok (.v (.str (cutS z lo hi))), L) else none
  | x => (asL L x).map fun xs => (.ok (.v (.lst (cutL xs lo hi))), L)
def slice (fa : Tau → M D) (fl fh : Tau → M (Option Int)) (τ : Tau) : M D := do
  let x ← fa τ
  let lo ← fl τ
  let hi ← fh τ
  slD x lo hi
theorem cutL_is {F : Hp} {vs : List V} {ps : List P} (h : IsA g F vs ps) (lo hi : Option Int) : IsA g F (cutV vs lo hi) (cutL ps lo hi) := by
  unfold cutV cutL
  rw [h.len]
  exact (h.drop _).take _
theorem cutL_all {α : Type} (xs : List α) {lo hi : Option Int} (h : HT.sIx xs.length 0 lo = 0 ∧ HT.sIx xs.length xs.length hi = xs.length) : cutL xs lo hi = xs := by
  unfold cutL
  rw [h.1, h.2]
  simp
def rSl2 (K : PySem.W.Frag) : V → Option Int → Option Int → Hp → VK → Prop := fun x lo hi H Q => rSlL K x lo hi H Q ∨ rSlA K x lo hi H Q ∨ rSlS x lo hi H Q
theorem sl_2 : SlR X (rSl2 X.K) := sl_list.or (sl_tupA.or sl_str)
theorem sld_ok {F : Hp} {ρ : Nat → Addr} {L : List MO} {H : Hp} {x : V} {d : D} {lo hi : Option Int} {W : Value → Option Addr → Hp → Prop} {Q : VK} (hR : R g F ρ L H) (hx : IsD g F ρ L.length x d) (hp : Post g (relV g) F ρ L.length W Q (slD d lo hi L)) : rSl2 g.K x lo hi H Q := by
  unfold slD at hp
  have lists : Post g (relV g) F ρ L.length W Q ((asL L d).map fun xs => (Res.ok (D.v (.lst (cutL xs lo hi))), L)) → rSlL g.K x lo hi H Q := fun hp => by
    match e1 : asL L d with
    | none => rw [e1] at hp; exact False.elim hp
    | some xs =>
      rw [e1] at hp
      obtain ⟨a, vs, h1, h2, h3⟩ := asL_sq hR hx e1
      exact ⟨a, vs, h1, h2, fun p hp' => hp.lst hR (cutL_is h3 lo hi) hp'⟩
  cases d with
  | r n => exact .inl (lists hp)
  | v q =>
    cases q with
    | tup xs =>
      obtain ⟨a, vs, h1, h2, h3⟩ := Is.inv_tup hx
      refine .inr (.inl ⟨a, vs, h1, hR.sub.sqT h2, fun z => ?_, fun _ p hp' => hp.tup hR (cutL_is h3 lo hi) hp'⟩)
      rw [h3.len] at z
      dsimp only at hp
      rw [cutL_all xs z] at hp
      rw [← h1]
      exact hp.val hR hx
    | str z =>
      dsimp only at hp
      by_cases hz : z.length ≤ sizeLine
      · rw [if_pos hz] at hp
        exact .inr (.inr ⟨z, Is.inv_str hx, hz, hp.val hR (.str _)⟩)
      · rw [if_neg hz] at hp
        exact False.elim hp
    | _ => exact .inl (lists hp)
theorem de_slice {lo hi : Option Expr} {fl fh : Tau → M (Option Int)} {p2 : Pos} (hK : X.K = g.K) (he : PE X e (tE g W f)) (hl : PO X lo (tO g W fl)) (hh : PO X hi (tO g W fh)) : PE X (.Subscript e (.Slice lo hi none p2) pos) (tE g W (slice f fl fh)) := by
  refine PE.weak (pe_slice sl_2 he hl hh) fun σ H Q h => ?_
  refine (Sat.bindV h).mono fun x H1 h1 => ?_
  obtain ⟨d, h1⟩ := h1
  refine (Sat.bind (ra := relO) h1).mono fun l H2 h2 => ?_
  obtain ⟨F, ρ, τ, L, l', hR, hS, hc, rfl, hp⟩ := h2
  have h3 : Sat g (relV g) W [(x, d)] (fun τ => fh τ >>= slD d l) σ H2 Q := ⟨F, ρ, τ, L, hR, hS, hc, hp⟩
  refine (Sat.bind (ra := relO) h3).mono fun u H3 h4 => ?_
  obtain ⟨F, ρ, τ, L, u', hR, hS, hc, rfl, hp⟩ := h4
  rw [hK]
  exact sld_ok hR (hc (x, d) (by simp)) hp
end
end DN

end
section
set_option Elab.async false
set_option linter.all false
set_option maxRecDepth 100000
set_option maxHeartbeats 4000000
/-! D5: statements; arguments, displays, built-ins by name, methods of lists. -/
namespace DN
open PySem L2
inductive Out where
  | nx (τ : Tau) | rt (d : D) | bk (τ : Tau) | ct (τ : Tau) | ex (τ : Tau) (c : Nat) (fs : List P)
abbrev SX := Tau → List MO → Option (Out × List MO)
/-- the end of a statement's run -/
def PostS (g : G) (F : Hp) (ρ : Nat → Addr) (n : Nat) (W : WX) (D : Ends) : Option (Out × List MO) → Prop
  | none => False
  | some (.nx τ, L) => ∀ F' ρ' H' σ', Ext F ρ n F' ρ' L.length → R g F' ρ' L H' → Sl g F' ρ' L.length σ' τ → D.nx σ' H'
  | some (.rt d, L) => ∀ F' ρ' H' v, Ext F ρ n F' ρ' L.length → R g F' ρ' L H' → IsD g F' ρ' L.length v d → D.rt v H'
  | some (.bk τ, L) => ∀ F' ρ' H' σ', Ext F ρ n F' ρ' L.length → R g F' ρ' L H' → Sl g F' ρ' L.length σ' τ → D.bk σ' H'
  | some (.ct τ, L) => ∀ F' ρ' H' σ', Ext F ρ n F' ρ' L.length → R g F' ρ' L H' → Sl g F' ρ' L.length σ' τ → D.ct σ' H'
  | some (.ex τ c fs, L) => ∀ F' ρ' dx vs H' σ', Ext F ρ n F' ρ' L.length → R g F' ρ' L H' → Sl g F' ρ' L.length σ' τ → F' dx = some (.xd (((flT c).map nmT).zip vs)) → vs.length = (flT c).length → IsA g F' vs fs →
      W (.ref (g.cl c)) (some dx) σ' H'
theorem PostS.ext {g : G} {F F1 : Hp} {ρ ρ1 : Nat → Addr} {n n1 : Nat} {W : WX} {D : Ends} {o : Option (Out × List MO)} (e : Ext F ρ n F1 ρ1 n1) (h : PostS g F ρ n W D o) : PostS g F1 ρ1 n1 W D o := by
  match o, h with
  | some (.nx τ, L), h => exact fun F' ρ' H' σ' x => h F' ρ' H' σ' (e.trans x)
  | some (.rt d, L), h => exact fun F' ρ' H' v x => h F' ρ' H' v (e.trans x)
  | some (.bk τ, L), h => exact fun F' ρ' H' σ' x => h F' ρ' H' σ' (e.trans x)
  | some (.ct τ, L), h => exact fun F' ρ' H' σ' x => h F' ρ' H' σ' (e.trans x)
  | some (.ex τ c fs, L), h => exact fun F' ρ' dx vs H' σ' x => h F' ρ' dx vs H' σ' (e.trans x)
def SatS (g : G) (W : WX) (ctx : List (V × D)) (f : SX) (E : Ends) (σ : St) (H : Hp) : Prop :=
  ∃ F ρ τ L, R g F ρ L H ∧ Sl g F ρ L.length σ τ ∧ (∀ x ∈ ctx, IsD g F ρ L.length x.1 x.2) ∧ PostS g F ρ L.length W E (f τ L)
def tS (g : G) (W : WX) (f : SX) : TS := fun D σ H => SatS g W [] f D σ H
/-- an expression, then what is done with its value -/
def eThen {α : Type} (m : Tau → M α) (k : α → SX) : SX := fun τ L => match m τ L with
  | none => none
  | some (.ok a, L1) => k a τ L1
  | some (.ex c fs, L1) => some (.ex τ c fs, L1)
theorem SatS.bind {α γ : Type} {g : G} {ra : Hp → (Nat → Addr) → Nat → γ → α → Prop} {W : WX} {ctx : List (V × D)} {m : Tau → M α} {k : α → SX} {E : Ends} {σ : St} {H : Hp} (h : SatS g W ctx (eThen m k) E σ H) :
    Sat g ra W [] m σ H fun x H1 => ∃ F ρ τ L d, R g F ρ L H1 ∧ Sl g F ρ L.length σ τ ∧ (∀ y ∈ ctx, IsD g F ρ L.length y.1 y.2) ∧ ra F ρ L.length x d ∧ PostS g F ρ L.length W E (k d τ L) := by
  obtain ⟨F, ρ, τ, L, hR, hS, hc, hp⟩ := h
  refine ⟨F, ρ, τ, L, hR, hS, (fun y hy => by cases hy), ?_⟩
  unfold eThen at hp
  match e : m τ L with
  | none =>
    rw [e] at hp
    exact hp
  | some (.ex c fs, L1) =>
    rw [e] at hp
    exact fun F' ρ' dx vs H' x1 x2 x3 x4 x5 => hp F' ρ' dx vs H' σ x1 x2 (hS.ext x1) x3 x4 x5
  | some (.ok d, L1) =>
    rw [e] at hp
    intro F1 ρ1 x H1 he hR1 hx
    exact ⟨F1, ρ1, τ, L1, d, hR1, hS.ext he, fun y hy => (hc y hy).ext he, hx, hp.ext he⟩
theorem SatS.bindV {g : G} {W : WX} {ctx : List (V × D)} {m : Tau → M D} {k : D → SX} {E : Ends} {σ : St} {H : Hp} (h : SatS g W ctx (eThen m k) E σ H) :
    tE g W m σ H fun x H1 => ∃ d, SatS g W ((x, d) :: ctx) (k d) E σ H1 := by
  refine (SatS.bind (ra := relV g) h).mono fun x H1 ⟨F, ρ, τ, L, d, a1, a2, a3, a4, a5⟩ => ⟨d, F, ρ, τ, L, a1, a2, fun y hy => ?_, a5⟩
  rcases List.mem_cons.mp hy with z | z
  · rw [z]; exact a4
  · exact a3 y z
theorem SatS.bindB {g : G} {W : WX} {ctx : List (V × D)} {m : Tau → M Bool} {k : Bool → SX} {E : Ends} {σ : St} {H : Hp} (h : SatS g W ctx (eThen m k) E σ H) :
    tT g W m σ H fun b H1 => SatS g W ctx (k b) E σ H1 := by
  refine (SatS.bind (ra := relB) h).mono fun x H1 ⟨F, ρ, τ, L, d, a1, a2, a3, a4, a5⟩ => ?_
  subst a4
  exact ⟨F, ρ, τ, L, a1, a2, a3, a5⟩
theorem Sl.set {g : G} {F : Hp} {ρ : Nat → Addr} {n : Nat} {σ : St} {τ : Tau} (h : Sl g F ρ n σ τ) {v : V} {d : D} (hv : IsD g F ρ n v d) (i : Nat) : Sl g F ρ n (σ.set i (some v)) (τ.set i (some d)) := by
  refine ⟨by rw [List.length_set, List.length_set]; exact h.1, fun j e q => ?_⟩
  by_cases hj : i = j
  · subst hj
    by_cases hl : i < τ.length
    · rw [List.getElem?_set_self hl] at q
      cases q
      exact ⟨v, List.getElem?_set_self (by rw [← h.1]; exact hl), hv⟩
    · rw [List.getElem?_eq_none (by rw [List.length_set]; omega)] at q
      cases q
  · rw [List.getElem?_set_ne hj] at q ⊢
    exact h.2 j e q
def killT : List Nat → Tau → Tau
  | [], τ => τ
  | i :: is, τ => killT is (τ.set i none)
theorem Sl.unset {g : G} {F : Hp} {ρ : Nat → Addr} {n : Nat} {σ : St} {τ : Tau} (h : Sl g F ρ n σ τ) (i : Nat) : Sl g F ρ n σ (τ.set i none) := by
  refine ⟨by rw [List.length_set]; exact h.1, fun j e q => ?_⟩
  by_cases hj : i = j
  · subst hj
    by_cases hl : i < τ.length
    · rw [List.getElem?_set_self hl] at q
      cases q
    · rw [List.getElem?_eq_none (by rw [List.length_set]; omega)] at q
      cases q
  · rw [List.getElem?_set_ne hj] at q
    exact h.2 j e q
theorem Sl.kill {g : G} {F : Hp} {ρ : Nat → Addr} {n : Nat} {σ : St} : ∀ (is : List Nat) {τ : Tau}, Sl g F ρ n σ τ → Sl g F ρ n σ (killT is τ)
  | [], _, h => h
  | i :: is, _, h => Sl.kill is (h.unset i)

section
variable {X : Cx} {g : G} {W : WX} {a b c e : Expr} {fa fb fc f : Tau → M D} {ta tb : Tau → M Bool} {pos : Pos} {rest : List Expr} {st : Stmt} {sts : List Stmt} {s1 s2 : SX}
def nxS : SX := fun τ L => some (.nx τ, L)
def seqS (f1 f2 : SX) : SX := fun τ L => match f1 τ L with
  | some (.nx τ1, L1) => f2 τ1 L1
  | o => o
def killS (is : List Nat) (f : SX) : SX := fun τ L => f (killT is τ) L
theorem tS.kill {is : List Nat} {D : Ends} {σ : St} {H : Hp} (h : tS g W (killS is s1) D σ H) : tS g W s1 D σ H := by
  obtain ⟨F, ρ, τ, L, hR, hS, hc, hp⟩ := h
  exact ⟨F, ρ, killT is τ, L, hR, hS.kill is, hc, hp⟩
theorem ds_kill (is : List Nat) (h : PSs X sts (tS g W s1)) : PSs X sts (tS g W (killS is s1)) := PSs.weak h fun D σ H q => tS.kill q
theorem dss_nil : PSs X [] (tS g W nxS) := PSs.weak pss_nil fun D σ H h => by
  obtain ⟨F, ρ, τ, L, hR, hS, hc, hp⟩ := h
  exact hp F ρ H σ Ext.refl hR hS
theorem seq_sat {D : Ends} {σ : St} {H : Hp} (h : tS g W (seqS s1 s2) D σ H) : tSeq (tS g W s1) (tS g W s2) D σ H := by
  obtain ⟨F, ρ, τ, L, hR, hS, hc, hp⟩ := h
  refine ⟨F, ρ, τ, L, hR, hS, hc, ?_⟩
  unfold seqS at hp
  match e : s1 τ L with
  | none => rw [e] at hp; exact hp
  | some (.nx τ1, L1) =>
    rw [e] at hp
    exact fun F' ρ' H' σ' x1 x2 x3 => ⟨F', ρ', τ1, L1, x2, x3, (fun y hy => by cases hy), hp.ext x1⟩
  | some (.rt d, L1) => rw [e] at hp; exact hp
  | some (.bk _, L1) => rw [e] at hp; exact hp
  | some (.ct _, L1) => rw [e] at hp; exact hp
  | some (.ex _ _ _, L1) => rw [e] at hp; exact hp
theorem dss_cons (h1 : PS X st (tS g W s1)) (h2 : PSs X sts (tS g W s2)) : PSs X (st :: sts) (tS g W (seqS s1 s2)) := PSs.weak (pss_cons h1 h2) fun D σ H h => seq_sat h
theorem dss_one (h1 : PS X st (tS g W s1)) : PSs X [st] (tS g W s1) := pss_one h1
theorem ds_pass : PS X (.Pass pos) (tS g W nxS) := PS.weak ps_pass fun D σ H h => by
  obtain ⟨F, ρ, τ, L, hR, hS, hc, hp⟩ := h
  exact hp F ρ H σ Ext.refl hR hS
def bkS : SX := fun τ L => some (.bk τ, L)
def ctS : SX := fun τ L => some (.ct τ, L)
theorem ds_break : PS X (.Break pos) (tS g W bkS) := PS.weak ps_break fun D σ H h => by
  obtain ⟨F, ρ, τ, L, hR, hS, hc, hp⟩ := h
  exact hp F ρ H σ Ext.refl hR hS
theorem ds_continue : PS X (.Continue pos) (tS g W ctS) := PS.weak ps_continue fun D σ H h => by
  obtain ⟨F, ρ, τ, L, hR, hS, hc, hp⟩ := h
  exact hp F ρ H σ Ext.refl hR hS
def setS (i : Nat) (f : Tau → M D) : SX := eThen f fun d τ L => some (.nx (τ.set i (some d)), L)
theorem setS_sat {i : Nat} {D : Ends} {σ : St} {H : Hp} (h : tS g W (setS i f) D σ H) : tAsg (tE g W f) (gName i) D σ H := by
  refine (SatS.bindV h).mono fun x H1 h1 => ?_
  obtain ⟨d, F, ρ, τ, L, hR, hS, hc, hp⟩ := h1
  exact hp F ρ H1 _ Ext.refl hR (hS.set (hc (x, d) (by simp)) i)
theorem ds_set {i : Nat} {x : Str} {pos' : Pos} (hN : X.N.Nodup) (hi : X.N[i]? = some x) (hx : Loc X.env.scope x) (he : PE X e (tE g W f)) (hs : swapsWith e (some (.Name x pos')) pos.line X.env = pure false := by rfl) (hf : X.fn x = true ∨ X.env.scope.names.lookup x = some .local := by first | exact .inl rfl | exact .inr rfl | assumption) :
    PS X (.Assign [.Name x pos'] e pos) (tS g W (setS i f)) := PS.weak (ps_set hN hi hx he hs hf) fun D σ H h => setS_sat h
def exprS (f : Tau → M D) : SX := eThen f fun _ τ L => some (.nx τ, L)
theorem ds_expr (he : PE X e (tE g W f)) (hs : swapsWith e none pos.line X.env = pure false := by rfl) : PS X (.Expr e pos) (tS g W (exprS f)) := PS.weak (ps_expr he hs) fun D σ H h => by
  refine (SatS.bindV h).mono fun x H1 h1 => ?_
  obtain ⟨d, F, ρ, τ, L, hR, hS, hc, hp⟩ := h1
  exact hp F ρ H1 σ Ext.refl hR hS
def retS (f : Tau → M D) : SX := eThen f fun d _ L => some (.rt d, L)
theorem ds_ret (he : PE X e (tE g W f)) : PS X (.Return (some e) pos) (tS g W (retS f)) := PS.weak (ps_ret he) fun D σ H h => by
  refine (SatS.bindV h).mono fun x H1 h1 => ?_
  obtain ⟨d, F, ρ, τ, L, hR, hS, hc, hp⟩ := h1
  exact hp F ρ H1 x Ext.refl hR (hc (x, d) (by simp))
def retN : SX := fun _ L => some (.rt (.v .non), L)
theorem ds_retN : PS X (.Return none pos) (tS g W retN) := PS.weak ps_retN fun D σ H h => by
  obtain ⟨F, ρ, τ, L, hR, hS, hc, hp⟩ := h
  exact hp F ρ H _ Ext.refl hR Is.non
def ifS (t : Tau → M Bool) (s1 s2 : SX) : SX := eThen t fun b => if b then s1 else s2
theorem ds_if {p q : List Stmt} (hc : PT X c (tT g W ta)) (ha : PSs X p (tS g W s1)) (hb : PSs X q (tS g W s2)) : PS X (.If c p q pos) (tS g W (ifS ta s1 s2)) := PS.weak (ps_if hc ha hb) fun D σ H h => by
  refine (SatS.bindB h).mono fun b H1 h1 => ?_
  cases b with
  | true => exact h1
  | false => exact h1

/-! ### arguments, displays -/
def nilA (_ : Tau) : M (List D) := pure []
def consA (f : Tau → M D) (fs : Tau → M (List D)) (τ : Tau) : M (List D) := do
  let d ← f τ
  let ds ← fs τ
  pure (d :: ds)
variable {es : List Expr} {fs : Tau → M (List D)}
theorem da_nil : PA X [] (tA g W nilA) := PA.weak pa_nil fun σ H Q h => by
  obtain ⟨F, ρ, τ, L, hR, hS, hc, hp⟩ := h
  exact hp F ρ _ H Ext.refl hR .nil
theorem da_cons (ha : PE X e (tE g W f)) (hr : PA X es (tA g W fs)) (hs : starEach (e :: es) X.env = (false, eval e X.env) :: starEach es X.env := by rfl) : PA X (e :: es) (tA g W (consA f fs)) := PA.weak (pa_cons ha hr hs) fun σ H Q h => by
  refine (Sat.bindV h).mono fun x H1 h1 => ?_
  obtain ⟨d, h1⟩ := h1
  refine (Sat.bind (ra := relA g) h1).mono fun xs H2 h2 => ?_
  obtain ⟨F, ρ, τ, L, ds, hR, hS, hc, hr, hp⟩ := h2
  exact hp F ρ _ H2 Ext.refl hR (.cons (hc (x, d) (by simp)) hr)
/-- plain values -/
def asP : D → Option P
  | .v p => some p
  | .r _ => none
def asPs : List D → Option (List P)
  | [] => some []
  | d :: ds => match asP d, asPs ds with
    | some p, some ps => some (p :: ps)
    | _, _ => none
theorem asPs_is {F : Hp} {ρ : Nat → Addr} {n : Nat} : ∀ {vs : List V} {ds : List D} {ps : List P}, relA g F ρ n vs ds → asPs ds = some ps → IsA g F vs ps
  | _, _, _, .nil, e => by cases e; exact .nil
  | _, d :: ds, _, .cons h t, e => by
    unfold asPs at e
    match e1 : asP d, e2 : asPs ds with
    | some p, some ps =>
      rw [e1, e2] at e
      cases e
      cases d with
      | v q =>
        cases e1
        exact .cons h (asPs_is t e2)
      | r n => cases e1
    | none, _ => rw [e1] at e; cases e
    | some _, none => rw [e1, e2] at e; cases e
def tupD (ds : List D) : M D := fun L => match asPs ds with
  | some ps => if ps.length ≤ sizeLine then some (.ok (.v (.tup ps)), L) else none
  | none => none
/-- a list frozen at once; a list that will change -/
def lstD (ds : List D) : M D := fun L => match asPs ds with
  | some ps => if ps.length ≤ sizeLine then some (.ok (.v (.lst ps)), L) else none
  | none => none
def newD (ds : List D) : M D := fun L => match asPs ds with
  | some ps => if ps.length ≤ sizeLine then some (.ok (.r L.length), L ++ [.lst ps]) else none
  | none => none
def appA (op : List D → M D) (fs : Tau → M (List D)) (τ : Tau) : M D := fs τ >>= op
def CallD (g : G) (op : List D → M D) (r : List V → Hp → VK → Prop) : Prop := ∀ (F : Hp) (ρ : Nat → Addr) (L : List MO) (H : Hp) (vs : List V) (ds : List D) (W : Value → Option Addr → Hp → Prop) (Q : VK),
  R g F ρ L H → relA g F ρ L.length vs ds → Post g (relV g) F ρ L.length W Q (op ds L) → r vs H Q
theorem app_sat {op : List D → M D} {r : List V → Hp → VK → Prop} (hr : CallD g op r) {σ : St} {H : Hp} {Q : VK} (h : tE g W (appA op fs) σ H Q) : tCB r (tA g W fs) σ H Q := by
  refine (Sat.bind (ra := relA g) h).mono fun xs H2 h2 => ?_
  obtain ⟨F, ρ, τ, L, ds, hR, hS, hc, ha, hp⟩ := h2
  exact hr F ρ L H2 xs ds _ Q hR ha hp
theorem cd_tup : CallD g tupD (fun xs H1 Q => xs.length ≤ sizeLine ∧ ∀ p, H1 p = none → Q (.ref p) (upd H1 p (.tup xs))) := by
  intro F ρ L H vs ds W Q hR ha hp
  unfold tupD at hp
  match e : asPs ds with
  | none => rw [e] at hp; exact False.elim hp
  | some ps =>
    rw [e] at hp
    dsimp only at hp
    have hi := asPs_is ha e
    by_cases hz : ps.length ≤ sizeLine
    · rw [if_pos hz] at hp
      exact ⟨by rw [hi.len]; exact hz, fun p hp' => hp.tup hR hi hp'⟩
    · rw [if_neg hz] at hp
      exact False.elim hp
theorem cd_lst : CallD g lstD (fun xs H1 Q => xs.length ≤ sizeLine ∧ ∀ p, H1 p = none → Q (.ref p) (upd H1 p (.lst xs))) := by
  intro F ρ L H vs ds W Q hR ha hp
  unfold lstD at hp
  match e : asPs ds with
  | none => rw [e] at hp; exact False.elim hp
  | some ps =>
    rw [e] at hp
    dsimp only at hp
    have hi := asPs_is ha e
    by_cases hz : ps.length ≤ sizeLine
    · rw [if_pos hz] at hp
      exact ⟨by rw [hi.len]; exact hz, fun p hp' => hp.lst hR hi hp'⟩
    · rw [if_neg hz] at hp
      exact False.elim hp
theorem cd_new : CallD g newD (fun xs H1 Q => xs.length ≤ sizeLine ∧ ∀ p, H1 p = none → Q (.ref p) (upd H1 p (.lst xs))) := by
  intro F ρ L H vs ds W Q hR ha hp
  unfold newD at hp
  match e : asPs ds with
  | none => rw [e] at hp; exact False.elim hp
  | some ps =>
    rw [e] at hp
    dsimp only at hp
    have hi := asPs_is ha e
    by_cases hz : ps.length ≤ sizeLine
    · rw [if_pos hz] at hp
      exact ⟨by rw [hi.len]; exact hz, fun p hp' => hp.newL hR hi hp'⟩
    · rw [if_neg hz] at hp
      exact False.elim hp
theorem de_tup {x1} (h : PA X es (tA g W fs)) : PE X (.Tuple es x1 pos) (tE g W (appA tupD fs)) := PE.weak (pe_tup h) fun σ H Q q => app_sat cd_tup q
theorem de_lst (h : PA X es (tA g W fs)) : PE X (.List es pos) (tE g W (appA lstD fs)) := PE.weak (pe_lst h) fun σ H Q q => app_sat cd_lst q
theorem de_new (h : PA X es (tA g W fs)) : PE X (.List es pos) (tE g W (appA newD fs)) := PE.weak (pe_lst h) fun σ H Q q => app_sat cd_new q
/-! ### built-ins by name -/
theorem de_callB {x : Str} {p : Pos} {id : String} {r : List V → Hp → VK → Prop} {op : List D → M D} (hc : CallR X (.builtin id) r) (hr : CallD g op r) (hg : Gl X x) (hm : X.mg x = none) (hv : bootBuiltins x = some (.builtin id)) (ha : PA X (e :: es) (tA g W fs)) (hn : x ≠ "__name__" := by decide) (hdb : (x == ("__debug__" : Str)) = false := by decide)
    (he : starEach (e :: es) X.env = (false, eval e X.env) :: starEach es X.env := by rfl) (hpl : (backTo pos (starEach es X.env)).any (·.1) = false := by rfl) : PE X (.Call (.Name x p) (e :: es) [] pos) (tE g W (appA op fs)) :=
  PE.weak (pe_callB hc hg hm hv ha hn hdb he hpl) fun σ H Q h => app_sat hr h
theorem de_callTy {x : Str} {p : Pos} {T : String} {r : List V → Hp → VK → Prop} {op : List D → M D} (hc : CallR X (.type T) r) (hr : CallD g op r) (hg : Gl X x) (hm : X.mg x = none) (hv : bootBuiltins x = some (.type T)) (ha : PA X (e :: es) (tA g W fs)) (hn : x ≠ "__name__" := by decide) (hdb : (x == ("__debug__" : Str)) = false := by decide)
    (he : starEach (e :: es) X.env = (false, eval e X.env) :: starEach es X.env := by rfl) (hpl : (backTo pos (starEach es X.env)).any (·.1) = false := by rfl) : PE X (.Call (.Name x p) (e :: es) [] pos) (tE g W (appA op fs)) :=
  PE.weak (pe_callTy hc hg hm hv ha hn hdb he hpl) fun σ H Q h => app_sat hr h
end
end DN

end
section
set_option Elab.async false
set_option linter.all false
set_option maxRecDepth 100000
set_option maxHeartbeats 4000000
/-! D6: len, int, sum, any, all, tuple, list, max; methods of lists and texts; xs[i] = v; sorted of data; freezing. -/
namespace DN
open PySem L2
section
variable {X : Cx} {g : G} {W : WX} {a b c e o : Expr} {fa fb fc f : Tau → M D} {pos : Pos} {es : List Expr} {fs : Tau → M (List D)}
theorem rel1 {F : Hp} {ρ : Nat → Addr} {n : Nat} {vs : List V} {d : D} (h : relA g F ρ n vs [d]) : ∃ v, vs = [v] ∧ IsD g F ρ n v d := by
  cases h with
  | cons h t => cases t; exact ⟨_, rfl, h⟩
theorem rel2 {F : Hp} {ρ : Nat → Addr} {n : Nat} {vs : List V} {d e : D} (h : relA g F ρ n vs [d, e]) : ∃ v w, vs = [v, w] ∧ IsD g F ρ n v d ∧ IsD g F ρ n w e := by
  cases h with
  | cons h t =>
    obtain ⟨w, rfl, h2⟩ := rel1 t
    exact ⟨_, w, rfl, h, h2⟩
theorem rel0 {F : Hp} {ρ : Nat → Addr} {n : Nat} {vs : List V} (h : relA g F ρ n vs []) : vs = [] := by
  cases h; rfl
def oneD (k : D → M D) : List D → M D
  | [d] => k d
  | _ => M.stuck
theorem cd_one {k : D → M D} {r : List V → Hp → VK → Prop} (h : ∀ (F : Hp) (ρ : Nat → Addr) (L : List MO) (H : Hp) (x : V) (d : D) (W : Value → Option Addr → Hp → Prop) (Q : VK),
    R g F ρ L H → IsD g F ρ L.length x d → Post g (relV g) F ρ L.length W Q (k d L) → r [x] H Q) : CallD g (oneD k) r := by
  intro F ρ L H vs ds W Q hR ha hp
  match ds, ha, hp with
  | [], _, hp => exact False.elim hp
  | _ :: _ :: _, _, hp => exact False.elim hp
  | [d], ha, hp =>
    obtain ⟨x, rfl, hx⟩ := rel1 ha
    exact h F ρ L H x d W Q hR hx hp
/-- lists, tuples by their items -/
def asS (L : List MO) : D → Option (List P)
  | .v (.tup xs) => some xs
  | d => asL L d
theorem asS_sq {F : Hp} {ρ : Nat → Addr} {L : List MO} {H : Hp} {x : V} {d : D} {xs : List P} (hR : R g F ρ L H) (hx : IsD g F ρ L.length x d) (h : asS L d = some xs) : ∃ a vs, x = .ref a ∧ (SqL g.K H a vs ∨ (SqT g.K H a vs ∧ d = .v (.tup xs))) ∧ IsA g F vs xs := by
  have lists : asL L d = some xs → ∃ a vs, x = .ref a ∧ (SqL g.K H a vs ∨ (SqT g.K H a vs ∧ d = .v (.tup xs))) ∧ IsA g F vs xs := fun h => by
    obtain ⟨a, vs, e, h1, h2⟩ := asL_sq hR hx h
    exact ⟨a, vs, e, .inl h1, h2⟩
  cases d with
  | r n => exact lists h
  | v p =>
    cases p with
    | tup ys =>
      cases h
      obtain ⟨a, vs, e, h1, h2⟩ := Is.inv_tup hx
      exact ⟨a, vs, e, .inr ⟨hR.sub.sqT h1, rfl⟩, h2⟩
    | _ => exact lists h
/-! ### len -/
def lenD : List D → M D := oneD fun d L => match d with
  | .v (.str z) => if z.length ≤ sizeLine then some (.ok (.v (.int z.length)), L) else none
  | d => (asS L d).map fun xs => (.ok (.v (.int xs.length)), L)
theorem cd_len {K : PySem.W.Frag} (hK : K = g.K) : CallD g lenD (fun xs H Q => ∃ x n, xs = [x] ∧ LenV K x H n ∧ Q (.int n) H) := by
  subst hK
  refine cd_one fun F ρ L H x d W Q hR hx hp => ?_
  · skip
    have seqs : Post g (relV g) F ρ L.length W Q ((asS L d).map fun xs => (Res.ok (D.v (.int xs.length)), L)) → ∃ y n, [x] = [y] ∧ LenV g.K y H n ∧ Q (.int n) H := fun hp => by
      match e1 : asS L d with
      | none => rw [e1] at hp; exact False.elim hp
      | some xs =>
        rw [e1] at hp
        obtain ⟨p, ws, rfl, h1, h2⟩ := asS_sq hR hx e1
        refine ⟨_, xs.length, rfl, ?_, hp.val hR (.int _)⟩
        rcases h1 with h1 | ⟨h1, _⟩
        · exact .inl ⟨ws, h1, h2.len.symm⟩
        · exact .inr ⟨ws, h1, h2.len.symm⟩
    cases d with
    | r n => exact seqs hp
    | v p =>
      cases p with
      | str z =>
        dsimp only at hp
        by_cases hz : z.length ≤ sizeLine
        · rw [if_pos hz] at hp
          refine ⟨x, z.length, rfl, ?_, hp.val hR (.int _)⟩
          rw [Is.inv_str hx]
          exact ⟨hz, rfl⟩
        · rw [if_neg hz] at hp
          exact False.elim hp
      | _ => exact seqs hp
/-! ### int, sum, any, all -/
def intD : List D → M D := oneD fun d L => match d with
  | .v (.int i) => some (.ok (.v (.int i)), L)
  | _ => none
theorem cd_int : CallD g intD (fun xs H Q => (∃ i, xs = [.int i] ∧ Q (.int i) H) ∨ ∃ k, xs = [.bl k] ∧ Q (.int (if k then 1 else 0)) H) := by
  refine cd_one fun F ρ L H x d W Q hR hx hp => ?_
  cases d with
  | r n => exact False.elim hp
  | v p =>
    cases p with
    | int i => exact .inl ⟨i, by rw [Is.inv_int hx], hp.val hR (.int _)⟩
    | _ => exact False.elim hp
def intsOf : List P → Option (List Int)
  | [] => some []
  | .int i :: ps => (intsOf ps).map (i :: ·)
  | _ => none
theorem ints_is {F : Hp} : ∀ {vs : List V} {ps : List P} {ns : List Int}, IsA g F vs ps → intsOf ps = some ns → vs = ns.map V.int
  | _, [], _, h, e => by cases e; cases h; rfl
  | _, .int i :: ps, _, .cons h t, e => by
    unfold intsOf at e
    match e1 : intsOf ps with
    | none => rw [e1] at e; cases e
    | some ms =>
      rw [e1] at e
      cases e
      rw [Is.inv_int h, ints_is t e1]
      rfl
def blsOf : List P → Option (List Bool)
  | [] => some []
  | .bl i :: ps => (blsOf ps).map (i :: ·)
  | _ => none
theorem bls_is {F : Hp} : ∀ {vs : List V} {ps : List P} {ns : List Bool}, IsA g F vs ps → blsOf ps = some ns → vs = ns.map V.bl
  | _, [], _, h, e => by cases e; cases h; rfl
  | _, .bl i :: ps, _, .cons h t, e => by
    unfold blsOf at e
    match e1 : blsOf ps with
    | none => rw [e1] at e; cases e
    | some ms =>
      rw [e1] at e
      cases e
      rw [Is.inv_bl h, bls_is t e1]
      rfl
def sumD : List D → M D := oneD fun d L => ((asL L d).bind intsOf).map fun ns => (.ok (.v (.int ns.sum)), L)
theorem cd_sum {K : PySem.W.Frag} (hK : K = g.K) : CallD g sumD (rSum K) := by
  subst hK
  refine cd_one fun F ρ L H x d W Q hR hx hp => ?_
  · skip
    match e1 : asL L d with
    | none => rw [e1] at hp; exact False.elim hp
    | some xs =>
      rw [e1] at hp
      dsimp only [Option.bind] at hp
      match e2 : intsOf xs with
      | none => rw [e2] at hp; exact False.elim hp
      | some ns =>
        rw [e2] at hp
        obtain ⟨p, ws, rfl, h1, h2⟩ := asL_sq hR hx e1
        rw [ints_is h2 e2] at h1
        exact ⟨p, ns, rfl, h1, hp.val hR (.int _)⟩
def maxI : List Int → Int
  | [] => 0
  | x :: xs => xs.foldl max x
theorem foldl_max : ∀ (xs : List Int) (a : Int), (xs.foldl max a = a ∨ xs.foldl max a ∈ xs) ∧ a ≤ xs.foldl max a ∧ ∀ y ∈ xs, y ≤ xs.foldl max a
  | [], a => ⟨.inl rfl, Int.le_refl _, by simp⟩
  | x :: xs, a => by
    obtain ⟨h1, h2, h3⟩ := foldl_max xs (max a x)
    rw [List.foldl_cons]
    refine ⟨?_, Int.le_trans (Int.le_max_left _ _) h2, fun y hy => ?_⟩
    · rcases h1 with h1 | h1
      · by_cases q : x ≤ a
        · exact .inl (by rw [h1]; exact Int.max_eq_left q)
        · exact .inr (by rw [h1, Int.max_eq_right (by omega)]; exact List.mem_cons_self)
      · exact .inr (List.mem_cons_of_mem _ h1)
    · rcases List.mem_cons.mp hy with e | hy
      · rw [e]; exact Int.le_trans (Int.le_max_right _ _) h2
      · exact h3 y hy
theorem maxI_spec {xs : List Int} (h : 0 < xs.length) : maxI xs ∈ xs ∧ ∀ y ∈ xs, y ≤ maxI xs := by
  cases xs with
  | nil => exact absurd h (by simp)
  | cons x xs =>
    obtain ⟨h1, h2, h3⟩ := foldl_max xs x
    refine ⟨?_, fun y hy => ?_⟩
    · rcases h1 with h1 | h1
      · exact List.mem_cons.mpr (.inl h1)
      · exact List.mem_cons.mpr (.inr h1)
    · rcases List.mem_cons.mp hy with e | hy
      · rw [e]; exact h2
      · exact h3 y hy
def maxD : List D → M D := oneD fun d L => match (asL L d).bind intsOf with
    | some ns => if 0 < ns.length then some (.ok (.v (.int (maxI ns))), L) else none
    | none => none
theorem cd_max {K : PySem.W.Frag} (hK : K = g.K) : CallD g maxD (rMax K) := by
  subst hK
  refine cd_one fun F ρ L H x d W Q hR hx hp => ?_
  · skip
    match e1 : asL L d with
    | none => rw [e1] at hp; exact False.elim hp
    | some xs =>
      rw [e1] at hp
      dsimp only [Option.bind] at hp
      match e2 : intsOf xs with
      | none => rw [e2] at hp; exact False.elim hp
      | some ns =>
        rw [e2] at hp
        dsimp only at hp
        by_cases hz : 0 < ns.length
        · rw [if_pos hz] at hp
          obtain ⟨p, ws, rfl, h1, h2⟩ := asL_sq hR hx e1
          rw [ints_is h2 e2] at h1
          refine ⟨p, ns, rfl, h1, hz, fun m hm hle => ?_⟩
          obtain ⟨q1, q2⟩ := maxI_spec hz
          have : m = maxI ns := by
            have a1 := q2 m hm
            have a2 := hle _ q1
            omega
          rw [this]
          exact hp.val hR (.int _)
        · rw [if_neg hz] at hp
          exact False.elim hp
def anyD : List D → M D := oneD fun d L => ((asL L d).bind blsOf).map fun ns => (.ok (.v (.bl (ns.any id))), L)
theorem cd_any {K : PySem.W.Frag} (hK : K = g.K) : CallD g anyD (rAny K) := by
  subst hK
  refine cd_one fun F ρ L H x d W Q hR hx hp => ?_
  · skip
    match e1 : asL L d with
    | none => rw [e1] at hp; exact False.elim hp
    | some xs =>
      rw [e1] at hp
      dsimp only [Option.bind] at hp
      match e2 : blsOf xs with
      | none => rw [e2] at hp; exact False.elim hp
      | some ns =>
        rw [e2] at hp
        obtain ⟨p, ws, rfl, h1, h2⟩ := asL_sq hR hx e1
        rw [bls_is h2 e2] at h1
        exact ⟨p, ns, rfl, h1, hp.val hR (.bl _)⟩
def allD : List D → M D := oneD fun d L => ((asL L d).bind blsOf).map fun ns => (.ok (.v (.bl (ns.all id))), L)
theorem cd_all {K : PySem.W.Frag} (hK : K = g.K) : CallD g allD (rAll K) := by
  subst hK
  refine cd_one fun F ρ L H x d W Q hR hx hp => ?_
  · skip
    match e1 : asL L d with
    | none => rw [e1] at hp; exact False.elim hp
    | some xs =>
      rw [e1] at hp
      dsimp only [Option.bind] at hp
      match e2 : blsOf xs with
      | none => rw [e2] at hp; exact False.elim hp
      | some ns =>
        rw [e2] at hp
        obtain ⟨p, ws, rfl, h1, h2⟩ := asL_sq hR hx e1
        rw [bls_is h2 e2] at h1
        exact ⟨p, ns, rfl, h1, hp.val hR (.bl _)⟩
/-! ### tuple, list -/
def tupleD : List D → M D := oneD fun d L => (asS L d).map fun xs => (.ok (.v (.tup xs)), L)
theorem cd_tuple {K : PySem.W.Frag} (hK : K = g.K) : CallD g tupleD (fun xs H Q => ∃ p ys, xs = [.ref p] ∧ ((SqL K H p ys ∧ ∀ l, H l = none → Q (.ref l) (upd H l (.tup ys))) ∨ (SqT K H p ys ∧ Q (.ref p) H))) := by
  subst hK
  refine cd_one fun F ρ L H x d W Q hR hx hp => ?_
  · skip
    match e1 : asS L d with
    | none => rw [e1] at hp; exact False.elim hp
    | some xs =>
      rw [e1] at hp
      obtain ⟨p, ws, rfl, h1, h2⟩ := asS_sq hR hx e1
      refine ⟨p, ws, rfl, ?_⟩
      rcases h1 with h1 | ⟨h1, e2⟩
      · exact .inl ⟨h1, fun l hl => hp.tup hR h2 hl⟩
      · subst e2
        exact .inr ⟨h1, hp.val hR hx⟩
/-- list(..): mu: one that will change -/
def listD (mu : Bool) : List D → M D := oneD fun d L => (asS L d).map fun xs => if mu = true then (.ok (.r L.length), L ++ [.lst xs]) else (.ok (.v (.lst xs)), L)
theorem cd_list {mu : Bool} {K : PySem.W.Frag} (hK : K = g.K) : CallD g (listD mu) (fun xs H Q => ∃ p ys, xs = [.ref p] ∧ (SqL K H p ys ∨ SqT K H p ys) ∧ ∀ l, H l = none → Q (.ref l) (upd H l (.lst ys))) := by
  subst hK
  refine cd_one fun F ρ L H x d W Q hR hx hp => ?_
  · skip
    match e1 : asS L d with
    | none => rw [e1] at hp; exact False.elim hp
    | some xs =>
      rw [e1] at hp
      obtain ⟨p, ws, rfl, h1, h2⟩ := asS_sq hR hx e1
      refine ⟨p, ws, rfl, h1.imp id (·.1), fun l hl => ?_⟩
      cases mu with
      | true => exact hp.newL hR h2 hl
      | false => exact hp.lst hR h2 hl
/-! ### sorted of data -/
def sortOk (ds : List PyData) : Bool := ds.all fun d => ds.all fun e => PySem.W.alike d e
def sortTag (ds : List PyData) : Bool := ds.all (fun d => match d with | .tuple (_ :: _) => true | _ => false) || ds.all fun d => match d with | .none => false | .tuple _ => false | _ => true
/-- sorted by the data -/
def sortP (ps : List P) : List P := (ps.mergeSort fun p q => PySem.W.dataLe false (fun x => (toD x).getD .none) p q)
def sortedD : List D → M D := fun ds L => match ds with
  | [d] => match (asL L d), (asL L d).bind toDs with
    | some ps, some qs => if (sortOk qs && sortTag qs && qs.all fun d => decide (d.depth ≤ 50)) = true then some (.ok (.v (.lst (sortP ps))), L) else none
    | _, _ => none
  | _ => none
end
end DN

end
section
set_option Elab.async false
set_option linter.all false
set_option maxRecDepth 100000
set_option maxHeartbeats 4000000
/-! D7: sorted of data; methods of lists and texts; xs[i] = v; freezing. -/
namespace DN
open PySem L2
section
variable {X : Cx} {g : G} {W : WX} {a b c e o : Expr} {fa fb fc f : Tau → M D} {pos : Pos} {es : List Expr} {fs : Tau → M (List D)}
/-! ### sorted of data -/
def rSortB (K : PySem.W.Frag) : List V → Hp → VK → Prop := fun vs H Q => ∃ (a : Addr) (bs : List (V × P)) (k : V × P → PyData), vs = [V.ref a] ∧ SqL K H a (bs.map (·.1)) ∧ (∀ b ∈ bs, Dp K H b.1 (k b)) ∧
  PySem.W.AllAlike (bs.map k) ∧ PySem.W.Sortable (bs.map k) ∧ (∀ b ∈ bs, (k b).depth ≤ 50) ∧ ∀ p, H p = none → Q (.ref p) (upd H p (.lst ((bs.mergeSort (PySem.W.dataLe false k)).map (·.1))))
theorem each_of_vals {R : Value → V × P → Prop} : ∀ {bs : List (V × P)} {us : List Value}, Vals (bs.map (·.1)) us → (∀ b ∈ bs, ∀ u, RelV b.1 u → R u b) → PySem.W.EachIs R us bs
  | [], _, r, _ => by cases r; exact .nil
  | b :: bs, _, r, h => by
    cases r with
    | cons r1 r2 => exact .cons (h b List.mem_cons_self _ r1) (each_of_vals r2 fun c hc => h c (List.mem_cons_of_mem _ hc))
theorem vals_of_each : ∀ {bs : List (V × P)} {us : List Value}, PySem.W.EachIs (fun u b => RelV b.1 u) us bs → Vals (bs.map (·.1)) us
  | _, _, .nil => .nil
  | _, _, .cons h t => .cons h (vals_of_each t)
theorem cr_sortB (hu : X.A.units + 64 < cLine) : CallR X (.builtin "sorted") (rSortB X.K) := by
  intro pins s σ H vs us Q I r h
  obtain ⟨a, bs, k, rfl, hs, hd, hal, hso, hdp, q⟩ := h
  obtain ⟨its, rv, hl, hz⟩ := I.list hs
  rw [Vals.ref1 r]
  have e1 : PySem.W.EachIs (fun u (b : V × P) => RelV b.1 u) its bs := each_of_vals rv fun b _ u h => h
  have e2 : PySem.W.EachIs (fun v (b : V × P) => ∃ as, Reads s.heap v (k b) as) its bs := each_of_vals rv fun b hb u h => Dp.reads I (k b) b.1 u (hd b hb) h
  have hlen : bs.length ≤ sizeLine := by rw [List.length_map] at hz; exact hz
  refine PySem.W.sorted_data (enc := k) hl.isList e1 e2 hal hso hlen (fun b hb => ?_) fun out ho he => ?_
  · have := hdp b hb
    omega
  · obtain ⟨ep, he'⟩ := PyProof.Rows.sortedAll_at s.heap its out.toArray
    have hl2 : ((bs.mergeSort (PySem.W.dataLe false k)).map (·.1)).length ≤ sizeLine := by
      rw [List.length_map, (List.mergeSort_perm _ _).length_eq]
      exact hlen
    exact ⟨.ref _, upd H (s.heap.objs.size + 1) (.lst ((bs.mergeSort (PySem.W.dataLe false k)).map (·.1))), I.laid (t' := s.toks) (fun _ _ => PyProof.Rows.sortedAll_old) (Nat.le_succ _) ⟨hl2, out, ep, vals_of_each he, he'⟩, rfl, q _ (I.hok.fresh (Nat.le_succ _))⟩
def keyP (p : P) : PyData := (toD p).getD .none
theorem toDs_all : ∀ {ps : List P} {qs : List PyData}, toDs ps = some qs → qs = ps.map keyP ∧ ∀ p ∈ ps, toD p = some (keyP p)
  | [], _, e => by
    simp only [toDs, Option.some.injEq] at e
    subst e
    exact ⟨rfl, by simp⟩
  | p :: ps, _, e => by
    simp only [toDs] at e
    match e1 : toD p, e2 : toDs ps with
    | some d, some ds =>
      rw [e1, e2] at e
      cases e
      obtain ⟨h1, h2⟩ := toDs_all e2
      have hk : keyP p = d := by unfold keyP; rw [e1]; rfl
      refine ⟨by rw [List.map_cons, hk, h1], fun q hq => ?_⟩
      rcases List.mem_cons.mp hq with z | hq
      · rw [z, hk, e1]
      · exact h2 q hq
    | none, _ => rw [e1] at e; cases e
    | some _, none => rw [e1, e2] at e; cases e
theorem isA_zip {F : Hp} : ∀ {vs : List V} {ps : List P}, IsA g F vs ps → (vs.zip ps).map (·.1) = vs ∧ (vs.zip ps).map (·.2) = ps ∧ ∀ b ∈ vs.zip ps, Is g F b.1 b.2
  | _, _, .nil => ⟨rfl, rfl, by simp⟩
  | _, _, .cons h t => by
    obtain ⟨h1, h2, h3⟩ := isA_zip t
    refine ⟨by rw [List.zip_cons_cons, List.map_cons, h1], by rw [List.zip_cons_cons, List.map_cons, h2], fun b hb => ?_⟩
    rcases List.mem_cons.mp hb with z | hb
    · rw [z]; exact h
    · exact h3 b hb
theorem isA_of {F : Hp} : ∀ {bs : List (V × P)}, (∀ b ∈ bs, Is g F b.1 b.2) → IsA g F (bs.map (·.1)) (bs.map (·.2))
  | [], _ => .nil
  | b :: bs, h => .cons (h b List.mem_cons_self) (isA_of fun c hc => h c (List.mem_cons_of_mem _ hc))
theorem sort_alike {qs : List PyData} (h : sortOk qs = true) : PySem.W.AllAlike qs := by
  intro d hd d' hd'
  unfold sortOk at h
  exact List.all_eq_true.mp (List.all_eq_true.mp h d hd) d' hd'
theorem sort_able {qs : List PyData} (h : sortTag qs = true) : PySem.W.Sortable qs := by
  unfold sortTag at h
  rcases Bool.or_eq_true_iff.mp h with h | h
  · refine .inl fun d hd => ?_
    have q := List.all_eq_true.mp h d hd
    match d, q with
    | .tuple (x :: r), _ => exact ⟨x, r, rfl⟩
  · refine .inr fun d hd => ?_
    have q := List.all_eq_true.mp h d hd
    match d, q with
    | .bool _, _ => exact ⟨(by intro z; cases z), (by intro xs z; cases z)⟩
    | .int _, _ => exact ⟨(by intro z; cases z), (by intro xs z; cases z)⟩
    | .str _, _ => exact ⟨(by intro z; cases z), (by intro xs z; cases z)⟩
    | .list _, _ => exact ⟨(by intro z; cases z), (by intro xs z; cases z)⟩
    | .dict _, _ => exact ⟨(by intro z; cases z), (by intro xs z; cases z)⟩
def sortQ (ps : List P) : List P := ps.mergeSort (PySem.W.dataLe false keyP)
/-- sorted(xs), mu: one that will change -/
def sortD (mu : Bool) : List D → M D := oneD fun d L => match asL L d with
  | some ps => match toDs ps with
    | some qs => if (sortOk qs && sortTag qs && qs.all fun d => decide (d.depth ≤ 50)) = true then some (if mu = true then (.ok (.r L.length), L ++ [.lst (sortQ ps)]) else (.ok (.v (.lst (sortQ ps))), L)) else none
    | none => none
  | none => none
theorem cd_sort {mu : Bool} {K : PySem.W.Frag} (hK : K = g.K) : CallD g (sortD mu) (rSortB K) := by
  subst hK
  refine cd_one fun F ρ L H x d W Q hR hx hp => ?_
  match e1 : asL L d with
  | none => rw [e1] at hp; exact False.elim hp
  | some ps =>
    rw [e1] at hp
    dsimp only at hp
    match e2 : toDs ps with
    | none => rw [e2] at hp; exact False.elim hp
    | some qs =>
      rw [e2] at hp
      dsimp only at hp
      by_cases hk : (sortOk qs && sortTag qs && qs.all fun d => decide (d.depth ≤ 50)) = true
      · rw [if_pos hk] at hp
        rw [Bool.and_eq_true, Bool.and_eq_true] at hk
        obtain ⟨⟨k1, k2⟩, k3⟩ := hk
        obtain ⟨p, ws, rfl, h1, h2⟩ := asL_sq hR hx e1
        obtain ⟨z1, z2, z3⟩ := isA_zip h2
        obtain ⟨t1, t2⟩ := toDs_all e2
        have km : (ws.zip ps).map (fun b => keyP b.2) = qs := by
          rw [t1, ← z2, List.map_map, z2]
          rfl
        have mem2 : ∀ b ∈ ws.zip ps, b.2 ∈ ps := fun b hb => by
          have := List.mem_map_of_mem (f := (·.2)) hb
          rw [z2] at this
          exact this
        have srt : ((ws.zip ps).mergeSort (PySem.W.dataLe false fun b => keyP b.2)).map (·.2) = sortQ ps := by
          have q := List.map_mergeSort (r := PySem.W.dataLe false fun b : V × P => keyP b.2) (s := PySem.W.dataLe false keyP) (f := fun b : V × P => b.2) (l := ws.zip ps) (fun a _ b _ => rfl)
          rw [z2] at q
          exact q
        refine ⟨p, ws.zip ps, fun b => keyP b.2, rfl, by rw [z1]; exact h1, fun b hb => dp_of hR.sub (z3 b hb) (t2 _ (mem2 b hb)), by rw [km]; exact sort_alike k1, by rw [km]; exact sort_able k2, fun b hb => ?_, fun n hn => ?_⟩
        · have : keyP b.2 ∈ qs := by
            rw [t1]
            exact List.mem_map_of_mem (mem2 b hb)
          exact of_decide_eq_true (List.all_eq_true.mp k3 _ this)
        · have hA : IsA g F (((ws.zip ps).mergeSort (PySem.W.dataLe false fun b => keyP b.2)).map (·.1)) (sortQ ps) := by
            rw [← srt]
            exact isA_of fun b hb => z3 b (List.mem_mergeSort.mp hb)
          cases mu with
          | true => exact hp.newL hR hA hn
          | false => exact hp.lst hR hA hn
      · rw [if_neg hk] at hp
        exact False.elim hp

/-! ### methods -/
def mthD (ty : List MO → D → Bool) (op : D → List D → M D) (f : Tau → M D) (fs : Tau → M (List D)) (τ : Tau) : M D := do
  let x ← f τ
  let _ ← (fun L => if ty L x = true then some (.ok (), L) else none : M Unit)
  let ds ← fs τ
  op x ds
def MtD (g : G) (op : D → List D → M D) (r : V → List V → Hp → VK → Prop) : Prop := ∀ (F : Hp) (ρ : Nat → Addr) (L : List MO) (H : Hp) (x : V) (d : D) (vs : List V) (ds : List D) (W : Value → Option Addr → Hp → Prop) (Q : VK),
  R g F ρ L H → IsD g F ρ L.length x d → relA g F ρ L.length vs ds → Post g (relV g) F ρ L.length W Q (op d ds L) → r x vs H Q
def TyD (g : G) (ty : List MO → D → Bool) (T : String) : Prop := ∀ (F : Hp) (ρ : Nat → Addr) (L : List MO) (H : Hp) (x : V) (d : D), R g F ρ L H → IsD g F ρ L.length x d → ty L d = true → tyV g.K T x H
def tyL (L : List MO) (d : D) : Bool := (asL L d).isSome
theorem td_list : TyD g tyL "list" := by
  intro F ρ L H x d hR hx h
  unfold tyL at h
  obtain ⟨xs, e⟩ := Option.isSome_iff_exists.mp h
  obtain ⟨a, vs, rfl, h1, _⟩ := asL_sq hR hx e
  exact .inl ⟨rfl, vs, h1⟩
def tyS (_ : List MO) : D → Bool
  | .v (.str _) => true
  | _ => false
theorem td_str : TyD g tyS "str" := by
  intro F ρ L H x d hR hx h
  cases d with
  | r n => cases h
  | v p =>
    cases p with
    | str z => rw [Is.inv_str hx]; rfl
    | _ => cases h
theorem mth_sat {ty : List MO → D → Bool} {T : String} {op : D → List D → M D} {r : V → List V → Hp → VK → Prop} (ht : TyD g ty T) (hr : MtD g op r) {σ : St} {H : Hp} {Q : VK} (h : tE g W (mthD ty op f fs) σ H Q) : tBM g.K T r (tE g W f) (tA g W fs) σ H Q := by
  refine (Sat.bindV h).mono fun x H1 h1 => ?_
  obtain ⟨d, F, ρ, τ, L, hR, hS, hc, hp⟩ := h1
  have hx := hc (x, d) (by simp)
  by_cases hty : ty L d = true
  · have hp2 : Post g (relV g) F ρ L.length (fun c d H' => W c d σ H') Q ((fs τ >>= op d) L) := by
      refine Eq.mp (congrArg (fun o => Post g (relV g) F ρ L.length (fun c d H' => W c d σ H') Q o) ?_) hp
      show M.bnd (fun L => if ty L d = true then some (Res.ok (), L) else none) _ L = _
      unfold M.bnd
      dsimp only
      rw [if_pos hty]
    have h2 : Sat g (relV g) W [(x, d)] (fun τ => fs τ >>= op d) σ H1 Q := ⟨F, ρ, τ, L, hR, hS, hc, hp2⟩
    refine ⟨ht F ρ L H1 x d hR hx hty, (Sat.bind (ra := relA g) h2).mono fun xs H2 h3 => ?_⟩
    obtain ⟨F, ρ, τ, L, ds, hR, hS, hc, ha, hp⟩ := h3
    exact hr F ρ L H2 x d xs ds _ Q hR (hc (x, d) (by simp)) ha hp
  · exfalso
    have hp2 : Post g (relV g) F ρ L.length (fun c d H' => W c d σ H') Q none := by
      refine Eq.mp (congrArg (fun o => Post g (relV g) F ρ L.length (fun c d H' => W c d σ H') Q o) ?_) hp
      show M.bnd (fun L => if ty L d = true then some (Res.ok (), L) else none) _ L = none
      unfold M.bnd
      dsimp only
      rw [if_neg hty]
    exact hp2
theorem de_mth {T id : String} {name : Str} {apos : Pos} {ty : List MO → D → Bool} {op : D → List D → M D} {r : V → List V → Hp → VK → Prop} (hK : X.K = g.K) (pa : PlainAttrs T) (slot : Slot T name id) (hty : typeOf (.builtin id) = pure (.type "method_descriptor")) (hm : MtR X id r) (ht : TyD g ty T) (hr : MtD g op r) (ho : PE X o (tE g W f)) (ha : PA X (e :: es) (tA g W fs))
    (hbase : attributeBase o name X.env (eval o X.env) = eval o X.env := by rfl)
    (hfew : ((backTo pos (starEach (e :: es) X.env)).all (fun x => !x.1) && (backToKw pos (keywordEach [] X.env)).all (fun x => x.1.isSome)
      && decide ((e :: es).length + ([] : List Keyword).length + (if ([] : List Keyword).isEmpty then 0 else 1) < 30)) = true := by rfl)
    (hline : (apos.endLine == pos.line) = true := by rfl) (hs : starEach (e :: es) X.env = (false, eval e X.env) :: starEach es X.env := by rfl) (hplain : (backTo pos (starEach es X.env)).any (·.1) = false := by rfl) :
    PE X (.Call (.Attribute o name apos) (e :: es) [] pos) (tE g W (mthD ty op f fs)) :=
  PE.weak (pe_bm pa slot hty hm ho ha hbase hfew hline hs hplain) fun σ H Q h => by
    rw [hK]
    exact mth_sat ht hr h
theorem de_mth0 {T id : String} {name : Str} {apos : Pos} {ty : List MO → D → Bool} {op : D → List D → M D} {r : V → List V → Hp → VK → Prop} (hK : X.K = g.K) (pa : PlainAttrs T) (slot : Slot T name id) (hty : typeOf (.builtin id) = pure (.type "method_descriptor")) (hm : MtR X id r) (ht : TyD g ty T) (hr : MtD g op r) (ho : PE X o (tE g W f))
    (hbase : attributeBase o name X.env (eval o X.env) = eval o X.env := by rfl) (hline : (apos.endLine == pos.line) = true := by rfl) : PE X (.Call (.Attribute o name apos) [] [] pos) (tE g W (mthD ty op f nilA)) :=
  PE.weak (pe_bm0 pa slot hty hm ho hbase hline) fun σ H Q h => by
    rw [hK]
    have h' := mth_sat (W := W) (fs := nilA) ht hr h
    refine Sat.mono h' fun x H1 ⟨q1, q2⟩ => ⟨q1, ?_⟩
    obtain ⟨F, ρ, τ, L, hR, hS, hc, hp⟩ := q2
    exact hp F ρ [] H1 Ext.refl hR .nil
/-- an entry of the ledger that is a list -/
theorem Post.putL {F : Hp} {ρ : Nat → Addr} {L : List MO} {H : Hp} {x : V} {n : Nat} {xs ys : List P} {p : P} {v : V} {us vs : List V} {W : Value → Option Addr → Hp → Prop} {Q : VK} (hR : R g F ρ L H) (e : L[n]? = some (.lst xs))
    (hp : Post g (relV g) F ρ L.length W Q (some (.ok (.v p), L.set n (.lst ys)))) (hv : Is g F v p) (hy : IsA g F vs ys) : Q v (upd H (ρ n) (.lst vs)) := by
  have e1 : (L.set n (MO.lst ys)).length = L.length := by rw [List.length_set]
  refine hp F ρ v _ (by rw [e1]; exact Ext.refl) (hR.put e (by intro z; cases z) _ _ ⟨vs, upd_same, hy⟩) ?_
  exact hv
theorem R.lstAt {F : Hp} {ρ : Nat → Addr} {L : List MO} {H : Hp} {n : Nat} {xs : List P} (hR : R g F ρ L H) (e : L[n]? = some (.lst xs)) : ∃ vs, H (ρ n) = some (.lst vs) ∧ IsA g F vs xs :=
  (hR.ent n _ e (by intro z; cases z)).2
def mutL (k : Nat → List P → List D → M D) : D → List D → M D := fun x ds L => match x with
  | .r n => match L[n]? with
    | some (.lst xs) => k n xs ds L
    | _ => none
  | _ => none
theorem md_mut {k : Nat → List P → List D → M D} {r : V → List V → Hp → VK → Prop} (h : ∀ (F : Hp) (ρ : Nat → Addr) (L : List MO) (H : Hp) (n : Nat) (xs : List P) (us vs : List V) (ds : List D) (W : Value → Option Addr → Hp → Prop) (Q : VK),
    R g F ρ L H → L[n]? = some (.lst xs) → H (ρ n) = some (.lst us) → IsA g F us xs → relA g F ρ L.length vs ds → Post g (relV g) F ρ L.length W Q (k n xs ds L) → r (.ref (ρ n)) vs H Q) : MtD g (mutL k) r := by
  intro F ρ L H x d vs ds W Q hR hx ha hp
  unfold mutL at hp
  cases d with
  | v p => exact False.elim hp
  | r n =>
    dsimp only at hp
    match e : L[n]? with
    | some (.lst xs) =>
      rw [e] at hp
      obtain ⟨us, h1, h2⟩ := hR.lstAt e
      rw [hx.2]
      exact h F ρ L H n xs us vs ds W Q hR e h1 h2 ha hp
    | none => rw [e] at hp; exact False.elim hp
    | some (.dk _) => rw [e] at hp; exact False.elim hp
    | some (.dn _) => rw [e] at hp; exact False.elim hp
    | some (.ins _ _) => rw [e] at hp; exact False.elim hp
    | some .dead => rw [e] at hp; exact False.elim hp
def appendD : D → List D → M D := mutL fun n xs ds L => match ds with
  | [.v p] => if xs.length < sizeLine then some (.ok (.v .non), L.set n (.lst (xs ++ [p]))) else none
  | _ => none
theorem md_append : MtD g appendD rAppend := md_mut fun F ρ L H n xs us vs ds W Q hR e h1 h2 ha hp => by
  match ds, ha, hp with
  | [.v p], ha, hp =>
    obtain ⟨v, rfl, hv⟩ := rel1 ha
    dsimp only at hp
    by_cases hz : xs.length < sizeLine
    · rw [if_pos hz] at hp
      exact ⟨ρ n, us, v, rfl, rfl, h1, by rw [h2.len]; exact hz, hp.putL (us := us) (x := v) hR e Is.non (h2.append (.cons hv .nil))⟩
    · rw [if_neg hz] at hp
      exact False.elim hp
  | [], _, hp => exact False.elim hp
  | [.r _], _, hp => exact False.elim hp
  | .v _ :: _ :: _, _, hp => exact False.elim hp
  | .r _ :: _ :: _, _, hp => exact False.elim hp
end
end DN

end
section
set_option Elab.async false
set_option linter.all false
set_option maxRecDepth 100000
set_option maxHeartbeats 4000000
/-! D8: what is walked; for, while. -/
namespace DN
open PySem L2
abbrev Itm := List P × (List MO → Prop)
/-- a source that yields the items xs while ok stands -/
def relI (g : G) (F0 : Hp) (ρ0 : Nat → Addr) (n0 : Nat) (J : It) (s : Itm) : Prop := ∀ (F : Hp) (ρ : Nat → Addr) (L : List MO) (H : Hp), Ext F0 ρ0 n0 F ρ L.length → R g F ρ L H → s.2 L →
  (∀ i p, s.1[i]? = some p → J.go i H ∧ ∀ x H', J.yld i H x H' → ∃ F', Sub F F' ∧ R g F' ρ L H' ∧ Is g F' x p) ∧ J.stop s.1.length H
def tI (g : G) (W : WX) (f : Tau → M Itm) : TI := fun σ H R' => Sat g (relI g) W [] f σ H R'
theorem PI.weak {X : Cx} {tg e : Expr} {t t' : TI} (h : PI X tg e t) (w : ∀ σ H Q, t' σ H Q → t σ H Q) : PI X tg e t' := ⟨fun pins s σ H Q I q => h.run pins s σ H Q I (w σ H Q q)⟩
theorem PI.or {X : Cx} {tg e : Expr} {t t' : TI} (h : PI X tg e t) (h' : PI X tg e t') : PI X tg e (fun σ H Q => t σ H Q ∨ t' σ H Q) := ⟨fun pins s σ H Q I q => by
  rcases q with q | q
  · exact h.run pins s σ H Q I q
  · exact h'.run pins s σ H Q I q⟩
def chars (z : Str) : List P := z.cps.toList.map fun c => P.str ⟨#[c]⟩
/-- lists, tuples, texts -/
def itmD : D → M Itm := fun d L => match d with
  | .v (.tup xs) => some (.ok (xs, fun _ => True), L)
  | .v (.str z) => some (.ok (chars z, fun _ => True), L)
  | .v (.lst xs) => some (.ok (xs, fun _ => True), L)
  | .v (.scr ns) => some (.ok (ns.map P.int, fun _ => True), L)
  | .r n => match L[n]? with
    | some (.lst xs) => some (.ok (xs, fun L' => L'[n]? = some (.lst xs)), L)
    | _ => none
  | _ => none
section
variable {X : Cx} {g : G} {W : WX} {a b c e o tg : Expr} {fa fb fc f : Tau → M D} {ta : Tau → M Bool} {pos : Pos} {es : List Expr} {fs : Tau → M (List D)} {s1 s2 : SX}
theorem relI_list {F0 : Hp} {ρ0 : Nat → Addr} {n0 : Nat} {ad : Addr} {ok : List MO → Prop} {xs : List P} (h : ∀ (F : Hp) (ρ : Nat → Addr) (L : List MO) (H : Hp), Ext F0 ρ0 n0 F ρ L.length → R g F ρ L H → ok L → ∃ vs, SqL g.K H ad vs ∧ IsA g F vs xs) : relI g F0 ρ0 n0 (Itl g.K ad) (xs, ok) := by
  intro F ρ L H hE hR hk
  obtain ⟨vs, h1, h2⟩ := h F ρ L H hE hR hk
  refine ⟨fun i p hp => ?_, vs, h1, by rw [h2.len]; exact Nat.le_refl _⟩
  obtain ⟨v, h3, h4⟩ := h2.get hp
  refine ⟨⟨vs, v, h1, h3⟩, fun x H' hy => ?_⟩
  obtain ⟨rfl, hy⟩ := hy
  have e1 := hy vs h1
  rw [h3] at e1
  cases e1
  exact ⟨F, Sub.refl _, hR, h4⟩
theorem relI_tup {F0 : Hp} {ρ0 : Nat → Addr} {n0 : Nat} {ad : Addr} {ok : List MO → Prop} {xs : List P} (h : ∀ (F : Hp) (ρ : Nat → Addr) (L : List MO) (H : Hp), Ext F0 ρ0 n0 F ρ L.length → R g F ρ L H → ok L → ∃ vs, SqT g.K H ad vs ∧ IsA g F vs xs) : relI g F0 ρ0 n0 (Itt g.K ad) (xs, ok) := by
  intro F ρ L H hE hR hk
  obtain ⟨vs, h1, h2⟩ := h F ρ L H hE hR hk
  refine ⟨fun i p hp => ?_, vs, h1, by rw [h2.len]; exact Nat.le_refl _⟩
  obtain ⟨v, h3, h4⟩ := h2.get hp
  refine ⟨⟨vs, v, h1, h3⟩, fun x H' hy => ?_⟩
  obtain ⟨rfl, hy⟩ := hy
  have e1 := hy vs h1
  rw [h3] at e1
  cases e1
  exact ⟨F, Sub.refl _, hR, h4⟩
theorem relI_str {F0 : Hp} {ρ0 : Nat → Addr} {n0 : Nat} {ok : List MO → Prop} (z : Str) : relI g F0 ρ0 n0 (Its z) (chars z, ok) := by
  intro F ρ L H hE hR hk
  have hl : (chars z).length = z.cps.size := by unfold chars; rw [List.length_map, Array.length_toList]
  refine ⟨fun i p hp => ?_, by rw [hl]; exact Nat.le_refl _⟩
  have hi : i < z.cps.size := by rw [← hl]; exact (List.getElem?_eq_some_iff.mp hp).1
  refine ⟨hi, fun x H' hy => ?_⟩
  obtain ⟨rfl, c, hc, rfl⟩ := hy
  refine ⟨F, Sub.refl _, hR, ?_⟩
  unfold chars at hp
  rw [List.getElem?_map, Array.getElem?_toList, hc] at hp
  cases hp
  exact .str _
theorem relI_range {F0 : Hp} {ρ0 : Nat → Addr} {n0 : Nat} {ok : List MO → Prop} (lo : Int) (n : Nat) : relI g F0 ρ0 n0 (Itr lo n) ((List.range n).map (fun i : Nat => P.int (lo + i)), ok) := by
  intro F ρ L H hE hR hk
  have hl : ((List.range n).map (fun i : Nat => P.int (lo + i))).length = n := by rw [List.length_map, List.length_range]
  refine ⟨fun i p hp => ?_, by show n ≤ _; rw [hl]; exact Nat.le_refl _⟩
  have hi : i < n := by rw [← hl]; exact (List.getElem?_eq_some_iff.mp hp).1
  refine ⟨hi, fun x H' hy => ?_⟩
  obtain ⟨rfl, rfl⟩ := hy
  refine ⟨F, Sub.refl _, hR, ?_⟩
  rw [List.getElem?_map, List.getElem?_range hi] at hp
  cases hp
  exact .int _
/-- lists, tuples, texts -/
def seqI (f : Tau → M D) (τ : Tau) : M Itm := f τ >>= itmD
theorem itm_list {F : Hp} {ρ : Nat → Addr} {L : List MO} {H : Hp} {x : V} {d : D} {Wq : Value → Option Addr → Hp → Prop} {Q : It → Hp → Prop} (hR : R g F ρ L H) (hx : IsD g F ρ L.length x d) (h1 : ∀ xs, d ≠ .v (.tup xs)) (h2 : ∀ z, d ≠ .v (.str z)) (hp : Post g (relI g) F ρ L.length Wq Q (itmD d L)) :
    ∃ a, x = .ref a ∧ (∃ xs, SqL g.K H a xs) ∧ Q (Itl g.K a) H := by
  cases d with
  | r n =>
    unfold itmD at hp
    dsimp only at hp
    match e : L[n]? with
    | some (.lst xs) =>
      rw [e] at hp
      obtain ⟨us, h1, h2⟩ := hR.lstAt e
      refine ⟨ρ n, hx.2, ⟨us, SqL.of h1⟩, hp F ρ _ H Ext.refl hR (relI_list fun F' ρ' L' H' hE hR' hk => ?_)⟩
      obtain ⟨vs, q1, q2⟩ := hR'.lstAt hk
      exact ⟨vs, by rw [← hE.rho n hx.1]; exact SqL.of q1, q2⟩
    | none => rw [e] at hp; exact False.elim hp
    | some (.dk _) => rw [e] at hp; exact False.elim hp
    | some (.dn _) => rw [e] at hp; exact False.elim hp
    | some (.ins _ _) => rw [e] at hp; exact False.elim hp
    | some .dead => rw [e] at hp; exact False.elim hp
  | v p =>
    cases p with
    | tup xs => exact absurd rfl (h1 xs)
    | lst xs =>
      obtain ⟨a, vs, e1, h1, h2⟩ := Is.inv_lst hx
      refine ⟨a, e1, ⟨vs, SqL.of (hR.sub _ _ h1)⟩, hp F ρ _ H Ext.refl hR (relI_list fun F' ρ' L' H' hE hR' hk => ⟨vs, SqL.of (hR'.sub _ _ (hE.sub _ _ h1)), IsA.mono hE.sub h2⟩)⟩
    | scr ns =>
      cases hx with
      | scr h1 => exact ⟨_, rfl, ⟨_, hR.sub.sqL h1⟩, hp F ρ _ H Ext.refl hR (relI_list fun F' ρ' L' H' hE hR' hk => ⟨_, hR'.sub.sqL (hE.sub.sqL h1), isA_ints g F' ns⟩)⟩
    | str z => exact absurd rfl (h2 z)
    | _ => exact False.elim hp
theorem itm_tup {F : Hp} {ρ : Nat → Addr} {L : List MO} {H : Hp} {x : V} {xs : List P} {Wq : Value → Option Addr → Hp → Prop} {Q : It → Hp → Prop} (hR : R g F ρ L H) (hx : IsD g F ρ L.length x (.v (.tup xs))) (hp : Post g (relI g) F ρ L.length Wq Q (itmD (.v (.tup xs)) L)) :
    ∃ a, x = .ref a ∧ (∃ xs, SqT g.K H a xs) ∧ Q (Itt g.K a) H := by
  obtain ⟨a, vs, e1, h1, h2⟩ := Is.inv_tup hx
  exact ⟨a, e1, ⟨vs, hR.sub.sqT h1⟩, hp F ρ _ H Ext.refl hR (relI_tup fun F' ρ' L' H' hE hR' hk => ⟨vs, hR'.sub.sqT (hE.sub.sqT h1), IsA.mono hE.sub h2⟩)⟩
theorem itm_str {F : Hp} {ρ : Nat → Addr} {L : List MO} {H : Hp} {x : V} {z : Str} {Wq : Value → Option Addr → Hp → Prop} {Q : It → Hp → Prop} (hR : R g F ρ L H) (hx : IsD g F ρ L.length x (.v (.str z))) (hp : Post g (relI g) F ρ L.length Wq Q (itmD (.v (.str z)) L)) :
    ∃ z, x = .str z ∧ Q (Its z) H := ⟨z, Is.inv_str hx, hp F ρ _ H Ext.refl hR (relI_str z)⟩
theorem di_seq (hK : X.K = g.K) (he : PE X e (tE g W f)) : PI X tg e (tI g W (seqI f)) := by
  refine PI.weak (PI.or (pi_list he) (PI.or (pi_tup he) (pi_str he))) fun σ H Q h => ?_
  obtain ⟨F, ρ, τ, L, hR, hS, hc, hp⟩ := h
  have hp' : Post g (relI g) F ρ L.length (fun c d H' => W c d σ H') Q (M.bnd (f τ) itmD L) := hp
  unfold M.bnd at hp'
  rw [hK]
  match e : f τ L with
  | none => rw [e] at hp'; exact False.elim hp'
  | some (.ex c fs, L1) =>
    rw [e] at hp'
    exact .inl ⟨F, ρ, τ, L, hR, hS, hc, by rw [e]; exact hp'⟩
  | some (.ok d, L1) =>
    rw [e] at hp'
    by_cases h1 : ∃ xs, d = .v (.tup xs)
    · obtain ⟨xs, rfl⟩ := h1
      refine .inr (.inl ⟨F, ρ, τ, L, hR, hS, hc, ?_⟩)
      rw [e]
      exact fun F1 ρ1 x H1 a1 a2 a3 => itm_tup a2 a3 (hp'.ext a1)
    · by_cases h2 : ∃ z, d = .v (.str z)
      · obtain ⟨z, rfl⟩ := h2
        refine .inr (.inr ⟨F, ρ, τ, L, hR, hS, hc, ?_⟩)
        rw [e]
        exact fun F1 ρ1 x H1 a1 a2 a3 => itm_str a2 a3 (hp'.ext a1)
      · refine .inl ⟨F, ρ, τ, L, hR, hS, hc, ?_⟩
        rw [e]
        exact fun F1 ρ1 x H1 a1 a2 a3 => itm_list a2 a3 (fun xs z => h1 ⟨xs, z⟩) (fun z q => h2 ⟨z, q⟩) (hp'.ext a1)
/-! ### range -/
def rng1 : List D → M Itm := fun ds L => match ds with
  | [.v (.int j)] => if -(2 ^ 62) ≤ j ∧ j < 2 ^ 62 then some (.ok ((List.range j.toNat).map (fun i : Nat => P.int (0 + i)), fun _ => True), L) else none
  | _ => none
def rng2 : List D → M Itm := fun ds L => match ds with
  | [.v (.int i), .v (.int j)] => if (-(2 ^ 62) ≤ i ∧ i < 2 ^ 62) ∧ -(2 ^ 62) ≤ j ∧ j < 2 ^ 62 then some (.ok ((List.range (j - i).toNat).map (fun k : Nat => P.int (i + k)), fun _ => True), L) else none
  | _ => none
def argI (op : List D → M Itm) (fs : Tau → M (List D)) (τ : Tau) : M Itm := fs τ >>= op
theorem di_range1 {p : Pos} (hg : Gl X "range") (hm : X.mg "range" = none) (ha : PA X [a] (tA g W fs)) (hs : starEach [a] X.env = [(false, eval a X.env)] := by rfl) : PI X tg (.Call (.Name "range" p) [a] [] pos) (tI g W (argI rng1 fs)) := by
  refine PI.weak (pi_range1 hg hm ha hs) fun σ H Q h => ?_
  refine (Sat.bind (ra := relA g) h).mono fun xs H2 h2 => ?_
  obtain ⟨F, ρ, τ, L, ds, hR, hS, hc, hr, hp⟩ := h2
  unfold rng1 at hp
  match ds, hr, hp with
  | [.v (.int j)], hr, hp =>
    obtain ⟨v, rfl, hv⟩ := rel1 hr
    dsimp only at hp
    by_cases hz : -(2 ^ 62) ≤ j ∧ j < 2 ^ 62
    · rw [if_pos hz] at hp
      exact ⟨j, by rw [Is.inv_int hv], hz.1, hz.2, hp F ρ _ H2 Ext.refl hR (relI_range 0 j.toNat)⟩
    · rw [if_neg hz] at hp
      exact False.elim hp
theorem di_range2 {p : Pos} (hg : Gl X "range") (hm : X.mg "range" = none) (ha : PA X [a, b] (tA g W fs)) (hs : starEach [a, b] X.env = [(false, eval a X.env), (false, eval b X.env)] := by rfl) (hs2 : starEach [b] X.env = [(false, eval b X.env)] := by rfl) : PI X tg (.Call (.Name "range" p) [a, b] [] pos) (tI g W (argI rng2 fs)) := by
  refine PI.weak (pi_range2 hg hm ha hs hs2) fun σ H Q h => ?_
  refine (Sat.bind (ra := relA g) h).mono fun xs H2 h2 => ?_
  obtain ⟨F, ρ, τ, L, ds, hR, hS, hc, hr, hp⟩ := h2
  unfold rng2 at hp
  match ds, hr, hp with
  | [.v (.int i), .v (.int j)], hr, hp =>
    obtain ⟨v, w, rfl, hv, hw⟩ := rel2 hr
    dsimp only at hp
    by_cases hz : (-(2 ^ 62) ≤ i ∧ i < 2 ^ 62) ∧ -(2 ^ 62) ≤ j ∧ j < 2 ^ 62
    · rw [if_pos hz] at hp
      exact ⟨i, j, by rw [Is.inv_int hv, Is.inv_int hw], ⟨hz.1.1, hz.1.2, hz.2.1, hz.2.2⟩, hp F ρ _ H2 Ext.refl hR (relI_range i (j - i).toNat)⟩
    · rw [if_neg hz] at hp
      exact False.elim hp
/-! ### targets -/
abbrev TgD := P → Tau → Option Tau
def TgOk (g : G) (t : TG) (tg : TgD) : Prop := ∀ (F : Hp) (ρ : Nat → Addr) (n : Nat) (L : List MO) (H : Hp) (v : V) (p : P) (σ : St) (τ τ' : Tau) (Q : St → Hp → Prop), R g F ρ L H → Sl g F ρ L.length σ τ → Is g F v p → tg p τ = some τ' →
  (∀ σ', Sl g F ρ L.length σ' τ' → Q σ' H) → t v σ H Q
def tgN (i : Nat) : TgD := fun p τ => some (τ.set i (some (.v p)))
theorem tg_name (i : Nat) : TgOk g (gName i) (tgN i) := by
  intro F ρ n L H v p σ τ τ' Q hR hS hv e hQ
  cases e
  exact hQ _ (hS.set (v := v) (d := .v p) hv i)
def tgs : List TgD → List P → Tau → Option Tau
  | [], [], τ => some τ
  | t :: ts, p :: ps, τ => (t p τ).bind (tgs ts ps)
  | _, _, _ => none
def TgsOk (g : G) (t : TGs) (ts : List TgD) : Prop := ∀ (F : Hp) (ρ : Nat → Addr) (L : List MO) (H : Hp) (vs : List V) (ps : List P) (σ : St) (τ τ' : Tau) (Q : St → Hp → Prop), R g F ρ L H → Sl g F ρ L.length σ τ → IsA g F vs ps → tgs ts ps τ = some τ' →
  (∀ σ', Sl g F ρ L.length σ' τ' → Q σ' H) → t vs σ H Q
theorem tgs_nil : TgsOk g gNil [] := by
  intro F ρ L H vs ps σ τ τ' Q hR hS hv e hQ
  cases hv with
  | nil =>
    cases e
    exact ⟨rfl, hQ _ hS⟩
  | cons _ _ => cases e
theorem tgs_cons {t : TG} {u : TGs} {x : TgD} {xs : List TgD} (h1 : TgOk g t x) (h2 : TgsOk g u xs) : TgsOk g (gCons t u) (x :: xs) := by
  intro F ρ L H vs ps σ τ τ' Q hR hS hv e hQ
  cases hv with
  | nil => cases e
  | cons hv ht =>
    unfold tgs at e
    rename_i v p vs ps
    match e1 : x p τ with
    | none => rw [e1] at e; cases e
    | some τ1 =>
      rw [e1] at e
      exact ⟨v, vs, rfl, h1 F ρ 0 L H v p σ τ τ1 _ hR hS hv e1 fun σ1 hS1 => h2 F ρ L H vs ps σ1 τ1 τ' Q hR hS1 ht e hQ⟩
def tgT (ts : List TgD) : TgD := fun p τ => match p with
  | .tup ps => if ps.length = ts.length then tgs ts ps τ else none
  | _ => none
theorem tg_tup {K : PySem.W.Frag} {n : Nat} {t : TGs} {ts : List TgD} (hK : K = g.K) (h : TgsOk g t ts) (hn : ts.length = n) : TgOk g (gTup K n t) (tgT ts) := by
  subst hK
  intro F ρ m L H v p σ τ τ' Q hR hS hv e hQ
  unfold tgT at e
  cases p with
  | tup ps =>
    dsimp only at e
    by_cases hz : ps.length = ts.length
    · rw [if_pos hz] at e
      obtain ⟨a, vs, e1, h1, h2⟩ := Is.inv_tup hv
      exact ⟨a, vs, e1, hR.sub.sqT h1, by rw [h2.len, hz, hn], h F ρ L H vs ps σ τ τ' Q hR hS h2 e hQ⟩
    · rw [if_neg hz] at e
      cases e
  | _ => cases e
/-! ### for -/
open Classical in
noncomputable def forG (ok : List MO → Prop) (tg : TgD) (body : SX) : List P → SX
  | [] => fun τ L => if ok L then some (.nx τ, L) else none
  | p :: ps => fun τ L => if ok L then (match tg p τ with
      | none => none
      | some τ1 => match body τ1 L with
        | some (.nx τ2, L2) => forG ok tg body ps τ2 L2
        | some (.ct τ2, L2) => forG ok tg body ps τ2 L2
        | some (.bk τ2, L2) => some (.nx τ2, L2)
        | o => o) else none
noncomputable def forS (src : Tau → M Itm) (tg : TgD) (body : SX) : SX := eThen src fun it => forG it.2 tg body it.1
theorem for_sat {wi : Tau → M Itm} {t : TG} {tg : TgD} (ht : TgOk g t tg) {D : Ends} {σ : St} {H : Hp} (h : tS g W (forS wi tg s1) D σ H) : tFor (tI g W wi) t (tS g W s1) D σ H := by
  refine (SatS.bind (ra := relI g) h).mono fun J H1 h1 => ?_
  obtain ⟨F0, ρ0, τ0, L0, it, hR0, hS0, _, hsrc, hp0⟩ := h1
  obtain ⟨xs, ok⟩ := it
  refine ⟨fun i m σ H => m = xs.length - i ∧ i ≤ xs.length ∧ ∃ F ρ τ L, Ext F0 ρ0 L0.length F ρ L.length ∧ R g F ρ L H ∧ Sl g F ρ L.length σ τ ∧ PostS g F ρ L.length W D (forG ok tg s1 (xs.drop i) τ L),
    ⟨xs.length, by simp, Nat.zero_le _, F0, ρ0, τ0, L0, Ext.refl, hR0, hS0, hp0⟩, ?_⟩
  rintro i m σ2 H2 ⟨rfl, hi, F, ρ, τ, L, hE, hR, hS, hp⟩
  by_cases hlt : i < xs.length
  · refine .inr ?_
    have e0 : xs[i]? = some xs[i] := List.getElem?_eq_getElem hlt
    rw [List.drop_eq_getElem_cons hlt] at hp
    unfold forG at hp
    by_cases hk : ok L
    · rw [if_pos hk] at hp
      obtain ⟨go, yl⟩ := (hsrc F ρ L H2 hE hR hk).1 i _ e0
      refine ⟨go, fun σ' H' => i + 1 ≤ xs.length ∧ ∃ F ρ τ L, Ext F0 ρ0 L0.length F ρ L.length ∧ R g F ρ L H' ∧ Sl g F ρ L.length σ' τ ∧ PostS g F ρ L.length W D (forG ok tg s1 (xs.drop (i + 1)) τ L), fun σ' H' q => ⟨xs.length - (i + 1), by omega, rfl, q⟩, fun x H' hy => ?_⟩
      obtain ⟨F', sb, hR', hx⟩ := yl x H' hy
      have e1 : Ext F ρ L.length F' ρ L.length := ⟨sb, fun _ _ => rfl, Nat.le_refl _⟩
      match et : tg xs[i] τ with
      | none => rw [et] at hp; exact False.elim hp
      | some τ1 =>
        rw [et] at hp
        dsimp only at hp
        refine ht F' ρ 0 L H' x _ σ2 τ τ1 _ hR' (hS.ext e1) hx et fun σ3 hS3 => ⟨F', ρ, τ1, L, hR', hS3, (fun y hy => by cases hy), ?_⟩
        match eb : s1 τ1 L with
        | none => rw [eb] at hp; exact hp
        | some (.nx τ2, L2) =>
          rw [eb] at hp
          exact fun F3 ρ3 H3 σ4 x1 x2 x3 => ⟨hlt, F3, ρ3, τ2, L2, hE.trans (e1.trans x1), x2, x3, hp.ext (e1.trans x1)⟩
        | some (.ct τ2, L2) =>
          rw [eb] at hp
          exact fun F3 ρ3 H3 σ4 x1 x2 x3 => ⟨hlt, F3, ρ3, τ2, L2, hE.trans (e1.trans x1), x2, x3, hp.ext (e1.trans x1)⟩
        | some (.bk τ2, L2) =>
          rw [eb] at hp
          exact fun F3 ρ3 H3 σ4 x1 x2 x3 => hp F3 ρ3 H3 σ4 (e1.trans x1) x2 x3
        | some (.rt d, L2) =>
          rw [eb] at hp
          exact PostS.ext (D := D) (W := W) e1 hp
        | some (.ex τ2 c fs, L2) =>
          rw [eb] at hp
          exact PostS.ext (D := D) (W := W) e1 hp
    · rw [if_neg hk] at hp
      exact False.elim hp
  · have e : i = xs.length := by omega
    subst e
    rw [List.drop_length] at hp
    unfold forG at hp
    by_cases hk : ok L
    · rw [if_pos hk] at hp
      exact .inl ⟨(hsrc F ρ L H2 hE hR hk).2, hp F ρ H2 σ2 Ext.refl hR hS⟩
    · rw [if_neg hk] at hp
      exact False.elim hp
theorem ds_for {iter : Expr} {body : List Stmt} {wi : Tau → M Itm} {t : TG} {td : TgD} (hp : PassesOwn (model X.prog X.w) X.A X.env X.xe) (hc : X.calm = true) (hi : PI X tg iter (tI g W wi)) (hg : PG X tg t) (ht : TgOk g t td) (hb : PSs X body (tS g W s1))
    (hs : ∀ x, foldedSetIterable iter X.env x = pure x := by intro _; rfl) : PS X (.For tg iter body [] pos) (tS g W (forS wi td s1)) := PS.weak (ps_for hp hc hi hg hb hs) fun D σ H h => for_sat ht h
/-! ### while -/
def iterW (c : Tau → M Bool) (b : SX) : Nat → SX
  | 0 => fun _ _ => none
  | n + 1 => fun τ L => match c τ L with
    | none => none
    | some (.ex k fs, L1) => some (.ex τ k fs, L1)
    | some (.ok false, L1) => some (.nx τ, L1)
    | some (.ok true, L1) => match b τ L1 with
      | some (.nx τ2, L2) => iterW c b n τ2 L2
      | some (.ct τ2, L2) => iterW c b n τ2 L2
      | some (.bk τ2, L2) => some (.nx τ2, L2)
      | o => o
theorem iterW_more {c : Tau → M Bool} {b : SX} : ∀ {n : Nat} {τ : Tau} {L : List MO} {r : Out × List MO}, iterW c b n τ L = some r → iterW c b (n + 1) τ L = some r
  | 0, _, _, _, h => by cases h
  | n + 1, τ, L, r, h => by
    unfold iterW at h ⊢
    match e : c τ L with
    | none => rw [e] at h; cases h
    | some (.ex k fs, L1) => rw [e] at h; exact h
    | some (.ok false, L1) => rw [e] at h; exact h
    | some (.ok true, L1) =>
      rw [e] at h
      dsimp only at h ⊢
      match eb : b τ L1 with
      | none => rw [eb] at h; cases h
      | some (.nx τ2, L2) => rw [eb] at h; exact iterW_more h
      | some (.ct τ2, L2) => rw [eb] at h; exact iterW_more h
      | some (.bk τ2, L2) => rw [eb] at h; exact h
      | some (.rt d, L2) => rw [eb] at h; exact h
      | some (.ex τ2 k fs, L2) => rw [eb] at h; exact h
theorem iterW_le {c : Tau → M Bool} {b : SX} {τ : Tau} {L : List MO} {r : Out × List MO} {n m : Nat} (hm : n ≤ m) (h : iterW c b n τ L = some r) : iterW c b m τ L = some r := by
  induction hm with
  | refl => exact h
  | step _ ih => exact iterW_more ih
open Classical in
noncomputable def whileS (c : Tau → M Bool) (b : SX) : SX := fun τ L => if h : ∃ n, (iterW c b n τ L).isSome = true then iterW c b h.choose τ L else none
theorem whileS_of {c : Tau → M Bool} {b : SX} {τ : Tau} {L : List MO} {r : Out × List MO} (n : Nat) (h : iterW c b n τ L = some r) : whileS c b τ L = some r := by
  have hx : ∃ n, (iterW c b n τ L).isSome = true := ⟨n, by rw [h]; rfl⟩
  unfold whileS
  rw [dif_pos hx]
  obtain ⟨r', e⟩ := Option.isSome_iff_exists.mp hx.choose_spec
  rw [e]
  have e1 := iterW_le (Nat.le_max_left n hx.choose) h
  have e2 := iterW_le (Nat.le_max_right n hx.choose) e
  rw [e1] at e2
  exact e2.symm
theorem while_sat {D : Ends} {σ : St} {H : Hp} (h : tS g W (whileS ta s1) D σ H) : tWhile (tT g W ta) (tS g W s1) D σ H := by
  obtain ⟨F, ρ, τ, L, hR, hS, hc, hp⟩ := h
  unfold whileS at hp
  by_cases hx : ∃ n, (iterW ta s1 n τ L).isSome = true
  · rw [dif_pos hx] at hp
    refine ⟨fun m σ H => ∃ F ρ τ L, R g F ρ L H ∧ Sl g F ρ L.length σ τ ∧ PostS g F ρ L.length W D (iterW ta s1 m τ L), ⟨hx.choose, F, ρ, τ, L, hR, hS, hp⟩, ?_⟩
    rintro m σ H ⟨F, ρ, τ, L, hR, hS, hp⟩
    cases m with
    | zero => exact False.elim hp
    | succ m =>
      have hp' : SatS g W [] (eThen ta fun b => if b then (fun τ L1 => match s1 τ L1 with
          | some (.nx τ2, L2) => iterW ta s1 m τ2 L2
          | some (.ct τ2, L2) => iterW ta s1 m τ2 L2
          | some (.bk τ2, L2) => some (.nx τ2, L2)
          | o => o) else nxS) D σ H := by
        refine ⟨F, ρ, τ, L, hR, hS, (fun y hy => by cases hy), ?_⟩
        unfold iterW at hp
        unfold eThen
        match e : ta τ L with
        | none => rw [e] at hp; exact hp
        | some (.ex k fs, L1) => rw [e] at hp; exact hp
        | some (.ok false, L1) => rw [e] at hp; exact hp
        | some (.ok true, L1) => rw [e] at hp; exact hp
      refine (SatS.bindB hp').mono fun b H1 h1 => ?_
      cases b with
      | false =>
        obtain ⟨F, ρ, τ, L, hR, hS, hc, hp⟩ := h1
        exact hp F ρ H1 σ Ext.refl hR hS
      | true =>
        rw [if_pos rfl]
        obtain ⟨F, ρ, τ, L, hR, hS, hc, hp⟩ := h1
        refine ⟨fun σ' H' => ∃ F ρ τ L, R g F ρ L H' ∧ Sl g F ρ L.length σ' τ ∧ PostS g F ρ L.length W D (iterW ta s1 m τ L), fun σ' H' q => ⟨m, Nat.lt_succ_self m, q⟩, F, ρ, τ, L, hR, hS, (fun y hy => by cases hy), ?_⟩
        have hp2 : PostS g F ρ L.length W D (match s1 τ L with
          | some (.nx τ2, L2) => iterW ta s1 m τ2 L2
          | some (.ct τ2, L2) => iterW ta s1 m τ2 L2
          | some (.bk τ2, L2) => some (.nx τ2, L2)
          | o => o) := hp
        match eb : s1 τ L with
        | none => rw [eb] at hp2; exact hp2
        | some (.nx τ2, L2) =>
          rw [eb] at hp2
          exact fun F3 ρ3 H3 σ4 x1 x2 x3 => ⟨F3, ρ3, τ2, L2, x2, x3, hp2.ext x1⟩
        | some (.ct τ2, L2) =>
          rw [eb] at hp2
          exact fun F3 ρ3 H3 σ4 x1 x2 x3 => ⟨F3, ρ3, τ2, L2, x2, x3, hp2.ext x1⟩
        | some (.bk τ2, L2) =>
          rw [eb] at hp2
          exact hp2
        | some (.rt d, L2) => rw [eb] at hp2; exact hp2
        | some (.ex τ2 c fs, L2) => rw [eb] at hp2; exact hp2
  · rw [dif_neg hx] at hp
    exact False.elim hp
theorem ds_while {body : List Stmt} (hp : PassesOwn (model X.prog X.w) X.A X.env X.xe) (hc : PT X c (tT g W ta)) (hb : PSs X body (tS g W s1)) : PS X (.While c body [] pos) (tS g W (whileS ta s1)) := PS.weak (ps_while hp hc hb) fun D σ H h => while_sat h
end
end DN

end
section
set_option Elab.async false
set_option linter.all false
set_option maxRecDepth 100000
set_option maxHeartbeats 4000000
/-! D9: defs, calls, methods, instances, attributes. -/
namespace DN
open PySem PySem.Spec PyProof.Rows L2
/-! ### a def's promise -/
def spF (g : G) (n : Nat) (f : List D → M D) : Sp := fun vs H Q E => ∃ F ρ L ds, R g F ρ L H ∧ relA g F ρ L.length vs ds ∧ ds.length = n ∧ Post g (relV g) F ρ L.length E Q (f ds L)
def bodyF (N : Nat) (s : SX) (ds : List D) : M D := fun L => match s (ds.map some ++ List.replicate (N - ds.length) none) L with
  | some (.nx _, L1) => some (.ok (.v .non), L1)
  | some (.rt d, L1) => some (.ok d, L1)
  | some (.ex _ c fs, L1) => some (.ex c fs, L1)
  | _ => none
theorem Sl.start {g : G} {F : Hp} {ρ : Nat → Addr} {n m : Nat} : ∀ {vs : List V} {ds : List D}, relA g F ρ n vs ds → Sl g F ρ n (vs.map some ++ List.replicate m none) (ds.map some ++ List.replicate m none) := by
  intro vs ds h
  have hl := prd_len h
  refine ⟨by simp [hl], fun i d q => ?_⟩
  by_cases hi : i < ds.length
  · rw [List.getElem?_append_left (by simpa using hi), List.getElem?_map] at q
    rw [List.getElem?_append_left (by simp [hl]; exact hi), List.getElem?_map]
    have key : ∀ {vs : List V} {ds : List D} {i : Nat} {d : D}, Paired (fun v d => IsD g F ρ n v d) vs ds → ds[i]? = some d → ∃ v, vs[i]? = some v ∧ IsD g F ρ n v d := by
      intro vs ds i d h
      induction h generalizing i with
      | nil => intro q; simp at q
      | cons h t ih =>
        cases i with
        | zero => intro q; simp at q; subst q; exact ⟨_, rfl, h⟩
        | succ i => intro q; simpa using ih (by simpa using q)
    cases e : ds[i]? with
    | none => rw [e] at q; cases q
    | some d' =>
      rw [e] at q
      cases q
      obtain ⟨v, h1, h2⟩ := key h e
      exact ⟨v, by rw [h1]; rfl, h2⟩
  · rw [List.getElem?_append_right (by simpa using Nat.not_lt.mp hi), List.getElem?_replicate] at q
    split at q <;> cases q
section
variable {P0 : Program} {w : World} {K : PySem.W.Frag} {mg : Str → Option Value} {base : Heap} {g : G}
/-- THE RULE for a def -/
theorem fn_ok {x qual : Str} {st : Stmt} {f : Addr} {fd : FuncData} {N ps : List Str} {k m n : Nat} {s : SX} (F : Fun K x qual st f fd) (S : FnScope N ps (defScope st)) (hm : N.length = m) (hn : ps.length = n)
    (hb : ∀ (cdv : Value) (A : Around) (outer : List Env) (s0 : Shared) (H : Hp) (E : XK), Room k (A.deeper (envOfC qual (defScope st) s0.heap.objs.size f cdv)) →
      Takes (cxOf (L2.CX P0 w) P0 w K mg base N qual (defScope st) f cdv A outer s0 H E) (fun cls d _ H => E cls d H) →
      PassesOwn (model P0 w) (A.deeper (envOfC qual (defScope st) s0.heap.objs.size f cdv)) (envOfC qual (defScope st) s0.heap.objs.size f cdv) (cxOf (L2.CX P0 w) P0 w K mg base N qual (defScope st) f cdv A outer s0 H E).xe →
      PSs (cxOf (L2.CX P0 w) P0 w K mg base N qual (defScope st) f cdv A outer s0 H E) (defBody st) (tS g (fun cls d _ H => E cls d H) s)) :
    FnOk P0 w K mg base (L2.CX P0 w) (k + 1) f fd ps (spF g n (bodyF m s)) := by
  refine F.okX S (fun vs H Q E h => ?_) (fun cdv A outer s0 H vs Q E hr h => ?_)
  · obtain ⟨_, _, _, ds, _, ha, hl, _⟩ := h
    rw [prd_len ha, hl, hn]
  · obtain ⟨F0, ρ, L, ds, hR, ha, hl, hp⟩ := h
    refine ⟨_, hb cdv A outer s0 H E hr (takes_of rfl rfl rfl rfl) PassesOwn.leaving, F0, ρ, ds.map some ++ List.replicate (m - ds.length) none, L, hR, ?_, (fun y hy => by cases hy), ?_⟩
    · unfold L2.start
      rw [hm, prd_len ha]
      exact Sl.start ha
    · unfold bodyF at hp
      match e : s (ds.map some ++ List.replicate (m - ds.length) none) L with
      | none => rw [e] at hp; exact hp
      | some (.nx _, L1) =>
        rw [e] at hp
        exact fun F' ρ' H' σ' x1 x2 x3 => hp F' ρ' _ H' x1 x2 Is.non
      | some (.rt d, L1) =>
        rw [e] at hp
        exact fun F' ρ' H' v x1 x2 x3 => hp F' ρ' v H' x1 x2 x3
      | some (.ex _ c fs, L1) =>
        rw [e] at hp
        exact fun F' ρ' dx vs' H' σ' x1 x2 x3 x4 x5 x6 => hp F' ρ' dx vs' H' x1 x2 x4 x5 x6
      | some (.bk _, L1) => rw [e] at hp; exact False.elim hp
      | some (.ct _, L1) => rw [e] at hp; exact False.elim hp
/-! ### a call's own objects are let go -/
def okR (n : Nat) : D → Prop
  | .v _ => True
  | .r k => k < n
def MO.okR (n : Nat) : MO → Prop
  | .ins _ fs => ∀ y ∈ fs, DN.okR n y.2
  | _ => True
def Older (L L' : List MO) : Prop := L.length ≤ L'.length ∧ ∀ i m, i < L.length → L'[i]? = some m → L[i]? = some m ∨ MO.okR L.length m
theorem IsD.okR {F : Hp} {ρ : Nat → Addr} {n : Nat} {v : V} {d : D} (h : IsD g F ρ n v d) : DN.okR n d := by
  cases d with
  | v p => trivial
  | r k => exact h.1
theorem prd_right {α β : Type} {A : α → β → Prop} {B : β → Prop} (f : ∀ x y, A x y → B y) : ∀ {xs : List α} {ys : List β}, Paired A xs ys → ∀ y ∈ ys, B y
  | _, _, .nil, _, h => by cases h
  | _, _, .cons h t, y, hy => by
    rcases List.mem_cons.mp hy with z | hy
    · rw [z]; exact f _ _ h
    · exact prd_right f t y hy
theorem MoIs.okR {F : Hp} {ρ : Nat → Addr} {n : Nat} {H : Hp} {a : Addr} {m : MO} (h : MoIs g F ρ n H a m) : MO.okR n m := by
  cases m with
  | ins c fs =>
    obtain ⟨dx, vs, _, h1, _⟩ := h
    exact prd_right (fun x y z => IsD.okR z.2) h1
  | _ => trivial
theorem R.okR {F : Hp} {ρ : Nat → Addr} {L : List MO} {H : Hp} (h : R g F ρ L H) {i : Nat} {m : MO} (e : L[i]? = some m) : MO.okR L.length m := by
  by_cases nd : m = .dead
  · subst nd; trivial
  · exact (h.ent i m e nd).2.okR
theorem IsD.down {F : Hp} {ρ ρ' : Nat → Addr} {n n' : Nat} {v : V} {d : D} (hr : ∀ i, i < n → ρ' i = ρ i) (h : IsD g F ρ' n' v d) (ho : DN.okR n d) : IsD g F ρ n v d := by
  cases d with
  | v p => exact h
  | r k => exact ⟨ho, by rw [← hr k ho]; exact h.2⟩
theorem prd_and {α β : Type} {A B : α → β → Prop} {C : β → Prop} (f : ∀ x y, A x y → C y → B x y) : ∀ {xs : List α} {ys : List β}, Paired A xs ys → (∀ y ∈ ys, C y) → Paired B xs ys
  | _, _, .nil, _ => .nil
  | _, _, .cons h t, k => .cons (f _ _ h (k _ List.mem_cons_self)) (prd_and f t fun y hy => k y (List.mem_cons_of_mem _ hy))
theorem MoIs.down {F : Hp} {ρ ρ' : Nat → Addr} {n n' : Nat} {H : Hp} {a : Addr} {m : MO} (hr : ∀ i, i < n → ρ' i = ρ i) (h : MoIs g F ρ' n' H a m) (ho : MO.okR n m) : MoIs g F ρ n H a m := by
  cases m with
  | lst xs => exact h
  | dk es => exact h
  | dn es => exact h
  | dead => trivial
  | ins c fs =>
    obtain ⟨dx, vs, h0, h1, h2⟩ := h
    exact ⟨dx, vs, h0, prd_and (fun x y z k => ⟨z.1, z.2.down hr k⟩) h1 ho, h2⟩
theorem R.trunc {F : Hp} {ρ ρ' : Nat → Addr} {L' : List MO} {H : Hp} {n : Nat} (h : R g F ρ' L' H) (hn : n ≤ L'.length) (hr : ∀ i, i < n → ρ' i = ρ i) (ho : ∀ i m, i < n → L'[i]? = some m → MO.okR n m) : R g F ρ (L'.take n) H := by
  have hl : (L'.take n).length = n := by rw [List.length_take]; omega
  have get : ∀ i m, (L'.take n)[i]? = some m → i < n ∧ L'[i]? = some m := fun i m e => by
    have hi : i < n := by
      have := (List.getElem?_eq_some_iff.mp e).1
      rwa [hl] at this
    rw [List.getElem?_take_of_lt hi] at e
    exact ⟨hi, e⟩
  refine ⟨h.sub, fun i m e nd => ?_, fun i j m m' e1 e2 n1 n2 er => ?_⟩
  · obtain ⟨hi, e'⟩ := get i m e
    obtain ⟨h1, h2⟩ := h.ent i m e' nd
    rw [hl, ← hr i hi]
    exact ⟨h1, h2.down hr (ho i m hi e')⟩
  · obtain ⟨hi, e1'⟩ := get i m e1
    obtain ⟨hj, e2'⟩ := get j m' e2
    rw [← hr i hi, ← hr j hj] at er
    exact h.inj i j m m' e1' e2' n1 n2 er
/-- what may be frozen: lists -/
def frzMO : MO → Option P
  | .lst xs => some (.lst xs)
  | _ => none
open Classical in
/-- what the call made is let go; a list that it hands back: kept (keep) or frozen -/
noncomputable def scopeF (keep : Bool) (f : List D → M D) (ds : List D) : M D := fun L => match f ds L with
  | some (.ok (.v p), L1) => if Older L L1 then some (.ok (.v p), L1.take L.length) else none
  | some (.ok (.r n), L1) => if Older L L1 then
      (if n < L.length then some (.ok (.r n), L1.take L.length) else
        match L1[n]? with
        | some (.lst xs) => if keep = true then some (.ok (.r L.length), L1.take L.length ++ [.lst xs]) else some (.ok (.v (.lst xs)), L1.take L.length)
        | _ => none) else none
  | some (.ex c fs, L1) => if Older L L1 then some (.ex c fs, L1.take L.length) else none
  | none => none
theorem scope_post {keep : Bool} {f : List D → M D} {ds : List D} {F : Hp} {ρ : Nat → Addr} {L : List MO} {H : Hp} {W : Value → Option Addr → Hp → Prop} {Q : VK} (hR : R g F ρ L H) (hp : Post g (relV g) F ρ L.length W Q (scopeF keep f ds L)) : Post g (relV g) F ρ L.length W Q (f ds L) := by
  unfold scopeF at hp
  have down : ∀ {L1 : List MO} {F' : Hp} {ρ' : Nat → Addr} {H' : Hp}, Older L L1 → Ext F ρ L.length F' ρ' L1.length → R g F' ρ' L1 H' → R g F' ρ (L1.take L.length) H' ∧ (L1.take L.length).length = L.length := fun {L1 F' ρ' H'} ho he hR' => by
    refine ⟨hR'.trunc he.len he.rho fun i m hi e => ?_, by rw [List.length_take]; have := he.len; omega⟩
    rcases ho.2 i m hi e with q | q
    · exact hR.okR q
    · exact q
  match e : f ds L with
  | none => rw [e] at hp; exact hp
  | some (.ok (.v p), L1) =>
    rw [e] at hp
    dsimp only at hp
    by_cases ho : Older L L1
    · rw [if_pos ho] at hp
      intro F' ρ' v H' he hR' hv
      obtain ⟨q1, q2⟩ := down ho he hR'
      exact hp F' ρ v H' (by rw [q2]; exact ⟨he.sub, fun _ _ => rfl, Nat.le_refl _⟩) q1 hv
    · rw [if_neg ho] at hp; exact False.elim hp
  | some (.ex c fs, L1) =>
    rw [e] at hp
    dsimp only at hp
    by_cases ho : Older L L1
    · rw [if_pos ho] at hp
      intro F' ρ' dx vs H' he hR' hx h1 h2
      obtain ⟨q1, q2⟩ := down ho he hR'
      exact hp F' ρ dx vs H' (by rw [q2]; exact ⟨he.sub, fun _ _ => rfl, Nat.le_refl _⟩) q1 hx h1 h2
    · rw [if_neg ho] at hp; exact False.elim hp
  | some (.ok (.r n), L1) =>
    rw [e] at hp
    dsimp only at hp
    by_cases ho : Older L L1
    · rw [if_pos ho] at hp
      by_cases hn : n < L.length
      · rw [if_pos hn] at hp
        intro F' ρ' v H' he hR' hv
        obtain ⟨q1, q2⟩ := down ho he hR'
        exact hp F' ρ v H' (by rw [q2]; exact ⟨he.sub, fun _ _ => rfl, Nat.le_refl _⟩) q1 (by rw [q2]; exact IsD.down he.rho hv hn)
      · rw [if_neg hn] at hp
        intro F' ρ' v H' he hR' hv
        obtain ⟨q1, q2⟩ := down ho he hR'
        match em : L1[n]? with
        | some (.lst xs) =>
          rw [em] at hp
          dsimp only at hp
          obtain ⟨us, h1, h2⟩ := hR'.lstAt em
          cases keep with
          | true =>
            rw [if_pos rfl] at hp
            have hlen : (L1.take L.length ++ [MO.lst xs]).length = L.length + 1 := by rw [List.length_append, q2, List.length_singleton]
            refine hp F' (rput ρ L.length (ρ' n)) v H' ⟨he.sub, fun i hi => rput_old hi, by rw [hlen]; omega⟩ ?_ ⟨by rw [hlen]; omega, by rw [rput_new]; exact hv.2⟩
            refine ⟨q1.sub, fun i m ei nd => ?_, fun i j m m' e1 e2 n1 n2 er => ?_⟩
            · rw [hlen]
              by_cases hi : i < L.length
              · rw [List.getElem?_append_left (by rw [q2]; exact hi)] at ei
                obtain ⟨a1, a2⟩ := q1.ent i m ei nd
                rw [rput_old hi]
                rw [q2] at a2
                exact ⟨a1, a2.ext ⟨Sub.refl _, fun i hi => rput_old hi, Nat.le_succ _⟩⟩
              · have hi' : i = L.length := by
                  have := (List.getElem?_eq_some_iff.mp ei).1
                  rw [hlen] at this
                  omega
                subst hi'
                rw [List.getElem?_append_right (by rw [q2]; exact Nat.le_refl _), q2, Nat.sub_self] at ei
                cases ei
                rw [rput_new]
                exact ⟨(hR'.ent n _ em (by intro z; cases z)).1, us, h1, h2⟩
            · have key : ∀ (i : Nat) (m : MO), (L1.take L.length ++ [MO.lst xs])[i]? = some m → (i < L.length ∧ L1[i]? = some m ∧ rput ρ L.length (ρ' n) i = ρ' i) ∨ (i = L.length ∧ m = .lst xs ∧ rput ρ L.length (ρ' n) i = ρ' n) := fun i m ei => by
                by_cases hi : i < L.length
                · rw [List.getElem?_append_left (by rw [q2]; exact hi), List.getElem?_take_of_lt hi] at ei
                  exact .inl ⟨hi, ei, by rw [rput_old hi, he.rho i hi]⟩
                · have hi' : i = L.length := by
                    have := (List.getElem?_eq_some_iff.mp ei).1
                    rw [hlen] at this
                    omega
                  subst hi'
                  rw [List.getElem?_append_right (by rw [q2]; exact Nat.le_refl _), q2, Nat.sub_self] at ei
                  cases ei
                  exact .inr ⟨rfl, rfl, rput_new⟩
              rcases key i m e1 with ⟨a1, a2, a3⟩ | ⟨a1, a2, a3⟩
              · rcases key j m' e2 with ⟨b1, b2, b3⟩ | ⟨b1, b2, b3⟩
                · rw [a3, b3] at er
                  exact hR'.inj i j m m' a2 b2 n1 n2 er
                · rw [a3, b3] at er
                  have := hR'.inj i n m _ a2 em n1 (by intro z; cases z) er
                  omega
              · rcases key j m' e2 with ⟨b1, b2, b3⟩ | ⟨b1, b2, b3⟩
                · rw [a3, b3] at er
                  have := hR'.inj n j _ m' em b2 (by intro z; cases z) n2 er
                  omega
                · omega
          | false =>
            rw [if_neg Bool.false_ne_true] at hp
            have hf := hR'.freeze em (by intro z; cases z) h1
            have sb : Sub F' (upd F' (ρ' n) (.lst us)) := fun b q eb => by
              have nb : b ≠ ρ' n := fun z => by rw [z, (hR'.ent n _ em (by intro z; cases z)).1] at eb; cases eb
              rw [upd_ne nb]
              exact eb
            have e2 : (L1.set n MO.dead).take L.length = L1.take L.length := by
              rw [List.take_set, List.set_eq_of_length_le (by rw [q2]; omega)]
            have q3 : R g (upd F' (ρ' n) (.lst us)) ρ (L1.take L.length) H' := by
              rw [← e2]
              refine hf.trunc (by rw [List.length_set]; exact he.len) he.rho fun i m hi e => ?_
              rw [List.getElem?_set_ne (by omega)] at e
              rcases ho.2 i m hi e with q | q
              · exact hR.okR q
              · exact q
            refine hp _ ρ v H' ⟨he.sub.trans sb, fun _ _ => rfl, by rw [q2]; exact Nat.le_refl _⟩ q3 ?_
            have ev : v = .ref (ρ' n) := hv.2
            rw [ev]
            exact Is.lst upd_same (IsA.mono sb h2)
        | none => rw [em] at hp; exact False.elim hp
        | some (.dk _) => rw [em] at hp; exact False.elim hp
        | some (.dn _) => rw [em] at hp; exact False.elim hp
        | some (.ins _ _) => rw [em] at hp; exact False.elim hp
        | some .dead => rw [em] at hp; exact False.elim hp
    · rw [if_neg ho] at hp; exact False.elim hp
theorem fn_scope {f : Addr} {fd : FuncData} {ps : List Str} {k n : Nat} {fn : List D → M D} (keep : Bool) (h : FnOk P0 w K mg base (L2.CX P0 w) k f fd ps (spF g n fn)) : FnOk P0 w K mg base (L2.CX P0 w) k f fd ps (spF g n (scopeF keep fn)) :=
  h.imp fun vs H Q E ⟨F, ρ, L, ds, hR, ha, hl, hp⟩ => ⟨F, ρ, L, ds, hR, ha, hl, scope_post hR hp⟩
end
end DN

end
section
set_option Elab.async false
set_option linter.all false
set_option maxRecDepth 100000
set_option maxHeartbeats 4000000
/-! D10: calls of defs, methods (by the receiver's class), instances made, attributes. -/
namespace DN
open PySem PySem.Spec PyProof.Rows L2
section
variable {X : Cx} {g : G} {W : WX} {a b c e o : Expr} {fa fb fc f : Tau → M D} {pos p apos : Pos} {es : List Expr} {fs : Tau → M (List D)} {k n : Nat} {fn : List D → M D}
def arN (n : Nat) (fn : List D → M D) (ds : List D) : M D := if ds.length = n then fn ds else M.stuck
theorem call_sat {fad : Addr} {fd : FuncData} {ps : List Str} {σ : L2.St} {H : Hp} {Q : VK} (h : tE g W (appA (arN n fn) fs) σ H Q) : (tA g W fs) σ H fun vs H1 => spF g n fn (vs ++ []) H1 Q (WE W σ) := by
  refine (Sat.bind (ra := relA g) h).mono fun xs H2 h2 => ?_
  obtain ⟨F, ρ, τ, L, ds, hR, hS, hc, ha, hp⟩ := h2
  unfold arN at hp
  rw [List.append_nil]
  by_cases hz : ds.length = n
  · rw [if_pos hz] at hp
    exact ⟨F, ρ, L, ds, hR, ha, hz, hp⟩
  · rw [if_neg hz] at hp
    exact False.elim hp
/-- f(e, ..) -/
theorem de_call {x : Str} {fad : Addr} {fd : FuncData} {ps : List Str} (FO : FnOk X.prog X.w X.K X.mg X.base (L2.CX X.prog X.w) k fad fd ps (spF g n fn)) (hr : Room k X.A) (hg : Gl X x) (hm : X.mg x = some (.ref fad)) (hk : PySem.W.keepIn X.K (.ref fad) = true) (hb : Binds X.K fd ps []) (tk : Takes X W)
    (ha : PA X (e :: es) (tA g W fs)) (hdb : (x == ("__debug__" : Str)) = false := by decide) (he : starEach (e :: es) X.env = (false, eval e X.env) :: starEach es X.env := by rfl) (hpl : (backTo pos (starEach es X.env)).any (·.1) = false := by rfl) :
    PE X (.Call (.Name x p) (e :: es) [] pos) (tE g W (appA (arN n fn) fs)) :=
  PE.weak (pe_callSD FO hr hg hm hk hb .nil (fun σ => passAt tk σ) ha hdb he hpl) fun σ H Q h => call_sat (fad := fad) (fd := fd) (ps := ps) h

/-! ### methods -/
def clsOf (L : List MO) : D → Option Nat
  | .v (.ins c _) => some c
  | .r n => match L[n]? with
    | some (.ins c _) => some c
    | _ => none
  | _ => none
theorem clsOf_at {F : Hp} {ρ : Nat → Addr} {L : List MO} {H : Hp} {x : V} {d : D} {c : Nat} (hR : R g F ρ L H) (hx : IsD g F ρ L.length x d) (h : clsOf L d = some c) :
    ∃ a dx fs, x = .ref a ∧ H a = some (.ins (g.cl c) dx fs) ∧ ClsF g c ∧ ∀ y ∈ fs, ∃ i ∈ flT c, y.1 = nmT i := by
  cases d with
  | v p =>
    cases p with
    | ins c' qs =>
      cases h
      cases hx with
      | ins h1 h2 h3 h4 =>
        refine ⟨_, _, _, rfl, hR.sub _ _ h1, h4, fun y hy => ?_⟩
        have := (List.of_mem_zip (a := y.1) (b := y.2) hy).1
        obtain ⟨i, hi, e⟩ := List.mem_map.mp this
        exact ⟨i, hi, e.symm⟩
    | _ => cases h
  | r n =>
    unfold clsOf at h
    dsimp only at h
    match e : L[n]?, h with
    | some (.ins c' fs'), h =>
      cases h
      obtain ⟨_, dx, vs, h1, h2, h3, h4, _⟩ := hR.ent n _ e (by intro z; cases z)
      refine ⟨_, dx, vs, hx.2, h1, h3, fun y hy => ?_⟩
      have key : ∀ {xs : List (Str × V)} {ys : List (Nat × D)}, Paired (fun (x : Str × V) (y : Nat × D) => x.1 = nmT y.1 ∧ IsD g F ρ L.length x.2 y.2) xs ys → (∀ y ∈ ys, y.1 ∈ flT c) → ∀ y ∈ xs, ∃ i ∈ flT c, y.1 = nmT i := by
        intro xs ys h
        induction h with
        | nil => intro _ y hy; cases hy
        | cons h t ih =>
          intro hh y hy
          rcases List.mem_cons.mp hy with z | hy
          · rw [z]; exact ⟨_, hh _ List.mem_cons_self, h.1⟩
          · exact ih (fun y hy => hh y (List.mem_cons_of_mem _ hy)) y hy
      exact key h2 h4 y hy
theorem lookup_none {m : Str} : ∀ {fs : List (Str × V)}, (∀ y ∈ fs, y.1 ≠ m) → fs.lookup m = none
  | [], _ => rfl
  | (k, v) :: fs, h => by
    have hk : (m == k) = false := beq_eq_false_iff_ne.mpr fun z => h (k, v) List.mem_cons_self z.symm
    rw [List.lookup_cons, hk]
    exact lookup_none fun y hy => h y (List.mem_cons_of_mem _ hy)
/-- a class's method -/
structure MOk (P0 : Program) (w : World) (K : PySem.W.Frag) (mg : Str → Option Value) (base : Heap) (g : G) (m : Str) (k : Nat) (c : Nat) (n : Nat) (fn : List D → M D) : Prop where
  ex : ∃ (fad : Addr) (fd : FuncData) (ps : List Str), Meth K (g.cl c) m fad ∧ FnOk P0 w K mg base (L2.CX P0 w) k fad fd ps (spF g n fn) ∧ Binds K fd ps []
  no : ∀ i ∈ flT c, nmT i ≠ m
def methF (n : Nat) (tab : Nat → Option (List D → M D)) (f : Tau → M D) (fs : Tau → M (List D)) (τ : Tau) : M D := do
  let x ← f τ
  let fn ← (fun L => match (clsOf L x).bind tab with | some fn => some (.ok fn, L) | none => none : M (List D → M D))
  let ds ← fs τ
  arN n fn (x :: ds)
/-- one class's way -/
def tM1 (g : G) (W : WX) (n c : Nat) (m : Str) (fn : List D → M D) (ta : TE) (t : TA) : TE := fun σ H Q => ta σ H fun x H1 => ∃ a dx fs, x = .ref a ∧ H1 a = some (.ins (g.cl c) dx fs) ∧ Cls g.K (g.cl c) ∧ fs.lookup m = none ∧ t σ H1 fun vs H2 => spF g n fn (x :: vs) H2 Q (WE W σ)
theorem run_sd {CX : CXT} {fad : Addr} {fd : FuncData} {ps : List Str} {sp : Sp} {pins : List (Addr × Obj)} {σ : L2.St} {H : Hp} {s : Shared} {Q : VK} {E : XK} {us : List Value} {vs : List V} (FO : FnOk X.prog X.w X.K X.mg X.base CX k fad fd ps sp) (hr : Room k X.A) (hb : Binds X.K fd ps [])
    (hx : PassesAt CX X σ E) (I : Inv X pins σ H s) (r : Vals vs us) (h : sp vs H Q E) : wpAny (model X.prog X.w) X.A (call (.ref fad) us) (EP X pins σ Q) X.xe s := by
  have h' : sp (vs ++ []) H Q E := by rw [List.append_nil]; exact h
  exact run_fnSD (E := fun _ => E) FO hr hb .nil hx I r h'
theorem pe_meth1 {c n : Nat} {m : Str} {ta : TE} {t : TA} {pl : Sem Bool} (hK : X.K = g.K) (MO : MOk X.prog X.w X.K X.mg X.base g m k c n fn) (hr : Room k X.A) (tk : Takes X W) (he : PE X o ta) (ha : PA X (e :: es) t)
    (hst : starEach (e :: es) X.env = (false, eval e X.env) :: starEach es X.env := by rfl) (hpl : (backTo pos (starEach es X.env)).any (·.1) = false := by rfl)
    (ht : eval (.Call (.Attribute o m apos) (e :: es) [] pos) X.env = (do
      let v ← eval o X.env
      standAt apos.atName
      let (mf, first) ← holding [v] (getMethod v m pl)
      callWith pos mf first (backTo pos (starEach (e :: es) X.env)) (backToKw pos (keywordEach [] X.env))) := by rfl) :
    PE X (.Call (.Attribute o m apos) (e :: es) [] pos) (tM1 g W n c m fn ta t) := by
  obtain ⟨⟨fad, fd, ps, hm, FO, hb⟩, _⟩ := MO
  refine ⟨fun pins s σ H Q I h => PySem.W.methodCall_KW (pl := pl) (thn (he.run pins s σ H _ I h) fun u s1 hu => ?_) ht⟩
  obtain ⟨x, H1, I1, rx, ad, dx, fl, ex, ea, cl, lk, q⟩ := hu
  subst ex
  obtain rfl : u = Value.ref ad := rx
  rw [← hK] at cl
  refine getmeth_ok I1 ea cl hm lk (PySem.W.callWith_K (first := [.ref ad]) (h₀ := X.base) I.ok.mod.kin hm.kp (thn (ha.run pos pins s1 σ H1 _ I1 q) fun us s2 hus => ?_) hst hpl)
  obtain ⟨ws, H2, I2, r, q2⟩ := hus
  exact ⟨I2.kIn, run_sd (us := .ref ad :: us) (vs := .ref ad :: ws) FO hr hb (passAt tk σ) I2 (.cons rfl r) q2⟩
theorem pe_meth10 {c n : Nat} {m : Str} {ta : TE} {pl : Sem Bool} (hK : X.K = g.K) (MO : MOk X.prog X.w X.K X.mg X.base g m k c n fn) (hr : Room k X.A) (tk : Takes X W) (he : PE X o ta)
    (ht : eval (.Call (.Attribute o m apos) [] [] pos) X.env = (do
      let v ← eval o X.env
      standAt apos.atName
      let (mf, first) ← holding [v] (getMethod v m pl)
      callWith pos mf first (backTo pos (starEach [] X.env)) (backToKw pos (keywordEach [] X.env))) := by rfl) :
    PE X (.Call (.Attribute o m apos) [] [] pos) (tM1 g W n c m fn ta tNil) := by
  obtain ⟨⟨fad, fd, ps, hm, FO, hb⟩, _⟩ := MO
  refine ⟨fun pins s σ H Q I h => PySem.W.methodCall_KW (pl := pl) (thn (he.run pins s σ H _ I h) fun u s1 hu => ?_) ht⟩
  obtain ⟨x, H1, I1, rx, ad, dx, fl, ex, ea, cl, lk, q⟩ := hu
  subst ex
  obtain rfl : u = Value.ref ad := rx
  rw [← hK] at cl
  exact getmeth_ok I1 ea cl hm lk (PySem.W.callWith_K0 (first := [.ref ad]) I1.kIn hm.kp (run_sd (us := [.ref ad]) (vs := [.ref ad]) FO hr hb (passAt tk σ) I1 (.cons rfl .nil) q))
/-- any of several ways -/
theorem PE.ex {ι : Type} {t : ι → TE} {A : ι → Prop} (h : ∀ i, A i → PE X e (t i)) : PE X e (fun σ H Q => ∃ i, A i ∧ t i σ H Q) := ⟨fun pins s σ H Q I q => by
  obtain ⟨i, ai, q⟩ := q
  exact (h i ai).run pins s σ H Q I q⟩
theorem meth_sat {tab : Nat → Option (List D → M D)} {m : Str} {σ : L2.St} {H : Hp} {Q : VK} (hno : ∀ c fn, tab c = some fn → ∀ i ∈ flT c, nmT i ≠ m) (hsome : ∃ c fn, tab c = some fn)
    (h : tE g W (methF n tab f fs) σ H Q) : ∃ i : Nat × (List D → M D), tab i.1 = some i.2 ∧ tM1 g W n i.1 m i.2 (tE g W f) (tA g W fs) σ H Q := by
  obtain ⟨F, ρ, τ, L, hR, hS, hc, hp⟩ := h
  have hp' : Post g (relV g) F ρ L.length (fun c d H' => W c d σ H') Q (M.bnd (f τ) (fun x => M.bnd (fun L => match (clsOf L x).bind tab with | some fn => some (.ok fn, L) | none => none : M (List D → M D)) fun fn => M.bnd (fs τ) fun ds => arN n fn (x :: ds)) L) := hp
  unfold M.bnd at hp'
  match e : f τ L with
  | none => rw [e] at hp'; exact False.elim hp'
  | some (.ex c xs, L1) =>
    rw [e] at hp'
    obtain ⟨c0, fn0, h0⟩ := hsome
    exact ⟨(c0, fn0), h0, F, ρ, τ, L, hR, hS, hc, by rw [e]; exact hp'⟩
  | some (.ok d, L1) =>
    rw [e] at hp'
    dsimp only at hp'
    match e2 : clsOf L1 d with
    | none => rw [e2] at hp'; exact False.elim hp'
    | some c =>
      rw [e2] at hp'
      dsimp only [Option.bind] at hp'
      match e3 : tab c with
      | none => rw [e3] at hp'; exact False.elim hp'
      | some fn =>
        rw [e3] at hp'
        refine ⟨(c, fn), e3, F, ρ, τ, L, hR, hS, hc, ?_⟩
        rw [e]
        intro F1 ρ1 x H1 x1 hR1 hx
        obtain ⟨ad, dx, fl, ex, ea, cf, hfl⟩ := clsOf_at hR1 hx e2
        refine ⟨ad, dx, fl, ex, ea, cf.cls, lookup_none fun y hy z => ?_, ?_⟩
        · obtain ⟨i, hi, q⟩ := hfl y hy
          exact hno c fn e3 i hi (q.symm.trans z)
        · have h2 : Sat g (relV g) W [(x, d)] (fun τ => fs τ >>= fun ds => arN n fn (d :: ds)) σ H1 Q := ⟨F1, ρ1, τ, L1, hR1, hS.ext x1, (fun y hy => by rw [List.mem_singleton.mp hy]; exact hx), hp'.ext x1⟩
          refine (Sat.bind (ra := relA g) h2).mono fun xs H2 h3 => ?_
          obtain ⟨F, ρ, τ, L, ds, hR, hS, hc, ha, hp⟩ := h3
          unfold arN at hp
          by_cases hz : (d :: ds).length = n
          · rw [if_pos hz] at hp
            exact ⟨F, ρ, L, d :: ds, hR, .cons (hc (x, d) (by simp)) ha, hz, hp⟩
          · rw [if_neg hz] at hp
            exact False.elim hp
/-- o.m(e, ..): by the class of o -/
theorem de_meth {tab : Nat → Option (List D → M D)} {m : Str} {pl : Sem Bool} (hK : X.K = g.K) (MT : ∀ c fn, tab c = some fn → MOk X.prog X.w X.K X.mg X.base g m k c n fn) (hsome : ∃ c fn, tab c = some fn) (hr : Room k X.A) (tk : Takes X W) (he : PE X o (tE g W f)) (ha : PA X (e :: es) (tA g W fs))
    (hst : starEach (e :: es) X.env = (false, eval e X.env) :: starEach es X.env := by rfl) (hpl : (backTo pos (starEach es X.env)).any (·.1) = false := by rfl)
    (ht : eval (.Call (.Attribute o m apos) (e :: es) [] pos) X.env = (do
      let v ← eval o X.env
      standAt apos.atName
      let (mf, first) ← holding [v] (getMethod v m pl)
      callWith pos mf first (backTo pos (starEach (e :: es) X.env)) (backToKw pos (keywordEach [] X.env))) := by rfl) :
    PE X (.Call (.Attribute o m apos) (e :: es) [] pos) (tE g W (methF n tab f fs)) :=
  PE.weak (PE.ex (A := fun i : Nat × (List D → M D) => tab i.1 = some i.2) fun i hi => pe_meth1 (pl := pl) hK (MT i.1 i.2 hi) hr tk he ha hst hpl ht) fun σ H Q h => meth_sat (fun c fn e => (MT c fn e).no) hsome h
theorem de_meth0 {tab : Nat → Option (List D → M D)} {m : Str} {pl : Sem Bool} (hK : X.K = g.K) (MT : ∀ c fn, tab c = some fn → MOk X.prog X.w X.K X.mg X.base g m k c n fn) (hsome : ∃ c fn, tab c = some fn) (hr : Room k X.A) (tk : Takes X W) (he : PE X o (tE g W f))
    (ht : eval (.Call (.Attribute o m apos) [] [] pos) X.env = (do
      let v ← eval o X.env
      standAt apos.atName
      let (mf, first) ← holding [v] (getMethod v m pl)
      callWith pos mf first (backTo pos (starEach [] X.env)) (backToKw pos (keywordEach [] X.env))) := by rfl) :
    PE X (.Call (.Attribute o m apos) [] [] pos) (tE g W (methF n tab f nilA)) :=
  PE.weak (PE.ex (A := fun i : Nat × (List D → M D) => tab i.1 = some i.2) fun i hi => pe_meth10 (pl := pl) hK (MT i.1 i.2 hi) hr tk he ht) fun σ H Q h => by
    obtain ⟨i, hi, q⟩ := meth_sat (fun c fn e => (MT c fn e).no) hsome h
    refine ⟨i, hi, q.mono fun x H1 ⟨ad, dx, fl, e1, e2, e3, e4, q2⟩ => ⟨ad, dx, fl, e1, e2, e3, e4, ?_⟩⟩
    obtain ⟨F, ρ, τ, L, hR, hS, hc, hp⟩ := q2
    exact hp F ρ [] H1 Ext.refl hR .nil
end
end DN

end
section
set_option Elab.async false
set_option linter.all false
set_option maxRecDepth 100000
set_option maxHeartbeats 4000000
/-! D11: instances made; attributes read and stored; class constants; xs[i] = v. -/
namespace DN
open PySem PySem.Spec PyProof.Rows L2
section
variable {X : Cx} {g : G} {W : WX} {a b c e o : Expr} {fa fb fc f : Tau → M D} {pos p apos : Pos} {es : List Expr} {fs : Tau → M (List D)} {k n : Nat} {fn : List D → M D} {cn : Nat}
/-! ### C(..) -/
def tMk (g : G) (W : WX) (cn n : Nat) (fn : List D → M D) (t : TA) : TE := fun σ H Q => t σ H fun vs H1 => ∀ x dx, H1 x = none → H1 dx = none → dx ≠ x →
  spF g n fn (.ref x :: vs) (upd (upd H1 dx (.own x)) x (.ins (g.cl cn) dx [])) (fun v H2 => v = .non ∧ Q (.ref x) H2) (WE W σ)
theorem run_mk {fad : Addr} {fd : FuncData} {ps : List Str} {sp : Sp} {C : Addr} {pins : List (Addr × Obj)} {σ : L2.St} {H : Hp} {s : Shared} {Q : VK} {E : XK} {us : List Value} {vs : List V} (MK : Mk X.K C fad) (FO : FnOk X.prog X.w X.K X.mg X.base (L2.CX X.prog X.w) k fad fd ps sp) (hr : Room (k + 1) X.A) (hb : Binds X.K fd ps [])
    (hx : PassesAt (L2.CX X.prog X.w) X σ E) (I : Inv X pins σ H s) (r : Vals vs us)
    (h : ∀ x dx, H x = none → H dx = none → dx ≠ x → sp (.ref x :: vs) (upd (upd H dx (.own x)) x (.ins C dx [])) (fun v H2 => v = .non ∧ Q (.ref x) H2) E) :
    wpAny (model X.prog X.w) X.A (call (.ref C) us) (EP X pins σ Q) X.xe s := by
  let d0 := s.heap.objs.size
  let x0 := s.heap.objs.size + 1
  have n1 : H x0 = none := I.hok.fresh (Nat.le_succ _)
  have n2 : H d0 = none := I.hok.fresh (Nat.le_refl _)
  have hq := h x0 d0 n1 n2 (Nat.ne_of_lt (Nat.lt_succ_self _))
  have J := Inv.made (C := C) I
  have rr : Vals (V.ref x0 :: vs) (Value.ref x0 :: us) := .cons rfl r
  have ln : (Value.ref x0 :: us).length = ps.length := by rw [← rr.length]; exact FO.len _ _ _ _ hq
  have bt := hb _ (Value.ref x0 :: us) J.kIn (by rw [List.append_nil]; exact ln)
  rw [List.append_nil] at bt
  have run := FO.run (X.A.under (.builtin "type.__call__" ⟨.ref C :: us, []⟩)) X.stack _ _ ⟨Value.ref x0 :: us, []⟩ (Value.ref x0 :: us) (V.ref x0 :: vs) _ E (hr.make C us []) (J.env0.make C us []) bt rr hq
  refine wpAny_call (make_map I.kIn MK.makes MK.init (beq_iff_eq.mp MK.fn) (codeAny_mono run fun z s' hz => ?_))
  match z, hz with
  | .error er, hz => exact hx pins _ _ er s' J hz
  | .ok (.ret u), hz =>
    obtain ⟨v, H3, J3, rv, ev, q3⟩ := J.after hz
    subst ev
    exact ⟨rv, V.ref x0, H3, J3, rfl, q3⟩
  | .ok .next, hz => exact False.elim hz
  | .ok .brk, hz => exact False.elim hz
  | .ok .cont, hz => exact False.elim hz
theorem pe_mk {x : Str} {fad : Addr} {fd : FuncData} {ps : List Str} {t : TA} (hK : X.K = g.K) (MK : Mk X.K (g.cl cn) fad) (FO : FnOk X.prog X.w X.K X.mg X.base (L2.CX X.prog X.w) k fad fd ps (spF g n fn)) (hr : Room (k + 1) X.A) (hg : Gl X x) (hm : X.mg x = some (.ref (g.cl cn))) (hb : Binds X.K fd ps []) (tk : Takes X W)
    (ha : PA X (e :: es) t) (hdb : (x == ("__debug__" : Str)) = false := by decide) (he : starEach (e :: es) X.env = (false, eval e X.env) :: starEach es X.env := by rfl) (hpl : (backTo pos (starEach es X.env)).any (·.1) = false := by rfl) :
    PE X (.Call (.Name x p) (e :: es) [] pos) (tMk g W cn n fn t) := ⟨fun pins s σ H Q I h =>
  wpAny_Call_Name_kw (ld_glob I hg hm (PySem.W.callWith_K (h₀ := X.base) I.ok.mod.kin MK.kp (thn (ha.run pos pins s σ H _ I h) fun us s1 ⟨vs, H1, I1, r, q⟩ => ⟨I1.kIn, run_mk MK FO hr hb (passAt tk σ) I1 r q⟩) he hpl) hdb)⟩
theorem pe_mk0 {x : Str} {fad : Addr} {fd : FuncData} {ps : List Str} (hK : X.K = g.K) (MK : Mk X.K (g.cl cn) fad) (FO : FnOk X.prog X.w X.K X.mg X.base (L2.CX X.prog X.w) k fad fd ps (spF g n fn)) (hr : Room (k + 1) X.A) (hg : Gl X x) (hm : X.mg x = some (.ref (g.cl cn))) (hb : Binds X.K fd ps []) (tk : Takes X W)
    (hdb : (x == ("__debug__" : Str)) = false := by decide) :
    PE X (.Call (.Name x p) [] [] pos) (tMk g W cn n fn tNil) := ⟨fun pins s σ H Q I h =>
  wpAny_Call_Name_kw (ld_glob I hg hm (PySem.W.callWith_K0 I.kIn MK.kp (run_mk (us := []) MK FO hr hb (passAt tk σ) I .nil h)) hdb)⟩
/-- a new instance, then its __init__; frozen when it is whole (frz) -/
def insP (c : Nat) : List (Nat × D) → Option (List P)
  | fs => if fs.map (·.1) = flT c then asPs (fs.map (·.2)) else none
open Classical in
noncomputable def makF (frz : Bool) (cn n : Nat) (fn : List D → M D) (ds : List D) : M D := fun L =>
  if (D.r L.length :: ds).length = n then (match fn (.r L.length :: ds) (L ++ [.ins cn []]) with
    | some (.ok (.v .non), L1) => if frz = true then (match L1[L.length]? with
        | some (.ins c' fs') => if c' = cn ∧ Older L L1 then (match insP cn fs' with
          | some ps => some (.ok (.v (.ins cn ps)), L1.take L.length)
          | none => none) else none
        | _ => none) else some (.ok (.r L.length), L1)
    | some (.ex c fs, L1) => if frz = true then (if Older L L1 then some (.ex c fs, L1.take L.length) else none) else some (.ex c fs, L1)
    | _ => none) else none
theorem prd_insP {F : Hp} {ρ : Nat → Addr} {m : Nat} : ∀ {vs : List (Str × V)} {fs : List (Nat × D)} {ps : List P}, Paired (fun (x : Str × V) (y : Nat × D) => x.1 = nmT y.1 ∧ IsD g F ρ m x.2 y.2) vs fs → asPs (fs.map (·.2)) = some ps →
    vs = ((fs.map (·.1)).map nmT).zip (vs.map (·.2)) ∧ IsA g F (vs.map (·.2)) ps ∧ vs.length = fs.length
  | _, _, _, .nil, e => by cases e; exact ⟨rfl, .nil, rfl⟩
  | x :: vs, y :: fs, ps, .cons h t, e => by
    rw [List.map_cons] at e
    unfold asPs at e
    match e1 : asP y.2, e2 : asPs (fs.map (·.2)) with
    | some q, some qs =>
      rw [e1, e2] at e
      cases e
      obtain ⟨h1, h2, h3⟩ := prd_insP t e2
      refine ⟨?_, ?_, by rw [List.length_cons, List.length_cons, h3]⟩
      · rw [List.map_cons, List.map_cons, List.map_cons, List.zip_cons_cons, ← h1, ← h.1]
      · have hq := h.2
        cases ey : y.2 with
        | v q' =>
          rw [ey] at e1 hq
          cases e1
          exact .cons hq h2
        | r m' => rw [ey] at e1; cases e1
    | none, _ => rw [e1] at e; cases e
    | some _, none => rw [e1, e2] at e; cases e
theorem mak_sat {frz : Bool} {σ : L2.St} {H : Hp} {Q : VK} (hC : ClsF g cn) (h : tE g W (appA (makF frz cn n fn) fs) σ H Q) : tMk g W cn n fn (tA g W fs) σ H Q := by
  refine (Sat.bind (ra := relA g) h).mono fun xs H1 h2 => ?_
  obtain ⟨F, ρ, τ, L, ds, hR, hS, hc, ha, hp⟩ := h2
  intro x dx nx ndx ne
  unfold makF at hp
  by_cases hz : (D.r L.length :: ds).length = n
  · rw [if_pos hz] at hp
    -- the new state
    have R1 := hR.frz ndx (.own x)
    have nx1 : upd H1 dx (.own x) x = none := by rw [upd_ne (Ne.symm ne)]; exact nx
    have R2 : R g (upd F dx (.own x)) (rput ρ L.length x) (L ++ [.ins cn []]) (upd (upd H1 dx (.own x)) x (.ins (g.cl cn) dx [])) :=
      R1.new nx1 (.ins (g.cl cn) dx []) (.ins cn []) ⟨dx, [], upd_same, .nil, hC, (fun y hy => by cases hy), List.nodup_nil⟩
    have sbF : Sub F (upd F dx (.own x)) := Sub.frz hR ndx _
    have len1 : (L ++ [MO.ins cn []]).length = L.length + 1 := by rw [List.length_append, List.length_singleton]
    have E1 : Ext F ρ L.length (upd F dx (.own x)) (rput ρ L.length x) (L ++ [MO.ins cn []]).length := by
      rw [len1]
      exact ⟨sbF, fun i hi => rput_old hi, Nat.le_succ _⟩
    have hx0 : IsD g (upd F dx (.own x)) (rput ρ L.length x) (L ++ [MO.ins cn []]).length (.ref x) (.r L.length) := ⟨by rw [len1]; exact Nat.lt_succ_self _, by rw [rput_new]⟩
    refine ⟨_, _, _, _, R2, .cons hx0 (prd_mono ha fun v d z => z.ext E1), hz, ?_⟩
    match e : fn (.r L.length :: ds) (L ++ [.ins cn []]) with
    | none => rw [e] at hp; exact False.elim hp
    | some (.ok (.v .non), L1) =>
      rw [e] at hp ⊢
      dsimp only at hp
      intro F' ρ' v H' x1 hR' hv
      refine ⟨Is.inv_non hv, ?_⟩
      have x2 := E1.trans x1
      have rx : ρ' L.length = x := by rw [x1.rho L.length (by rw [len1]; exact Nat.lt_succ_self _), rput_new]
      have ln : L.length < L1.length := by have := x1.len; rw [len1] at this; omega
      cases frz with
      | false =>
        rw [if_neg Bool.false_ne_true] at hp
        exact hp F' ρ' _ H' x2 hR' ⟨ln, by rw [rx]⟩
      | true =>
        rw [if_pos rfl] at hp
        match e2 : L1[L.length]? with
        | some (.ins c' fs') =>
          rw [e2] at hp
          dsimp only at hp
          by_cases ho : c' = cn ∧ Older L L1
          · rw [if_pos ho] at hp
            obtain ⟨rfl, ho⟩ := ho
            match e3 : insP c' fs' with
            | none => rw [e3] at hp; exact False.elim hp
            | some ps =>
              rw [e3] at hp
              dsimp only at hp
              unfold insP at e3
              by_cases hk : fs'.map (·.1) = flT c'
              · rw [if_pos hk] at e3
                obtain ⟨d2, vs2, a1, a2, a3, a4, a5⟩ := (hR'.ent L.length _ e2 (by intro z; cases z)).2
                obtain ⟨b1, b2, b3⟩ := prd_insP a2 e3
                rw [rx] at a1
                have hf := hR'.freeze e2 (by intro z; cases z) (o := .ins (g.cl c') d2 vs2) (by rw [rx]; exact a1)
                rw [rx] at hf
                have fx : F' x = none := by
                  have := (hR'.ent L.length _ e2 (by intro z; cases z)).1
                  rwa [rx] at this
                have sb : Sub F' (upd F' x (.ins (g.cl c') d2 vs2)) := fun b q eb => by
                  have nb : b ≠ x := fun z => by rw [z, fx] at eb; cases eb
                  rw [upd_ne nb]
                  exact eb
                have e4 : (L1.set L.length MO.dead).take L.length = L1.take L.length := by
                  rw [List.take_set, List.set_eq_of_length_le (by rw [List.length_take]; omega)]
                have q2 : (L1.take L.length).length = L.length := by rw [List.length_take]; omega
                have q3 : R g (upd F' x (.ins (g.cl c') d2 vs2)) ρ (L1.take L.length) H' := by
                  rw [← e4]
                  refine hf.trunc (by rw [List.length_set]; omega) x2.rho fun i m hi e => ?_
                  rw [List.getElem?_set_ne (by omega)] at e
                  rcases ho.2 i m hi e with q | q
                  · exact hR.okR q
                  · exact q
                refine hp _ ρ (.ref x) H' ⟨x2.sub.trans sb, fun _ _ => rfl, by rw [q2]; exact Nat.le_refl _⟩ q3 ?_
                refine Is.ins (dx := d2) (vs := vs2.map (·.2)) ?_ (by rw [List.length_map, b3, ← hk, List.length_map]) (IsA.mono sb b2) a3
                rw [upd_same, ← hk, ← b1]
              · rw [if_neg hk] at e3
                cases e3
          · rw [if_neg ho] at hp; exact False.elim hp
        | none => rw [e2] at hp; exact False.elim hp
        | some (.lst _) => rw [e2] at hp; exact False.elim hp
        | some (.dk _) => rw [e2] at hp; exact False.elim hp
        | some (.dn _) => rw [e2] at hp; exact False.elim hp
        | some .dead => rw [e2] at hp; exact False.elim hp
    | some (.ex c xs', L1) =>
      rw [e] at hp ⊢
      dsimp only at hp
      intro F' ρ' d vs' H' x1 hR' hd h1 h2
      have x2 := E1.trans x1
      cases frz with
      | false =>
        rw [if_neg Bool.false_ne_true] at hp
        exact hp F' ρ' d vs' H' x2 hR' hd h1 h2
      | true =>
        rw [if_pos rfl] at hp
        by_cases ho : Older L L1
        · rw [if_pos ho] at hp
          have ln := x2.len
          have q2 : (L1.take L.length).length = L.length := by rw [List.length_take]; omega
          refine hp F' ρ d vs' H' ⟨x2.sub, fun _ _ => rfl, by rw [q2]; exact Nat.le_refl _⟩ (hR'.trunc ln x2.rho fun i m hi e => ?_) hd h1 h2
          rcases ho.2 i m hi e with q | q
          · exact hR.okR q
          · exact q
        · rw [if_neg ho] at hp; exact False.elim hp
    | some (.ok (.r _), L1) => rw [e] at hp; exact False.elim hp
    | some (.ok (.v (.bl _)), L1) => rw [e] at hp; exact False.elim hp
    | some (.ok (.v (.int _)), L1) => rw [e] at hp; exact False.elim hp
    | some (.ok (.v (.str _)), L1) => rw [e] at hp; exact False.elim hp
    | some (.ok (.v (.tup _)), L1) => rw [e] at hp; exact False.elim hp
    | some (.ok (.v (.lst _)), L1) => rw [e] at hp; exact False.elim hp
    | some (.ok (.v (.ins _ _)), L1) => rw [e] at hp; exact False.elim hp
    | some (.ok (.v (.dk _)), L1) => rw [e] at hp; exact False.elim hp
    | some (.ok (.v (.dn _)), L1) => rw [e] at hp; exact False.elim hp
    | some (.ok (.v (.set _)), L1) => rw [e] at hp; exact False.elim hp
    | some (.ok (.v (.exn _ _)), L1) => rw [e] at hp; exact False.elim hp
    | some (.ok (.v (.scr _)), L1) => rw [e] at hp; exact False.elim hp
  · rw [if_neg hz] at hp
    exact False.elim hp
theorem de_make {x : Str} {fad : Addr} {fd : FuncData} {ps : List Str} {frz : Bool} (hK : X.K = g.K) (hC : ClsF g cn) (MK : Mk X.K (g.cl cn) fad) (FO : FnOk X.prog X.w X.K X.mg X.base (L2.CX X.prog X.w) k fad fd ps (spF g n fn)) (hr : Room (k + 1) X.A) (hg : Gl X x) (hm : X.mg x = some (.ref (g.cl cn))) (hb : Binds X.K fd ps []) (tk : Takes X W)
    (ha : PA X (e :: es) (tA g W fs)) (hdb : (x == ("__debug__" : Str)) = false := by decide) (he : starEach (e :: es) X.env = (false, eval e X.env) :: starEach es X.env := by rfl) (hpl : (backTo pos (starEach es X.env)).any (·.1) = false := by rfl) :
    PE X (.Call (.Name x p) (e :: es) [] pos) (tE g W (appA (makF frz cn n fn) fs)) := PE.weak (pe_mk hK MK FO hr hg hm hb tk ha hdb he hpl) fun σ H Q h => mak_sat hC h
theorem de_make0 {x : Str} {fad : Addr} {fd : FuncData} {ps : List Str} {frz : Bool} (hK : X.K = g.K) (hC : ClsF g cn) (MK : Mk X.K (g.cl cn) fad) (FO : FnOk X.prog X.w X.K X.mg X.base (L2.CX X.prog X.w) k fad fd ps (spF g n fn)) (hr : Room (k + 1) X.A) (hg : Gl X x) (hm : X.mg x = some (.ref (g.cl cn))) (hb : Binds X.K fd ps []) (tk : Takes X W)
    (hdb : (x == ("__debug__" : Str)) = false := by decide) :
    PE X (.Call (.Name x p) [] [] pos) (tE g W (appA (makF frz cn n fn) nilA)) := PE.weak (pe_mk0 hK MK FO hr hg hm hb tk hdb) fun σ H Q h => by
  have q := mak_sat (fs := nilA) hC h
  obtain ⟨F, ρ, τ, L, hR, hS, hc, hp⟩ := q
  exact hp F ρ [] H Ext.refl hR .nil
end
end DN

end
section
set_option Elab.async false
set_option linter.all false
set_option maxRecDepth 100000
set_option maxHeartbeats 4000000
/-! D12: attributes read and stored; class constants; xs[i] = v; list comprehensions. -/
namespace DN
open PySem PySem.Spec PyProof.Rows L2
section
variable {X : Cx} {g : G} {W : WX} {a b c e o : Expr} {fa fb fc f : Tau → M D} {ta tb : Tau → M Bool} {pos p apos : Pos} {es : List Expr} {fs : Tau → M (List D)} {k n : Nat} {fn : List D → M D} {s1 : SX}
/-! ### o.f -/
def fget : List Nat → List P → Nat → Option P
  | i :: is, p :: ps, j => if i = j then some p else fget is ps j
  | _, _, _ => none
def flook : List (Nat × D) → Nat → Option D
  | [], _ => none
  | (i, d) :: fs, j => if i = j then some d else flook fs j
def attD (i : Nat) : D → M D := fun d L => match d with
  | .v (.ins c ps) => (fget (flT c) ps i).map fun p => (.ok (.v p), L)
  | .r n => match L[n]? with
    | some (.ins _ fs) => (flook fs i).map fun d => (.ok d, L)
    | _ => none
  | _ => none
theorem fget_is {F : Hp} : ∀ {is : List Nat} {vs : List V} {ps : List P} {j : Nat} {q : P}, IsA g F vs ps → (is.map nmT).Nodup → j ∈ is → fget is ps j = some q → ∃ v, ((is.map nmT).zip vs).lookup (nmT j) = some v ∧ Is g F v q
  | [], _, _, _, _, _, _, h, _ => by cases h
  | i :: is, _, _, j, q, .nil, nd, h, e => by cases e
  | i :: is, _, _, j, q, .cons (v := v) (vs := vs) hv ht, nd, h, e => by
    unfold fget at e
    rw [List.map_cons, List.zip_cons_cons, List.lookup_cons]
    by_cases hij : i = j
    · rw [if_pos hij] at e
      cases e
      subst hij
      rw [beq_self_eq_true]
      exact ⟨v, rfl, hv⟩
    · rw [if_neg hij] at e
      have hj : j ∈ is := by
        rcases List.mem_cons.mp h with z | z
        · exact absurd z.symm hij
        · exact z
      rw [List.map_cons, List.nodup_cons] at nd
      have hk : (nmT j == nmT i) = false := beq_eq_false_iff_ne.mpr fun z => nd.1 (List.mem_map.mpr ⟨j, hj, z⟩)
      rw [hk]
      exact fget_is ht nd.2 hj e
theorem fget_mem : ∀ {is : List Nat} {ps : List P} {j : Nat} {q : P}, fget is ps j = some q → j ∈ is
  | [], _, _, _, h => by cases h
  | i :: is, [], _, _, h => by cases h
  | i :: is, p :: ps, j, q, h => by
    unfold fget at h
    by_cases hij : i = j
    · rw [hij]; exact List.mem_cons_self
    · rw [if_neg hij] at h
      exact List.mem_cons_of_mem _ (fget_mem h)
theorem flook_is {F : Hp} {ρ : Nat → Addr} {n : Nat} {L0 : List Nat} (nd : (L0.map nmT).Nodup) : ∀ {vs : List (Str × V)} {fs : List (Nat × D)} {j : Nat} {d : D}, Paired (fun (x : Str × V) (y : Nat × D) => x.1 = nmT y.1 ∧ IsD g F ρ n x.2 y.2) vs fs → (∀ y ∈ fs, y.1 ∈ L0) → j ∈ L0 → flook fs j = some d →
    ∃ v, vs.lookup (nmT j) = some v ∧ IsD g F ρ n v d
  | _, _, _, _, .nil, _, _, e => by cases e
  | (x1, x2) :: vs, (i, d') :: fs, j, d, .cons h t, hm, hj, e => by
    unfold flook at e
    rw [List.lookup_cons]
    have hx : x1 = nmT i := h.1
    by_cases hij : i = j
    · rw [if_pos hij] at e
      cases e
      subst hij
      rw [hx, beq_self_eq_true]
      exact ⟨x2, rfl, h.2⟩
    · rw [if_neg hij] at e
      have hk : (nmT j == x1) = false := beq_eq_false_iff_ne.mpr fun z => by
        rw [hx] at z
        have hi := hm (i, d') List.mem_cons_self
        have : ∀ {l : List Nat}, (l.map nmT).Nodup → i ∈ l → j ∈ l → nmT j = nmT i → i = j := by
          intro l
          induction l with
          | nil => intro _ h; cases h
          | cons a l ih =>
            intro nd hi hj z
            rw [List.map_cons, List.nodup_cons] at nd
            rcases List.mem_cons.mp hi with q1 | q1
            · rcases List.mem_cons.mp hj with q2 | q2
              · rw [q1, q2]
              · exact absurd (List.mem_map.mpr ⟨j, q2, by rw [z, q1]⟩) nd.1
            · rcases List.mem_cons.mp hj with q2 | q2
              · exact absurd (List.mem_map.mpr ⟨i, q1, by rw [← z, q2]⟩) nd.1
              · exact ih nd.2 q1 q2 z
        exact hij (this nd hi hj z)
      rw [hk]
      exact flook_is nd t (fun y hy => hm y (List.mem_cons_of_mem _ hy)) hj e
theorem flook_mem : ∀ {fs : List (Nat × D)} {j : Nat} {d : D}, flook fs j = some d → ∃ y ∈ fs, y.1 = j
  | [], _, _, h => by cases h
  | (i, d') :: fs, j, d, h => by
    unfold flook at h
    by_cases hij : i = j
    · exact ⟨(i, d'), List.mem_cons_self, hij⟩
    · rw [if_neg hij] at h
      obtain ⟨y, hy, e⟩ := flook_mem h
      exact ⟨y, List.mem_cons_of_mem _ hy, e⟩
theorem att_ok {F : Hp} {ρ : Nat → Addr} {L : List MO} {H : Hp} {x : V} {d : D} {i : Nat} {Wq : Value → Option Addr → Hp → Prop} {Q : VK} (hR : R g F ρ L H) (hx : IsD g F ρ L.length x d) (hp : Post g (relV g) F ρ L.length Wq Q (attD i d L)) :
    ∃ a C dx fs v, x = .ref a ∧ H a = some (.ins C dx fs) ∧ Cls g.K C ∧ NoAttr g.K C (nmT i) ∧ fs.lookup (nmT i) = some v ∧ Q v H := by
  cases d with
  | v q =>
    cases q with
    | ins c ps =>
      unfold attD at hp
      dsimp only at hp
      match e : fget (flT c) ps i with
      | none => rw [e] at hp; exact False.elim hp
      | some q =>
        rw [e] at hp
        cases hx with
        | ins h1 h2 h3 h4 =>
          obtain ⟨v, e1, e2⟩ := fget_is h3 h4.nd (fget_mem e) e
          exact ⟨_, _, _, _, v, rfl, hR.sub _ _ h1, h4.cls, h4.att i (fget_mem e), e1, hp.val hR e2⟩
    | _ => exact False.elim hp
  | r n =>
    unfold attD at hp
    dsimp only at hp
    match e : L[n]? with
    | some (.ins c fs) =>
      rw [e] at hp
      dsimp only at hp
      match e2 : flook fs i with
      | none => rw [e2] at hp; exact False.elim hp
      | some d =>
        rw [e2] at hp
        obtain ⟨_, dx, vs, h1, h2, h3, h4, _⟩ := hR.ent n _ e (by intro z; cases z)
        obtain ⟨y, hy, ey⟩ := flook_mem e2
        have hi : i ∈ flT c := by rw [← ey]; exact h4 y hy
        obtain ⟨v, e3, e4⟩ := flook_is h3.nd h2 h4 hi e2
        exact ⟨ρ n, _, dx, vs, v, hx.2, h1, h3.cls, h3.att i hi, e3, hp F ρ v H Ext.refl hR e4⟩
    | none => rw [e] at hp; exact False.elim hp
    | some (.lst _) => rw [e] at hp; exact False.elim hp
    | some (.dk _) => rw [e] at hp; exact False.elim hp
    | some (.dn _) => rw [e] at hp; exact False.elim hp
    | some .dead => rw [e] at hp; exact False.elim hp
def un (op : D → M D) (f : Tau → M D) (τ : Tau) : M D := f τ >>= op
theorem de_att {x : Str} (i : Nat) (hK : X.K = g.K) (hi : x = nmT i) (he : PE X e (tE g W f)) (hb : attributeBase e x X.env (eval e X.env) = eval e X.env := by rfl) : PE X (.Attribute e x pos) (tE g W (un (attD i) f)) := by
  subst hi
  refine PE.weak (pe_fld he hb) fun σ H Q h => ?_
  refine (Sat.bindV h).mono fun x H1 h1 => ?_
  obtain ⟨d, F, ρ, τ, L, hR, hS, hc, hp⟩ := h1
  rw [hK]
  exact att_ok hR (hc (x, d) (by simp)) hp
/-- a constant of the classes: by class -/
def conD (tab : Nat → Option P) : D → M D := fun d L => match (clsOf L d).bind tab with
  | some p => some (.ok (.v p), L)
  | none => none
theorem de_con {x : Str} {tab : Nat → Option P} (hK : X.K = g.K) (hc : ∀ c p, tab c = some p → (∃ v u, Con g.K (g.cl c) x v u ∧ ∀ F, Is g F v p) ∧ ∀ i ∈ flT c, nmT i ≠ x) (he : PE X e (tE g W f)) (hb : attributeBase e x X.env (eval e X.env) = eval e X.env := by rfl) : PE X (.Attribute e x pos) (tE g W (un (conD tab) f)) := by
  refine PE.weak (pe_con he hb) fun σ H Q h => ?_
  refine (Sat.bindV h).mono fun y H1 h1 => ?_
  obtain ⟨d, F, ρ, τ, L, hR, hS, hcx, hp⟩ := h1
  unfold conD at hp
  dsimp only at hp
  match e1 : (clsOf L d).bind tab with
  | none => rw [e1] at hp; exact False.elim hp
  | some q =>
    rw [e1] at hp
    obtain ⟨c', e2, e3⟩ := Option.bind_eq_some_iff.mp e1
    obtain ⟨ad, dx, fl, ex, ea, cf, hfl⟩ := clsOf_at hR (hcx (y, d) (by simp)) e2
    obtain ⟨⟨v, u, k1, k2⟩, k3⟩ := hc c' q e3
    rw [hK]
    refine ⟨ad, _, dx, fl, v, u, ex, ea, cf.cls, k1, lookup_none fun z hz q' => ?_, hp.val hR (k2 F)⟩
    obtain ⟨i, hi, q2⟩ := hfl z hz
    exact k3 i hi (q2.symm.trans q')
/-! ### o.f = e -/
def fput (i : Nat) (d : D) : List (Nat × D) → List (Nat × D)
  | [] => [(i, d)]
  | (j, e) :: fs => if j = i then (j, d) :: fs else (j, e) :: fput i d fs
def sattD (i : Nat) (d x : D) : M Unit := fun L => match x with
  | .r n => match L[n]? with
    | some (.ins c fs) => if i ∈ flT c then some (.ok (), L.set n (.ins c (fput i d fs))) else none
    | _ => none
  | _ => none
def sattS (i : Nat) (fo fv : Tau → M D) : SX := eThen (fun τ => do let d ← fv τ; let x ← fo τ; sattD i d x) fun _ τ L => some (.nx τ, L)
theorem fput_is {F : Hp} {ρ : Nat → Addr} {n : Nat} {L0 : List Nat} (nd : (L0.map nmT).Nodup) {v : V} {d : D} {i : Nat} (hv : IsD g F ρ n v d) (hi : i ∈ L0) : ∀ {vs : List (Str × V)} {fs : List (Nat × D)}, Paired (fun (x : Str × V) (y : Nat × D) => x.1 = nmT y.1 ∧ IsD g F ρ n x.2 y.2) vs fs → (∀ y ∈ fs, y.1 ∈ L0) →
    Paired (fun (x : Str × V) (y : Nat × D) => x.1 = nmT y.1 ∧ IsD g F ρ n x.2 y.2) (putF (nmT i) v vs) (fput i d fs)
  | _, _, .nil, _ => .cons ⟨rfl, hv⟩ .nil
  | (x1, x2) :: vs, (j, e) :: fs, .cons h t, hm => by
    have hx : x1 = nmT j := h.1
    have inj : ∀ {l : List Nat}, (l.map nmT).Nodup → i ∈ l → j ∈ l → nmT j = nmT i → j = i := by
      intro l
      induction l with
      | nil => intro _ h; cases h
      | cons a l ih =>
        intro nd hi hj z
        rw [List.map_cons, List.nodup_cons] at nd
        rcases List.mem_cons.mp hi with q1 | q1
        · rcases List.mem_cons.mp hj with q2 | q2
          · rw [q1, q2]
          · exact absurd (List.mem_map.mpr ⟨j, q2, by rw [z, q1]⟩) nd.1
        · rcases List.mem_cons.mp hj with q2 | q2
          · exact absurd (List.mem_map.mpr ⟨i, q1, by rw [← z, q2]⟩) nd.1
          · exact ih nd.2 q1 q2 z
    unfold putF fput
    by_cases hij : j = i
    · subst hij
      rw [if_pos hx, if_pos rfl]
      exact .cons ⟨hx, hv⟩ t
    · have hne : ¬ x1 = nmT i := fun z => hij (inj nd hi (hm (j, e) List.mem_cons_self) (hx.symm.trans z))
      rw [if_neg hne, if_neg hij]
      exact .cons h (fput_is nd hv hi t fun y hy => hm y (List.mem_cons_of_mem _ hy))
theorem fput_keys {i : Nat} {d : D} : ∀ {fs : List (Nat × D)}, (fs.map (·.1)).Nodup → (∀ y ∈ fput i d fs, y.1 = i ∨ ∃ z ∈ fs, z.1 = y.1) ∧ ((fput i d fs).map (·.1)).Nodup
  | [], _ => ⟨fun y hy => by
      unfold fput at hy
      rw [List.mem_singleton.mp hy]
      exact .inl rfl, by unfold fput; simp⟩
  | (j, e) :: fs, nd => by
    unfold fput
    by_cases hij : j = i
    · rw [if_pos hij]
      refine ⟨fun y hy => ?_, by simpa using nd⟩
      rcases List.mem_cons.mp hy with z | z
      · rw [z]; exact .inl hij
      · exact .inr ⟨y, List.mem_cons_of_mem _ z, rfl⟩
    · rw [if_neg hij]
      rw [List.map_cons, List.nodup_cons] at nd
      obtain ⟨h1, h2⟩ := fput_keys (i := i) (d := d) nd.2
      refine ⟨fun y hy => ?_, ?_⟩
      · rcases List.mem_cons.mp hy with z | z
        · rw [z]; exact .inr ⟨(j, e), List.mem_cons_self, rfl⟩
        · rcases h1 y z with q | ⟨w, hw, q⟩
          · exact .inl q
          · exact .inr ⟨w, List.mem_cons_of_mem _ hw, q⟩
      · rw [List.map_cons, List.nodup_cons]
        refine ⟨fun hm => ?_, h2⟩
        obtain ⟨y, hy, q⟩ := List.mem_map.mp hm
        rcases h1 y hy with q2 | ⟨w, hw, q2⟩
        · exact hij (q.symm.trans q2)
        · exact nd.1 (List.mem_map.mpr ⟨w, hw, q2.trans q⟩)
theorem nodup_sub_len : ∀ {xs ys : List Nat}, xs.Nodup → (∀ x ∈ xs, x ∈ ys) → xs.length ≤ ys.length
  | [], _, _, _ => Nat.zero_le _
  | x :: xs, ys, nd, h => by
    rw [List.nodup_cons] at nd
    have hx := h x List.mem_cons_self
    have := nodup_sub_len (xs := xs) (ys := ys.erase x) nd.2 fun y hy => by
      have ne : y ≠ x := fun z => nd.1 (by rw [← z]; exact hy)
      exact (List.mem_erase_of_ne ne).mpr (h y (List.mem_cons_of_mem _ hy))
    rw [List.length_erase_of_mem hx] at this
    have hl : 0 < ys.length := List.length_pos_of_mem hx
    rw [List.length_cons]
    omega
theorem ds_satt {x : Str} {pos' : Pos} {value : Expr} (i : Nat) (hK : X.K = g.K) (hi : x = nmT i) (ho : PE X o (tE g W fa)) (hv : PE X value (tE g W fb)) (hs : swapsWith value (some (.Attribute o x pos')) pos.line X.env = pure false := by rfl) : PS X (.Assign [.Attribute o x pos'] value pos) (tS g W (sattS i fa fb)) := by
  subst hi
  refine PS.weak (ps_fld ho hv hs) fun D σ H h => ?_
  -- the value, the object, the store
  obtain ⟨F, ρ, τ, L, hR, hS, hc, hp⟩ := h
  have h1 : SatS g W [] (eThen fb fun d => eThen fa fun x => eThen (fun _ => sattD i d x) fun _ τ L => some (.nx τ, L)) D σ H := by
    refine ⟨F, ρ, τ, L, hR, hS, hc, ?_⟩
    refine Eq.mp (congrArg (fun o => PostS g F ρ L.length W D o) ?_) hp
    show eThen (fun τ => M.bnd (fb τ) fun d => M.bnd (fa τ) fun x => sattD i d x) _ τ L = _
    unfold eThen M.bnd
    dsimp only
    cases fb τ L with
    | none => rfl
    | some z =>
      obtain ⟨r, L1⟩ := z
      cases r with
      | ex _ _ => rfl
      | ok d =>
        dsimp only
        cases fa τ L1 with
        | none => rfl
        | some z =>
          obtain ⟨r, L2⟩ := z
          cases r with
          | ex _ _ => rfl
          | ok y => rfl
  refine (SatS.bindV h1).mono fun v H1 q1 => ?_
  obtain ⟨d, q1⟩ := q1
  refine (SatS.bindV q1).mono fun y H2 q2 => ?_
  obtain ⟨dx0, F, ρ, τ, L, hR, hS, hc, hp⟩ := q2
  have hv := hc (v, d) (by simp)
  have hy := hc (y, dx0) (by simp)
  unfold eThen sattD at hp
  cases dx0 with
  | v q => exact False.elim hp
  | r n =>
    dsimp only at hp
    match e : L[n]? with
    | some (.ins c fs) =>
      rw [e] at hp
      dsimp only at hp
      by_cases him : i ∈ flT c
      · rw [if_pos him] at hp
        obtain ⟨_, dx, vs, a1, a2, a3, a4, a5⟩ := hR.ent n _ e (by intro z; cases z)
        have hl : vs.length < 1000 := by
          have l1 := prd_len a2
          have l2 := nodup_sub_len a5 fun x hx => by
            obtain ⟨z, hz, e⟩ := List.mem_map.mp hx
            rw [← e]
            exact a4 z hz
          rw [List.length_map] at l2
          have := a3.few
          omega
        rw [hK]
        refine ⟨ρ n, _, dx, vs, hy.2, a1, a3.cls, a3.att i him, hl, ?_⟩
        obtain ⟨k1, k2⟩ := fput_keys (i := i) (d := d) a5
        have le : (L.set n (MO.ins c (fput i d fs))).length = L.length := by rw [List.length_set]
        refine hp F ρ _ σ (by rw [le]; exact Ext.refl) (hR.put e (by intro z; cases z) _ _ ⟨dx, _, upd_same, fput_is a3.nd hv him a2 a4, a3, fun z hz => ?_, k2⟩) (by rw [le]; exact hS)
        rcases k1 z hz with q | ⟨w, hw, q⟩
        · rw [q]; exact him
        · rw [← q]; exact a4 w hw
      · rw [if_neg him] at hp
        exact False.elim hp
    | none => rw [e] at hp; exact False.elim hp
    | some (.lst _) => rw [e] at hp; exact False.elim hp
    | some (.dk _) => rw [e] at hp; exact False.elim hp
    | some (.dn _) => rw [e] at hp; exact False.elim hp
    | some .dead => rw [e] at hp; exact False.elim hp
end
end DN

end
section
set_option Elab.async false
set_option linter.all false
set_option maxRecDepth 100000
set_option maxHeartbeats 4000000
/-! D13: list comprehensions; xs[i] = v; further methods. -/
namespace DN
open PySem PySem.Spec PyProof.Rows L2
theorem wipe_comm (σ : L2.St) (i : Nat) (y : Option V) : ∀ vs : List Nat, i ∈ vs → wipe (σ.set i y) vs = wipe σ vs
  | [], h => by cases h
  | v :: vs, h => by
    show (wipe (σ.set i y) vs).set v none = (wipe σ vs).set v none
    by_cases hi : i ∈ vs
    · rw [wipe_comm σ i y vs hi]
    · have hv : i = v := by
        rcases List.mem_cons.mp h with z | z
        · exact z
        · exact absurd z hi
      subst hv
      have key : ∀ (ws : List Nat) (σ : L2.St), i ∉ ws → wipe (σ.set i y) ws = (wipe σ ws).set i y := by
        intro ws
        induction ws with
        | nil => intro σ _; rfl
        | cons u ws ih =>
          intro σ hu
          show (wipe (σ.set i y) ws).set u none = ((wipe σ ws).set u none).set i y
          rw [ih σ (fun z => hu (List.mem_cons_of_mem _ z))]
          exact List.set_comm _ _ fun z => hu (by rw [z]; exact List.mem_cons_self)
      rw [key vs σ hi, List.set_set]
theorem wipe_idem (σ : L2.St) (vs : List Nat) : wipe (wipe σ vs) vs = wipe σ vs := by
  have key : ∀ (us : List Nat) (σ : L2.St), (∀ u ∈ us, u ∈ vs) → wipe (wipe σ us) vs = wipe σ vs := by
    intro us
    induction us with
    | nil => intro σ _; rfl
    | cons u us ih =>
      intro σ h
      show wipe ((wipe σ us).set u none) vs = wipe σ vs
      rw [wipe_comm _ _ _ _ (h u List.mem_cons_self)]
      exact ih σ fun z hz => h z (List.mem_cons_of_mem _ hz)
  exact key vs σ fun _ h => h
section
variable {X : Cx} {g : G} {W : WX} {a b c e o tg elt iter : Expr} {fa fb fc f fe : Tau → M D} {ta tb tt : Tau → M Bool} {pos p apos : Pos} {es ifs : List Expr} {fs : Tau → M (List D)} {k n : Nat} {fn : List D → M D} {s1 : SX}
abbrev W0 : WX := fun _ _ _ _ => False
/-- a target that stores the block's names alone -/
def TgW (g : G) (vs : List Nat) (t : TG) (tg : TgD) : Prop := ∀ (F : Hp) (ρ : Nat → Addr) (L : List MO) (H : Hp) (v : V) (p : P) (σ : L2.St) (τ τ' : Tau) (Q : L2.St → Hp → Prop), R g F ρ L H → Sl g F ρ L.length σ τ → Is g F v p → tg p τ = some τ' →
  (∀ σ', Sl g F ρ L.length σ' τ' → wipe σ' vs = wipe σ vs → Q σ' H) → t v σ H Q
theorem tw_name {vs : List Nat} (i : Nat) (h : i ∈ vs) : TgW g vs (gName i) (tgN i) := by
  intro F ρ L H v p σ τ τ' Q hR hS hv e hQ
  cases e
  exact hQ _ (hS.set (v := v) (d := .v p) hv i) (wipe_comm σ i _ vs h)
def TgsW (g : G) (vs0 : List Nat) (t : TGs) (ts : List TgD) : Prop := ∀ (F : Hp) (ρ : Nat → Addr) (L : List MO) (H : Hp) (vs : List V) (ps : List P) (σ : L2.St) (τ τ' : Tau) (Q : L2.St → Hp → Prop), R g F ρ L H → Sl g F ρ L.length σ τ → IsA g F vs ps → tgs ts ps τ = some τ' →
  (∀ σ', Sl g F ρ L.length σ' τ' → wipe σ' vs0 = wipe σ vs0 → Q σ' H) → t vs σ H Q
theorem tws_nil {vs0 : List Nat} : TgsW g vs0 gNil [] := by
  intro F ρ L H vs ps σ τ τ' Q hR hS hv e hQ
  cases hv with
  | nil => cases e; exact ⟨rfl, hQ _ hS rfl⟩
  | cons _ _ => cases e
theorem tws_cons {vs0 : List Nat} {t : TG} {u : TGs} {x : TgD} {xs : List TgD} (h1 : TgW g vs0 t x) (h2 : TgsW g vs0 u xs) : TgsW g vs0 (gCons t u) (x :: xs) := by
  intro F ρ L H vs ps σ τ τ' Q hR hS hv e hQ
  cases hv with
  | nil => cases e
  | cons hv ht =>
    unfold tgs at e
    rename_i v p vs ps
    match e1 : x p τ with
    | none => rw [e1] at e; cases e
    | some τ1 =>
      rw [e1] at e
      exact ⟨v, vs, rfl, h1 F ρ L H v p σ τ τ1 _ hR hS hv e1 fun σ1 hS1 w1 => h2 F ρ L H vs ps σ1 τ1 τ' Q hR hS1 ht e fun σ2 hS2 w2 => hQ σ2 hS2 (w2.trans w1)⟩
theorem tw_tup {vs0 : List Nat} {K : PySem.W.Frag} {n : Nat} {t : TGs} {ts : List TgD} (hK : K = g.K) (h : TgsW g vs0 t ts) (hn : ts.length = n) : TgW g vs0 (gTup K n t) (tgT ts) := by
  subst hK
  intro F ρ L H v p σ τ τ' Q hR hS hv e hQ
  unfold tgT at e
  cases p with
  | tup ps =>
    dsimp only at e
    by_cases hz : ps.length = ts.length
    · rw [if_pos hz] at e
      obtain ⟨a, vs, e1, h1, h2⟩ := Is.inv_tup hv
      exact ⟨a, vs, e1, hR.sub.sqT h1, by rw [h2.len, hz, hn], h F ρ L H vs ps σ τ τ' Q hR hS h2 e hQ⟩
    · rw [if_neg hz] at e
      cases e
  | _ => cases e
/-- one item of a comprehension: its test, its element -/
def lcT (tg : TgD) (tt : Tau → M Bool) (fe : Tau → M D) (p : P) (τ : Tau) : M (Option P) := fun L => match tg p τ with
  | none => none
  | some τ1 => match tt τ1 L with
    | some (.ok false, L1) => some (.ok none, L1)
    | some (.ok true, L1) => match fe τ1 L1 with
      | some (.ok (.v q), L2) => some (.ok (some q), L2)
      | _ => none
    | _ => none
open Classical in
noncomputable def lcG (ok : List MO → Prop) (turn : P → Tau → M (Option P)) (n : Nat) (τ : Tau) : List P → List MO → Option (List MO)
  | [], L => if ok L then some L else none
  | p :: ps, L => if ok L then (match turn p τ L with
    | some (.ok none, L1) => lcG ok turn n τ ps L1
    | some (.ok (some q), L1) => (match L1[n]? with
      | some (.lst acc) => if acc.length < sizeLine then lcG ok turn n τ ps (L1.set n (.lst (acc ++ [q]))) else none
      | _ => none)
    | _ => none) else none

open Classical in
noncomputable def lcFin (mu : Bool) (L : List MO) : Option (List MO) → Option (Res D × List MO)
  | some L1 => if mu = true then some (.ok (.r L.length), L1) else (match L1[L.length]? with
      | some (.lst xs) => if Older L L1 then some (.ok (.v (.lst xs)), L1.take L.length) else none
      | _ => none)
  | none => none
noncomputable def lcE (mu : Bool) (turn : P → Tau → M (Option P)) (τ : Tau) (it : Itm) : M D := fun L => lcFin mu L (lcG it.2 turn L.length τ it.1 (L ++ [.lst []]))
noncomputable def lcS (mu : Bool) (src : Tau → M Itm) (vs : List Nat) (tg : TgD) (tt : Tau → M Bool) (fe : Tau → M D) (τ : Tau) : M D := do
  let it ← src τ
  lcE mu (lcT tg tt fe) (killT vs τ) it
theorem Sl.wipe {F : Hp} {ρ : Nat → Addr} {n : Nat} {σ : L2.St} {τ : Tau} (h : Sl g F ρ n σ τ) : ∀ vs : List Nat, Sl g F ρ n (wipe σ vs) (killT vs τ) := by
  have set1 : ∀ {σ : L2.St} {τ : Tau}, Sl g F ρ n σ τ → ∀ v, Sl g F ρ n (σ.set v none) (τ.set v none) := fun {σ τ} h v => by
    refine ⟨by rw [List.length_set, List.length_set]; exact h.1, fun j d q => ?_⟩
    by_cases hj : v = j
    · subst hj
      by_cases hl : v < τ.length
      · rw [List.getElem?_set_self hl] at q; cases q
      · rw [List.getElem?_eq_none (by rw [List.length_set]; omega)] at q; cases q
    · rw [List.getElem?_set_ne hj] at q ⊢
      exact h.2 j d q
  intro vs
  -- forgetting in any order
  have key : ∀ (vs : List Nat) {τ : Tau}, ∀ (i : Nat) (d : D), (killT vs τ)[i]? = some (some d) → τ[i]? = some (some d) ∧ i ∉ vs := by
    intro vs
    induction vs with
    | nil => intro τ i d q; exact ⟨q, by simp⟩
    | cons v vs ih =>
      intro τ i d q
      obtain ⟨q1, q2⟩ := ih (τ := τ.set v none) i d q
      by_cases hv : v = i
      · subst hv
        by_cases hl : v < τ.length
        · rw [List.getElem?_set_self hl] at q1; cases q1
        · rw [List.getElem?_eq_none (by rw [List.length_set]; omega)] at q1; cases q1
      · rw [List.getElem?_set_ne hv] at q1
        exact ⟨q1, fun z => by
          rcases List.mem_cons.mp z with z | z
          · exact hv z.symm
          · exact q2 z⟩
  have klen : ∀ (vs : List Nat) (τ : Tau), (killT vs τ).length = τ.length := by
    intro vs
    induction vs with
    | nil => intro τ; rfl
    | cons v vs ih =>
      intro τ
      show (killT vs (τ.set v none)).length = τ.length
      rw [ih, List.length_set]
  refine ⟨by rw [klen, wipe_length]; exact h.1, fun i d q => ?_⟩
  obtain ⟨q1, q2⟩ := key vs i d q
  obtain ⟨v, h1, h2⟩ := h.2 i d q1
  exact ⟨v, by rw [wipe_out q2]; exact h1, h2⟩
theorem lc_sat {mu : Bool} {src : Tau → M Itm} {vs : List Nat} {t : TG} {tg : TgD} (ht : TgW g vs t tg) {σ : L2.St} {H : Hp} {Q : VK} (h : tE g W (lcS mu src vs tg tt fe) σ H Q) : tLc (tI g W src) t (tT g W0 tt) (tE g W0 fe) vs σ H Q := by
  refine (Sat.bind (ra := relI g) h).mono fun J H1 h1 => ?_
  obtain ⟨F0, ρ0, τ, L0, it, hR0, hS0, _, hsrc, hp0⟩ := h1
  obtain ⟨xs, ok⟩ := it
  intro D hD
  -- the new list in the ledger
  have R1 := hR0.new hD (.lst []) (.lst []) ⟨[], upd_same, .nil⟩
  have len1 : (L0 ++ [MO.lst []]).length = L0.length + 1 := by rw [List.length_append, List.length_singleton]
  have E1 : Ext F0 ρ0 L0.length F0 (rput ρ0 L0.length D) (L0 ++ [MO.lst []]).length := by rw [len1]; exact Ext.new
  have hp1 : Post g (relV g) F0 ρ0 L0.length (fun c d H' => W c d σ H') Q (lcFin mu L0 (lcG ok (lcT tg tt fe) L0.length (killT vs τ) xs (L0 ++ [.lst []]))) := hp0
  refine ⟨fun i m H => m = xs.length - i ∧ i ≤ xs.length ∧ ∃ F ρ L, Ext F0 (rput ρ0 L0.length D) (L0.length + 1) F ρ L.length ∧ R g F ρ L H ∧ Post g (relV g) F0 ρ0 L0.length (fun c d H' => W c d σ H') Q (lcFin mu L0 (lcG ok (lcT tg tt fe) L0.length (killT vs τ) (xs.drop i) L)), ⟨xs.length, by simp, Nat.zero_le _, F0, _, _, by rw [len1]; exact Ext.refl, R1, hp1⟩, ?_⟩
  rintro i m H2 ⟨rfl, hi, F, ρ, L, hE, hR, hp⟩
  have hE0 : Ext F0 ρ0 L0.length F ρ L.length := by
    have := Ext.trans E1 (by rw [len1]; exact hE)
    exact this
  have hSl : Sl g F ρ L.length σ τ := hS0.ext hE0
  by_cases hlt : i < xs.length
  · refine .inr ?_
    have e0 : xs[i]? = some xs[i] := List.getElem?_eq_getElem hlt
    rw [List.drop_eq_getElem_cons hlt] at hp
    unfold lcG at hp
    by_cases hk : ok L
    · rw [if_pos hk] at hp
      obtain ⟨go, yl⟩ := (hsrc F ρ L H2 hE0 hR hk).1 i _ e0
      refine ⟨go, fun H' => i + 1 ≤ xs.length ∧ ∃ F ρ L, Ext F0 (rput ρ0 L0.length D) (L0.length + 1) F ρ L.length ∧ R g F ρ L H' ∧ Post g (relV g) F0 ρ0 L0.length (fun c d H' => W c d σ H') Q (lcFin mu L0 (lcG ok (lcT tg tt fe) L0.length (killT vs τ) (xs.drop (i + 1)) L)), fun H' q => ⟨xs.length - (i + 1), by omega, rfl, q⟩, fun x H' hy => ?_⟩
      obtain ⟨F', sb, hR', hx⟩ := yl x H' hy
      have e1 : Ext F ρ L.length F' ρ L.length := ⟨sb, fun _ _ => rfl, Nat.le_refl _⟩
      have hS2 : Sl g F' ρ L.length (wipe σ vs) (killT vs τ) := (hSl.ext e1).wipe vs
      unfold lcT at hp
      match et : tg xs[i] (killT vs τ) with
      | none => rw [et] at hp; exact False.elim hp
      | some τ1 =>
        rw [et] at hp
        dsimp only at hp
        refine ht F' ρ L H' x _ (wipe σ vs) (killT vs τ) τ1 _ hR' hS2 hx et fun σ3 hS3 hw => ⟨by rw [hw, wipe_idem], F', ρ, τ1, L, hR', hS3, (fun y hy => by cases hy), ?_⟩
        match eb : tt τ1 L with
        | none => rw [eb] at hp; exact False.elim hp
        | some (.ex _ _, _) => rw [eb] at hp; exact False.elim hp
        | some (.ok false, L1) =>
          rw [eb] at hp
          dsimp only at hp
          intro F3 ρ3 b3 H3 x1 x2 x3
          subst x3
          rw [if_neg Bool.false_ne_true]
          exact ⟨hlt, F3, ρ3, L1, hE.trans (e1.trans x1), x2, hp⟩
        | some (.ok true, L1) =>
          rw [eb] at hp
          dsimp only at hp
          intro F3 ρ3 b3 H3 x1 x2 x3
          subst x3
          rw [if_pos rfl]
          refine ⟨F3, ρ3, τ1, L1, x2, hS3.ext x1, (fun y hy => by cases hy), ?_⟩
          match ee : fe τ1 L1 with
          | none => rw [ee] at hp; exact False.elim hp
          | some (.ex _ _, _) => rw [ee] at hp; exact False.elim hp
          | some (.ok (.r _), _) => rw [ee] at hp; exact False.elim hp
          | some (.ok (.v q), L2) =>
            rw [ee] at hp
            dsimp only at hp
            intro F4 ρ4 v4 H4 y1 y2 y3
            match el : L2[L0.length]? with
            | some (.lst acc) =>
              rw [el] at hp
              dsimp only at hp
              by_cases hz : acc.length < sizeLine
              · rw [if_pos hz] at hp
                obtain ⟨us, h1, h2⟩ := y2.lstAt el
                have hEE := hE.trans (e1.trans (x1.trans y1))
                have hrho : ρ4 L0.length = D := by rw [hEE.rho _ (Nat.lt_succ_self _), rput_new]
                refine ⟨us, by rw [← hrho]; exact h1, by rw [h2.len]; exact hz, hlt, F4, ρ4, L2.set L0.length (.lst (acc ++ [q])), by rw [List.length_set]; exact hEE, ?_, hp⟩
                rw [← hrho]
                exact y2.put el (by intro z; cases z) _ _ ⟨_, upd_same, h2.append (.cons y3 .nil)⟩
              · rw [if_neg hz] at hp; exact False.elim hp
            | none => rw [el] at hp; exact False.elim hp
            | some (.dk _) => rw [el] at hp; exact False.elim hp
            | some (.dn _) => rw [el] at hp; exact False.elim hp
            | some (.ins _ _) => rw [el] at hp; exact False.elim hp
            | some .dead => rw [el] at hp; exact False.elim hp
    · rw [if_neg hk] at hp
      exact False.elim hp
  · have e : i = xs.length := by omega
    subst e
    rw [List.drop_length] at hp
    unfold lcG at hp
    by_cases hk : ok L
    · rw [if_pos hk] at hp
      refine .inl ⟨(hsrc F ρ L H2 hE0 hR hk).2, ?_⟩
      unfold lcFin at hp
      dsimp only at hp
      have ln : L0.length < L.length := by have := hE.len; omega
      have hrho : ρ L0.length = D := by rw [hE.rho _ (Nat.lt_succ_self _), rput_new]
      cases mu with
      | true =>
        rw [if_pos rfl] at hp
        exact hp F ρ _ H2 hE0 hR ⟨ln, by rw [hrho]⟩
      | false =>
        rw [if_neg Bool.false_ne_true] at hp
        match el : L[L0.length]? with
        | some (.lst ys) =>
          rw [el] at hp
          dsimp only at hp
          by_cases ho : Older L0 L
          · rw [if_pos ho] at hp
            obtain ⟨us, h1, h2⟩ := hR.lstAt el
            have hf := hR.freeze el (by intro z; cases z) h1
            have sb : Sub F (upd F (ρ L0.length) (.lst us)) := fun b q eb => by
              have nb : b ≠ ρ L0.length := fun z => by rw [z, (hR.ent _ _ el (by intro z; cases z)).1] at eb; cases eb
              rw [upd_ne nb]
              exact eb
            have e4 : (L.set L0.length MO.dead).take L0.length = L.take L0.length := by
              rw [List.take_set, List.set_eq_of_length_le (by rw [List.length_take]; omega)]
            have q2 : (L.take L0.length).length = L0.length := by rw [List.length_take]; omega
            have q3 : R g (upd F (ρ L0.length) (.lst us)) ρ0 (L.take L0.length) H2 := by
              rw [← e4]
              refine hf.trunc (by rw [List.length_set]; omega) hE0.rho fun i m hi e => ?_
              rw [List.getElem?_set_ne (by omega)] at e
              rcases ho.2 i m hi e with q | q
              · exact hR0.okR q
              · exact q
            refine hp _ ρ0 _ H2 ⟨hE0.sub.trans sb, fun _ _ => rfl, by rw [q2]; exact Nat.le_refl _⟩ q3 ?_
            refine Is.lst ?_ (IsA.mono sb h2)
            rw [← hrho]
            exact upd_same
          · rw [if_neg ho] at hp; exact False.elim hp
        | none => rw [el] at hp; exact False.elim hp
        | some (.dk _) => rw [el] at hp; exact False.elim hp
        | some (.dn _) => rw [el] at hp; exact False.elim hp
        | some (.ins _ _) => rw [el] at hp; exact False.elim hp
        | some .dead => rw [el] at hp; exact False.elim hp
    · rw [if_neg hk] at hp
      exact False.elim hp
def yesB (_ : Tau) : M Bool := pure true
theorem PTs.weak {t t' : TT} (h : PTs X ifs t) (w : ∀ σ H Q, t' σ H Q → t σ H Q) : PTs X ifs t' := ⟨fun pins s σ H Q I q => h.run pins s σ H Q I (w σ H Q q)⟩
theorem dts_nil : PTs X [] (tT g W yesB) := PTs.weak pts_nil fun σ H Q h => by
  obtain ⟨F, ρ, τ, L, hR, hS, hc, hp⟩ := h
  exact hp F ρ true H Ext.refl hR rfl
theorem dts_one (h : PT X c (tT g W ta)) : PTs X [c] (tT g W ta) := pts_one h
theorem de_lc {scope : Scope} {own : List (Str × Nat)} {mu : Bool} {src : Tau → M Itm} {t : TG} {td : TgD} (hc : X.calm = true) (hN : X.N.Nodup) (hi : PI X tg iter (tI g W src)) (ok : BlkOk X.N X.env.scope scope own)
    (hg : ∀ (s : Shared) (H : Hp) (C : Addr) (cl : List (Str × Addr)) (fp : List Addr), PG (X.blk s H scope (compEnvC scope cl C X.env) fp) tg t) (ht : TgW g (own.map (·.2)) t td)
    (hts : ∀ (s : Shared) (H : Hp) (C : Addr) (cl : List (Str × Addr)) (fp : List Addr), PTs (X.blk s H scope (compEnvC scope cl C X.env) fp) ifs (tT g W0 tt))
    (he : ∀ (s : Shared) (H : Hp) (C : Addr) (cl : List (Str × Addr)) (fp : List Addr), PE (X.blk s H scope (compEnvC scope cl C X.env) fp) elt (tE g W0 fe)) (hs : ∀ x, foldedSetIterable iter X.env x = pure x := by intro _; rfl) :
    PE X (.ListComp elt [⟨tg, iter, ifs, 0⟩] scope pos) (tE g W (lcS mu src (own.map (·.2)) td tt fe)) := PE.weak (pe_lc hc hN hi ok hg hts he hs) fun σ H Q h => lc_sat ht h
theorem ds_setLc {i : Nat} {y : Str} {py spos : Pos} {scope : Scope} {own : List (Str × Nat)} {mu : Bool} {src : Tau → M Itm} {t : TG} {td : TgD} (hc : X.calm = true) (hN : X.N.Nodup) (hy : X.N[i]? = some y) (hyl : X.env.scope.names.lookup y = some .local)
    (hsw : swapsWith (.ListComp elt [⟨tg, iter, ifs, 0⟩] scope pos) (some (.Name y py)) spos.line X.env = pure true) (hi : PI X tg iter (tI g W src)) (ok : BlkOk X.N X.env.scope scope own)
    (hg : ∀ (s : Shared) (H : Hp) (C : Addr) (cl : List (Str × Addr)) (fp : List Addr), PG (X.blk s H scope (compEnvC scope cl C X.env) fp) tg t) (ht : TgW g (own.map (·.2)) t td)
    (hts : ∀ (s : Shared) (H : Hp) (C : Addr) (cl : List (Str × Addr)) (fp : List Addr), PTs (X.blk s H scope (compEnvC scope cl C X.env) fp) ifs (tT g W0 tt))
    (he : ∀ (s : Shared) (H : Hp) (C : Addr) (cl : List (Str × Addr)) (fp : List Addr), PE (X.blk s H scope (compEnvC scope cl C X.env) fp) elt (tE g W0 fe)) (hs : ∀ x, foldedSetIterable iter X.env x = pure x := by intro _; rfl) :
    PS X (.Assign [.Name y py] (.ListComp elt [⟨tg, iter, ifs, 0⟩] scope pos) spos) (tS g W (setS i (lcS mu src (own.map (·.2)) td tt fe))) := by
  refine PS.weak (ps_setLc hc hN hy hyl hsw hi ok hg hts he hs) fun D σ H h => ?_
  have q := setS_sat h
  exact lc_sat ht q
end
end DN

end
section
set_option Elab.async false
set_option linter.all false
set_option maxRecDepth 100000
set_option maxHeartbeats 4000000
/-! E1: an own exception class over another own one over ValueError; its __init__ says super().__init__('..'), then stores its parameters. -/
namespace DN
open PySem PySem.Spec PyProof.Rows PySem.W PySem.Calls L2 NdefX

/-- the built-in's __init__, bound, called: nothing of the object is told but its args -/
theorem call_mwV {prog : Program} {w : World} {A : Around} {E : Value → Shared → Prop} {h : Heap} {g : Array GenState} {d : Drawn} {t : Nat} {os : OsState}
    {nm q : Str} {C N : Addr} {bs bm : List Value} {hdct : Bool} {sn : List Str} {sub : List Value} {ab : Bool} {col : Option Bool} {dd : Option Addr} {k0 k1 k2 k3 k5 : Option Value} {u e t0 : Addr} {rest : List Value} {Q : Value → Shared → Prop}
    (hC : h.get? C = some (excClassObj nm q C N bs bm hdct sn sub ab col dd k0 k1 k2 k3 k5 "ValueError.__new__")) (he : h.get? e = some (excObj C t0 none .none)) (hu : h.get? u = some (kxs_mw "ValueError.__init__" e)) (hrest : rest.length ≤ sizeLine)
    (hq : ∀ h' t1, (∀ b o, b ≠ e → h.get? b = some o → h'.get? b = some o) → h'.get? e = some (excObj C t1 none .none) → Q .none ⟨h', g, d, t, os⟩) :
    wpAny (model prog w) A (call (.ref u) rest) Q E ⟨h, g, d, t, os⟩ := by
  refine wpAny_call (codeAny_of_tree ?_)
  show wpAny _ A.in1 (callAny (.ref u) ⟨rest, []⟩) _ _ _
  simp only [callAny]
  refine wpAny_bind (wpAny_load hu ?_)
  simp only [kxs_mw, show (Value.type "method-wrapper" == Value.type "method" || Value.type "method-wrapper" == Value.type "builtin_function_or_method" || Value.type "method-wrapper" == Value.type "method-wrapper") = true by decide, if_true]
  refine KFB.if_so (by decide) ?_
  refine wpAny_bind (check_bound_init F.excBase_ValueError.toExcCallFacts hC he rfl ?_)
  refine wpAny_bind (wpAny_pure (wpAny_pure ?_))
  refine ⟨plainId_quiet F.excBase_ValueError.init.plain _, codeAny_builtin F.excBase_ValueError.initEntry ?_⟩
  exact exc_init_tree (cls := .ref C) (t0 := t0) (dv := none) (c2 := .none) (c3 := .none) (b4 := .bool false) he hrest fun h' k e' _ => hq h' _ k e'

theorem sup_eq {env : Env} {p1 p2 p3 p4 p5 : Pos} {msg : Str} {j : Nat} (hln : (p3.endLine == p5.line) = true) : eval (.Call (.Attribute (.Call (.Name "super" p1) [] [] p2) "__init__" p3) [.Constant (.str msg) j p4] [] p5) env = (do
      let ov ← attributeBase (.Call (.Name "super" p1) [] [] p2) "__init__" env (eval (.Call (.Name "super" p1) [] [] p2) env)
      standAt p3.atName
      let (f, first) ← holding [ov] (getMethod ov "__init__" (do return (← importBound (.Call (.Name "super" p1) [] [] p2) env).getD true))
      callWith p5 f first (backTo p5 (starEach [.Constant (.str msg) j p4] env)) []) := by
  have e2 : methodCallPos true (.Call (.Name "super" p1) [] [] p2) env p3 p5 = pure p5 := by unfold methodCallPos; simp [hln]
  show (do
    let ov ← attributeBase (.Call (.Name "super" p1) [] [] p2) "__init__" env (eval (.Call (.Name "super" p1) [] [] p2) env)
    standAt p3.atName
    let (f, first) ← holding [ov] (getMethod ov "__init__" (do return (← importBound (.Call (.Name "super" p1) [] [] p2) env).getD true))
    let callPos ← methodCallPos true (.Call (.Name "super" p1) [] [] p2) env p3 p5
    callWith callPos f first (backTo p5 (starEach [.Constant (.str msg) j p4] env)) []) = _
  rw [e2]
  rfl

/-- the words self.n = n, .. -/
abbrev P4 := Pos × Pos × Pos × Pos
def stoOf (l : List (Nat × P4)) : List Stmt := l.map fun x => .Assign [.Attribute (.Name "self" x.2.1) (nmT x.1) x.2.2.1] (.Name (nmT x.1) x.2.2.2.1) x.2.2.2.2
/-- an exception's promise: what was passed is laid into its dict, the last one first -/
def spX (C : Addr) (fs : List Nat) : Sp := fun vs H Q _ => ∃ (a : Addr) (ws : List V), vs = .ref a :: ws ∧ ws.length = fs.length ∧ H a = some (exo a C none) ∧
  ∀ d, H d = none → d ≠ a → Q .non (upd (upd H d (exd d ((fs.map nmT).zip ws).reverse)) a (exo a C (some d)))

/-- what the written part says of such a class -/
structure ExFacts (K : PySem.W.Frag) (C fI cc cda : Addr) (prog : Program) (qual : Str) (params : Arguments) (scope : Scope) (fs : List Nat) : Prop where
  T : OexC K C
  iC : findIn K (.ref C) "__init__" = some (some (.ref fI))
  tI : typeIn K (.ref fI) = some (.type "function")
  no : ∀ i ∈ fs, findIn K (.ref C) (nmT i) = some none
  sc : NScope (("self" : Str) :: (fs.map nmT ++ [("__class__" : Str)])) (("self" : Str) :: fs.map nmT) [("__class__" : Str)] scope
  sup : scope.names.lookup ("super" : Str) = some .globalImplicit
  fewer : fs.length < 500
  hcell : ∃ cl cld csl, K.lookup cc = some ⟨cl, cld, .cell (some (.ref C)), csl⟩
  hcode : ∃ (ccl : Value) (cdd : Option Addr) (vs : Array Value) (ccs : Array (Option Value)) (file : Str) (tf : Tok), K.lookup cda = some ⟨ccl, cdd, .fields vs, ccs⟩ ∧ vs[2]? = some (.str file tf) ∧ ((prog.main.file : Str) == file) = true
  htop : (prog.main.scope.names.lookup ("super" : Str)).isSome = false
  hps : (params.posonlyargs ++ params.args).head?.map (·.arg) = some "self"
  hsub : mroIn K C (.ref C) = some true
  hany : nsIn K cStatics "thirdparty.any" = some none
  hal : ks_superIn K C C "__init__" = some (some (.builtin "ValueError.__init__"))
  hVE : subIn K (.ref C) (.type "ValueError") = some true

theorem nmT_plain (i : Nat) : (nmT i == ("__debug__" : Str)) = false ∧ (nmT i == ("__classdict__" : Str)) = false := by
  unfold nmT
  split <;> exact ⟨by decide, by decide⟩
/-- the stores, from the slot off on: no dict as yet | a dict -/
def tSt (K : PySem.W.Frag) (C : Addr) (off : Nat) (fs : List Nat) : TS := fun D σ H => ∃ a d acc ws, σ[0]? = some (some (.ref a)) ∧ (∀ m w, ws[m]? = some w → σ[off + m]? = some (some w)) ∧ ws.length = fs.length ∧ H a = some (exo a C (some d)) ∧
  H d = some (exd d acc) ∧ d ≠ a ∧ acc.length + fs.length ≤ 900 ∧ D.nx σ (upd H d (exd d (((fs.map nmT).zip ws).reverse ++ acc)))
theorem upd_self {H : Hp} {a : Addr} {o : HO} (e : H a = some o) : upd H a o = H := by
  funext b
  by_cases hb : b = a
  · rw [hb, upd_same, e]
  · rw [upd_ne hb]
theorem upd_upd {H : Hp} {a : Addr} {o u : HO} : upd (upd H a o) a u = upd H a u := by
  funext b
  by_cases hb : b = a
  · rw [hb, upd_same, upd_same]
  · rw [upd_ne hb, upd_ne hb, upd_ne hb]
theorem upd_swap {H : Hp} {a b : Addr} {o u : HO} (h : a ≠ b) : upd (upd H a o) b u = upd (upd H b u) a o := by
  funext c
  by_cases ha : c = a
  · rw [ha, upd_ne h, upd_same, upd_same]
  · by_cases hb : c = b
    · rw [hb, upd_same, upd_ne (Ne.symm h), upd_same]
    · rw [upd_ne hb, upd_ne ha, upd_ne ha, upd_ne hb]
section
variable {X : Cx} {C : Addr}
theorem pss_sto (T : OexC X.K C) (h0 : X.N[0]? = some ("self" : Str)) (v0 : Vis X.env.scope "self") : ∀ (l : List (Nat × P4)) (off : Nat), (∀ m x, l[m]? = some x → X.N[off + m]? = some (nmT x.1) ∧ Vis X.env.scope (nmT x.1) ∧ findIn X.K (.ref C) (nmT x.1) = some none) →
    PSs X (stoOf l) (tSt X.K C off (l.map (·.1)))
  | [], off, _ => PSs.weak pss_nil fun D σ H ⟨a, d, acc, ws, e1, e2, e3, e4, e5, e6, e7, q⟩ => by
    have hw : ws = [] := List.eq_nil_of_length_eq_zero e3
    subst hw
    have q' : D.nx σ (upd H d (exd d acc)) := q
    rw [upd_self e5] at q'
    exact q'
  | (i, p1, p2, p3, p4) :: l, off, hl => by
    obtain ⟨n1, n2, n3⟩ := hl 0 _ rfl
    have ih := pss_sto T h0 v0 l (off + 1) fun m x e => by
      have := hl (m + 1) x e
      rw [Nat.add_assoc, Nat.add_comm 1 m]
      exact this
    refine PSs.weak (pss_cons (ps_ost (f := nmT i) (pe_var h0 v0) (pe_var n1 n2 (nmT_plain i).1 (nmT_plain i).2)) ih) fun D σ H ⟨a, d, acc, ws, e1, e2, e3, e4, e5, e6, e7, q⟩ => ?_
    cases ws with
    | nil => cases e3
    | cons w ws =>
      refine ⟨w, e2 0 w rfl, .ref a, e1, a, C, rfl, T, n3, .inr ⟨d, acc, e4, e5, by rw [List.length_map, List.length_cons] at e7; omega, ?_⟩⟩
      refine ⟨a, d, (nmT i, w) :: acc, ws, e1, fun m w' e => ?_, by simpa using e3, by rw [upd_ne (Ne.symm e6)]; exact e4, upd_same, e6, by rw [List.length_map, List.length_cons] at e7; rw [List.length_cons, List.length_map]; omega, ?_⟩
      · have := e2 (m + 1) w' e
        rw [Nat.add_assoc, Nat.add_comm 1 m]
        exact this
      · rw [upd_upd]
        have e8 : ((List.map nmT (List.map (·.1) ((i, p1, p2, p3, p4) :: l))).zip (w :: ws)).reverse ++ acc = ((List.map nmT (List.map (·.1) l)).zip ws).reverse ++ (nmT i, w) :: acc := by simp
        rw [e8] at q
        exact q
/-- .. the first one makes the dict -/
theorem pss_sto0 (T : OexC X.K C) (h0 : X.N[0]? = some ("self" : Str)) (v0 : Vis X.env.scope "self") {l : List (Nat × P4)} (hne : l ≠ []) (hl : ∀ m x, l[m]? = some x → X.N[1 + m]? = some (nmT x.1) ∧ Vis X.env.scope (nmT x.1) ∧ findIn X.K (.ref C) (nmT x.1) = some none) (hn : l.length < 500) :
    PSs X (stoOf l) (fun D σ H => ∃ a ws, σ[0]? = some (some (.ref a)) ∧ (∀ m w, ws[m]? = some w → σ[1 + m]? = some (some w)) ∧ ws.length = l.length ∧ H a = some (exo a C none) ∧
      ∀ d, H d = none → d ≠ a → D.nx σ (upd (upd H d (exd d (((l.map (·.1)).map nmT).zip ws).reverse)) a (exo a C (some d)))) := by
  cases l with
  | nil => exact absurd rfl hne
  | cons x l =>
    obtain ⟨i, p1, p2, p3, p4⟩ := x
    obtain ⟨n1, n2, n3⟩ := hl 0 _ rfl
    have ih := pss_sto T h0 v0 l 2 fun m x e => by
      have := hl (m + 1) x e
      rw [show 1 + (m + 1) = 2 + m by omega] at this
      exact this
    refine PSs.weak (pss_cons (ps_ost (f := nmT i) (pe_var h0 v0) (pe_var n1 n2 (nmT_plain i).1 (nmT_plain i).2)) ih) fun D σ H ⟨a, ws, e1, e2, e3, e4, q⟩ => ?_
    cases ws with
    | nil => cases e3
    | cons w ws =>
      refine ⟨w, e2 0 w rfl, .ref a, e1, a, C, rfl, T, n3, .inl ⟨e4, fun d hd hda => ?_⟩⟩
      refine ⟨a, d, [(nmT i, w)], ws, e1, fun m w' e => ?_, by simpa using e3, upd_same, by rw [upd_ne hda]; exact upd_same, hda, by rw [List.length_map]; rw [List.length_cons] at hn; show 1 + l.length ≤ 900; omega, ?_⟩
      · have := e2 (m + 1) w' e
        rw [show 1 + (m + 1) = 2 + m by omega] at this
        exact this
      · have e8 : ((List.map nmT (List.map (·.1) ((i, p1, p2, p3, p4) :: l))).zip (w :: ws)).reverse = ((List.map nmT (List.map (·.1) l)).zip ws).reverse ++ [(nmT i, w)] := by simp
        have q' := q d hd hda
        rw [e8] at q'
        rw [upd_swap (Ne.symm hda), upd_upd]
        exact q'
end
section
variable {P : Program} {w : World} {K : PySem.W.Frag} {mg : Str → Option Value} {base : Heap} {CX : CXT} {k : Nat} {C fI cc cda : Addr} {nm qual : Str} {params : Arguments} {body : List Stmt} {scope : Scope} {dV kV doc pm ct oc : Value} {an od : Option Addr} {osl : Array (Option Value)} {fs : List Nat}
  {msg : Str} {j : Nat} {p1 p2 p3 p4 p5 p6 : Pos} {sto : List (Nat × P4)}
theorem fn_exc (EF : ExFacts K C fI cc cda P qual params scope fs) (lk : K.lookup fI = some ⟨oc, od, .func (ksFn nm qual params body scope dV kV doc pm an (.ref cda) ct cc), osl⟩) (hcd : codeIn K (.ref cda) qual = true)
    (hb : body = .Expr (.Call (.Attribute (.Call (.Name "super" p1) [] [] p2) "__init__" p3) [.Constant (.str msg) j p4] [] p5) p6 :: stoOf sto) (hln : (p3.endLine == p5.line) = true) (hs : sto.map (·.1) = fs) (hne : fs ≠ []) (hnd : fs.Nodup) (hms : mg "super" = none) (hbt : bootBuiltins "super" = some (.type "super")) :
    FnOk P w K mg base CX (k + 1) fI (ksFn nm qual params body scope dV kV doc pm an (.ref cda) ct cc) (("self" : Str) :: fs.map nmT) (spX C fs) := by
  subst hb
  have len : ∀ {vs : List V} {H : Hp} {Q : VK} {E : XK}, spX C fs vs H Q E → vs.length = (("self" : Str) :: fs.map nmT).length := fun {vs H Q E} ⟨a, ws, e1, e2, _⟩ => by rw [e1, List.length_cons, List.length_cons, List.length_map, e2]
  refine ⟨fun vs H Q E h => len h, fun A outer s H args us vs Q E hr e0 hbd r hsp => ?_⟩
  have KX : K.In s.heap := e0.mod.kin.keeps fun b o e => (e0.bs b o e).1
  have lim : s.heap.NoLimit := e0.mod.nolimit.keeps fun b o e => (e0.bs b o e).1
  have hl := len hsp
  have S := EF.sc
  obtain ⟨cl, cld, csl, hcell⟩ := EF.hcell
  obtain ⟨ccl, cdd, cvs, ccs, file, tf, hcode, hvs, hfile⟩ := EF.hcode
  obtain ⟨a, ws, ev, hlw, ea, hq⟩ := hsp
  let NFv : NF := ⟨nm, qual, params, .Expr (.Call (.Attribute (.Call (.Name "super" p1) [] [] p2) "__init__" p3) [.Constant (.str msg) j p4] [] p5) p6 :: stoOf sto, scope, [("__class__", cc)], cda⟩
  refine codeAny_call_function hr.depth (KX _ _ lk) rfl S.co S.gen rfl (codeRec_of KX hcd) (hbd _ _ _ _ ?_)
  refine wpAny_newFunctionEnv S.nocell (fun ⟨n, _⟩ hy => S.par n (List.of_mem_zip hy).1) (fun h₁ hns hsb => ⟨lim.fresh _ hsb, ?_⟩) S.kind
  have kp : ∀ b o, s.heap.get? b = some o → h₁.get? b = some o := fun b o e => hsb.extBut b o (Nat.ne_of_lt (Heap.lt_size e)) (Heap.get?_push_of_some _ e)
  have clk : ∀ y c, ([(("__class__" : Str), cc)] : List (Str × Addr)).lookup y = some c → y = "__class__" ∧ c = cc := fun y c e => by
    by_cases hy : y = "__class__"
    · subst hy
      rw [List.lookup_cons, beq_self_eq_true] at e
      exact ⟨rfl, (Option.some.inj e).symm⟩
    · rw [List.lookup_cons, beq_eq_false_iff_ne.mpr hy] at e
      cases e
  have cbase : base.get? cc = some ⟨cl, cld, .cell (some (.ref C)), csl⟩ := e0.mod.kin _ _ hcell
  have CA : CellsAt [(("__class__" : Str), cc)] [("__class__" : Str)] [some (.ref C)] s.heap H := by
    refine ⟨rfl, fun y c e => ?_, fun x y c e1 e2 => (clk x c e1).1.trans (clk y c e2).1.symm, fun i y e => ?_⟩
    · obtain ⟨_, rfl⟩ := clk y c e
      exact ⟨(e0.bs _ _ cbase).2, _, _, KX _ _ hcell, rfl⟩
    · cases i with
      | zero =>
        cases e
        refine ⟨cc, by rw [List.lookup_cons, beq_self_eq_true], fun v ev => ?_⟩
        cases ev
        exact ⟨.ref C, rfl, _, KX _ _ hcell, rfl⟩
      | succ i => simp at e
  let X : Cx := ncx CX P w K mg base (("self" : Str) :: (fs.map nmT ++ [("__class__" : Str)])) NFv fI A outer s H E
  have I : Inv X [] (startF X.N vs [some (.ref C)]) H { s with heap := h₁, toks := s.toks + (((("self" : Str) :: fs.map nmT).zip us).length) } := inv_startN (F := NFv) S hr.hd e0 hl r CA hns kp
  have KX1 : K.In h₁ := I.kIn
  obtain ⟨t1, hx⟩ := exo_at I.hok ea
  have IA : PySem.W.InstAt h₁ a (excObj C t1 none .none) C none := ⟨hx, rfl, rfl, trivial⟩
  obtain ⟨u0, us', eu⟩ : ∃ u0 us', us = u0 :: us' ∧ u0 = .ref a := by
    rw [ev] at r
    cases r with
    | cons h t => exact ⟨_, _, rfl, h⟩
  obtain ⟨eu, eu0⟩ := eu
  subst eu0
  obtain ⟨ar, har, hself⟩ : ∃ ar, (params.posonlyargs ++ params.args).head? = some ar ∧ ar.arg = "self" := by
    have := EF.hps
    cases e : (params.posonlyargs ++ params.args).head? with
    | none => rw [e] at this; cases this
    | some ar => rw [e] at this; exact ⟨ar, rfl, Option.some.inj this⟩
  have kself : scope.names.lookup ("self" : Str) = some .local := S.par _ List.mem_cons_self
  have kcls : scope.names.lookup ("__class__" : Str) = some .free := S.frk _ List.mem_cons_self
  refine ks_codeAny_funcAt ?_
  show PySem.wpAt (model X.prog X.w) X.A (.func (_ :: stoOf sto) X.env) (execs (_ :: stoOf sto) X.env) _ _ _
  refine ks_wpAt_execs_cons (ks_wpAt_Expr_any (ks_wpAt_MethodCall (pl := do return (← importBound (.Call (.Name "super" p1) [] [] p2) X.env).getD true) (ks_wpAt_super_base (env := X.env) (fd := ksFn nm qual params (.Expr (.Call (.Attribute (.Call (.Name "super" p1) [] [] p2) "__init__" p3) [.Constant (.str msg) j p4] [] p5) p6 :: stoOf sto) scope dV kV doc pm an (.ref cda) ct cc) EF.sup kcls (by decide) rfl (KX1 _ _ lk) rfl har rfl (KX1 _ _ hcode) rfl hvs hfile EF.htop ?_) (sup_eq hln)) I.quiet)
  obtain ⟨mb, hb1, hb2⟩ := I.mod.blt
  obtain ⟨cd, hcd2⟩ : ∃ cd, clsIn K C = some cd := by
    have h := EF.hsub
    unfold mroIn at h
    cases e : clsIn K C with
    | none => rw [e] at h; cases h
    | some cd => exact ⟨cd, rfl⟩
  obtain ⟨oD, hD1, hD2⟩ : ∃ oD, h₁.get? C = some oD ∧ oD.data = .cls cd := by
    have h := hcd2
    unfold clsIn at h
    split at h
    · rename_i c d cd' sl ho
      cases h
      exact ⟨_, KX1 _ _ ho, rfl⟩
    · cases h
  refine ks_loadName_global I.ok.kind EF.sup (Calls.loadGlobal_builtin (by rw [I.ok.glob]; exact I.mod.glob.keeps I.bk) hms (by rw [I.ok.blt]; exact hb1.keeps I.bk) ((hb2 _ (by decide)).trans hbt) ⟨rfl, ?_⟩)
  refine wpAny_loadName_free I.ok.kind kcls rfl ⟨_, KX1 _ _ hcell, rfl⟩ ?_
  refine wpAny_loadName_local I.ok.kind (by rw [hself]; exact kself) hns (by rw [hself, eu]; exact zip_look (i := 0) (by have q := S.nd.sublist (List.take_sublist ((("self" : Str) :: fs.map nmT).length + 1) _); rw [show (("self" : Str) :: fs.map nmT).length + 1 = (("self" : Str) :: fs.map nmT).length + [("__class__" : Str)].length from rfl, S.pre] at q; exact (List.nodup_append.mp q).1) rfl rfl) ?_
  refine ks_wpAny_isType_cls hD1 hD2 ⟨rfl, ?_⟩
  refine ks_wpAny_call_super hD1 hD2 hx rfl (fun c e => by cases e) (looks_mroIn KX1 EF.hsub) (fun h2 hso k2 => ?_)
  have J2 := I.kept (t' := s.toks + (((("self" : Str) :: fs.map nmT).zip us).length)) k2
  have KX2 : K.In h2 := J2.kIn
  have hx2 := k2 _ _ hx
  have IA2 : PySem.W.InstAt h2 a (excObj C t1 none .none) C none := ⟨hx2, rfl, rfl, trivial⟩
  refine kxs_getMethod kxs_ValueError hso (looks_opaque KX2 EF.hany) (l₀ := cd.mro) (fun A Q E s k q => wpAny_bind ((looks_clsIn KX2 hcd2) A _ E s k (wpAny_pure q))) rfl KX2 (by have h := EF.hal; unfold ks_superIn at h; rw [hcd2] at h; exact h) (IA2.type.andThen (looks_subIn KX2 EF.hVE)) (ks_ne KX2 IA2 hcd2) (by decide) ?_
  have J3 : Inv X [] (startF X.N vs [some (.ref C)]) H ⟨h2.push (kxs_mw "ValueError.__init__" a), s.gens, s.drawn, s.toks + (((("self" : Str) :: fs.map nmT).zip us).length) + 1, s.os⟩ := J2.kept (fun b o e => Heap.get?_push_of_some _ e)
  have eu2 : (h2.push (kxs_mw "ValueError.__init__" a)).get? h2.objs.size = some (kxs_mw "ValueError.__init__" a) := Heap.get?_push_size _ rfl
  have J4 : Inv X [(h2.objs.size, kxs_mw "ValueError.__init__" a)] (startF X.N vs [some (.ref C)]) H ⟨h2.push (kxs_mw "ValueError.__init__" a), s.gens, s.drawn, s.toks + (((("self" : Str) :: fs.map nmT).zip us).length) + 1, s.os⟩ := J3.pins_of fun p hp => by
    have hp' : p = (h2.objs.size, kxs_mw "ValueError.__init__" a) := by
      have hp' : p ∈ ([] : List (Addr × Obj)) ++ [(h2.objs.size, kxs_mw "ValueError.__init__" a)] := hp
      simpa using hp'
    rw [hp']
    exact ⟨eu2, J2.hok.fresh (Nat.le_refl _), Nat.ne_of_gt J2.lt, J2.nofs (Nat.le_refl _), fun v z => by cases z⟩
  have PC : PA X [.Constant (.str msg) j p4] (tCons (tC (.str msg)) tNil) := pa_cons pe_str pa_nil
  refine kxs_callWith (i := "ValueError.__init__") (x := a) rfl (evalArgs_plain (thn (PC.run p5 [(h2.objs.size, kxs_mw "ValueError.__init__" a)] _ _ H (fun vs' H' => vs' = [.str msg] ∧ H' = H) J4 ⟨rfl, rfl⟩) fun us4 s4 hh => ?_))
  obtain ⟨vs4, H4, J5, r4, e4, eH4⟩ := hh
  subst eH4
  subst e4
  have pu := (J5.pin (h2.objs.size, kxs_mw "ValueError.__init__" a) (List.mem_append_right _ List.mem_cons_self)).1
  refine ⟨pu, ?_⟩
  obtain ⟨t4, hx4⟩ := exo_at J5.hok ea
  obtain ⟨nm', q', N', bs', bm', sn', sub', ab', col', dd', k0, k1, k2', k3, k5, hC, hbm⟩ := EF.T.cls
  obtain ⟨g4h, g4g, g4d, g4t, g4o⟩ := s4
  refine call_mwV (J5.kIn _ _ hC) hx4 pu (by rw [List.nil_append, ← Paired.length r4]; show 1 ≤ sizeLine; rw [sizeLine_eq]; omega) fun h5 t5 k5' hx5 => ?_
  have J6 := J5.write (t' := g4t) (x := a) (e := a) (o := exo a C none) (by rw [ea]; exact True.intro) (.inl rfl) k5' ⟨_, hx5⟩ (exo_ok hx5)
  have eu6 : upd H4 a (exo a C none) = H4 := by
    funext b
    by_cases hb : b = a
    · rw [hb, upd_same, ea]
    · rw [upd_ne hb]
  rw [eu6] at J6
  refine PySem.wpAt_of_wpAny ?_
  have hNI : ∀ m x, sto[m]? = some x → X.N[1 + m]? = some (nmT x.1) ∧ Vis X.env.scope (nmT x.1) ∧ findIn X.K (.ref C) (nmT x.1) = some none := fun m x e => by
    have e1 : fs[m]? = some x.1 := by rw [← hs, List.getElem?_map, e]; rfl
    have e2 : (fs.map nmT)[m]? = some (nmT x.1) := by rw [List.getElem?_map, e1]; rfl
    have hm : nmT x.1 ∈ fs.map nmT := List.mem_of_getElem? e2
    refine ⟨?_, .inl (S.par _ (List.mem_cons_of_mem _ hm)), EF.no _ (List.mem_of_getElem? e1)⟩
    show (("self" : Str) :: (fs.map nmT ++ [("__class__" : Str)]))[1 + m]? = _
    rw [Nat.add_comm, List.getElem?_cons_succ, List.getElem?_append_left (List.getElem?_eq_some_iff.mp e2).1]
    exact e2
  have hsne : sto ≠ [] := fun z => hne (by rw [← hs, z]; rfl)
  have hsl : sto.length = fs.length := by rw [← hs, List.length_map]
  have body := pss_sto0 (X := X) EF.T rfl (.inl kself) hsne hNI (by rw [hsl]; exact EF.fewer)
  refine wpAny_mono (body.run _ _ _ H4 { nx := fun _ H' => Q .non H', rt := Q } J6 ⟨a, ws, ?_, fun m w' e => ?_, by rw [hsl]; exact hlw, ea, fun d hd hda => by rw [hs]; exact hq d hd hda⟩) (fun fl s' hs' => ?_) fun e s' hs' => hs'
  · show (startF X.N vs [some (.ref C)])[0]? = _
    rw [ev]
    rfl
  · show (startF X.N vs [some (.ref C)])[1 + m]? = _
    rw [ev]
    unfold startF
    rw [List.getElem?_append_left (by rw [List.length_map, List.length_cons]; have := (List.getElem?_eq_some_iff.mp e).1; omega), List.getElem?_map, Nat.add_comm, List.getElem?_cons_succ, e]
    rfl
  · have fin : ∀ {σ' : L2.St} {H' : Hp} {v : V} {u : Value} {pins'}, L2.Inv X pins' σ' H' s' → L2.RelV v u → Q v H' → CE outer P w H4 s Q u s' :=
      fun {σ' H' v u pins'} J rv q => ⟨v, H', J.os, J.bare, J.base, J.hok, rv, q⟩
    cases fl with
    | ret u =>
      obtain ⟨v, σ', H', J, rv, q⟩ := hs'
      exact fin J rv q
    | next =>
      obtain ⟨σ', H', J, q⟩ := hs'
      exact fin (v := V.non) (u := Value.none) J rfl q
    | brk =>
      obtain ⟨_, _, _, q⟩ := hs'
      exact False.elim q
    | cont =>
      obtain ⟨_, _, _, q⟩ := hs'
      exact False.elim q
end
end DN

end
section
set_option Elab.async false
set_option linter.all false
set_option maxRecDepth 100000
set_option maxHeartbeats 4000000
/-! E2: raise X(..); try .. except; what a suite asks of the error. -/
namespace DN
open PySem PySem.Spec PyProof.Rows L2
section
variable {X : Cx} {g : G} {W : WX} {e : Expr} {es : List Expr} {fs : Tau → M (List D)} {p pos pos2 : Pos} {k : Nat}
def raiseS (c : Nat) (fs : Tau → M (List D)) : SX := eThen fs fun ds τ L => match asPs ds with
  | some ps => if ps.length = (flT c).length then some (.ex τ c ps.reverse, L) else none
  | none => none
theorem zip_snoc {α β : Type} {x : α} {y : β} : ∀ {xs : List α} {ys : List β}, xs.length = ys.length → (xs ++ [x]).zip (ys ++ [y]) = xs.zip ys ++ [(x, y)]
  | [], [], _ => rfl
  | [], _ :: _, h => by cases h
  | _ :: _, [], h => by cases h
  | a :: xs, b :: ys, h => by
    have := zip_snoc (x := x) (y := y) (xs := xs) (ys := ys) (Nat.succ.inj h)
    simp only [List.cons_append, List.zip_cons_cons, this]
theorem zip_rev {α β : Type} : ∀ {xs : List α} {ys : List β}, xs.length = ys.length → (xs.reverse.zip ys).reverse = xs.zip ys.reverse := by
  have key : ∀ {xs : List α} {ys : List β}, xs.length = ys.length → (xs.zip ys).reverse = xs.reverse.zip ys.reverse := by
    intro xs
    induction xs with
    | nil => intro ys _; rfl
    | cons a xs ih =>
      intro ys h
      cases ys with
      | nil => cases h
      | cons b ys =>
        have h' : xs.length = ys.length := Nat.succ.inj h
        rw [List.zip_cons_cons, List.reverse_cons, List.reverse_cons, List.reverse_cons, zip_snoc (by rw [List.length_reverse, List.length_reverse, h']), ih h']
  intro xs ys h
  rw [key (by rw [List.length_reverse, h]), List.reverse_reverse]
theorem isA_rev {F : Hp} {vs : List V} {ps : List P} (h : IsA g F vs ps) : IsA g F vs.reverse ps.reverse := by
  have snoc : ∀ {vs : List V} {ps : List P} {v : V} {p : P}, IsA g F vs ps → Is g F v p → IsA g F (vs ++ [v]) (ps ++ [p]) := by
    intro vs ps v p h
    induction vs generalizing ps with
    | nil => intro h2; cases h; exact .cons h2 .nil
    | cons a l ih => intro h2; cases h with | cons h t => exact .cons h (ih t h2)
  induction vs generalizing ps with
  | nil => cases h; exact .nil
  | cons a l ih => cases h with | cons h t => rw [List.reverse_cons, List.reverse_cons]; exact snoc (ih t) h
theorem ds_raise {x : Str} {c : Nat} {fI : Addr} {fd : FuncData} (hc : X.calm = true) (tk : Takes X W) (T : OexC X.K (g.cl c)) (iC : PySem.W.findIn X.K (.ref (g.cl c)) "__init__" = some (some (.ref fI))) (tI : PySem.W.typeIn X.K (.ref fI) = some (.type "function"))
    (FO : FnOk X.prog X.w X.K X.mg X.base (L2.CX X.prog X.w) k fI fd (("self" : Str) :: (flT c).reverse.map nmT) (spX (g.cl c) (flT c).reverse)) (hr : Room (k + 1) X.A) (hb : Binds X.K fd (("self" : Str) :: (flT c).reverse.map nmT) [])
    (hg : Gl X x) (hm : X.mg x = some (.ref (g.cl c))) (hfew : (flT c).length ≤ 1000) (ha : PA X (e :: es) (tA g W fs)) (hdb : (x == ("__debug__" : Str)) = false := by decide)
    (hst : starEach (e :: es) X.env = (false, eval e X.env) :: starEach es X.env := by rfl) (hpl : (backTo pos (starEach es X.env)).any (·.1) = false := by rfl) :
    PS X (.Raise (some (.Call (.Name x p) (e :: es) [] pos)) none pos2) (tS g W (raiseS c fs)) := by
  refine PS.weak (ps_raise hc tk (pmk_oex T iC tI FO hr hb .nil (passes_call tk fun _ _ _ _ h => h.elim) hg hm ha hdb hst hpl)) fun D σ H h => ?_
  refine (SatS.bind (ra := relA g) h).mono fun vs H1 h1 => ?_
  obtain ⟨F, ρ, τ, L, ds, hR, hS, hcx, hr, hp⟩ := h1
  match ed : asPs ds with
  | none => rw [ed] at hp; exact False.elim hp
  | some ps =>
    rw [ed] at hp
    dsimp only at hp
    have hi := asPs_is hr ed
    by_cases hz : ps.length = (flT c).length
    · rw [if_pos hz] at hp
      have hvl : vs.length = (flT c).length := hi.len.trans hz
      refine ⟨by rw [hvl]; exact hfew, fun a hna => ⟨a, vs ++ [], rfl, by rw [List.append_nil, List.length_reverse, hvl], upd_same, fun d hd hda => ?_⟩⟩
      rw [upd_ne hda] at hd
      refine ⟨rfl, d, _, upd_same, by rw [upd_ne hda]; exact upd_same, hd, ?_⟩
      have eH : upd (del (upd (upd (upd H1 a (exo a (g.cl c) none)) d (exd d ((List.map nmT (flT c).reverse).zip (vs ++ [])).reverse)) a (exo a (g.cl c) (some d))) a) d (.xd ((List.map nmT (flT c).reverse).zip (vs ++ [])).reverse) = upd H1 d (.xd (((flT c).map nmT).zip vs.reverse)) := by
        have ez : ((List.map nmT (flT c).reverse).zip (vs ++ [])).reverse = ((flT c).map nmT).zip vs.reverse := by
          rw [List.append_nil, List.map_reverse]
          exact zip_rev (by rw [List.length_map, hvl])
        rw [ez]
        funext b
        by_cases hb : b = d
        · rw [hb, upd_same, upd_same]
        · rw [upd_ne hb, upd_ne hb]
          by_cases hba : b = a
          · rw [hba, del_same, hna]
          · rw [del_ne hba, upd_ne hba, upd_ne hb, upd_ne hba]
      rw [eH]
      refine hp (upd F d (.xd (((flT c).map nmT).zip vs.reverse))) ρ d vs.reverse _ σ ⟨Sub.frz hR hd _, fun _ _ => rfl, Nat.le_refl _⟩ (hR.frz hd _) (hS.ext ⟨Sub.frz hR hd _, fun _ _ => rfl, Nat.le_refl _⟩) upd_same ?_ ?_
      · rw [List.length_reverse, hvl]
      · exact isA_rev (IsA.mono (Sub.frz hR hd _) hi)
    · rw [if_neg hz] at hp
      exact False.elim hp
end

/-! ### try: .. except X [as n]: .. -/
/-- the class c is c' or under it -/
def subE (c c' : Nat) : Bool := c == c' || c' == 20
structure Clz where
  c : Nat
  i : Option Nat
  su : Nat → Nat → Nat → SX
/-- the clause's name is gone behind its suite -/
def dropO (i : Nat) : Option (Out × List MO) → Option (Out × List MO)
  | some (.nx τ, L) => some (.nx (τ.set i none), L)
  | some (.bk τ, L) => some (.bk (τ.set i none), L)
  | some (.ct τ, L) => some (.ct (τ.set i none), L)
  | some (.rt d, L) => some (.rt d, L)
  | _ => none
def dropN : Option (Out × List MO) → Option (Out × List MO)
  | some (.ex _ _ _, _) => none
  | o => o
def clOne (z : Clz) (a dx c : Nat) (fs : List P) : SX := fun τ L => match z.i with
  | none => dropN (z.su a dx c τ L)
  | some i => dropO i (z.su a dx c (τ.set i (some (.v (.exn c (.int a :: .int dx :: fs))))) L)
def clS : List Clz → Nat → List P → SX
  | [], c, fs => fun τ L => some (.ex τ c fs, L)
  | z :: zs, c, fs => if subE c z.c = true then clOne z 0 0 c fs else clS zs c fs
def tryS (tab : List Nat) (zs : List Clz) (sb : SX) : SX := fun τ L => match sb τ L with
  | some (.ex τ1 c fs, L1) => if c ∈ tab then clS zs c fs τ1 L1 else none
  | o => o
/-- the clauses in the text are those -/
inductive HdD (X : Cx) (g : G) (tab : List Nat) : List ExceptHandler → List Clz → Prop
  | nil : HdD X g tab [] []
  | only {x : Str} {z : Clz} {b0 : Stmt} {suite : List Stmt} {np p1 : Pos} {hds : List ExceptHandler} {zs : List Clz} (hi : z.i = none) (hc : Names X x (.ref (g.cl z.c)))
      (hsu : ∀ (a : Addr) (oe : Obj) (dx : Addr) (c : Nat) (pn : List (Addr × Obj)), c ∈ tab → Zc (.ref (g.cl c)) (some dx) oe → (∃ vs, oe.data = .fields vs) → PSs (X.suite a ((a, oe) :: pn)) (b0 :: suite) (tS g W0 (z.su a dx c)))
      (r : HdD X g tab hds zs) : HdD X g tab (.ExceptHandler (some (.Name x np)) none (b0 :: suite) p1 :: hds) (z :: zs)
  | named {x n : Str} {i : Nat} {z : Clz} {b0 : Stmt} {suite : List Stmt} {np p1 : Pos} {hds : List ExceptHandler} {zs : List Clz} (hi : z.i = some i) (hn : X.N[i]? = some n) (hl : X.env.kindOf n = some .local) (hc : Names X x (.ref (g.cl z.c)))
      (hsu : ∀ (a : Addr) (oe : Obj) (dx : Addr) (c : Nat) (pn : List (Addr × Obj)), c ∈ tab → Zc (.ref (g.cl c)) (some dx) oe → (∃ vs, oe.data = .fields vs) → PSs (X.suite a ((a, oe) :: pn)) (b0 :: suite) (tS g W0 (z.su a dx c)))
      (r : HdD X g tab hds zs) : HdD X g tab (.ExceptHandler (some (.Name x np)) (some n) (b0 :: suite) p1 :: hds) (z :: zs)
section
variable {X : Cx} {g : G} {Wout : WX} {tab : List Nat} {pos : Pos} {body : List Stmt} {sb : SX}
theorem Sl.unset2 {F : Hp} {ρ : Nat → Addr} {n : Nat} {σ : L2.St} {τ : Tau} (h : Sl g F ρ n σ τ) (i : Nat) : Sl g F ρ n (σ.set i none) (τ.set i none) := by
  refine ⟨by rw [List.length_set, List.length_set]; exact h.1, fun j d e => ?_⟩
  by_cases hj : i = j
  · subst hj
    rw [List.getElem?_set] at e
    simp at e
  · rw [List.getElem?_set_ne hj] at e
    rw [List.getElem?_set_ne hj]
    exact h.2 j d e
/-- what the clauses wish of an error that the body lets out -/
def wTry (g : G) (Wout : WX) (tab : List Nat) (zs : List Clz) (E : Ends) : WX := fun cls dd σ H => ∃ F ρ τ L c fs dx vs, cls = .ref (g.cl c) ∧ dd = some dx ∧ c ∈ tab ∧ R g F ρ L H ∧ Sl g F ρ L.length σ τ ∧ F dx = some (.xd (((flT c).map nmT).zip vs)) ∧ vs.length = (flT c).length ∧ IsA g F vs fs ∧
  PostS g F ρ L.length Wout E (clS zs c fs τ L)
theorem try_post {F : Hp} {ρ : Nat → Addr} {n : Nat} {zs : List Clz} {E : Ends} {o : Option (Out × List MO)} (h : PostS g F ρ n Wout E (match o with | some (.ex τ1 c fs, L1) => if c ∈ tab then clS zs c fs τ1 L1 else none | o => o)) : PostS g F ρ n (wTry g Wout tab zs E) E o := by
  match o, h with
  | none, h => exact h
  | some (.nx τ, L), h => exact h
  | some (.rt d, L), h => exact h
  | some (.bk τ, L), h => exact h
  | some (.ct τ, L), h => exact h
  | some (.ex τ c fs, L), h =>
    dsimp only at h
    by_cases hc : c ∈ tab
    · rw [if_pos hc] at h
      exact fun F' ρ' dx vs H' σ' x hR hS hd hl hi => ⟨F', ρ', τ, L, c, fs, dx, vs, rfl, rfl, hc, hR, hS, hd, hl, hi, h.ext x⟩
    · rw [if_neg hc] at h
      exact False.elim h
/-- the clause's suite, its name bound -/
theorem suite_named {F : Hp} {ρ : Nat → Addr} {n i : Nat} {E : Ends} {o : Option (Out × List MO)} (h : PostS g F ρ n Wout E (dropO i o)) : PostS g F ρ n W0 { nx := fun σ H => E.nx (σ.set i none) H, rt := E.rt, bk := fun σ H => E.bk (σ.set i none) H, ct := fun σ H => E.ct (σ.set i none) H } o := by
  match o, h with
  | none, h => exact h
  | some (.nx τ, L), h => exact fun F' ρ' H' σ' x hR hS => h F' ρ' H' _ x hR (hS.unset2 i)
  | some (.rt d, L), h => exact h
  | some (.bk τ, L), h => exact fun F' ρ' H' σ' x hR hS => h F' ρ' H' _ x hR (hS.unset2 i)
  | some (.ct τ, L), h => exact fun F' ρ' H' σ' x hR hS => h F' ρ' H' _ x hR (hS.unset2 i)
  | some (.ex τ c fs, L), h => exact False.elim h
theorem suite_only {F : Hp} {ρ : Nat → Addr} {n : Nat} {E : Ends} {o : Option (Out × List MO)} (h : PostS g F ρ n Wout E (dropN o)) : PostS g F ρ n W0 E o := by
  match o, h with
  | none, h => exact h
  | some (.nx τ, L), h => exact h
  | some (.rt d, L), h => exact h
  | some (.bk τ, L), h => exact h
  | some (.ct τ, L), h => exact h
  | some (.ex τ c fs, L), h => exact False.elim h
theorem ds_try {h0 : ExceptHandler} {hds : List ExceptHandler} {zs : List Clz} (hs : X.stack = X.env :: X.outer) (hf : X.env.frame = some X.env.locals) (hN : X.N.Nodup) (tk : Takes X Wout)
    (hb : ∀ (pn : List (Addr × Obj)) (xe : Value → Shared → Prop) (W : WX), Takes (X.tr pn xe) W → PassesOwn (model X.prog X.w) X.A X.env xe → PSs (X.tr pn xe) body (tS g W sb))
    (hh : HdD X g tab (h0 :: hds) zs) (hx : ∀ c ∈ tab, ∀ z ∈ zs, PySem.W.exmOne X.K (.ref (g.cl c)) (.ref (g.cl z.c)) = some (subE c z.c)) (par : ∀ z ∈ zs, ∀ a dx c fs τ L, clOne z a dx c fs τ L = clOne z 0 0 c fs τ L) :
    PS X (.Try body (h0 :: hds) [] [] pos) (tS g Wout (tryS tab zs sb)) := by
  refine ⟨fun pins s σ H E I h => ?_⟩
  have ok := I.ok
  have hfr : X.A.frames = some (X.env :: X.outer) := by rw [ok.frames, hs]
  obtain ⟨F0, ρ0, τ0, L0, hR0, hS0, _, hp0⟩ := h
  have hq : tS g (wTry g Wout tab zs E) sb E σ H := ⟨F0, ρ0, τ0, L0, hR0, hS0, (fun y hy => by cases hy), try_post hp0⟩
  refine wpAny_Try_except (wpAny_mono ((hb (X.pn ++ pins) (fun e s₁ => wpAny (model X.prog X.w) X.A (noteFrame e X.env) (fun _ s₂ => wpAny (model X.prog X.w) X.A (setFlight e none) (fun _ s₃ =>
    wpAny (model X.prog X.w) X.A (handleBy e X.env (h0 :: hds)) (SP X pins E) X.xe s₃) X.xe s₂) X.xe s₁) (wTry g Wout tab zs E) (fun u s1 hu => ?_) PassesOwn.looking).run [] s σ H E (I.toTry _) hq) (fun f s1 hsp => ?_) fun e s1 he => he)
  · obtain ⟨a, B, sI, pins1, σ1, H1, cls, dd, eu, J', nb, up, sky, na, os, ag, wt⟩ := hu
    subst eu
    have J : Inv X pins σ1 H1 sI := J'.ofTry ok
    rw [hs] at sky
    show wpAny (model X.prog X.w) X.A (noteFrame (.ref a) X.env) _ _ _
    refine Sky.land Zc.steady hfr hf sky fun h3 fl up3 => ?_
    have J3 : Inv X pins σ1 H1 { s1 with heap := h3 } := J.landed nb fl.1 (up.trans up3) os ag
    obtain ⟨o3, v3, he3, hz3, hd3⟩ := fl.there
    have aFr : a ∉ frs (X.env :: X.outer) := fun hm => by
      obtain ⟨_, o', e', hnf⟩ := fl.2.2.1.mem hm
      rw [he3] at e'
      cases e'
      exact hnf _ hd3
    have nL : a ≠ X.env.locals := fun z => aFr (List.mem_filterMap.mpr ⟨X.env, List.mem_cons_self, by rw [hf, z]⟩)
    have nF : a ∉ X.fs := fun hm => by
      obtain ⟨e, h1, h2⟩ := List.mem_filterMap.mp hm
      exact aFr (List.mem_filterMap.mpr ⟨e, List.mem_cons_of_mem _ h1, h2⟩)
    obtain ⟨F, ρ, τ, L, c, fs, dx, vs, ec, ed, hct, hR, hS, hxd, hvl, hia, hp⟩ := wt
    subst ec
    subst ed
    have S3 := J3.suite he3 hd3 na nL nF
    have walk : ∀ {hs' : List ExceptHandler} {ys : List Clz}, HdD X g tab hs' ys → (∀ z ∈ ys, PySem.W.exmOne X.K (.ref (g.cl c)) (.ref (g.cl z.c)) = some (subE c z.c)) → (∀ z ∈ ys, ∀ a dx c fs τ L, clOne z a dx c fs τ L = clOne z 0 0 c fs τ L) → PostS g F ρ L.length Wout E (clS ys c fs τ L) →
        wpAny (model X.prog X.w) X.A (handleBy (.ref a) X.env hs') (SP X pins E) X.xe { s1 with heap := h3 } := by
      intro hs' ys hk
      have testOf : ∀ {x : Str} {np : Pos} {cv : Value} {Q : Value → Shared → Prop} {E' : Value → Shared → Prop}, Names X x cv → Q cv { s1 with heap := h3 } → wpAny (model X.prog X.w) (X.A.mark (some (.ref a))) (eval (.Name x np) X.env) Q E' { s1 with heap := h3 } := fun {x np cv Q E'} hc q => by
        obtain ⟨hg, hdb, hm | ⟨hm, hv, hnn⟩⟩ := hc
        · exact ld_glob (X := X.suite a ((a, o3) :: (X.pn ++ pins))) S3 hg hm q hdb
        · exact ld_blt (X := X.suite a ((a, o3) :: (X.pn ++ pins))) S3 hg hm hv q hnn hdb
      have clsOfA : PySem.W.Looks (model X.prog X.w) h3 (typeOf (.ref a)) (.ref (g.cl c)) := fun A Q E s k q => wpAny_typeOf_ref (k _ _ he3) (by rw [hz3.1]; exact q)
      induction hk with
      | nil =>
        intro _ _ hp
        refine wpAny_handleBy_nil ?_
        obtain ⟨k1, k2, k3, oe, ws, T, oT, ts', he, hz, hd, h1, hr⟩ := id fl
        unfold PySem.passOn
        refine wpAny_bind (wpAny_field he hd h1 ?_)
        rw [if_neg (by simp : ¬ ((Value.ref T == Value.none) = true))]
        have fin : wpAny (model X.prog X.w) X.A (setFlight (.ref a) X.env.frame) (fun _ s4 => wpAny (model X.prog X.w) X.A (throw (.ref a) : Sem Flow) (SP X pins E) X.xe s4) X.xe { s1 with heap := h3 } := by
          rw [hf]
          refine HandSPX.setFlight_upZ fl fun h4 hh4 up4 => wpAny_throw (tk _ _ ?_)
          refine ⟨a, B, sI, pins, σ1, H1, _, _, rfl, J, nb, (up.trans up3).trans up4, .inr (.inr (by rw [hs]; exact hh4)), na, os, ag, ?_⟩
          exact hp F ρ dx vs H1 σ1 Ext.refl hR hS hxd hvl hia
        first
          | exact wpAny_bind (wpAny_pure (wpAny_bind fin))
          | exact wpAny_bind fin
      | @only x z b0 suite np p1 hds2 zs2 hi hc hsu r ih =>
        intro hx2 par2 hp
        refine wpAny_handleBy_cons (codeAny_handlers_test ?_) (by intro q; cases q)
        have LM := PySem.W.exm_one (M := model X.prog X.w) J3.kIn clsOfA (hx2 z List.mem_cons_self)
        refine testOf hc (LM.here ?_)
        unfold clS at hp
        cases hb : subE c z.c with
        | true =>
          rw [if_pos hb] at hp
          unfold clOne at hp
          rw [hi] at hp
          refine codeAny_handlers_suite (HandSPX.lands_againZ fl fun h4 fl4 up4 => ?_)
          have J4 : Inv X pins σ1 H1 { s1 with heap := h4 } := J.landed nb fl4.1 ((up.trans up3).trans up4) os ag
          obtain ⟨o4, v4, he4, hz4, hd4⟩ := fl4.there
          have S4 := J4.suite he4 hd4 na nL nF
          have pz := par2 z List.mem_cons_self a dx c fs τ L
          unfold clOne at pz
          rw [hi] at pz
          dsimp only at pz hp
          rw [← pz] at hp
          refine wpAny_mono ((hsu a o4 dx c (X.pn ++ pins) hct hz4 ⟨_, hd4⟩).run [] _ _ H1 _ S4 ⟨F, ρ, τ, L, hR, hS, (fun y hy => by cases hy), suite_only hp⟩) (fun f s6 hsp => ?_) (fun _ _ z => False.elim z)
          cases f with
          | next => exact let ⟨σ6, H6, S6, q6⟩ := hsp; ⟨σ6, H6, S6.unsuite ok, q6⟩
          | brk => exact let ⟨σ6, H6, S6, q6⟩ := hsp; ⟨σ6, H6, S6.unsuite ok, q6⟩
          | cont => exact let ⟨σ6, H6, S6, q6⟩ := hsp; ⟨σ6, H6, S6.unsuite ok, q6⟩
          | ret u => exact let ⟨v6, σ6, H6, S6, r6, q6⟩ := hsp; ⟨v6, σ6, H6, S6.unsuite ok, r6, q6⟩
        | false =>
          rw [if_neg (by rw [hb]; exact Bool.false_ne_true)] at hp
          show wpAny _ X.A (handleBy (.ref a) X.env hds2) _ _ _
          exact ih (fun z hz => hx2 z (List.mem_cons_of_mem _ hz)) (fun z hz => par2 z (List.mem_cons_of_mem _ hz)) hp
      | @named x n i z b0 suite np p1 hds2 zs2 hi hn hl hc hsu r ih =>
        intro hx2 par2 hp
        refine wpAny_handleBy_cons (codeAny_handlers_test ?_) (by intro q; cases q)
        have LM := PySem.W.exm_one (M := model X.prog X.w) J3.kIn clsOfA (hx2 z List.mem_cons_self)
        refine testOf hc (LM.here ?_)
        unfold clS at hp
        cases hb : subE c z.c with
        | true =>
          rw [if_pos hb] at hp
          unfold clOne at hp
          rw [hi] at hp
          refine codeAny_handlers_suite_as (HandSPX.lands_againZ fl fun h4 fl4 up4 => ?_)
          have J4 : Inv X pins σ1 H1 { s1 with heap := h4 } := J.landed nb fl4.1 ((up.trans up3).trans up4) os ag
          obtain ⟨o4, v4, he4, hz4, hd4⟩ := fl4.there
          have S4 := J4.suite he4 hd4 na nL nF
          have pz := par2 z List.mem_cons_self a dx c fs τ L
          unfold clOne at pz
          rw [hi] at pz
          dsimp only at pz hp
          rw [← pz] at hp
          refine store_ok (X := X.suite a ((a, o4) :: (X.pn ++ pins))) (v := .ref a) S4 hN hn (.inl hl) rfl (fun s5 S5 => ?_) (.inr hl)
          have hsl : Sl g F ρ L.length (σ1.set i (some (.ref a))) (τ.set i (some (.v (.exn c (.int a :: .int dx :: fs))))) := hS.set (show IsD g F ρ L.length (.ref a) (.v (.exn c (.int a :: .int dx :: fs))) from Is.exn hxd hvl hia) i
          refine wpAny_mono ((hsu a o4 dx c (X.pn ++ pins) hct hz4 ⟨_, hd4⟩).run [] s5 _ H1 _ S5 ⟨F, ρ, _, L, hR, hsl, (fun y hy => by cases hy), suite_named hp⟩) (fun f s6 hsp => ?_) (fun _ _ z => False.elim z)
          have gone : ∀ {σ6 : L2.St} {H6 : Hp} {Q : Shared → Prop}, Inv (X.suite a ((a, o4) :: (X.pn ++ pins))) [] σ6 H6 s6 → (∀ s7, Inv X pins (σ6.set i none) H6 s7 → Q s7) →
              wpAny (model X.prog X.w) X.A (do bindName X.env n .none; unbindBehindTheSuite X.env n p1) (fun _ s7 => Q s7) X.xe s6 := fun {σ6 H6 Q} S6 hq => gone_ok (S6.unsuite ok) hN hn hl hq
          cases f with
          | next => exact let ⟨σ6, H6, S6, q6⟩ := hsp; gone S6 fun s7 J7 => ⟨_, H6, J7, q6⟩
          | brk => exact let ⟨σ6, H6, S6, q6⟩ := hsp; gone S6 fun s7 J7 => ⟨_, H6, J7, q6⟩
          | cont => exact let ⟨σ6, H6, S6, q6⟩ := hsp; gone S6 fun s7 J7 => ⟨_, H6, J7, q6⟩
          | ret u => exact let ⟨v6, σ6, H6, S6, r6, q6⟩ := hsp; gone S6 fun s7 J7 => ⟨v6, _, H6, J7, r6, q6⟩
        | false =>
          rw [if_neg (by rw [hb]; exact Bool.false_ne_true)] at hp
          show wpAny _ X.A (handleBy (.ref a) X.env hds2) _ _ _
          exact ih (fun z hz => hx2 z (List.mem_cons_of_mem _ hz)) (fun z hz => par2 z (List.mem_cons_of_mem _ hz)) hp
    exact walk hh (hx c hct) par hp
  · cases f with
    | next => exact let ⟨σ', H', J', q⟩ := hsp; wpAny_execs_nil ⟨σ', H', J'.ofTry ok, q⟩
    | brk => exact let ⟨σ', H', J', q⟩ := hsp; ⟨σ', H', J'.ofTry ok, q⟩
    | cont => exact let ⟨σ', H', J', q⟩ := hsp; ⟨σ', H', J'.ofTry ok, q⟩
    | ret u => exact let ⟨v, σ', H', J', r, q⟩ := hsp; ⟨v, σ', H', J'.ofTry ok, r, q⟩
end

/-! ### e.f, isinstance(e, C) in a suite -/
def exfD (a dx i f : Nat) (τ : Tau) : M D := fun L => match τ[i]? with
  | some (some (.v (.exn c (.int a' :: .int dx' :: fs)))) => if a' = a ∧ dx' = dx then (match fget (flT c) fs f with
    | some p => some (.ok (.v p), L)
    | none => none) else none
  | _ => none
def exiD (a dx i : Nat) (b : Bool) (τ : Tau) : M D := fun L => match τ[i]? with
  | some (some (.v (.exn _ (.int a' :: .int dx' :: _)))) => if a' = a ∧ dx' = dx then some (.ok (.v (.bl b)), L) else none
  | _ => none
section
variable {X : Cx} {g : G} {W : WX} {a dx c i : Nat} {oe : Obj} {pn : List (Addr × Obj)} {n : Str} {p pos : Pos}
theorem isA_get {F : Hp} : ∀ {is : List Nat} {vs : List V} {ps : List P} {f : Nat} {q : P}, IsA g F vs ps → (is.map nmT).Nodup → fget is ps f = some q → ∃ v, ((is.map nmT).zip vs).lookup (nmT f) = some v ∧ Is g F v q := fun {is vs ps f q} h nd e => fget_is h nd (fget_mem e) e
theorem de_exf {x : Str} (f : Nat) (hx : x = nmT f) (T : XfC X.K (g.cl c)) (hno : PySem.W.findIn X.K (.ref (g.cl c)) x = some none) (hnd : ∀ c, ((flT c).map nmT).Nodup) (hz : Zc (.ref (g.cl c)) (some dx) oe) (hf : ∃ vs, oe.data = .fields vs) (hN : X.N[i]? = some n) (hv : Vis X.env.scope n)
    (hd : (n == ("__debug__" : Str)) = false := by decide) (hcd : (n == ("__classdict__" : Str)) = false := by decide) (hb : attributeBase (.Name n p) x X.env (eval (.Name n p) X.env) = eval (.Name n p) X.env := by rfl) :
    PE (X.suite a ((a, oe) :: pn)) (.Attribute (.Name n p) x pos) (tE g W (exfD a dx i f)) := by
  subst hx
  refine PE.weak (pe_xf T hno hz hf (pe_var (X := X.suite a ((a, oe) :: pn)) hN hv hd hcd) hb) fun σ H Q h => ?_
  obtain ⟨F, ρ, τ, L, hR, hS, hc, hp⟩ := h
  unfold exfD at hp
  split at hp
  · rename_i c1 a1 dx1 fs e1
    split at hp
    · rename_i hq
      obtain ⟨v, e2, e3⟩ := hS.2 i _ e1
      have e3' : Is g F v (.exn c1 (.int a1 :: .int dx1 :: fs)) := e3
      split at hp
      · rename_i q eq
        cases e3' with
        | @exn a2 dx2 c2 vs ps h1 h2 h3 =>
          obtain ⟨w, k1, k2⟩ := isA_get h3 (hnd c1) eq
          have ea : a2 = a := by have := hq.1; omega
          have edx : dx2 = dx := by have := hq.2; omega
          subst ea
          subst edx
          exact ⟨_, e2, rfl, rfl, _, _, w, rfl, hR.sub _ _ h1, k1, hp F ρ w H Ext.refl hR k2⟩
      · exact False.elim hp
    · exact False.elim hp
  · exact False.elim hp
/-- what a class must say for isinstance of its instances -/
structure XiC (K : PySem.W.Frag) (C : Addr) : Prop where
  cl : (PySem.W.clsIn K C).isSome = true
  ga : PySem.W.findIn K (.ref C) "__getattribute__" = some (some (.builtin "BaseException.__getattribute__"))
  gg : PySem.W.findIn K (.ref C) "__getattr__" = some none
  sb : PySem.W.subIn K (.ref C) (.type "BaseException") = some true
  ca : PySem.W.findIn K (.ref C) "__class__" = some (some (.builtin "object.__class__"))
  cn : PySem.W.specialIn K (.builtin "object.__class__") "__get__" = some (some (.builtin "getset_descriptor.__get__"))
  tk : PySem.W.takesIn K (.builtin "object.__class__") = some true
  ob : PySem.W.mroIn K C (.type "object") = some true
theorem call_exi {D : Addr} (T : XiC X.K D) (hz : Zc (.ref D) (some dx) oe) (hf : ∃ vs, oe.data = .fields vs) : CallR (X.suite a ((a, oe) :: pn)) (.builtin "isinstance") (fun xs H Q => ∃ (cv : V) (u : Value) (b : Bool) (fs : List (Str × V)), xs = [.ref a, cv] ∧ ClsV cv u ∧ H dx = some (.xd fs) ∧ PySem.W.kitOne X.K (.ref D) u = some b ∧ Q (.bl b) H) := by
  intro pins s σ H xs us Q I r h
  obtain ⟨cv, u, b, fs, ex, k, ed, e, q⟩ := h
  subst ex
  obtain ⟨u1, u2, eu, r1, r2⟩ := vals2 r
  subst eu
  have e2 := k.eq r2
  subst e2
  obtain rfl : u1 = Value.ref a := r1
  obtain ⟨ha, _⟩ := I.pin (a, oe) (List.mem_append_left _ List.mem_cons_self)
  obtain ⟨vs, hd⟩ := hf
  obtain ⟨mA, hns, _⟩ := (show ObjOk X.prog X.w H s.heap dx (.xd fs) from I.hok dx _ ed)
  obtain ⟨od, ho, hl⟩ := lookIn_ns hns
  have J : PySem.W.InstAt s.heap a oe D (some od) := ⟨ha, hz.1, by unfold PySem.W.notCls; rw [hd] <;> rfl, by rw [hz.2]; exact ho⟩
  exact PySem.W.kia_one (PySem.W.kitx_exc T.cl T.ga T.gg T.sb T.ca T.cn T.tk T.ob) I.kIn J e (fun z => nomatch z) fun tk => ⟨.bl b, H, I.tok tk, rfl, q⟩
theorem de_exi {x : Str} {b : Bool} {cv : V} {u : Value} {p1 p2 : Pos} (T : XiC X.K (g.cl c)) (hz : Zc (.ref (g.cl c)) (some dx) oe) (hf : ∃ vs, oe.data = .fields vs) (hN : X.N[i]? = some n) (hv : Vis X.env.scope n) (k : ClsV cv u) (hk : PySem.W.kitOne X.K (.ref (g.cl c)) u = some b)
    (hcl : PE (X.suite a ((a, oe) :: pn)) (.Name x p2) (tC cv)) (hgi : Gl X "isinstance") (hmi : X.mg "isinstance" = none) (hvi : bootBuiltins "isinstance" = some (.builtin "isinstance"))
    (hd : (n == ("__debug__" : Str)) = false := by decide) (hcd : (n == ("__classdict__" : Str)) = false := by decide) :
    PE (X.suite a ((a, oe) :: pn)) (.Call (.Name "isinstance" p) [.Name n p1, .Name x p2] [] pos) (tE g W (exiD a dx i b)) := by
  refine PE.weak (pe_callB (call_exi T hz hf) hgi hmi hvi (pa_cons (pe_var (X := X.suite a ((a, oe) :: pn)) hN hv hd hcd) (pa_cons hcl pa_nil))) fun σ H Q h => ?_
  obtain ⟨F, ρ, τ, L, hR, hS, hc, hp⟩ := h
  unfold exiD at hp
  split at hp
  · rename_i c1 a1 dx1 fs e1
    split at hp
    · rename_i hq
      obtain ⟨v, e2, e3⟩ := hS.2 i _ e1
      have e3' : Is g F v (.exn c1 (.int a1 :: .int dx1 :: fs)) := e3
      cases e3' with
      | @exn a2 dx2 c2 vs ps h1 h2 h3 =>
        have ea : a2 = a := by have := hq.1; omega
        have edx : dx2 = dx := by have := hq.2; omega
        subst ea
        subst edx
        exact ⟨_, e2, cv, u, b, _, rfl, k, hR.sub _ _ h1, hk, hp.val hR (Is.bl b)⟩
    · exact False.elim hp
  · exact False.elim hp
end
end DN

end
section
set_option Elab.async false
set_option linter.all false
set_option maxRecDepth 100000
set_option maxHeartbeats 4000000
/-! E3: dicts whose keys are tuples (of texts, whole numbers, None and such tuples). -/
namespace DN
open PySem PySem.Spec PyProof.Rows L2
/-! ### keys -/
mutual
def nkOf : P → Option NestedKey
  | .non => some .none
  | .int i => some (.num i)
  | .str x => some (.text x)
  | .tup xs => (nksOf xs).map .tup
  | _ => none
def nksOf : List P → Option (List NestedKey)
  | [] => some []
  | x :: xs => match nkOf x, nksOf xs with
    | some k, some ks => some (k :: ks)
    | _, _ => none
end
mutual
theorem nk_of {p : P} {k : NestedKey} (h : nkOf p = some k) : NK p k := by
  cases p with
  | non => unfold nkOf at h; cases h; exact .non
  | int i => unfold nkOf at h; cases h; exact .int i
  | str x => unfold nkOf at h; cases h; exact .str x
  | tup xs =>
    unfold nkOf at h
    cases e : nksOf xs with
    | none => rw [e] at h; cases h
    | some ks => rw [e] at h; cases h; exact .tup (nks_of e)
  | bl _ => unfold nkOf at h; cases h
  | lst _ => unfold nkOf at h; cases h
  | ins _ _ => unfold nkOf at h; cases h
  | dk _ => unfold nkOf at h; cases h
  | dn _ => unfold nkOf at h; cases h
  | set _ => unfold nkOf at h; cases h
  | exn _ _ => unfold nkOf at h; cases h
  | scr _ => unfold nkOf at h; cases h
theorem nks_of {ps : List P} {ks : List NestedKey} (h : nksOf ps = some ks) : NKs ps ks := by
  cases ps with
  | nil => unfold nksOf at h; cases h; exact .nil
  | cons p ps =>
    unfold nksOf at h
    cases e1 : nkOf p with
    | none => rw [e1] at h; cases h
    | some k =>
      cases e2 : nksOf ps with
      | none => rw [e1, e2] at h; cases h
      | some ks2 => rw [e1, e2] at h; cases h; exact .cons (nk_of e1) (nks_of e2)
end
mutual
theorem of_nk {p : P} {k : NestedKey} (h : NK p k) : nkOf p = some k := by
  cases h with
  | non => unfold nkOf; rfl
  | int i => unfold nkOf; rfl
  | str x => unfold nkOf; rfl
  | tup h => unfold nkOf; rw [of_nks h]; rfl
theorem of_nks {ps : List P} {ks : List NestedKey} (h : NKs ps ks) : nksOf ps = some ks := by
  cases h with
  | nil => unfold nksOf; rfl
  | cons h t => unfold nksOf; rw [of_nk h, of_nks t]
end
-- the key as a value in the ledger H
mutual
inductive NKV (K : PySem.W.Frag) (H : Hp) : V → NestedKey → Prop where
  | non : NKV K H .non .none
  | int (i : Int) : NKV K H (.int i) (.num i)
  | str (x : Str) : NKV K H (.str x) (.text x)
  | tup {a : Addr} {vs : List V} {ks : List NestedKey} : SqT K H a vs → NKVs K H vs ks → NKV K H (.ref a) (.tup ks)
inductive NKVs (K : PySem.W.Frag) (H : Hp) : List V → List NestedKey → Prop where
  | nil : NKVs K H [] []
  | cons {v : V} {k : NestedKey} {vs : List V} {ks : List NestedKey} : NKV K H v k → NKVs K H vs ks → NKVs K H (v :: vs) (k :: ks)
end
mutual
theorem nkv_of {g : G} {F H : Hp} (s : Sub F H) {v : V} {p : P} {k : NestedKey} (h : Is g F v p) (n : NK p k) : NKV g.K H v k := by
  cases n with
  | non => rw [Is.inv_non h]; exact .non
  | int i => rw [Is.inv_int h]; exact .int i
  | str x => rw [Is.inv_str h]; exact .str x
  | tup n =>
    obtain ⟨a, vs, rfl, h1, h2⟩ := Is.inv_tup h
    exact .tup (s.sqT h1) (nkvs_of s h2 n)
theorem nkvs_of {g : G} {F H : Hp} (s : Sub F H) {vs : List V} {ps : List P} {ks : List NestedKey} (h : IsA g F vs ps) (n : NKs ps ks) : NKVs g.K H vs ks := by
  cases n with
  | nil => cases h; exact .nil
  | cons n t => cases h with | cons h1 h2 => exact .cons (nkv_of s h1 n) (nkvs_of s h2 t)
end
section
variable {X : Cx} {pins : List (Addr × Obj)} {σ : L2.St} {H : Hp} {s : Shared}
mutual
theorem nkv_is (I : Inv X pins σ H s) {v : V} {k : NestedKey} {u : Value} (h : NKV X.K H v k) (r : RelV v u) : NestedIs s.heap k u := by
  cases h with
  | non => cases (show u = Value.none from r); exact .none
  | int i => obtain ⟨t, q⟩ := (show ∃ t, u = Value.int i t from r); cases q; exact .int i t
  | str x => obtain ⟨t, q⟩ := (show ∃ t, u = Value.str x t from r); cases q; exact .text x t
  | @tup a vs ks h1 h2 =>
    cases (show u = Value.ref a from r)
    obtain ⟨its, rv, ⟨o, e1, e2, n, e3⟩, _⟩ := I.tuple h1
    exact .tup e1 e2 e3 (nkvs_is I h2 rv)
theorem nkvs_is (I : Inv X pins σ H s) {vs : List V} {ks : List NestedKey} {us : List Value} (h : NKVs X.K H vs ks) (r : Vals vs us) : NestedAll s.heap ks us := by
  cases h with
  | nil => cases r; exact .nil
  | cons h1 h2 => cases r with | cons r1 r2 => exact .cons (nkv_is I h1 r1) (nkvs_is I h2 r2)
end
/-! ### the dict at d, by its rows -/
structure DnH (K : PySem.W.Frag) (w : World) (H : Hp) (d : Addr) (rows : List (NestedKey × Addr × Value)) : Prop where
  at_ : H d = some (.ext (DicPhi w d rows))
  sys : (d == sysModules) = false
  nd : (rows.map (·.1)).Nodup
  key : ∀ x ∈ rows, NKV K H (.ref x.2.1) x.1 ∧ x.1.depth ≤ 8
theorem dn_heap {d : Addr} {rows : List (NestedKey × Addr × Value)} (I : Inv X pins σ H s) (h : DnH X.K X.w H d rows) : s.heap.DictOfH (nestedKind X.prog X.w) d rows := by
  obtain ⟨⟨o, es, ep, e1, e2, e3, e4⟩, _, _⟩ := I.hok d _ h.at_
  exact ⟨o, es, ep, e1, e2, e3, e4, fun x hx => ⟨nkv_is I (h.key x hx).1 rfl, (h.key x hx).2⟩, h.nd⟩
theorem dn_room (hu : X.A.units + 65 < cLine) : (nestedKind X.prog X.w).room X.A.in1 := by
  show X.A.in1.units + 8 < cLine
  have : X.A.in1.units = X.A.units + 1 := rfl
  omega
/-- a key at a -/
def KeyAt (K : PySem.W.Frag) (H : Hp) (x : V) (k : NestedKey) : Prop := ∃ a, x = .ref a ∧ NKV K H x k ∧ k.depth ≤ 8
def rDnIn (K : PySem.W.Frag) (w : World) (neg : Bool) : R2 := fun x y H Q => ∃ d rows k, y = .ref d ∧ KeyAt K H x k ∧ DnH K w H d rows ∧ Q (.bl (xor neg (atKey rows k).isSome)) H
theorem op_dnIn (hu : X.A.units + 65 < cLine) : OpR X (compareOp .In) (rDnIn X.K X.w false) := by
  intro pins s σ H x y v u Q I rx ry h
  obtain ⟨d, rows, k, rfl, ⟨a, rfl, hk, hd⟩, D, q⟩ := h
  cases (show u = Value.ref d from ry)
  cases (show v = Value.ref a from rx)
  exact wpAny_in_heap (knd := nestedKind X.prog X.w) (dn_room hu) ⟨nkv_is I hk rfl, hd⟩ D.sys (dn_heap I D) ⟨.bl (atKey rows k).isSome, H, I.tok _, rfl, by simpa using q⟩
theorem op_dnNin (hu : X.A.units + 65 < cLine) : OpR X (compareOp .NotIn) (rDnIn X.K X.w true) := by
  intro pins s σ H x y v u Q I rx ry h
  obtain ⟨d, rows, k, rfl, ⟨a, rfl, hk, hd⟩, D, q⟩ := h
  cases (show u = Value.ref d from ry)
  cases (show v = Value.ref a from rx)
  refine notIn_keyed (knd := nestedKind X.prog X.w) (kvs := pairsH rows) (dn_room hu) ⟨nkv_is I hk rfl, hd⟩ D.sys ⟨rows, dn_heap I D, rfl⟩ ?_
  rw [valueAt_pairsH, Option.isSome_map]
  exact ⟨.bl (!(atKey rows k).isSome), H, I.tok _, rfl, by simpa using q⟩
def rDnIx (K : PySem.W.Frag) (w : World) : R2 := fun x y H Q => ∃ d rows k b u v, x = .ref d ∧ KeyAt K H y k ∧ DnH K w H d rows ∧ atKey rows k = some (b, u) ∧ RelV v u ∧ Q v H
theorem ix_dn (hu : X.A.units + 65 < cLine) : IxR X (rDnIx X.K X.w) := by
  intro value slice pins s σ H x y v u Q I rx ry h hs
  obtain ⟨d, rows, k, b, z, w, rfl, ⟨a, rfl, hk, hd⟩, D, e, r, q⟩ := h
  cases (show u = Value.ref a from ry)
  cases (show v = Value.ref d from rx)
  have hm := dn_heap I D
  exact subscriptTail_builtinR (x := z) hm.typeIs PySem.F.slot_dict_getitem.lookup (wpAny_getItem_heap (knd := nestedKind X.prog X.w) (Q := fun r s' => r = z ∧ EP X pins σ Q r s') (dn_room hu) ⟨nkv_is I hk rfl, hd⟩ hm e ⟨rfl, w, H, I.tok _, r, q⟩) hs
/-- o[k] = v -/
def rDnSet (K : PySem.W.Frag) (w : World) : TSet := fun o i v H Q => ∃ d rows k a, o = .ref d ∧ i = .ref a ∧ NKV K H i k ∧ k.depth ≤ 8 ∧ DnH K w H d rows ∧ rows.length < sizeLine ∧ ∀ u, RelV v u → Q (upd H d (.ext (DicPhi w d (storedH rows k a u))))
theorem dn_write {d : Addr} {rows rows2 : List (NestedKey × Addr × Value)} {h' : Heap} {t : Nat} (I : Inv X pins σ H s) (D : DnH X.K X.w H d rows) (hm : h'.DictOfH (nestedKind X.prog X.w) d rows2) (hs : Heap.SameBut d s.heap h') : Inv X pins σ (upd H d (.ext (DicPhi X.w d rows2))) { s with heap := h', toks := t } := by
  obtain ⟨o, es, ep, e1, e2, e3, e4, _⟩ := id hm
  refine I.write (x := d) (e := d) (by rw [D.at_]; exact True.intro) (.inl rfl) (fun b u hb q => (hs.2 b hb).trans q) ⟨o, e1⟩ ?_
  exact ⟨⟨o, es, ep, e1, e2, e3, e4⟩, ⟨o, e1⟩, fun h1 h2 z k => let ⟨o, es, ep, q1, q2⟩ := z; ⟨o, es, ep, k _ q1, q2⟩⟩
theorem set_dn (hu : X.A.units + 65 < cLine) : PSet X (rDnSet X.K X.w) := by
  intro pins s σ H o i v ov iv u Q I ro ri rv h
  obtain ⟨d, rows, k, a, rfl, rfl, hk, hd, D, hl, q⟩ := h
  cases (show ov = Value.ref d from ro)
  cases (show iv = Value.ref a from ri)
  exact wpAny_setItem_heap (knd := nestedKind X.prog X.w) (hsz := Nat.le_of_lt hl) (dn_room hu) ⟨nkv_is I hk rfl, hd⟩ (dn_heap I D) fun h' hm hs => ⟨_, dn_write I D hm hs, q u rv⟩
end

/-! ### the rows and their data -/
abbrev RowR (g : G) (F : Hp) (x : NestedKey × Addr × Value) (y : P × P) : Prop := NK y.1 x.1 ∧ x.1.depth ≤ 8 ∧ Is g F (.ref x.2.1) y.1 ∧ ∃ v, RelV v x.2.2 ∧ Is g F v y.2
def isKey (k : NestedKey) (e : P × P) : Bool := match nkOf e.1 with
  | some k' => decide (k' = k)
  | none => false
def lookN (es : List (P × P)) (k : NestedKey) : Option P := (es.find? (isKey k)).map (·.2)
def storeN (es : List (P × P)) (k : NestedKey) (p v : P) : List (P × P) := match lookN es k with
  | some _ => es.map fun e => if isKey k e = true then (e.1, v) else e
  | none => es ++ [(p, v)]
section
variable {g : G} {F : Hp}
theorem row_key {k : NestedKey} {x : NestedKey × Addr × Value} {y : P × P} (h : RowR g F x y) : isKey k y = decide (x.1 = k) := by
  unfold isKey
  rw [of_nk h.1]
theorem row_look {k : NestedKey} : ∀ {rows : List (NestedKey × Addr × Value)} {es : List (P × P)}, Paired (RowR g F) rows es → (lookN es k = none ∧ atKey rows k = none) ∨ ∃ p b u v, lookN es k = some p ∧ atKey rows k = some (b, u) ∧ RelV v u ∧ Is g F v p
  | _, _, .nil => .inl ⟨rfl, rfl⟩
  | x :: rows, y :: es, .cons h t => by
    have hk := row_key (k := k) h
    unfold lookN atKey
    rw [List.find?_cons, List.find?_cons, hk]
    by_cases e : x.1 = k
    · rw [decide_eq_true e]
      obtain ⟨_, _, _, v, h1, h2⟩ := h
      exact .inr ⟨y.2, x.2.1, x.2.2, v, rfl, rfl, h1, h2⟩
    · rw [decide_eq_false e]
      exact row_look t
theorem row_map {k : NestedKey} {v : V} {u : Value} {p : P} (r : RelV v u) (hv : Is g F v p) : ∀ {rows : List (NestedKey × Addr × Value)} {es : List (P × P)}, Paired (RowR g F) rows es → Paired (RowR g F) (rows.map (putAt k u)) (es.map fun e => if isKey k e = true then (e.1, p) else e)
  | _, _, .nil => .nil
  | x :: rows, y :: es, .cons h t => by
    refine .cons ?_ (row_map r hv t)
    show RowR g F (putAt k u x) (if isKey k y = true then (y.1, p) else y)
    rw [row_key (k := k) h]
    unfold putAt
    by_cases e : x.1 = k
    · rw [if_pos e, decide_eq_true e, if_pos rfl]
      exact ⟨h.1, h.2.1, h.2.2.1, v, r, hv⟩
    · rw [if_neg e, decide_eq_false e, if_neg Bool.false_ne_true]
      exact h
theorem row_store {k : NestedKey} {a : Addr} {v : V} {u : Value} {q p : P} (hk : NK q k) (hd : k.depth ≤ 8) (hq : Is g F (.ref a) q) (r : RelV v u) (hv : Is g F v p) {rows : List (NestedKey × Addr × Value)} {es : List (P × P)} (h : Paired (RowR g F) rows es) :
    Paired (RowR g F) (storedH rows k a u) (storeN es k q p) := by
  unfold storeN
  rcases row_look (k := k) h with ⟨e1, e2⟩ | ⟨p', b, u', v', e1, e2, _⟩
  · rw [e1, storedH_new e2]
    have app : ∀ {rows : List (NestedKey × Addr × Value)} {es : List (P × P)}, Paired (RowR g F) rows es → Paired (RowR g F) (rows ++ [(k, a, u)]) (es ++ [(q, p)]) := by
      intro rows es h
      induction h with
      | nil => exact .cons ⟨hk, hd, hq, v, r, hv⟩ .nil
      | cons h t ih => exact .cons h ih
    exact app h
  · rw [e1, storedH_old e2]
    exact row_map r hv h
theorem row_nodup {k : NestedKey} {a : Addr} {u : Value} {rows : List (NestedKey × Addr × Value)} (nd : (rows.map (·.1)).Nodup) : ((storedH rows k a u).map (·.1)).Nodup := by
  cases e : atKey rows k with
  | none =>
    rw [storedH_new e, List.map_append, List.nodup_append]
    refine ⟨nd, by simp, fun x hx y hy => ?_⟩
    have hy' : y = k := by simpa using hy
    rw [hy']
    intro z
    rw [z] at hx
    obtain ⟨w, hw, ew⟩ := List.mem_map.mp hx
    have : (rows.find? fun x => decide (x.1 = k)) ≠ none := fun z2 => by
      have := List.find?_eq_none.mp z2 w hw
      rw [ew] at this
      simp at this
    unfold atKey at e
    exact this (Option.map_eq_none_iff.mp e)
  | some p =>
    rw [storedH_old e, keys_map_putAt]
    exact nd
/-- a key's data: a tuple, not too deep -/
def keyD : D → Option NestedKey
  | .v (.tup xs) => match nkOf (.tup xs) with
    | some k => if k.depth ≤ 8 then some k else none
    | none => none
  | _ => none
theorem keyD_at {ρ : Nat → Addr} {L : List MO} {H : Hp} {x : V} {d : D} {k : NestedKey} (hR : R g F ρ L H) (hx : IsD g F ρ L.length x d) (h : keyD d = some k) : ∃ a p, d = .v p ∧ x = .ref a ∧ NK p k ∧ NKV g.K H x k ∧ k.depth ≤ 8 ∧ Is g F x p := by
  unfold keyD at h
  split at h
  · rename_i xs
    split at h
    · rename_i k' e
      split at h
      · rename_i hd
        cases h
        have hx' : Is g F x (.tup xs) := hx
        obtain ⟨a, vs, ex, h1, h2⟩ := Is.inv_tup hx'
        exact ⟨a, _, rfl, ex, nk_of e, nkv_of hR.sub hx' (nk_of e), hd, hx'⟩
      · cases h
    · cases h
  · cases h
theorem dn_at {ρ : Nat → Addr} {L : List MO} {H : Hp} {n : Nat} {es : List (P × P)} (hR : R g F ρ L H) (e : L[n]? = some (.dn es)) : ∃ rows, DnH g.K g.w H (ρ n) rows ∧ Paired (RowR g F) rows es := by
  obtain ⟨_, rows, h1, h2, h3, h4⟩ := hR.ent n _ e (by intro z; cases z)
  refine ⟨rows, ⟨h1, h2, h3, ?_⟩, h4⟩
  have : ∀ {rows : List (NestedKey × Addr × Value)} {es : List (P × P)}, Paired (RowR g F) rows es → ∀ x ∈ rows, NKV g.K H (.ref x.2.1) x.1 ∧ x.1.depth ≤ 8 := by
    intro rows es h
    induction h with
    | nil => intro x hx; cases hx
    | cons h t ih =>
      intro x hx
      rcases List.mem_cons.mp hx with z | hx
      · rw [z]; exact ⟨nkv_of hR.sub h.2.2.1 h.1, h.2.1⟩
      · exact ih x hx
  exact this h4
/-! ### in, d[k], d[k] = v -/
def dnAt (L : List MO) : D → Option (List (P × P))
  | .r n => match L[n]? with
    | some (.dn es) => some es
    | _ => none
  | _ => none
theorem dnAt_at {ρ : Nat → Addr} {L : List MO} {H : Hp} {x : V} {d : D} {es : List (P × P)} (hR : R g F ρ L H) (hx : IsD g F ρ L.length x d) (h : dnAt L d = some es) : ∃ n rows, d = .r n ∧ L[n]? = some (.dn es) ∧ x = .ref (ρ n) ∧ DnH g.K g.w H (ρ n) rows ∧ Paired (RowR g F) rows es := by
  unfold dnAt at h
  split at h
  · rename_i n
    split at h
    · rename_i es' e
      cases h
      obtain ⟨rows, h1, h2⟩ := dn_at hR e
      exact ⟨n, rows, rfl, e, hx.2, h1, h2⟩
    · cases h
  · cases h
def inA (neg : Bool) : D → D → M D := fun x y L => match dnAt L y with
  | some es => match keyD x with
    | some k => some (.ok (.v (.bl (xor neg (lookN es k).isSome))), L)
    | none => none
  | none => inD neg x y L
theorem opd_inA {K : PySem.W.Frag} {w : World} {neg : Bool} (hK : K = g.K) (hw : w = g.w) : OpD g (inA neg) (fun x y H Q => (rInD2 K neg x y H Q ∨ rInS2 neg x y H Q) ∨ rDnIn K w neg x y H Q) := by
  subst hK
  subst hw
  intro F ρ L H x y d e W Q hR hx hy hp
  unfold inA at hp
  match e1 : dnAt L e with
  | none =>
    rw [e1] at hp
    exact .inl (opd_in rfl F ρ L H x y d e W Q hR hx hy hp)
  | some es =>
    rw [e1] at hp
    dsimp only at hp
    match e2 : keyD d with
    | none => rw [e2] at hp; exact False.elim hp
    | some k =>
      rw [e2] at hp
      dsimp only at hp
      obtain ⟨n, rows, _, _, ey, D, pr⟩ := dnAt_at hR hy e1
      obtain ⟨a, p, _, ex, _, h1, h2, _⟩ := keyD_at hR hx e2
      refine .inr ⟨ρ n, rows, k, ey, ⟨a, ex, h1, h2⟩, D, ?_⟩
      rcases row_look (k := k) pr with ⟨q1, q2⟩ | ⟨p', b, u', v', q1, q2, _⟩
      · rw [q2]
        rw [q1] at hp
        exact hp.val hR (Is.bl _)
      · rw [q2]
        rw [q1] at hp
        exact hp.val hR (Is.bl _)
def ixA : D → D → M D := fun x y L => match dnAt L x with
  | some es => match (keyD y).bind (lookN es) with
    | some p => some (.ok (.v p), L)
    | none => none
  | none => ixD x y L
theorem opd_ixA {K : PySem.W.Frag} {w : World} (hK : K = g.K) (hw : w = g.w) : OpD g ixA (fun x y H Q => rIx K x y H Q ∨ rDnIx K w x y H Q) := by
  subst hK
  subst hw
  intro F ρ L H x y d e W Q hR hx hy hp
  unfold ixA at hp
  match e1 : dnAt L d with
  | none =>
    rw [e1] at hp
    exact .inl (opd_ix rfl F ρ L H x y d e W Q hR hx hy hp)
  | some es =>
    rw [e1] at hp
    dsimp only at hp
    match e2 : keyD e with
    | none => rw [e2] at hp; exact False.elim hp
    | some k =>
      rw [e2] at hp
      obtain ⟨n, rows, _, _, ex, D, pr⟩ := dnAt_at hR hx e1
      obtain ⟨a, p, _, ey, _, h1, h2, _⟩ := keyD_at hR hy e2
      rcases row_look (k := k) pr with ⟨q1, q2⟩ | ⟨p', b, u', v', q1, q2, q3, q4⟩
      · dsimp only [Option.bind] at hp
        rw [q1] at hp
        exact False.elim hp
      · dsimp only [Option.bind] at hp
        rw [q1] at hp
        exact .inr ⟨ρ n, rows, k, b, u', v', ex, ⟨a, ey, h1, h2⟩, D, q2, q3, hp.val hR q4⟩
/-- o[i] = v -/
def setA : D → D → D → M Unit := fun o i v L => match o, v with
  | .r n, .v p => match L[n]? with
    | some (.lst xs) => match i with
      | .v (.int k) => (ixN xs.length k).map fun j => (.ok (), L.set n (.lst (xs.set j p)))
      | _ => none
    | some (.dn es) => match i, keyD i with
      | .v q, some k => if es.length < sizeLine then some (.ok (), L.set n (.dn (storeN es k q p))) else none
      | _, _ => none
    | _ => none
  | _, _ => none
def rSetA (K : PySem.W.Frag) (w : World) : TSet := fun o i v H Q => rSetL o i v H Q ∨ rDnSet K w o i v H Q
theorem isA_set {vs : List V} {ps : List P} (h : IsA g F vs ps) {v : V} {p : P} (hv : Is g F v p) : ∀ j : Nat, IsA g F (vs.set j v) (ps.set j p) := by
  induction vs generalizing ps with
  | nil => intro j; cases h; exact .nil
  | cons a vs ih =>
    intro j
    cases h with
    | cons h t =>
      cases j with
      | zero => exact .cons hv t
      | succ j => exact .cons h (ih t j)
theorem setA_ok {ρ : Nat → Addr} {L : List MO} {H : Hp} {o i v : V} {d e f : D} {K : PySem.W.Frag} {w : World} {Q : Hp → Prop} {Wq : Value → Option Addr → Hp → Prop} (hK : K = g.K) (hw : w = g.w) (hR : R g F ρ L H) (ho : IsD g F ρ L.length o d) (hi : IsD g F ρ L.length i e) (hv : IsD g F ρ L.length v f)
    (hp : Post g relU F ρ L.length Wq (fun _ H' => Q H') (setA d e f L)) : rSetA K w o i v H Q := by
  subst hK
  subst hw
  unfold setA at hp
  split at hp
  · rename_i n p
    split at hp
    · rename_i xs eL
      split at hp
      · rename_i k
        cases ej : ixN xs.length k with
        | none => rw [ej] at hp; exact False.elim hp
        | some j =>
          rw [ej] at hp
          obtain ⟨vs, h1, h2⟩ := hR.lstAt eL
          have e1 : (L.set n (MO.lst (xs.set j p))).length = L.length := by rw [List.length_set]
          refine .inl ⟨ρ n, vs, k, j, ho.2, Is.inv_int hi, h1, by rw [h2.len]; exact ej, ?_⟩
          exact hp F ρ () _ (by rw [e1]; exact Ext.refl) (hR.put eL (by intro z; cases z) _ _ ⟨_, upd_same, isA_set h2 hv j⟩) trivial
      · exact False.elim hp
    · rename_i es eL
      split at hp
      · rename_i q k ek
        split at hp
        · rename_i hl
          obtain ⟨rows, D, pr⟩ := dn_at hR eL
          obtain ⟨a, p', eq, ei, nk, h1, h2, h3⟩ := keyD_at hR hi ek
          cases eq
          have e1 : (L.set n (MO.dn (storeN es k q p))).length = L.length := by rw [List.length_set]
          refine .inr ⟨ρ n, rows, k, a, ho.2, ei, h1, h2, D, by rw [prd_len pr]; exact hl, fun u r => ?_⟩
          rw [ei] at h3
          refine hp F ρ () _ (by rw [e1]; exact Ext.refl) (hR.put eL (by intro z; cases z) _ _ ⟨_, upd_same, D.sys, row_nodup D.nd, row_store nk h2 h3 r hv pr⟩) trivial
        · exact False.elim hp
      · exact False.elim hp
    · exact False.elim hp
  · exact False.elim hp
end
end DN

end
section
set_option Elab.async false
set_option linter.all false
set_option maxRecDepth 100000
set_option maxHeartbeats 4000000
/-! E4: in, subscripts, stores for lists, texts, dicts; {}; isinstance; join, index; len of own classes. -/
namespace DN
open PySem PySem.Spec PyProof.Rows L2
section
variable {X : Cx} {g : G} {W : WX} {a b c e o : Expr} {fa fb fc f : Tau → M D} {p pos apos : Pos} {es : List Expr} {fs : Tau → M (List D)} {k n : Nat} {fn : List D → M D}
theorem de_inA (hK : X.K = g.K) (hw : X.w = g.w) (hu : X.A.units + 65 < cLine) (hm : behindInMarks .In b = false) (ha : PE X a (tE g W fa)) (hb : PE X b (tE g W fb)) : PE X (.Compare a [.In] [b] pos) (tE g W (bin (inA false) fa fb)) := de_cmp (((op_in2 hu).or op_inS2).or (op_dnIn hu)) (opd_inA hK hw) ha hb hm
theorem de_ninA (hK : X.K = g.K) (hw : X.w = g.w) (hu : X.A.units + 65 < cLine) (hm : behindInMarks .NotIn b = false) (ha : PE X a (tE g W fa)) (hb : PE X b (tE g W fb)) : PE X (.Compare a [.NotIn] [b] pos) (tE g W (bin (inA true) fa fb)) := de_cmp (((op_nin2 hu).or op_ninS2).or (op_dnNin hu)) (opd_inA hK hw) ha hb hm
theorem dt_inA (hK : X.K = g.K) (hw : X.w = g.w) (hu : X.A.units + 65 < cLine) (hm : behindInMarks .In b = false) (ha : PE X a (tE g W fa)) (hb : PE X b (tE g W fb)) : PT X (.Compare a [.In] [b] pos) (tT g W (tstD (bin (inA false) fa fb))) := dt_cmp (((op_in2 hu).or op_inS2).or (op_dnIn hu)) (opd_inA hK hw) ha hb hm
theorem dt_ninA (hK : X.K = g.K) (hw : X.w = g.w) (hu : X.A.units + 65 < cLine) (hm : behindInMarks .NotIn b = false) (ha : PE X a (tE g W fa)) (hb : PE X b (tE g W fb)) : PT X (.Compare a [.NotIn] [b] pos) (tT g W (tstD (bin (inA true) fa fb))) := dt_cmp (((op_nin2 hu).or op_ninS2).or (op_dnNin hu)) (opd_inA hK hw) ha hb hm
theorem de_ixA (hK : X.K = g.K) (hw : X.w = g.w) (hu : X.A.units + 65 < cLine) (ha : PE X a (tE g W fa)) (hb : PE X b (tE g W fb)) (hs : PlainIx b) : PE X (.Subscript a b pos) (tE g W (bin ixA fa fb)) := by
  refine PE.weak (pe_ix (ix_seq.or (ix_dn hu)) ha hb hs) fun σ H Q h => ?_
  refine (Sat.bindV h).mono fun x H1 h1 => ?_
  obtain ⟨d, h1⟩ := h1
  refine (Sat.bindV h1).mono fun y H2 h2 => ?_
  obtain ⟨e, F, ρ, τ, L, hR, hS, hc, hp⟩ := h2
  exact opd_ixA hK hw F ρ L H2 x y d e _ Q hR (hc (x, d) (by simp)) (hc (y, e) (by simp)) hp
/-! ### o[i] = v -/
theorem pset_or {t t' : TSet} (h : PSet X t) (h' : PSet X t') : PSet X (fun o i v H Q => t o i v H Q ∨ t' o i v H Q) := fun pins s σ H o i v ov iv u Q I ro ri rv q => q.elim (h pins s σ H o i v ov iv u Q I ro ri rv) (h' pins s σ H o i v ov iv u Q I ro ri rv)
theorem ps_setR {i value : Expr} {to ti tv : TE} {t : TSet} {p2 : Pos} (hs : PSet X t) (ho : PE X o to) (hi : PE X i ti) (hv : PE X value tv) (hw : swapsWith value (some (.Subscript o i p2)) pos.line X.env = pure false) :
    PS X (.Assign [.Subscript o i p2] value pos) (fun D σ H => tv σ H fun v H1 => to σ H1 fun x H2 => ti σ H2 fun y H3 => t x y v H3 fun H' => D.nx σ H') := by
  refine ⟨fun pins s σ H D I h => ?_⟩
  refine wpAny_Assign_Subscript (thn (hv.run pins s σ H _ I h) fun r s1 h1 => ?_) hw
  obtain ⟨v, H1, I1, rv, q1⟩ := h1
  refine thn (ho.run pins s1 σ H1 _ I1 q1) fun u s2 h2 => ?_
  obtain ⟨x, H2, I2, rx, q2⟩ := h2
  refine thn (hi.run pins s2 σ H2 _ I2 q2) fun iv s3 h3 => ?_
  obtain ⟨y, H3, I3, ry, q3⟩ := h3
  exact thn (hs pins s3 σ H3 x y v u iv r _ I3 rx ry rv q3) fun _ s4 ⟨H4, I4, q4⟩ => ⟨σ, H4, I4, q4⟩
def unitS (m : M Unit) : SX := fun τ L => match m L with
  | none => none
  | some (.ok _, L1) => some (.nx τ, L1)
  | some (.ex c fs, L1) => some (.ex τ c fs, L1)
theorem unit_post {F : Hp} {ρ : Nat → Addr} {n : Nat} {m : M Unit} {τ : Tau} {L : List MO} {E : Ends} {σ : L2.St} (hS : Sl g F ρ n σ τ) (hp : PostS g F ρ n W E (unitS m τ L)) : Post g relU F ρ n (fun _ _ _ => True) (fun _ H' => E.nx σ H') (m L) := by
  unfold unitS at hp
  match e : m L with
  | none => rw [e] at hp; exact hp
  | some (.ok u, L1) => rw [e] at hp; exact fun F' ρ' b H' x1 x2 _ => hp F' ρ' H' σ x1 x2 (hS.ext x1)
  | some (.ex c fs, L1) => exact fun _ _ _ _ _ _ _ _ _ _ => trivial
def setIS (fo fi fv : Tau → M D) : SX := eThen fv fun v => eThen fo fun x => eThen fi fun y => unitS (setA x y v)
theorem ds_setI {i value : Expr} {fo fi fv : Tau → M D} {p2 : Pos} (hK : X.K = g.K) (hw : X.w = g.w) (hu : X.A.units + 65 < cLine) (ho : PE X o (tE g W fo)) (hi : PE X i (tE g W fi)) (hv : PE X value (tE g W fv)) (hsw : swapsWith value (some (.Subscript o i p2)) pos.line X.env = pure false := by rfl) :
    PS X (.Assign [.Subscript o i p2] value pos) (tS g W (setIS fo fi fv)) := by
  refine PS.weak (ps_setR (pset_or set_list (set_dn hu)) ho hi hv hsw) fun D σ H h => ?_
  refine (SatS.bindV h).mono fun v H1 h1 => ?_
  obtain ⟨dv, h1⟩ := h1
  refine (SatS.bindV h1).mono fun x H2 h2 => ?_
  obtain ⟨dx, h2⟩ := h2
  refine (SatS.bindV h2).mono fun y H3 h3 => ?_
  obtain ⟨dy, F, ρ, τ, L, hR, hS, hc, hp⟩ := h3
  refine setA_ok hK hw hR (hc (x, dx) (by simp)) (hc (y, dy) (by simp)) (hc (v, dv) (by simp)) (Wq := fun _ _ _ => True) ?_
  exact unit_post hS hp
/-! ### {} -/
def dnNew (_ : Tau) : M D := fun L => some (.ok (.r L.length), L ++ [.dn []])
theorem pe_dn0 : PE X (.Dict [] [] pos) (fun _ H Q => ∀ p, H p = none → (p == sysModules) = false → Q (.ref p) (upd H p (.ext (DicPhi X.w p [])))) := ⟨fun pins s σ H Q I h => by
  have hp : H s.heap.objs.size = none := I.hok.fresh (Nat.le_refl _)
  have e : (s.heap.push { cls := .type "dict", data := .dict #[] }).get? s.heap.objs.size = some { cls := .type "dict", data := .dict #[] } := Heap.get?_push_size _ rfl
  refine wpAny_Dict_empty ⟨.ref s.heap.objs.size, _, I.laid (a := s.heap.objs.size) (o := .ext (DicPhi X.w s.heap.objs.size [])) (t' := s.toks) (fun _ _ q => Heap.get?_push_of_some _ q) (Nat.le_refl _) ?_, rfl, h _ hp (beq_eq_false_iff_ne.mpr (Ne.symm (Nat.ne_of_lt I.big)))⟩
  exact ⟨⟨_, #[], 0, e, ⟨rfl, rfl, rfl⟩, rfl, rfl⟩, ⟨_, e⟩, fun h1 h2 z k => let ⟨o, es, ep, q1, q2⟩ := z; ⟨o, es, ep, k _ q1, q2⟩⟩⟩
theorem de_dn0 (hw : X.w = g.w) : PE X (.Dict [] [] pos) (tE g W dnNew) := PE.weak pe_dn0 fun σ H Q h => by
  obtain ⟨F, ρ, τ, L, hR, hS, hc, hp⟩ := h
  intro p hp0 hs
  have e1 : (L ++ [MO.dn []]).length = L.length + 1 := by rw [List.length_append, List.length_singleton]
  refine hp F (rput ρ L.length p) (.ref p) _ (by rw [e1]; exact Ext.new) (hR.new hp0 _ (.dn []) ⟨[], by rw [hw]; exact upd_same, hs, List.nodup_nil, .nil⟩) ?_
  exact ⟨by rw [e1]; exact Nat.lt_succ_self _, by rw [rput_new]⟩
/-! ### isinstance -/
inductive Tg where
  | non | bl | int | str | lst | tup | ins (c : Nat)
def tagOf (L : List MO) : D → Option Tg
  | .v .non => some .non
  | .v (.bl _) => some .bl
  | .v (.int _) => some .int
  | .v (.str _) => some .str
  | .v (.tup _) => some .tup
  | .v (.ins c _) => some (.ins c)
  | .v (.lst _) => some .lst
  | .v (.scr _) => some .lst
  | .r n => match L[n]? with
    | some (.lst _) => some .lst
    | some (.ins c _) => some (.ins c)
    | _ => none
  | _ => none
def tgV (g : G) : Tg → Value
  | .non => .type "NoneType"
  | .bl => .type "bool"
  | .int => .type "int"
  | .str => .type "str"
  | .lst => .type "list"
  | .tup => .type "tuple"
  | .ins c => .ref (g.cl c)
structure IsiC (K : PySem.W.Frag) (C : Addr) : Prop where
  ha : PySem.W.findIn K (.ref C) "__class__" = some (some (.builtin "object.__class__"))
  hn : PySem.W.specialIn K (.builtin "object.__class__") "__get__" = some (some (.builtin "getset_descriptor.__get__"))
  ht : PySem.W.takesIn K (.builtin "object.__class__") = some true
  hm : PySem.W.mroIn K C (.type "object") = some true
theorem lst_tyx {K : PySem.W.Frag} {H : Hp} {a : Addr} {vs : List V} (h : SqL K H a vs) : TyX K H (.ref a) (.type "list") := by
  rcases h with (h | ⟨o, h⟩) | h
  · exact .base (.lst h)
  · exact .base (.frz h)
  · obtain ⟨o, its, n, e, q, _⟩ := h
    exact .kList e q
theorem tup_tyx {K : PySem.W.Frag} {H : Hp} {a : Addr} {vs : List V} (h : SqT K H a vs) : TyX K H (.ref a) (.type "tuple") := by
  rcases h with (h | ⟨o, h⟩) | h
  · exact .base (.tup h)
  · exact .fTuple h
  · obtain ⟨o, its, n, e, q, _⟩ := h
    exact .kTuple e q
theorem tag_at {F : Hp} {ρ : Nat → Addr} {L : List MO} {H : Hp} {x : V} {d : D} {t : Tg} (hI : ∀ c, t = .ins c → IsiC g.K (g.cl c)) (hR : R g F ρ L H) (hx : IsD g F ρ L.length x d) (h : tagOf L d = some t) : TyX g.K H x (tgV g t) := by
  have ins : ∀ c a dx fs, t = .ins c → x = .ref a → H a = some (.ins (g.cl c) dx fs) → Cls g.K (g.cl c) → TyX g.K H x (tgV g t) := fun c a dx fs et ex e cl => by
    subst et
    subst ex
    have T := hI c rfl
    exact .base (.ins e cl T.ha T.hn T.ht T.hm)
  cases d with
  | r n =>
    unfold tagOf at h
    dsimp only at h
    split at h
    · rename_i xs e
      cases h
      obtain ⟨vs, h1, _⟩ := hR.lstAt e
      rw [hx.2]
      exact .base (.lst h1)
    · rename_i c fs e
      cases h
      obtain ⟨a, dx, fl, ex, ea, cf, _⟩ := clsOf_at hR hx (show clsOf L (.r n) = some c by unfold clsOf; dsimp only; rw [e])
      exact ins c a dx fl rfl ex ea cf.cls
    · cases h
  | v q =>
    have hx' : Is g F x q := hx
    cases q with
    | non => cases h; rw [Is.inv_non hx']; exact .base .non
    | bl b => cases h; rw [Is.inv_bl hx']; exact .base (.bl b)
    | int i => cases h; rw [Is.inv_int hx']; exact .base (.int i)
    | str z => cases h; rw [Is.inv_str hx']; exact .base (.str z)
    | tup xs =>
      cases h
      obtain ⟨a, vs, ex, h1, _⟩ := Is.inv_tup hx'
      rw [ex]
      exact tup_tyx (hR.sub.sqT h1)
    | lst xs =>
      cases h
      obtain ⟨a, vs, ex, h1, _⟩ := Is.inv_lst hx'
      rw [ex]
      exact .base (.lst (hR.sub _ _ h1))
    | scr ns =>
      cases h
      obtain ⟨a, vs, ex, h1, _⟩ := asL_sq (xs := ns.map P.int) hR hx rfl
      rw [ex]
      exact lst_tyx h1
    | ins c ps =>
      cases h
      obtain ⟨a, dx, fl, ex, ea, cf, _⟩ := clsOf_at hR hx (show clsOf L (.v (.ins c ps)) = some c from rfl)
      exact ins c a dx fl rfl ex ea cf.cls
    | _ => cases h
def isiD (tab : Tg → Option Bool) : D → M D := fun d L => match (tagOf L d).bind tab with
  | some b => some (.ok (.v (.bl b)), L)
  | none => none
theorem de_isi {x : Str} {p2 : Pos} {cv : V} {u : Value} {tab : Tg → Option Bool} (hK : X.K = g.K) (hk : ∀ t b, tab t = some b → PySem.W.kitOne g.K (tgV g t) u = some b) (hI : ∀ c b, tab (.ins c) = some b → IsiC g.K (g.cl c)) (k : ClsV cv u) (he : PE X e (tE g W f)) (hcl : PE X (.Name x p2) (tC cv))
    (hgi : Gl X "isinstance") (hmi : X.mg "isinstance" = none) (hvi : bootBuiltins "isinstance" = some (.builtin "isinstance")) (hst : starEach [e, .Name x p2] X.env = (false, eval e X.env) :: starEach [.Name x p2] X.env := by rfl) (hpl : (backTo pos (starEach [.Name x p2] X.env)).any (·.1) = false := by rfl) :
    PE X (.Call (.Name "isinstance" p) [e, .Name x p2] [] pos) (tE g W (un (isiD tab) f)) := by
  refine PE.weak (pe_callB call_isi hgi hmi hvi (pa_cons he (pa_cons hcl pa_nil) hst) (he := hst) (hpl := hpl)) fun σ H Q h => ?_
  refine (Sat.bindV h).mono fun y H1 h1 => ?_
  obtain ⟨d, F, ρ, τ, L, hR, hS, hcx, hp⟩ := h1
  unfold isiD at hp
  dsimp only at hp
  match et : tagOf L d with
  | none => rw [et] at hp; exact False.elim hp
  | some t =>
    rw [et] at hp
    dsimp only [Option.bind] at hp
    match eb : tab t with
    | none => rw [eb] at hp; exact False.elim hp
    | some b =>
      rw [eb] at hp
      rw [hK]
      exact ⟨y, cv, tgV g t, u, b, rfl, k, tag_at (fun c e => hI c b (by rw [← e]; exact eb)) hR (hcx (y, d) (by simp)) et, hk t b eb, hp.val hR (Is.bl b)⟩
/-! ### join, index -/
def strsOf : List P → Option (List Str)
  | [] => some []
  | .str x :: xs => (strsOf xs).map (x :: ·)
  | _ => none
theorem strs_is {F : Hp} : ∀ {vs : List V} {ps : List P} {ns : List Str}, IsA g F vs ps → strsOf ps = some ns → vs = ns.map V.str
  | _, _, _, .nil, e => by cases e; rfl
  | _, p :: ps, _, .cons h t, e => by
    cases p with
    | str x =>
      unfold strsOf at e
      cases e2 : strsOf ps with
      | none => rw [e2] at e; cases e
      | some ms =>
        rw [e2] at e
        cases e
        rw [Is.inv_str h, strs_is t e2]
        rfl
    | _ => cases e
def joinD : D → List D → M D := fun x ds L => match x, ds with
  | .v (.str a), [y] => match (asS L y).bind strsOf with
    | some ys => if (ys.map (·.length)).sum + ys.length * a.length ≤ 16777216 then some (.ok (.v (.str (Txt.join a ys))), L) else none
    | none => none
  | _, _ => none
theorem md_join {K : PySem.W.Frag} (hK : K = g.K) : MtD g joinD (fun x xs H Q => ∃ a p, ∃ ys : List Str, x = .str a ∧ xs = [.ref p] ∧ (SqL K H p (ys.map V.str) ∨ SqT K H p (ys.map V.str)) ∧ (ys.map (·.length)).sum + ys.length * a.length ≤ 16777216 ∧ Q (.str (Txt.join a ys)) H) := by
  subst hK
  intro F ρ L H x d vs ds W Q hR hx ha hp
  unfold joinD at hp
  split at hp
  · rename_i a y
    obtain ⟨v, rfl, hv⟩ := rel1 ha
    match e1 : asS L y with
    | none => rw [e1] at hp; exact False.elim hp
    | some ps =>
      rw [e1] at hp
      dsimp only [Option.bind] at hp
      match e2 : strsOf ps with
      | none => rw [e2] at hp; exact False.elim hp
      | some ys =>
        rw [e2] at hp
        dsimp only at hp
        split at hp
        · rename_i hz
          obtain ⟨q, us, ev, hs, hi⟩ := asS_sq hR hv e1
          have eu := strs_is hi e2
          subst eu
          refine ⟨a, q, ys, Is.inv_str hx, by rw [ev], ?_, hz, hp.val hR (Is.str _)⟩
          rcases hs with hs | ⟨hs, _⟩
          · exact .inl hs
          · exact .inr hs
        · exact False.elim hp
  · exact False.elim hp
def findD (ds : List PyData) (d : PyData) : Option Nat := ds.findIdx? fun z => PyData.eqv z d
def indexD : D → List D → M D := fun x ds L => match ds with
  | [y] => match dOf L x, dOf L y with
    | some (.list zs), some d => if (SeqAt.shaped (.list zs) && SeqAt.shaped d) = true then (findD zs d).map fun j => (.ok (.v (.int (j : Nat))), L) else none
    | _, _ => none
  | _ => none
theorem find_first {ds : List PyData} {d : PyData} {j : Nat} (h : findD ds d = some j) : ∃ z, ds[j]? = some z ∧ PyData.eqv z d = true ∧ ∀ (m : Nat) (z' : PyData), m < j → ds[m]? = some z' → PyData.eqv z' d = false := by
  unfold findD at h
  obtain ⟨hj, h1, h2⟩ := List.findIdx?_eq_some_iff_getElem.mp h
  refine ⟨ds[j], List.getElem?_eq_getElem hj, h1, fun m z' hm e => ?_⟩
  obtain ⟨hl, ez⟩ := List.getElem?_eq_some_iff.mp e
  have := h2 m hm
  rw [← ez]
  simpa using this
theorem md_index {K : PySem.W.Frag} (hK : K = g.K) : MtD g indexD (rIndexD K) := by
  subst hK
  intro F ρ L H x d vs ds W Q hR hx ha hp
  unfold indexD at hp
  split at hp
  · rename_i y
    obtain ⟨v, rfl, hv⟩ := rel1 ha
    split at hp
    · rename_i zs dd e1 e2
      split at hp
      · rename_i hs
        obtain ⟨s1, s2⟩ := Bool.and_eq_true_iff.mp hs
        match ej : findD zs dd with
        | none => rw [ej] at hp; exact False.elim hp
        | some j =>
          rw [ej] at hp
          obtain ⟨z, q1, q2, q3⟩ := find_first ej
          have hd := dOf_dp hR hx e1
          have ex : ∃ a, x = .ref a := by
            cases d with
            | r n => exact ⟨_, hx.2⟩
            | v q =>
              have e1' : toD q = some (.list zs) := e1
              have hx' : Is g F x q := hx
              cases hx' with
              | lst _ _ => exact ⟨_, rfl⟩
              | scr _ => exact ⟨_, rfl⟩
              | tup _ _ => exact ⟨_, rfl⟩
              | ins _ _ _ _ => exact ⟨_, rfl⟩
              | exn _ _ _ => exact ⟨_, rfl⟩
              | non => simp [toD] at e1'
              | bl b => simp [toD] at e1'
              | int i => simp [toD] at e1'
              | str s => simp [toD] at e1'
          obtain ⟨a, rfl⟩ := ex
          exact ⟨a, v, dd, zs, j, z, rfl, rfl, hd, dOf_dp hR hv e2, s1, s2, q1, q2, q3, hp.val hR (Is.int _)⟩
      · exact False.elim hp
    · exact False.elim hp
  · exact False.elim hp
/-! ### len(o), o of an own class -/
theorem run_sd1 {CX : CXT} {fad : Addr} {fd : FuncData} {ps : List Str} {sp : Sp} {pins : List (Addr × Obj)} {σ : L2.St} {H : Hp} {s : Shared} {Q : VK} {E : XK} {us : List Value} {vs : List V} (FO : FnOk X.prog X.w X.K X.mg X.base CX k fad fd ps sp) (hr : Room (k + 1) X.A) (hb : Binds X.K fd ps [])
    (hx : PassesAt CX X σ E) (I : Inv X pins σ H s) (r : Vals vs us) (h : sp vs H Q E) : wpAny (model X.prog X.w) X.A.in1 (call (.ref fad) us) (EP X pins σ Q) X.xe s := by
  have hl : us.length = ps.length := by rw [← r.length]; exact FO.len _ _ _ _ h
  have b := hb s us I.kIn (by rw [List.append_nil]; exact hl)
  rw [List.append_nil] at b
  refine wpAny_call (codeAny_mono (FO.run X.A.in1 X.stack s H ⟨us, []⟩ us vs Q E hr.in1 I.env0.in1 b r h) fun z s' hz => ?_)
  match z, hz with
  | .error er, hz => exact hx pins H s er s' I hz
  | .ok (.ret u), hz => exact I.after hz
  | .ok .next, hz => exact False.elim hz
  | .ok .brk, hz => exact False.elim hz
  | .ok .cont, hz => exact False.elim hz
/-- a class's special method -/
structure SOk (P0 : Program) (w : World) (K : PySem.W.Frag) (mg : Str → Option Value) (base : Heap) (g : G) (m : Str) (k : Nat) (c : Nat) (n : Nat) (fn : List D → M D) : Prop where
  ex : ∃ (fad : Addr) (fd : FuncData) (ps : List Str), PySem.W.findIn K (.ref (g.cl c)) m = some (some (.ref fad)) ∧ PySem.W.isFn K (.ref fad) = true ∧ PySem.W.fnIn K fad = true ∧ FnOk P0 w K mg base (L2.CX P0 w) k fad fd ps (spF g n fn) ∧ Binds K fd ps []
def lenRes : Option (Res D × List MO) → Option (Res D × List MO)
  | some (.ok (.v (.int n)), L) => if 0 ≤ n ∧ n < 2 ^ 63 then some (.ok (.v (.int n)), L) else none
  | some (.ok _, _) => none
  | o => o
def lenO (tab : Nat → Option (List D → M D)) : D → M D := fun x L => match (clsOf L x).bind tab with
  | some fn => lenRes (fn [x] L)
  | none => lenD [x] L
theorem post_len {F : Hp} {ρ : Nat → Addr} {n : Nat} {W : Value → Option Addr → Hp → Prop} {Q : VK} {o : Option (Res D × List MO)} (h : Post g (relV g) F ρ n W Q (lenRes o)) : Post g (relV g) F ρ n W (fun v H => ∃ i, v = .int i ∧ 0 ≤ i ∧ i < 2 ^ 63 ∧ Q (.int i) H) o := by
  match o, h with
  | none, h => exact h
  | some (.ex c fs, L), h => exact h
  | some (.ok (.r n), L), h => exact False.elim h
  | some (.ok (.v p), L), h =>
    cases p with
    | int i =>
      have h : Post g (relV g) F ρ n W Q (if 0 ≤ i ∧ i < 2 ^ 63 then some (.ok (.v (.int i)), L) else none) := h
      split at h
      · rename_i hz
        exact fun F' ρ' b H' x1 x2 x3 => ⟨i, Is.inv_int x3, hz.1, hz.2, h F' ρ' (.int i) H' x1 x2 (Is.int i)⟩
      · exact False.elim h
    | _ => exact False.elim h
theorem de_lenO {tab : Nat → Option (List D → M D)} (hK : X.K = g.K) (MT : ∀ c fn, tab c = some fn → SOk X.prog X.w X.K X.mg X.base g "__len__" k c 1 fn) (hr : Room (k + 1) X.A) (tk : Takes X W) (hg : Gl X "len") (hm : X.mg "len" = none) (hv : bootBuiltins "len" = some (.builtin "len")) (he : PE X e (tE g W f))
    (hlen : CallR X (.builtin "len") (fun xs H Q => ∃ x n, xs = [x] ∧ LenV X.K x H n ∧ Q (.int n) H))
    (hst : starEach [e] X.env = (false, eval e X.env) :: starEach [] X.env := by rfl) (hpl : (backTo pos (starEach [] X.env)).any (·.1) = false := by rfl) :
    PE X (.Call (.Name "len" p) [e] [] pos) (tE g W (un (lenO tab) f)) := by
  refine ⟨fun pins s σ H Q I h => ?_⟩
  refine wpAny_Call_Name_kw (ld_blt I hg hm hv ?_ (by decide) (by decide))
  have h' : tA g W (consA f nilA) σ H (fun vs H1 => ∃ x, vs = [x] ∧ ∃ d, Sat g (relV g) W [(x, d)] (fun _ => lenO tab d) σ H1 Q) := by
    obtain ⟨F, ρ, τ, L, hR, hS, hc, hp⟩ := h
    refine ⟨F, ρ, τ, L, hR, hS, hc, ?_⟩
    have hp0 : Post g (relV g) F ρ L.length (fun c d H' => W c d σ H') Q (M.bnd (f τ) (lenO tab) L) := hp
    show Post g (relA g) F ρ L.length (fun c d H' => W c d σ H') _ (M.bnd (f τ) (fun d => M.bnd (nilA τ) fun ds => M.ret (d :: ds)) L)
    unfold M.bnd at hp0 ⊢
    match e1 : f τ L with
    | none => rw [e1] at hp0; exact False.elim hp0
    | some (.ex c xs, L1) => rw [e1] at hp0; exact hp0
    | some (.ok d, L1) =>
      rw [e1] at hp0
      intro F1 ρ1 vs H1 x1 hR1 ha
      obtain ⟨x, rfl, hx⟩ := rel1 ha
      exact ⟨x, rfl, d, F1, ρ1, τ, L1, hR1, hS.ext x1, (fun y hy => by rw [List.mem_singleton.mp hy]; exact hx), hp0.ext x1⟩
  refine PyProof.Rows.callWith_builtin1 (thn ((da_cons he da_nil hst).run pos pins _ σ H _ I h') fun us s1 ⟨vs, H1, I1, r1, q1⟩ => ?_) hst hpl
  obtain ⟨x, rfl, d, F, ρ, τ, L, hR, hS, hc, hp⟩ := q1
  have hx := hc (x, d) (by simp)
  unfold lenO at hp
  dsimp only at hp
  match e1 : (clsOf L d).bind tab with
  | none =>
    rw [e1] at hp
    exact hlen pins s1 σ H1 [x] us Q I1 r1 (cd_len hK F ρ L H1 [x] [d] _ Q hR (.cons hx .nil) hp)
  | some fn =>
    rw [e1] at hp
    obtain ⟨c, e2, e3⟩ := Option.bind_eq_some_iff.mp e1
    obtain ⟨ad, dx, fl, ex, ea, cf, _⟩ := clsOf_at hR hx e2
    subst ex
    obtain ⟨fad, fd, ps, k1, k2, k3, FO, hb⟩ := (MT c fn e3).ex
    obtain ⟨u, rfl, ru⟩ : ∃ u, us = [u] ∧ L2.RelV (.ref ad) u := by
      cases r1 with
      | cons h t => cases t; exact ⟨_, rfl, h⟩
    obtain rfl : u = Value.ref ad := ru
    obtain ⟨mA, O, _⟩ := ins_get I1.hok ea
    obtain ⟨od, J, _⟩ := O.look
    obtain ⟨m, fr⟩ := I1.fr
    refine PySem.W.len_K fr I1.ok.mod.kin J k1 k2 ?_
    refine wpAny_mono (run_sd1 (us := [.ref ad]) (vs := [.ref ad]) FO hr hb (passAt tk σ) I1 (.cons rfl .nil) ⟨F, ρ, L, [d], hR, .cons hx .nil, rfl, post_len hp⟩) (fun v s' hv' => ?_) fun _ _ z => z
    obtain ⟨w, H2, I2, rw', i, ew, h0, h1, q⟩ := hv'
    subst ew
    obtain ⟨t, rfl⟩ := (show ∃ t, v = Value.int i t from rw')
    exact ⟨⟨h0, h1⟩, .int i, H2, I2.tok _, ⟨_, rfl⟩, q⟩
end
end DN

end
section
set_option Elab.async false
set_option linter.all false
set_option maxRecDepth 100000
set_option maxHeartbeats 4000000
/-! E5: what the top has written: the hook, facts by checks. -/
namespace DN
open PySem PySem.Spec PyProof.Rows L2 He NdefX
/-- the classes' names -/
def cnm : Nat → Str
  | 0 => "Role" | 1 => "Read" | 2 => "Made" | 3 => "Fresh" | 4 => "Both" | 5 => "Renewed" | 6 => "Kind" | 7 => "Catalog" | 8 => "Waits" | 9 => "Contents" | 10 => "Step" | 11 => "Log" | 12 => "Disk" | 13 => "Store" | 14 => "State" | 15 => "Price" | 16 => "Backup"
  | 20 => "RedoError" | 21 => "BadName" | 22 => "BadKind" | 23 => "NoKind" | 24 => "NoRole" | 25 => "BadStep" | 26 => "NoStep" | 27 => "BadFormula" | 28 => "BadStamp" | 29 => "BadWait" | 30 => "Held" | 31 => "Newer" | 32 => "Broken" | 33 => "MutualWait"
  | 34 => "BadSlot" | 35 => "BadSize" | 36 => "BadOrder" | 37 => "OutOfTurn"
  | _ => ""
abbrev gOf (K : PySem.W.Frag) (w : World) : G := ⟨K, w, fun c => ga K (cnm c)⟩
/-! ### a def -/
structure DX where
  at_ : Str × Option Str
  qual : Str
  st : Stmt
  cl : List Str := []
def defName : Stmt → Str
  | .FunctionDef x _ _ _ _ _ _ _ _ _ => x
  | _ => ""
abbrev FnX : Type := Option (Str × Str × Arguments × FuncBody × Scope × Addr × List Str × Value × Addr)
def fnX (K : PySem.W.Frag) (p : Str × Option Str) : FnX := match K.lookup (fAd K p) with
  | some ⟨_, _, .func fd, _⟩ => some (fd.name, fd.qualname, fd.params, fd.body, fd.scope, fd.globals, fd.closure.map (·.1), fd.defaults, fd.builtins)
  | _ => none
def DX.val (d : DX) : FnX := some (defName d.st, d.qual, defArgs d.st, .stmts (defBody d.st), defScope d.st, mainGlobals, d.cl, .none, builtinsNs)
def DX.ok (K : PySem.W.Frag) (d : DX) : Bool := PySem.W.keepIn K (.ref (fAd K d.at_)) && (match K.lookup (fAd K d.at_) with
  | some ⟨_, _, .func fd, _⟩ => PySem.W.codeIn K fd.code d.qual
  | _ => false)
theorem dx_fun {K : PySem.W.Frag} {d : DX} (e : fnX K d.at_ = d.val) (c : d.ok K = true) (hcl : d.cl = []) : ∃ kV doc pm an cdv ct, Fun K (defName d.st) d.qual d.st (fAd K d.at_) (PySem.W.fnOf (defName d.st) d.qual (defArgs d.st) (defBody d.st) (defScope d.st) .none kV doc pm an cdv ct) := by
  obtain ⟨kp, c2⟩ := ba c
  unfold fnX at e
  cases q : K.lookup (fAd K d.at_) with
  | none => rw [q] at c2; cases c2
  | some o =>
    obtain ⟨oc, od, dt, osl⟩ := o
    rw [q] at c2 e
    cases dt with
    | func fd =>
      obtain ⟨n1, n2, n3, n4, n5, n6, n7, n8, n9, n10, n11, n12, n13, n14, n15⟩ := fd
      have e2 : (some (n1, n2, n3, n4, n5, n6, n7.map (·.1), n8, n15) : FnX) = some (defName d.st, d.qual, defArgs d.st, .stmts (defBody d.st), defScope d.st, mainGlobals, d.cl, .none, builtinsNs) := e
      simp only [Option.some.injEq, Prod.mk.injEq] at e2
      obtain ⟨h1, h2, h3, h4, h5, h6, h7, h8, h9⟩ := e2
      rw [hcl] at h7
      have h7' : n7 = [] := List.map_eq_nil_iff.mp h7
      subst h1 h2 h3 h4 h5 h6 h7' h8 h9
      exact ⟨_, _, _, _, _, _, ⟨⟨oc, od, _, _, _, _, _, _, osl, rfl, q, c2⟩, kp⟩⟩
    | _ => cases c2
theorem dx_cls {K : PySem.W.Frag} {d : DX} (e : fnX K d.at_ = d.val) (c : d.ok K = true) (hcl : d.cl = [("__class__" : Str)]) : ∃ oc od osl cc kV doc pm an cdv ct, K.lookup (fAd K d.at_) = some ⟨oc, od, .func (PySem.W.ksFn (defName d.st) d.qual (defArgs d.st) (defBody d.st) (defScope d.st) .none kV doc pm an cdv ct cc), osl⟩ ∧
    PySem.W.codeIn K cdv d.qual = true ∧ PySem.W.keepIn K (.ref (fAd K d.at_)) = true := by
  obtain ⟨kp, c2⟩ := ba c
  unfold fnX at e
  cases q : K.lookup (fAd K d.at_) with
  | none => rw [q] at c2; cases c2
  | some o =>
    obtain ⟨oc, od, dt, osl⟩ := o
    rw [q] at c2 e
    cases dt with
    | func fd =>
      obtain ⟨n1, n2, n3, n4, n5, n6, n7, n8, n9, n10, n11, n12, n13, n14, n15⟩ := fd
      have e2 : (some (n1, n2, n3, n4, n5, n6, n7.map (·.1), n8, n15) : FnX) = some (defName d.st, d.qual, defArgs d.st, .stmts (defBody d.st), defScope d.st, mainGlobals, d.cl, .none, builtinsNs) := e
      simp only [Option.some.injEq, Prod.mk.injEq] at e2
      obtain ⟨h1, h2, h3, h4, h5, h6, h7, h8, h9⟩ := e2
      rw [hcl] at h7
      cases n7 with
      | nil => cases h7
      | cons a r =>
        obtain ⟨x, cc⟩ := a
        cases r with
        | nil =>
          obtain rfl : x = ("__class__" : Str) := by simpa using h7
          subst h1 h2 h3 h4 h5 h6 h8 h9
          exact ⟨oc, od, osl, cc, _, _, _, _, _, _, rfl, c2, kp⟩
        | cons b r => simp at h7
    | _ => cases c2
/-! ### the hook -/
abbrev Chk : Type := PySem.W.Frag → Bool
abbrev AlX : Type := Bool × List FnX
def asX (g : Addr → Option Obj) : Nat → List Addr
  | 0 => [mainGlobals, cStatics]
  | n + 1 => growD g (asX g n)
def obsX (fa : List Chk) (fn : List DX) (K : PySem.W.Frag) : AlX := ((fa.all fun f => f K) && fn.all fun d => d.ok K, fn.map fun d => fnX K d.at_)
def valX (fn : List DX) : AlX := (true, fn.map DX.val)
def SaysX (fa : List Chk) (fn : List DX) (K : PySem.W.Frag) : Prop := obsX fa fn K = valX fn
def obsXG (n : Nat) (fa : List Chk) (fn : List DX) (g : Addr → Option Obj) : AlX := obsX fa fn (frG g (asX g n))
def hookX (n : Nat) (fa : List Chk) (fn : List DX) : PySem.W.Hook where
  α := AlX
  obs := fun s => obsXG n fa fn s.heap.get?
  val := fun _ => valX fn
  says := fun _ h => ∃ K : PySem.W.Frag, K.In h ∧ SaysX fa fn K
  of := fun _ _ e => ⟨_, frG_in, e⟩
  keeps := fun _ _ _ ⟨K, hK, c⟩ k => ⟨K, PySem.W.Frag.In.keeps hK k, c⟩
theorem obsXG_eq {n : Nat} {fa : List Chk} {fn : List DX} {g : Addr → Option Obj} {s : Shared} (h : ∀ a, g a = s.heap.get? a) : obsXG n fa fn g = (hookX n fa fn).obs s := by
  have e : g = s.heap.get? := funext h
  rw [e] <;> rfl
section
variable {fa : List Chk} {fn : List DX} {K : PySem.W.Frag}
theorem SaysX.fact (c : SaysX fa fn K) (i : Nat) {f : Chk} (h : fa[i]? = some f := by rfl) : f K = true := by
  have c1 := (ba (show ((fa.all fun f => f K) && fn.all fun d => d.ok K) = true from congrArg (fun z : AlX => z.1) c)).1
  exact List.all_eq_true.mp c1 f (List.mem_of_getElem? h)
theorem SaysX.val_ (c : SaysX fa fn K) (i : Nat) {d : DX} (h : fn[i]? = some d) : fnX K d.at_ = d.val ∧ d.ok K = true := by
  have c2 := (ba (show ((fa.all fun f => f K) && fn.all fun d => d.ok K) = true from congrArg (fun z : AlX => z.1) c)).2
  have e : fn.map (fun d => fnX K d.at_) = fn.map DX.val := congrArg (fun z : AlX => z.2) c
  have e2 : (fn.map fun d => fnX K d.at_)[i]? = (fn.map DX.val)[i]? := by rw [e]
  rw [List.getElem?_map, List.getElem?_map, h] at e2
  exact ⟨Option.some.inj e2, List.all_eq_true.mp c2 d (List.mem_of_getElem? h)⟩
/-- a def of the text, callable -/
structure Def1 (K : PySem.W.Frag) (d : DX) (ps : List Str) (f : Addr) (fd : FuncData) : Prop where
  F : Fun K (defName d.st) d.qual d.st f fd
  B : Binds K fd ps []
theorem SaysX.def_ (c : SaysX fa fn K) (i : Nat) {d : DX} {ps : List Str} (h : fn[i]? = some d) (hcl : d.cl = []) (hb : ∀ (kV doc pm : Value) (an : Option Addr) (cdv ct : Value) (us : List Value), us.length = ps.length → bindArgs (PySem.W.fnOf (defName d.st) d.qual (defArgs d.st) (defBody d.st) (defScope d.st) .none kV doc pm an cdv ct) ⟨us, []⟩ = pure (ps.zip us)) :
    ∃ fd, Def1 K d ps (fAd K d.at_) fd := by
  obtain ⟨e, ok⟩ := c.val_ i h
  obtain ⟨kV, doc, pm, an, cdv, ct, F⟩ := dx_fun e ok hcl
  exact ⟨_, F, F.binds hb⟩
end
/-! ### checks -/
def faB (f : Fa) : Chk := fun K => f.ok K
section
variable {K : PySem.W.Frag}
/-- class c: its attributes -/
def clsB (c : Nat) : Chk := fun K => (Fa.cls (cnm c)).ok K && (flT c).all fun f => eqO (PySem.W.findIn K (.ref (ga K (cnm c))) (nmT f)) (some none)
theorem nmT_nodup : ∀ c, ((flT c).map nmT).Nodup := by
  have h : ((List.range 40).all fun c => decide ((flT c).map nmT).Nodup) = true := by decide +kernel
  intro c
  by_cases hc : c < 40
  · exact of_decide_eq_true (List.all_eq_true.mp h c (List.mem_range.mpr hc))
  · have : flT c = [] := by
      unfold flT
      split <;> first | omega | rfl
    rw [this]
    exact List.nodup_nil
theorem flT_few : ∀ c, (flT c).length < 500 := by
  intro c
  unfold flT
  split <;> decide
theorem clsB_ok {w : World} {c : Nat} (h : clsB c K = true) : ClsF (gOf K w) c := by
  obtain ⟨h1, h2⟩ := ba h
  exact ⟨cls_ok h1, fun f hf => eqO_ok (List.all_eq_true.mp h2 f hf), nmT_nodup c, Nat.lt_trans (flT_few c) (by decide)⟩
def isiB (c : Nat) : Chk := fun K => let C := ga K (cnm c); eqO (PySem.W.findIn K (.ref C) "__class__") (some (some (.builtin "object.__class__"))) && (eqO (PySem.W.specialIn K (.builtin "object.__class__") "__get__") (some (some (.builtin "getset_descriptor.__get__"))) && (decide (PySem.W.takesIn K (.builtin "object.__class__") = some true) && decide (PySem.W.mroIn K C (.type "object") = some true)))
theorem isiB_ok {c : Nat} (h : isiB c K = true) : IsiC K (ga K (cnm c)) := by
  obtain ⟨h1, h⟩ := ba h
  obtain ⟨h2, h⟩ := ba h
  obtain ⟨h3, h4⟩ := ba h
  exact ⟨eqO_ok h1, eqO_ok h2, of_decide_eq_true h3, of_decide_eq_true h4⟩
/-- kitOne's answer -/
def tgK (K : PySem.W.Frag) : Tg → Value
  | .ins c => .ref (ga K (cnm c))
  | .non => .type "NoneType"
  | .bl => .type "bool"
  | .int => .type "int"
  | .str => .type "str"
  | .lst => .type "list"
  | .tup => .type "tuple"
theorem tgK_eq {w : World} (t : Tg) : tgV (gOf K w) t = tgK K t := by cases t <;> rfl
def kitB (t : Tg) (u : PySem.W.Frag → Value) (b : Bool) : Chk := fun K => decide (PySem.W.kitOne K (tgK K t) (u K) = some b)
theorem kitB_ok {w : World} {t : Tg} {u : PySem.W.Frag → Value} {b : Bool} (h : kitB t u b K = true) : PySem.W.kitOne (gOf K w).K (tgV (gOf K w) t) (u K) = some b := by
  rw [tgK_eq]
  exact of_decide_eq_true h
/-! ### an error's class -/
def oexB (C : Addr) : Chk := fun K => match K.lookup C with
  | some ⟨.type "type", _, .cls cd, sl⟩ => (match cd.mro, sl.toList with
    | .ref C' :: bm, [_, _, _, _, some (.builtin n), _] => C' == C && (n == "ValueError.__new__" && (!cd.hasDel && (cd.hasDict && PySem.HandSPX.refsVE bm)))
    | _, _ => false)
  | _ => false
theorem oexB_ok {C : Addr} (h : oexB C K = true) : ∃ nm q N bs bm sn sub ab col dd k0 k1 k2 k3 k5, K.lookup C = some (excClassObj nm q C N bs bm true sn sub ab col dd k0 k1 k2 k3 k5 "ValueError.__new__") ∧ PySem.HandSPX.refsVE bm = true := by
  unfold oexB at h
  split at h
  · rename_i dd cd sl e
    split at h
    · rename_i C' bm k0 k1 k2 k3 n k5 hm hs
      obtain ⟨h1, h⟩ := ba h
      obtain ⟨h2, h⟩ := ba h
      obtain ⟨h3, h⟩ := ba h
      obtain ⟨h4, h5⟩ := ba h
      have e1 := beq_iff_eq.mp h1
      have e2 := beq_iff_eq.mp h2
      subst e1
      subst e2
      obtain ⟨nm, bs, mro, ns, qn, hd, sn, sub, ab, col, del⟩ := cd
      dsimp only at hm h3 h4
      subst hm
      subst h4
      have h3' : del = false := by simpa using h3
      subst h3'
      have hsl : sl = #[k0, k1, k2, k3, some (.builtin "ValueError.__new__"), k5] := by
        obtain ⟨l⟩ := sl
        dsimp only at hs
        rw [hs]
      subst hsl
      exact ⟨nm, qn, ns, bs, bm, sn, sub, ab, col, dd, k0, k1, k2, k3, k5, e, h5⟩
    · cases h
  · cases h
def valO (a b : Option Value) : Bool := decide (a = b)
def boO (a b : Option Bool) : Bool := decide (a = b)
/-- the cell of __class__, the code's file -/
def fileB (file : Str) (vs : Array Value) : Bool := match vs[2]? with
  | some (Value.str f _) => file == f
  | _ => false
def celB (C fI : Addr) (file : Str) : Chk := fun K => match K.lookup fI with
  | some ⟨_, _, .func fd, _⟩ => (match fd.closure, fd.code with
    | [(_, cc)], .ref cda => (match K.lookup cc, K.lookup cda with
      | some ⟨_, _, .cell (some (.ref D)), _⟩, some ⟨_, _, .fields vs, _⟩ => D == C && fileB file vs
      | _, _ => false)
    | _, _ => false)
  | _ => false
def excB (file : Str) (c : Nat) : Chk := fun K => let C := ga K (cnm c); let fI := ma K C "__init__"
  [oexB C K, eqO (PySem.W.findIn K (.ref C) "__setattr__") (some (some (.builtin "object.__setattr__"))), boO (PySem.W.subIn K (.ref C) (.type "BaseException")) (some true), valO (PySem.W.typeIn K (.ref C)) (some (.type "type")), PySem.W.keepIn K (.ref C),
    eqO (PySem.W.findIn K (.ref C) "__init__") (some (some (.ref fI))), valO (PySem.W.typeIn K (.ref fI)) (some (.type "function")), (flT c).all fun f => eqO (PySem.W.findIn K (.ref C) (nmT f)) (some none), celB C fI file K,
    boO (PySem.W.mroIn K C (.ref C)) (some true), eqO (PySem.W.nsIn K cStatics "thirdparty.any") (some none), eqO (PySem.W.ks_superIn K C C "__init__") (some (some (.builtin "ValueError.__init__"))), boO (PySem.W.subIn K (.ref C) (.type "ValueError")) (some true),
    eqO (PySem.W.findIn K (.ref C) "__getattribute__") (some (some (.builtin "BaseException.__getattribute__"))), eqO (PySem.W.findIn K (.ref C) "__getattr__") (some none), PySem.W.hasDictIn K C, eqO (PySem.W.findIn K (.ref C) "__class__") (some (some (.builtin "object.__class__"))),
    eqO (PySem.W.specialIn K (.builtin "object.__class__") "__get__") (some (some (.builtin "getset_descriptor.__get__"))), boO (PySem.W.takesIn K (.builtin "object.__class__")) (some true), boO (PySem.W.mroIn K C (.type "object")) (some true), (PySem.W.clsIn K C).isSome].all id
theorem excB_get {file : Str} {c : Nat} (h : excB file c K = true) (i : Nat) {b : Bool} (e : [oexB (ga K (cnm c)) K, eqO (PySem.W.findIn K (.ref (ga K (cnm c))) "__setattr__") (some (some (.builtin "object.__setattr__"))), boO (PySem.W.subIn K (.ref (ga K (cnm c))) (.type "BaseException")) (some true), valO (PySem.W.typeIn K (.ref (ga K (cnm c)))) (some (.type "type")), PySem.W.keepIn K (.ref (ga K (cnm c))),
    eqO (PySem.W.findIn K (.ref (ga K (cnm c))) "__init__") (some (some (.ref (ma K (ga K (cnm c)) "__init__")))), valO (PySem.W.typeIn K (.ref (ma K (ga K (cnm c)) "__init__"))) (some (.type "function")), (flT c).all fun f => eqO (PySem.W.findIn K (.ref (ga K (cnm c))) (nmT f)) (some none), celB (ga K (cnm c)) (ma K (ga K (cnm c)) "__init__") file K,
    boO (PySem.W.mroIn K (ga K (cnm c)) (.ref (ga K (cnm c)))) (some true), eqO (PySem.W.nsIn K cStatics "thirdparty.any") (some none), eqO (PySem.W.ks_superIn K (ga K (cnm c)) (ga K (cnm c)) "__init__") (some (some (.builtin "ValueError.__init__"))), boO (PySem.W.subIn K (.ref (ga K (cnm c))) (.type "ValueError")) (some true),
    eqO (PySem.W.findIn K (.ref (ga K (cnm c))) "__getattribute__") (some (some (.builtin "BaseException.__getattribute__"))), eqO (PySem.W.findIn K (.ref (ga K (cnm c))) "__getattr__") (some none), PySem.W.hasDictIn K (ga K (cnm c)), eqO (PySem.W.findIn K (.ref (ga K (cnm c))) "__class__") (some (some (.builtin "object.__class__"))),
    eqO (PySem.W.specialIn K (.builtin "object.__class__") "__get__") (some (some (.builtin "getset_descriptor.__get__"))), boO (PySem.W.takesIn K (.builtin "object.__class__")) (some true), boO (PySem.W.mroIn K (ga K (cnm c)) (.type "object")) (some true), (PySem.W.clsIn K (ga K (cnm c))).isSome][i]? = some b) : b = true := List.all_eq_true.mp h b (List.mem_of_getElem? e)
theorem excB_xf {file : Str} {c : Nat} (h : excB file c K = true) : XfC K (ga K (cnm c)) := ⟨eqO_ok (excB_get h 13 rfl), eqO_ok (excB_get h 14 rfl), of_decide_eq_true (excB_get h 2 rfl), excB_get h 15 rfl⟩
theorem excB_xi {file : Str} {c : Nat} (h : excB file c K = true) : XiC K (ga K (cnm c)) :=
  ⟨excB_get h 20 rfl, eqO_ok (excB_get h 13 rfl), eqO_ok (excB_get h 14 rfl), of_decide_eq_true (excB_get h 2 rfl), eqO_ok (excB_get h 16 rfl), eqO_ok (excB_get h 17 rfl), of_decide_eq_true (excB_get h 18 rfl), of_decide_eq_true (excB_get h 19 rfl)⟩
theorem excB_T {file : Str} {c : Nat} (h : excB file c K = true) : OexC K (ga K (cnm c)) := ⟨oexB_ok (excB_get h 0 rfl), eqO_ok (excB_get h 1 rfl), of_decide_eq_true (excB_get h 2 rfl), of_decide_eq_true (excB_get h 3 rfl), excB_get h 4 rfl⟩
theorem excB_init {file : Str} {c : Nat} (h : excB file c K = true) : PySem.W.findIn K (.ref (ga K (cnm c))) "__init__" = some (some (.ref (ma K (ga K (cnm c)) "__init__"))) ∧ PySem.W.typeIn K (.ref (ma K (ga K (cnm c)) "__init__")) = some (.type "function") := ⟨eqO_ok (excB_get h 5 rfl), of_decide_eq_true (excB_get h 6 rfl)⟩
theorem excB_no {file : Str} {c : Nat} (h : excB file c K = true) : ∀ i ∈ flT c, PySem.W.findIn K (.ref (ga K (cnm c))) (nmT i) = some none := fun i hi => eqO_ok (List.all_eq_true.mp (excB_get h 7 rfl) i hi)
/-- THE ERROR's promise, of what the text says -/
structure ErrOk (P0 : Program) (w : World) (K : PySem.W.Frag) (mg : Str → Option Value) (base : Heap) (k c : Nat) : Prop where
  ex : ∃ (fI : Addr) (fd : FuncData), OexC K (ga K (cnm c)) ∧ PySem.W.findIn K (.ref (ga K (cnm c))) "__init__" = some (some (.ref fI)) ∧ PySem.W.typeIn K (.ref fI) = some (.type "function") ∧
    FnOk P0 w K mg base (L2.CX P0 w) k fI fd (("self" : Str) :: (flT c).reverse.map nmT) (spX (ga K (cnm c)) (flT c).reverse) ∧ Binds K fd (("self" : Str) :: (flT c).reverse.map nmT) []
theorem err_ok {P0 : Program} {w : World} {mg : Str → Option Value} {base : Heap} {c k : Nat} {fa : List Chk} {fn : List DX} {d : DX} {msg : Str} {jc : Nat} {p1 p2 p3 p4 p5 p6 : Pos} {sto : List (Nat × P4)} (sy : SaysX fa fn K) (i j : Nat) (hi : fa[i]? = some (excB P0.main.file c)) (hj : fn[j]? = some d) (hcl : d.cl = [("__class__" : Str)])
    (hat : d.at_ = (cnm c, some ("__init__" : Str))) (hsc : nscB (("self" : Str) :: ((flT c).reverse.map nmT ++ [("__class__" : Str)])) (("self" : Str) :: (flT c).reverse.map nmT) [("__class__" : Str)] (defScope d.st) = true) (hsup : (defScope d.st).names.lookup ("super" : Str) = some .globalImplicit) (htop : (P0.main.scope.names.lookup ("super" : Str)).isSome = false)
    (hps : ((defArgs d.st).posonlyargs ++ (defArgs d.st).args).head?.map (·.arg) = some ("self" : Str)) (hms : mg "super" = none) (hb : defBody d.st = .Expr (.Call (.Attribute (.Call (.Name "super" p1) [] [] p2) "__init__" p3) [.Constant (.str msg) jc p4] [] p5) p6 :: stoOf sto) (hln : (p3.endLine == p5.line) = true) (hs : sto.map (·.1) = (flT c).reverse)
    (hne : flT c ≠ []) (hnd : (flT c).reverse.Nodup) (hbt : bootBuiltins "super" = some (.type "super"))
    (hbd : ∀ (nm qual : Str) (body : List Stmt) (kV doc pm : Value) (an : Option Addr) (cdv ct : Value) (cc : Addr) (us : List Value), us.length = (("self" : Str) :: (flT c).reverse.map nmT).length → bindArgs (PySem.W.ksFn nm qual (defArgs d.st) body (defScope d.st) .none kV doc pm an cdv ct cc) ⟨us, []⟩ = pure ((("self" : Str) :: (flT c).reverse.map nmT).zip us)) :
    ErrOk P0 w K mg base (k + 1) c := by
  have h := sy.fact i hi
  obtain ⟨e, ok⟩ := sy.val_ j hj
  obtain ⟨oc, od, osl, cc, kV, doc, pm, an, cdv, ct, lk, hcd, kp⟩ := dx_cls e ok hcl
  have hf : fAd K d.at_ = ma K (ga K (cnm c)) "__init__" := by rw [hat]; rfl
  rw [hf] at lk
  have hcel : celB (ga K (cnm c)) (ma K (ga K (cnm c)) "__init__") P0.main.file K = true := excB_get h 8 rfl
  unfold celB at hcel
  rw [lk] at hcel
  dsimp only at hcel
  cases cdv with
  | ref cda =>
    dsimp only at hcel
    split at hcel
    · rename_i cl cld D csl ccl cdd vs ccs q1 q2
      obtain ⟨z1, z2⟩ := ba hcel
      have eD := beq_iff_eq.mp z1
      subst eD
      unfold fileB at z2
      split at z2
      · rename_i f tf q3
        have EF : ExFacts K (ga K (cnm c)) (ma K (ga K (cnm c)) "__init__") cc cda P0 d.qual (defArgs d.st) (defScope d.st) (flT c).reverse :=
          ⟨excB_T h, (excB_init h).1, (excB_init h).2, fun i hi => excB_no h i (List.mem_reverse.mp hi), nscope_by hsc, hsup, by rw [List.length_reverse]; exact flT_few c, ⟨cl, cld, csl, q1⟩, ⟨ccl, cdd, vs, ccs, f, tf, q2, q3, z2⟩, htop, hps, of_decide_eq_true (excB_get h 9 rfl),
            eqO_ok (excB_get h 10 rfl), eqO_ok (excB_get h 11 rfl), of_decide_eq_true (excB_get h 12 rfl)⟩
        exact ⟨_, _, excB_T h, (excB_init h).1, (excB_init h).2, fn_exc EF lk hcd hb hln hs (fun z => hne (List.reverse_eq_nil_iff.mp z)) hnd hms hbt, .all (hbd _ _ _ _ _ _ _ _ _ _)⟩
      · cases z2
    · cases hcel
  | _ => cases hcel
end
end DN

end
section
set_option Elab.async false
set_option linter.all false
set_option maxRecDepth 100000
set_option maxHeartbeats 4000000
/-! E6: the rules in the shape in which the printed derivations use them. -/
namespace DN
open PySem PySem.Spec PyProof.Rows L2 He NdefX
theorem bt_len : bootBuiltins "len" = some (.builtin "len") := by decide +kernel
theorem bt_sum : bootBuiltins "sum" = some (.builtin "sum") := by decide +kernel
theorem bt_max : bootBuiltins "max" = some (.builtin "max") := by decide +kernel
theorem bt_any : bootBuiltins "any" = some (.builtin "any") := by decide +kernel
theorem bt_all : bootBuiltins "all" = some (.builtin "all") := by decide +kernel
theorem bt_sorted : bootBuiltins "sorted" = some (.builtin "sorted") := by decide +kernel
theorem bt_isinstance : bootBuiltins "isinstance" = some (.builtin "isinstance") := by decide +kernel
theorem bt_int : bootBuiltins "int" = some (.type "int") := by decide +kernel
theorem bt_str : bootBuiltins "str" = some (.type "str") := by decide +kernel
theorem bt_bool : bootBuiltins "bool" = some (.type "bool") := by decide +kernel
theorem bt_list : bootBuiltins "list" = some (.type "list") := by decide +kernel
theorem bt_tuple : bootBuiltins "tuple" = some (.type "tuple") := by decide +kernel
theorem bt_dict : bootBuiltins "dict" = some (.type "dict") := by decide +kernel
theorem bt_super : bootBuiltins "super" = some (.type "super") := by decide +kernel
theorem bt_ValueError : bootBuiltins "ValueError" = some (.type "ValueError") := by decide +kernel
theorem hu65 {k : Nat} {A : Around} (h : Room k A) : A.units + 65 < cLine := by have := h.un; omega
theorem hu64 {k : Nat} {A : Around} (h : Room k A) : A.units + 64 < cLine := by have := h.un; omega
section
variable {X : Cx} {g : G} {W : WX} {a b c e o : Expr} {fa fb fc f : Tau → M D} {p pos apos : Pos} {es : List Expr} {fs : Tau → M (List D)} {k n : Nat} {fn : List D → M D}
theorem tk_never (h : ∀ u s, X.xe u s ↔ False := by intro _ _; exact Iff.rfl) : Takes X W0 := fun u s q => by
  obtain ⟨a, B, sI, pins, σ, H, cls, d, _, _, _, _, _, _, _, _, w⟩ := q
  exact w.elim
/-! ### constants of the module -/
theorem de_gstr {x z : Str} (hg : Gl X x) (hm : ∃ t, X.mg x = some (.str z t)) (hd : (x == ("__debug__" : Str)) = false := by decide) : PE X (.Name x pos) (tE g W (retD (.v (.str z)))) := by
  obtain ⟨t, hm⟩ := hm
  exact PE.weak (pe_glob (v := .str z) hg hm ⟨t, rfl⟩ hd) fun σ H Q h => Sat.ret h (fun _ _ => rfl) fun _ _ _ _ => Is.str z
theorem de_gint {x : Str} {z : Int} (hg : Gl X x) (hm : ∃ t, X.mg x = some (.int z t)) (hd : (x == ("__debug__" : Str)) = false := by decide) : PE X (.Name x pos) (tE g W (retD (.v (.int z)))) := by
  obtain ⟨t, hm⟩ := hm
  exact PE.weak (pe_glob (v := .int z) hg hm ⟨t, rfl⟩ hd) fun σ H Q h => Sat.ret h (fun _ _ => rfl) fun _ _ _ _ => Is.int z
/-! ### -x -/
def negD : D → M D := fun d L => match d with
  | .v (.int i) => some (.ok (.v (.int (-i))), L)
  | _ => none
theorem de_neg (he : PE X e (tE g W f)) : PE X (.UnaryOp .USub e pos) (tE g W (un negD f)) := by
  refine PE.weak (pe_un un_neg he) fun σ H Q h => ?_
  refine (Sat.bindV h).mono fun x H1 h1 => ?_
  obtain ⟨d, F, ρ, τ, L, hR, hS, hc, hp⟩ := h1
  have hx := hc (x, d) (by simp)
  unfold negD at hp
  split at hp
  · rename_i i
    exact ⟨i, Is.inv_int hx, hp.val hR (Is.int _)⟩
  · exact False.elim hp
/-! ### own defs -/
/-- a def of the text that keeps its promise -/
structure FnD (P0 : Program) (w : World) (K : PySem.W.Frag) (mg : Str → Option Value) (base : Heap) (g : G) (f : Addr) (k n : Nat) (fn : List D → M D) : Prop where
  ex : ∃ (fd : FuncData) (ps : List Str), FnOk P0 w K mg base (L2.CX P0 w) k f fd ps (spF g n fn) ∧ Binds K fd ps []
  kp : PySem.W.keepIn K (.ref f) = true
theorem de_callX {x : Str} {fad : Addr} (FO : FnD X.prog X.w X.K X.mg X.base g fad k n fn) (hr : Room k X.A) (hg : Gl X x) (hm : X.mg x = some (.ref fad)) (tk : Takes X W) (ha : PA X (e :: es) (tA g W fs)) (hdb : (x == ("__debug__" : Str)) = false := by decide)
    (he : starEach (e :: es) X.env = (false, eval e X.env) :: starEach es X.env := by rfl) (hpl : (backTo pos (starEach es X.env)).any (·.1) = false := by rfl) : PE X (.Call (.Name x p) (e :: es) [] pos) (tE g W (appA (arN n fn) fs)) := by
  obtain ⟨⟨fd, ps, FO1, hb⟩, kp⟩ := FO
  exact de_call FO1 hr hg hm kp hb tk ha hdb he hpl
theorem de_makeX {x : Str} {fad : Addr} {frz : Bool} {cn : Nat} (hK : X.K = g.K := by rfl) (hC : ClsF g cn) (MK : Mk X.K (g.cl cn) fad) (FO : FnD X.prog X.w X.K X.mg X.base g fad k n fn) (hr : Room (k + 1) X.A) (hg : Gl X x) (hm : X.mg x = some (.ref (g.cl cn))) (tk : Takes X W)
    (ha : PA X (e :: es) (tA g W fs)) (hdb : (x == ("__debug__" : Str)) = false := by decide) (he : starEach (e :: es) X.env = (false, eval e X.env) :: starEach es X.env := by rfl) (hpl : (backTo pos (starEach es X.env)).any (·.1) = false := by rfl) :
    PE X (.Call (.Name x p) (e :: es) [] pos) (tE g W (appA (makF frz cn n fn) fs)) := by
  obtain ⟨⟨fd, ps, FO1, hb⟩, kp⟩ := FO
  exact de_make hK hC MK FO1 hr hg hm hb tk ha hdb he hpl
theorem de_makeX0 {x : Str} {fad : Addr} {frz : Bool} {cn : Nat} (hK : X.K = g.K := by rfl) (hC : ClsF g cn) (MK : Mk X.K (g.cl cn) fad) (FO : FnD X.prog X.w X.K X.mg X.base g fad k n fn) (hr : Room (k + 1) X.A) (hg : Gl X x) (hm : X.mg x = some (.ref (g.cl cn))) (tk : Takes X W)
    (hdb : (x == ("__debug__" : Str)) = false := by decide) : PE X (.Call (.Name x p) [] [] pos) (tE g W (appA (makF frz cn n fn) nilA)) := by
  obtain ⟨⟨fd, ps, FO1, hb⟩, kp⟩ := FO
  exact de_make0 hK hC MK FO1 hr hg hm hb tk hdb
theorem mok_of {P0 : Program} {w : World} {K : PySem.W.Frag} {mg : Str → Option Value} {base : Heap} {m : Str} {f : Addr} {j : Nat} (hm : Meth K (g.cl n) m f) (FO : FnD P0 w K mg base g f j k fn) {i : Nat} (hj : j ≤ i) (hno : ∀ q ∈ flT n, nmT q ≠ m) : MOk P0 w K mg base g m i n k fn := by
  obtain ⟨⟨fd, ps, FO1, hb⟩, kp⟩ := FO
  exact ⟨⟨f, fd, ps, hm, FO1.mono hj, hb⟩, hno⟩
theorem sok_of {P0 : Program} {w : World} {K : PySem.W.Frag} {mg : Str → Option Value} {base : Heap} {m : Str} {f : Addr} {j : Nat} (hm : Meth K (g.cl n) m f) (hf : PySem.W.fnIn K f = true) (FO : FnD P0 w K mg base g f j k fn) {i : Nat} (hj : j ≤ i) : SOk P0 w K mg base g m i n k fn := by
  obtain ⟨⟨fd, ps, FO1, hb⟩, kp⟩ := FO
  obtain ⟨m1, m2, m3⟩ := hm
  exact ⟨⟨f, fd, ps, m1, m2, hf, FO1.mono hj, hb⟩⟩
/-! ### raise -/
theorem ds_raiseX {x : Str} {c : Nat} {K : PySem.W.Frag} {w : World} {fs : Tau → M (List D)} {pos2 : Pos} (ER : ErrOk X.prog X.w X.K X.mg X.base k c) (hK : X.K = K) (hc : X.calm = true) (tk : Takes X W) (hr : Room (k + 1) X.A) (hg : Gl X x) (hm : X.mg x = some (.ref (ga X.K (cnm c)))) (ha : PA X (e :: es) (tA (gOf K w) W fs))
    (hdb : (x == ("__debug__" : Str)) = false := by decide) (hst : starEach (e :: es) X.env = (false, eval e X.env) :: starEach es X.env := by rfl) (hpl : (backTo pos (starEach es X.env)).any (·.1) = false := by rfl) :
    PS X (.Raise (some (.Call (.Name x p) (e :: es) [] pos)) none pos2) (tS (gOf K w) W (raiseS c fs)) := by
  subst hK
  obtain ⟨fI, fd, T, iC, tI, FO, hb⟩ := ER.ex
  exact ds_raise hc tk T iC tI FO hr hb hg hm (Nat.le_trans (Nat.le_of_lt (flT_few c)) (by decide)) ha hdb hst hpl
/-! ### isinstance's tables -/
theorem is_of {K : PySem.W.Frag} {w : World} {tab : Tg → Option Bool} {u : Value} (cs : List Nat) (hc : ∀ c b, tab (.ins c) = some b → c ∈ cs)
    (h6 : (∀ b, tab .non = some b → PySem.W.kitOne (gOf K w).K (tgV (gOf K w) .non) u = some b) ∧ (∀ b, tab .bl = some b → PySem.W.kitOne (gOf K w).K (tgV (gOf K w) .bl) u = some b) ∧ (∀ b, tab .int = some b → PySem.W.kitOne (gOf K w).K (tgV (gOf K w) .int) u = some b) ∧
      (∀ b, tab .str = some b → PySem.W.kitOne (gOf K w).K (tgV (gOf K w) .str) u = some b) ∧ (∀ b, tab .lst = some b → PySem.W.kitOne (gOf K w).K (tgV (gOf K w) .lst) u = some b) ∧ ∀ b, tab .tup = some b → PySem.W.kitOne (gOf K w).K (tgV (gOf K w) .tup) u = some b)
    (hi : ∀ c ∈ cs, ∀ b, tab (.ins c) = some b → PySem.W.kitOne (gOf K w).K (tgV (gOf K w) (.ins c)) u = some b) : ∀ t b, tab t = some b → PySem.W.kitOne (gOf K w).K (tgV (gOf K w) t) u = some b := by
  obtain ⟨h1, h2, h3, h4, h5, h6⟩ := h6
  intro t b e
  cases t with
  | non => exact h1 b e
  | bl => exact h2 b e
  | int => exact h3 b e
  | str => exact h4 b e
  | lst => exact h5 b e
  | tup => exact h6 b e
  | ins c => exact hi c (hc c b e) b e
/-! ### the law's end -/
theorem fnok_cx {P : Program} {w : World} {K : PySem.W.Frag} {mg : Str → Option Value} {base : Heap} {CX CX' : CXT} {k : Nat} {f : Addr} {fd : FuncData} {ps : List Str} {sp : Sp} (F : FnOk P w K mg base CX k f fd ps sp) (h : ∀ outer H s E u s', CX outer H s E u s' → CX' outer H s E u s') : FnOk P w K mg base CX' k f fd ps sp :=
  ⟨F.len, fun A outer s H args us vs Q E hr he hb hv hs => codeAny_mono (F.run A outer s H args us vs Q E hr he hb hv hs) fun r s' hq => by
    match r, hq with
    | .error e, hq => exact h _ _ _ _ _ _ hq
    | .ok (.ret u), hq => exact hq
    | .ok .next, hq => exact hq
    | .ok .brk, hq => exact hq
    | .ok .cont, hq => exact hq⟩
def CXA (P : Program) : CXT := fun outer H s E u s' => ∃ w, L2.CX P w outer H s E u s'
theorem cxa_no {P : Program} (H : Hp) (s : Shared) (e : Value) (s' : Shared) (h : CXA P [] H s (fun _ _ _ => False) e s') : False := by
  obtain ⟨w, a, B, H', cls, d, _, _, _, _, _, _, _, q⟩ := h
  exact q
/-- the law's promise, at a list of whole numbers -/
theorem law_end {g : G} {fn : List D → M D} {ns : List Int} (h : ∃ L1, fn [.v (.scr ns)] [] = some (.ok (.v (.bl true)), L1)) {H : Hp} {a : Addr} (hS : SqL g.K H a (ns.map V.int)) {Q : VK} {E : XK} (hQ : ∀ H', Q (.bl true) H') : spF g 1 fn [.ref a] H Q E := by
  obtain ⟨L1, h⟩ := h
  refine ⟨fun b => if b = a then H a else none, fun _ => 0, [], [.v (.scr ns)], ⟨fun b o e => ?_, fun i m e => by simp at e, fun i j m m' e => by simp at e⟩, .cons ?_ .nil, rfl, ?_⟩
  · by_cases hb : b = a
    · rw [hb] at e ⊢
      simpa using e
    · simp [hb] at e
  · show Is g _ (.ref a) (.scr ns)
    refine Is.scr ?_
    rcases hS with (hS | ⟨o, hS⟩) | hS
    · exact .inl (.inl (by simpa using hS))
    · exact .inl (.inr ⟨o, by simpa using hS⟩)
    · exact .inr hS
  · rw [h]
    exact fun F' ρ' b H' _ _ hb => by
      have := Is.inv_bl hb
      rw [this]
      exact hQ H'
end
end DN
namespace DN
open PySem
theorem le_line (n : Nat) (h : n ≤ 1000) : n ≤ sizeLine := by rw [sizeLine_eq]; omega
end DN

end
section
set_option Elab.async false
set_option linter.all false
set_option maxRecDepth 100000
set_option maxHeartbeats 4000000
/-! E7: laws of the denotations: scopes, loops, comprehensions. -/
namespace DN
open PySem
open L2 (ixN atI)
theorem Older.refl (L : List MO) : Older L L := ⟨Nat.le_refl _, fun i m _ e => .inl e⟩
theorem older_set {L : List MO} {n : Nat} {xs : List P} : Older L (L.set n (.lst xs)) := by
  refine ⟨by simp, fun i m hi e => ?_⟩
  by_cases h : n = i
  · subst h
    rw [List.getElem?_set_self hi] at e
    cases e
    exact .inr trivial
  · rw [List.getElem?_set_ne h] at e
    exact .inl e
theorem older_app {L L1 : List MO} (X : List MO) (h : Older L L1) : Older L (L1 ++ X) := by
  refine ⟨by rw [List.length_append]; have := h.1; omega, fun i m hi e => ?_⟩
  rw [List.getElem?_append_left (by have := h.1; omega)] at e
  exact h.2 i m hi e
theorem Older.trans {L L1 L2 : List MO} (a : Older L L1) (b : Older L1 L2) (h : L.length = L1.length) : Older L L2 := by
  refine ⟨by have := a.1; have := b.1; omega, fun i m hi e => ?_⟩
  rcases b.2 i m (by omega) e with q | q
  · exact a.2 i m hi q
  · exact .inr (by rw [h]; exact q)
theorem scope_v {keep : Bool} {f : List D → M D} {ds : List D} {L L1 : List MO} {p : P} (h : f ds L = some (.ok (.v p), L1)) (ho : Older L L1) : scopeF keep f ds L = some (.ok (.v p), L1.take L.length) := by
  unfold scopeF
  rw [h]
  exact if_pos ho
theorem scope_s {keep : Bool} {f : List D → M D} {ds : List D} {L L1 : List MO} {p : P} (h : f ds L = some (.ok (.v p), L1)) (ho : Older L L1) (hl : L1.length = L.length) : scopeF keep f ds L = some (.ok (.v p), L1) := by
  rw [scope_v h ho, List.take_of_length_le (Nat.le_of_eq hl)]
/-- what was laid anew is let go -/
theorem scope_x {keep : Bool} {f : List D → M D} {ds : List D} {L L1 X : List MO} {p : P} (h : f ds L = some (.ok (.v p), L1 ++ X)) (ho : Older L L1) (hl : L1.length = L.length) : scopeF keep f ds L = some (.ok (.v p), L1) := by
  rw [scope_v h (older_app X ho), ← hl, List.take_left']
  rfl
theorem scope_ex {keep : Bool} {f : List D → M D} {ds : List D} {L L1 : List MO} {c : Nat} {fs : List P} (h : f ds L = some (.ex c fs, L1)) (ho : Older L L1) (hl : L1.length = L.length) : scopeF keep f ds L = some (.ex c fs, L1) := by
  unfold scopeF
  rw [h]
  dsimp only
  rw [if_pos ho, List.take_of_length_le (Nat.le_of_eq hl)]
/-- a list that was laid anew comes out frozen -/
theorem scope_f {f : List D → M D} {ds : List D} {L L1 X : List MO} {n : Nat} {xs : List P} (h : f ds L = some (.ok (.r n), L1 ++ X)) (ho : Older L L1) (hl : L1.length = L.length) (hn : L.length ≤ n) (he : X[n - L.length]? = some (.lst xs)) : scopeF false f ds L = some (.ok (.v (.lst xs)), L1) := by
  unfold scopeF
  rw [h]
  dsimp only
  rw [if_pos (older_app X ho), if_neg (by omega), List.getElem?_append_right (by omega), hl, he]
  dsimp only
  rw [if_neg Bool.false_ne_true, ← hl, List.take_left']
  rfl
theorem scope_k {f : List D → M D} {ds : List D} {L L1 X : List MO} {n : Nat} {xs : List P} (h : f ds L = some (.ok (.r n), L1 ++ X)) (ho : Older L L1) (hl : L1.length = L.length) (hn : L.length ≤ n) (he : X[n - L.length]? = some (.lst xs)) : scopeF true f ds L = some (.ok (.r L.length), L1 ++ [.lst xs]) := by
  unfold scopeF
  rw [h]
  dsimp only
  rw [if_pos (older_app X ho), if_neg (by omega), List.getElem?_append_right (by omega), hl, he]
  dsimp only
  rw [if_pos rfl, ← hl, List.take_left']
  rfl
theorem seq_nx {f1 f2 : SX} {τ τ1 : Tau} {L L1 : List MO} (h : f1 τ L = some (.nx τ1, L1)) : seqS f1 f2 τ L = f2 τ1 L1 := by
  unfold seqS
  rw [h]
theorem body_rt {N : Nat} {s : SX} {ds : List D} {L L1 : List MO} {d : D} (h : s (ds.map some ++ List.replicate (N - ds.length) none) L = some (.rt d, L1)) : bodyF N s ds L = some (.ok d, L1) := by
  unfold bodyF
  rw [h]
theorem body_nx {N : Nat} {s : SX} {ds : List D} {L L1 : List MO} {τ : Tau} (h : s (ds.map some ++ List.replicate (N - ds.length) none) L = some (.nx τ, L1)) : bodyF N s ds L = some (.ok (.v .non), L1) := by
  unfold bodyF
  rw [h]
theorem body_ex {N : Nat} {s : SX} {ds : List D} {L L1 : List MO} {τ : Tau} {c : Nat} {fs : List P} (h : s (ds.map some ++ List.replicate (N - ds.length) none) L = some (.ex τ c fs, L1)) : bodyF N s ds L = some (.ex c fs, L1) := by
  unfold bodyF
  rw [h]
/-! ### for -/
theorem for_run {ok : List MO → Prop} {tg : TgD} {body : SX} {J : Nat → Tau → List MO → Prop} {E : Option (Out × List MO) → Prop} : ∀ (xs : List P) (i0 : Nat) (τ : Tau) (L : List MO), J i0 τ L → (∀ i τ L, J i τ L → ok L) →
    (∀ (i : Nat) (p : P) (τ : Tau) (L : List MO), xs[i]? = some p → J (i0 + i) τ L → ∃ τ1, tg p τ = some τ1 ∧ ((∃ τ2 L2, (body τ1 L = some (.nx τ2, L2) ∨ body τ1 L = some (.ct τ2, L2)) ∧ J (i0 + i + 1) τ2 L2) ∨ (E (body τ1 L) ∧ ((∃ τ' c fs L', body τ1 L = some (.ex τ' c fs, L')) ∨ ∃ d L', body τ1 L = some (.rt d, L'))))) →
    (∃ τ' L', forG ok tg body xs τ L = some (.nx τ', L') ∧ J (i0 + xs.length) τ' L') ∨ E (forG ok tg body xs τ L)
  | [], i0, τ, L, h0, hok, _ => by
    refine .inl ⟨τ, L, ?_, h0⟩
    unfold forG
    rw [if_pos (hok _ _ _ h0)]
  | p :: ps, i0, τ, L, h0, hok, hs => by
    obtain ⟨τ1, e1, h⟩ := hs 0 p τ L rfl h0
    unfold forG
    rw [if_pos (hok _ _ _ h0), e1]
    dsimp only
    rcases h with ⟨τ2, L2, e2, hJ⟩ | ⟨hE, h⟩
    · have ih := for_run (E := E) ps (i0 + 1) τ2 L2 hJ hok fun i q τ L e hj => by
        have := hs (i + 1) q τ L e (by rw [show i0 + (i + 1) = i0 + 1 + i by omega]; exact hj)
        rw [show i0 + (i + 1) = i0 + 1 + i by omega] at this
        exact this
      rw [show i0 + (p :: ps).length = i0 + 1 + ps.length by rw [List.length_cons]; omega]
      rcases e2 with e2 | e2
      · rw [e2]
        exact ih
      · rw [e2]
        exact ih
    · right
      rcases h with ⟨τ', c, fs, L', e⟩ | ⟨d, L', e⟩
      · rw [e] at hE ⊢
        exact hE
      · rw [e] at hE ⊢
        exact hE
/-- .. that runs to its end -/
theorem for_all {ok : List MO → Prop} {tg : TgD} {body : SX} (J : Nat → Tau → List MO → Prop) {xs : List P} {τ : Tau} {L : List MO} (h0 : J 0 τ L) (hok : ∀ i τ L, J i τ L → ok L)
    (hs : ∀ (i : Nat) (p : P) (τ : Tau) (L : List MO), xs[i]? = some p → J i τ L → ∃ τ1, tg p τ = some τ1 ∧ ∃ τ2 L2, (body τ1 L = some (.nx τ2, L2) ∨ body τ1 L = some (.ct τ2, L2)) ∧ J (i + 1) τ2 L2) : ∃ τ' L', forG ok tg body xs τ L = some (.nx τ', L') ∧ J xs.length τ' L' := by
  have := for_run (J := J) (E := fun _ => False) (ok := ok) (tg := tg) (body := body) xs 0 τ L h0 hok fun i p τ L e hj => by
    rw [Nat.zero_add] at hj
    obtain ⟨τ1, e1, h⟩ := hs i p τ L e hj
    rw [Nat.zero_add]
    exact ⟨τ1, e1, .inl h⟩
  rw [Nat.zero_add] at this
  exact this.resolve_right id
theorem forS_of {src : Tau → M Itm} {tg : TgD} {body : SX} {τ : Tau} {L L1 : List MO} {it : Itm} (h : src τ L = some (.ok it, L1)) : forS src tg body τ L = forG it.2 tg body it.1 τ L1 := by
  unfold forS eThen
  rw [h]
/-! ### comprehensions -/
/-- each turn may change the ledger's older part -/
theorem lcG_run {ok : List MO → Prop} {turn : P → Tau → M (Option P)} {n : Nat} {τ : Tau} {J : List MO → Prop} {R : P → P → Prop} : ∀ (xs : List P) (L : List MO) (acc : List P), L.length = n → J L → (∀ L, ok L) → acc.length + xs.length ≤ sizeLine →
    (∀ p ∈ xs, ∀ (L : List MO) (acc : List P), L.length = n → J L → ∃ q L', turn p τ (L ++ [.lst acc]) = some (.ok (some q), L' ++ [.lst acc]) ∧ L'.length = n ∧ J L' ∧ R p q) →
    ∃ L' qs, lcG ok turn n τ xs (L ++ [.lst acc]) = some (L' ++ [.lst (acc ++ qs)]) ∧ L'.length = n ∧ J L' ∧ Paired R xs qs
  | [], L, acc, hl, hj, hok, _, _ => ⟨L, [], by unfold lcG; rw [if_pos (hok _), List.append_nil], hl, hj, .nil⟩
  | p :: ps, L, acc, hl, hj, hok, hz, hs => by
    obtain ⟨q, L1, e1, l1, j1, r1⟩ := hs p List.mem_cons_self L acc hl hj
    rw [List.length_cons] at hz
    obtain ⟨L', qs, e2, l2, j2, r2⟩ := lcG_run (R := R) ps L1 (acc ++ [q]) l1 j1 hok (by rw [List.length_append, List.length_singleton]; omega) fun p hp => hs p (List.mem_cons_of_mem _ hp)
    refine ⟨L', q :: qs, ?_, l2, j2, .cons r1 r2⟩
    unfold lcG
    rw [if_pos (hok _), e1]
    dsimp only
    have e3 : (L1 ++ [MO.lst acc])[n]? = some (.lst acc) := by rw [← l1, List.getElem?_append_right (Nat.le_refl _), Nat.sub_self]; rfl
    rw [e3]
    dsimp only
    rw [if_pos (by omega)]
    have e4 : (L1 ++ [MO.lst acc]).set n (.lst (acc ++ [q])) = L1 ++ [.lst (acc ++ [q])] := by
      rw [← l1, List.set_append_right _ _ (Nat.le_refl _), Nat.sub_self]
      rfl
    rw [e4, e2, List.append_assoc]
    rfl
theorem lc_run {src : Tau → M Itm} {vs : List Nat} {tg : TgD} {tt : Tau → M Bool} {fe : Tau → M D} {τ : Tau} {L L0 : List MO} {xs : List P} {J : List MO → Prop} {R : P → P → Prop} (hsrc : src τ L = some (.ok (xs, fun _ => True), L0)) (hz : xs.length ≤ sizeLine) (hJ : J L0) (hO : ∀ L', J L' → L'.length = L0.length → Older L0 L')
    (hs : ∀ p ∈ xs, ∀ (L : List MO) (acc : List P), L.length = L0.length → J L → ∃ q L', lcT tg tt fe p (killT vs τ) (L ++ [.lst acc]) = some (.ok (some q), L' ++ [.lst acc]) ∧ L'.length = L0.length ∧ J L' ∧ R p q) :
    ∃ L' qs, lcS false src vs tg tt fe τ L = some (.ok (.v (.lst qs)), L') ∧ L'.length = L0.length ∧ J L' ∧ Paired R xs qs := by
  obtain ⟨L', qs, e, l, j, r⟩ := lcG_run (ok := fun _ => True) (turn := lcT tg tt fe) (τ := killT vs τ) (R := R) xs L0 [] rfl hJ (fun _ => trivial) (by simpa using hz) hs
  refine ⟨L', qs, ?_, l, j, r⟩
  show M.bnd (src τ) (fun it => lcE false (lcT tg tt fe) (killT vs τ) it) L = _
  unfold M.bnd
  rw [hsrc]
  dsimp only
  unfold lcE
  dsimp only
  rw [e]
  unfold lcFin
  dsimp only
  rw [if_neg Bool.false_ne_true, List.getElem?_append_right (by omega), l, Nat.sub_self]
  dsimp only [List.getElem?_cons_zero, List.nil_append]
  rw [if_pos (older_app _ (hO L' j l)), ← l, List.take_left']
  rfl
/-- .. with a test, nothing changed -/
theorem lcG_pure {ok : List MO → Prop} {turn : P → Tau → M (Option P)} {n : Nat} {τ : Tau} {f : P → Option P} {L : List MO} (hl : L.length = n) (hok : ∀ L, ok L) : ∀ (xs : List P) (acc : List P), acc.length + xs.length ≤ sizeLine →
    (∀ p ∈ xs, ∀ acc : List P, turn p τ (L ++ [.lst acc]) = some (.ok (f p), L ++ [.lst acc])) → lcG ok turn n τ xs (L ++ [.lst acc]) = some (L ++ [.lst (acc ++ xs.filterMap f)])
  | [], acc, _, _ => by unfold lcG; rw [if_pos (hok _)]; simp
  | p :: ps, acc, hz, hs => by
    rw [List.length_cons] at hz
    unfold lcG
    rw [if_pos (hok _), hs p List.mem_cons_self acc]
    cases e : f p with
    | none =>
      dsimp only
      rw [lcG_pure hl hok ps acc (by omega) fun p hp => hs p (List.mem_cons_of_mem _ hp), List.filterMap_cons, e]
    | some q =>
      dsimp only
      have e3 : (L ++ [MO.lst acc])[n]? = some (.lst acc) := by rw [← hl, List.getElem?_append_right (Nat.le_refl _), Nat.sub_self]; rfl
      rw [e3]
      dsimp only
      rw [if_pos (by omega)]
      have e4 : (L ++ [MO.lst acc]).set n (.lst (acc ++ [q])) = L ++ [.lst (acc ++ [q])] := by
        rw [← hl, List.set_append_right _ _ (Nat.le_refl _), Nat.sub_self]
        rfl
      rw [e4, lcG_pure hl hok ps (acc ++ [q]) (by rw [List.length_append, List.length_singleton]; omega) fun p hp => hs p (List.mem_cons_of_mem _ hp), List.filterMap_cons, e, List.append_assoc]
      rfl
theorem lc_pure {src : Tau → M Itm} {vs : List Nat} {tg : TgD} {tt : Tau → M Bool} {fe : Tau → M D} {τ : Tau} {L L0 : List MO} {xs : List P} {ok : List MO → Prop} {f : P → Option P} (hsrc : src τ L = some (.ok (xs, ok), L0)) (hok : ∀ acc, ok (L0 ++ [.lst acc])) (hok2 : ∀ L, ok L) (hz : xs.length ≤ sizeLine)
    (hs : ∀ p ∈ xs, ∀ acc : List P, lcT tg tt fe p (killT vs τ) (L0 ++ [.lst acc]) = some (.ok (f p), L0 ++ [.lst acc])) : lcS false src vs tg tt fe τ L = some (.ok (.v (.lst (xs.filterMap f))), L0) := by
  show M.bnd (src τ) (fun it => lcE false (lcT tg tt fe) (killT vs τ) it) L = _
  unfold M.bnd
  rw [hsrc]
  dsimp only
  unfold lcE
  dsimp only
  rw [lcG_pure rfl hok2 xs [] (by simpa using hz) hs]
  unfold lcFin
  dsimp only
  rw [if_neg Bool.false_ne_true, List.getElem?_append_right (Nat.le_refl _), Nat.sub_self]
  dsimp only [List.getElem?_cons_zero, List.nil_append]
  rw [if_pos (older_app _ (Older.refl _)), List.take_left']
  rfl
end DN

end
section
set_option linter.all false
namespace DN
open PySem
theorem tup_0 (L : List MO) : tupD [] L = some (.ok (.v (.tup [])), L) := by
  have e : asPs [] = some [] := rfl
  unfold tupD
  rw [e]
  exact if_pos (le_line 0 (by decide))
theorem tup_1 (a0 : P) (L : List MO) : tupD [.v a0] L = some (.ok (.v (.tup [a0])), L) := by
  have e : asPs [.v a0] = some [a0] := rfl
  unfold tupD
  rw [e]
  exact if_pos (le_line 1 (by decide))
theorem tup_2 (a0 a1 : P) (L : List MO) : tupD [.v a0, .v a1] L = some (.ok (.v (.tup [a0, a1])), L) := by
  have e : asPs [.v a0, .v a1] = some [a0, a1] := rfl
  unfold tupD
  rw [e]
  exact if_pos (le_line 2 (by decide))
theorem tup_3 (a0 a1 a2 : P) (L : List MO) : tupD [.v a0, .v a1, .v a2] L = some (.ok (.v (.tup [a0, a1, a2])), L) := by
  have e : asPs [.v a0, .v a1, .v a2] = some [a0, a1, a2] := rfl
  unfold tupD
  rw [e]
  exact if_pos (le_line 3 (by decide))
theorem tup_4 (a0 a1 a2 a3 : P) (L : List MO) : tupD [.v a0, .v a1, .v a2, .v a3] L = some (.ok (.v (.tup [a0, a1, a2, a3])), L) := by
  have e : asPs [.v a0, .v a1, .v a2, .v a3] = some [a0, a1, a2, a3] := rfl
  unfold tupD
  rw [e]
  exact if_pos (le_line 4 (by decide))
theorem tup_5 (a0 a1 a2 a3 a4 : P) (L : List MO) : tupD [.v a0, .v a1, .v a2, .v a3, .v a4] L = some (.ok (.v (.tup [a0, a1, a2, a3, a4])), L) := by
  have e : asPs [.v a0, .v a1, .v a2, .v a3, .v a4] = some [a0, a1, a2, a3, a4] := rfl
  unfold tupD
  rw [e]
  exact if_pos (le_line 5 (by decide))
theorem tup_6 (a0 a1 a2 a3 a4 a5 : P) (L : List MO) : tupD [.v a0, .v a1, .v a2, .v a3, .v a4, .v a5] L = some (.ok (.v (.tup [a0, a1, a2, a3, a4, a5])), L) := by
  have e : asPs [.v a0, .v a1, .v a2, .v a3, .v a4, .v a5] = some [a0, a1, a2, a3, a4, a5] := rfl
  unfold tupD
  rw [e]
  exact if_pos (le_line 6 (by decide))
theorem lst_0 (L : List MO) : lstD [] L = some (.ok (.v (.lst [])), L) := by
  have e : asPs [] = some [] := rfl
  unfold lstD
  rw [e]
  exact if_pos (le_line 0 (by decide))
theorem lst_1 (a0 : P) (L : List MO) : lstD [.v a0] L = some (.ok (.v (.lst [a0])), L) := by
  have e : asPs [.v a0] = some [a0] := rfl
  unfold lstD
  rw [e]
  exact if_pos (le_line 1 (by decide))
theorem lst_2 (a0 a1 : P) (L : List MO) : lstD [.v a0, .v a1] L = some (.ok (.v (.lst [a0, a1])), L) := by
  have e : asPs [.v a0, .v a1] = some [a0, a1] := rfl
  unfold lstD
  rw [e]
  exact if_pos (le_line 2 (by decide))
theorem lst_3 (a0 a1 a2 : P) (L : List MO) : lstD [.v a0, .v a1, .v a2] L = some (.ok (.v (.lst [a0, a1, a2])), L) := by
  have e : asPs [.v a0, .v a1, .v a2] = some [a0, a1, a2] := rfl
  unfold lstD
  rw [e]
  exact if_pos (le_line 3 (by decide))
theorem lst_4 (a0 a1 a2 a3 : P) (L : List MO) : lstD [.v a0, .v a1, .v a2, .v a3] L = some (.ok (.v (.lst [a0, a1, a2, a3])), L) := by
  have e : asPs [.v a0, .v a1, .v a2, .v a3] = some [a0, a1, a2, a3] := rfl
  unfold lstD
  rw [e]
  exact if_pos (le_line 4 (by decide))
theorem lst_5 (a0 a1 a2 a3 a4 : P) (L : List MO) : lstD [.v a0, .v a1, .v a2, .v a3, .v a4] L = some (.ok (.v (.lst [a0, a1, a2, a3, a4])), L) := by
  have e : asPs [.v a0, .v a1, .v a2, .v a3, .v a4] = some [a0, a1, a2, a3, a4] := rfl
  unfold lstD
  rw [e]
  exact if_pos (le_line 5 (by decide))
theorem lst_6 (a0 a1 a2 a3 a4 a5 : P) (L : List MO) : lstD [.v a0, .v a1, .v a2, .v a3, .v a4, .v a5] L = some (.ok (.v (.lst [a0, a1, a2, a3, a4, a5])), L) := by
  have e : asPs [.v a0, .v a1, .v a2, .v a3, .v a4, .v a5] = some [a0, a1, a2, a3, a4, a5] := rfl
  unfold lstD
  rw [e]
  exact if_pos (le_line 6 (by decide))
theorem lst_7 (a0 a1 a2 a3 a4 a5 a6 : P) (L : List MO) : lstD [.v a0, .v a1, .v a2, .v a3, .v a4, .v a5, .v a6] L = some (.ok (.v (.lst [a0, a1, a2, a3, a4, a5, a6])), L) := by
  have e : asPs [.v a0, .v a1, .v a2, .v a3, .v a4, .v a5, .v a6] = some [a0, a1, a2, a3, a4, a5, a6] := rfl
  unfold lstD
  rw [e]
  exact if_pos (le_line 7 (by decide))
theorem lst_8 (a0 a1 a2 a3 a4 a5 a6 a7 : P) (L : List MO) : lstD [.v a0, .v a1, .v a2, .v a3, .v a4, .v a5, .v a6, .v a7] L = some (.ok (.v (.lst [a0, a1, a2, a3, a4, a5, a6, a7])), L) := by
  have e : asPs [.v a0, .v a1, .v a2, .v a3, .v a4, .v a5, .v a6, .v a7] = some [a0, a1, a2, a3, a4, a5, a6, a7] := rfl
  unfold lstD
  rw [e]
  exact if_pos (le_line 8 (by decide))
theorem lst_9 (a0 a1 a2 a3 a4 a5 a6 a7 a8 : P) (L : List MO) : lstD [.v a0, .v a1, .v a2, .v a3, .v a4, .v a5, .v a6, .v a7, .v a8] L = some (.ok (.v (.lst [a0, a1, a2, a3, a4, a5, a6, a7, a8])), L) := by
  have e : asPs [.v a0, .v a1, .v a2, .v a3, .v a4, .v a5, .v a6, .v a7, .v a8] = some [a0, a1, a2, a3, a4, a5, a6, a7, a8] := rfl
  unfold lstD
  rw [e]
  exact if_pos (le_line 9 (by decide))
theorem lst_10 (a0 a1 a2 a3 a4 a5 a6 a7 a8 a9 : P) (L : List MO) : lstD [.v a0, .v a1, .v a2, .v a3, .v a4, .v a5, .v a6, .v a7, .v a8, .v a9] L = some (.ok (.v (.lst [a0, a1, a2, a3, a4, a5, a6, a7, a8, a9])), L) := by
  have e : asPs [.v a0, .v a1, .v a2, .v a3, .v a4, .v a5, .v a6, .v a7, .v a8, .v a9] = some [a0, a1, a2, a3, a4, a5, a6, a7, a8, a9] := rfl
  unfold lstD
  rw [e]
  exact if_pos (le_line 10 (by decide))
theorem lst_11 (a0 a1 a2 a3 a4 a5 a6 a7 a8 a9 a10 : P) (L : List MO) : lstD [.v a0, .v a1, .v a2, .v a3, .v a4, .v a5, .v a6, .v a7, .v a8, .v a9, .v a10] L = some (.ok (.v (.lst [a0, a1, a2, a3, a4, a5, a6, a7, a8, a9, a10])), L) := by
  have e : asPs [.v a0, .v a1, .v a2, .v a3, .v a4, .v a5, .v a6, .v a7, .v a8, .v a9, .v a10] = some [a0, a1, a2, a3, a4, a5, a6, a7, a8, a9, a10] := rfl
  unfold lstD
  rw [e]
  exact if_pos (le_line 11 (by decide))
theorem lst_12 (a0 a1 a2 a3 a4 a5 a6 a7 a8 a9 a10 a11 : P) (L : List MO) : lstD [.v a0, .v a1, .v a2, .v a3, .v a4, .v a5, .v a6, .v a7, .v a8, .v a9, .v a10, .v a11] L = some (.ok (.v (.lst [a0, a1, a2, a3, a4, a5, a6, a7, a8, a9, a10, a11])), L) := by
  have e : asPs [.v a0, .v a1, .v a2, .v a3, .v a4, .v a5, .v a6, .v a7, .v a8, .v a9, .v a10, .v a11] = some [a0, a1, a2, a3, a4, a5, a6, a7, a8, a9, a10, a11] := rfl
  unfold lstD
  rw [e]
  exact if_pos (le_line 12 (by decide))
theorem new_0 (L : List MO) : newD [] L = some (.ok (.r L.length), L ++ [.lst []]) := by
  have e : asPs [] = some [] := rfl
  unfold newD
  rw [e]
  exact if_pos (le_line 0 (by decide))
theorem new_1 (a0 : P) (L : List MO) : newD [.v a0] L = some (.ok (.r L.length), L ++ [.lst [a0]]) := by
  have e : asPs [.v a0] = some [a0] := rfl
  unfold newD
  rw [e]
  exact if_pos (le_line 1 (by decide))
theorem new_2 (a0 a1 : P) (L : List MO) : newD [.v a0, .v a1] L = some (.ok (.r L.length), L ++ [.lst [a0, a1]]) := by
  have e : asPs [.v a0, .v a1] = some [a0, a1] := rfl
  unfold newD
  rw [e]
  exact if_pos (le_line 2 (by decide))
theorem new_3 (a0 a1 a2 : P) (L : List MO) : newD [.v a0, .v a1, .v a2] L = some (.ok (.r L.length), L ++ [.lst [a0, a1, a2]]) := by
  have e : asPs [.v a0, .v a1, .v a2] = some [a0, a1, a2] := rfl
  unfold newD
  rw [e]
  exact if_pos (le_line 3 (by decide))
theorem new_4 (a0 a1 a2 a3 : P) (L : List MO) : newD [.v a0, .v a1, .v a2, .v a3] L = some (.ok (.r L.length), L ++ [.lst [a0, a1, a2, a3]]) := by
  have e : asPs [.v a0, .v a1, .v a2, .v a3] = some [a0, a1, a2, a3] := rfl
  unfold newD
  rw [e]
  exact if_pos (le_line 4 (by decide))
theorem new_5 (a0 a1 a2 a3 a4 : P) (L : List MO) : newD [.v a0, .v a1, .v a2, .v a3, .v a4] L = some (.ok (.r L.length), L ++ [.lst [a0, a1, a2, a3, a4]]) := by
  have e : asPs [.v a0, .v a1, .v a2, .v a3, .v a4] = some [a0, a1, a2, a3, a4] := rfl
  unfold newD
  rw [e]
  exact if_pos (le_line 5 (by decide))
theorem new_6 (a0 a1 a2 a3 a4 a5 : P) (L : List MO) : newD [.v a0, .v a1, .v a2, .v a3, .v a4, .v a5] L = some (.ok (.r L.length), L ++ [.lst [a0, a1, a2, a3, a4, a5]]) := by
  have e : asPs [.v a0, .v a1, .v a2, .v a3, .v a4, .v a5] = some [a0, a1, a2, a3, a4, a5] := rfl
  unfold newD
  rw [e]
  exact if_pos (le_line 6 (by decide))
theorem arN_1 (fn : List D → M D) (a0 : D) : arN 1 fn [a0] = fn [a0] := if_pos rfl
theorem arN_2 (fn : List D → M D) (a0 a1 : D) : arN 2 fn [a0, a1] = fn [a0, a1] := if_pos rfl
theorem arN_3 (fn : List D → M D) (a0 a1 a2 : D) : arN 3 fn [a0, a1, a2] = fn [a0, a1, a2] := if_pos rfl
theorem arN_4 (fn : List D → M D) (a0 a1 a2 a3 : D) : arN 4 fn [a0, a1, a2, a3] = fn [a0, a1, a2, a3] := if_pos rfl
theorem arN_5 (fn : List D → M D) (a0 a1 a2 a3 a4 : D) : arN 5 fn [a0, a1, a2, a3, a4] = fn [a0, a1, a2, a3, a4] := if_pos rfl
theorem arN_6 (fn : List D → M D) (a0 a1 a2 a3 a4 a5 : D) : arN 6 fn [a0, a1, a2, a3, a4, a5] = fn [a0, a1, a2, a3, a4, a5] := if_pos rfl
theorem arN_7 (fn : List D → M D) (a0 a1 a2 a3 a4 a5 a6 : D) : arN 7 fn [a0, a1, a2, a3, a4, a5, a6] = fn [a0, a1, a2, a3, a4, a5, a6] := if_pos rfl
end DN

end
section
set_option Elab.async false
set_option linter.all false
set_option maxRecDepth 100000
set_option maxHeartbeats 4000000
/-! E9: a body's garbage is taken off (trimS); weakest wishes of the denotations (wp, wps). -/
namespace DN
open PySem
open L2 (ixN atI)
/-! ### trimS -/
def okT (n : Nat) (τ : Tau) : Prop := ∀ (i : Nat) (d : D), τ[i]? = some (some d) → okR n d
open Classical in
noncomputable def trimS (s : SX) : SX := fun τ L => match s τ L with
  | some (.nx τ1, L1) => if Older L L1 ∧ okT L.length τ1 then some (.nx τ1, L1.take L.length) else some (.nx τ1, L1)
  | some (.ct τ1, L1) => if Older L L1 ∧ okT L.length τ1 then some (.ct τ1, L1.take L.length) else some (.ct τ1, L1)
  | o => o
section
variable {X : L2.Cx} {g : G} {W : L2.WX} {sts : List Stmt} {s1 : SX}
theorem Sl.down {F : L2.Hp} {ρ ρ' : Nat → Addr} {n n' : Nat} {σ : L2.St} {τ : Tau} (hr : ∀ i, i < n → ρ' i = ρ i) (h : Sl g F ρ' n' σ τ) (ho : okT n τ) : Sl g F ρ n σ τ :=
  ⟨h.1, fun i d q => let ⟨v, h1, h2⟩ := h.2 i d q; ⟨v, h1, h2.down hr (ho i d q)⟩⟩
theorem tS.trim {D : L2.Ends} {σ : L2.St} {H : L2.Hp} (h : tS g W (trimS s1) D σ H) : tS g W s1 D σ H := by
  obtain ⟨F, ρ, τ, L, hR, hS, hc, hp⟩ := h
  refine ⟨F, ρ, τ, L, hR, hS, hc, ?_⟩
  unfold trimS at hp
  have down : ∀ {L1 : List MO} {F' : L2.Hp} {ρ' : Nat → Addr} {H' : L2.Hp}, Older L L1 → Ext F ρ L.length F' ρ' L1.length → R g F' ρ' L1 H' → R g F' ρ (L1.take L.length) H' ∧ (L1.take L.length).length = L.length := fun {L1 F' ρ' H'} ho he hR' => by
    refine ⟨hR'.trunc he.len he.rho fun i m hi e => ?_, by rw [List.length_take]; have := he.len; omega⟩
    rcases ho.2 i m hi e with q | q
    · exact hR.okR q
    · exact q
  match e : s1 τ L with
  | none => rw [e] at hp; exact hp
  | some (.nx τ1, L1) =>
    rw [e] at hp
    dsimp only at hp
    by_cases ho : Older L L1 ∧ okT L.length τ1
    · rw [if_pos ho] at hp
      intro F' ρ' H' σ' he hR' hs
      obtain ⟨q1, q2⟩ := down ho.1 he hR'
      exact hp F' ρ H' σ' (by rw [q2]; exact ⟨he.sub, fun _ _ => rfl, Nat.le_refl _⟩) q1 (by rw [q2]; exact Sl.down he.rho hs ho.2)
    · rw [if_neg ho] at hp; exact hp
  | some (.ct τ1, L1) =>
    rw [e] at hp
    dsimp only at hp
    by_cases ho : Older L L1 ∧ okT L.length τ1
    · rw [if_pos ho] at hp
      intro F' ρ' H' σ' he hR' hs
      obtain ⟨q1, q2⟩ := down ho.1 he hR'
      exact hp F' ρ H' σ' (by rw [q2]; exact ⟨he.sub, fun _ _ => rfl, Nat.le_refl _⟩) q1 (by rw [q2]; exact Sl.down he.rho hs ho.2)
    · rw [if_neg ho] at hp; exact hp
  | some (.rt d, L1) => rw [e] at hp; exact hp
  | some (.bk _, L1) => rw [e] at hp; exact hp
  | some (.ex _ _ _, L1) => rw [e] at hp; exact hp
theorem ds_trim (h : L2.PSs X sts (tS g W s1)) : L2.PSs X sts (tS g W (trimS s1)) := PSs.weak h fun D σ H q => tS.trim q
end
/-! ### wishes -/
abbrev EX := Nat → List P → List MO → Prop
def wp {α : Type} (m : M α) (L : List MO) (E : EX) (Q : α → List MO → Prop) : Prop := match m L with
  | some (.ok a, L1) => Q a L1
  | some (.ex c fs, L1) => E c fs L1
  | none => False
structure KK where
  nx : Tau → List MO → Prop
  rt : D → List MO → Prop
  bk : Tau → List MO → Prop
  ct : Tau → List MO → Prop
  ex : Tau → Nat → List P → List MO → Prop
def wps (s : SX) (τ : Tau) (L : List MO) (k : KK) : Prop := match s τ L with
  | some (.nx τ1, L1) => k.nx τ1 L1
  | some (.rt d, L1) => k.rt d L1
  | some (.bk τ1, L1) => k.bk τ1 L1
  | some (.ct τ1, L1) => k.ct τ1 L1
  | some (.ex τ1 c fs, L1) => k.ex τ1 c fs L1
  | none => False
def KK.th (k : KK) (b : SX) : KK := { k with nx := fun τ L => wps b τ L k }
section
variable {α β : Type} {L : List MO} {E : EX} {τ : Tau} {k : KK} {a b : SX}
theorem wp_bnd {m : M α} {f : α → M β} {Q : β → List MO → Prop} : wp (M.bnd m f) L E Q = wp m L E (fun x L1 => wp (f x) L1 E Q) := by
  unfold wp M.bnd
  cases e : m L with
  | none => rfl
  | some r =>
    obtain ⟨r, L1⟩ := r
    cases r <;> rfl
theorem wp_ret {x : α} {Q : α → List MO → Prop} : wp (M.ret x) L E Q = Q x L := rfl
theorem wp_bind {m : M α} {f : α → M β} {Q : β → List MO → Prop} : wp (m >>= f) L E Q = wp m L E (fun x L1 => wp (f x) L1 E Q) := wp_bnd
theorem wp_pure {x : α} {Q : α → List MO → Prop} : wp (pure x) L E Q = Q x L := rfl
theorem wp_of {m : M α} {Q : α → List MO → Prop} {x : α} {L1 : List MO} (h : m L = some (.ok x, L1)) : wp m L E Q = Q x L1 := by
  unfold wp
  rw [h]
theorem wp_mono {m : M α} {Q Q' : α → List MO → Prop} {E' : EX} (h : wp m L E Q) (hq : ∀ x L1, Q x L1 → Q' x L1) (he : ∀ c fs L1, E c fs L1 → E' c fs L1) : wp m L E' Q' := by
  unfold wp at h ⊢
  cases e : m L with
  | none => rw [e] at h; exact h
  | some r =>
    obtain ⟨r, L1⟩ := r
    rw [e] at h
    cases r with
    | ok x => exact hq _ _ h
    | ex c fs => exact he _ _ _ h
theorem wp_out {m : M α} {Q : α → List MO → Prop} (h : wp m L (fun _ _ _ => False) Q) : ∃ x L1, m L = some (.ok x, L1) ∧ Q x L1 := by
  unfold wp at h
  cases e : m L with
  | none => rw [e] at h; exact h.elim
  | some r =>
    obtain ⟨r, L1⟩ := r
    rw [e] at h
    cases r with
    | ok x => exact ⟨x, L1, rfl, h⟩
    | ex c fs => exact h.elim
theorem wps_mono {s : SX} {k k' : KK} (h : wps s τ L k) (h1 : ∀ τ L, k.nx τ L → k'.nx τ L) (h2 : ∀ d L, k.rt d L → k'.rt d L) (h3 : ∀ τ L, k.bk τ L → k'.bk τ L) (h4 : ∀ τ L, k.ct τ L → k'.ct τ L) (h5 : ∀ τ c fs L, k.ex τ c fs L → k'.ex τ c fs L) : wps s τ L k' := by
  unfold wps at h ⊢
  cases e : s τ L with
  | none => rw [e] at h; exact h
  | some r =>
    obtain ⟨r, L1⟩ := r
    rw [e] at h
    cases r with
    | nx => exact h1 _ _ h
    | rt => exact h2 _ _ h
    | bk => exact h3 _ _ h
    | ct => exact h4 _ _ h
    | ex => exact h5 _ _ _ _ h
theorem wps_seq : wps (seqS a b) τ L k = wps a τ L (k.th b) := by
  unfold wps seqS
  cases e : a τ L with
  | none => rfl
  | some r =>
    obtain ⟨r, L1⟩ := r
    cases r <;> rfl
theorem th_nx {L : List MO} : (k.th b).nx τ L = wps b τ L k := rfl
theorem th_rt : (k.th b).rt = k.rt := rfl
theorem th_bk : (k.th b).bk = k.bk := rfl
theorem th_ct : (k.th b).ct = k.ct := rfl
theorem th_ex : (k.th b).ex = k.ex := rfl
theorem wps_eThen {m : Tau → M α} {f : α → SX} : wps (eThen m f) τ L k = wp (m τ) L (k.ex τ) (fun x L1 => wps (f x) τ L1 k) := by
  unfold wps wp eThen
  cases e : m τ L with
  | none => rfl
  | some r =>
    obtain ⟨r, L1⟩ := r
    cases r <;> rfl
theorem wps_nx : wps nxS τ L k = k.nx τ L := rfl
theorem wps_bk : wps bkS τ L k = k.bk τ L := rfl
theorem wps_ct : wps ctS τ L k = k.ct τ L := rfl
theorem wps_retN : wps retN τ L k = k.rt (.v .non) L := rfl
theorem wps_kill {is : List Nat} : wps (killS is a) τ L k = wps a (killT is τ) L k := rfl
theorem wps_set {i : Nat} {f : Tau → M D} : wps (setS i f) τ L k = wp (f τ) L (k.ex τ) (fun d L1 => k.nx (τ.set i (some d)) L1) := wps_eThen
theorem wps_expr {f : Tau → M D} : wps (exprS f) τ L k = wp (f τ) L (k.ex τ) (fun _ L1 => k.nx τ L1) := wps_eThen
theorem wps_ret {f : Tau → M D} : wps (retS f) τ L k = wp (f τ) L (k.ex τ) (fun d L1 => k.rt d L1) := wps_eThen
theorem wps_if {t : Tau → M Bool} : wps (ifS t a b) τ L k = wp (t τ) L (k.ex τ) (fun c L1 => wps (if c = true then a else b) τ L1 k) := wps_eThen
theorem wps_ift : wps (if (true : Bool) = true then a else b) τ L k = wps a τ L k := rfl
theorem wps_iff : wps (if (false : Bool) = true then a else b) τ L k = wps b τ L k := rfl
theorem wps_satt {i : Nat} {fo fv : Tau → M D} : wps (sattS i fo fv) τ L k = wp (fv τ) L (k.ex τ) (fun d L1 => wp (fo τ) L1 (k.ex τ) (fun x L2 => wp (sattD i d x) L2 (k.ex τ) (fun _ L3 => k.nx τ L3))) := by
  unfold sattS
  rw [wps_eThen, wp_bind]
  simp only [wp_bind]
  rfl
theorem wps_unit {m : M Unit} : wps (unitS m) τ L k = wp m L (k.ex τ) (fun _ L1 => k.nx τ L1) := by
  unfold wps wp unitS
  cases e : m L with
  | none => rfl
  | some r =>
    obtain ⟨r, L1⟩ := r
    cases r <;> rfl
theorem wps_setI {fo fi fv : Tau → M D} : wps (setIS fo fi fv) τ L k = wp (fv τ) L (k.ex τ) (fun v L1 => wp (fo τ) L1 (k.ex τ) (fun x L2 => wp (fi τ) L2 (k.ex τ) (fun y L3 => wp (setA x y v) L3 (k.ex τ) (fun _ L4 => k.nx τ L4)))) := by
  unfold setIS
  rw [wps_eThen]
  simp only [wps_eThen, wps_unit]
/-- a body's end without its own objects -/
theorem wps_trim {s : SX} (h : wps s τ L { k with
    nx := fun τ1 L1 => ∃ Lb X, L1 = Lb ++ X ∧ Lb.length = L.length ∧ Older L Lb ∧ okT L.length τ1 ∧ k.nx τ1 Lb
    ct := fun τ1 L1 => ∃ Lb X, L1 = Lb ++ X ∧ Lb.length = L.length ∧ Older L Lb ∧ okT L.length τ1 ∧ k.ct τ1 Lb }) : wps (trimS s) τ L k := by
  unfold wps trimS at *
  cases e : s τ L with
  | none => rw [e] at h; exact h
  | some r =>
    obtain ⟨r, L1⟩ := r
    rw [e] at h
    cases r with
    | rt => exact h
    | bk => exact h
    | ex => exact h
    | nx τ1 =>
      obtain ⟨Lb, X, h1, h2, h3, h4, h5⟩ := h
      subst h1
      dsimp only
      rw [if_pos ⟨older_app X h3, h4⟩, ← h2, List.take_left']
      · exact h5
      · rfl
    | ct τ1 =>
      obtain ⟨Lb, X, h1, h2, h3, h4, h5⟩ := h
      subst h1
      dsimp only
      rw [if_pos ⟨older_app X h3, h4⟩, ← h2, List.take_left']
      · exact h5
      · rfl
/-! ### for, while -/
theorem wps_forG {ok : List MO → Prop} {tg : TgD} {body : SX} (J : Nat → Tau → List MO → Prop) : ∀ (xs : List P) (i0 : Nat) {τ : Tau} {L : List MO}, J i0 τ L → (∀ i τ L, J i τ L → ok L) →
    (∀ (i : Nat) (p : P) (τ : Tau) (L : List MO), xs[i]? = some p → J (i0 + i) τ L → ∃ τ1, tg p τ = some τ1 ∧ wps body τ1 L { k with nx := J (i0 + i + 1), ct := J (i0 + i + 1), bk := k.nx }) →
    (∀ τ L, J (i0 + xs.length) τ L → k.nx τ L) → wps (forG ok tg body xs) τ L k
  | [], i0, τ, L, h0, hok, _, he => by
    unfold wps forG
    rw [if_pos (hok _ _ _ h0)]
    exact he _ _ h0
  | p :: ps, i0, τ, L, h0, hok, hs, he => by
    obtain ⟨τ1, e1, h⟩ := hs 0 p τ L rfl h0
    have ih := fun (τ2 : Tau) (L2 : List MO) (h2 : J (i0 + 1) τ2 L2) => wps_forG (ok := ok) (tg := tg) (body := body) J ps (i0 + 1) h2 hok (fun i q τ L e hj => by
      have := hs (i + 1) q τ L e (by rw [show i0 + (i + 1) = i0 + 1 + i by omega]; exact hj)
      rw [show i0 + (i + 1) = i0 + 1 + i by omega] at this
      exact this) (fun τ L hj => he τ L (by rw [List.length_cons, show i0 + (ps.length + 1) = i0 + 1 + ps.length by omega]; exact hj))
    unfold wps forG
    rw [if_pos (hok _ _ _ h0), e1]
    dsimp only
    unfold wps at h ih
    cases e : body τ1 L with
    | none => rw [e] at h; exact h
    | some r =>
      obtain ⟨r, L2⟩ := r
      rw [e] at h
      cases r with
      | nx τ2 => exact ih τ2 L2 h
      | ct τ2 => exact ih τ2 L2 h
      | bk τ2 => exact h
      | rt d => exact h
      | ex τ2 c fs => exact h
theorem wps_for {src : Tau → M Itm} {tg : TgD} {body : SX} : wps (forS src tg body) τ L k = wp (src τ) L (k.ex τ) (fun it L1 => wps (forG it.2 tg body it.1) τ L1 k) := wps_eThen
theorem wps_iterW {c : Tau → M Bool} {body : SX} (J : Nat → Tau → List MO → Prop)
    (hs : ∀ n τ L, J n τ L → wp (c τ) L (k.ex τ) (fun t L1 => if t = true then wps body τ L1 { k with nx := fun τ L => ∃ m, m < n ∧ J m τ L, ct := fun τ L => ∃ m, m < n ∧ J m τ L, bk := k.nx } else k.nx τ L1)) :
    ∀ (n : Nat) {τ : Tau} {L : List MO}, J n τ L → ∃ r, iterW c body (n + 1) τ L = some r ∧ (match r with
      | (.nx τ1, L1) => k.nx τ1 L1
      | (.rt d, L1) => k.rt d L1
      | (.bk τ1, L1) => k.bk τ1 L1
      | (.ct τ1, L1) => k.ct τ1 L1
      | (.ex τ1 c fs, L1) => k.ex τ1 c fs L1) := by
  intro n
  induction n using Nat.strongRecOn with
  | _ n ih =>
    intro τ L hj
    have h := hs n τ L hj
    unfold iterW
    unfold wp at h
    cases e : c τ L with
    | none => rw [e] at h; exact h.elim
    | some r =>
      obtain ⟨r, L1⟩ := r
      rw [e] at h
      cases r with
      | ex cc fs => exact ⟨_, rfl, h⟩
      | ok t =>
        cases t with
        | false => exact ⟨_, rfl, h⟩
        | true =>
          dsimp only at h ⊢
          rw [if_pos rfl] at h
          unfold wps at h
          cases eb : body τ L1 with
          | none => rw [eb] at h; exact h.elim
          | some r =>
            obtain ⟨r, L2⟩ := r
            rw [eb] at h
            cases r with
            | nx τ2 =>
              obtain ⟨m, hm, hj2⟩ := h
              obtain ⟨r, e2, h2⟩ := ih m hm hj2
              exact ⟨r, iterW_le (by omega) e2, h2⟩
            | ct τ2 =>
              obtain ⟨m, hm, hj2⟩ := h
              obtain ⟨r, e2, h2⟩ := ih m hm hj2
              exact ⟨r, iterW_le (by omega) e2, h2⟩
            | bk τ2 => exact ⟨_, rfl, h⟩
            | rt d => exact ⟨_, rfl, h⟩
            | ex τ2 c fs => exact ⟨_, rfl, h⟩
theorem wps_while {c : Tau → M Bool} {body : SX} (J : Nat → Tau → List MO → Prop) (n : Nat) (h0 : J n τ L)
    (hs : ∀ n τ L, J n τ L → wp (c τ) L (k.ex τ) (fun t L1 => if t = true then wps body τ L1 { k with nx := fun τ L => ∃ m, m < n ∧ J m τ L, ct := fun τ L => ∃ m, m < n ∧ J m τ L, bk := k.nx } else k.nx τ L1)) : wps (whileS c body) τ L k := by
  obtain ⟨r, e, h⟩ := wps_iterW J hs n h0
  unfold wps
  rw [whileS_of _ e]
  obtain ⟨r, L1⟩ := r
  cases r <;> exact h
/-! ### defs -/
/-- what a def's end asks -/
def endQ (keep : Bool) (L : List MO) (Q : D → List MO → Prop) (d : D) (L1 : List MO) : Prop := match d with
  | .v p => ∃ Lb X, L1 = Lb ++ X ∧ Lb.length = L.length ∧ Older L Lb ∧ Q (.v p) Lb
  | .r n => ∃ Lb X, L1 = Lb ++ X ∧ Lb.length = L.length ∧ Older L Lb ∧ (if n < L.length then Q (.r n) Lb else ∃ xs, X[n - L.length]? = some (.lst xs) ∧ (if keep = true then Q (.r L.length) (Lb ++ [.lst xs]) else Q (.v (.lst xs)) Lb))
theorem wp_scope {keep : Bool} {N : Nat} {s : SX} {ds : List D} {Q : D → List MO → Prop} (h : wps s (ds.map some ++ List.replicate (N - ds.length) none) L ⟨fun _ L1 => endQ keep L Q (.v .non) L1, endQ keep L Q, fun _ _ => False, fun _ _ => False, fun _ c fs L1 => ∃ Lb X, L1 = Lb ++ X ∧ Lb.length = L.length ∧ Older L Lb ∧ E c fs Lb⟩) :
    wp (scopeF keep (bodyF N s) ds) L E Q := by
  unfold wps at h
  have tk : ∀ {Lb X : List MO}, Lb.length = L.length → (Lb ++ X).take L.length = Lb := fun {Lb X} e => by rw [← e, List.take_left']; rfl
  have val : ∀ {p : P} {L1 : List MO}, bodyF N s ds L = some (.ok (.v p), L1) → endQ keep L Q (.v p) L1 → wp (scopeF keep (bodyF N s) ds) L E Q := fun {p L1} e h => by
    obtain ⟨Lb, X, h1, h2, h3, h4⟩ := h
    subst h1
    rw [wp_of (scope_v e (older_app X h3)), tk h2]
    exact h4
  cases e : s (ds.map some ++ List.replicate (N - ds.length) none) L with
  | none => rw [e] at h; exact h.elim
  | some r =>
    obtain ⟨r, L1⟩ := r
    rw [e] at h
    cases r with
    | nx τ1 => exact val (body_nx e) h
    | bk => exact h.elim
    | ct => exact h.elim
    | ex τ1 c fs =>
      obtain ⟨Lb, X, h1, h2, h3, h4⟩ := h
      subst h1
      have eb := body_ex e
      unfold wp scopeF
      rw [eb]
      dsimp only
      rw [if_pos (older_app X h3), tk h2]
      exact h4
    | rt d =>
      cases d with
      | v p => exact val (body_rt e) h
      | r n =>
        obtain ⟨Lb, X, h1, h2, h3, h4⟩ := h
        subst h1
        have eb := body_rt e
        unfold wp scopeF
        rw [eb]
        dsimp only
        rw [if_pos (older_app X h3), tk h2]
        by_cases hn : n < L.length
        · rw [if_pos hn] at h4 ⊢
          exact h4
        · rw [if_neg hn] at h4 ⊢
          obtain ⟨xs, h5, h6⟩ := h4
          rw [List.getElem?_append_right (by omega), h2, h5]
          dsimp only
          cases keep with
          | true => rw [if_pos rfl] at h6 ⊢; exact h6
          | false => rw [if_neg Bool.false_ne_true] at h6 ⊢; exact h6
/-- .. of a def that keeps all it made -/
theorem wp_body {N : Nat} {s : SX} {ds : List D} {Q : D → List MO → Prop} (h : wps s (ds.map some ++ List.replicate (N - ds.length) none) L ⟨fun _ L1 => Q (.v .non) L1, Q, fun _ _ => False, fun _ _ => False, fun _ c fs L1 => E c fs L1⟩) : wp (bodyF N s ds) L E Q := by
  unfold wps at h
  unfold wp bodyF
  cases e : s (ds.map some ++ List.replicate (N - ds.length) none) L with
  | none => rw [e] at h; exact h.elim
  | some r =>
    obtain ⟨r, L1⟩ := r
    rw [e] at h
    cases r <;> exact h
/-! ### tries -/
theorem wps_try {tab : List Nat} {zs : List Clz} {sb : SX} (h : wps sb τ L { k with ex := fun τ1 c fs L1 => c ∈ tab ∧ wps (clS zs c fs) τ1 L1 k }) : wps (tryS tab zs sb) τ L k := by
  unfold wps tryS at *
  cases e : sb τ L with
  | none => rw [e] at h; exact h
  | some r =>
    obtain ⟨r, L1⟩ := r
    rw [e] at h
    cases r with
    | nx => exact h
    | rt => exact h
    | bk => exact h
    | ct => exact h
    | ex τ1 c fs =>
      obtain ⟨h1, h2⟩ := h
      dsimp only
      rw [if_pos h1]
      exact h2
theorem wps_cls_here {z : Clz} {zs : List Clz} {c : Nat} {fs : List P} (h : subE c z.c = true) : wps (clS (z :: zs) c fs) τ L k = wps (clOne z 0 0 c fs) τ L k := by
  unfold wps clS
  rw [if_pos h]
theorem wps_cls_next {z : Clz} {zs : List Clz} {c : Nat} {fs : List P} (h : subE c z.c = false) : wps (clS (z :: zs) c fs) τ L k = wps (clS zs c fs) τ L k := by
  unfold wps
  rw [show clS (z :: zs) c fs = if subE c z.c = true then clOne z 0 0 c fs else clS zs c fs from rfl, h]
  rfl
theorem wps_cls_out {c : Nat} {fs : List P} : wps (clS [] c fs) τ L k = k.ex τ c fs L := rfl
theorem wps_clOne {z : Clz} {c i : Nat} {fs : List P} (hi : z.i = some i) (h : wps (z.su 0 0 c) (τ.set i (some (.v (.exn c (.int 0 :: .int 0 :: fs))))) L ⟨fun τ1 L1 => k.nx (τ1.set i none) L1, k.rt, fun τ1 L1 => k.bk (τ1.set i none) L1, fun τ1 L1 => k.ct (τ1.set i none) L1, fun _ _ _ _ => False⟩) : wps (clOne z 0 0 c fs) τ L k := by
  unfold wps clOne at *
  rw [hi]
  dsimp only
  have e0 : ((0 : Nat) : Int) = 0 := rfl
  cases e : z.su 0 0 c (τ.set i (some (.v (.exn c (.int 0 :: .int 0 :: fs))))) L with
  | none => rw [e] at h; exact h
  | some r =>
    obtain ⟨r, L1⟩ := r
    rw [e] at h
    unfold dropO
    cases r <;> first | exact h | exact h.elim
end
end DN

end
section
set_option Elab.async false
set_option linter.all false
set_option maxRecDepth 100000
set_option maxHeartbeats 4000000
/-! E10: truth of lists and tuples; f-strings; str(int); max of two; methods with one keyword-only parameter; a def that calls itself. -/
namespace DN
open PySem PySem.Spec PyProof.Rows L2 He NdefX
section
variable {X : Cx} {g : G} {W : WX} {a b c e o : Expr} {fa fb fc f : Tau → M D} {ta tb : Tau → M Bool} {pos p apos : Pos} {es : List Expr} {fs : Tau → M (List D)} {k n : Nat} {fn : List D → M D} {s1 : SX}
/-! ### truth -/
def truB : D → M Bool := fun d L => match d with
  | .v (.bl t) => some (.ok t, L)
  | .v .non => some (.ok false, L)
  | d => (asS L d).map fun xs => (.ok (!xs.isEmpty), L)
def tstT (f : Tau → M D) (τ : Tau) : M Bool := f τ >>= truB
theorem isA_empty {F : Hp} : ∀ {vs : List V} {ps : List P}, IsA g F vs ps → ps.isEmpty = vs.isEmpty
  | _, _, .nil => rfl
  | _, _, .cons _ _ => rfl
theorem truB_post {F : Hp} {ρ : Nat → Addr} {L : List MO} {H : Hp} {x : V} {d : D} {W : Value → Option Addr → Hp → Prop} {Q : Bool → Hp → Prop} (hR : R g F ρ L H) (hx : IsD g F ρ L.length x d) (hp : Post g relB F ρ L.length W Q (truB d L)) : ∃ t, TruV g.K x H t ∧ Q t H := by
  have seqs : Post g relB F ρ L.length W Q ((asS L d).map fun xs => (Res.ok (!xs.isEmpty), L)) → ∃ t, TruV g.K x H t ∧ Q t H := fun hp => by
    match e1 : asS L d with
    | none => rw [e1] at hp; exact False.elim hp
    | some xs =>
      rw [e1] at hp
      obtain ⟨p, ws, rfl, h1, h2⟩ := asS_sq hR hx e1
      refine ⟨!xs.isEmpty, ?_, hp F ρ _ H Ext.refl hR rfl⟩
      rw [isA_empty h2]
      rcases h1 with h1 | ⟨h1, _⟩
      · exact .inl ⟨ws, h1, rfl⟩
      · exact .inr (.inl ⟨ws, h1, rfl⟩)
  cases d with
  | r n => exact seqs hp
  | v p =>
    cases p with
    | bl t => exact ⟨t, by rw [Is.inv_bl hx]; rfl, hp F ρ _ H Ext.refl hR rfl⟩
    | non => exact ⟨false, by rw [Is.inv_non hx]; rfl, hp F ρ _ H Ext.refl hR rfl⟩
    | _ => exact seqs hp
theorem dt_tru (hK : X.K = g.K) (h : PE X e (tE g W f)) (he : ∀ whole, isTrue e X.env whole = (do let v ← whole; standAt e.pos; holding [v] (truthy v)) := by intro _; rfl) : PT X e (tT g W (tstT f)) := by
  refine PT.weak (pt_truth h he) fun σ H Q q => ?_
  refine (Sat.bindV q).mono fun x H1 h1 => ?_
  obtain ⟨d, F, ρ, τ, L, hR, hS, hc, hp⟩ := h1
  rw [hK]
  exact truB_post hR (hc (x, d) (by simp)) hp
/-! ### f-strings, str -/
def fmtB : D → M D := fun d L => match d with
  | .v (.str y) => if y.length ≤ sizeLine then some (.ok (.v (.str y)), L) else none
  | .v (.int i) => if i.natAbs.log2 < 1920 then some (.ok (.v (.str (toString i))), L) else none
  | _ => none
theorem de_fmt (he : PE X e (tE g W f)) : PE X (.FormattedValue e (-1) none pos) (tE g W (un fmtB f)) := by
  refine PE.weak (pe_fmt he) fun σ H Q h => ?_
  refine (Sat.bindV h).mono fun x H1 h1 => ?_
  obtain ⟨d, F, ρ, τ, L, hR, hS, hc, hp⟩ := h1
  have hx := hc (x, d) (by simp)
  unfold fmtB at hp
  split at hp
  · rename_i y
    dsimp only at hp
    by_cases hz : y.length ≤ sizeLine
    · rw [if_pos hz] at hp
      exact .inl ⟨y, Is.inv_str hx, hz, hp.val hR (Is.str _)⟩
    · rw [if_neg hz] at hp; exact False.elim hp
  · rename_i i
    dsimp only at hp
    by_cases hz : i.natAbs.log2 < 1920
    · rw [if_pos hz] at hp
      exact .inr ⟨i, Is.inv_int hx, hz, hp.val hR (Is.str _)⟩
    · rw [if_neg hz] at hp; exact False.elim hp
  · exact False.elim hp
def jsM (acc : Str) (k : Str → M D) : D → M D := fun d L => match d with
  | .v (.str y) => if (acc ++ y).length ≤ sizeLine then k (acc ++ y) L else none
  | _ => none
/-- the parts of an f-string -/
def jsD : List (Tau → M D) → Str → Tau → M D
  | [], acc, _ => pure (.v (.str acc))
  | f :: fs, acc, τ => f τ >>= jsM acc fun y => jsD fs y τ
inductive PJD (X : Cx) (g : G) (W : WX) : List Expr → List (Tau → M D) → Prop where
  | nil : PJD X g W [] []
  | cons {e : Expr} {f : Tau → M D} {es : List Expr} {fs : List (Tau → M D)} (h : PE X e (tE g W f)) (r : PJD X g W es fs) : PJD X g W (e :: es) (f :: fs)
theorem PJD.pj {es : List Expr} {fs : List (Tau → M D)} (h : PJD X g W es fs) : PJ X es (fs.map (tE g W)) := by
  induction h with
  | nil => exact .nil
  | cons h _ ih => exact .cons h ih
theorem js_sat : ∀ (fs : List (Tau → M D)) (acc : Str) {ctx : List (V × D)} {σ : L2.St} {H : Hp} {Q : VK}, Sat g (relV g) W ctx (fun τ => jsD fs acc τ) σ H Q → tJs (fs.map (tE g W)) acc σ H fun out H1 => Q (.str out) H1
  | [], acc, ctx, σ, H, Q, h => by
    obtain ⟨F, ρ, τ, L, hR, hS, hc, hp⟩ := h
    exact hp F ρ _ H Ext.refl hR (Is.str _)
  | f :: fs, acc, ctx, σ, H, Q, h => by
    have h' : Sat g (relV g) W ctx (fun τ => f τ >>= jsM acc fun y => jsD fs y τ) σ H Q := h
    refine (Sat.bindV h').mono fun x H1 h1 => ?_
    obtain ⟨d, F, ρ, τ, L, hR, hS, hc, hp⟩ := h1
    have hx := hc (x, d) (by simp)
    unfold jsM at hp
    split at hp
    · rename_i y
      dsimp only at hp
      by_cases hz : (acc ++ y).length ≤ sizeLine
      · rw [if_pos hz] at hp
        exact ⟨y, Is.inv_str hx, hz, js_sat fs (acc ++ y) (ctx := []) ⟨F, ρ, τ, L, hR, hS, (fun y hy => by cases hy), hp⟩⟩
      · rw [if_neg hz] at hp; exact False.elim hp
    · exact False.elim hp
theorem de_joined {v1 v2 : Expr} {rest : List Expr} {fs : List (Tau → M D)} (h : PJD X g W (v1 :: v2 :: rest) fs) : PE X (.JoinedStr (v1 :: v2 :: rest) pos) (tE g W (jsD fs Str.empty)) :=
  PE.weak (pe_joined h.pj) fun σ H Q h => js_sat fs Str.empty h
def strD : List D → M D := oneD fun d L => match d with
  | .v (.int i) => if i.natAbs.log2 < 1920 then some (.ok (.v (.str (toString i))), L) else none
  | _ => none
theorem cd_str : CallD g strD (fun xs H Q => ∃ i, xs = [.int i] ∧ i.natAbs.log2 < 1920 ∧ Q (.str (toString i)) H) := by
  refine cd_one fun F ρ L H x d W Q hR hx hp => ?_
  cases d with
  | r n => exact False.elim hp
  | v p =>
    cases p with
    | int i =>
      dsimp only at hp
      by_cases hz : i.natAbs.log2 < 1920
      · rw [if_pos hz] at hp
        exact ⟨i, by rw [Is.inv_int hx], hz, hp.val hR (.str _)⟩
      · rw [if_neg hz] at hp; exact False.elim hp
    | _ => exact False.elim hp
def max2D : List D → M D := fun ds L => match ds with
  | [.v (.int i), .v (.int j)] => some (.ok (.v (.int (if j > i then j else i))), L)
  | _ => none
theorem cd_max2 : CallD g max2D (fun xs H Q => ∃ i j, xs = [.int i, .int j] ∧ Q (.int (if j > i then j else i)) H) := by
  intro F ρ L H vs ds W Q hR ha hp
  unfold max2D at hp
  split at hp
  · rename_i i j
    obtain ⟨v, w, rfl, h1, h2⟩ := rel2 ha
    exact ⟨i, j, by rw [Is.inv_int h1, Is.inv_int h2], hp.val hR (Is.int _)⟩
  · exact False.elim hp
/-! ### a keyword-only parameter -/
/-- the keyword-only default of a def of the text: a whole number -/
def kwB (q : Str × Option Str) (x : Str) (z : Int) : Chk := fun K => match K.lookup (fAd K q) with
  | some ⟨_, _, .func fd, _⟩ => (match fd.kwdefaults with
    | .ref D => (match PySem.W.nsIn K D x with
      | some (some (.int i _)) => decide (i = z)
      | _ => false)
    | _ => false)
  | _ => false
/-- a class's method with one keyword-only parameter (kw, z if it lacks) -/
structure KOk (P0 : Program) (w : World) (K : PySem.W.Frag) (mg : Str → Option Value) (base : Heap) (g : G) (m : Str) (k : Nat) (c n : Nat) (kw : Str) (z : Int) (fn : List D → M D) : Prop where
  ex : ∃ (fad : Addr) (fd : FuncData) (ps : List Str), Meth K (g.cl c) m fad ∧ FnOk P0 w K mg base (L2.CX P0 w) k fad fd ps (spF g (n + 1) fn) ∧ (∃ ds, Vals [V.int z] ds ∧ Binds K fd ps ds) ∧ KBn K fd ps n [kw] (fun us ws => us ++ ws) (fun vs zs => vs ++ zs)
  no : ∀ i ∈ flT c, nmT i ≠ m
def atC {α : Type} (c : Nat) (x : D) (m : M α) : M α := fun L => if clsOf L x = some c then m L else none
/-- o.m(..) without it; with it -/
def methZ (c n : Nat) (z : Int) (fn : List D → M D) (f : Tau → M D) (fs : Tau → M (List D)) (τ : Tau) : M D := do
  let x ← f τ
  atC c x do
    let ds ← fs τ
    arN (n + 1) fn (x :: (ds ++ [.v (.int z)]))
def methK (c n : Nat) (fn : List D → M D) (f : Tau → M D) (fs fk : Tau → M (List D)) (τ : Tau) : M D := do
  let x ← f τ
  atC c x do
    let ds ← fs τ
    let ks ← fk τ
    if (x :: ds).length = n ∧ ks.length = 1 then fn (x :: (ds ++ ks)) else M.stuck
def tMZ (g : G) (W : WX) (n c : Nat) (m : Str) (z : Int) (fn : List D → M D) (ta : TE) (t : TA) : TE := fun σ H Q => ta σ H fun x H1 => ∃ a dx fs, x = .ref a ∧ H1 a = some (.ins (g.cl c) dx fs) ∧ Cls g.K (g.cl c) ∧ fs.lookup m = none ∧ t σ H1 fun vs H2 => spF g (n + 1) fn (x :: (vs ++ [.int z])) H2 Q (WE W σ)
def tMK (g : G) (W : WX) (n c : Nat) (m : Str) (fn : List D → M D) (ta : TE) (t tk : TA) : TE := fun σ H Q => ta σ H fun x H1 => ∃ a dx fs, x = .ref a ∧ H1 a = some (.ins (g.cl c) dx fs) ∧ Cls g.K (g.cl c) ∧ fs.lookup m = none ∧ t σ H1 fun vs H2 => tk σ H2 fun zs H3 => (x :: vs).length = n ∧ zs.length = 1 ∧ spF g (n + 1) fn (x :: (vs ++ zs)) H3 Q (WE W σ)
theorem pe_methZ {c n : Nat} {m kw : Str} {z : Int} {ta : TE} {t : TA} {pl : Sem Bool} (hK : X.K = g.K) (MO : KOk X.prog X.w X.K X.mg X.base g m k c n kw z fn) (hr : Room k X.A) (tk : Takes X W) (he : PE X o ta) (ha : PA X (e :: es) t)
    (hst : starEach (e :: es) X.env = (false, eval e X.env) :: starEach es X.env := by rfl) (hpl : (backTo pos (starEach es X.env)).any (·.1) = false := by rfl)
    (ht : eval (.Call (.Attribute o m apos) (e :: es) [] pos) X.env = (do
      let v ← eval o X.env
      standAt apos.atName
      let (mf, first) ← holding [v] (getMethod v m pl)
      callWith pos mf first (backTo pos (starEach (e :: es) X.env)) (backToKw pos (keywordEach [] X.env))) := by rfl) :
    PE X (.Call (.Attribute o m apos) (e :: es) [] pos) (tMZ g W n c m z fn ta t) := by
  obtain ⟨⟨fad, fd, ps, hm, FO, ⟨ds, hd, hb⟩, _⟩, _⟩ := MO
  refine ⟨fun pins s σ H Q I h => PySem.W.methodCall_KW (pl := pl) (thn (he.run pins s σ H _ I h) fun u s1 hu => ?_) ht⟩
  obtain ⟨x, H1, I1, rx, ad, dx, fl, ex, ea, cl, lk, q⟩ := hu
  subst ex
  obtain rfl : u = Value.ref ad := rx
  rw [← hK] at cl
  refine getmeth_ok I1 ea cl hm lk (PySem.W.callWith_K (first := [.ref ad]) (h₀ := X.base) I.ok.mod.kin hm.kp (thn (ha.run pos pins s1 σ H1 _ I1 q) fun us s2 hus => ?_) hst hpl)
  obtain ⟨ws, H2, I2, r, q2⟩ := hus
  exact ⟨I2.kIn, run_fnSD (E := fun σ => WE W σ) (us := .ref ad :: us) (vs := .ref ad :: ws) FO hr hb hd (passAt tk σ) I2 (.cons rfl r) q2⟩
theorem run_kw {CX : CXT} {fad : Addr} {fd : FuncData} {ps ks : List Str} {sp : Sp} {pins : List (Addr × Obj)} {σ : L2.St} {H : Hp} {s : Shared} {Q : VK} {E : XK} {us ws : List Value} {vs zs : List V} {gg : List Value → List Value → List Value} {gV : List V → List V → List V}
    (FO : FnOk X.prog X.w X.K X.mg X.base CX k fad fd ps sp) (hr : Room k X.A) (hb : KBn X.K fd ps n ks gg gV) (hx : PassesAt CX X σ E) (I : Inv X pins σ H s) (r : Vals vs us) (rz : Vals zs ws) (l1 : vs.length = n) (l2 : zs.length = ks.length) (h : sp (gV vs zs) H Q E) :
    wpAny (model X.prog X.w) X.A (call (.ref fad) us (ks.zip ws)) (EP X pins σ Q) X.xe s := by
  have e1 : us.length = n := r.length.symm.trans l1
  have e2 : ws.length = ks.length := rz.length.symm.trans l2
  refine wpAny_call (codeAny_mono (FO.run X.A X.stack s H ⟨us, ks.zip ws⟩ (gg us ws) (gV vs zs) Q E hr I.env0 (hb.to s us ws I.kIn e1 e2) (hb.rel r rz) h) fun y s' hq => ?_)
  match y, hq with
  | .error e, hq => exact hx pins H s e s' I hq
  | .ok (.ret u), hq => exact I.after hq
  | .ok .next, hq => exact hq.elim
  | .ok .brk, hq => exact hq.elim
  | .ok .cont, hq => exact hq.elim
theorem pe_methK {c n : Nat} {m kw : Str} {z : Int} {ta : TE} {t tk : TA} {pl : Sem Bool} {kws : List Keyword} (hK : X.K = g.K) (MO : KOk X.prog X.w X.K X.mg X.base g m k c n kw z fn) (hr : Room k X.A) (tx : Takes X W) (he : PE X o ta) (ha : PA X (e :: es) t) (hkw : PK X kws tk)
    (hall : (backToKw pos (keywordEach kws X.env)).all (·.1.isSome) = true := by rfl) (hks : (backToKw pos (keywordEach kws X.env)).filterMap (·.1) = [kw] := by rfl)
    (hst : starEach (e :: es) X.env = (false, eval e X.env) :: starEach es X.env := by rfl) (hpl : ((backTo pos (starEach (e :: es) X.env)).any (·.1) || (backToKw pos (keywordEach kws X.env)).any (·.1.isNone)) = false := by rfl)
    (ht : eval (.Call (.Attribute o m apos) (e :: es) kws pos) X.env = (do
      let v ← eval o X.env
      standAt apos.atName
      let (mf, first) ← holding [v] (getMethod v m pl)
      callWith pos mf first (backTo pos (starEach (e :: es) X.env)) (backToKw pos (keywordEach kws X.env))) := by rfl) :
    PE X (.Call (.Attribute o m apos) (e :: es) kws pos) (tMK g W n c m fn ta t tk) := by
  obtain ⟨⟨fad, fd, ps, hm, FO, _, hb⟩, _⟩ := MO
  refine ⟨fun pins s σ H Q I h => PySem.W.methodCall_KW (pl := pl) (thn (he.run pins s σ H _ I h) fun u s1 hu => ?_) ht⟩
  obtain ⟨x, H1, I1, rx, ad, dx, fl, ex, ea, cl, lk, q⟩ := hu
  subst ex
  obtain rfl : u = Value.ref ad := rx
  rw [← hK] at cl
  refine getmeth_ok I1 ea cl hm lk (PySem.W.callWith_KW (first := [.ref ad]) (h₀ := X.base) I.ok.mod.kin hm.kp hall (thn (ha.run pos pins s1 σ H1 _ I1 q) fun us s2 hus => ?_) hpl hst)
  obtain ⟨vs, H2, I2, r, q2⟩ := hus
  refine thn (hkw.run pos pins s2 σ H2 _ I2 q2) fun ws s3 hws => ?_
  obtain ⟨zs, H3, I3, rz, l1, l2, q3⟩ := hws
  refine ⟨I3.kIn, ?_⟩
  rw [hks]
  exact run_kw (us := .ref ad :: us) (vs := .ref ad :: vs) FO hr hb (passAt tx σ) I3 (.cons rfl r) rz l1 l2 q3
theorem pk_weak {kws : List Keyword} {t t' : TA} (h : PK X kws t) (w : ∀ σ H Q, t' σ H Q → t σ H Q) : PK X kws t' := ⟨fun pos pins s σ H Q I q => h.run pos pins s σ H Q I (w σ H Q q)⟩
/-- keywords' values -/
theorem dk_nil : PK X [] (tA g W nilA) := pk_weak pk_nil fun σ H Q h => by
  obtain ⟨F, ρ, τ, L, hR, hS, hc, hp⟩ := h
  exact hp F ρ _ H Ext.refl hR .nil
theorem dk_cons {nm : Option Str} {kp : Pos} {kws : List Keyword} (ha : PE X e (tE g W f)) (hr : PK X kws (tA g W fs)) : PK X (⟨nm, e, kp⟩ :: kws) (tA g W (consA f fs)) := pk_weak (pk_cons ha hr) fun σ H Q h => by
  refine (Sat.bindV h).mono fun x H1 h1 => ?_
  obtain ⟨d, h1⟩ := h1
  refine (Sat.bind (ra := relA g) h1).mono fun xs H2 h2 => ?_
  obtain ⟨F, ρ, τ, L, ds, hR, hS, hc, hr, hp⟩ := h2
  exact hp F ρ _ H2 Ext.refl hR (.cons (hc (x, d) (by simp)) hr)
theorem Sat.atC {α β : Type} {rel : Hp → (Nat → Addr) → Nat → β → α → Prop} {c : Nat} {m : Str} {fm : Tau → D → M α} {σ : L2.St} {H : Hp} {Q : β → Hp → Prop} (hno : ∀ i ∈ flT c, nmT i ≠ m) (h : Sat g rel W [] (fun τ => f τ >>= fun x => DN.atC c x (fm τ x)) σ H Q) :
    tE g W f σ H fun x H1 => ∃ a dx fs d, x = .ref a ∧ H1 a = some (.ins (g.cl c) dx fs) ∧ Cls g.K (g.cl c) ∧ fs.lookup m = none ∧ Sat g rel W [(x, d)] (fun τ => fm τ d) σ H1 Q := by
  refine (Sat.bindV h).mono fun x H1 h1 => ?_
  obtain ⟨d, F, ρ, τ, L, hR, hS, hc, hp⟩ := h1
  have hx := hc (x, d) (by simp)
  have hp : Post g rel F ρ L.length (fun c d H' => W c d σ H') Q (if clsOf L d = some c then fm τ d L else none) := hp
  by_cases e : clsOf L d = some c
  · rw [if_pos e] at hp
    obtain ⟨ad, dx, fl, ex, ea, cf, hfl⟩ := clsOf_at hR hx e
    refine ⟨ad, dx, fl, d, ex, ea, cf.cls, lookup_none fun y hy z => ?_, F, ρ, τ, L, hR, hS, hc, hp⟩
    obtain ⟨i, hi, q⟩ := hfl y hy
    exact hno i hi (q.symm.trans z)
  · rw [if_neg e] at hp
    exact False.elim hp
theorem de_methZ {c n : Nat} {m kw : Str} {z : Int} {pl : Sem Bool} (hK : X.K = g.K) (MO : KOk X.prog X.w X.K X.mg X.base g m k c n kw z fn) (hr : Room k X.A) (tk : Takes X W) (he : PE X o (tE g W f)) (ha : PA X (e :: es) (tA g W fs))
    (hst : starEach (e :: es) X.env = (false, eval e X.env) :: starEach es X.env := by rfl) (hpl : (backTo pos (starEach es X.env)).any (·.1) = false := by rfl)
    (ht : eval (.Call (.Attribute o m apos) (e :: es) [] pos) X.env = (do
      let v ← eval o X.env
      standAt apos.atName
      let (mf, first) ← holding [v] (getMethod v m pl)
      callWith pos mf first (backTo pos (starEach (e :: es) X.env)) (backToKw pos (keywordEach [] X.env))) := by rfl) :
    PE X (.Call (.Attribute o m apos) (e :: es) [] pos) (tE g W (methZ c n z fn f fs)) :=
  PE.weak (pe_methZ (pl := pl) hK MO hr tk he ha hst hpl ht) fun σ H Q h => by
    refine (Sat.atC (m := m) MO.no h).mono fun x H1 h1 => ?_
    obtain ⟨a, dx, fl, d, e1, e2, e3, e4, h2⟩ := h1
    refine ⟨a, dx, fl, e1, e2, e3, e4, (Sat.bind (ra := relA g) h2).mono fun xs H2 h3 => ?_⟩
    obtain ⟨F, ρ, τ, L, ds, hR, hS, hc, ha, hp⟩ := h3
    unfold arN at hp
    by_cases hz : (d :: (ds ++ [.v (.int z)])).length = n + 1
    · rw [if_pos hz] at hp
      have key : ∀ {vs : List V} {ds : List D}, relA g F ρ L.length vs ds → relA g F ρ L.length (vs ++ [.int z]) (ds ++ [.v (.int z)]) := by
        intro vs ds h
        induction h with
        | nil => exact .cons (Is.int z) .nil
        | cons h _ ih => exact .cons h ih
      exact ⟨F, ρ, L, _, hR, .cons (hc (x, d) (by simp)) (key ha), hz, hp⟩
    · rw [if_neg hz] at hp
      exact False.elim hp
theorem de_methK {c n : Nat} {m kw : Str} {z : Int} {pl : Sem Bool} {kws : List Keyword} {fk : Tau → M (List D)} (hK : X.K = g.K) (MO : KOk X.prog X.w X.K X.mg X.base g m k c n kw z fn) (hr : Room k X.A) (tx : Takes X W) (he : PE X o (tE g W f)) (ha : PA X (e :: es) (tA g W fs)) (hkw : PK X kws (tA g W fk))
    (hall : (backToKw pos (keywordEach kws X.env)).all (·.1.isSome) = true := by rfl) (hks : (backToKw pos (keywordEach kws X.env)).filterMap (·.1) = [kw] := by rfl)
    (hst : starEach (e :: es) X.env = (false, eval e X.env) :: starEach es X.env := by rfl) (hpl : ((backTo pos (starEach (e :: es) X.env)).any (·.1) || (backToKw pos (keywordEach kws X.env)).any (·.1.isNone)) = false := by rfl)
    (ht : eval (.Call (.Attribute o m apos) (e :: es) kws pos) X.env = (do
      let v ← eval o X.env
      standAt apos.atName
      let (mf, first) ← holding [v] (getMethod v m pl)
      callWith pos mf first (backTo pos (starEach (e :: es) X.env)) (backToKw pos (keywordEach kws X.env))) := by rfl) :
    PE X (.Call (.Attribute o m apos) (e :: es) kws pos) (tE g W (methK c n fn f fs fk)) :=
  PE.weak (pe_methK (pl := pl) hK MO hr tx he ha hkw hall hks hst hpl ht) fun σ H Q h => by
    refine (Sat.atC (m := m) MO.no h).mono fun x H1 h1 => ?_
    obtain ⟨a, dx, fl, d, e1, e2, e3, e4, h2⟩ := h1
    refine ⟨a, dx, fl, e1, e2, e3, e4, (Sat.bind (ra := relA g) h2).mono fun xs H2 h3 => ?_⟩
    obtain ⟨F, ρ, τ, L, ds, hR, hS, hc, ha, hp⟩ := h3
    have h4 : Sat g (relV g) W ((x, d) :: (xs.zip ds)) (fun τ => fk τ >>= fun ks => if (d :: ds).length = n ∧ ks.length = 1 then fn (d :: (ds ++ ks)) else M.stuck) σ H2 Q := ⟨F, ρ, τ, L, hR, hS, fun y hy => by
      rcases List.mem_cons.mp hy with q | q
      · rw [q]; exact hc (x, d) (by simp)
      · have key : ∀ {vs : List V} {ds : List D}, relA g F ρ L.length vs ds → ∀ y ∈ vs.zip ds, IsD g F ρ L.length y.1 y.2 := by
          intro vs ds h
          induction h with
          | nil => intro y hy; cases hy
          | cons h _ ih =>
            intro y hy
            rcases List.mem_cons.mp hy with q | q
            · rw [q]; exact h
            · exact ih y q
        exact key ha y q, hp⟩
    refine (Sat.bind (ra := relA g) h4).mono fun zs H3 h5 => ?_
    have hl := prd_len ha
    obtain ⟨F, ρ, τ, L, ks, hR, hS, hc, hk, hp⟩ := h5
    have ha' : relA g F ρ L.length xs ds := by
      have key : ∀ {vs : List V} {ds : List D}, vs.length = ds.length → (∀ y ∈ vs.zip ds, IsD g F ρ L.length y.1 y.2) → relA g F ρ L.length vs ds := by
        intro vs
        induction vs with
        | nil => intro ds e _; cases ds with
          | nil => exact .nil
          | cons _ _ => cases e
        | cons v vs ih => intro ds e h; cases ds with
          | nil => cases e
          | cons d ds => exact .cons (h (v, d) (by simp)) (ih (by simpa using e) fun y hy => h y (by simp [hy]))
      exact key hl fun y hy => hc y (List.mem_cons_of_mem _ hy)
    by_cases hz : (d :: ds).length = n ∧ ks.length = 1
    · rw [if_pos hz] at hp
      have key : ∀ {vs : List V} {ds : List D} {zs : List V} {ks : List D}, relA g F ρ L.length vs ds → relA g F ρ L.length zs ks → relA g F ρ L.length (vs ++ zs) (ds ++ ks) := by
        intro vs ds zs ks h h'
        induction h with
        | nil => exact h'
        | cons h _ ih => exact .cons h ih
      refine ⟨by rw [List.length_cons, hl]; exact hz.1, by rw [prd_len hk]; exact hz.2, F, ρ, L, _, hR, .cons (hc (x, d) (by simp)) (key ha' hk), ?_, hp⟩
      have := hz.1
      have := hz.2
      simp only [List.length_cons, List.length_append] at *
      omega
    · rw [if_neg hz] at hp
      exact False.elim hp
theorem fund_of {K : PySem.W.Frag} {d : DX} {x : Str} {z : Int} {fd : FuncData} (F : Fun K (defName d.st) d.qual d.st (fAd K d.at_) fd) (h : kwB d.at_ x z K = true) : FunD K (defName d.st) d.qual (defArgs d.st) (defBody d.st) (defScope d.st) [] [(x, V.int z)] (fAd K d.at_) fd := by
  obtain ⟨oc, od, kV, doc, pm, an, cdv, ct, osl, e1, e2, e3⟩ := F.ex
  unfold kwB at h
  rw [e2] at h
  dsimp only at h
  subst e1
  refine ⟨⟨oc, od, .none, kV, doc, pm, an, cdv, ct, osl, rfl, e2, e3, .inl ⟨rfl, rfl⟩, .inr ?_⟩, F.kp⟩
  cases kV with
  | ref D =>
    have h' : (match PySem.W.nsIn K D x with
      | some (some (.int i _)) => decide (i = z)
      | _ => false) = true := h
    refine ⟨D, rfl, fun q hq => ?_⟩
    rw [List.mem_singleton.mp hq]
    split at h'
    · rename_i i t e
      exact ⟨_, e, t, by rw [of_decide_eq_true h']⟩
    · cases h'
  | _ => exact absurd (show false = true from h) (by decide)
theorem kok_of {P0 : Program} {w : World} {K : PySem.W.Frag} {mg : Str → Option Value} {base : Heap} {m kw : Str} {f : Addr} {fd : FuncData} {ps : List Str} {j c : Nat} {z : Int} (hm : Meth K (g.cl c) m f) (FO : FnOk P0 w K mg base (L2.CX P0 w) j f fd ps (spF g (n + 1) fn)) (hb : ∃ ds, Vals [V.int z] ds ∧ Binds K fd ps ds)
    (hk : KBn K fd ps n [kw] (fun us ws => us ++ ws) (fun vs zs => vs ++ zs)) {i : Nat} (hj : j ≤ i) (hno : ∀ q ∈ flT c, nmT q ≠ m) : KOk P0 w K mg base g m i c n kw z fn := ⟨⟨f, fd, ps, hm, FO.mono hj, hb, hk⟩, hno⟩
/-- a def that may call itself: at no depth it does nothing -/
theorem fn_zero {P0 : Program} {w : World} {K : PySem.W.Frag} {mg : Str → Option Value} {base : Heap} {k : Nat} {f : Addr} {fd : FuncData} {ps : List Str} (hn : ps.length = n) : FnOk P0 w K mg base (L2.CX P0 w) k f fd ps (spF g n fun _ => M.stuck) :=
  ⟨fun vs H Q E h => by
    obtain ⟨_, _, _, ds, _, _, _, hp⟩ := h
    exact False.elim hp, fun A outer s H args us vs Q E hr he hb hv hs => by
    obtain ⟨_, _, _, ds, _, _, _, hp⟩ := hs
    exact False.elim hp⟩
theorem SaysX.fun_ {fa : List Chk} {fn : List DX} {K : PySem.W.Frag} (c : SaysX fa fn K) (i : Nat) {d : DX} (h : fn[i]? = some d) (hcl : d.cl = []) : ∃ fd, Fun K (defName d.st) d.qual d.st (fAd K d.at_) fd := by
  obtain ⟨e, ok⟩ := c.val_ i h
  obtain ⟨kV, doc, pm, an, cdv, ct, F⟩ := dx_fun e ok hcl
  exact ⟨_, F⟩
end
end DN

end
section
set_option Elab.async false
set_option linter.all false
set_option maxRecDepth 100000
set_option maxHeartbeats 4000000
/-! E11: the wishes of expressions, one by one (for simp). -/
namespace DN
open PySem
open L2 (ixN atI)
section
variable {α β : Type} {L : List MO} {E : EX} {τ : Tau} {k : KK} {a b : SX} {fa fb fc f : Tau → M D} {ta tb : Tau → M Bool} {fs fk : Tau → M (List D)} {Q : D → List MO → Prop} {QB : Bool → List MO → Prop} {QA : List D → List MO → Prop}
def varW : Option (Option D) → (D → Prop) → Prop
  | some (some d), q => q d
  | _, _ => False
theorem varW_some {d : D} {q : D → Prop} : varW (some (some d)) q = q d := rfl
theorem wp_var {i : Nat} : wp (varD i τ) L E Q = varW τ[i]? fun d => Q d L := by
  unfold wp varD varW
  match τ[i]? with
  | none => rfl
  | some none => rfl
  | some (some d) => rfl
theorem wp_retD {d : D} : wp (retD d τ) L E Q = Q d L := rfl
theorem wp_bin {op : D → D → M D} : wp (DN.bin op fa fb τ) L E Q = wp (fa τ) L E fun x L1 => wp (fb τ) L1 E fun y L2 => wp (op x y) L2 E Q := by
  unfold DN.bin
  rw [wp_bind]
  simp only [wp_bind]
theorem wp_un {op : D → M D} : wp (un op f τ) L E Q = wp (f τ) L E fun x L1 => wp (op x) L1 E Q := wp_bind
theorem wp_app {op : List D → M D} : wp (appA op fs τ) L E Q = wp (fs τ) L E fun x L1 => wp (op x) L1 E Q := wp_bind
theorem wp_cons : wp (consA f fs τ) L E QA = wp (f τ) L E fun d L1 => wp (fs τ) L1 E fun ds L2 => QA (d :: ds) L2 := by
  unfold consA
  rw [wp_bind]
  simp only [wp_bind, wp_pure]
theorem wp_nil : wp (nilA τ) L E QA = QA [] L := rfl
theorem wp_tstD : wp (tstD f τ) L E QB = wp (f τ) L E fun d L1 => wp (asB d) L1 E QB := wp_bind
theorem wp_asB {t : Bool} : wp (asB (.v (.bl t))) L E QB = QB t L := rfl
theorem wp_tstT : wp (tstT f τ) L E QB = wp (f τ) L E fun d L1 => wp (truB d) L1 E QB := wp_bind
theorem wp_truB_bl {t : Bool} : wp (truB (.v (.bl t))) L E QB = QB t L := rfl
theorem wp_truB_tup {xs : List P} : wp (truB (.v (.tup xs))) L E QB = QB (!xs.isEmpty) L := rfl
theorem wp_truB_lst {xs : List P} : wp (truB (.v (.lst xs))) L E QB = QB (!xs.isEmpty) L := rfl
theorem wp_andB : wp (andB ta tb τ) L E QB = wp (ta τ) L E fun t L1 => if t = true then wp (tb τ) L1 E QB else QB false L1 := by
  unfold andB
  rw [wp_bind]
  congr 1
  funext t L1
  cases t <;> rfl
theorem wp_orB : wp (orB ta tb τ) L E QB = wp (ta τ) L E fun t L1 => if t = true then QB true L1 else wp (tb τ) L1 E QB := by
  unfold orB
  rw [wp_bind]
  congr 1
  funext t L1
  cases t <;> rfl
theorem wp_notB : wp (notB ta τ) L E QB = wp (ta τ) L E fun t L1 => QB (!t) L1 := by
  unfold notB
  rw [wp_bind]
  rfl
theorem wp_valB : wp (valB ta τ) L E Q = wp (ta τ) L E fun t L1 => Q (.v (.bl t)) L1 := by
  unfold valB
  rw [wp_bind]
  rfl
theorem wp_andV : wp (andV ta fb τ) L E Q = wp (ta τ) L E fun t L1 => if t = true then wp (fb τ) L1 E Q else Q (.v (.bl false)) L1 := by
  unfold andV
  rw [wp_bind]
  congr 1
  funext t L1
  cases t <;> rfl
theorem wp_orV : wp (orV ta fb τ) L E Q = wp (ta τ) L E fun t L1 => if t = true then Q (.v (.bl true)) L1 else wp (fb τ) L1 E Q := by
  unfold orV
  rw [wp_bind]
  congr 1
  funext t L1
  cases t <;> rfl
theorem wp_notV : wp (notV ta τ) L E Q = wp (ta τ) L E fun t L1 => Q (.v (.bl (!t))) L1 := by
  unfold notV
  rw [wp_bind]
  rfl
theorem wp_ifE : wp (ifE ta fa fb τ) L E Q = wp (ta τ) L E fun t L1 => if t = true then wp (fa τ) L1 E Q else wp (fb τ) L1 E Q := by
  unfold ifE
  rw [wp_bind]
  congr 1
  funext t L1
  cases t <;> rfl
theorem wp_noP {QO : Option Int → List MO → Prop} : wp (noP τ) L E QO = QO none L := rfl
theorem wp_part {QO : Option Int → List MO → Prop} : wp (part f τ) L E QO = wp (f τ) L E fun d L1 => wp (asJ d) L1 E QO := wp_bind
theorem wp_asJ {QO : Option Int → List MO → Prop} {i : Int} : wp (asJ (.v (.int i))) L E QO = QO (some i) L := rfl
theorem wp_slice {fl fh : Tau → M (Option Int)} : wp (slice fa fl fh τ) L E Q = wp (fa τ) L E fun x L1 => wp (fl τ) L1 E fun lo L2 => wp (fh τ) L2 E fun hi L3 => wp (slD x lo hi) L3 E Q := by
  unfold slice
  rw [wp_bind]
  simp only [wp_bind]
theorem wp_seqI {QI : Itm → List MO → Prop} : wp (seqI f τ) L E QI = wp (f τ) L E fun d L1 => wp (itmD d) L1 E QI := wp_bind
theorem wp_argI {op : List D → M Itm} {QI : Itm → List MO → Prop} : wp (argI op fs τ) L E QI = wp (fs τ) L E fun d L1 => wp (op d) L1 E QI := wp_bind
theorem wp_itm_tup {xs : List P} {QI : Itm → List MO → Prop} : wp (itmD (.v (.tup xs))) L E QI = QI (xs, fun _ => True) L := rfl
theorem wp_itm_lst {xs : List P} {QI : Itm → List MO → Prop} : wp (itmD (.v (.lst xs))) L E QI = QI (xs, fun _ => True) L := rfl
theorem wp_rng1 {n : Nat} {QI : Itm → List MO → Prop} (h : n < 2 ^ 62 := by decide) : wp (rng1 [.v (.int n)]) L E QI = QI ((List.range n).map fun i : Nat => P.int (0 + i), fun _ => True) L := by
  refine wp_of ?_
  have : -(2 ^ 62) ≤ (n : Int) ∧ (n : Int) < 2 ^ 62 := by omega
  simp only [rng1, if_pos this, Int.toNat_natCast]
theorem wp_grd {m : M α} {x : α} {L1 : List MO} {c : Prop} [Decidable c] {Q : α → List MO → Prop} (e : m L = if c then some (.ok x, L1) else none) : wp m L E Q = (c ∧ Q x L1) := by
  unfold wp
  rw [e]
  by_cases h : c
  · rw [if_pos h]; exact propext ⟨fun q => ⟨h, q⟩, fun q => q.2⟩
  · rw [if_neg h]; exact propext ⟨fun q => q.elim, fun q => absurd q.1 h⟩
theorem wp_tup {ds : List D} : wp (tupD ds) L E Q = match asPs ds with
    | some ps => ps.length ≤ sizeLine ∧ Q (.v (.tup ps)) L
    | none => False := by
  unfold wp tupD
  match asPs ds with
  | none => rfl
  | some ps =>
    dsimp only
    by_cases h : ps.length ≤ sizeLine
    · rw [if_pos h]; simp [h]
    · rw [if_neg h]; simp [h]
theorem wp_lst {ds : List D} : wp (lstD ds) L E Q = match asPs ds with
    | some ps => ps.length ≤ sizeLine ∧ Q (.v (.lst ps)) L
    | none => False := by
  unfold wp lstD
  match asPs ds with
  | none => rfl
  | some ps =>
    dsimp only
    by_cases h : ps.length ≤ sizeLine
    · rw [if_pos h]; simp [h]
    · rw [if_neg h]; simp [h]
theorem wp_new {ds : List D} : wp (newD ds) L E Q = match asPs ds with
    | some ps => ps.length ≤ sizeLine ∧ Q (.r L.length) (L ++ [.lst ps])
    | none => False := by
  unfold wp newD
  match asPs ds with
  | none => rfl
  | some ps =>
    dsimp only
    by_cases h : ps.length ≤ sizeLine
    · rw [if_pos h]; simp [h]
    · rw [if_neg h]; simp [h]
theorem wp_tup0 : wp (tupD []) L E Q = Q (.v (.tup [])) L := wp_of (tup_0 L)
theorem wp_tup1 {a : P} : wp (tupD [.v a]) L E Q = Q (.v (.tup [a])) L := wp_of (tup_1 a L)
theorem wp_tup2 {a b : P} : wp (tupD [.v a, .v b]) L E Q = Q (.v (.tup [a, b])) L := wp_of (tup_2 a b L)
theorem wp_tup3 {a b c : P} : wp (tupD [.v a, .v b, .v c]) L E Q = Q (.v (.tup [a, b, c])) L := wp_of (tup_3 a b c L)
theorem wp_tup4 {a b c d : P} : wp (tupD [.v a, .v b, .v c, .v d]) L E Q = Q (.v (.tup [a, b, c, d])) L := wp_of (tup_4 a b c d L)
theorem wp_lst0 : wp (lstD []) L E Q = Q (.v (.lst [])) L := wp_of (lst_0 L)
theorem wp_lst1 {a : P} : wp (lstD [.v a]) L E Q = Q (.v (.lst [a])) L := wp_of (lst_1 a L)
theorem wp_lst2 {a b : P} : wp (lstD [.v a, .v b]) L E Q = Q (.v (.lst [a, b])) L := wp_of (lst_2 a b L)
theorem wp_lst3 {a b c : P} : wp (lstD [.v a, .v b, .v c]) L E Q = Q (.v (.lst [a, b, c])) L := wp_of (lst_3 a b c L)
theorem wp_lst4 {a b c d : P} : wp (lstD [.v a, .v b, .v c, .v d]) L E Q = Q (.v (.lst [a, b, c, d])) L := wp_of (lst_4 a b c d L)
theorem wp_lst5 {a b c d e : P} : wp (lstD [.v a, .v b, .v c, .v d, .v e]) L E Q = Q (.v (.lst [a, b, c, d, e])) L := wp_of (lst_5 a b c d e L)
theorem wp_lst6 {a b c d e f : P} : wp (lstD [.v a, .v b, .v c, .v d, .v e, .v f]) L E Q = Q (.v (.lst [a, b, c, d, e, f])) L := wp_of (lst_6 a b c d e f L)
theorem wp_lst7 {a b c d e f g : P} : wp (lstD [.v a, .v b, .v c, .v d, .v e, .v f, .v g]) L E Q = Q (.v (.lst [a, b, c, d, e, f, g])) L := wp_of (lst_7 a b c d e f g L)
theorem wp_lst8 {a b c d e f g h : P} : wp (lstD [.v a, .v b, .v c, .v d, .v e, .v f, .v g, .v h]) L E Q = Q (.v (.lst [a, b, c, d, e, f, g, h])) L := wp_of (lst_8 a b c d e f g h L)
theorem wp_new0 : wp (newD []) L E Q = Q (.r L.length) (L ++ [.lst []]) := wp_of (new_0 L)
theorem wp_arN1 {fn : List D → M D} {a : D} : wp (arN 1 fn [a]) L E Q = wp (fn [a]) L E Q := rfl
theorem wp_arN2 {fn : List D → M D} {a b : D} : wp (arN 2 fn [a, b]) L E Q = wp (fn [a, b]) L E Q := rfl
theorem wp_arN3 {fn : List D → M D} {a b c : D} : wp (arN 3 fn [a, b, c]) L E Q = wp (fn [a, b, c]) L E Q := rfl
theorem wp_arN4 {fn : List D → M D} {a b c d : D} : wp (arN 4 fn [a, b, c, d]) L E Q = wp (fn [a, b, c, d]) L E Q := rfl
theorem wp_arN5 {fn : List D → M D} {a b c d e : D} : wp (arN 5 fn [a, b, c, d, e]) L E Q = wp (fn [a, b, c, d, e]) L E Q := rfl
theorem wp_arN6 {fn : List D → M D} {a b c d e e2 : D} : wp (arN 6 fn [a, b, c, d, e, e2]) L E Q = wp (fn [a, b, c, d, e, e2]) L E Q := rfl
theorem wp_arN7 {fn : List D → M D} {a b c d e e2 e3 : D} : wp (arN 7 fn [a, b, c, d, e, e2, e3]) L E Q = wp (fn [a, b, c, d, e, e2, e3]) L E Q := rfl
/-! operators -/
theorem wp_addI {x y : Int} : wp (addD (.v (.int x)) (.v (.int y))) L E Q = Q (.v (.int (x + y))) L := rfl
theorem wp_addS {x y : Str} : wp (addD (.v (.str x)) (.v (.str y))) L E Q = (x.length + y.length ≤ sizeLine ∧ Q (.v (.str (x ++ y))) L) := by
  exact wp_grd rfl
theorem wp_addL {x y : List P} : wp (addD (.v (.lst x)) (.v (.lst y))) L E Q = (x.length + y.length ≤ sizeLine ∧ Q (.v (.lst (x ++ y))) L) := by
  exact wp_grd rfl
theorem wp_addT {x y : List P} : wp (addD (.v (.tup x)) (.v (.tup y))) L E Q = (x.length + y.length ≤ sizeLine ∧ Q (.v (.tup (x ++ y))) L) := by
  exact wp_grd rfl
theorem wp_subI {x y : Int} : wp (subD (.v (.int x)) (.v (.int y))) L E Q = Q (.v (.int (x - y))) L := rfl
theorem wp_intOp {C : Int → Int → Bool} {f : Int → Int → Int} {x y : Int} : wp (intOp C f (.v (.int x)) (.v (.int y))) L E Q = (C x y = true ∧ Q (.v (.int (f x y))) L) := by
  exact wp_grd rfl
theorem wp_mulI {x y : Int} : wp (mulD (.v (.int x)) (.v (.int y))) L E Q = (mulOkB x y = true ∧ Q (.v (.int (x * y))) L) := wp_intOp
theorem wp_modI {x y : Int} : wp (modD (.v (.int x)) (.v (.int y))) L E Q = (0 < y ∧ Q (.v (.int (x % y))) L) := by
  unfold modD
  rw [wp_intOp, decide_eq_true_eq]
theorem wp_fdivI {x y : Int} : wp (fdivD (.v (.int x)) (.v (.int y))) L E Q = ((0 < y ∧ y < 1073741824) ∧ Q (.v (.int (x / y))) L) := by
  unfold fdivD
  rw [wp_intOp, Bool.and_eq_true, decide_eq_true_eq, decide_eq_true_eq]
theorem wp_negI {x : Int} : wp (negD (.v (.int x))) L E Q = Q (.v (.int (-x))) L := rfl
theorem wp_int {x : Int} : wp (intD [.v (.int x)]) L E Q = Q (.v (.int x)) L := rfl
theorem wp_max2 {x y : Int} : wp (max2D [.v (.int x), .v (.int y)]) L E Q = Q (.v (.int (if y > x then y else x))) L := rfl
theorem wp_ord {f : Int → Int → Bool} {x y : Int} : wp (ordI f (.v (.int x)) (.v (.int y))) L E Q = Q (.v (.bl (f x y))) L := rfl
theorem wp_ltI {x y : Int} : wp (ltD (.v (.int x)) (.v (.int y))) L E Q = Q (.v (.bl (decide (x < y)))) L := rfl
theorem wp_chn {o1 o2 : D → D → M D} : wp (chn o1 o2 fa fb fc τ) L E Q = wp (fa τ) L E fun x L1 => wp (fb τ) L1 E fun y L2 => wp (o1 x y) L2 E fun z L3 => wp (asB z) L3 E fun t L4 => if t = true then wp (fc τ) L4 E fun u L5 => wp (o2 y u) L5 E Q else Q (.v (.bl false)) L4 := by
  unfold chn
  simp only [wp_bind]
  congr 1
  funext x L1
  congr 1
  funext y L2
  congr 1
  funext z L3
  congr 1
  funext t L4
  cases t <;> first | rfl | (simp only [wp_bind, if_true]; rfl) | simp [wp_bind, wp_pure]
theorem wp_eqI {neg : Bool} {x y : Int} : wp (eqD neg (.v (.int x)) (.v (.int y))) L E Q = Q (.v (.bl (if neg = true then !decide (x = y) else decide (x = y)))) L := by
  have h1 : okD (.int x) = true := rfl
  have h2 : okD (.int y) = true := rfl
  refine wp_of ?_
  cases neg <;> simp [eqD, dOf, toD, h1, h2, PyData.eqv] <;> (by_cases h : x = y <;> simp [h])
theorem wp_eqS {neg : Bool} {x y : Str} (hx : PyData.strOk x = true) (hy : PyData.strOk y = true) : wp (eqD neg (.v (.str x)) (.v (.str y))) L E Q = Q (.v (.bl (if neg = true then !decide (x = y) else decide (x = y)))) L := by
  have h1 : okD (.str x) = true := by simp [okD, SeqAt.shaped, PyData.canLay0, hx, PyData.depth]
  have h2 : okD (.str y) = true := by simp [okD, SeqAt.shaped, PyData.canLay0, hy, PyData.depth]
  refine wp_of ?_
  cases neg <;> simp [eqD, dOf, toD, h1, h2, PyData.eqv] <;> (by_cases h : x = y <;> simp [h])
/-- the same value twice -/
def datB (p : P) : Bool := match toD p with
  | some d => okD d && PyData.eqv d d
  | none => false
theorem wp_eqR {neg : Bool} {p : P} (h : datB p = true) : wp (eqD neg (.v p) (.v p)) L E Q = Q (.v (.bl (!neg))) L := by
  unfold datB at h
  refine wp_of ?_
  match e : toD p with
  | none => rw [e] at h; cases h
  | some d =>
    rw [e] at h
    have h : (okD d && PyData.eqv d d) = true := h
    rw [Bool.and_eq_true] at h
    have e1 : dOf L (.v p) = some d := e
    unfold eqD
    rw [e1]
    cases neg <;> simp [h.1, h.2]
theorem wp_len_lst {xs : List P} : wp (lenD [.v (.lst xs)]) L E Q = Q (.v (.int xs.length)) L := rfl
theorem wp_len_tup {xs : List P} : wp (lenD [.v (.tup xs)]) L E Q = Q (.v (.int xs.length)) L := rfl
theorem wp_len_r {n : Nat} {xs : List P} (h : L[n]? = some (.lst xs)) : wp (lenD [.r n]) L E Q = Q (.v (.int xs.length)) L := by
  refine wp_of ?_
  simp [lenD, oneD, asS, asL, asM, h]
theorem wp_len_str {x : Str} : wp (lenD [.v (.str x)]) L E Q = (x.length ≤ sizeLine ∧ Q (.v (.int x.length)) L) := by
  exact wp_grd rfl
/-! items -/
theorem wp_ixT {xs : List P} {i : Nat} {p : P} (h : xs[i]? = some p) : wp (ixA (.v (.tup xs)) (.v (.int i))) L E Q = Q (.v p) L := by
  have hl : i < xs.length := (List.getElem?_eq_some_iff.mp h).1
  have hn : ixN xs.length (i : Int) = some i := by
    unfold ixN
    rw [if_pos (by omega), if_pos (by omega)]
    rfl
  refine wp_of ?_
  simp [ixA, dnAt, ixD, atI, hn, h]
theorem wp_ixL {xs : List P} {i : Nat} {p : P} (h : xs[i]? = some p) : wp (ixA (.v (.lst xs)) (.v (.int i))) L E Q = Q (.v p) L := by
  have hl : i < xs.length := (List.getElem?_eq_some_iff.mp h).1
  have hn : ixN xs.length (i : Int) = some i := by
    unfold ixN
    rw [if_pos (by omega), if_pos (by omega)]
    rfl
  refine wp_of ?_
  simp [ixA, dnAt, ixD, asL, asM, atI, hn, h]
theorem wp_ixR {n : Nat} {xs : List P} {i : Nat} {p : P} (hL : L[n]? = some (.lst xs)) (h : xs[i]? = some p) : wp (ixA (.r n) (.v (.int i))) L E Q = Q (.v p) L := by
  have hl : i < xs.length := (List.getElem?_eq_some_iff.mp h).1
  have hn : ixN xs.length (i : Int) = some i := by
    unfold ixN
    rw [if_pos (by omega), if_pos (by omega)]
    rfl
  refine wp_of ?_
  simp [ixA, dnAt, hL, ixD, asL, asM, atI, hn, h]
theorem wp_ixT0 {p : P} {xs : List P} : wp (ixA (.v (.tup (p :: xs))) (.v (.int 0))) L E Q = Q (.v p) L := wp_ixT (i := 0) rfl
theorem wp_ixT1 {p q : P} {xs : List P} : wp (ixA (.v (.tup (p :: q :: xs))) (.v (.int 1))) L E Q = Q (.v q) L := wp_ixT (i := 1) rfl
theorem wp_ixT2 {p q r : P} {xs : List P} : wp (ixA (.v (.tup (p :: q :: r :: xs))) (.v (.int 2))) L E Q = Q (.v r) L := wp_ixT (i := 2) rfl
theorem wp_ixT3 {p q r s : P} {xs : List P} : wp (ixA (.v (.tup (p :: q :: r :: s :: xs))) (.v (.int 3))) L E Q = Q (.v s) L := wp_ixT (i := 3) rfl
theorem wp_append {n : Nat} {xs : List P} {p : P} (h : L[n]? = some (.lst xs)) (hz : xs.length < sizeLine) : wp (appendD (.r n) [.v p]) L E Q = Q (.v .non) (L.set n (.lst (xs ++ [p]))) := by
  refine wp_of ?_
  simp [appendD, mutL, h, hz, asP]
theorem wp_mth {ty : List MO → D → Bool} {op : D → List D → M D} : wp (mthD ty op f fs τ) L E Q = wp (f τ) L E fun x L1 => if ty L1 x = true then wp (fs τ) L1 E fun ds L2 => wp (op x ds) L2 E Q else False := by
  unfold mthD
  rw [wp_bind]
  congr 1
  funext x L1
  by_cases h : ty L1 x = true
  · unfold wp
    simp only [h, if_true, bind, M.bnd]
    cases e : fs τ L1 with
    | none => rfl
    | some r =>
      obtain ⟨r, L2⟩ := r
      cases r <;> rfl
  · unfold wp
    simp only [h, bind, M.bnd, if_false]
    rfl
/-! calls -/
def tabM (tab : Nat → Option (List D → M D)) (x : D) : M (List D → M D) := fun L => match (clsOf L x).bind tab with
  | some fn => some (.ok fn, L)
  | none => none
theorem wp_meth {n : Nat} {tab : Nat → Option (List D → M D)} : wp (methF n tab f fs τ) L E Q = wp (f τ) L E fun x L1 => match (clsOf L1 x).bind tab with
    | some fn => wp (fs τ) L1 E fun ds L2 => wp (arN n fn (x :: ds)) L2 E Q
    | none => False := by
  show wp (M.bnd (f τ) fun x => M.bnd (tabM tab x) fun fn => M.bnd (fs τ) fun ds => arN n fn (x :: ds)) L E Q = _
  rw [wp_bnd]
  congr 1
  funext x L1
  rw [wp_bnd]
  match e : (clsOf L1 x).bind tab with
  | none =>
    unfold wp tabM
    simp only [e]
  | some fn =>
    rw [wp_of (m := tabM tab x) (L := L1) (x := fn) (L1 := L1) (by simp only [tabM, e]), wp_bnd]
theorem wp_methZ {c n : Nat} {z : Int} {fn : List D → M D} : wp (methZ c n z fn f fs τ) L E Q = wp (f τ) L E fun x L1 => if clsOf L1 x = some c then wp (fs τ) L1 E fun ds L2 => wp (arN (n + 1) fn (x :: (ds ++ [.v (.int z)]))) L2 E Q else False := by
  unfold methZ
  rw [wp_bind]
  congr 1
  funext x L1
  by_cases h : clsOf L1 x = some c
  · have : ∀ {α : Type} {m : M α} {Q : α → List MO → Prop}, wp (atC c x m) L1 E Q = wp m L1 E Q := by
      intro α m Q
      unfold wp atC
      rw [if_pos h]
    rw [this, wp_bind, if_pos h]
  · rw [if_neg h]
    unfold wp atC
    rw [if_neg h]
theorem wp_methK {c n : Nat} {fn : List D → M D} : wp (methK c n fn f fs fk τ) L E Q = wp (f τ) L E fun x L1 => if clsOf L1 x = some c then wp (fs τ) L1 E fun ds L2 => wp (fk τ) L2 E fun ks L3 => if (x :: ds).length = n ∧ ks.length = 1 then wp (fn (x :: (ds ++ ks))) L3 E Q else False else False := by
  unfold methK
  rw [wp_bind]
  congr 1
  funext x L1
  by_cases h : clsOf L1 x = some c
  · have : ∀ {α : Type} {m : M α} {Q : α → List MO → Prop}, wp (atC c x m) L1 E Q = wp m L1 E Q := by
      intro α m Q
      unfold wp atC
      rw [if_pos h]
    rw [this, wp_bind, if_pos h]
    congr 1
    funext ds L2
    rw [wp_bind]
    congr 1
    funext ks L3
    by_cases hz : (x :: ds).length = n ∧ ks.length = 1
    · rw [if_pos hz, if_pos hz]
    · rw [if_neg hz, if_neg hz]
      rfl
  · rw [if_neg h]
    unfold wp atC
    rw [if_neg h]
/-! f-strings -/
theorem wp_fmtS {y : Str} : wp (fmtB (.v (.str y))) L E Q = (y.length ≤ sizeLine ∧ Q (.v (.str y)) L) := by
  exact wp_grd rfl
theorem wp_fmtI {i : Int} : wp (fmtB (.v (.int i))) L E Q = (i.natAbs.log2 < 1920 ∧ Q (.v (.str (toString i))) L) := by
  exact wp_grd rfl
theorem wp_strI {i : Int} : wp (strD [.v (.int i)]) L E Q = (i.natAbs.log2 < 1920 ∧ Q (.v (.str (toString i))) L) := by
  exact wp_grd rfl
theorem wp_js0 {acc : Str} : wp (jsD [] acc τ) L E Q = Q (.v (.str acc)) L := rfl
theorem wp_js {fl : List (Tau → M D)} {acc : Str} : wp (jsD (f :: fl) acc τ) L E Q = wp (f τ) L E fun d L1 => wp (jsM acc (fun y => jsD fl y τ) d) L1 E Q := wp_bind
theorem wp_jsM {acc y : Str} {k : Str → M D} : wp (jsM acc k (.v (.str y))) L E Q = ((acc ++ y).length ≤ sizeLine ∧ wp (k (acc ++ y)) L E Q) := by
  have e : jsM acc k (.v (.str y)) L = if (acc ++ y).length ≤ sizeLine then k (acc ++ y) L else none := rfl
  unfold wp
  rw [e]
  by_cases h : (acc ++ y).length ≤ sizeLine
  · rw [if_pos h]; exact propext ⟨fun q => ⟨h, q⟩, fun q => q.2⟩
  · rw [if_neg h]; exact propext ⟨fun q => q.elim, fun q => absurd q.1 h⟩
theorem wp_join {sep : Str} {ys : List P} {zs : List Str} (h : strsOf ys = some zs) (hz : (zs.map (·.length)).sum + zs.length * sep.length ≤ 16777216) : wp (joinD (.v (.str sep)) [.v (.lst ys)]) L E Q = Q (.v (.str (Txt.join sep zs))) L := by
  refine wp_of ?_
  simp [joinD, asS, asL, asM, h, hz]
theorem tyS_str {x : Str} : tyS L (.v (.str x)) = true := rfl
/-! comprehensions -/
theorem wp_lc {mu : Bool} {src : Tau → M Itm} {vs : List Nat} {tg : TgD} {tt : Tau → M Bool} {fe : Tau → M D} : wp (lcS mu src vs tg tt fe τ) L E Q = wp (src τ) L E fun it L1 => wp (lcE mu (lcT tg tt fe) (killT vs τ) it) L1 E Q := wp_bind
/-- nothing is changed by the turns -/
theorem wp_lcE {tg : TgD} {tt : Tau → M Bool} {fe : Tau → M D} {xs : List P} {ok : List MO → Prop} (F : P → Option P) (hok : ∀ L, ok L) (hz : xs.length ≤ sizeLine)
    (hs : ∀ p ∈ xs, ∀ acc : List P, ∃ τ1, tg p τ = some τ1 ∧ wp (tt τ1) (L ++ [.lst acc]) (fun _ _ _ => False) fun t L1 => L1 = L ++ [.lst acc] ∧ (if t = true then wp (fe τ1) L1 (fun _ _ _ => False) fun d L2 => L2 = L ++ [.lst acc] ∧ ∃ q, d = .v q ∧ F p = some q else F p = none))
    (h : Q (.v (.lst (xs.filterMap F))) L) : wp (lcE false (lcT tg tt fe) τ (xs, ok)) L E Q := by
  have key := lcG_pure (turn := lcT tg tt fe) (τ := τ) (f := F) (L := L) rfl hok xs [] (by simpa using hz) (fun p hp acc => by
    obtain ⟨τ1, e1, w⟩ := hs p hp acc
    obtain ⟨t, L1, e2, e3, w2⟩ := wp_out w
    subst e3
    unfold lcT
    rw [e1]
    dsimp only
    rw [e2]
    cases t with
    | false =>
      rw [if_neg Bool.false_ne_true] at w2
      rw [w2]
    | true =>
      rw [if_pos rfl] at w2
      obtain ⟨d, L2, e4, e5, q, rfl, e6⟩ := wp_out w2
      subst e5
      dsimp only
      rw [e4]
      dsimp only
      rw [e6])
  have : lcE false (lcT tg tt fe) τ (xs, ok) L = some (.ok (.v (.lst (xs.filterMap F))), L) := by
    unfold lcE
    dsimp only
    rw [key]
    unfold lcFin
    dsimp only
    rw [if_neg Bool.false_ne_true, List.getElem?_append_right (Nat.le_refl _), Nat.sub_self]
    dsimp only [List.getElem?_cons_zero, List.nil_append]
    rw [if_pos (older_app _ (Older.refl _)), List.take_left']
    rfl
  rw [wp_of this]
  exact h
theorem wp_yes : wp (yesB τ) L E QB = QB true L := rfl
end
end DN
namespace DN
open PySem
theorem endQ_v {keep : Bool} {L : List MO} {Q : D → List MO → Prop} {p : P} (h : Q (.v p) L) : endQ keep L Q (.v p) L := ⟨L, [], by simp, rfl, Older.refl _, h⟩
theorem endQ_x {keep : Bool} {L Lb X : List MO} {Q : D → List MO → Prop} {p : P} (h1 : Lb.length = L.length) (h2 : Older L Lb) (h : Q (.v p) Lb) : endQ keep L Q (.v p) (Lb ++ X) := ⟨Lb, X, rfl, h1, h2, h⟩
theorem endQ_0 {keep : Bool} {L Lb : List MO} {Q : D → List MO → Prop} {p : P} (h1 : Lb.length = L.length) (h2 : Older L Lb) (h : Q (.v p) Lb) : endQ keep L Q (.v p) Lb := ⟨Lb, [], by simp, h1, h2, h⟩
theorem wp_eq {α : Type} {m : M α} {L L1 : List MO} {a : α} (h : wp m L (fun _ _ _ => False) fun x L' => x = a ∧ L' = L1) : m L = some (.ok a, L1) := by
  obtain ⟨x, L', e, rfl, rfl⟩ := wp_out h
  exact e
theorem wp_ex {α : Type} {m : M α} {L L1 : List MO} {c : Nat} {fs : List P} (h : wp m L (fun c' fs' L' => c' = c ∧ fs' = fs ∧ L' = L1) fun _ _ => False) : m L = some (.ex c fs, L1) := by
  unfold wp at h
  cases e : m L with
  | none => rw [e] at h; exact h.elim
  | some r =>
    obtain ⟨r, L2⟩ := r
    rw [e] at h
    cases r with
    | ok => exact h.elim
    | ex c fs => obtain ⟨rfl, rfl, rfl⟩ := h; rfl
theorem wp_ofx {α : Type} {m : M α} {L L1 : List MO} {c : Nat} {fs : List P} {E : EX} {Q : α → List MO → Prop} (h : m L = some (.ex c fs, L1)) : wp m L E Q = E c fs L1 := by
  unfold wp
  rw [h]
theorem wps_raise {c : Nat} {fs : Tau → M (List D)} {τ : Tau} {L : List MO} {k : KK} : wps (raiseS c fs) τ L k = wp (fs τ) L (k.ex τ) (fun ds L1 => match asPs ds with
    | some ps => ps.length = (flT c).length ∧ k.ex τ c ps.reverse L1
    | none => False) := by
  unfold raiseS
  rw [wps_eThen]
  congr 1
  funext ds L1
  unfold wps
  match asPs ds with
  | none => rfl
  | some ps =>
    dsimp only
    by_cases h : ps.length = (flT c).length
    · rw [if_pos h]; exact propext ⟨fun q => ⟨h, q⟩, fun q => q.2⟩
    · rw [if_neg h]; exact propext ⟨fun q => q.elim, fun q => absurd q.1 h⟩
theorem wp_exf0 {τ : Tau} {L : List MO} {E : EX} {Q : D → List MO → Prop} {c i f : Nat} {fs : List P} {p : P} (h1 : τ[i]? = some (some (.v (.exn c (.int 0 :: .int 0 :: fs))))) (h2 : fget (flT c) fs f = some p) : wp (exfD 0 0 i f τ) L E Q = Q (.v p) L := by
  refine wp_of ?_
  unfold exfD
  rw [h1]
  dsimp only
  rw [if_pos ⟨rfl, rfl⟩, h2]
theorem wp_exi0 {τ : Tau} {L : List MO} {E : EX} {Q : D → List MO → Prop} {c i : Nat} {fs : List P} {b : Bool} (h1 : τ[i]? = some (some (.v (.exn c (.int 0 :: .int 0 :: fs))))) : wp (exiD 0 0 i b τ) L E Q = Q (.v (.bl b)) L := by
  refine wp_of ?_
  unfold exiD
  rw [h1]
  dsimp only
  rw [if_pos ⟨rfl, rfl⟩]
end DN

end
section
set_option Elab.async false
set_option linter.all false
set_option maxRecDepth 100000
set_option maxHeartbeats 8000000
/-! the text of the law by places -/
namespace LK12
open PySem PySem.Spec PyProof.Rows L2 He NdefX DN
abbrev PG : Program := PySem.Challenge.pw_redopages_k12_texts_of_formulas
def top (i : Nat) : Stmt := PG.main.body.getD i (.Pass ⟨0, 0, 0, 0⟩)
abbrev s_Contents_zlenz : Stmt := inClass (top 6) 1
abbrev s_page_text : Stmt := top 4
abbrev s_Contents_formula : Stmt := inClass (top 6) 3
abbrev s_Contents_text : Stmt := inClass (top 6) 4
abbrev s_q_missing : Stmt := top 13
abbrev s_q_text : Stmt := top 14
abbrev s_q_draw : Stmt := top 8
abbrev s_q_pool : Stmt := top 11
abbrev s_Contents_number_of : Stmt := inClass (top 6) 2
abbrev s_q_formula : Stmt := top 12
abbrev s_Contents_zinitz : Stmt := inClass (top 6) 0
abbrev s_q_word : Stmt := top 9
abbrev s_q_names : Stmt := top 10
abbrev s_law : Stmt := top 15
abbrev s_e27 : Stmt := inClass (top 2) 0
/-! what the defs compute -/
def ti_str : Tg → Option Bool
  | .non => some false
  | .bl => some false
  | .int => some false
  | .str => some true
  | .lst => some false
  | .tup => some false
  | .ins 9 => some false
  | .ins _ => none
noncomputable def d_Contents_zlenz : SX := (retS (appA lenD (consA (un (attD 5) (varD 0)) nilA)))
noncomputable def f_Contents_zlenz : List D → M D := scopeF false (bodyF 1 d_Contents_zlenz)
noncomputable def tm_zlenz : Nat → Option (List D → M D)
  | 9 => some f_Contents_zlenz
  | _ => none
noncomputable def d_page_text : SX := (retS (jsD [(un fmtB (bin ixA (varD 0) (retD (.v (.int 0))))), (retD (.v (.str ":"))), (un fmtB (bin ixA (varD 0) (retD (.v (.int 1)))))] Str.empty))
noncomputable def f_page_text : List D → M D := scopeF false (bodyF 1 d_page_text)
noncomputable def d_Contents_formula : SX := (seqS (ifS (notB (tstD (chn (ordI fun i j => decide (i ≤ j)) (ordI fun i j => decide (i < j)) (retD (.v (.int 0))) (varD 1) (appA lenD (consA (un (attD 5) (varD 0)) nilA))))) (killS [0] (raiseS 27 (consA (varD 1) nilA))) nxS) (retS (bin ixA (un (attD 5) (varD 0)) (varD 1))))
noncomputable def f_Contents_formula : List D → M D := scopeF false (bodyF 2 d_Contents_formula)
noncomputable def tm_formula : Nat → Option (List D → M D)
  | 9 => some f_Contents_formula
  | _ => none
noncomputable def d_Contents_text (rec : List D → M D) : SX := (seqS (setS 3 (methF 2 tm_formula (varD 0) (consA (varD 1) nilA))) (killS [1] (seqS (ifS (tstD (bin (eqD false) (bin ixA (varD 3) (retD (.v (.int 0)))) (retD (.v (.str "start"))))) (killS [0, 2] (retS (appA (arN 1 f_page_text) (consA (bin ixA (varD 3) (retD (.v (.int 1)))) nilA)))) nxS) (seqS (setS 4 (jsD [(un fmtB (bin ixA (varD 3) (retD (.v (.int 1))))), (retD (.v (.str "."))), (un fmtB (bin ixA (varD 3) (retD (.v (.int 2)))))] Str.empty)) (seqS (ifS (orB (tstD (bin (eqD false) (bin ixA (varD 3) (retD (.v (.int 0)))) (retD (.v (.str "fresh"))))) (notB (tstT (bin ixA (varD 3) (retD (.v (.int 3))))))) (killS [0, 2, 3] (retS (bin addD (varD 4) (retD (.v (.str "()")))))) nxS) (seqS (ifS (tstD (bin (eqD false) (varD 2) (retD (.v (.int 0))))) (killS [0, 2, 3] (retS (bin addD (varD 4) (retD (.v (.str "(..)")))))) nxS) (seqS (setS 5 (lcS false (seqI (bin ixA (varD 3) (retD (.v (.int 3))))) [6] (tgN 6) yesB (methK 9 2 rec (varD 0) (consA (varD 6) nilA) (consA (bin subD (varD 2) (retD (.v (.int 1)))) nilA)))) (killS [0, 2, 3] (retS (jsD [(un fmtB (varD 4)), (retD (.v (.str "("))), (un fmtB (mthD tyS joinD (retD (.v (.str ", "))) (consA (varD 5) nilA))), (retD (.v (.str ")")))] Str.empty))))))))))
noncomputable def f_Contents_text : Nat → List D → M D
  | 0 => fun _ => M.stuck
  | r + 1 => scopeF false (bodyF 7 (d_Contents_text (f_Contents_text r)))
def tb_q_missing0 : List Nat := [27]
noncomputable def zs_q_missing0 : List Clz := [⟨27, some 3, fun a dx c => (killS [0, 1, 2] (retS (appA tupD (consA (exfD a dx 3 7) (consA (exiD a dx 3 (subE c 20)) nilA)))))⟩]
noncomputable def d_q_missing : SX := (seqS (tryS tb_q_missing0 zs_q_missing0 (setS 2 (methZ 9 2 2 (f_Contents_text 6) (varD 0) (consA (varD 1) nilA)))) (killS [0, 1] (retS (appA tupD (consA (varD 2) nilA)))))
noncomputable def f_q_missing : List D → M D := scopeF false (bodyF 4 d_q_missing)
noncomputable def d_q_text (rec : List D → M D) : SX := (seqS (setS 3 (bin ixA (varD 0) (varD 1))) (killS [1] (seqS (ifS (tstD (bin (eqD false) (bin ixA (varD 3) (retD (.v (.int 0)))) (retD (.v (.str "start"))))) (killS [0, 2] (retS (bin addD (bin addD (bin ixA (bin ixA (varD 3) (retD (.v (.int 1)))) (retD (.v (.int 0)))) (retD (.v (.str ":")))) (appA strD (consA (bin ixA (bin ixA (varD 3) (retD (.v (.int 1)))) (retD (.v (.int 1)))) nilA))))) nxS) (seqS (setS 4 (bin addD (bin addD (appA strD (consA (bin ixA (varD 3) (retD (.v (.int 1)))) nilA)) (retD (.v (.str ".")))) (bin ixA (varD 3) (retD (.v (.int 2)))))) (seqS (ifS (orB (tstD (bin (eqD false) (bin ixA (varD 3) (retD (.v (.int 0)))) (retD (.v (.str "fresh"))))) (tstD (bin (eqD false) (bin ixA (varD 3) (retD (.v (.int 3)))) (appA tupD nilA)))) (killS [0, 2, 3] (retS (bin addD (varD 4) (retD (.v (.str "()")))))) nxS) (seqS (ifS (tstD (bin (eqD false) (varD 2) (retD (.v (.int 0))))) (killS [0, 2, 3] (retS (bin addD (varD 4) (retD (.v (.str "(..)")))))) nxS) (seqS (setS 5 (lcS false (seqI (bin ixA (varD 3) (retD (.v (.int 3))))) [6] (tgN 6) yesB (appA (arN 3 rec) (consA (varD 0) (consA (varD 6) (consA (bin subD (varD 2) (retD (.v (.int 1)))) nilA)))))) (killS [0, 2, 3] (retS (bin addD (bin addD (bin addD (varD 4) (retD (.v (.str "(")))) (mthD tyS joinD (retD (.v (.str ", "))) (consA (varD 5) nilA))) (retD (.v (.str ")")))))))))))))
noncomputable def f_q_text : Nat → List D → M D
  | 0 => fun _ => M.stuck
  | r + 1 => scopeF false (bodyF 7 (d_q_text (f_q_text r)))
noncomputable def d_q_draw : SX := (seqS (ifS (andB (tstD (bin (ordI fun i j => decide (j < i)) (bin ixA (varD 0) (retD (.v (.int 0)))) (retD (.v (.int 0))))) (tstD (bin (ordI fun i j => decide (j < i)) (bin ixA (varD 0) (retD (.v (.int 2)))) (retD (.v (.int 0)))))) (seqS (setS 2 (bin modD (appA intD (consA (bin ixA (varD 0) (retD (.v (.int 0)))) nilA)) (varD 1))) (seqS (setIS (varD 0) (retD (.v (.int 0))) (bin fdivD (bin ixA (varD 0) (retD (.v (.int 0)))) (varD 1))) (killS [1] (seqS (setIS (varD 0) (retD (.v (.int 2))) (bin subD (bin ixA (varD 0) (retD (.v (.int 2)))) (retD (.v (.int 1))))) (killS [0] (retS (varD 2))))))) nxS) (killS [2] (seqS (setIS (varD 0) (retD (.v (.int 1))) (bin modD (appA intD (consA (bin addD (bin mulD (bin ixA (varD 0) (retD (.v (.int 1)))) (retD (.v (.int 10)))) (retD (.v (.int 3)))) nilA)) (retD (.v (.int 10007))))) (retS (bin modD (appA intD (consA (bin ixA (varD 0) (retD (.v (.int 1)))) nilA)) (varD 1))))))
noncomputable def f_q_draw : List D → M D := scopeF false (bodyF 3 d_q_draw)
noncomputable def d_q_pool : SX := (seqS (setS 2 (bin addD (bin addD (bin mulD (retD (.v (.int 17))) (varD 1)) (retD (.v (.int 5)))) (bin mulD (retD (.v (.int 101))) (appA sumD (consA (varD 0) nilA))))) (seqS (setS 3 (retD (.v (.int 0)))) (seqS (ifS (tstD (bin ltD (varD 1) (appA lenD (consA (varD 0) nilA)))) (seqS (setS 2 (bin addD (varD 2) (bin ixA (varD 0) (varD 1)))) (ifS (tstD (bin (ordI fun i j => decide (j ≤ i)) (bin ixA (varD 0) (varD 1)) (bin powD (retD (.v (.int 10))) (retD (.v (.int 18)))))) (killS [3] (setS 3 (bin ixA (varD 0) (varD 1)))) nxS)) nxS) (killS [0, 1] (retS (appA newD (consA (varD 3) (consA (bin modD (appA intD (consA (varD 2) nilA)) (retD (.v (.int 10007)))) (consA (retD (.v (.int 60))) nilA)))))))))
noncomputable def f_q_pool : List D → M D := scopeF true (bodyF 4 d_q_pool)
noncomputable def d_Contents_number_of : SX := (seqS (ifS (tstD (bin (eqD false) (bin ixA (varD 1) (retD (.v (.int 0)))) (retD (.v (.str "derived"))))) (forS (seqI (bin ixA (varD 1) (retD (.v (.int 3))))) (tgN 2) (exprS (methF 2 tm_formula (varD 0) (consA (varD 2) nilA)))) nxS) (killS [2] (seqS (ifS (tstD (bin (inA true) (varD 1) (un (attD 6) (varD 0)))) (seqS (setIS (un (attD 6) (varD 0)) (varD 1) (appA lenD (consA (un (attD 5) (varD 0)) nilA))) (exprS (mthD tyL appendD (un (attD 5) (varD 0)) (consA (varD 1) nilA)))) nxS) (retS (bin ixA (un (attD 6) (varD 0)) (varD 1))))))
noncomputable def f_Contents_number_of : List D → M D := scopeF false (bodyF 3 d_Contents_number_of)
noncomputable def tm_number_of : Nat → Option (List D → M D)
  | 9 => some f_Contents_number_of
  | _ => none
noncomputable def d_q_formula : SX := (seqS (setS 3 (appA (arN 2 f_q_draw) (consA (varD 0) (consA (retD (.v (.int 5))) nilA)))) (seqS (setS 4 (bin ixA (appA lstD (consA (retD (.v (.int 1))) (consA (retD (.v (.int 2))) (consA (retD (.v (.int 3))) (consA (retD (.v (.int 98))) nilA))))) (appA (arN 2 f_q_draw) (consA (varD 0) (consA (retD (.v (.int 4))) nilA))))) (seqS (setS 5 (bin ixA (varD 1) (appA (arN 2 f_q_draw) (consA (varD 0) (consA (retD (.v (.int 3))) nilA))))) (killS [1] (seqS (ifS (tstD (bin (eqD false) (varD 3) (retD (.v (.int 0))))) (killS [0, 2, 3] (retS (appA tupD (consA (retD (.v (.str "start"))) (consA (appA tupD (consA (varD 5) (consA (bin mulD (varD 4) (retD (.v (.int 101)))) nilA))) nilA))))) nxS) (seqS (ifS (tstD (bin (eqD false) (varD 3) (retD (.v (.int 1))))) (killS [0, 2, 3] (retS (appA tupD (consA (retD (.v (.str "fresh"))) (consA (varD 4) (consA (varD 5) nilA)))))) nxS) (killS [3] (seqS (setS 6 (appA newD nilA)) (seqS (ifS (tstD (bin (ordI fun i j => decide (j < i)) (varD 2) (retD (.v (.int 0))))) (forS (argI rng1 (consA (bin ixA (appA lstD (consA (retD (.v (.int 0))) (consA (retD (.v (.int 1))) (consA (retD (.v (.int 1))) (consA (retD (.v (.int 2))) (consA (retD (.v (.int 2))) (consA (retD (.v (.int 3))) (consA (retD (.v (.int 3))) (consA (retD (.v (.int 6))) nilA))))))))) (appA (arN 2 f_q_draw) (consA (varD 0) (consA (retD (.v (.int 8))) nilA)))) nilA)) (tgN 7) (killS [7] (exprS (mthD tyL appendD (varD 6) (consA (appA (arN 2 f_q_draw) (consA (varD 0) (consA (varD 2) nilA))) nilA))))) nxS) (killS [0, 2, 7] (retS (appA tupD (consA (retD (.v (.str "derived"))) (consA (varD 4) (consA (varD 5) (consA (appA tupleD (consA (varD 6) nilA)) nilA))))))))))))))))
noncomputable def f_q_formula : List D → M D := scopeF false (bodyF 8 d_q_formula)
noncomputable def d_Contents_zinitz : SX := (seqS (sattS 5 (varD 0) (appA newD nilA)) (sattS 6 (varD 0) dnNew))
noncomputable def f_Contents_zinitz : List D → M D := bodyF 1 d_Contents_zinitz
noncomputable def d_q_word : SX := (seqS (setS 1 (retD (.v (.str "abcdefghijklmnopqrstuvwxyz")))) (retS (mthD tyS joinD (retD (.v (.str ""))) (consA (lcS false (seqI (varD 0)) [2] (tgN 2) yesB (bin ixA (varD 1) (bin modD (appA intD (consA (varD 2) nilA)) (retD (.v (.int 26)))))) nilA))))
noncomputable def f_q_word : List D → M D := scopeF false (bodyF 3 d_q_word)
noncomputable def d_q_names : SX := (seqS (setS 1 (appA (arN 2 f_q_draw) (consA (varD 0) (consA (retD (.v (.int 3))) nilA)))) (seqS (setS 2 (appA (arN 2 f_q_draw) (consA (varD 0) (consA (retD (.v (.int 26))) nilA)))) (seqS (setS 3 (bin addD (retD (.v (.int 1))) (bin mulD (retD (.v (.int 2))) (appA (arN 2 f_q_draw) (consA (varD 0) (consA (retD (.v (.int 6))) nilA)))))) (seqS (setS 4 (appA (arN 2 f_q_draw) (consA (varD 0) (consA (retD (.v (.int 8))) nilA)))) (seqS (setS 5 (bin addD (retD (.v (.int 1))) (appA (arN 2 f_q_draw) (consA (varD 0) (consA (retD (.v (.int 8))) nilA))))) (seqS (setS 6 (appA (arN 1 f_q_word) (consA (lcS false (argI rng1 (consA (retD (.v (.int 8))) nilA)) [8] (tgN 8) yesB (appA (arN 2 f_q_draw) (consA (varD 0) (consA (retD (.v (.int 26))) nilA)))) nilA))) (killS [0] (seqS (setS 7 (appA newD nilA)) (seqS (forS (argI rng1 (consA (retD (.v (.int 8))) nilA)) (tgN 8) (killS [9, 10, 11] (seqS (setS 9 (appA (arN 1 f_q_word) (consA (appA lstD (consA (bin addD (varD 2) (bin mulD (varD 3) (varD 8))) nilA)) nilA))) (seqS (setS 10 (bin modD (appA intD (consA (varD 4) nilA)) (varD 5))) (seqS (setS 11 (bin addD (bin addD (slice (varD 6) noP (part (varD 10))) (varD 9)) (slice (varD 6) (part (bin addD (varD 10) (retD (.v (.int 1))))) (part (varD 5))))) (killS [10] (seqS (ifS (tstD (bin (eqD false) (varD 1) (retD (.v (.int 1))))) (killS [11] (setS 11 (slice (varD 6) noP (part (bin addD (retD (.v (.int 1))) (bin modD (appA intD (consA (bin addD (varD 8) (varD 4)) nilA)) (retD (.v (.int 8))))))))) nxS) (seqS (ifS (tstD (bin (eqD false) (varD 1) (retD (.v (.int 2))))) (killS [11] (setS 11 (bin addD (varD 9) (slice (varD 6) (part (varD 8)) (part (bin addD (varD 8) (bin modD (appA intD (consA (bin addD (varD 4) (bin mulD (retD (.v (.int 3))) (varD 8))) nilA)) (retD (.v (.int 8)))))))))) nxS) (killS [8, 9] (exprS (mthD tyL appendD (varD 7) (consA (varD 11) nilA)))))))))))) (killS [1, 2, 3, 4, 5, 6, 8, 9, 10, 11] (retS (varD 7))))))))))))
noncomputable def f_q_names : List D → M D := scopeF false (bodyF 12 d_q_names)
noncomputable def d_law : SX := (seqS (setS 1 (appA (arN 1 f_q_names) (consA (appA (arN 2 f_q_pool) (consA (varD 0) (consA (retD (.v (.int 2))) nilA))) nilA))) (seqS (setS 2 (appA (makF false 9 1 f_Contents_zinitz) nilA)) (seqS (setS 3 (appA newD nilA)) (seqS (forS (argI rng1 (consA (bin addD (retD (.v (.int 1))) (appA (arN 2 f_q_draw) (consA (appA (arN 2 f_q_pool) (consA (varD 0) (consA (retD (.v (.int 0))) nilA))) (consA (retD (.v (.int 14))) nilA)))) nilA)) (tgN 4) (killS [5] (seqS (setS 5 (appA (arN 3 f_q_formula) (consA (appA (arN 2 f_q_pool) (consA (varD 0) (consA (bin addD (retD (.v (.int 14))) (varD 4)) nilA))) (consA (varD 1) (consA (appA lenD (consA (varD 3) nilA)) nilA))))) (killS [4] (seqS (ifS (tstD (bin (inA true) (varD 5) (varD 3))) (exprS (mthD tyL appendD (varD 3) (consA (varD 5) nilA))) nxS) (exprS (methF 2 tm_number_of (varD 2) (consA (varD 5) nilA)))))))) (killS [0, 1, 4, 5] (seqS (setS 6 (appA lenD (consA (varD 3) nilA))) (seqS (forS (argI rng2 (consA (appA max2D (consA (retD (.v (.int 0))) (consA (bin subD (varD 6) (retD (.v (.int 5)))) nilA))) (consA (varD 6) nilA))) (tgN 7) (killS [8, 9] (seqS (ifS (tstD (bin (eqD true) (methZ 9 2 2 (f_Contents_text 6) (varD 2) (consA (varD 7) nilA)) (appA (arN 3 (f_q_text 6)) (consA (varD 3) (consA (varD 7) (consA (retD (.v (.int 2))) nilA)))))) (killS [2, 3, 6, 7] (retS (retD (.v (.bl false))))) nxS) (forS (seqI (appA lstD (consA (retD (.v (.int 4))) (consA (retD (.v (.int 0))) (consA (retD (.v (.int 3))) (consA (retD (.v (.int 1))) (consA (retD (.v (.int 2))) nilA))))))) (tgN 8) (killS [9] (seqS (setS 9 (methK 9 2 (f_Contents_text 6) (varD 2) (consA (varD 7) nilA) (consA (varD 8) nilA))) (ifS (orB (notB (tstD (un (isiD ti_str) (varD 9)))) (tstD (bin (eqD true) (varD 9) (appA (arN 3 (f_q_text 6)) (consA (varD 3) (consA (varD 7) (consA (varD 8) nilA))))))) (killS [2, 3, 6, 7, 8, 9] (retS (retD (.v (.bl false))))) nxS))))))) (killS [3, 7, 8, 9] (seqS (forS (seqI (appA lstD (consA (un negD (retD (.v (.int 1)))) (consA (varD 6) (consA (bin addD (varD 6) (retD (.v (.int 7)))) nilA))))) (tgN 7) (ifS (tstD (bin (eqD true) (appA (arN 2 f_q_missing) (consA (varD 2) (consA (varD 7) nilA))) (appA tupD (consA (varD 7) (consA (retD (.v (.bl true))) nilA))))) (killS [2, 6, 7] (retS (retD (.v (.bl false))))) nxS)) (killS [7] (retS (bin (eqD false) (un (lenO tm_zlenz) (varD 2)) (varD 6)))))))))))))
noncomputable def f_law : List D → M D := scopeF false (bodyF 10 d_law)
/-! what the top has written -/
def fa : List Chk := [
  faB (.free "len"),
  faB (.glo "BadFormula"),
  excB PG.main.file 27,
  kwB ("Contents", some "text") "depth" 2,
  faB (.meth "Contents" "text"),
  faB (.glo "page_text"),
  faB (.free "int"),
  faB (.free "range"),
  faB (.glo "_law_word"),
  faB (.glo "_law_draw"),
  faB (.free "sum"),
  faB (.free "tuple"),
  faB (.free "isinstance"),
  faB (.glo "RedoError"),
  faB (.glo "_law_text"),
  faB (.free "str"),
  faB (.glo "_law_missing"),
  faB (.free "max"),
  faB (.glo "_law_pool"),
  faB (.glo "_law_formula"),
  faB (.glo "Contents"),
  clsB 9,
  faB (.mkr "Contents"),
  faB (.glo "_law_names"),
  faB (.glo "law"),
  faB (.free "super"),
  faB (.meth "Contents" "formula"),
  faB (.meth "Contents" "__len__"),
  faB (.meth "Contents" "number_of"),
  (fun K => PySem.W.fnIn K (ma K (ga K "Contents") "__len__")),
  DN.kitB .non (fun _ => .type "str") false,
  DN.kitB .bl (fun _ => .type "str") false,
  DN.kitB .int (fun _ => .type "str") false,
  DN.kitB .str (fun _ => .type "str") true,
  DN.kitB .lst (fun _ => .type "str") false,
  DN.kitB .tup (fun _ => .type "str") false,
  DN.kitB (.ins 9) (fun _ => .type "str") false,
  isiB 9,
  (fun K => boO (PySem.W.exmOne K (.ref (ga K (cnm 27))) (.ref (ga K (cnm 27)))) (some (subE 27 27))),
  (fun K => boO (PySem.W.kitOne K (.ref (ga K (cnm 27))) (.ref (ga K "RedoError"))) (some (subE 27 20))),
  faB (.noat "BadFormula" "number")]
def dx0 : DX := ⟨("Contents", some "__len__"), "Contents.__len__", s_Contents_zlenz, []⟩
def dx1 : DX := ⟨("page_text", none), "page_text", s_page_text, []⟩
def dx2 : DX := ⟨("Contents", some "formula"), "Contents.formula", s_Contents_formula, []⟩
def dx3 : DX := ⟨("Contents", some "text"), "Contents.text", s_Contents_text, []⟩
def dx4 : DX := ⟨("_law_missing", none), "_law_missing", s_q_missing, []⟩
def dx5 : DX := ⟨("_law_text", none), "_law_text", s_q_text, []⟩
def dx6 : DX := ⟨("_law_draw", none), "_law_draw", s_q_draw, []⟩
def dx7 : DX := ⟨("_law_pool", none), "_law_pool", s_q_pool, []⟩
def dx8 : DX := ⟨("Contents", some "number_of"), "Contents.number_of", s_Contents_number_of, []⟩
def dx9 : DX := ⟨("_law_formula", none), "_law_formula", s_q_formula, []⟩
def dx10 : DX := ⟨("Contents", some "__init__"), "Contents.__init__", s_Contents_zinitz, []⟩
def dx11 : DX := ⟨("_law_word", none), "_law_word", s_q_word, []⟩
def dx12 : DX := ⟨("_law_names", none), "_law_names", s_q_names, []⟩
def dx13 : DX := ⟨("law", none), "law", s_law, []⟩
def dx14 : DX := ⟨("BadFormula", some "__init__"), "BadFormula.__init__", s_e27, ["__class__"]⟩
def fn : List DX := [dx0, dx1, dx2, dx3, dx4, dx5, dx6, dx7, dx8, dx9, dx10, dx11, dx12, dx13, dx14]
structure Cxt (w : World) (K : PySem.W.Frag) (mg : Str → Option Value) (h base : Heap) : Prop where
  sy : SaysX fa fn K
  kin : K.In h
  ns : h.Ns mainGlobals mg
section
variable {w : World} {K : PySem.W.Frag} {mg : Str → Option Value} {h base : Heap}
theorem Cxt.free_len (T : Cxt w K mg h base) : mg "len" = none := free_ok T.kin T.ns (T.sy.fact 0)
theorem Cxt.glo_BadFormula (T : Cxt w K mg h base) : mg "BadFormula" = some (.ref (ga K "BadFormula")) := glo_ok T.kin T.ns (T.sy.fact 1)
theorem Cxt.glo_page_text (T : Cxt w K mg h base) : mg "page_text" = some (.ref (ga K "page_text")) := glo_ok T.kin T.ns (T.sy.fact 5)
theorem Cxt.free_int (T : Cxt w K mg h base) : mg "int" = none := free_ok T.kin T.ns (T.sy.fact 6)
theorem Cxt.free_range (T : Cxt w K mg h base) : mg "range" = none := free_ok T.kin T.ns (T.sy.fact 7)
theorem Cxt.glo__law_word (T : Cxt w K mg h base) : mg "_law_word" = some (.ref (ga K "_law_word")) := glo_ok T.kin T.ns (T.sy.fact 8)
theorem Cxt.glo__law_draw (T : Cxt w K mg h base) : mg "_law_draw" = some (.ref (ga K "_law_draw")) := glo_ok T.kin T.ns (T.sy.fact 9)
theorem Cxt.free_sum (T : Cxt w K mg h base) : mg "sum" = none := free_ok T.kin T.ns (T.sy.fact 10)
theorem Cxt.free_tuple (T : Cxt w K mg h base) : mg "tuple" = none := free_ok T.kin T.ns (T.sy.fact 11)
theorem Cxt.free_isinstance (T : Cxt w K mg h base) : mg "isinstance" = none := free_ok T.kin T.ns (T.sy.fact 12)
theorem Cxt.glo_RedoError (T : Cxt w K mg h base) : mg "RedoError" = some (.ref (ga K "RedoError")) := glo_ok T.kin T.ns (T.sy.fact 13)
theorem Cxt.glo__law_text (T : Cxt w K mg h base) : mg "_law_text" = some (.ref (ga K "_law_text")) := glo_ok T.kin T.ns (T.sy.fact 14)
theorem Cxt.free_str (T : Cxt w K mg h base) : mg "str" = none := free_ok T.kin T.ns (T.sy.fact 15)
theorem Cxt.glo__law_missing (T : Cxt w K mg h base) : mg "_law_missing" = some (.ref (ga K "_law_missing")) := glo_ok T.kin T.ns (T.sy.fact 16)
theorem Cxt.free_max (T : Cxt w K mg h base) : mg "max" = none := free_ok T.kin T.ns (T.sy.fact 17)
theorem Cxt.glo__law_pool (T : Cxt w K mg h base) : mg "_law_pool" = some (.ref (ga K "_law_pool")) := glo_ok T.kin T.ns (T.sy.fact 18)
theorem Cxt.glo__law_formula (T : Cxt w K mg h base) : mg "_law_formula" = some (.ref (ga K "_law_formula")) := glo_ok T.kin T.ns (T.sy.fact 19)
theorem Cxt.glo_Contents (T : Cxt w K mg h base) : mg "Contents" = some (.ref (ga K "Contents")) := glo_ok T.kin T.ns (T.sy.fact 20)
theorem Cxt.cls_9 (T : Cxt w K mg h base) : ClsF (gOf K w) 9 := clsB_ok (T.sy.fact 21)
theorem Cxt.mkr_Contents (T : Cxt w K mg h base) : Mk K (ga K "Contents") (ma K (ga K "Contents") "__init__") := mkr_ok (T.sy.fact 22)
theorem Cxt.glo__law_names (T : Cxt w K mg h base) : mg "_law_names" = some (.ref (ga K "_law_names")) := glo_ok T.kin T.ns (T.sy.fact 23)
theorem Cxt.glo_law (T : Cxt w K mg h base) : mg "law" = some (.ref (ga K "law")) := glo_ok T.kin T.ns (T.sy.fact 24)
theorem Cxt.free_super (T : Cxt w K mg h base) : mg "super" = none := free_ok T.kin T.ns (T.sy.fact 25)
theorem Cxt.err_27 (T : Cxt w K mg h base) : ErrOk PG w K mg base 1 27 := by
  refine err_ok (d := dx14) (sto := [(7, ⟨8, 8, 8, 12⟩, ⟨8, 8, 8, 19⟩, ⟨8, 22, 8, 28⟩, ⟨8, 8, 8, 28⟩)]) (k := 0) T.sy 2 14 rfl rfl rfl rfl (by decide +kernel) (by decide +kernel) (by decide +kernel) (by decide +kernel) T.free_super rfl rfl (by decide) (by decide) (by decide) bt_super ?_
  intro nm qual body kV doc pm an cdv ct cc us hl
  exact match us, hl with | [_, _], _ => rfl
theorem Cxt.no_number (T : Cxt w K mg h base) : ∀ c ∈ [27], PySem.W.findIn K (.ref (ga K (cnm c))) "number" = some none := by
  intro c hc
  simp only [List.mem_cons, List.mem_nil_iff, or_false] at hc
  subst hc
  exact noat_ok (T.sy.fact 40)
theorem Cxt.xf (T : Cxt w K mg h base) : ∀ c ∈ [27], XfC K (ga K (cnm c)) := by
  intro c hc
  simp only [List.mem_cons, List.mem_nil_iff, or_false] at hc
  subst hc
  exact excB_xf (T.sy.fact 2)
theorem Cxt.xi (T : Cxt w K mg h base) : ∀ c ∈ [27], XiC K (ga K (cnm c)) := by
  intro c hc
  simp only [List.mem_cons, List.mem_nil_iff, or_false] at hc
  subst hc
  exact excB_xi (T.sy.fact 2)
theorem Cxt.exk_RedoError (T : Cxt w K mg h base) : ∀ c ∈ [27], PySem.W.kitOne K (.ref (ga K (cnm c))) (.ref (ga K "RedoError")) = some (subE c 20) := by
  intro c hc
  simp only [List.mem_cons, List.mem_nil_iff, or_false] at hc
  subst hc
  exact of_decide_eq_true (T.sy.fact 39)
theorem Cxt.isi_str (T : Cxt w K mg h base) : ∀ t b, ti_str t = some b → PySem.W.kitOne (gOf K w).K (tgV (gOf K w) t) (.type "str") = some b := is_of (tab := ti_str) (u := (.type "str")) [9] (fun c b e => by unfold ti_str at e; split at e <;> simp_all) ⟨fun _ e => by cases e; exact DN.kitB_ok (T.sy.fact 30), fun _ e => by cases e; exact DN.kitB_ok (T.sy.fact 31), fun _ e => by cases e; exact DN.kitB_ok (T.sy.fact 32), fun _ e => by cases e; exact DN.kitB_ok (T.sy.fact 33), fun _ e => by cases e; exact DN.kitB_ok (T.sy.fact 34), fun _ e => by cases e; exact DN.kitB_ok (T.sy.fact 35)⟩ (by
  intro c hc b e
  simp only [List.mem_cons, List.mem_nil_iff, or_false] at hc
  subst hc
  cases e; exact DN.kitB_ok (T.sy.fact 36))
theorem Cxt.isc_str (T : Cxt w K mg h base) : ∀ c b, ti_str (.ins c) = some b → IsiC (gOf K w).K ((gOf K w).cl c) := by
  intro c b e
  have hc : c ∈ ([9] : List Nat) := by unfold ti_str at e; split at e <;> simp_all
  simp only [List.mem_cons, List.mem_nil_iff, or_false] at hc
  subst hc
  exact isiB_ok (T.sy.fact 37)
end
/-! the tries -/
theorem par_q_missing0 : ∀ z ∈ zs_q_missing0, ∀ a dx c fs τ L, clOne z a dx c fs τ L = clOne z 0 0 c fs τ L := by
  intro z hz a dx c fs τ L
  unfold zs_q_missing0 at hz
  simp only [List.mem_cons, List.mem_nil_iff, or_false] at hz
  subst hz
  by_cases hl3 : 3 < τ.length <;> 
  cases hf7 : fget (flT c) fs 7 <;> simp [clOne, killS, killT, retS, eThen, appA, consA, nilA, exfD, exiD, tupD, asPs, asP, dropO, dropN, le_line, bind, M.bnd, pure, M.ret, hl3, hf7]

/-! each def keeps its promise -/
section
variable {w : World} {K : PySem.W.Frag} {mg : Str → Option Value} {h base : Heap}
theorem sc_Contents_zlenz : FnScope [("self" : Str)] [("self" : Str)] (defScope s_Contents_zlenz) := ⟨rfl, rfl, rfl, by decide +kernel, rfl, by decide +kernel, by decide +kernel⟩
theorem Cxt.ok_Contents_zlenz (T : Cxt w K mg h base) : FnD PG w K mg base (gOf K w) (fAd K dx0.at_) 2 1 f_Contents_zlenz := by
  obtain ⟨fd, q⟩ := T.sy.def_ 0 (d := dx0) (ps := [("self" : Str)]) rfl rfl fun _ _ _ _ _ _ us hl => match us, hl with | [_], _ => rfl
  refine ⟨⟨fd, [("self" : Str)], fn_scope false (fn_ok (k := 1) q.F sc_Contents_zlenz rfl rfl fun cdv A outer s0 H E hr tk po => ?_), q.B⟩, q.F.kp⟩
  have scN := (sc_Contents_zlenz).nd
  have hu := hu65 hr
  have hu4 := hu64 hr
  exact (dss_one (ds_ret (de_callB call_len (cd_len rfl) rfl (T.free_len) bt_len (da_cons (de_att 5 rfl rfl (de_var (i := 0) rfl (by first | exact .inl rfl | exact .inr (.inl rfl) | exact .inr (.inr rfl)))) da_nil))))
theorem Cxt.mt_zlenz (T : Cxt w K mg h base) : ∀ c fn, tm_zlenz c = some fn → SOk PG w K mg base (gOf K w) "__len__" 2 c 1 fn := by
  intro c fn e
  have hc : c ∈ ([9] : List Nat) := by unfold tm_zlenz at e; split at e <;> simp_all
  simp only [List.mem_cons, List.mem_nil_iff, or_false] at hc
  subst hc
  cases e; exact sok_of (meth_ok (T.sy.fact 27)) (T.sy.fact 29) (T.ok_Contents_zlenz) (by decide)
theorem Cxt.ms_zlenz (T : Cxt w K mg h base) : ∃ c fn, tm_zlenz c = some fn := ⟨9, _, rfl⟩
theorem sc_page_text : FnScope [("page" : Str)] [("page" : Str)] (defScope s_page_text) := ⟨rfl, rfl, rfl, by decide +kernel, rfl, by decide +kernel, by decide +kernel⟩
theorem Cxt.ok_page_text (T : Cxt w K mg h base) : FnD PG w K mg base (gOf K w) (fAd K dx1.at_) 2 1 f_page_text := by
  obtain ⟨fd, q⟩ := T.sy.def_ 1 (d := dx1) (ps := [("page" : Str)]) rfl rfl fun _ _ _ _ _ _ us hl => match us, hl with | [_], _ => rfl
  refine ⟨⟨fd, [("page" : Str)], fn_scope false (fn_ok (k := 1) q.F sc_page_text rfl rfl fun cdv A outer s0 H E hr tk po => ?_), q.B⟩, q.F.kp⟩
  have scN := (sc_page_text).nd
  have hu := hu65 hr
  have hu4 := hu64 hr
  exact (dss_one (ds_ret (de_joined (.cons (de_fmt (de_ixA rfl rfl hu (de_var (i := 0) rfl (by first | exact .inl rfl | exact .inr (.inl rfl) | exact .inr (.inr rfl))) de_int fun _ _ => rfl)) (.cons de_str (.cons (de_fmt (de_ixA rfl rfl hu (de_var (i := 0) rfl (by first | exact .inl rfl | exact .inr (.inl rfl) | exact .inr (.inr rfl))) de_int fun _ _ => rfl)) .nil))))))
theorem sc_Contents_formula : FnScope [("self" : Str), ("number" : Str)] [("self" : Str), ("number" : Str)] (defScope s_Contents_formula) := ⟨rfl, rfl, rfl, by decide +kernel, rfl, by decide +kernel, by decide +kernel⟩
theorem Cxt.ok_Contents_formula (T : Cxt w K mg h base) : FnD PG w K mg base (gOf K w) (fAd K dx2.at_) 3 2 f_Contents_formula := by
  obtain ⟨fd, q⟩ := T.sy.def_ 2 (d := dx2) (ps := [("self" : Str), ("number" : Str)]) rfl rfl fun _ _ _ _ _ _ us hl => match us, hl with | [_, _], _ => rfl
  refine ⟨⟨fd, [("self" : Str), ("number" : Str)], fn_scope false (fn_ok (k := 2) q.F sc_Contents_formula rfl rfl fun cdv A outer s0 H E hr tk po => ?_), q.B⟩, q.F.kp⟩
  have scN := (sc_Contents_formula).nd
  have hu := hu65 hr
  have hu4 := hu64 hr
  exact (dss_cons (ds_if (dt_not (dt_chain op_le op_lt opd_ordI opd_ordI de_int (de_var (i := 1) rfl (by first | exact .inl rfl | exact .inr (.inl rfl) | exact .inr (.inr rfl))) (de_callB call_len (cd_len rfl) rfl (T.free_len) bt_len (da_cons (de_att 5 rfl rfl (de_var (i := 0) rfl (by first | exact .inl rfl | exact .inr (.inl rfl) | exact .inr (.inr rfl)))) da_nil)))) (ds_kill [0] (dss_one (ds_raiseX (T.err_27) rfl rfl tk (hr.mono (by decide)) rfl T.glo_BadFormula (da_cons (de_var (i := 1) rfl (by first | exact .inl rfl | exact .inr (.inl rfl) | exact .inr (.inr rfl))) da_nil)))) dss_nil) (dss_one (ds_ret (de_ixA rfl rfl hu (de_att 5 rfl rfl (de_var (i := 0) rfl (by first | exact .inl rfl | exact .inr (.inl rfl) | exact .inr (.inr rfl)))) (de_var (i := 1) rfl (by first | exact .inl rfl | exact .inr (.inl rfl) | exact .inr (.inr rfl))) fun _ _ => rfl))))
theorem Cxt.mt_formula (T : Cxt w K mg h base) : ∀ c fn, tm_formula c = some fn → MOk PG w K mg base (gOf K w) "formula" 3 c 2 fn := by
  intro c fn e
  have hc : c ∈ ([9] : List Nat) := by unfold tm_formula at e; split at e <;> simp_all
  simp only [List.mem_cons, List.mem_nil_iff, or_false] at hc
  subst hc
  cases e; exact mok_of (meth_ok (T.sy.fact 26)) (T.ok_Contents_formula) (by decide) (by decide)
theorem Cxt.ms_formula (T : Cxt w K mg h base) : ∃ c fn, tm_formula c = some fn := ⟨9, _, rfl⟩
theorem sc_Contents_text : FnScope [("self" : Str), ("number" : Str), ("depth" : Str), ("formula" : Str), ("head" : Str), ("parts" : Str), ("part" : Str)] [("self" : Str), ("number" : Str), ("depth" : Str)] (defScope s_Contents_text) := ⟨rfl, rfl, rfl, by decide +kernel, rfl, by decide +kernel, by decide +kernel⟩
theorem Cxt.kok_Contents_text (T : Cxt w K mg h base) : ∀ r, KOk PG w K mg base (gOf K w) "text" (5 + r) 9 2 "depth" 2 (f_Contents_text r) := by
  obtain ⟨fd, F⟩ := T.sy.fun_ 3 (d := dx3) rfl rfl
  have FD := fund_of F (T.sy.fact 3)
  have hb : ∃ ds, Vals [V.int 2] ds ∧ Binds K fd [("self" : Str), ("number" : Str), ("depth" : Str)] ds := FD.binds0 2 (by simp) rfl fun D doc pm an cdv ct us ks l1 l2 => match us, ks, l1, l2 with | [_, _], [_], _, _ => ⟨_, _, _, _, _, _, rfl, rfl, rfl⟩
  have hk : KBn K fd [("self" : Str), ("number" : Str), ("depth" : Str)] 2 [("depth" : Str)] (fun us ws => us ++ ws) (fun vs zs => vs ++ zs) := by
    obtain ⟨oc, od, kV, doc, pm, an, cdv, ct, osl, e1, e2, e3⟩ := F.ex
    subst e1
    exact ⟨fun s us ws X l1 l2 => match us, ws, l1, l2 with | [_, _], [_], _, _ => .of_eq rfl, fun r1 r2 => r1.append r2⟩
  intro r
  induction r with
  | zero => exact kok_of (j := 5) (meth_ok (T.sy.fact 4)) (fn_zero rfl) hb hk (Nat.le_refl _) (by decide)
  | succ r ih =>
    refine kok_of (j := 5 + r + 1) (meth_ok (T.sy.fact 4)) (fn_scope false (fn_ok (k := 5 + r) F sc_Contents_text rfl rfl fun cdv A outer s0 H E hr tk po => ?_)) hb hk (Nat.le_refl _) (by decide)
    have scN := (sc_Contents_text).nd
    have hu := hu65 hr
    have hu4 := hu64 hr
    exact (dss_cons (ds_set (i := 3) scN rfl (by first | exact .inl rfl | exact .inr rfl) (de_meth rfl T.mt_formula T.ms_formula (hr.mono (by omega)) tk (de_var (i := 0) rfl (by first | exact .inl rfl | exact .inr (.inl rfl) | exact .inr (.inr rfl))) (da_cons (de_var (i := 1) rfl (by first | exact .inl rfl | exact .inr (.inl rfl) | exact .inr (.inr rfl))) da_nil))) (ds_kill [1] (dss_cons (ds_if (dt_eq rfl hu4 (de_ixA rfl rfl hu (de_var (i := 3) rfl (by first | exact .inl rfl | exact .inr (.inl rfl) | exact .inr (.inr rfl))) de_int fun _ _ => rfl) de_str) (ds_kill [0, 2] (dss_one (ds_ret (de_callX (T.ok_page_text) (hr.mono (by omega)) rfl T.glo_page_text tk (da_cons (de_ixA rfl rfl hu (de_var (i := 3) rfl (by first | exact .inl rfl | exact .inr (.inl rfl) | exact .inr (.inr rfl))) de_int fun _ _ => rfl) da_nil))))) dss_nil) (dss_cons (ds_set (i := 4) scN rfl (by first | exact .inl rfl | exact .inr rfl) (de_joined (.cons (de_fmt (de_ixA rfl rfl hu (de_var (i := 3) rfl (by first | exact .inl rfl | exact .inr (.inl rfl) | exact .inr (.inr rfl))) de_int fun _ _ => rfl)) (.cons de_str (.cons (de_fmt (de_ixA rfl rfl hu (de_var (i := 3) rfl (by first | exact .inl rfl | exact .inr (.inl rfl) | exact .inr (.inr rfl))) de_int fun _ _ => rfl)) .nil))))) (dss_cons (ds_if (PW.pt (dw_or (dt_eq rfl hu4 (de_ixA rfl rfl hu (de_var (i := 3) rfl (by first | exact .inl rfl | exact .inr (.inl rfl) | exact .inr (.inr rfl))) de_int fun _ _ => rfl) de_str) (dw_or1 (dt_not (dt_tru rfl (de_ixA rfl rfl hu (de_var (i := 3) rfl (by first | exact .inl rfl | exact .inr (.inl rfl) | exact .inr (.inr rfl))) de_int fun _ _ => rfl)))))) (ds_kill [0, 2, 3] (dss_one (ds_ret (de_add rfl (de_var (i := 4) rfl (by first | exact .inl rfl | exact .inr (.inl rfl) | exact .inr (.inr rfl))) de_str)))) dss_nil) (dss_cons (ds_if (dt_eq rfl hu4 (de_var (i := 2) rfl (by first | exact .inl rfl | exact .inr (.inl rfl) | exact .inr (.inr rfl))) de_int) (ds_kill [0, 2, 3] (dss_one (ds_ret (de_add rfl (de_var (i := 4) rfl (by first | exact .inl rfl | exact .inr (.inl rfl) | exact .inr (.inr rfl))) de_str)))) dss_nil) (dss_cons (ds_setLc (i := 5) (own := [("part", 6)]) (mu := false) rfl scN rfl rfl rfl (di_seq rfl (de_ixA rfl rfl hu (de_var (i := 3) rfl (by first | exact .inl rfl | exact .inr (.inl rfl) | exact .inr (.inr rfl))) de_int fun _ _ => rfl)) (blkOk_by rfl) (fun _ _ _ _ _ => (pg_name (i := 6) scN rfl (by first | exact .inl rfl | exact .inr rfl) (by first | exact .inl rfl | exact .inr rfl))) (tw_name 6 (by decide)) (fun sB HB CB clB fpB => dts_nil) (fun sB HB CB clB fpB => (de_methK rfl ih hr tk_never (de_var (i := 0) rfl (by first | exact .inl rfl | exact .inr (.inl rfl) | exact .inr (.inr rfl))) (da_cons (de_var (i := 6) rfl (by first | exact .inl rfl | exact .inr (.inl rfl) | exact .inr (.inr rfl))) da_nil) (dk_cons (de_sub (de_var (i := 2) rfl (by first | exact .inl rfl | exact .inr (.inl rfl) | exact .inr (.inr rfl))) de_int) dk_nil)))) (ds_kill [0, 2, 3] (dss_one (ds_ret (de_joined (.cons (de_fmt (de_var (i := 4) rfl (by first | exact .inl rfl | exact .inr (.inl rfl) | exact .inr (.inr rfl)))) (.cons de_str (.cons (de_fmt (de_mth rfl PySem.F.plainAttrs_str PySem.F.slot_str_join PySem.F.type_str_join mt_join td_str (md_join rfl) de_str (da_cons (de_var (i := 5) rfl (by first | exact .inl rfl | exact .inr (.inl rfl) | exact .inr (.inr rfl))) da_nil))) (.cons de_str .nil)))))))))))))))
theorem Cxt.exm_q_missing0 (T : Cxt w K mg h base) : ∀ c ∈ tb_q_missing0, ∀ z ∈ zs_q_missing0, PySem.W.exmOne K (.ref ((gOf K w).cl c)) (.ref ((gOf K w).cl z.c)) = some (subE c z.c) := by
  intro c hc z hz
  unfold tb_q_missing0 at hc
  unfold zs_q_missing0 at hz
  simp only [List.mem_cons, List.mem_nil_iff, or_false] at hc hz
  subst hc
  subst hz
  first
  | exact of_decide_eq_true (T.sy.fact 38)
theorem sc_q_missing : FnScope [("_law_contents" : Str), ("_law_number" : Str), ("_law_text_here" : Str), ("e" : Str)] [("_law_contents" : Str), ("_law_number" : Str)] (defScope s_q_missing) := ⟨rfl, rfl, rfl, by decide +kernel, rfl, by decide +kernel, by decide +kernel⟩
theorem Cxt.ok_q_missing (T : Cxt w K mg h base) : FnD PG w K mg base (gOf K w) (fAd K dx4.at_) 13 2 f_q_missing := by
  obtain ⟨fd, q⟩ := T.sy.def_ 4 (d := dx4) (ps := [("_law_contents" : Str), ("_law_number" : Str)]) rfl rfl fun _ _ _ _ _ _ us hl => match us, hl with | [_, _], _ => rfl
  refine ⟨⟨fd, [("_law_contents" : Str), ("_law_number" : Str)], fn_scope false (fn_ok (k := 12) q.F sc_q_missing rfl rfl fun cdv A outer s0 H E hr tk po => ?_), q.B⟩, q.F.kp⟩
  have scN := (sc_q_missing).nd
  have hu := hu65 hr
  have hu4 := hu64 hr
  exact (dss_cons (ds_try rfl rfl scN tk (fun pn xe W tk po => (dss_one (ds_set (i := 2) scN rfl (by first | exact .inl rfl | exact .inr rfl) (de_methZ rfl (T.kok_Contents_text 6) (hr.mono (by decide)) tk (de_var (i := 0) rfl (by first | exact .inl rfl | exact .inr (.inl rfl) | exact .inr (.inr rfl))) (da_cons (de_var (i := 1) rfl (by first | exact .inl rfl | exact .inr (.inl rfl) | exact .inr (.inr rfl))) da_nil))))) (.named (i := 3) rfl rfl rfl ⟨rfl, rfl, .inl T.glo_BadFormula⟩ (fun a oe dx c pn hc hz hf => (ds_kill [0, 1, 2] (dss_one (ds_ret (de_tup (da_cons (de_exf 7 rfl (T.xf c hc) (T.no_number c hc) nmT_nodup hz hf rfl (by first | exact .inl rfl | exact .inr (.inl rfl) | exact .inr (.inr rfl))) (da_cons (de_exi (T.xi c hc) hz hf rfl (by first | exact .inl rfl | exact .inr (.inl rfl) | exact .inr (.inr rfl)) (.own _) (T.exk_RedoError c hc) (by exact pe_glob rfl T.glo_RedoError rfl) (by exact rfl) (T.free_isinstance) bt_isinstance) da_nil))))))) .nil) (T.exm_q_missing0) par_q_missing0) (ds_kill [0, 1] (dss_one (ds_ret (de_tup (da_cons (de_var (i := 2) rfl (by first | exact .inl rfl | exact .inr (.inl rfl) | exact .inr (.inr rfl))) da_nil))))))
theorem sc_q_text : FnScope [("_law_known" : Str), ("_law_number" : Str), ("_law_deep" : Str), ("_law_formula_here" : Str), ("_law_head" : Str), ("_law_parts" : Str), ("_law_part" : Str)] [("_law_known" : Str), ("_law_number" : Str), ("_law_deep" : Str)] (defScope s_q_text) := ⟨rfl, rfl, rfl, by decide +kernel, rfl, by decide +kernel, by decide +kernel⟩
theorem Cxt.ok_q_text (T : Cxt w K mg h base) : ∀ r, FnD PG w K mg base (gOf K w) (fAd K dx5.at_) (2 + r) 3 (f_q_text r) := by
  obtain ⟨fd, q⟩ := T.sy.def_ 5 (d := dx5) (ps := [("_law_known" : Str), ("_law_number" : Str), ("_law_deep" : Str)]) rfl rfl fun _ _ _ _ _ _ us hl => match us, hl with | [_, _, _], _ => rfl
  intro r
  induction r with
  | zero => exact ⟨⟨fd, [("_law_known" : Str), ("_law_number" : Str), ("_law_deep" : Str)], fn_zero rfl, q.B⟩, q.F.kp⟩
  | succ r ih =>
    refine ⟨⟨fd, [("_law_known" : Str), ("_law_number" : Str), ("_law_deep" : Str)], fn_scope false (fn_ok (k := 2 + r) q.F sc_q_text rfl rfl fun cdv A outer s0 H E hr tk po => ?_), q.B⟩, q.F.kp⟩
    have scN := (sc_q_text).nd
    have hu := hu65 hr
    have hu4 := hu64 hr
    exact (dss_cons (ds_set (i := 3) scN rfl (by first | exact .inl rfl | exact .inr rfl) (de_ixA rfl rfl hu (de_var (i := 0) rfl (by first | exact .inl rfl | exact .inr (.inl rfl) | exact .inr (.inr rfl))) (de_var (i := 1) rfl (by first | exact .inl rfl | exact .inr (.inl rfl) | exact .inr (.inr rfl))) fun _ _ => rfl)) (ds_kill [1] (dss_cons (ds_if (dt_eq rfl hu4 (de_ixA rfl rfl hu (de_var (i := 3) rfl (by first | exact .inl rfl | exact .inr (.inl rfl) | exact .inr (.inr rfl))) de_int fun _ _ => rfl) de_str) (ds_kill [0, 2] (dss_one (ds_ret (de_add rfl (de_add rfl (de_ixA rfl rfl hu (de_ixA rfl rfl hu (de_var (i := 3) rfl (by first | exact .inl rfl | exact .inr (.inl rfl) | exact .inr (.inr rfl))) de_int fun _ _ => rfl) de_int fun _ _ => rfl) de_str) (de_callTy call_str_int cd_str rfl (T.free_str) bt_str (da_cons (de_ixA rfl rfl hu (de_ixA rfl rfl hu (de_var (i := 3) rfl (by first | exact .inl rfl | exact .inr (.inl rfl) | exact .inr (.inr rfl))) de_int fun _ _ => rfl) de_int fun _ _ => rfl) da_nil)))))) dss_nil) (dss_cons (ds_set (i := 4) scN rfl (by first | exact .inl rfl | exact .inr rfl) (de_add rfl (de_add rfl (de_callTy call_str_int cd_str rfl (T.free_str) bt_str (da_cons (de_ixA rfl rfl hu (de_var (i := 3) rfl (by first | exact .inl rfl | exact .inr (.inl rfl) | exact .inr (.inr rfl))) de_int fun _ _ => rfl) da_nil)) de_str) (de_ixA rfl rfl hu (de_var (i := 3) rfl (by first | exact .inl rfl | exact .inr (.inl rfl) | exact .inr (.inr rfl))) de_int fun _ _ => rfl))) (dss_cons (ds_if (PW.pt (dw_or (dt_eq rfl hu4 (de_ixA rfl rfl hu (de_var (i := 3) rfl (by first | exact .inl rfl | exact .inr (.inl rfl) | exact .inr (.inr rfl))) de_int fun _ _ => rfl) de_str) (dw_or1 (dt_eq rfl hu4 (de_ixA rfl rfl hu (de_var (i := 3) rfl (by first | exact .inl rfl | exact .inr (.inl rfl) | exact .inr (.inr rfl))) de_int fun _ _ => rfl) (de_tup da_nil))))) (ds_kill [0, 2, 3] (dss_one (ds_ret (de_add rfl (de_var (i := 4) rfl (by first | exact .inl rfl | exact .inr (.inl rfl) | exact .inr (.inr rfl))) de_str)))) dss_nil) (dss_cons (ds_if (dt_eq rfl hu4 (de_var (i := 2) rfl (by first | exact .inl rfl | exact .inr (.inl rfl) | exact .inr (.inr rfl))) de_int) (ds_kill [0, 2, 3] (dss_one (ds_ret (de_add rfl (de_var (i := 4) rfl (by first | exact .inl rfl | exact .inr (.inl rfl) | exact .inr (.inr rfl))) de_str)))) dss_nil) (dss_cons (ds_setLc (i := 5) (own := [("_law_part", 6)]) (mu := false) rfl scN rfl rfl rfl (di_seq rfl (de_ixA rfl rfl hu (de_var (i := 3) rfl (by first | exact .inl rfl | exact .inr (.inl rfl) | exact .inr (.inr rfl))) de_int fun _ _ => rfl)) (blkOk_by rfl) (fun _ _ _ _ _ => (pg_name (i := 6) scN rfl (by first | exact .inl rfl | exact .inr rfl) (by first | exact .inl rfl | exact .inr rfl))) (tw_name 6 (by decide)) (fun sB HB CB clB fpB => dts_nil) (fun sB HB CB clB fpB => (de_callX ih hr rfl T.glo__law_text tk_never (da_cons (de_var (i := 0) rfl (by first | exact .inl rfl | exact .inr (.inl rfl) | exact .inr (.inr rfl))) (da_cons (de_var (i := 6) rfl (by first | exact .inl rfl | exact .inr (.inl rfl) | exact .inr (.inr rfl))) (da_cons (de_sub (de_var (i := 2) rfl (by first | exact .inl rfl | exact .inr (.inl rfl) | exact .inr (.inr rfl))) de_int) da_nil)))))) (ds_kill [0, 2, 3] (dss_one (ds_ret (de_add rfl (de_add rfl (de_add rfl (de_var (i := 4) rfl (by first | exact .inl rfl | exact .inr (.inl rfl) | exact .inr (.inr rfl))) de_str) (de_mth rfl PySem.F.plainAttrs_str PySem.F.slot_str_join PySem.F.type_str_join mt_join td_str (md_join rfl) de_str (da_cons (de_var (i := 5) rfl (by first | exact .inl rfl | exact .inr (.inl rfl) | exact .inr (.inr rfl))) da_nil))) de_str)))))))))))
theorem sc_q_draw : FnScope [("_law_pool_here" : Str), ("_law_many" : Str), ("_law_digit" : Str)] [("_law_pool_here" : Str), ("_law_many" : Str)] (defScope s_q_draw) := ⟨rfl, rfl, rfl, by decide +kernel, rfl, by decide +kernel, by decide +kernel⟩
theorem Cxt.ok_q_draw (T : Cxt w K mg h base) : FnD PG w K mg base (gOf K w) (fAd K dx6.at_) 2 2 f_q_draw := by
  obtain ⟨fd, q⟩ := T.sy.def_ 6 (d := dx6) (ps := [("_law_pool_here" : Str), ("_law_many" : Str)]) rfl rfl fun _ _ _ _ _ _ us hl => match us, hl with | [_, _], _ => rfl
  refine ⟨⟨fd, [("_law_pool_here" : Str), ("_law_many" : Str)], fn_scope false (fn_ok (k := 1) q.F sc_q_draw rfl rfl fun cdv A outer s0 H E hr tk po => ?_), q.B⟩, q.F.kp⟩
  have scN := (sc_q_draw).nd
  have hu := hu65 hr
  have hu4 := hu64 hr
  exact (dss_cons (ds_if (PW.pt (dw_and (dt_gt (de_ixA rfl rfl hu (de_var (i := 0) rfl (by first | exact .inl rfl | exact .inr (.inl rfl) | exact .inr (.inr rfl))) de_int fun _ _ => rfl) de_int) (dw_and1 (dt_gt (de_ixA rfl rfl hu (de_var (i := 0) rfl (by first | exact .inl rfl | exact .inr (.inl rfl) | exact .inr (.inr rfl))) de_int fun _ _ => rfl) de_int)))) (dss_cons (ds_set (i := 2) scN rfl (by first | exact .inl rfl | exact .inr rfl) (de_mod (de_callTy call_int1 cd_int rfl (T.free_int) bt_int (da_cons (de_ixA rfl rfl hu (de_var (i := 0) rfl (by first | exact .inl rfl | exact .inr (.inl rfl) | exact .inr (.inr rfl))) de_int fun _ _ => rfl) da_nil)) (de_var (i := 1) rfl (by first | exact .inl rfl | exact .inr (.inl rfl) | exact .inr (.inr rfl))))) (dss_cons (ds_setI rfl rfl hu (de_var (i := 0) rfl (by first | exact .inl rfl | exact .inr (.inl rfl) | exact .inr (.inr rfl))) de_int (de_fdiv (de_ixA rfl rfl hu (de_var (i := 0) rfl (by first | exact .inl rfl | exact .inr (.inl rfl) | exact .inr (.inr rfl))) de_int fun _ _ => rfl) (de_var (i := 1) rfl (by first | exact .inl rfl | exact .inr (.inl rfl) | exact .inr (.inr rfl))))) (ds_kill [1] (dss_cons (ds_setI rfl rfl hu (de_var (i := 0) rfl (by first | exact .inl rfl | exact .inr (.inl rfl) | exact .inr (.inr rfl))) de_int (de_sub (de_ixA rfl rfl hu (de_var (i := 0) rfl (by first | exact .inl rfl | exact .inr (.inl rfl) | exact .inr (.inr rfl))) de_int fun _ _ => rfl) de_int)) (ds_kill [0] (dss_one (ds_ret (de_var (i := 2) rfl (by first | exact .inl rfl | exact .inr (.inl rfl) | exact .inr (.inr rfl)))))))))) dss_nil) (ds_kill [2] (dss_cons (ds_setI rfl rfl hu (de_var (i := 0) rfl (by first | exact .inl rfl | exact .inr (.inl rfl) | exact .inr (.inr rfl))) de_int (de_mod (de_callTy call_int1 cd_int rfl (T.free_int) bt_int (da_cons (de_add rfl (de_mul (de_ixA rfl rfl hu (de_var (i := 0) rfl (by first | exact .inl rfl | exact .inr (.inl rfl) | exact .inr (.inr rfl))) de_int fun _ _ => rfl) de_int) de_int) da_nil)) de_int)) (dss_one (ds_ret (de_mod (de_callTy call_int1 cd_int rfl (T.free_int) bt_int (da_cons (de_ixA rfl rfl hu (de_var (i := 0) rfl (by first | exact .inl rfl | exact .inr (.inl rfl) | exact .inr (.inr rfl))) de_int fun _ _ => rfl) da_nil)) (de_var (i := 1) rfl (by first | exact .inl rfl | exact .inr (.inl rfl) | exact .inr (.inr rfl)))))))))
theorem sc_q_pool : FnScope [("_law_script" : Str), ("_law_k" : Str), ("_law_seed" : Str), ("_law_digits" : Str)] [("_law_script" : Str), ("_law_k" : Str)] (defScope s_q_pool) := ⟨rfl, rfl, rfl, by decide +kernel, rfl, by decide +kernel, by decide +kernel⟩
theorem Cxt.ok_q_pool (T : Cxt w K mg h base) : FnD PG w K mg base (gOf K w) (fAd K dx7.at_) 2 2 f_q_pool := by
  obtain ⟨fd, q⟩ := T.sy.def_ 7 (d := dx7) (ps := [("_law_script" : Str), ("_law_k" : Str)]) rfl rfl fun _ _ _ _ _ _ us hl => match us, hl with | [_, _], _ => rfl
  refine ⟨⟨fd, [("_law_script" : Str), ("_law_k" : Str)], fn_scope true (fn_ok (k := 1) q.F sc_q_pool rfl rfl fun cdv A outer s0 H E hr tk po => ?_), q.B⟩, q.F.kp⟩
  have scN := (sc_q_pool).nd
  have hu := hu65 hr
  have hu4 := hu64 hr
  exact (dss_cons (ds_set (i := 2) scN rfl (by first | exact .inl rfl | exact .inr rfl) (de_add rfl (de_add rfl (de_mul de_int (de_var (i := 1) rfl (by first | exact .inl rfl | exact .inr (.inl rfl) | exact .inr (.inr rfl)))) de_int) (de_mul de_int (de_callB (cr_sum rfl) (cd_sum rfl) rfl (T.free_sum) bt_sum (da_cons (de_var (i := 0) rfl (by first | exact .inl rfl | exact .inr (.inl rfl) | exact .inr (.inr rfl))) da_nil))))) (dss_cons (ds_set (i := 3) scN rfl (by first | exact .inl rfl | exact .inr rfl) de_int) (dss_cons (ds_if (dt_lt rfl hu4 (de_var (i := 1) rfl (by first | exact .inl rfl | exact .inr (.inl rfl) | exact .inr (.inr rfl))) (de_callB call_len (cd_len rfl) rfl (T.free_len) bt_len (da_cons (de_var (i := 0) rfl (by first | exact .inl rfl | exact .inr (.inl rfl) | exact .inr (.inr rfl))) da_nil))) (dss_cons (ds_set (i := 2) scN rfl (by first | exact .inl rfl | exact .inr rfl) (de_add rfl (de_var (i := 2) rfl (by first | exact .inl rfl | exact .inr (.inl rfl) | exact .inr (.inr rfl))) (de_ixA rfl rfl hu (de_var (i := 0) rfl (by first | exact .inl rfl | exact .inr (.inl rfl) | exact .inr (.inr rfl))) (de_var (i := 1) rfl (by first | exact .inl rfl | exact .inr (.inl rfl) | exact .inr (.inr rfl))) fun _ _ => rfl))) (dss_one (ds_if (dt_ge (de_ixA rfl rfl hu (de_var (i := 0) rfl (by first | exact .inl rfl | exact .inr (.inl rfl) | exact .inr (.inr rfl))) (de_var (i := 1) rfl (by first | exact .inl rfl | exact .inr (.inl rfl) | exact .inr (.inr rfl))) fun _ _ => rfl) (de_pow de_int de_int)) (ds_kill [3] (dss_one (ds_set (i := 3) scN rfl (by first | exact .inl rfl | exact .inr rfl) (de_ixA rfl rfl hu (de_var (i := 0) rfl (by first | exact .inl rfl | exact .inr (.inl rfl) | exact .inr (.inr rfl))) (de_var (i := 1) rfl (by first | exact .inl rfl | exact .inr (.inl rfl) | exact .inr (.inr rfl))) fun _ _ => rfl)))) dss_nil))) dss_nil) (ds_kill [0, 1] (dss_one (ds_ret (de_new (da_cons (de_var (i := 3) rfl (by first | exact .inl rfl | exact .inr (.inl rfl) | exact .inr (.inr rfl))) (da_cons (de_mod (de_callTy call_int1 cd_int rfl (T.free_int) bt_int (da_cons (de_var (i := 2) rfl (by first | exact .inl rfl | exact .inr (.inl rfl) | exact .inr (.inr rfl))) da_nil)) de_int) (da_cons de_int da_nil))))))))))
theorem sc_Contents_number_of : FnScope [("self" : Str), ("formula" : Str), ("number" : Str)] [("self" : Str), ("formula" : Str)] (defScope s_Contents_number_of) := ⟨rfl, rfl, rfl, by decide +kernel, rfl, by decide +kernel, by decide +kernel⟩
theorem Cxt.ok_Contents_number_of (T : Cxt w K mg h base) : FnD PG w K mg base (gOf K w) (fAd K dx8.at_) 5 2 f_Contents_number_of := by
  obtain ⟨fd, q⟩ := T.sy.def_ 8 (d := dx8) (ps := [("self" : Str), ("formula" : Str)]) rfl rfl fun _ _ _ _ _ _ us hl => match us, hl with | [_, _], _ => rfl
  refine ⟨⟨fd, [("self" : Str), ("formula" : Str)], fn_scope false (fn_ok (k := 4) q.F sc_Contents_number_of rfl rfl fun cdv A outer s0 H E hr tk po => ?_), q.B⟩, q.F.kp⟩
  have scN := (sc_Contents_number_of).nd
  have hu := hu65 hr
  have hu4 := hu64 hr
  exact (dss_cons (ds_if (dt_eq rfl hu4 (de_ixA rfl rfl hu (de_var (i := 1) rfl (by first | exact .inl rfl | exact .inr (.inl rfl) | exact .inr (.inr rfl))) de_int fun _ _ => rfl) de_str) (dss_one (ds_for po rfl (di_seq rfl (de_ixA rfl rfl hu (de_var (i := 1) rfl (by first | exact .inl rfl | exact .inr (.inl rfl) | exact .inr (.inr rfl))) de_int fun _ _ => rfl)) (pg_name (i := 2) scN rfl (by first | exact .inl rfl | exact .inr rfl) (by first | exact .inl rfl | exact .inr rfl)) (tg_name 2) (dss_one (ds_expr (de_meth rfl T.mt_formula T.ms_formula (hr.mono (by decide)) tk (de_var (i := 0) rfl (by first | exact .inl rfl | exact .inr (.inl rfl) | exact .inr (.inr rfl))) (da_cons (de_var (i := 2) rfl (by first | exact .inl rfl | exact .inr (.inl rfl) | exact .inr (.inr rfl))) da_nil)))))) dss_nil) (ds_kill [2] (dss_cons (ds_if (dt_ninA rfl rfl hu rfl (de_var (i := 1) rfl (by first | exact .inl rfl | exact .inr (.inl rfl) | exact .inr (.inr rfl))) (de_att 6 rfl rfl (de_var (i := 0) rfl (by first | exact .inl rfl | exact .inr (.inl rfl) | exact .inr (.inr rfl))))) (dss_cons (ds_setI rfl rfl hu (de_att 6 rfl rfl (de_var (i := 0) rfl (by first | exact .inl rfl | exact .inr (.inl rfl) | exact .inr (.inr rfl)))) (de_var (i := 1) rfl (by first | exact .inl rfl | exact .inr (.inl rfl) | exact .inr (.inr rfl))) (de_callB call_len (cd_len rfl) rfl (T.free_len) bt_len (da_cons (de_att 5 rfl rfl (de_var (i := 0) rfl (by first | exact .inl rfl | exact .inr (.inl rfl) | exact .inr (.inr rfl)))) da_nil))) (dss_one (ds_expr (de_mth rfl PySem.F.plainAttrs_list PySem.F.slot_list_append PySem.F.type_list_append mt_append td_list md_append (de_att 5 rfl rfl (de_var (i := 0) rfl (by first | exact .inl rfl | exact .inr (.inl rfl) | exact .inr (.inr rfl)))) (da_cons (de_var (i := 1) rfl (by first | exact .inl rfl | exact .inr (.inl rfl) | exact .inr (.inr rfl))) da_nil))))) dss_nil) (dss_one (ds_ret (de_ixA rfl rfl hu (de_att 6 rfl rfl (de_var (i := 0) rfl (by first | exact .inl rfl | exact .inr (.inl rfl) | exact .inr (.inr rfl)))) (de_var (i := 1) rfl (by first | exact .inl rfl | exact .inr (.inl rfl) | exact .inr (.inr rfl))) fun _ _ => rfl))))))
theorem Cxt.mt_number_of (T : Cxt w K mg h base) : ∀ c fn, tm_number_of c = some fn → MOk PG w K mg base (gOf K w) "number_of" 5 c 2 fn := by
  intro c fn e
  have hc : c ∈ ([9] : List Nat) := by unfold tm_number_of at e; split at e <;> simp_all
  simp only [List.mem_cons, List.mem_nil_iff, or_false] at hc
  subst hc
  cases e; exact mok_of (meth_ok (T.sy.fact 28)) (T.ok_Contents_number_of) (by decide) (by decide)
theorem Cxt.ms_number_of (T : Cxt w K mg h base) : ∃ c fn, tm_number_of c = some fn := ⟨9, _, rfl⟩
theorem sc_q_formula : FnScope [("_law_pool_here" : Str), ("_law_names_here" : Str), ("_law_many" : Str), ("_law_style" : Str), ("_law_step" : Str), ("_law_name" : Str), ("_law_numbers" : Str), ("_law_k" : Str)] [("_law_pool_here" : Str), ("_law_names_here" : Str), ("_law_many" : Str)] (defScope s_q_formula) := ⟨rfl, rfl, rfl, by decide +kernel, rfl, by decide +kernel, by decide +kernel⟩
theorem Cxt.ok_q_formula (T : Cxt w K mg h base) : FnD PG w K mg base (gOf K w) (fAd K dx9.at_) 4 3 f_q_formula := by
  obtain ⟨fd, q⟩ := T.sy.def_ 9 (d := dx9) (ps := [("_law_pool_here" : Str), ("_law_names_here" : Str), ("_law_many" : Str)]) rfl rfl fun _ _ _ _ _ _ us hl => match us, hl with | [_, _, _], _ => rfl
  refine ⟨⟨fd, [("_law_pool_here" : Str), ("_law_names_here" : Str), ("_law_many" : Str)], fn_scope false (fn_ok (k := 3) q.F sc_q_formula rfl rfl fun cdv A outer s0 H E hr tk po => ?_), q.B⟩, q.F.kp⟩
  have scN := (sc_q_formula).nd
  have hu := hu65 hr
  have hu4 := hu64 hr
  exact (dss_cons (ds_set (i := 3) scN rfl (by first | exact .inl rfl | exact .inr rfl) (de_callX (T.ok_q_draw) (hr.mono (by decide)) rfl T.glo__law_draw tk (da_cons (de_var (i := 0) rfl (by first | exact .inl rfl | exact .inr (.inl rfl) | exact .inr (.inr rfl))) (da_cons de_int da_nil)))) (dss_cons (ds_set (i := 4) scN rfl (by first | exact .inl rfl | exact .inr rfl) (de_ixA rfl rfl hu (de_lst (da_cons de_int (da_cons de_int (da_cons de_int (da_cons de_int da_nil))))) (de_callX (T.ok_q_draw) (hr.mono (by decide)) rfl T.glo__law_draw tk (da_cons (de_var (i := 0) rfl (by first | exact .inl rfl | exact .inr (.inl rfl) | exact .inr (.inr rfl))) (da_cons de_int da_nil))) fun _ _ => rfl)) (dss_cons (ds_set (i := 5) scN rfl (by first | exact .inl rfl | exact .inr rfl) (de_ixA rfl rfl hu (de_var (i := 1) rfl (by first | exact .inl rfl | exact .inr (.inl rfl) | exact .inr (.inr rfl))) (de_callX (T.ok_q_draw) (hr.mono (by decide)) rfl T.glo__law_draw tk (da_cons (de_var (i := 0) rfl (by first | exact .inl rfl | exact .inr (.inl rfl) | exact .inr (.inr rfl))) (da_cons de_int da_nil))) fun _ _ => rfl)) (ds_kill [1] (dss_cons (ds_if (dt_eq rfl hu4 (de_var (i := 3) rfl (by first | exact .inl rfl | exact .inr (.inl rfl) | exact .inr (.inr rfl))) de_int) (ds_kill [0, 2, 3] (dss_one (ds_ret (de_tup (da_cons de_str (da_cons (de_tup (da_cons (de_var (i := 5) rfl (by first | exact .inl rfl | exact .inr (.inl rfl) | exact .inr (.inr rfl))) (da_cons (de_mul (de_var (i := 4) rfl (by first | exact .inl rfl | exact .inr (.inl rfl) | exact .inr (.inr rfl))) de_int) da_nil))) da_nil)))))) dss_nil) (dss_cons (ds_if (dt_eq rfl hu4 (de_var (i := 3) rfl (by first | exact .inl rfl | exact .inr (.inl rfl) | exact .inr (.inr rfl))) de_int) (ds_kill [0, 2, 3] (dss_one (ds_ret (de_tup (da_cons de_str (da_cons (de_var (i := 4) rfl (by first | exact .inl rfl | exact .inr (.inl rfl) | exact .inr (.inr rfl))) (da_cons (de_var (i := 5) rfl (by first | exact .inl rfl | exact .inr (.inl rfl) | exact .inr (.inr rfl))) da_nil))))))) dss_nil) (ds_kill [3] (dss_cons (ds_set (i := 6) scN rfl (by first | exact .inl rfl | exact .inr rfl) (de_new da_nil)) (dss_cons (ds_if (dt_gt (de_var (i := 2) rfl (by first | exact .inl rfl | exact .inr (.inl rfl) | exact .inr (.inr rfl))) de_int) (dss_one (ds_for po rfl (di_range1 rfl (T.free_range) (da_cons (de_ixA rfl rfl hu (de_lst (da_cons de_int (da_cons de_int (da_cons de_int (da_cons de_int (da_cons de_int (da_cons de_int (da_cons de_int (da_cons de_int da_nil))))))))) (de_callX (T.ok_q_draw) (hr.mono (by decide)) rfl T.glo__law_draw tk (da_cons (de_var (i := 0) rfl (by first | exact .inl rfl | exact .inr (.inl rfl) | exact .inr (.inr rfl))) (da_cons de_int da_nil))) fun _ _ => rfl) da_nil)) (pg_name (i := 7) scN rfl (by first | exact .inl rfl | exact .inr rfl) (by first | exact .inl rfl | exact .inr rfl)) (tg_name 7) (ds_kill [7] (dss_one (ds_expr (de_mth rfl PySem.F.plainAttrs_list PySem.F.slot_list_append PySem.F.type_list_append mt_append td_list md_append (de_var (i := 6) rfl (by first | exact .inl rfl | exact .inr (.inl rfl) | exact .inr (.inr rfl))) (da_cons (de_callX (T.ok_q_draw) (hr.mono (by decide)) rfl T.glo__law_draw tk (da_cons (de_var (i := 0) rfl (by first | exact .inl rfl | exact .inr (.inl rfl) | exact .inr (.inr rfl))) (da_cons (de_var (i := 2) rfl (by first | exact .inl rfl | exact .inr (.inl rfl) | exact .inr (.inr rfl))) da_nil))) da_nil))))))) dss_nil) (ds_kill [0, 2, 7] (dss_one (ds_ret (de_tup (da_cons de_str (da_cons (de_var (i := 4) rfl (by first | exact .inl rfl | exact .inr (.inl rfl) | exact .inr (.inr rfl))) (da_cons (de_var (i := 5) rfl (by first | exact .inl rfl | exact .inr (.inl rfl) | exact .inr (.inr rfl))) (da_cons (de_callTy call_tuple_of (cd_tuple rfl) rfl (T.free_tuple) bt_tuple (da_cons (de_var (i := 6) rfl (by first | exact .inl rfl | exact .inr (.inl rfl) | exact .inr (.inr rfl))) da_nil)) da_nil)))))))))))))))))
theorem sc_Contents_zinitz : FnScope [("self" : Str)] [("self" : Str)] (defScope s_Contents_zinitz) := ⟨rfl, rfl, rfl, by decide +kernel, rfl, by decide +kernel, by decide +kernel⟩
theorem Cxt.ok_Contents_zinitz (T : Cxt w K mg h base) : FnD PG w K mg base (gOf K w) (fAd K dx10.at_) 2 1 f_Contents_zinitz := by
  obtain ⟨fd, q⟩ := T.sy.def_ 10 (d := dx10) (ps := [("self" : Str)]) rfl rfl fun _ _ _ _ _ _ us hl => match us, hl with | [_], _ => rfl
  refine ⟨⟨fd, [("self" : Str)], (fn_ok (k := 1) q.F sc_Contents_zinitz rfl rfl fun cdv A outer s0 H E hr tk po => ?_), q.B⟩, q.F.kp⟩
  have scN := (sc_Contents_zinitz).nd
  have hu := hu65 hr
  have hu4 := hu64 hr
  exact (dss_cons (ds_satt 5 rfl rfl (de_var (i := 0) rfl (by first | exact .inl rfl | exact .inr (.inl rfl) | exact .inr (.inr rfl))) (de_new da_nil)) (dss_one (ds_satt 6 rfl rfl (de_var (i := 0) rfl (by first | exact .inl rfl | exact .inr (.inl rfl) | exact .inr (.inr rfl))) (de_dn0 rfl))))
theorem sc_q_word : FnScope [("_law_numbers" : Str), ("_law_letters" : Str), ("_law_number" : Str)] [("_law_numbers" : Str)] (defScope s_q_word) := ⟨rfl, rfl, rfl, by decide +kernel, rfl, by decide +kernel, by decide +kernel⟩
theorem Cxt.ok_q_word (T : Cxt w K mg h base) : FnD PG w K mg base (gOf K w) (fAd K dx11.at_) 2 1 f_q_word := by
  obtain ⟨fd, q⟩ := T.sy.def_ 11 (d := dx11) (ps := [("_law_numbers" : Str)]) rfl rfl fun _ _ _ _ _ _ us hl => match us, hl with | [_], _ => rfl
  refine ⟨⟨fd, [("_law_numbers" : Str)], fn_scope false (fn_ok (k := 1) q.F sc_q_word rfl rfl fun cdv A outer s0 H E hr tk po => ?_), q.B⟩, q.F.kp⟩
  have scN := (sc_q_word).nd
  have hu := hu65 hr
  have hu4 := hu64 hr
  exact (dss_cons (ds_set (i := 1) scN rfl (by first | exact .inl rfl | exact .inr rfl) de_str) (dss_one (ds_ret (de_mth rfl PySem.F.plainAttrs_str PySem.F.slot_str_join PySem.F.type_str_join mt_join td_str (md_join rfl) de_str (da_cons (de_lc (own := [("_law_number", 2)]) (mu := false) rfl scN (di_seq rfl (de_var (i := 0) rfl (by first | exact .inl rfl | exact .inr (.inl rfl) | exact .inr (.inr rfl)))) (blkOk_by rfl) (fun _ _ _ _ _ => (pg_name (i := 2) scN rfl (by first | exact .inl rfl | exact .inr rfl) (by first | exact .inl rfl | exact .inr rfl))) (tw_name 2 (by decide)) (fun sB HB CB clB fpB => dts_nil) (fun sB HB CB clB fpB => (de_ixA rfl rfl hu (de_var (i := 1) rfl (by first | exact .inl rfl | exact .inr (.inl rfl) | exact .inr (.inr rfl))) (de_mod (de_callTy call_int1 cd_int rfl (T.free_int) bt_int (da_cons (de_var (i := 2) rfl (by first | exact .inl rfl | exact .inr (.inl rfl) | exact .inr (.inr rfl))) da_nil)) de_int) fun _ _ => rfl))) da_nil)))))
theorem sc_q_names : FnScope [("_law_pool_here" : Str), ("_law_style" : Str), ("_law_shift" : Str), ("_law_stride" : Str), ("_law_place" : Str), ("_law_size" : Str), ("_law_word_here" : Str), ("_law_names_here" : Str), ("_law_k" : Str), ("_law_letter" : Str), ("_law_at" : Str), ("_law_name" : Str)] [("_law_pool_here" : Str)] (defScope s_q_names) := ⟨rfl, rfl, rfl, by decide +kernel, rfl, by decide +kernel, by decide +kernel⟩
theorem Cxt.ok_q_names (T : Cxt w K mg h base) : FnD PG w K mg base (gOf K w) (fAd K dx12.at_) 4 1 f_q_names := by
  obtain ⟨fd, q⟩ := T.sy.def_ 12 (d := dx12) (ps := [("_law_pool_here" : Str)]) rfl rfl fun _ _ _ _ _ _ us hl => match us, hl with | [_], _ => rfl
  refine ⟨⟨fd, [("_law_pool_here" : Str)], fn_scope false (fn_ok (k := 3) q.F sc_q_names rfl rfl fun cdv A outer s0 H E hr tk po => ?_), q.B⟩, q.F.kp⟩
  have scN := (sc_q_names).nd
  have hu := hu65 hr
  have hu4 := hu64 hr
  exact (dss_cons (ds_set (i := 1) scN rfl (by first | exact .inl rfl | exact .inr rfl) (de_callX (T.ok_q_draw) (hr.mono (by decide)) rfl T.glo__law_draw tk (da_cons (de_var (i := 0) rfl (by first | exact .inl rfl | exact .inr (.inl rfl) | exact .inr (.inr rfl))) (da_cons de_int da_nil)))) (dss_cons (ds_set (i := 2) scN rfl (by first | exact .inl rfl | exact .inr rfl) (de_callX (T.ok_q_draw) (hr.mono (by decide)) rfl T.glo__law_draw tk (da_cons (de_var (i := 0) rfl (by first | exact .inl rfl | exact .inr (.inl rfl) | exact .inr (.inr rfl))) (da_cons de_int da_nil)))) (dss_cons (ds_set (i := 3) scN rfl (by first | exact .inl rfl | exact .inr rfl) (de_add rfl de_int (de_mul de_int (de_callX (T.ok_q_draw) (hr.mono (by decide)) rfl T.glo__law_draw tk (da_cons (de_var (i := 0) rfl (by first | exact .inl rfl | exact .inr (.inl rfl) | exact .inr (.inr rfl))) (da_cons de_int da_nil)))))) (dss_cons (ds_set (i := 4) scN rfl (by first | exact .inl rfl | exact .inr rfl) (de_callX (T.ok_q_draw) (hr.mono (by decide)) rfl T.glo__law_draw tk (da_cons (de_var (i := 0) rfl (by first | exact .inl rfl | exact .inr (.inl rfl) | exact .inr (.inr rfl))) (da_cons de_int da_nil)))) (dss_cons (ds_set (i := 5) scN rfl (by first | exact .inl rfl | exact .inr rfl) (de_add rfl de_int (de_callX (T.ok_q_draw) (hr.mono (by decide)) rfl T.glo__law_draw tk (da_cons (de_var (i := 0) rfl (by first | exact .inl rfl | exact .inr (.inl rfl) | exact .inr (.inr rfl))) (da_cons de_int da_nil))))) (dss_cons (ds_set (i := 6) scN rfl (by first | exact .inl rfl | exact .inr rfl) (de_callX (T.ok_q_word) (hr.mono (by decide)) rfl T.glo__law_word tk (da_cons (de_lc (own := [("_law_k", 8)]) (mu := false) rfl scN (di_range1 rfl (T.free_range) (da_cons de_int da_nil)) (blkOk_by rfl) (fun _ _ _ _ _ => (pg_name (i := 8) scN rfl (by first | exact .inl rfl | exact .inr rfl) (by first | exact .inl rfl | exact .inr rfl))) (tw_name 8 (by decide)) (fun sB HB CB clB fpB => dts_nil) (fun sB HB CB clB fpB => (de_callX (T.ok_q_draw) (hr.mono (by decide)) rfl T.glo__law_draw tk_never (da_cons (de_var (i := 0) rfl (by first | exact .inl rfl | exact .inr (.inl rfl) | exact .inr (.inr rfl))) (da_cons de_int da_nil))))) da_nil))) (ds_kill [0] (dss_cons (ds_set (i := 7) scN rfl (by first | exact .inl rfl | exact .inr rfl) (de_new da_nil)) (dss_cons (ds_for po rfl (di_range1 rfl (T.free_range) (da_cons de_int da_nil)) (pg_name (i := 8) scN rfl (by first | exact .inl rfl | exact .inr rfl) (by first | exact .inl rfl | exact .inr rfl)) (tg_name 8) (ds_kill [9, 10, 11] (dss_cons (ds_set (i := 9) scN rfl (by first | exact .inl rfl | exact .inr rfl) (de_callX (T.ok_q_word) (hr.mono (by decide)) rfl T.glo__law_word tk (da_cons (de_lst (da_cons (de_add rfl (de_var (i := 2) rfl (by first | exact .inl rfl | exact .inr (.inl rfl) | exact .inr (.inr rfl))) (de_mul (de_var (i := 3) rfl (by first | exact .inl rfl | exact .inr (.inl rfl) | exact .inr (.inr rfl))) (de_var (i := 8) rfl (by first | exact .inl rfl | exact .inr (.inl rfl) | exact .inr (.inr rfl))))) da_nil)) da_nil))) (dss_cons (ds_set (i := 10) scN rfl (by first | exact .inl rfl | exact .inr rfl) (de_mod (de_callTy call_int1 cd_int rfl (T.free_int) bt_int (da_cons (de_var (i := 4) rfl (by first | exact .inl rfl | exact .inr (.inl rfl) | exact .inr (.inr rfl))) da_nil)) (de_var (i := 5) rfl (by first | exact .inl rfl | exact .inr (.inl rfl) | exact .inr (.inr rfl))))) (dss_cons (ds_set (i := 11) scN rfl (by first | exact .inl rfl | exact .inr rfl) (de_add rfl (de_add rfl (de_slice rfl (de_var (i := 6) rfl (by first | exact .inl rfl | exact .inr (.inl rfl) | exact .inr (.inr rfl))) do_none (do_some (de_var (i := 10) rfl (by first | exact .inl rfl | exact .inr (.inl rfl) | exact .inr (.inr rfl))))) (de_var (i := 9) rfl (by first | exact .inl rfl | exact .inr (.inl rfl) | exact .inr (.inr rfl)))) (de_slice rfl (de_var (i := 6) rfl (by first | exact .inl rfl | exact .inr (.inl rfl) | exact .inr (.inr rfl))) (do_some (de_add rfl (de_var (i := 10) rfl (by first | exact .inl rfl | exact .inr (.inl rfl) | exact .inr (.inr rfl))) de_int)) (do_some (de_var (i := 5) rfl (by first | exact .inl rfl | exact .inr (.inl rfl) | exact .inr (.inr rfl))))))) (ds_kill [10] (dss_cons (ds_if (dt_eq rfl hu4 (de_var (i := 1) rfl (by first | exact .inl rfl | exact .inr (.inl rfl) | exact .inr (.inr rfl))) de_int) (ds_kill [11] (dss_one (ds_set (i := 11) scN rfl (by first | exact .inl rfl | exact .inr rfl) (de_slice rfl (de_var (i := 6) rfl (by first | exact .inl rfl | exact .inr (.inl rfl) | exact .inr (.inr rfl))) do_none (do_some (de_add rfl de_int (de_mod (de_callTy call_int1 cd_int rfl (T.free_int) bt_int (da_cons (de_add rfl (de_var (i := 8) rfl (by first | exact .inl rfl | exact .inr (.inl rfl) | exact .inr (.inr rfl))) (de_var (i := 4) rfl (by first | exact .inl rfl | exact .inr (.inl rfl) | exact .inr (.inr rfl)))) da_nil)) de_int))))))) dss_nil) (dss_cons (ds_if (dt_eq rfl hu4 (de_var (i := 1) rfl (by first | exact .inl rfl | exact .inr (.inl rfl) | exact .inr (.inr rfl))) de_int) (ds_kill [11] (dss_one (ds_set (i := 11) scN rfl (by first | exact .inl rfl | exact .inr rfl) (de_add rfl (de_var (i := 9) rfl (by first | exact .inl rfl | exact .inr (.inl rfl) | exact .inr (.inr rfl))) (de_slice rfl (de_var (i := 6) rfl (by first | exact .inl rfl | exact .inr (.inl rfl) | exact .inr (.inr rfl))) (do_some (de_var (i := 8) rfl (by first | exact .inl rfl | exact .inr (.inl rfl) | exact .inr (.inr rfl)))) (do_some (de_add rfl (de_var (i := 8) rfl (by first | exact .inl rfl | exact .inr (.inl rfl) | exact .inr (.inr rfl))) (de_mod (de_callTy call_int1 cd_int rfl (T.free_int) bt_int (da_cons (de_add rfl (de_var (i := 4) rfl (by first | exact .inl rfl | exact .inr (.inl rfl) | exact .inr (.inr rfl))) (de_mul de_int (de_var (i := 8) rfl (by first | exact .inl rfl | exact .inr (.inl rfl) | exact .inr (.inr rfl))))) da_nil)) de_int)))))))) dss_nil) (ds_kill [8, 9] (dss_one (ds_expr (de_mth rfl PySem.F.plainAttrs_list PySem.F.slot_list_append PySem.F.type_list_append mt_append td_list md_append (de_var (i := 7) rfl (by first | exact .inl rfl | exact .inr (.inl rfl) | exact .inr (.inr rfl))) (da_cons (de_var (i := 11) rfl (by first | exact .inl rfl | exact .inr (.inl rfl) | exact .inr (.inr rfl))) da_nil))))))))))))) (ds_kill [1, 2, 3, 4, 5, 6, 8, 9, 10, 11] (dss_one (ds_ret (de_var (i := 7) rfl (by first | exact .inl rfl | exact .inr (.inl rfl) | exact .inr (.inr rfl)))))))))))))))
theorem sc_law : FnScope [("_law_script" : Str), ("_law_names_here" : Str), ("_law_contents" : Str), ("_law_known" : Str), ("_law_turn" : Str), ("_law_formula_here" : Str), ("_law_many" : Str), ("_law_number" : Str), ("_law_deep" : Str), ("_law_text_here" : Str)] [("_law_script" : Str)] (defScope s_law) := ⟨rfl, rfl, rfl, by decide +kernel, rfl, by decide +kernel, by decide +kernel⟩
theorem Cxt.fk_law (T : Cxt w K mg h base) : ∀ {fd : FuncData}, Def1 K dx13 [("_law_script" : Str)] (fAd K dx13.at_) fd → FnOk PG w K mg base (L2.CX PG w) 15 (fAd K dx13.at_) fd [("_law_script" : Str)] (spF (gOf K w) 1 f_law) := by
  intro fd q
  refine fn_scope false (fn_ok (k := 14) q.F sc_law rfl rfl fun cdv A outer s0 H E hr tk po => ?_)
  have scN := (sc_law).nd
  have hu := hu65 hr
  have hu4 := hu64 hr
  exact (dss_cons (ds_set (i := 1) scN rfl (by first | exact .inl rfl | exact .inr rfl) (de_callX (T.ok_q_names) (hr.mono (by decide)) rfl T.glo__law_names tk (da_cons (de_callX (T.ok_q_pool) (hr.mono (by decide)) rfl T.glo__law_pool tk (da_cons (de_var (i := 0) rfl (by first | exact .inl rfl | exact .inr (.inl rfl) | exact .inr (.inr rfl))) (da_cons de_int da_nil))) da_nil))) (dss_cons (ds_set (i := 2) scN rfl (by first | exact .inl rfl | exact .inr rfl) (de_makeX0 (frz := false) rfl T.cls_9 T.mkr_Contents (T.ok_Contents_zinitz) (hr.mono (by decide)) rfl T.glo_Contents tk)) (dss_cons (ds_set (i := 3) scN rfl (by first | exact .inl rfl | exact .inr rfl) (de_new da_nil)) (dss_cons (ds_for po rfl (di_range1 rfl (T.free_range) (da_cons (de_add rfl de_int (de_callX (T.ok_q_draw) (hr.mono (by decide)) rfl T.glo__law_draw tk (da_cons (de_callX (T.ok_q_pool) (hr.mono (by decide)) rfl T.glo__law_pool tk (da_cons (de_var (i := 0) rfl (by first | exact .inl rfl | exact .inr (.inl rfl) | exact .inr (.inr rfl))) (da_cons de_int da_nil))) (da_cons de_int da_nil)))) da_nil)) (pg_name (i := 4) scN rfl (by first | exact .inl rfl | exact .inr rfl) (by first | exact .inl rfl | exact .inr rfl)) (tg_name 4) (ds_kill [5] (dss_cons (ds_set (i := 5) scN rfl (by first | exact .inl rfl | exact .inr rfl) (de_callX (T.ok_q_formula) (hr.mono (by decide)) rfl T.glo__law_formula tk (da_cons (de_callX (T.ok_q_pool) (hr.mono (by decide)) rfl T.glo__law_pool tk (da_cons (de_var (i := 0) rfl (by first | exact .inl rfl | exact .inr (.inl rfl) | exact .inr (.inr rfl))) (da_cons (de_add rfl de_int (de_var (i := 4) rfl (by first | exact .inl rfl | exact .inr (.inl rfl) | exact .inr (.inr rfl)))) da_nil))) (da_cons (de_var (i := 1) rfl (by first | exact .inl rfl | exact .inr (.inl rfl) | exact .inr (.inr rfl))) (da_cons (de_callB call_len (cd_len rfl) rfl (T.free_len) bt_len (da_cons (de_var (i := 3) rfl (by first | exact .inl rfl | exact .inr (.inl rfl) | exact .inr (.inr rfl))) da_nil)) da_nil))))) (ds_kill [4] (dss_cons (ds_if (dt_ninA rfl rfl hu rfl (de_var (i := 5) rfl (by first | exact .inl rfl | exact .inr (.inl rfl) | exact .inr (.inr rfl))) (de_var (i := 3) rfl (by first | exact .inl rfl | exact .inr (.inl rfl) | exact .inr (.inr rfl)))) (dss_one (ds_expr (de_mth rfl PySem.F.plainAttrs_list PySem.F.slot_list_append PySem.F.type_list_append mt_append td_list md_append (de_var (i := 3) rfl (by first | exact .inl rfl | exact .inr (.inl rfl) | exact .inr (.inr rfl))) (da_cons (de_var (i := 5) rfl (by first | exact .inl rfl | exact .inr (.inl rfl) | exact .inr (.inr rfl))) da_nil)))) dss_nil) (dss_one (ds_expr (de_meth rfl T.mt_number_of T.ms_number_of (hr.mono (by decide)) tk (de_var (i := 2) rfl (by first | exact .inl rfl | exact .inr (.inl rfl) | exact .inr (.inr rfl))) (da_cons (de_var (i := 5) rfl (by first | exact .inl rfl | exact .inr (.inl rfl) | exact .inr (.inr rfl))) da_nil))))))))) (ds_kill [0, 1, 4, 5] (dss_cons (ds_set (i := 6) scN rfl (by first | exact .inl rfl | exact .inr rfl) (de_callB call_len (cd_len rfl) rfl (T.free_len) bt_len (da_cons (de_var (i := 3) rfl (by first | exact .inl rfl | exact .inr (.inl rfl) | exact .inr (.inr rfl))) da_nil))) (dss_cons (ds_for po rfl (di_range2 rfl (T.free_range) (da_cons (de_callB (call_max2 rfl) cd_max2 rfl (T.free_max) bt_max (da_cons de_int (da_cons (de_sub (de_var (i := 6) rfl (by first | exact .inl rfl | exact .inr (.inl rfl) | exact .inr (.inr rfl))) de_int) da_nil))) (da_cons (de_var (i := 6) rfl (by first | exact .inl rfl | exact .inr (.inl rfl) | exact .inr (.inr rfl))) da_nil))) (pg_name (i := 7) scN rfl (by first | exact .inl rfl | exact .inr rfl) (by first | exact .inl rfl | exact .inr rfl)) (tg_name 7) (ds_kill [8, 9] (dss_cons (ds_if (dt_ne rfl hu4 (de_methZ rfl (T.kok_Contents_text 6) (hr.mono (by decide)) tk (de_var (i := 2) rfl (by first | exact .inl rfl | exact .inr (.inl rfl) | exact .inr (.inr rfl))) (da_cons (de_var (i := 7) rfl (by first | exact .inl rfl | exact .inr (.inl rfl) | exact .inr (.inr rfl))) da_nil)) (de_callX (T.ok_q_text 6) (hr.mono (by decide)) rfl T.glo__law_text tk (da_cons (de_var (i := 3) rfl (by first | exact .inl rfl | exact .inr (.inl rfl) | exact .inr (.inr rfl))) (da_cons (de_var (i := 7) rfl (by first | exact .inl rfl | exact .inr (.inl rfl) | exact .inr (.inr rfl))) (da_cons de_int da_nil))))) (ds_kill [2, 3, 6, 7] (dss_one (ds_ret de_bl))) dss_nil) (dss_one (ds_for po rfl (di_seq rfl (de_lst (da_cons de_int (da_cons de_int (da_cons de_int (da_cons de_int (da_cons de_int da_nil))))))) (pg_name (i := 8) scN rfl (by first | exact .inl rfl | exact .inr rfl) (by first | exact .inl rfl | exact .inr rfl)) (tg_name 8) (ds_kill [9] (dss_cons (ds_set (i := 9) scN rfl (by first | exact .inl rfl | exact .inr rfl) (de_methK rfl (T.kok_Contents_text 6) (hr.mono (by decide)) tk (de_var (i := 2) rfl (by first | exact .inl rfl | exact .inr (.inl rfl) | exact .inr (.inr rfl))) (da_cons (de_var (i := 7) rfl (by first | exact .inl rfl | exact .inr (.inl rfl) | exact .inr (.inr rfl))) da_nil) (dk_cons (de_var (i := 8) rfl (by first | exact .inl rfl | exact .inr (.inl rfl) | exact .inr (.inr rfl))) dk_nil))) (dss_one (ds_if (PW.pt (dw_or (dt_not (dt_val (de_isi rfl T.isi_str T.isc_str (.ty _) (de_var (i := 9) rfl (by first | exact .inl rfl | exact .inr (.inl rfl) | exact .inr (.inr rfl))) (by exact pe_bltn rfl T.free_str bt_str rfl) rfl (T.free_isinstance) bt_isinstance))) (dw_or1 (dt_ne rfl hu4 (de_var (i := 9) rfl (by first | exact .inl rfl | exact .inr (.inl rfl) | exact .inr (.inr rfl))) (de_callX (T.ok_q_text 6) (hr.mono (by decide)) rfl T.glo__law_text tk (da_cons (de_var (i := 3) rfl (by first | exact .inl rfl | exact .inr (.inl rfl) | exact .inr (.inr rfl))) (da_cons (de_var (i := 7) rfl (by first | exact .inl rfl | exact .inr (.inl rfl) | exact .inr (.inr rfl))) (da_cons (de_var (i := 8) rfl (by first | exact .inl rfl | exact .inr (.inl rfl) | exact .inr (.inr rfl))) da_nil)))))))) (ds_kill [2, 3, 6, 7, 8, 9] (dss_one (ds_ret de_bl))) dss_nil))))))))) (ds_kill [3, 7, 8, 9] (dss_cons (ds_for po rfl (di_seq rfl (de_lst (da_cons (de_neg de_int) (da_cons (de_var (i := 6) rfl (by first | exact .inl rfl | exact .inr (.inl rfl) | exact .inr (.inr rfl))) (da_cons (de_add rfl (de_var (i := 6) rfl (by first | exact .inl rfl | exact .inr (.inl rfl) | exact .inr (.inr rfl))) de_int) da_nil))))) (pg_name (i := 7) scN rfl (by first | exact .inl rfl | exact .inr rfl) (by first | exact .inl rfl | exact .inr rfl)) (tg_name 7) (dss_one (ds_if (dt_ne rfl hu4 (de_callX (T.ok_q_missing) (hr.mono (by decide)) rfl T.glo__law_missing tk (da_cons (de_var (i := 2) rfl (by first | exact .inl rfl | exact .inr (.inl rfl) | exact .inr (.inr rfl))) (da_cons (de_var (i := 7) rfl (by first | exact .inl rfl | exact .inr (.inl rfl) | exact .inr (.inr rfl))) da_nil))) (de_tup (da_cons (de_var (i := 7) rfl (by first | exact .inl rfl | exact .inr (.inl rfl) | exact .inr (.inr rfl))) (da_cons de_bl da_nil)))) (ds_kill [2, 6, 7] (dss_one (ds_ret de_bl))) dss_nil))) (ds_kill [7] (dss_one (ds_ret (de_eq rfl hu4 (de_lenO rfl T.mt_zlenz (hr.mono (by decide)) tk rfl (T.free_len) bt_len (de_var (i := 2) rfl (by first | exact .inl rfl | exact .inr (.inl rfl) | exact .inr (.inr rfl))) call_len) (de_var (i := 6) rfl (by first | exact .inl rfl | exact .inr (.inl rfl) | exact .inr (.inr rfl))))))))))))))))
end
/-! the top is run -/
abbrev RR : PySem.W.OpenRow := PySem.W.OpenLaw.row PySem.Challenge.rw_redopages_k12_texts_of_formulas
abbrev QV : Program := PySem.W.view RR.prog [15]
abbrev hk : PySem.W.Hook := hookX 4 fa fn
def ob (s : PySem.W.SharedT) : AlX := obsXG 4 fa fn (HandSHeadRun.getT s)
theorem ob_eq (s : PySem.W.SharedT) : ob s = hk.obs s.abs := obsXG_eq (HandSHeadRun.getT_eq s)
def nm0 : List Str := ["__name__", "RedoError", "BadFormula", "page_text", "Contents", "_law_draw", "_law_word", "_law_names", "_law_pool", "_law_formula", "_law_missing", "_law_text"]
abbrev nms : List Str := nm0
theorem run (w : World) : HandSHeadRun.RunEq RR QV hk ob 4000 nms w := by
  intro os
  kernel_rfl
end LK12
open PySem PySem.W PySem.Calls PyProof.Rows
theorem PySem.Challenge.cw_redopages_k12_texts_of_formulas_of (eqn : ∀ ns : List Int, ns.length ≤ 63 → ∃ L1, LK12.f_law [.v (.scr ns)] [] = some (.ok (.v (.bl true)), L1)) : PySem.Challenge.rw_redopages_k12_texts_of_formulas.Holds := by
  w_on; o_law
  refine HandSHeadRun.head_any (r := OpenLaw.row PySem.Challenge.rw_redopages_k12_texts_of_formulas) (q := LK12.QV) (H := LK12.hk) (ob := LK12.ob) (M := 4000) (loose := LK12.nms) (d := HandSHeadRun.topDef (OpenLaw.row PySem.Challenge.rw_redopages_k12_texts_of_formulas).prog 15) (kwd := []) LK12.ob_eq
    (by kernel_rfl) (fun s => by kernel_rfl) LK12.run (by kernel_rfl) (by kernel_rfl) (by kernel_rfl) (by rfl) (by first | assumption | decide +kernel) (by decide +kernel) ⟨rfl, rfl, rfl, rfl, rfl, by decide +kernel⟩ ?hw ?hc
  case hw => w_witness2
  case hc =>
    refine L2.walk_ofE (l := PySem.Challenge.rw_redopages_k12_texts_of_formulas) (n := 63) (k := 15) (x := "_law_script") (CX := DN.CXA LK12.PG) rfl (by decide) (by kernel_rfl) ⟨rfl, by decide, by decide⟩ ?F DN.cxa_no
    intro w mg fa h Y G hmg0
    obtain ⟨K, KX, c⟩ := Y
    have hmg : mg ("law" : PySem.Str) = some (.ref fa) := by
      have e : (HandSHeadRun.topDef (OpenLaw.row PySem.Challenge.rw_redopages_k12_texts_of_formulas).prog 15).name = ("law" : PySem.Str) := by kernel_rfl
      rw [← e]
      exact hmg0
    obtain ⟨fd, q⟩ := DN.SaysX.def_ c 13 (d := LK12.dx13) (ps := ["_law_script"]) rfl rfl fun _ _ _ _ _ _ us hl => match us, hl with | [_], _ => rfl
    have e : fa = He.fAd K LK12.dx13.at_ := by
      have T : LK12.Cxt w K mg h h := ⟨c, KX, G⟩
      have z := hmg.symm.trans T.glo_law
      cases z
      rfl
    subst e
    obtain ⟨oc, od, kV, doc, pm, an, cdv, ct, osl, efd, lk, hcd⟩ := q.F.ex
    refine ⟨K, fd, DN.spF (DN.gOf K w) 1 LK12.f_law, KX, fun s u => by subst efd; exact .of_eq rfl, fun H a ns hl _ hS => DN.law_end (g := DN.gOf K w) (eqn ns hl) hS fun _ => rfl, fun base kb nb => ?_⟩
    have T : LK12.Cxt w K mg h base := ⟨c, KX, G⟩
    exact DN.fnok_cx (T.fk_law q) fun outer H s E u s' z => ⟨w, z⟩


end
section
set_option linter.all false
set_option maxRecDepth 100000
set_option maxHeartbeats 4000000
namespace LK12
open PySem DN
open L2 (ixN atI)
/-- a pool -/
def PoolP (xs : List P) : Prop := ∃ a b c : Int, xs = [.int a, .int b, .int c] ∧ 0 ≤ b ∧ b < 10007
theorem draw_ok {L : List MO} {n : Nat} {xs : List P} (h : L[n]? = some (.lst xs)) (hp : PoolP xs) {m : Int} (h0 : 0 < m) (h1 : m < 1073741824) :
    ∃ (r : Int) (ys : List P), 0 ≤ r ∧ r < m ∧ PoolP ys ∧ f_q_draw [.r n, .v (.int m)] L = some (.ok (.v (.int r)), L.set n (.lst ys)) := by
  obtain ⟨a, b, c, rfl, hb, hb2⟩ := hp
  obtain ⟨hn, hg⟩ := List.getElem?_eq_some_iff.mp h
  have hm0 : ¬ m ≤ 0 := by omega
  by_cases hc : 0 < a ∧ 0 < c
  · refine ⟨a % m, [.int (a / m), .int b, .int (c - 1)], Int.emod_nonneg _ (by omega), Int.emod_lt_of_pos _ h0, ⟨_, _, _, rfl, hb, hb2⟩, ?_⟩
    unfold f_q_draw
    refine scope_s ?_ older_set (by simp)
    · simp [bodyF, d_q_draw, tup_0, tup_1, tup_2, tup_3, tup_4, tup_5, tup_6, lst_0, lst_1, lst_2, lst_3, lst_4, lst_5, lst_6, lst_7, lst_8, lst_9, lst_10, lst_11, lst_12, new_0, new_1, new_2, new_3, new_4, new_5, new_6, bind, M.bnd, pure, M.ret, M.stuck, varD, retD, DN.bin, un, appA, consA, nilA, arN_1, arN_2, arN_3, arN_4, arN_5, arN_6, arN_7, asP, setS, eThen, seqS, ifS, nxS, killS, killT, retS, exprS, unitS, setIS, setA, tstD, asB, andB, orB, notB, andV, orV, notV, valB, intOp, addD, subD, modD, powD, fdivD, negD, ordI, ltD, chn, asM, asL, asS, oneD, intD, ixA, ixD, dnAt, DN.keyD, atI, ixN, mthD, tyL, mutL, appendD, mulD, hg, hc.1, hc.2, h0, h1, hn, List.getElem?_set]
  · refine ⟨((b * 10 + 3) % 10007) % m, [.int a, .int ((b * 10 + 3) % 10007), .int c], Int.emod_nonneg _ (by omega), Int.emod_lt_of_pos _ h0, ⟨_, _, _, rfl, by omega, by omega⟩, ?_⟩
    unfold f_q_draw
    refine scope_s ?_ older_set (by simp)
    · have hk : mulOkB b 10 = true := by unfold mulOkB; simp
      by_cases ha : 0 < a
      · have hc' : ¬ 0 < c := fun z => hc ⟨ha, z⟩
        simp [bodyF, d_q_draw, tup_0, tup_1, tup_2, tup_3, tup_4, tup_5, tup_6, lst_0, lst_1, lst_2, lst_3, lst_4, lst_5, lst_6, lst_7, lst_8, lst_9, lst_10, lst_11, lst_12, new_0, new_1, new_2, new_3, new_4, new_5, new_6, bind, M.bnd, pure, M.ret, M.stuck, varD, retD, DN.bin, un, appA, consA, nilA, arN_1, arN_2, arN_3, arN_4, arN_5, arN_6, arN_7, asP, setS, eThen, seqS, ifS, nxS, killS, killT, retS, exprS, unitS, setIS, setA, tstD, asB, andB, orB, notB, andV, orV, notV, valB, intOp, addD, subD, modD, powD, fdivD, negD, ordI, ltD, chn, asM, asL, asS, oneD, intD, ixA, ixD, dnAt, DN.keyD, atI, ixN, mthD, tyL, mutL, appendD, mulD, hg, ha, hc', h0, h1, hn, hk, List.getElem?_set]
      · simp [bodyF, d_q_draw, tup_0, tup_1, tup_2, tup_3, tup_4, tup_5, tup_6, lst_0, lst_1, lst_2, lst_3, lst_4, lst_5, lst_6, lst_7, lst_8, lst_9, lst_10, lst_11, lst_12, new_0, new_1, new_2, new_3, new_4, new_5, new_6, bind, M.bnd, pure, M.ret, M.stuck, varD, retD, DN.bin, un, appA, consA, nilA, arN_1, arN_2, arN_3, arN_4, arN_5, arN_6, arN_7, asP, setS, eThen, seqS, ifS, nxS, killS, killT, retS, exprS, unitS, setIS, setA, tstD, asB, andB, orB, notB, andV, orV, notV, valB, intOp, addD, subD, modD, powD, fdivD, negD, ordI, ltD, chn, asM, asL, asS, oneD, intD, ixA, ixD, dnAt, DN.keyD, atI, ixN, mthD, tyL, mutL, appendD, mulD, hg, ha, h0, h1, hn, hk, List.getElem?_set]
/-- the pool of a script -/
theorem ints_of (ns : List Int) : intsOf (ns.map P.int) = some ns := by
  induction ns with
  | nil => rfl
  | cons n ns ih => unfold intsOf; rw [List.map_cons]; simp [ih]
theorem pool_ok {L : List MO} {ns : List Int} (hl : ns.length ≤ 63) {k : Nat} (hk : k < 1000) : ∃ ys, PoolP ys ∧ f_q_pool [.v (.scr ns), .v (.int k)] L = some (.ok (.r L.length), L ++ [.lst ys]) := by
  have e1 : sumD [.v (.scr ns)] L = some (.ok (.v (.int ns.sum)), L) := by
    unfold sumD oneD asL
    simp [ints_of]
  have e2 : lenD [.v (.scr ns)] L = some (.ok (.v (.int ns.length)), L) := by
    unfold lenD oneD asS asL
    simp
  have k1 : mulOkB 17 k = true := by unfold mulOkB; simp
  have k2 : mulOkB 101 ns.sum = true := by unfold mulOkB; simp
  have kz : (3 : Nat) ≤ sizeLine := le_line 3 (by omega)
  unfold f_q_pool
  by_cases hlt : k < ns.length
  · have e3 : ∀ L, ixA (.v (.scr ns)) (.v (.int k)) L = some (.ok (.v (.int ns[k])), L) := fun L => by
      simp [tup_0, tup_1, tup_2, tup_3, tup_4, tup_5, tup_6, lst_0, lst_1, lst_2, lst_3, lst_4, lst_5, lst_6, lst_7, lst_8, lst_9, lst_10, lst_11, lst_12, new_0, new_1, new_2, new_3, new_4, new_5, new_6, bind, M.bnd, pure, M.ret, M.stuck, varD, retD, DN.bin, un, appA, consA, nilA, arN_1, arN_2, arN_3, arN_4, arN_5, arN_6, arN_7, asP, setS, eThen, seqS, ifS, nxS, killS, killT, retS, exprS, unitS, setIS, setA, tstD, asB, andB, orB, notB, andV, orV, notV, valB, intOp, addD, subD, modD, powD, fdivD, negD, ordI, ltD, chn, asM, asL, asS, oneD, intD, ixA, ixD, dnAt, DN.keyD, atI, ixN, mthD, tyL, mutL, appendD, hlt]
    by_cases hb : (1000000000000000000 : Int) ≤ ns[k]
    · refine ⟨[.int ns[k], .int ((17 * k + 5 + 101 * ns.sum + ns[k]) % 10007), .int 60], ⟨_, _, _, rfl, by omega, by omega⟩, ?_⟩
      refine scope_k (L1 := L) (X := [.lst [.int ns[k], .int ((17 * k + 5 + 101 * ns.sum + ns[k]) % 10007), .int 60]]) (n := L.length) ?_ (Older.refl _) rfl (Nat.le_refl _) (by simp)
      refine body_rt ?_
      simp [d_q_pool, e1, e2, e3, k1, k2, hlt, hb, bind, M.bnd, pure, M.ret, varD, retD, DN.bin, appA, consA, nilA, setS, eThen, seqS, ifS, nxS, killS, killT, retS, tstD, asB, intOp, addD, mulD, modD, powD, ordI, ltD, oneD, intD, new_3]
    · refine ⟨[.int 0, .int ((17 * k + 5 + 101 * ns.sum + ns[k]) % 10007), .int 60], ⟨_, _, _, rfl, by omega, by omega⟩, ?_⟩
      refine scope_k (L1 := L) (X := [.lst [.int 0, .int ((17 * k + 5 + 101 * ns.sum + ns[k]) % 10007), .int 60]]) (n := L.length) ?_ (Older.refl _) rfl (Nat.le_refl _) (by simp)
      refine body_rt ?_
      simp [d_q_pool, e1, e2, e3, k1, k2, hlt, hb, bind, M.bnd, pure, M.ret, varD, retD, DN.bin, appA, consA, nilA, setS, eThen, seqS, ifS, nxS, killS, killT, retS, tstD, asB, intOp, addD, mulD, modD, powD, ordI, ltD, oneD, intD, new_3]
  · refine ⟨[.int 0, .int ((17 * k + 5 + 101 * ns.sum) % 10007), .int 60], ⟨_, _, _, rfl, by omega, by omega⟩, ?_⟩
    refine scope_k (L1 := L) (X := [.lst [.int 0, .int ((17 * k + 5 + 101 * ns.sum) % 10007), .int 60]]) (n := L.length) ?_ (Older.refl _) rfl (Nat.le_refl _) (by simp)
    refine body_rt ?_
    simp [d_q_pool, e1, e2, k1, k2, hlt, bind, M.bnd, pure, M.ret, varD, retD, DN.bin, appA, consA, nilA, setS, eThen, seqS, ifS, nxS, killS, killT, retS, tstD, asB, intOp, addD, mulD, modD, powD, ordI, ltD, oneD, intD, new_3]
/-! texts of small letters -/
def LowS (n : Nat) (x : Str) : Prop := (∀ c ∈ x.cps.toList, 97 ≤ c ∧ c ≤ 122) ∧ x.cps.toList.length ≤ n
theorem LowS.mono {n m : Nat} {x : Str} (h : LowS n x) (k : n ≤ m) : LowS m x := ⟨h.1, Nat.le_trans h.2 k⟩
theorem low_cut {n : Nat} {x : Str} (h : LowS n x) (lo hi : Option Int) : LowS n (L2.cutS x lo hi) := by
  unfold L2.cutS
  refine ⟨fun c hc => h.1 c (List.mem_of_mem_drop (List.mem_of_mem_take (by simpa using hc))), ?_⟩
  have := h.2
  simp only [List.length_take, List.length_drop]
  omega
theorem low_app {n m : Nat} {x y : Str} (h : LowS n x) (k : LowS m y) : LowS (n + m) (x ++ y) := by
  have e : (x ++ y).cps.toList = x.cps.toList ++ y.cps.toList := TL.tl_append x y
  unfold LowS
  rw [e, List.length_append]
  refine ⟨fun c hc => ?_, by have := h.2; have := k.2; omega⟩
  rcases List.mem_append.mp hc with z | z
  · exact h.1 c z
  · exact k.1 c z
theorem low_ok {n : Nat} {x : Str} (h : LowS n x) : PyData.strOk x = true := by
  unfold PyData.strOk
  rw [Array.all_eq_true]
  intro i hi
  have := h.1 x.cps[i] (by simp)
  simp
  omega

def lett : Str := "abcdefghijklmnopqrstuvwxyz"
theorem lett_at {i : Int} (h0 : 0 ≤ i) (h1 : i < 26) : ∃ c, atI lett.cps.toList i = some c ∧ 97 ≤ c ∧ c ≤ 122 := by
  have key : ∀ j : Nat, j < 26 → ((atI lett.cps.toList (j : Int)).any fun c => decide (97 ≤ c) && decide (c ≤ 122)) = true := by decide +kernel
  have := key i.toNat (by omega)
  rw [Int.toNat_of_nonneg h0] at this
  cases e : atI lett.cps.toList i with
  | none => rw [e] at this; cases this
  | some c => rw [e] at this; exact ⟨c, rfl, by simpa using this⟩
theorem lett_ix {i : Int} (h0 : 0 ≤ i) (h1 : i < 26) (L : List MO) : ∃ c, ixA (.v (.str lett)) (.v (.int i)) L = some (.ok (.v (.str ⟨#[c]⟩)), L) ∧ 97 ≤ c ∧ c ≤ 122 := by
  obtain ⟨c, e, hc⟩ := lett_at h0 h1
  refine ⟨c, ?_, hc⟩
  have hz : lett.length ≤ sizeLine := le_line _ (by decide +kernel)
  show (if lett.length ≤ sizeLine then (atI lett.cps.toList i).map fun c => ((.ok (.v (.str ⟨#[c]⟩)), L) : Res D × List MO) else none) = _
  rw [if_pos hz, e]
  rfl
theorem join_low : ∀ {ys : List Str}, (∀ y ∈ ys, LowS 1 y) → LowS ys.length (Txt.join "" ys) := by
  have key : ∀ ys : List Str, TL.tl (Txt.join "" ys) = (ys.map TL.tl).flatten := fun ys => by
    rw [TL.join_eq, TL.tl_join]
    have hj : ∀ zs : List (List Nat), TL.joinL [] zs = zs.flatten := by
      intro zs
      induction zs with
      | nil => rfl
      | cons z zs ih =>
        cases zs with
        | nil => simp [TL.joinL]
        | cons y zs =>
          show z ++ ([] ++ TL.joinL [] (y :: zs)) = _
          rw [ih]
          simp
    exact hj _
  intro ys h
  have e : (Txt.join "" ys).cps.toList = (ys.map TL.tl).flatten := key ys
  unfold LowS
  rw [e]
  induction ys with
  | nil => exact ⟨fun c hc => by simp at hc, by simp⟩
  | cons y ys ih =>
    obtain ⟨i1, i2⟩ := ih (fun z hz => h z (List.mem_cons_of_mem _ hz)) (key ys)
    have hy := h y List.mem_cons_self
    refine ⟨fun c hc => ?_, ?_⟩
    · rw [List.map_cons, List.flatten_cons] at hc
      rcases List.mem_append.mp hc with z | z
      · exact hy.1 c z
      · exact i1 c z
    · rw [List.map_cons, List.flatten_cons, List.length_append, List.length_cons]
      have : (TL.tl y).length ≤ 1 := hy.2
      omega
theorem strs_map : ∀ ys : List Str, strsOf (ys.map P.str) = some ys
  | [] => rfl
  | y :: ys => by rw [List.map_cons]; unfold strsOf; rw [strs_map ys]; rfl
theorem word_ok {L : List MO} {qs : List P} (hq : ∀ q ∈ qs, ∃ r : Int, q = .int r) (hz : qs.length ≤ 100) : ∃ x, LowS qs.length x ∧ f_q_word [.v (.lst qs)] L = some (.ok (.v (.str x)), L) := by
  have hlc := lc_run (src := seqI (varD 0)) (vs := [2]) (tg := tgN 2) (tt := yesB) (fe := DN.bin ixA (varD 1) (DN.bin modD (appA intD (consA (varD 2) nilA)) (retD (.v (.int 26))))) (τ := [some (.v (.lst qs)), some (.v (.str lett)), none]) (L := L) (L0 := L) (xs := qs) (J := fun L' => L' = L) (R := fun _ q => ∃ c, q = P.str ⟨#[c]⟩ ∧ 97 ≤ c ∧ c ≤ 122)
    (by simp [seqI, itmD, tup_0, tup_1, tup_2, tup_3, tup_4, tup_5, tup_6, lst_0, lst_1, lst_2, lst_3, lst_4, lst_5, lst_6, lst_7, lst_8, lst_9, lst_10, lst_11, lst_12, new_0, new_1, new_2, new_3, new_4, new_5, new_6, bind, M.bnd, pure, M.ret, M.stuck, varD, retD, DN.bin, un, appA, consA, nilA, arN_1, arN_2, arN_3, arN_4, arN_5, arN_6, arN_7, asP, setS, eThen, seqS, ifS, nxS, killS, killT, retS, exprS, unitS, setIS, setA, tstD, asB, andB, orB, notB, andV, orV, notV, valB, intOp, addD, subD, modD, powD, fdivD, negD, ordI, ltD, chn, asM, asL, asS, oneD, intD, ixA, ixD, dnAt, DN.keyD, atI, ixN, mthD, tyL, mutL, appendD]) (le_line _ (by omega)) rfl (fun L' h _ => by rw [h]; exact Older.refl _) (fun p hp L1 acc hl hj => by
      subst hj
      obtain ⟨r, rfl⟩ := hq p hp
      obtain ⟨c, e, hc⟩ := lett_ix (Int.emod_nonneg r (by decide : (26 : Int) ≠ 0)) (Int.emod_lt_of_pos r (by decide)) (L1 ++ [.lst acc])
      refine ⟨.str ⟨#[c]⟩, L1, ?_, rfl, rfl, c, rfl, hc⟩
      simp only [lcT, tgN, yesB, killT, bind, M.bnd, pure, M.ret, varD, retD, DN.bin, appA, consA, nilA, modD, intOp, oneD, intD, List.set_cons_zero, List.set_cons_succ, List.getElem?_cons_zero, List.getElem?_cons_succ]
      simp [e])
  obtain ⟨L', ss, e, l, rfl, pr⟩ := hlc
  have hs : ∃ ys : List Str, ss = ys.map P.str ∧ ys.length = qs.length ∧ ∀ y ∈ ys, LowS 1 y := by
    have : ∀ {qs ss : List P}, Paired (fun _ q => ∃ c, q = P.str ⟨#[c]⟩ ∧ 97 ≤ c ∧ c ≤ 122) qs ss → ∃ ys : List Str, ss = ys.map P.str ∧ ys.length = qs.length ∧ ∀ y ∈ ys, LowS 1 y := by
      intro qs ss h
      induction h with
      | nil => exact ⟨[], rfl, rfl, fun y hy => by cases hy⟩
      | cons h t ih =>
        obtain ⟨c, rfl, hc⟩ := h
        obtain ⟨ys, rfl, h1, h2⟩ := ih
        refine ⟨⟨#[c]⟩ :: ys, rfl, by simp [h1], fun y hy => ?_⟩
        rcases List.mem_cons.mp hy with z | hy
        · rw [z]
          exact ⟨fun d hd => by simp at hd; omega, by simp⟩
        · exact h2 y hy
    exact this pr
  obtain ⟨ys, rfl, hyl, hy⟩ := hs
  refine ⟨Txt.join "" ys, by rw [← hyl]; exact join_low hy, ?_⟩
  have es : strsOf (ys.map P.str) = some ys := strs_map ys
  have hsum : (ys.map (·.length)).sum ≤ 16777216 := by
    have : ∀ ys : List Str, (∀ y ∈ ys, LowS 1 y) → (ys.map (·.length)).sum ≤ ys.length := by
      intro ys
      induction ys with
      | nil => intro _; simp
      | cons y ys ih =>
        intro h
        have h1 := ih fun z hz => h z (List.mem_cons_of_mem _ hz)
        have h2 : y.length ≤ 1 := by have := (h y List.mem_cons_self).2; simpa [Str.length] using this
        simp only [List.map_cons, List.sum_cons, List.length_cons]
        omega
    have := this ys hy
    omega
  unfold f_q_word
  refine scope_s (body_rt ?_) (Older.refl _) rfl
  unfold d_q_word
  rw [seq_nx (τ1 := [some (.v (.lst qs)), some (.v (.str lett)), none]) (L1 := L') (by simp [setS, eThen, retD, pure, M.ret, lett])]
  have e0 : ("" : Str).length = 0 := by decide +kernel
  show eThen (mthD tyS joinD (retD (.v (.str ""))) (consA (lcS false (seqI (varD 0)) [2] (tgN 2) yesB (DN.bin ixA (varD 1) (DN.bin modD (appA intD (consA (varD 2) nilA)) (retD (.v (.int 26)))))) nilA)) (fun d _ L => some (.rt d, L)) _ _ = _
  simp [eThen, mthD, retD, consA, nilA, bind, M.bnd, pure, M.ret, tyS, e, joinD, asS, asL, asM, es, e0, hsum]
theorem mul_ok {a b : Int} (h : mulOkB a b = true) (L : List MO) : mulD (.v (.int a)) (.v (.int b)) L = some (.ok (.v (.int (a * b))), L) := by
  unfold mulD intOp
  exact if_pos h
theorem eq_int (a b : Int) (L : List MO) : eqD false (.v (.int a)) (.v (.int b)) L = some (.ok (.v (.bl (decide (a = b)))), L) := by
  have h1 : okD (.int a) = true := rfl
  have h2 : okD (.int b) = true := rfl
  by_cases h : a = b <;> simp [eqD, dOf, toD, h1, h2, PyData.eqv, h]
theorem ne_int (a b : Int) (L : List MO) : eqD true (.v (.int a)) (.v (.int b)) L = some (.ok (.v (.bl (!decide (a = b)))), L) := by
  have h1 : okD (.int a) = true := rfl
  have h2 : okD (.int b) = true := rfl
  by_cases h : a = b <;> simp [eqD, dOf, toD, h1, h2, PyData.eqv, h]
theorem low_line {n : Nat} {x : Str} (h : LowS n x) (hn : n ≤ 500) : x.length ≤ sizeLine := le_line _ (by have := h.2; simp [Str.length] at this ⊢; omega)
theorem add_str {n m : Nat} {x y : Str} (h : LowS n x) (k : LowS m y) (hn : n + m ≤ 1000) (L : List MO) : addD (.v (.str x)) (.v (.str y)) L = some (.ok (.v (.str (x ++ y))), L) := by
  have : x.length + y.length ≤ sizeLine := le_line _ (by have := h.2; have := k.2; simp [Str.length] at *; omega)
  simp [addD, this]
theorem len_add {n m : Nat} {x y : Str} (h : LowS n x) (k : LowS m y) (hn : n + m ≤ 1000) : x.length + y.length ≤ sizeLine := le_line _ (by have := h.2; have := k.2; simp [Str.length] at *; omega)
theorem sl_str {n : Nat} {x : Str} (h : LowS n x) (hn : n ≤ 500) (lo hi : Option Int) (L : List MO) : slD (.v (.str x)) lo hi L = some (.ok (.v (.str (L2.cutS x lo hi))), L) := by
  simp [slD, low_line h hn]
def Pooled (n : Nat) (L L1 : List MO) : Prop := ∃ ys, PoolP ys ∧ L1 = L.set n (.lst ys)
theorem Pooled.of {n : Nat} {L : List MO} {xs : List P} (h : L[n]? = some (.lst xs)) (hp : PoolP xs) : Pooled n L L := ⟨xs, hp, by
  obtain ⟨hn, e⟩ := List.getElem?_eq_some_iff.mp h
  rw [← e, List.set_getElem_self]⟩
theorem Pooled.older {n : Nat} {L L1 : List MO} (h : Pooled n L L1) : Older L L1 := by
  obtain ⟨ys, _, rfl⟩ := h
  exact older_set
theorem Pooled.len {n : Nat} {L L1 : List MO} (h : Pooled n L L1) : L1.length = L.length := by
  obtain ⟨ys, _, rfl⟩ := h
  simp
theorem Pooled.trans {n : Nat} {L L1 Lb : List MO} (h : Pooled n L L1) (k : Pooled n L1 Lb) : Pooled n L Lb := by
  obtain ⟨ys, _, rfl⟩ := h
  obtain ⟨zs, hz, rfl⟩ := k
  exact ⟨zs, hz, by rw [List.set_set]⟩
/-- a draw, whatever stands behind -/
theorem draw_p {n : Nat} {L L1 : List MO} (hn : n < L.length) (h : Pooled n L L1) (X : List MO) {m : Int} (h0 : 0 < m) (h1 : m < 1073741824) : ∃ (r : Int) (Lb : List MO), 0 ≤ r ∧ r < m ∧ Pooled n L Lb ∧ f_q_draw [.r n, .v (.int m)] (L1 ++ X) = some (.ok (.v (.int r)), Lb ++ X) := by
  obtain ⟨ys, hy, rfl⟩ := h
  have hl : n < (L.set n (.lst ys)).length := by simpa using hn
  obtain ⟨r, zs, a1, a2, a3, e⟩ := draw_ok (L := L.set n (.lst ys) ++ X) (n := n) (xs := ys) (by rw [List.getElem?_append_left hl, List.getElem?_set_self hn]) hy h0 h1
  refine ⟨r, L.set n (.lst zs), a1, a2, ⟨zs, a3, rfl⟩, ?_⟩
  rw [e, List.set_append_left _ _ hl, List.set_set]
theorem draw_q {n : Nat} {L L1 : List MO} (hn : n < L.length) (h : Pooled n L L1) {m : Int} (h0 : 0 < m) (h1 : m < 1073741824) : ∃ (r : Int) (Lb : List MO), 0 ≤ r ∧ r < m ∧ Pooled n L Lb ∧ f_q_draw [.r n, .v (.int m)] L1 = some (.ok (.v (.int r)), Lb) := by
  have := draw_p hn h [] h0 h1
  simpa using this
theorem paired_all {A : P → P → Prop} {B : P → Prop} (f : ∀ x y, A x y → B y) : ∀ {xs ys : List P}, Paired A xs ys → ∀ y ∈ ys, B y
  | _, _, .nil, _, h => by cases h
  | _, _, .cons h t, y, hy => by
    rcases List.mem_cons.mp hy with z | hy
    · rw [z]; exact f _ _ h
    · exact paired_all f t y hy
theorem paired_len {A : P → P → Prop} : ∀ {xs ys : List P}, Paired A xs ys → xs.length = ys.length
  | _, _, .nil => rfl
  | _, _, .cons _ t => by simp [paired_len t]
noncomputable def nbody : SX := killS [9, 10, 11] (seqS (setS 9 (appA (arN 1 f_q_word) (consA (appA lstD (consA (DN.bin addD (varD 2) (DN.bin mulD (varD 3) (varD 8))) nilA)) nilA))) (seqS (setS 10 (DN.bin modD (appA intD (consA (varD 4) nilA)) (varD 5)))
      (seqS (setS 11 (DN.bin addD (DN.bin addD (slice (varD 6) noP (part (varD 10))) (varD 9)) (slice (varD 6) (part (DN.bin addD (varD 10) (retD (.v (.int 1))))) (part (varD 5)))))
      (killS [10] (seqS (ifS (tstD (DN.bin (eqD false) (varD 1) (retD (.v (.int 1))))) (killS [11] (setS 11 (slice (varD 6) noP (part (DN.bin addD (retD (.v (.int 1))) (DN.bin modD (appA intD (consA (DN.bin addD (varD 8) (varD 4)) nilA)) (retD (.v (.int 8))))))))) nxS)
      (seqS (ifS (tstD (DN.bin (eqD false) (varD 1) (retD (.v (.int 2))))) (killS [11] (setS 11 (DN.bin addD (varD 9) (slice (varD 6) (part (varD 8)) (part (DN.bin addD (varD 8) (DN.bin modD (appA intD (consA (DN.bin addD (varD 4) (DN.bin mulD (retD (.v (.int 3))) (varD 8))) nilA)) (retD (.v (.int 8)))))))))) nxS)
      (killS [8, 9] (exprS (mthD tyL appendD (varD 7) (consA (varD 11) nilA))))))))))
def nT (s sh st pl sz : Int) (w : Str) (m : Nat) (k : Option D) (a b c : Option D) : Tau := [none, some (.v (.int s)), some (.v (.int sh)), some (.v (.int st)), some (.v (.int pl)), some (.v (.int sz)), some (.v (.str w)), some (.r m), k, a, b, c]
theorem nbody_ok {s sh st pl sz : Int} {w : Str} {k : Nat} {L : List MO} {acc : List Str} {z : Option D} (hk : k < 8) (st0 : 0 ≤ st) (st1 : st < 12) (sz0 : 0 < sz) (hw : LowS 8 w) (ha : acc.length < 9) :
    ∃ (nm : Str) , LowS 40 nm ∧ nbody (nT s sh st pl sz w L.length (some (.v (.int k))) none none z) (L ++ [.lst (acc.map P.str)]) = some (.nx (nT s sh st pl sz w L.length none none none (some (.v (.str nm)))), L ++ [.lst ((acc ++ [nm]).map P.str)]) := by
  have km : mulOkB st k = true := by unfold mulOkB; simp; omega
  have km3 : mulOkB 3 k = true := by unfold mulOkB; simp
  obtain ⟨lt, hlt, elt⟩ := word_ok (L := L ++ [.lst (acc.map P.str)]) (qs := [.int (sh + st * k)]) (by simp) (by simp)
  have hlt1 : LowS 1 lt := hlt
  have hszl : acc.length < sizeLine := by have := le_line 9 (by decide); omega
  have w1 := low_cut hw
  have a1 : LowS 20 (L2.cutS w none (some (pl % sz)) ++ lt) := (low_app (w1 none (some (pl % sz))) hlt1).mono (by decide)
  have hdiv : 0 < sz := sz0
  have a2 := low_app a1 (w1 (some (pl % sz + 1)) (some sz))
  have b1 := len_add (w1 none (some (pl % sz))) hlt1 (by decide)
  have b2 := len_add a1 (w1 (some (pl % sz + 1)) (some sz)) (by decide)
  have b3 := len_add hlt1 (w1 (some (k : Int)) (some (k + (pl + 3 * k) % 8))) (by decide)
  have last : ∀ nm : Str, killS [8, 9] (exprS (mthD tyL appendD (varD 7) (consA (varD 11) nilA))) (nT s sh st pl sz w L.length (some (.v (.int k))) (some (.v (.str lt))) none (some (.v (.str nm)))) (L ++ [.lst (acc.map P.str)]) = some (.nx (nT s sh st pl sz w L.length none none none (some (.v (.str nm)))), L ++ [.lst ((acc ++ [nm]).map P.str)]) := fun nm => by
    have hg : (L ++ [MO.lst (acc.map P.str)])[L.length]? = some (.lst (acc.map P.str)) := by rw [List.getElem?_append_right (Nat.le_refl _), Nat.sub_self]; rfl
    have hs : (L ++ [MO.lst (acc.map P.str)]).set L.length (.lst (acc.map P.str ++ [P.str nm])) = L ++ [.lst ((acc ++ [nm]).map P.str)] := by rw [List.set_append_right _ _ (Nat.le_refl _), Nat.sub_self, List.map_append]; rfl
    have hz : (acc.map P.str).length < sizeLine := by rw [List.length_map]; exact hszl
    simp only [tup_0, tup_1, tup_2, tup_3, tup_4, tup_5, tup_6, lst_0, lst_1, lst_2, lst_3, lst_4, lst_5, lst_6, lst_7, lst_8, lst_9, lst_10, lst_11, lst_12, new_0, new_1, new_2, new_3, new_4, new_5, new_6, bind, M.bnd, pure, M.ret, M.stuck, varD, retD, DN.bin, un, appA, consA, nilA, arN_1, arN_2, arN_3, arN_4, arN_5, arN_6, arN_7, asP, setS, eThen, seqS, ifS, nxS, killS, killT, retS, exprS, unitS, setIS, setA, tstD, asB, andB, orB, notB, andV, orV, notV, valB, intOp, addD, subD, modD, powD, fdivD, negD, ordI, ltD, chn, asM, asL, asS, oneD, intD, ixA, ixD, dnAt, DN.keyD, atI, ixN, mthD, tyL, mutL, appendD, List.getElem?_cons_succ, List.getElem?_cons_zero, List.set_cons_succ, List.set_cons_zero, if_true, if_false, decide_true, decide_false, Bool.false_eq_true, reduceIte, nT, hg, Option.isSome_some, if_pos hz, hs]
  have first : ∀ (r : Option (Out × List MO)) (rest : SX), rest (nT s sh st pl sz w L.length (some (.v (.int k))) (some (.v (.str lt))) (some (.v (.int (pl % sz)))) (some (.v (.str (L2.cutS w none (some (pl % sz)) ++ lt ++ L2.cutS w (some (pl % sz + 1)) (some sz)))))) (L ++ [.lst (acc.map P.str)]) = r →
      (seqS (setS 9 (appA (arN 1 f_q_word) (consA (appA lstD (consA (DN.bin addD (varD 2) (DN.bin mulD (varD 3) (varD 8))) nilA)) nilA))) (seqS (setS 10 (DN.bin modD (appA intD (consA (varD 4) nilA)) (varD 5)))
      (seqS (setS 11 (DN.bin addD (DN.bin addD (slice (varD 6) noP (part (varD 10))) (varD 9)) (slice (varD 6) (part (DN.bin addD (varD 10) (retD (.v (.int 1))))) (part (varD 5))))) rest))) (nT s sh st pl sz w L.length (some (.v (.int k))) none none none) (L ++ [.lst (acc.map P.str)]) = r := fun r rest h => by
    rw [seq_nx (τ1 := nT s sh st pl sz w L.length (some (.v (.int k))) (some (.v (.str lt))) none none) (L1 := L ++ [.lst (acc.map P.str)]) (by simp only [tup_0, tup_1, tup_2, tup_3, tup_4, tup_5, tup_6, lst_0, lst_1, lst_2, lst_3, lst_4, lst_5, lst_6, lst_7, lst_8, lst_9, lst_10, lst_11, lst_12, new_0, new_1, new_2, new_3, new_4, new_5, new_6, bind, M.bnd, pure, M.ret, M.stuck, varD, retD, DN.bin, un, appA, consA, nilA, arN_1, arN_2, arN_3, arN_4, arN_5, arN_6, arN_7, asP, setS, eThen, seqS, ifS, nxS, killS, killT, retS, exprS, unitS, setIS, setA, tstD, asB, andB, orB, notB, andV, orV, notV, valB, intOp, addD, subD, modD, powD, fdivD, negD, ordI, ltD, chn, asM, asL, asS, oneD, intD, ixA, ixD, dnAt, DN.keyD, atI, ixN, mthD, tyL, mutL, appendD, List.getElem?_cons_succ, List.getElem?_cons_zero, List.set_cons_succ, List.set_cons_zero, if_true, if_false, decide_true, decide_false, Bool.false_eq_true, reduceIte, nT, elt, mul_ok km])]
    rw [seq_nx (τ1 := nT s sh st pl sz w L.length (some (.v (.int k))) (some (.v (.str lt))) (some (.v (.int (pl % sz)))) none) (L1 := L ++ [.lst (acc.map P.str)]) (by simp only [tup_0, tup_1, tup_2, tup_3, tup_4, tup_5, tup_6, lst_0, lst_1, lst_2, lst_3, lst_4, lst_5, lst_6, lst_7, lst_8, lst_9, lst_10, lst_11, lst_12, new_0, new_1, new_2, new_3, new_4, new_5, new_6, bind, M.bnd, pure, M.ret, M.stuck, varD, retD, DN.bin, un, appA, consA, nilA, arN_1, arN_2, arN_3, arN_4, arN_5, arN_6, arN_7, asP, setS, eThen, seqS, ifS, nxS, killS, killT, retS, exprS, unitS, setIS, setA, tstD, asB, andB, orB, notB, andV, orV, notV, valB, intOp, addD, subD, modD, powD, fdivD, negD, ordI, ltD, chn, asM, asL, asS, oneD, intD, ixA, ixD, dnAt, DN.keyD, atI, ixN, mthD, tyL, mutL, appendD, List.getElem?_cons_succ, List.getElem?_cons_zero, List.set_cons_succ, List.set_cons_zero, if_true, if_false, decide_true, decide_false, Bool.false_eq_true, reduceIte, nT, decide_eq_true hdiv])]
    rw [seq_nx (τ1 := nT s sh st pl sz w L.length (some (.v (.int k))) (some (.v (.str lt))) (some (.v (.int (pl % sz)))) (some (.v (.str (L2.cutS w none (some (pl % sz)) ++ lt ++ L2.cutS w (some (pl % sz + 1)) (some sz)))))) (L1 := L ++ [.lst (acc.map P.str)]) (by simp only [tup_0, tup_1, tup_2, tup_3, tup_4, tup_5, tup_6, lst_0, lst_1, lst_2, lst_3, lst_4, lst_5, lst_6, lst_7, lst_8, lst_9, lst_10, lst_11, lst_12, new_0, new_1, new_2, new_3, new_4, new_5, new_6, bind, M.bnd, pure, M.ret, M.stuck, varD, retD, DN.bin, un, appA, consA, nilA, arN_1, arN_2, arN_3, arN_4, arN_5, arN_6, arN_7, asP, setS, eThen, seqS, ifS, nxS, killS, killT, retS, exprS, unitS, setIS, setA, tstD, asB, andB, orB, notB, andV, orV, notV, valB, intOp, addD, subD, modD, powD, fdivD, negD, ordI, ltD, chn, asM, asL, asS, oneD, intD, ixA, ixD, dnAt, DN.keyD, atI, ixN, mthD, tyL, mutL, appendD, List.getElem?_cons_succ, List.getElem?_cons_zero, List.set_cons_succ, List.set_cons_zero, if_true, if_false, decide_true, decide_false, Bool.false_eq_true, reduceIte, nT, slice, noP, part, asJ, sl_str hw (by decide), if_pos b1, if_pos b2])]
    exact h
  have hk0 : killT [9, 10, 11] (nT s sh st pl sz w L.length (some (.v (.int k))) none none z) = nT s sh st pl sz w L.length (some (.v (.int k))) none none none := rfl
  have hk1 : ∀ x : Str, killT [10] (nT s sh st pl sz w L.length (some (.v (.int k))) (some (.v (.str lt))) (some (.v (.int (pl % sz)))) (some (.v (.str x)))) = nT s sh st pl sz w L.length (some (.v (.int k))) (some (.v (.str lt))) none (some (.v (.str x))) := fun _ => rfl
  unfold nbody
  by_cases c1 : s = 1
  · refine ⟨L2.cutS w none (some (1 + (k + pl) % 8)), (w1 _ _).mono (by decide), ?_⟩
    show seqS _ _ (killT [9, 10, 11] _) _ = _
    rw [hk0]
    refine first _ _ ?_
    show seqS _ _ (killT [10] _) _ = _
    rw [hk1]
    rw [seq_nx (τ1 := nT s sh st pl sz w L.length (some (.v (.int k))) (some (.v (.str lt))) none (some (.v (.str (L2.cutS w none (some (1 + (k + pl) % 8))))))) (L1 := L ++ [.lst (acc.map P.str)]) (by simp only [tup_0, tup_1, tup_2, tup_3, tup_4, tup_5, tup_6, lst_0, lst_1, lst_2, lst_3, lst_4, lst_5, lst_6, lst_7, lst_8, lst_9, lst_10, lst_11, lst_12, new_0, new_1, new_2, new_3, new_4, new_5, new_6, bind, M.bnd, pure, M.ret, M.stuck, varD, retD, DN.bin, un, appA, consA, nilA, arN_1, arN_2, arN_3, arN_4, arN_5, arN_6, arN_7, asP, setS, eThen, seqS, ifS, nxS, killS, killT, retS, exprS, unitS, setIS, setA, tstD, asB, andB, orB, notB, andV, orV, notV, valB, intOp, addD, subD, modD, powD, fdivD, negD, ordI, ltD, chn, asM, asL, asS, oneD, intD, ixA, ixD, dnAt, DN.keyD, atI, ixN, mthD, tyL, mutL, appendD, List.getElem?_cons_succ, List.getElem?_cons_zero, List.set_cons_succ, List.set_cons_zero, if_true, if_false, decide_true, decide_false, Bool.false_eq_true, reduceIte, nT, slice, noP, part, asJ, sl_str hw (by decide), eq_int, decide_eq_true c1, decide_eq_true (show (0 : Int) < 8 by decide)])]
    rw [seq_nx (τ1 := nT s sh st pl sz w L.length (some (.v (.int k))) (some (.v (.str lt))) none (some (.v (.str (L2.cutS w none (some (1 + (k + pl) % 8))))))) (L1 := L ++ [.lst (acc.map P.str)]) (by simp only [tup_0, tup_1, tup_2, tup_3, tup_4, tup_5, tup_6, lst_0, lst_1, lst_2, lst_3, lst_4, lst_5, lst_6, lst_7, lst_8, lst_9, lst_10, lst_11, lst_12, new_0, new_1, new_2, new_3, new_4, new_5, new_6, bind, M.bnd, pure, M.ret, M.stuck, varD, retD, DN.bin, un, appA, consA, nilA, arN_1, arN_2, arN_3, arN_4, arN_5, arN_6, arN_7, asP, setS, eThen, seqS, ifS, nxS, killS, killT, retS, exprS, unitS, setIS, setA, tstD, asB, andB, orB, notB, andV, orV, notV, valB, intOp, addD, subD, modD, powD, fdivD, negD, ordI, ltD, chn, asM, asL, asS, oneD, intD, ixA, ixD, dnAt, DN.keyD, atI, ixN, mthD, tyL, mutL, appendD, List.getElem?_cons_succ, List.getElem?_cons_zero, List.set_cons_succ, List.set_cons_zero, if_true, if_false, decide_true, decide_false, Bool.false_eq_true, reduceIte, nT, eq_int, decide_eq_false (show ¬ s = 2 by omega)])]
    exact last _
  · by_cases c2 : s = 2
    · refine ⟨lt ++ L2.cutS w (some k) (some (k + (pl + 3 * k) % 8)), (low_app hlt1 (w1 _ _)).mono (by decide), ?_⟩
      show seqS _ _ (killT [9, 10, 11] _) _ = _
      rw [hk0]
      refine first _ _ ?_
      show seqS _ _ (killT [10] _) _ = _
      rw [hk1]
      rw [seq_nx (τ1 := nT s sh st pl sz w L.length (some (.v (.int k))) (some (.v (.str lt))) none (some (.v (.str (L2.cutS w none (some (pl % sz)) ++ lt ++ L2.cutS w (some (pl % sz + 1)) (some sz)))))) (L1 := L ++ [.lst (acc.map P.str)]) (by simp only [tup_0, tup_1, tup_2, tup_3, tup_4, tup_5, tup_6, lst_0, lst_1, lst_2, lst_3, lst_4, lst_5, lst_6, lst_7, lst_8, lst_9, lst_10, lst_11, lst_12, new_0, new_1, new_2, new_3, new_4, new_5, new_6, bind, M.bnd, pure, M.ret, M.stuck, varD, retD, DN.bin, un, appA, consA, nilA, arN_1, arN_2, arN_3, arN_4, arN_5, arN_6, arN_7, asP, setS, eThen, seqS, ifS, nxS, killS, killT, retS, exprS, unitS, setIS, setA, tstD, asB, andB, orB, notB, andV, orV, notV, valB, intOp, addD, subD, modD, powD, fdivD, negD, ordI, ltD, chn, asM, asL, asS, oneD, intD, ixA, ixD, dnAt, DN.keyD, atI, ixN, mthD, tyL, mutL, appendD, List.getElem?_cons_succ, List.getElem?_cons_zero, List.set_cons_succ, List.set_cons_zero, if_true, if_false, decide_true, decide_false, Bool.false_eq_true, reduceIte, nT, eq_int, decide_eq_false c1])]
      rw [seq_nx (τ1 := nT s sh st pl sz w L.length (some (.v (.int k))) (some (.v (.str lt))) none (some (.v (.str (lt ++ L2.cutS w (some k) (some (k + (pl + 3 * k) % 8))))))) (L1 := L ++ [.lst (acc.map P.str)]) (by simp only [tup_0, tup_1, tup_2, tup_3, tup_4, tup_5, tup_6, lst_0, lst_1, lst_2, lst_3, lst_4, lst_5, lst_6, lst_7, lst_8, lst_9, lst_10, lst_11, lst_12, new_0, new_1, new_2, new_3, new_4, new_5, new_6, bind, M.bnd, pure, M.ret, M.stuck, varD, retD, DN.bin, un, appA, consA, nilA, arN_1, arN_2, arN_3, arN_4, arN_5, arN_6, arN_7, asP, setS, eThen, seqS, ifS, nxS, killS, killT, retS, exprS, unitS, setIS, setA, tstD, asB, andB, orB, notB, andV, orV, notV, valB, intOp, addD, subD, modD, powD, fdivD, negD, ordI, ltD, chn, asM, asL, asS, oneD, intD, ixA, ixD, dnAt, DN.keyD, atI, ixN, mthD, tyL, mutL, appendD, List.getElem?_cons_succ, List.getElem?_cons_zero, List.set_cons_succ, List.set_cons_zero, if_true, if_false, decide_true, decide_false, Bool.false_eq_true, reduceIte, nT, slice, noP, part, asJ, sl_str hw (by decide), eq_int, decide_eq_true c2, mul_ok km3, if_pos b3, decide_eq_true (show (0 : Int) < 8 by decide)])]
      exact last _
    · refine ⟨_, a2.mono (by decide), ?_⟩
      show seqS _ _ (killT [9, 10, 11] _) _ = _
      rw [hk0]
      refine first _ _ ?_
      show seqS _ _ (killT [10] _) _ = _
      rw [hk1]
      rw [seq_nx (τ1 := nT s sh st pl sz w L.length (some (.v (.int k))) (some (.v (.str lt))) none (some (.v (.str (L2.cutS w none (some (pl % sz)) ++ lt ++ L2.cutS w (some (pl % sz + 1)) (some sz)))))) (L1 := L ++ [.lst (acc.map P.str)]) (by simp only [tup_0, tup_1, tup_2, tup_3, tup_4, tup_5, tup_6, lst_0, lst_1, lst_2, lst_3, lst_4, lst_5, lst_6, lst_7, lst_8, lst_9, lst_10, lst_11, lst_12, new_0, new_1, new_2, new_3, new_4, new_5, new_6, bind, M.bnd, pure, M.ret, M.stuck, varD, retD, DN.bin, un, appA, consA, nilA, arN_1, arN_2, arN_3, arN_4, arN_5, arN_6, arN_7, asP, setS, eThen, seqS, ifS, nxS, killS, killT, retS, exprS, unitS, setIS, setA, tstD, asB, andB, orB, notB, andV, orV, notV, valB, intOp, addD, subD, modD, powD, fdivD, negD, ordI, ltD, chn, asM, asL, asS, oneD, intD, ixA, ixD, dnAt, DN.keyD, atI, ixN, mthD, tyL, mutL, appendD, List.getElem?_cons_succ, List.getElem?_cons_zero, List.set_cons_succ, List.set_cons_zero, if_true, if_false, decide_true, decide_false, Bool.false_eq_true, reduceIte, nT, eq_int, decide_eq_false c1])]
      rw [seq_nx (τ1 := nT s sh st pl sz w L.length (some (.v (.int k))) (some (.v (.str lt))) none (some (.v (.str (L2.cutS w none (some (pl % sz)) ++ lt ++ L2.cutS w (some (pl % sz + 1)) (some sz)))))) (L1 := L ++ [.lst (acc.map P.str)]) (by simp only [tup_0, tup_1, tup_2, tup_3, tup_4, tup_5, tup_6, lst_0, lst_1, lst_2, lst_3, lst_4, lst_5, lst_6, lst_7, lst_8, lst_9, lst_10, lst_11, lst_12, new_0, new_1, new_2, new_3, new_4, new_5, new_6, bind, M.bnd, pure, M.ret, M.stuck, varD, retD, DN.bin, un, appA, consA, nilA, arN_1, arN_2, arN_3, arN_4, arN_5, arN_6, arN_7, asP, setS, eThen, seqS, ifS, nxS, killS, killT, retS, exprS, unitS, setIS, setA, tstD, asB, andB, orB, notB, andV, orV, notV, valB, intOp, addD, subD, modD, powD, fdivD, negD, ordI, ltD, chn, asM, asL, asS, oneD, intD, ixA, ixD, dnAt, DN.keyD, atI, ixN, mthD, tyL, mutL, appendD, List.getElem?_cons_succ, List.getElem?_cons_zero, List.set_cons_succ, List.set_cons_zero, if_true, if_false, decide_true, decide_false, Bool.false_eq_true, reduceIte, nT, eq_int, decide_eq_false c2])]
      exact last _
theorem range_at {n i : Nat} {p : P} (h : ((List.range n).map fun i : Nat => P.int (0 + i))[i]? = some p) : i < n ∧ p = .int i := by
  rw [List.getElem?_map] at h
  cases e : (List.range n)[i]? with
  | none => rw [e] at h; cases h
  | some k =>
    rw [e] at h
    obtain ⟨hk, ek⟩ := List.getElem?_eq_some_iff.mp e
    simp at hk ek
    refine ⟨hk, ?_⟩
    have := Option.some.inj h
    rw [← this, ← ek]
    simp
theorem names_ok {L L1 : List MO} {n : Nat} (hn : n < L.length) (h : Pooled n L L1) : ∃ (ns : List Str) (Lb : List MO), ns.length = 8 ∧ (∀ x ∈ ns, LowS 40 x) ∧ Pooled n L Lb ∧ f_q_names [.r n] L1 = some (.ok (.v (.lst (ns.map P.str))), Lb) := by
  obtain ⟨s, Lb, s0, s1, p2, e2⟩ := draw_q hn h (m := 3) (by decide) (by decide)
  obtain ⟨sh, L3, sh0, sh1, p3, e3⟩ := draw_q hn p2 (m := 26) (by decide) (by decide)
  obtain ⟨st, L4, st0, st1, p4, e4⟩ := draw_q hn p3 (m := 6) (by decide) (by decide)
  obtain ⟨pl, L5, pl0, pl1, p5, e5⟩ := draw_q hn p4 (m := 8) (by decide) (by decide)
  obtain ⟨sz, L6, sz0, sz1, p6, e6⟩ := draw_q hn p5 (m := 8) (by decide) (by decide)
  have k2 : mulOkB 2 st = true := by unfold mulOkB; simp
  have hlc := lc_run (src := argI rng1 (consA (retD (.v (.int 8))) nilA)) (vs := [8]) (tg := tgN 8) (tt := yesB) (fe := appA (arN 2 f_q_draw) (consA (varD 0) (consA (retD (.v (.int 26))) nilA)))
    (τ := [some (.r n), some (.v (.int s)), some (.v (.int sh)), some (.v (.int (1 + 2 * st))), some (.v (.int pl)), some (.v (.int (1 + sz))), none, none, none, none, none, none]) (L := L6) (L0 := L6) (xs := (List.range 8).map fun i : Nat => P.int (0 + i)) (J := fun L' => Pooled n L L') (R := fun _ q => ∃ r : Int, q = P.int r)
    (by simp [argI, rng1, consA, nilA, retD, bind, M.bnd, pure, M.ret]) (le_line _ (by simp)) p6 (fun L' hj hl => by
      obtain ⟨ys, _, rfl⟩ := hj
      obtain ⟨zs, _, rfl⟩ := p6
      have : L.set n (.lst ys) = (L.set n (.lst zs)).set n (.lst ys) := by rw [List.set_set]
      rw [this]
      exact older_set) (fun p hp L1 acc hl hj => by
      obtain ⟨r, L', r0, r1, pj, e⟩ := draw_p hn hj [.lst acc] (m := 26) (by decide) (by decide)
      refine ⟨.int r, L', ?_, by rw [pj.len, ← p6.len], pj, r, rfl⟩
      simp [lcT, tgN, yesB, killT, bind, M.bnd, pure, M.ret, varD, retD, appA, consA, nilA, arN, e])
  obtain ⟨L7, qs, elc, l7, p7, pr⟩ := hlc
  have hql : qs.length = 8 := by have := paired_len pr; simpa using this.symm
  obtain ⟨w, hw, ew⟩ := word_ok (L := L7) (qs := qs) (paired_all (B := fun q => ∃ r : Int, q = P.int r) (fun _ _ h => h) pr) (by rw [hql]; decide)
  rw [hql] at hw
  have l7' : L7.length = L.length := p7.len
  have loop := for_all (ok := fun _ => True) (tg := tgN 8) (J := fun i τ L' => ∃ (acc : List Str) (z : Option D), acc.length = i ∧ (∀ x ∈ acc, LowS 40 x) ∧ τ = nT s sh (1 + 2 * st) pl (1 + sz) w L7.length none none none z ∧ i ≤ 8 ∧ L' = L7 ++ [.lst (acc.map P.str)]) (body := nbody)
    (xs := (List.range 8).map fun i : Nat => P.int (0 + i)) (τ := nT s sh (1 + 2 * st) pl (1 + sz) w L7.length none none none none) (L := L7 ++ [.lst []]) ⟨[], none, rfl, (fun x hx => by cases hx), rfl, by decide, rfl⟩ (fun _ _ _ _ => trivial) (by
      rintro i p τ L' hi ⟨acc, z, hacc, hlow, rfl, hi8, rfl⟩
      obtain ⟨hik, rfl⟩ := range_at hi
      obtain ⟨nm, hnm, e⟩ := nbody_ok (s := s) (sh := sh) (st := 1 + 2 * st) (sz := 1 + sz) (pl := pl) (acc := acc) (L := L7) (z := z) hik (by omega) (by omega) (by omega) hw (by omega)
      refine ⟨nT s sh (1 + 2 * st) pl (1 + sz) w L7.length (some (.v (.int i))) none none z, rfl, _, _, .inl e, acc ++ [nm], _, by simp [hacc], fun x hx => ?_, rfl, by omega, rfl⟩
      rcases List.mem_append.mp hx with q | q
      · exact hlow x q
      · rw [List.mem_singleton.mp q]; exact hnm)
  obtain ⟨τ', L', eloop, acc, z, hacc, hlow, rfl, _, rfl⟩ := loop
  refine ⟨acc, L7, by simpa using hacc, hlow, p7, ?_⟩
  unfold f_q_names
  refine scope_f (L1 := L7) (X := [.lst (acc.map P.str)]) (n := L7.length) (body_rt ?_) ?_ (by rw [p7.len, ← h.len]) (by rw [p7.len, ← h.len]; exact Nat.le_refl _) (by rw [p7.len, ← h.len]; simp)
  · unfold d_q_names
    rw [seq_nx (τ1 := [some (.r n), some (.v (.int s)), none, none, none, none, none, none, none, none, none, none]) (L1 := Lb) (by simp [tup_0, tup_1, tup_2, tup_3, tup_4, tup_5, tup_6, lst_0, lst_1, lst_2, lst_3, lst_4, lst_5, lst_6, lst_7, lst_8, lst_9, lst_10, lst_11, lst_12, new_0, new_1, new_2, new_3, new_4, new_5, new_6, bind, M.bnd, pure, M.ret, M.stuck, varD, retD, DN.bin, un, appA, consA, nilA, arN_1, arN_2, arN_3, arN_4, arN_5, arN_6, arN_7, asP, setS, eThen, seqS, ifS, nxS, killS, killT, retS, exprS, unitS, setIS, setA, tstD, asB, andB, orB, notB, andV, orV, notV, valB, intOp, addD, subD, modD, powD, fdivD, negD, ordI, ltD, chn, asM, asL, asS, oneD, intD, ixA, ixD, dnAt, DN.keyD, atI, ixN, mthD, tyL, mutL, appendD, e2])]
    rw [seq_nx (τ1 := [some (.r n), some (.v (.int s)), some (.v (.int sh)), none, none, none, none, none, none, none, none, none]) (L1 := L3) (by simp [tup_0, tup_1, tup_2, tup_3, tup_4, tup_5, tup_6, lst_0, lst_1, lst_2, lst_3, lst_4, lst_5, lst_6, lst_7, lst_8, lst_9, lst_10, lst_11, lst_12, new_0, new_1, new_2, new_3, new_4, new_5, new_6, bind, M.bnd, pure, M.ret, M.stuck, varD, retD, DN.bin, un, appA, consA, nilA, arN_1, arN_2, arN_3, arN_4, arN_5, arN_6, arN_7, asP, setS, eThen, seqS, ifS, nxS, killS, killT, retS, exprS, unitS, setIS, setA, tstD, asB, andB, orB, notB, andV, orV, notV, valB, intOp, addD, subD, modD, powD, fdivD, negD, ordI, ltD, chn, asM, asL, asS, oneD, intD, ixA, ixD, dnAt, DN.keyD, atI, ixN, mthD, tyL, mutL, appendD, e3])]
    rw [seq_nx (τ1 := [some (.r n), some (.v (.int s)), some (.v (.int sh)), some (.v (.int (1 + 2 * st))), none, none, none, none, none, none, none, none]) (L1 := L4) (by simp [tup_0, tup_1, tup_2, tup_3, tup_4, tup_5, tup_6, lst_0, lst_1, lst_2, lst_3, lst_4, lst_5, lst_6, lst_7, lst_8, lst_9, lst_10, lst_11, lst_12, new_0, new_1, new_2, new_3, new_4, new_5, new_6, bind, M.bnd, pure, M.ret, M.stuck, varD, retD, DN.bin, un, appA, consA, nilA, arN_1, arN_2, arN_3, arN_4, arN_5, arN_6, arN_7, asP, setS, eThen, seqS, ifS, nxS, killS, killT, retS, exprS, unitS, setIS, setA, tstD, asB, andB, orB, notB, andV, orV, notV, valB, intOp, addD, subD, modD, powD, fdivD, negD, ordI, ltD, chn, asM, asL, asS, oneD, intD, ixA, ixD, dnAt, DN.keyD, atI, ixN, mthD, tyL, mutL, appendD, e4, mul_ok k2])]
    rw [seq_nx (τ1 := [some (.r n), some (.v (.int s)), some (.v (.int sh)), some (.v (.int (1 + 2 * st))), some (.v (.int pl)), none, none, none, none, none, none, none]) (L1 := L5) (by simp [tup_0, tup_1, tup_2, tup_3, tup_4, tup_5, tup_6, lst_0, lst_1, lst_2, lst_3, lst_4, lst_5, lst_6, lst_7, lst_8, lst_9, lst_10, lst_11, lst_12, new_0, new_1, new_2, new_3, new_4, new_5, new_6, bind, M.bnd, pure, M.ret, M.stuck, varD, retD, DN.bin, un, appA, consA, nilA, arN_1, arN_2, arN_3, arN_4, arN_5, arN_6, arN_7, asP, setS, eThen, seqS, ifS, nxS, killS, killT, retS, exprS, unitS, setIS, setA, tstD, asB, andB, orB, notB, andV, orV, notV, valB, intOp, addD, subD, modD, powD, fdivD, negD, ordI, ltD, chn, asM, asL, asS, oneD, intD, ixA, ixD, dnAt, DN.keyD, atI, ixN, mthD, tyL, mutL, appendD, e5])]
    rw [seq_nx (τ1 := [some (.r n), some (.v (.int s)), some (.v (.int sh)), some (.v (.int (1 + 2 * st))), some (.v (.int pl)), some (.v (.int (1 + sz))), none, none, none, none, none, none]) (L1 := L6) (by simp [tup_0, tup_1, tup_2, tup_3, tup_4, tup_5, tup_6, lst_0, lst_1, lst_2, lst_3, lst_4, lst_5, lst_6, lst_7, lst_8, lst_9, lst_10, lst_11, lst_12, new_0, new_1, new_2, new_3, new_4, new_5, new_6, bind, M.bnd, pure, M.ret, M.stuck, varD, retD, DN.bin, un, appA, consA, nilA, arN_1, arN_2, arN_3, arN_4, arN_5, arN_6, arN_7, asP, setS, eThen, seqS, ifS, nxS, killS, killT, retS, exprS, unitS, setIS, setA, tstD, asB, andB, orB, notB, andV, orV, notV, valB, intOp, addD, subD, modD, powD, fdivD, negD, ordI, ltD, chn, asM, asL, asS, oneD, intD, ixA, ixD, dnAt, DN.keyD, atI, ixN, mthD, tyL, mutL, appendD, e6])]
    rw [seq_nx (τ1 := [some (.r n), some (.v (.int s)), some (.v (.int sh)), some (.v (.int (1 + 2 * st))), some (.v (.int pl)), some (.v (.int (1 + sz))), some (.v (.str w)), none, none, none, none, none]) (L1 := L7) (by simp [tup_0, tup_1, tup_2, tup_3, tup_4, tup_5, tup_6, lst_0, lst_1, lst_2, lst_3, lst_4, lst_5, lst_6, lst_7, lst_8, lst_9, lst_10, lst_11, lst_12, new_0, new_1, new_2, new_3, new_4, new_5, new_6, bind, M.bnd, pure, M.ret, M.stuck, varD, retD, DN.bin, un, appA, consA, nilA, arN_1, arN_2, arN_3, arN_4, arN_5, arN_6, arN_7, asP, setS, eThen, seqS, ifS, nxS, killS, killT, retS, exprS, unitS, setIS, setA, tstD, asB, andB, orB, notB, andV, orV, notV, valB, intOp, addD, subD, modD, powD, fdivD, negD, ordI, ltD, chn, asM, asL, asS, oneD, intD, ixA, ixD, dnAt, DN.keyD, atI, ixN, mthD, tyL, mutL, appendD, elc, ew])]
    show seqS _ _ (killT [0] _) _ = _
    rw [seq_nx (τ1 := nT s sh (1 + 2 * st) pl (1 + sz) w L7.length none none none none) (L1 := L7 ++ [.lst []]) (by simp [tup_0, tup_1, tup_2, tup_3, tup_4, tup_5, tup_6, lst_0, lst_1, lst_2, lst_3, lst_4, lst_5, lst_6, lst_7, lst_8, lst_9, lst_10, lst_11, lst_12, new_0, new_1, new_2, new_3, new_4, new_5, new_6, bind, M.bnd, pure, M.ret, M.stuck, varD, retD, DN.bin, un, appA, consA, nilA, arN_1, arN_2, arN_3, arN_4, arN_5, arN_6, arN_7, asP, setS, eThen, seqS, ifS, nxS, killS, killT, retS, exprS, unitS, setIS, setA, tstD, asB, andB, orB, notB, andV, orV, notV, valB, intOp, addD, subD, modD, powD, fdivD, negD, ordI, ltD, chn, asM, asL, asS, oneD, intD, ixA, ixD, dnAt, DN.keyD, atI, ixN, mthD, tyL, mutL, appendD, nT])]
    rw [seq_nx (τ1 := nT s sh (1 + 2 * st) pl (1 + sz) w L7.length none none none z) (L1 := L7 ++ [.lst (acc.map P.str)]) ?_]
    · simp [tup_0, tup_1, tup_2, tup_3, tup_4, tup_5, tup_6, lst_0, lst_1, lst_2, lst_3, lst_4, lst_5, lst_6, lst_7, lst_8, lst_9, lst_10, lst_11, lst_12, new_0, new_1, new_2, new_3, new_4, new_5, new_6, bind, M.bnd, pure, M.ret, M.stuck, varD, retD, DN.bin, un, appA, consA, nilA, arN_1, arN_2, arN_3, arN_4, arN_5, arN_6, arN_7, asP, setS, eThen, seqS, ifS, nxS, killS, killT, retS, exprS, unitS, setIS, setA, tstD, asB, andB, orB, notB, andV, orV, notV, valB, intOp, addD, subD, modD, powD, fdivD, negD, ordI, ltD, chn, asM, asL, asS, oneD, intD, ixA, ixD, dnAt, DN.keyD, atI, ixN, mthD, tyL, mutL, appendD, nT]
    · rw [forS_of (it := ((List.range 8).map fun i : Nat => P.int (0 + i), fun _ => True)) (L1 := L7 ++ [.lst []]) (by simp [argI, rng1, consA, nilA, retD, bind, M.bnd, pure, M.ret])]
      exact eloop
  · obtain ⟨ys, _, rfl⟩ := h
    obtain ⟨zs, _, rfl⟩ := p7
    have : L.set n (.lst zs) = (L.set n (.lst ys)).set n (.lst zs) := by rw [List.set_set]
    rw [this]
    exact older_set
theorem ix_lst {xs : List P} {r : Int} (h0 : 0 ≤ r) (h1 : r < xs.length) (L : List MO) : ∃ p, xs[r.toNat]? = some p ∧ ixA (.v (.lst xs)) (.v (.int r)) L = some (.ok (.v p), L) := by
  have hl : r.toNat < xs.length := by omega
  refine ⟨xs[r.toNat], List.getElem?_eq_getElem hl, ?_⟩
  have hn : ixN xs.length r = some r.toNat := by
    unfold ixN
    simp [h0, h1, hl]
    try omega
  simp [ixA, dnAt, ixD, asM, asL, atI, hn, hl]
inductive Fm where
  | start (n : Str) (i : Int) | fresh (i : Int) (n : Str) | der (i : Int) (n : Str) (xs : List Int)
  deriving DecidableEq
def Fm.p : Fm → P
  | .start n i => .tup [.str "start", .tup [.str n, .int i]]
  | .fresh i n => .tup [.str "fresh", .int i, .str n]
  | .der i n xs => .tup [.str "derived", .int i, .str n, .tup (xs.map P.int)]
def Fm.ok : Fm → Prop
  | .start n i => LowS 40 n ∧ 0 ≤ i ∧ i < 100000
  | .fresh i n => LowS 40 n ∧ 0 ≤ i ∧ i < 100000
  | .der i n xs => LowS 40 n ∧ 0 ≤ i ∧ i < 100000 ∧ xs.length ≤ 20 ∧ ∀ x ∈ xs, -100 ≤ x ∧ x < 100
def Fm.nums : Fm → List Int
  | .der _ _ xs => xs
  | _ => []
noncomputable def fSrc : Tau → M Itm := (argI rng1 (consA (DN.bin ixA (appA lstD (consA (retD (.v (.int 0))) (consA (retD (.v (.int 1))) (consA (retD (.v (.int 1))) (consA (retD (.v (.int 2))) (consA (retD (.v (.int 2))) (consA (retD (.v (.int 3))) (consA (retD (.v (.int 3))) (consA (retD (.v (.int 6))) nilA))))))))) (appA (arN 2 f_q_draw) (consA (varD 0) (consA (retD (.v (.int 8))) nilA)))) nilA))
noncomputable def fBody : SX := (killS [7] (exprS (mthD tyL appendD (varD 6) (consA (appA (arN 2 f_q_draw) (consA (varD 0) (consA (varD 2) nilA))) nilA))))
theorem formula_ok {L L1 : List MO} {n m : Nat} {ns : List Str} (hn : n < L.length) (h : Pooled n L L1) (hns : ns.length = 8) (hlow : ∀ x ∈ ns, LowS 40 x) (hm : m ≤ 20) :
    ∃ (f : Fm) (Lb : List MO), f.ok ∧ (∀ x ∈ f.nums, 0 ≤ x ∧ x < m) ∧ Pooled n L Lb ∧ f_q_formula [.r n, .v (.lst (ns.map P.str)), .v (.int m)] L1 = some (.ok (.v f.p), Lb) := by
  obtain ⟨s, La, s0, s1, pa, ea⟩ := draw_q hn h (m := 5) (by decide) (by decide)
  obtain ⟨b, Lb, b0, b1, pb, eb⟩ := draw_q hn pa (m := 4) (by decide) (by decide)
  obtain ⟨c, Lc, c0, c1, pc, ec⟩ := draw_q hn pb (m := 3) (by decide) (by decide)
  have hst : ∃ st : Int, 0 ≤ st ∧ st < 100 ∧ ixA (.v (.lst [P.int 1, .int 2, .int 3, .int 98])) (.v (.int b)) Lb = some (.ok (.v (.int st)), Lb) := by
    obtain ⟨p, h1, h2⟩ := ix_lst (xs := [P.int 1, .int 2, .int 3, .int 98]) b0 (by simpa using b1) Lb
    have : b.toNat = 0 ∨ b.toNat = 1 ∨ b.toNat = 2 ∨ b.toNat = 3 := by omega
    rcases this with z | z | z | z <;> (rw [z] at h1; cases h1; exact ⟨_, by decide, by decide, h2⟩)
  obtain ⟨st, t0, t1, est⟩ := hst
  have hnm : ∃ nm : Str, LowS 40 nm ∧ ixA (.v (.lst (ns.map P.str))) (.v (.int c)) Lc = some (.ok (.v (.str nm)), Lc) := by
    obtain ⟨p, h1, h2⟩ := ix_lst (xs := ns.map P.str) c0 (by rw [List.length_map, hns]; omega) Lc
    rw [List.getElem?_map] at h1
    cases e : ns[c.toNat]? with
    | none => rw [e] at h1; cases h1
    | some nm =>
      rw [e] at h1
      cases h1
      exact ⟨nm, hlow nm (List.mem_of_getElem? e), h2⟩
  obtain ⟨nm, hnm, enm⟩ := hnm
  have older : ∀ {Lz : List MO}, Pooled n L Lz → Older L1 Lz := fun {Lz} p => by
    obtain ⟨ys, _, rfl⟩ := h
    obtain ⟨zs, _, rfl⟩ := p
    have : L.set n (.lst zs) = (L.set n (.lst ys)).set n (.lst zs) := by rw [List.set_set]
    rw [this]
    exact older_set
  have k101 : mulOkB st 101 = true := by unfold mulOkB; simp
  have head : ∀ (rest : SX) (r : Option (Out × List MO)), rest [some (.r n), none, some (.v (.int m)), some (.v (.int s)), some (.v (.int st)), some (.v (.str nm)), none, none] Lc = r → 
      (seqS (setS 3 (appA (arN 2 f_q_draw) (consA (varD 0) (consA (retD (.v (.int 5))) nilA)))) (seqS (setS 4 (DN.bin ixA (appA lstD (consA (retD (.v (.int 1))) (consA (retD (.v (.int 2))) (consA (retD (.v (.int 3))) (consA (retD (.v (.int 98))) nilA))))) (appA (arN 2 f_q_draw) (consA (varD 0) (consA (retD (.v (.int 4))) nilA))))) (seqS (setS 5 (DN.bin ixA (varD 1) (appA (arN 2 f_q_draw) (consA (varD 0) (consA (retD (.v (.int 3))) nilA))))) (killS [1] rest))))
      [some (.r n), some (.v (.lst (ns.map P.str))), some (.v (.int m)), none, none, none, none, none] L1 = r := fun rest r hr => by
    rw [seq_nx (τ1 := [some (.r n), some (.v (.lst (ns.map P.str))), some (.v (.int m)), some (.v (.int s)), none, none, none, none]) (L1 := La) (by simp only [tup_0, tup_1, tup_2, tup_3, tup_4, tup_5, tup_6, lst_0, lst_1, lst_2, lst_3, lst_4, lst_5, lst_6, lst_7, lst_8, lst_9, lst_10, lst_11, lst_12, new_0, new_1, new_2, new_3, new_4, new_5, new_6, bind, M.bnd, pure, M.ret, M.stuck, varD, retD, DN.bin, un, appA, consA, nilA, arN_1, arN_2, arN_3, arN_4, arN_5, arN_6, arN_7, asP, setS, eThen, seqS, ifS, nxS, killS, killT, retS, exprS, unitS, setIS, setA, tstD, asB, andB, orB, notB, andV, orV, notV, valB, intOp, addD, subD, modD, powD, fdivD, negD, ordI, ltD, chn, asM, asL, asS, oneD, intD, mthD, tyL, mutL, appendD, List.getElem?_cons_succ, List.getElem?_cons_zero, List.set_cons_succ, List.set_cons_zero, if_true, if_false, decide_true, decide_false, Bool.false_eq_true, reduceIte, ea])]
    rw [seq_nx (τ1 := [some (.r n), some (.v (.lst (ns.map P.str))), some (.v (.int m)), some (.v (.int s)), some (.v (.int st)), none, none, none]) (L1 := Lb) (by simp only [tup_0, tup_1, tup_2, tup_3, tup_4, tup_5, tup_6, lst_0, lst_1, lst_2, lst_3, lst_4, lst_5, lst_6, lst_7, lst_8, lst_9, lst_10, lst_11, lst_12, new_0, new_1, new_2, new_3, new_4, new_5, new_6, bind, M.bnd, pure, M.ret, M.stuck, varD, retD, DN.bin, un, appA, consA, nilA, arN_1, arN_2, arN_3, arN_4, arN_5, arN_6, arN_7, asP, setS, eThen, seqS, ifS, nxS, killS, killT, retS, exprS, unitS, setIS, setA, tstD, asB, andB, orB, notB, andV, orV, notV, valB, intOp, addD, subD, modD, powD, fdivD, negD, ordI, ltD, chn, asM, asL, asS, oneD, intD, mthD, tyL, mutL, appendD, List.getElem?_cons_succ, List.getElem?_cons_zero, List.set_cons_succ, List.set_cons_zero, if_true, if_false, decide_true, decide_false, Bool.false_eq_true, reduceIte, eb, est])]
    rw [seq_nx (τ1 := [some (.r n), some (.v (.lst (ns.map P.str))), some (.v (.int m)), some (.v (.int s)), some (.v (.int st)), some (.v (.str nm)), none, none]) (L1 := Lc) (by simp only [tup_0, tup_1, tup_2, tup_3, tup_4, tup_5, tup_6, lst_0, lst_1, lst_2, lst_3, lst_4, lst_5, lst_6, lst_7, lst_8, lst_9, lst_10, lst_11, lst_12, new_0, new_1, new_2, new_3, new_4, new_5, new_6, bind, M.bnd, pure, M.ret, M.stuck, varD, retD, DN.bin, un, appA, consA, nilA, arN_1, arN_2, arN_3, arN_4, arN_5, arN_6, arN_7, asP, setS, eThen, seqS, ifS, nxS, killS, killT, retS, exprS, unitS, setIS, setA, tstD, asB, andB, orB, notB, andV, orV, notV, valB, intOp, addD, subD, modD, powD, fdivD, negD, ordI, ltD, chn, asM, asL, asS, oneD, intD, mthD, tyL, mutL, appendD, List.getElem?_cons_succ, List.getElem?_cons_zero, List.set_cons_succ, List.set_cons_zero, if_true, if_false, decide_true, decide_false, Bool.false_eq_true, reduceIte, ec, enm])]
    exact hr
  by_cases z0 : s = 0
  · refine ⟨.start nm (st * 101), Lc, ⟨hnm, by omega, by omega⟩, (fun x hx => by cases hx), pc, ?_⟩
    refine scope_s ?_ (older pc) (by rw [pc.len, h.len])
    refine body_rt ?_
    unfold d_q_formula
    refine head _ _ ?_
    simp only [tup_0, tup_1, tup_2, tup_3, tup_4, tup_5, tup_6, lst_0, lst_1, lst_2, lst_3, lst_4, lst_5, lst_6, lst_7, lst_8, lst_9, lst_10, lst_11, lst_12, new_0, new_1, new_2, new_3, new_4, new_5, new_6, bind, M.bnd, pure, M.ret, M.stuck, varD, retD, DN.bin, un, appA, consA, nilA, arN_1, arN_2, arN_3, arN_4, arN_5, arN_6, arN_7, asP, setS, eThen, seqS, ifS, nxS, killS, killT, retS, exprS, unitS, setIS, setA, tstD, asB, andB, orB, notB, andV, orV, notV, valB, intOp, addD, subD, modD, powD, fdivD, negD, ordI, ltD, chn, asM, asL, asS, oneD, intD, mthD, tyL, mutL, appendD, List.getElem?_cons_succ, List.getElem?_cons_zero, List.set_cons_succ, List.set_cons_zero, if_true, if_false, decide_true, decide_false, Bool.false_eq_true, reduceIte, eq_int, decide_eq_true z0, mul_ok k101, Fm.p]
  by_cases z1 : s = 1
  · refine ⟨.fresh st nm, Lc, ⟨hnm, by omega, by omega⟩, (fun x hx => by cases hx), pc, ?_⟩
    refine scope_s ?_ (older pc) (by rw [pc.len, h.len])
    refine body_rt ?_
    unfold d_q_formula
    refine head _ _ ?_
    simp only [tup_0, tup_1, tup_2, tup_3, tup_4, tup_5, tup_6, lst_0, lst_1, lst_2, lst_3, lst_4, lst_5, lst_6, lst_7, lst_8, lst_9, lst_10, lst_11, lst_12, new_0, new_1, new_2, new_3, new_4, new_5, new_6, bind, M.bnd, pure, M.ret, M.stuck, varD, retD, DN.bin, un, appA, consA, nilA, arN_1, arN_2, arN_3, arN_4, arN_5, arN_6, arN_7, asP, setS, eThen, seqS, ifS, nxS, killS, killT, retS, exprS, unitS, setIS, setA, tstD, asB, andB, orB, notB, andV, orV, notV, valB, intOp, addD, subD, modD, powD, fdivD, negD, ordI, ltD, chn, asM, asL, asS, oneD, intD, mthD, tyL, mutL, appendD, List.getElem?_cons_succ, List.getElem?_cons_zero, List.set_cons_succ, List.set_cons_zero, if_true, if_false, decide_true, decide_false, Bool.false_eq_true, reduceIte, eq_int, decide_eq_false z0, decide_eq_true z1, Fm.p]
  have hX : ∀ (Lz : List MO) (acc : List P), (Lz ++ [MO.lst acc])[Lz.length]? = some (.lst acc) := fun Lz acc => by rw [List.getElem?_append_right (Nat.le_refl _), Nat.sub_self]; rfl
  have hY : ∀ (Lz : List MO) (acc : List P) (q : P), (Lz ++ [MO.lst acc]).set Lz.length (.lst (acc ++ [q])) = Lz ++ [.lst (acc ++ [q])] := fun Lz acc q => by rw [List.set_append_right _ _ (Nat.le_refl _), Nat.sub_self]; rfl
  let τ0 : Tau := [some (.r n), none, some (.v (.int m)), none, some (.v (.int st)), some (.v (.str nm)), some (.r Lc.length), none]
  have loop : ∃ (xs : List Int) (Ld : List MO) (z : Option D), xs.length ≤ 6 ∧ (∀ x ∈ xs, 0 ≤ x ∧ x < m) ∧ Pooled n L Ld ∧ Ld.length = Lc.length ∧ 
      (ifS (tstD (DN.bin (ordI fun i j => decide (j < i)) (varD 2) (retD (.v (.int 0))))) (forS fSrc (tgN 7) fBody) nxS) τ0 (Lc ++ [.lst []]) = some (.nx (τ0.set 7 z), Ld ++ [.lst (xs.map P.int)]) := by
    by_cases m0 : (0 : Int) < m
    · obtain ⟨c8, Le, c80, c81, pe, ee⟩ := draw_p hn pc [.lst []] (m := 8) (by decide) (by decide)
      have h8 : ∃ k : Nat, k ≤ 6 ∧ ixA (.v (.lst [P.int 0, .int 1, .int 1, .int 2, .int 2, .int 3, .int 3, .int 6])) (.v (.int c8)) (Le ++ [.lst []]) = some (.ok (.v (.int k)), Le ++ [.lst []]) := by
        obtain ⟨p, h1, h2⟩ := ix_lst (xs := [P.int 0, .int 1, .int 1, .int 2, .int 2, .int 3, .int 3, .int 6]) c80 (by simpa using c81) (Le ++ [.lst []])
        have : c8.toNat = 0 ∨ c8.toNat = 1 ∨ c8.toNat = 2 ∨ c8.toNat = 3 ∨ c8.toNat = 4 ∨ c8.toNat = 5 ∨ c8.toNat = 6 ∨ c8.toNat = 7 := by omega
        rcases this with z | z | z | z | z | z | z | z <;> rw [z] at h1 <;> cases h1
        · exact ⟨0, by decide, h2⟩
        · exact ⟨1, by decide, h2⟩
        · exact ⟨1, by decide, h2⟩
        · exact ⟨2, by decide, h2⟩
        · exact ⟨2, by decide, h2⟩
        · exact ⟨3, by decide, h2⟩
        · exact ⟨3, by decide, h2⟩
        · exact ⟨6, by decide, h2⟩
      obtain ⟨k, k6, ek⟩ := h8
      have ll : Le.length = Lc.length := by rw [pe.len, pc.len]
      have lp := for_all (ok := fun _ => True) (tg := tgN 7) (J := fun i τ L' => ∃ (xs : List Int) (Ld : List MO), xs.length = i ∧ i ≤ k ∧ (∀ x ∈ xs, 0 ≤ x ∧ x < (m : Int)) ∧ τ = τ0 ∧ Pooled n L Ld ∧ Ld.length = Lc.length ∧ L' = Ld ++ [.lst (xs.map P.int)])
        (body := fBody) (xs := (List.range k).map fun i : Nat => P.int (0 + i)) (τ := τ0) (L := Le ++ [.lst []]) ⟨[], Le, rfl, Nat.zero_le _, (fun x hx => by cases hx), rfl, pe, ll, rfl⟩ (fun _ _ _ _ => trivial) (by
          rintro i p τ L' hi ⟨xs, Ld, hx, hik, hxs, rfl, pd, ld, rfl⟩
          obtain ⟨hi1, rfl⟩ := range_at hi
          obtain ⟨r, Lf, r0, r1, pf, ef⟩ := draw_p hn pd [.lst (xs.map P.int)] (m := m) m0 (by omega)
          have lf : Lf.length = Lc.length := by rw [pf.len, pc.len]
          refine ⟨_, rfl, τ0, Lf ++ [.lst ((xs ++ [r]).map P.int)], .inl ?_, xs ++ [r], Lf, by simp [hx], by omega, (fun x hx => ?_), rfl, pf, lf, rfl⟩
          · have hz : (xs.map P.int).length < sizeLine := by rw [List.length_map]; have := le_line 9 (by decide); omega
            have hg := hX Ld (xs.map P.int)
            have hg1 := hX Lf (xs.map P.int)
            have hs := hY Lf (xs.map P.int) (.int r)
            rw [ld] at hg
            rw [lf] at hg1 hs
            simp only [fBody, tup_0, tup_1, tup_2, tup_3, tup_4, tup_5, tup_6, lst_0, lst_1, lst_2, lst_3, lst_4, lst_5, lst_6, lst_7, lst_8, lst_9, lst_10, lst_11, lst_12, new_0, new_1, new_2, new_3, new_4, new_5, new_6, bind, M.bnd, pure, M.ret, M.stuck, varD, retD, DN.bin, un, appA, consA, nilA, arN_1, arN_2, arN_3, arN_4, arN_5, arN_6, arN_7, asP, setS, eThen, seqS, ifS, nxS, killS, killT, retS, exprS, unitS, setIS, setA, tstD, asB, andB, orB, notB, andV, orV, notV, valB, intOp, addD, subD, modD, powD, fdivD, negD, ordI, ltD, chn, asM, asL, asS, oneD, intD, mthD, tyL, mutL, appendD, List.getElem?_cons_succ, List.getElem?_cons_zero, List.set_cons_succ, List.set_cons_zero, if_true, if_false, decide_true, decide_false, Bool.false_eq_true, reduceIte, τ0, hg, hg1, hs, ef, Option.isSome_some, if_pos hz, List.map_append, List.map_cons, List.map_nil]
          · rcases List.mem_append.mp hx with q | q
            · exact hxs x q
            · rw [List.mem_singleton.mp q]; exact ⟨r0, r1⟩)
      obtain ⟨τ', L', eloop, xs, Ld, hx, _, hxs, rfl, pd, ld, rfl⟩ := lp
      refine ⟨xs, Ld, none, by rw [hx, List.length_map, List.length_range]; exact k6, hxs, pd, ld, ?_⟩
      have hsrc : fSrc τ0 (Lc ++ [.lst []]) = some (.ok ((List.range k).map fun i : Nat => P.int (0 + i), fun _ => True), Le ++ [.lst []]) := by
        have hk1 : -(2 ^ 62) ≤ (k : Int) ∧ (k : Int) < 2 ^ 62 := by omega
        simp only [fSrc, argI, tup_0, tup_1, tup_2, tup_3, tup_4, tup_5, tup_6, lst_0, lst_1, lst_2, lst_3, lst_4, lst_5, lst_6, lst_7, lst_8, lst_9, lst_10, lst_11, lst_12, new_0, new_1, new_2, new_3, new_4, new_5, new_6, bind, M.bnd, pure, M.ret, M.stuck, varD, retD, DN.bin, un, appA, consA, nilA, arN_1, arN_2, arN_3, arN_4, arN_5, arN_6, arN_7, asP, setS, eThen, seqS, ifS, nxS, killS, killT, retS, exprS, unitS, setIS, setA, tstD, asB, andB, orB, notB, andV, orV, notV, valB, intOp, addD, subD, modD, powD, fdivD, negD, ordI, ltD, chn, asM, asL, asS, oneD, intD, mthD, tyL, mutL, appendD, List.getElem?_cons_succ, List.getElem?_cons_zero, List.set_cons_succ, List.set_cons_zero, if_true, if_false, decide_true, decide_false, Bool.false_eq_true, reduceIte, τ0, ee, ek, rng1, if_pos hk1, Int.toNat_natCast]
      have : (forS fSrc (tgN 7) fBody) τ0 (Lc ++ [.lst []]) = _ := forS_of hsrc
      refine Eq.trans ?_ (this.trans eloop)
      simp only [ifS, eThen, tstD, tup_0, tup_1, tup_2, tup_3, tup_4, tup_5, tup_6, lst_0, lst_1, lst_2, lst_3, lst_4, lst_5, lst_6, lst_7, lst_8, lst_9, lst_10, lst_11, lst_12, new_0, new_1, new_2, new_3, new_4, new_5, new_6, bind, M.bnd, pure, M.ret, M.stuck, varD, retD, DN.bin, un, appA, consA, nilA, arN_1, arN_2, arN_3, arN_4, arN_5, arN_6, arN_7, asP, setS, eThen, seqS, ifS, nxS, killS, killT, retS, exprS, unitS, setIS, setA, tstD, asB, andB, orB, notB, andV, orV, notV, valB, intOp, addD, subD, modD, powD, fdivD, negD, ordI, ltD, chn, asM, asL, asS, oneD, intD, mthD, tyL, mutL, appendD, List.getElem?_cons_succ, List.getElem?_cons_zero, List.set_cons_succ, List.set_cons_zero, if_true, if_false, decide_true, decide_false, Bool.false_eq_true, reduceIte, τ0, asB, decide_eq_true m0]
    · refine ⟨[], Lc, none, by decide, (fun x hx => by cases hx), pc, rfl, ?_⟩
      simp only [tup_0, tup_1, tup_2, tup_3, tup_4, tup_5, tup_6, lst_0, lst_1, lst_2, lst_3, lst_4, lst_5, lst_6, lst_7, lst_8, lst_9, lst_10, lst_11, lst_12, new_0, new_1, new_2, new_3, new_4, new_5, new_6, bind, M.bnd, pure, M.ret, M.stuck, varD, retD, DN.bin, un, appA, consA, nilA, arN_1, arN_2, arN_3, arN_4, arN_5, arN_6, arN_7, asP, setS, eThen, seqS, ifS, nxS, killS, killT, retS, exprS, unitS, setIS, setA, tstD, asB, andB, orB, notB, andV, orV, notV, valB, intOp, addD, subD, modD, powD, fdivD, negD, ordI, ltD, chn, asM, asL, asS, oneD, intD, mthD, tyL, mutL, appendD, List.getElem?_cons_succ, List.getElem?_cons_zero, List.set_cons_succ, List.set_cons_zero, if_true, if_false, decide_true, decide_false, Bool.false_eq_true, reduceIte, τ0, decide_eq_false m0, List.map_nil]
  obtain ⟨xs, Ld, z, x6, hxs, pd, ld, eloop⟩ := loop
  refine ⟨.der st nm xs, Ld, ⟨hnm, by omega, by omega, by omega, fun x hx => by have := hxs x hx; omega⟩, hxs, pd, ?_⟩
  refine scope_x (X := [.lst (xs.map P.int)]) (body_rt ?_) (older pd) (by rw [pd.len, h.len])
  unfold d_q_formula
  refine head _ _ ?_
  rw [seq_nx (τ1 := [some (.r n), none, some (.v (.int m)), some (.v (.int s)), some (.v (.int st)), some (.v (.str nm)), none, none]) (L1 := Lc) (by simp only [tup_0, tup_1, tup_2, tup_3, tup_4, tup_5, tup_6, lst_0, lst_1, lst_2, lst_3, lst_4, lst_5, lst_6, lst_7, lst_8, lst_9, lst_10, lst_11, lst_12, new_0, new_1, new_2, new_3, new_4, new_5, new_6, bind, M.bnd, pure, M.ret, M.stuck, varD, retD, DN.bin, un, appA, consA, nilA, arN_1, arN_2, arN_3, arN_4, arN_5, arN_6, arN_7, asP, setS, eThen, seqS, ifS, nxS, killS, killT, retS, exprS, unitS, setIS, setA, tstD, asB, andB, orB, notB, andV, orV, notV, valB, intOp, addD, subD, modD, powD, fdivD, negD, ordI, ltD, chn, asM, asL, asS, oneD, intD, mthD, tyL, mutL, appendD, List.getElem?_cons_succ, List.getElem?_cons_zero, List.set_cons_succ, List.set_cons_zero, if_true, if_false, decide_true, decide_false, Bool.false_eq_true, reduceIte, eq_int, decide_eq_false z0])]
  rw [seq_nx (τ1 := [some (.r n), none, some (.v (.int m)), some (.v (.int s)), some (.v (.int st)), some (.v (.str nm)), none, none]) (L1 := Lc) (by simp only [tup_0, tup_1, tup_2, tup_3, tup_4, tup_5, tup_6, lst_0, lst_1, lst_2, lst_3, lst_4, lst_5, lst_6, lst_7, lst_8, lst_9, lst_10, lst_11, lst_12, new_0, new_1, new_2, new_3, new_4, new_5, new_6, bind, M.bnd, pure, M.ret, M.stuck, varD, retD, DN.bin, un, appA, consA, nilA, arN_1, arN_2, arN_3, arN_4, arN_5, arN_6, arN_7, asP, setS, eThen, seqS, ifS, nxS, killS, killT, retS, exprS, unitS, setIS, setA, tstD, asB, andB, orB, notB, andV, orV, notV, valB, intOp, addD, subD, modD, powD, fdivD, negD, ordI, ltD, chn, asM, asL, asS, oneD, intD, mthD, tyL, mutL, appendD, List.getElem?_cons_succ, List.getElem?_cons_zero, List.set_cons_succ, List.set_cons_zero, if_true, if_false, decide_true, decide_false, Bool.false_eq_true, reduceIte, eq_int, decide_eq_false z1])]
  refine (seq_nx (τ1 := τ0) (L1 := Lc ++ [.lst []]) (by simp only [tup_0, tup_1, tup_2, tup_3, tup_4, tup_5, tup_6, lst_0, lst_1, lst_2, lst_3, lst_4, lst_5, lst_6, lst_7, lst_8, lst_9, lst_10, lst_11, lst_12, new_0, new_1, new_2, new_3, new_4, new_5, new_6, bind, M.bnd, pure, M.ret, M.stuck, varD, retD, DN.bin, un, appA, consA, nilA, arN_1, arN_2, arN_3, arN_4, arN_5, arN_6, arN_7, asP, setS, eThen, seqS, ifS, nxS, killS, killT, retS, exprS, unitS, setIS, setA, tstD, asB, andB, orB, notB, andV, orV, notV, valB, intOp, addD, subD, modD, powD, fdivD, negD, ordI, ltD, chn, asM, asL, asS, oneD, intD, mthD, tyL, mutL, appendD, List.getElem?_cons_succ, List.getElem?_cons_zero, List.set_cons_succ, List.set_cons_zero, if_true, if_false, decide_true, decide_false, Bool.false_eq_true, reduceIte, τ0])).trans ?_
  refine (seq_nx eloop).trans ?_
  have hg := hX Ld (xs.map P.int)
  rw [ld] at hg
  simp only [tup_0, tup_1, tup_2, tup_3, tup_4, tup_5, tup_6, lst_0, lst_1, lst_2, lst_3, lst_4, lst_5, lst_6, lst_7, lst_8, lst_9, lst_10, lst_11, lst_12, new_0, new_1, new_2, new_3, new_4, new_5, new_6, bind, M.bnd, pure, M.ret, M.stuck, varD, retD, DN.bin, un, appA, consA, nilA, arN_1, arN_2, arN_3, arN_4, arN_5, arN_6, arN_7, asP, setS, eThen, seqS, ifS, nxS, killS, killT, retS, exprS, unitS, setIS, setA, tstD, asB, andB, orB, notB, andV, orV, notV, valB, intOp, addD, subD, modD, powD, fdivD, negD, ordI, ltD, chn, asM, asL, asS, oneD, intD, mthD, tyL, mutL, appendD, List.getElem?_cons_succ, List.getElem?_cons_zero, List.set_cons_succ, List.set_cons_zero, if_true, if_false, decide_true, decide_false, Bool.false_eq_true, reduceIte, τ0, tupleD, asS, hg, Fm.p, Option.map_some]
/-! equality of data without truth values -/
mutual
def nb : P → Bool
  | .non => true
  | .int _ => true
  | .str x => PyData.strOk x
  | .tup xs => nbs xs
  | .lst xs => nbs xs
  | _ => false
def nbs : List P → Bool
  | [] => true
  | x :: xs => nb x && nbs xs
end
mutual
def pd : P → PyData
  | .int i => .int i
  | .str x => .str x
  | .bl b => .bool b
  | .tup xs => .tuple (pds xs)
  | .lst xs => .list (pds xs)
  | _ => .none
def pds : List P → List PyData
  | [] => []
  | x :: xs => pd x :: pds xs
end
mutual
theorem toD_nb : ∀ {p : P}, nb p = true → toD p = some (pd p)
  | .non, _ => by simp [toD, pd]
  | .int _, _ => by simp [toD, pd]
  | .str _, _ => by simp [toD, pd]
  | .tup xs, h => by
    rw [nb] at h
    simp [toD, pd, toDs_nb h]
  | .lst xs, h => by
    rw [nb] at h
    simp [toD, pd, toDs_nb h]
  | .bl _, h => by simp [nb] at h
  | .ins _ _, h => by simp [nb] at h
  | .dk _, h => by simp [nb] at h
  | .dn _, h => by simp [nb] at h
  | .set _, h => by simp [nb] at h
  | .exn _ _, h => by simp [nb] at h
  | .scr _, h => by simp [nb] at h
theorem toDs_nb : ∀ {xs : List P}, nbs xs = true → toDs xs = some (pds xs)
  | [], _ => by simp [toDs, pds]
  | x :: xs, h => by
    rw [nbs, Bool.and_eq_true] at h
    simp [toDs, pds, toD_nb h.1, toDs_nb h.2]
end
mutual
theorem eqv_nb : ∀ (p q : P), nb p = true → nb q = true → (PyData.eqv (pd p) (pd q) = true ↔ p = q)
  | .non, .non, _, _ => by simp [pd, PyData.eqv]
  | .non, .int _, _, _ => by simp [pd, PyData.eqv]
  | .non, .str _, _, _ => by simp [pd, PyData.eqv]
  | .non, .tup _, _, _ => by simp [pd, PyData.eqv]
  | .non, .lst _, _, _ => by simp [pd, PyData.eqv]
  | .int _, .non, _, _ => by simp [pd, PyData.eqv]
  | .int a, .int b, _, _ => by simp [pd, PyData.eqv]
  | .int _, .str _, _, _ => by simp [pd, PyData.eqv]
  | .int _, .tup _, _, _ => by simp [pd, PyData.eqv]
  | .int _, .lst _, _, _ => by simp [pd, PyData.eqv]
  | .str _, .non, _, _ => by simp [pd, PyData.eqv]
  | .str _, .int _, _, _ => by simp [pd, PyData.eqv]
  | .str a, .str b, _, _ => by simp [pd, PyData.eqv]
  | .str _, .tup _, _, _ => by simp [pd, PyData.eqv]
  | .str _, .lst _, _, _ => by simp [pd, PyData.eqv]
  | .tup _, .non, _, _ => by simp [pd, PyData.eqv]
  | .tup _, .int _, _, _ => by simp [pd, PyData.eqv]
  | .tup _, .str _, _, _ => by simp [pd, PyData.eqv]
  | .tup xs, .tup ys, h, k => by
    rw [nb] at h k
    simp [pd, PyData.eqv, eqv_nbs xs ys h k]
  | .tup _, .lst _, _, _ => by simp [pd, PyData.eqv]
  | .lst _, .non, _, _ => by simp [pd, PyData.eqv]
  | .lst _, .int _, _, _ => by simp [pd, PyData.eqv]
  | .lst _, .str _, _, _ => by simp [pd, PyData.eqv]
  | .lst _, .tup _, _, _ => by simp [pd, PyData.eqv]
  | .lst xs, .lst ys, h, k => by
    rw [nb] at h k
    simp [pd, PyData.eqv, eqv_nbs xs ys h k]
  | .bl _, _, h, _ => by simp [nb] at h
  | .ins _ _, _, h, _ => by simp [nb] at h
  | .dk _, _, h, _ => by simp [nb] at h
  | .dn _, _, h, _ => by simp [nb] at h
  | .set _, _, h, _ => by simp [nb] at h
  | .exn _ _, _, h, _ => by simp [nb] at h
  | .scr _, _, h, _ => by simp [nb] at h
  | _, .bl _, _, h => by simp [nb] at h
  | _, .ins _ _, _, h => by simp [nb] at h
  | _, .dk _, _, h => by simp [nb] at h
  | _, .dn _, _, h => by simp [nb] at h
  | _, .set _, _, h => by simp [nb] at h
  | _, .exn _ _, _, h => by simp [nb] at h
  | _, .scr _, _, h => by simp [nb] at h
theorem eqv_nbs : ∀ (xs ys : List P), nbs xs = true → nbs ys = true → (PyData.eqvAll (pds xs) (pds ys) = true ↔ xs = ys)
  | [], [], _, _ => by simp [pds, PyData.eqvAll]
  | [], _ :: _, _, _ => by simp [pds, PyData.eqvAll]
  | _ :: _, [], _, _ => by simp [pds, PyData.eqvAll]
  | x :: xs, y :: ys, h, k => by
    rw [nbs, Bool.and_eq_true] at h k
    simp [pds, PyData.eqvAll, eqv_nb x y h.1 k.1, eqv_nbs xs ys h.2 k.2]
end
mutual
theorem nk_inj : ∀ (p q : P) (k : NestedKey), nkOf p = some k → nkOf q = some k → p = q
  | .non, q, k, h, g => by
    simp [nkOf] at h; subst h
    cases q <;> simp [nkOf] at g
    rfl
  | .int i, q, k, h, g => by
    simp [nkOf] at h; subst h
    cases q <;> simp [nkOf] at g
    rw [g]
  | .str x, q, k, h, g => by
    simp [nkOf] at h; subst h
    cases q <;> simp [nkOf] at g
    rw [g]
  | .tup xs, q, k, h, g => by
    simp only [nkOf, Option.map_eq_some_iff] at h
    obtain ⟨ks, h1, rfl⟩ := h
    cases q <;> simp [nkOf] at g
    rw [nks_inj xs _ ks h1 g]
  | .bl _, _, _, h, _ => by simp [nkOf] at h
  | .lst _, _, _, h, _ => by simp [nkOf] at h
  | .ins _ _, _, _, h, _ => by simp [nkOf] at h
  | .dk _, _, _, h, _ => by simp [nkOf] at h
  | .dn _, _, _, h, _ => by simp [nkOf] at h
  | .set _, _, _, h, _ => by simp [nkOf] at h
  | .exn _ _, _, _, h, _ => by simp [nkOf] at h
  | .scr _, _, _, h, _ => by simp [nkOf] at h
theorem nks_inj : ∀ (xs ys : List P) (ks : List NestedKey), nksOf xs = some ks → nksOf ys = some ks → xs = ys
  | [], ys, ks, h, g => by
    simp [nksOf] at h; subst h
    cases ys with
    | nil => rfl
    | cons y ys =>
      simp only [nksOf] at g
      split at g <;> cases g
  | x :: xs, ys, ks, h, g => by
    simp only [nksOf] at h
    split at h
    · rename_i k ks1 e1 e2
      cases h
      cases ys with
      | nil => simp [nksOf] at g
      | cons y ys =>
        simp only [nksOf] at g
        split at g
        · rename_i k2 ks2 e3 e4
          cases g
          rw [nk_inj x y _ e1 e3, nks_inj xs ys _ e2 e4]
        · cases g
    · cases h
end
/-- a value that can be compared -/
def Cmp (p : P) : Prop := nb p = true ∧ (pd p).depth ≤ 60
mutual
theorem lay_nb : ∀ {p : P}, nb p = true → (pd p).canLay0 = true
  | .non, _ => by simp [pd, PyData.canLay0]
  | .int _, _ => by simp [pd, PyData.canLay0]
  | .str _, h => by simp [nb] at h; simp [pd, PyData.canLay0, h]
  | .tup xs, h => by
    rw [nb] at h
    simp [pd, PyData.canLay0, lays_nb h]
  | .lst xs, h => by
    rw [nb] at h
    simp [pd, PyData.canLay0, lays_nb h]
  | .bl _, h => by simp [nb] at h
  | .ins _ _, h => by simp [nb] at h
  | .dk _, h => by simp [nb] at h
  | .dn _, h => by simp [nb] at h
  | .set _, h => by simp [nb] at h
  | .exn _ _, h => by simp [nb] at h
  | .scr _, h => by simp [nb] at h
theorem lays_nb : ∀ {xs : List P}, nbs xs = true → PyData.canLayAll0 (pds xs) = true
  | [], _ => by simp [pds, PyData.canLayAll0]
  | x :: xs, h => by
    rw [nbs, Bool.and_eq_true] at h
    simp [pds, PyData.canLayAll0, lay_nb h.1, lays_nb h.2]
end
theorem Cmp.shaped {p : P} (h : Cmp p) : okD (pd p) = true := by
  unfold okD SeqAt.shaped
  rw [lay_nb h.1]
  simp
  have := h.2
  omega
theorem eq_cmp {p q : P} (h : Cmp p) (k : Cmp q) (L : List MO) [Decidable (p = q)] : eqD false (.v p) (.v q) L = some (.ok (.v (.bl (decide (p = q)))), L) := by
  have e1 : dOf L (.v p) = some (pd p) := toD_nb h.1
  have e2 : dOf L (.v q) = some (pd q) := toD_nb k.1
  unfold eqD
  rw [e1, e2]
  dsimp only
  rw [h.shaped, k.shaped]
  have := eqv_nb p q h.1 k.1
  by_cases e : p = q
  · rw [this.mpr e]; simp [e]
  · have : PyData.eqv (pd p) (pd q) = false := by
      cases z : PyData.eqv (pd p) (pd q) with
      | false => rfl
      | true => exact absurd (this.mp z) e
    rw [this]
    simp [e]
theorem ne_cmp {p q : P} (h : Cmp p) (k : Cmp q) (L : List MO) [Decidable (p = q)] : eqD true (.v p) (.v q) L = some (.ok (.v (.bl (!decide (p = q)))), L) := by
  have e1 : dOf L (.v p) = some (pd p) := toD_nb h.1
  have e2 : dOf L (.v q) = some (pd q) := toD_nb k.1
  unfold eqD
  rw [e1, e2]
  dsimp only
  rw [h.shaped, k.shaped]
  have := eqv_nb p q h.1 k.1
  by_cases e : p = q
  · rw [this.mpr e]; simp [e]
  · have : PyData.eqv (pd p) (pd q) = false := by
      cases z : PyData.eqv (pd p) (pd q) with
      | false => rfl
      | true => exact absurd (this.mp z) e
    rw [this]
    simp [e]

theorem depth_list {xs : List P} (h : ∀ x ∈ xs, Cmp x) : PyData.depthAll (pds xs) ≤ 60 ∧ nbs xs = true := by
  induction xs with
  | nil => exact ⟨by simp [pds, PyData.depthAll], rfl⟩
  | cons x xs ih =>
    obtain ⟨a, b⟩ := ih fun y hy => h y (List.mem_cons_of_mem _ hy)
    have hx := h x List.mem_cons_self
    refine ⟨?_, by rw [nbs, hx.1, b]; rfl⟩
    have := hx.2
    simp only [pds, PyData.depthAll]
    omega
theorem shaped_list {xs : List P} (h : ∀ x ∈ xs, Cmp x) : okD (.list (pds xs)) = true := by
  obtain ⟨a, b⟩ := depth_list h
  unfold okD SeqAt.shaped
  simp [PyData.canLay0, lays_nb b, PyData.depth]
  omega
theorem any_pds {p : P} (hp : nb p = true) : ∀ {xs : List P}, nbs xs = true → ((((pds xs).any fun z => PyData.eqv z (pd p)) = true) ↔ p ∈ xs)
  | [], _ => by simp [pds]
  | x :: xs, h => by
    rw [nbs, Bool.and_eq_true] at h
    rw [pds, List.any_cons, Bool.or_eq_true, any_pds hp h.2, eqv_nb x p h.1 hp, List.mem_cons]
    exact ⟨fun z => z.imp_left Eq.symm, fun z => z.imp_left Eq.symm⟩
theorem asM_dOf {L : List MO} {y : D} {xs : List P} (h : asM L y = some xs) (k : nbs xs = true) : dOf L y = some (.list (pds xs)) := by
  unfold asM at h
  split at h
  · cases h
    show toD _ = _
    simp [toD, toDs_nb k]
  · rename_i n
    split at h
    · rename_i e
      cases h
      show (match L[n]? with
        | some (.lst xs) => (toDs xs).map PyData.list
        | _ => none) = _
      rw [e]
      simp [toDs_nb k]
    · cases h
  · cases h
theorem inD_list {neg : Bool} {L : List MO} {x y : D} {d : PyData} {bs : List PyData} (h : dOf L x = some d) (k : dOf L y = some (.list bs)) (h1 : okD d = true) (h2 : okD (.list bs) = true) : inD neg x y L = some (.ok (.v (.bl (xor neg (bs.any fun z => PyData.eqv z d)))), L) := by
  unfold inD
  rw [h, k]
  cases d <;> simp [h1, h2]
theorem in_cmp {neg : Bool} {L : List MO} {y : D} {xs : List P} {p : P} (hp : Cmp p) (h : asM L y = some xs) (hx : ∀ x ∈ xs, Cmp x) [Decidable (p ∈ xs)] : inD neg (.v p) y L = some (.ok (.v (.bl (xor neg (decide (p ∈ xs))))), L) := by
  obtain ⟨_, b⟩ := depth_list hx
  have e1 : dOf L (.v p) = some (pd p) := toD_nb hp.1
  have h1 := any_pds hp.1 b
  have : ((pds xs).any fun z => PyData.eqv z (pd p)) = decide (p ∈ xs) := by
    by_cases e : p ∈ xs
    · rw [h1.mpr e]; simp [e]
    · cases z : ((pds xs).any fun z => PyData.eqv z (pd p)) with
      | false => simp [e]
      | true => exact absurd (h1.mp z) e
  rw [inD_list e1 (asM_dOf h b) hp.shaped (shaped_list hx), this]
theorem index_cmp {L : List MO} {y : D} {xs : List P} {p : P} {j : Nat} (hp : Cmp p) (h : asM L y = some xs) (hx : ∀ x ∈ xs, Cmp x) (hj : xs[j]? = some p) (hn : xs.Nodup) : indexD y [.v p] L = some (.ok (.v (.int j)), L) := by
  obtain ⟨_, b⟩ := depth_list hx
  have e1 : dOf L (.v p) = some (pd p) := toD_nb hp.1
  have key : ∀ {xs : List P} {j : Nat}, nbs xs = true → xs[j]? = some p → xs.Nodup → findD (pds xs) (pd p) = some j := by
    intro xs
    induction xs with
    | nil => intro j _ h; cases h
    | cons x xs ih =>
      intro j hb hj hn
      rw [nbs, Bool.and_eq_true] at hb
      rw [List.nodup_cons] at hn
      unfold findD
      rw [pds, List.findIdx?_cons]
      cases j with
      | zero =>
        cases hj
        rw [(eqv_nb p p hp.1 hp.1).mpr rfl]
        rfl
      | succ j =>
        have hj : xs[j]? = some p := hj
        have hne : ¬ x = p := fun z => hn.1 (z ▸ List.mem_of_getElem? hj)
        have : PyData.eqv (pd x) (pd p) = false := by
          cases z : PyData.eqv (pd x) (pd p) with
          | false => rfl
          | true => exact absurd ((eqv_nb x p hb.1 hp.1).mp z) hne
        rw [this]
        have := ih hb.2 hj hn.2
        unfold findD at this
        rw [this]
        rfl
  have hs1 := hp.shaped
  have hs2 := shaped_list hx
  unfold okD at hs1 hs2
  unfold indexD
  dsimp only
  rw [e1, asM_dOf h b]
  simp [hs1, hs2, key b hj hn]
/-! the table of formulas -/
theorem nks_ints : ∀ xs : List Int, nksOf (xs.map P.int) = some (xs.map NestedKey.num)
  | [] => by simp [nksOf]
  | x :: xs => by simp [nksOf, nkOf, nks_ints xs]
theorem dep_ints : ∀ xs : List Int, NestedKey.depthAll (xs.map NestedKey.num) ≤ 1
  | [] => by simp [NestedKey.depthAll]
  | x :: xs => by
    have := dep_ints xs
    simp [NestedKey.depthAll, NestedKey.depth]
    try omega
theorem nbs_ints : ∀ xs : List Int, nbs (xs.map P.int) = true
  | [] => rfl
  | x :: xs => by rw [List.map_cons, nbs, nbs_ints xs]; rfl
theorem pdep_ints : ∀ xs : List Int, PyData.depthAll (pds (xs.map P.int)) = 0
  | [] => rfl
  | x :: xs => by simp [pds, PyData.depthAll, pd, PyData.depth, pdep_ints xs]
def KOk (p : P) : Prop := Cmp p ∧ ∃ k, nkOf p = some k ∧ keyD (.v p) = some k
theorem Fm.kok {f : Fm} (h : f.ok) : KOk f.p := by
  cases f with
  | start n i =>
    have hs := low_ok h.1
    refine ⟨⟨?_, ?_⟩, ⟨.tup [.text "start", .tup [.text n, .num i]], ?_, ?_⟩⟩
    · simp [Fm.p, nb, nbs, hs]; decide +kernel
    · simp [Fm.p, pd, pds, PyData.depth, PyData.depthAll]
    · simp [Fm.p, nkOf, nksOf]
    · simp [Fm.p, keyD, nkOf, nksOf, NestedKey.depth, NestedKey.depthAll]
  | fresh i n =>
    have hs := low_ok h.1
    refine ⟨⟨?_, ?_⟩, ⟨.tup [.text "fresh", .num i, .text n], ?_, ?_⟩⟩
    · simp [Fm.p, nb, nbs, hs]; decide +kernel
    · simp [Fm.p, pd, pds, PyData.depth, PyData.depthAll]
    · simp [Fm.p, nkOf, nksOf]
    · simp [Fm.p, keyD, nkOf, nksOf, NestedKey.depth, NestedKey.depthAll]
  | der i n xs =>
    have hs := low_ok h.1
    refine ⟨⟨?_, ?_⟩, ⟨.tup [.text "derived", .num i, .text n, .tup (xs.map .num)], ?_, ?_⟩⟩
    · simp [Fm.p, nb, nbs, hs, nbs_ints]; decide +kernel
    · simp [Fm.p, pd, pds, PyData.depth, PyData.depthAll, pdep_ints]
    · simp [Fm.p, nkOf, nksOf, nks_ints]
    · have := dep_ints xs
      simp [Fm.p, keyD, nkOf, nksOf, nks_ints, NestedKey.depth, NestedKey.depthAll]
      omega
def rows (i : Nat) : List P → List (P × P)
  | [] => []
  | k :: ks => (k, .int i) :: rows (i + 1) ks
theorem rows_app : ∀ (ks : List P) (i : Nat) (p : P), rows i (ks ++ [p]) = rows i ks ++ [(p, .int ((i + ks.length : Nat) : Int))]
  | [], i, p => by simp [rows]
  | k :: ks, i, p => by
    have := rows_app ks (i + 1) p
    simp only [List.cons_append, rows, this, List.length_cons]
    rw [show i + 1 + ks.length = i + (ks.length + 1) by omega]
theorem rows_len : ∀ (ks : List P) (i : Nat), (rows i ks).length = ks.length
  | [], _ => rfl
  | k :: ks, i => by rw [rows, List.length_cons, rows_len, List.length_cons]
theorem key_row {p q : P} {k k' : NestedKey} {v : P} (h : nkOf p = some k) (h' : nkOf q = some k') [Decidable (q = p)] : isKey k (q, v) = decide (q = p) := by
  unfold isKey
  rw [show nkOf (q, v).1 = some k' from h']
  by_cases e : q = p
  · subst e
    rw [h] at h'
    cases h'
    simp
  · have : ¬ k' = k := fun z => e (nk_inj q p k (z ▸ h') h)
    simp [this, e]
theorem look_in {p : P} {k : NestedKey} (h : nkOf p = some k) : ∀ {ks : List P} {i j : Nat}, (∀ q ∈ ks, KOk q) → ks.Nodup → ks[j]? = some p → lookN (rows i ks) k = some (.int ((i + j : Nat) : Int)) := by
  intro ks
  induction ks with
  | nil => intro i j _ _ e; cases e
  | cons q ks ih =>
    intro i j hk hn e
    obtain ⟨_, k', hq, _⟩ := hk q List.mem_cons_self
    rw [List.nodup_cons] at hn
    classical
    unfold lookN rows
    rw [List.find?_cons, key_row (v := .int i) h hq]
    cases j with
    | zero => cases e; simp
    | succ j =>
      have e : ks[j]? = some p := e
      have hne : ¬ q = p := fun z => hn.1 (z ▸ List.mem_of_getElem? e)
      have := ih (i := i + 1) (fun q hq => hk q (List.mem_cons_of_mem _ hq)) hn.2 e
      unfold lookN at this
      simp only [hne, decide_false]
      rw [this, show i + 1 + j = i + (j + 1) by omega]
theorem look_out {p : P} {k : NestedKey} (h : nkOf p = some k) : ∀ {ks : List P} {i : Nat}, (∀ q ∈ ks, KOk q) → p ∉ ks → lookN (rows i ks) k = none := by
  intro ks
  induction ks with
  | nil => intro i _ _; rfl
  | cons q ks ih =>
    intro i hk e
    obtain ⟨_, k', hq, _⟩ := hk q List.mem_cons_self
    classical
    have hne : ¬ q = p := fun z => e (z ▸ List.mem_cons_self)
    have := ih (i := i + 1) (fun q hq => hk q (List.mem_cons_of_mem _ hq)) fun z => e (List.mem_cons_of_mem _ z)
    unfold lookN at this ⊢
    unfold rows
    rw [List.find?_cons, key_row (v := .int i) h hq]
    simp only [hne, decide_false]
    exact this
structure Con (n : Nat) (L : List MO) (ks : List P) : Prop where
  a : L[n]? = some (.ins 9 [(5, .r (n + 1)), (6, .r (n + 2))])
  b : L[n + 1]? = some (.lst ks)
  c : L[n + 2]? = some (.dn (rows 0 ks))
  k : ∀ q ∈ ks, KOk q
  d : ks.Nodup
  z : ks.length ≤ 99
theorem Con.lt {n : Nat} {L : List MO} {ks : List P} (h : Con n L ks) : n + 2 < L.length := (List.getElem?_eq_some_iff.mp h.c).1
theorem con_len {n : Nat} {L : List MO} {ks : List P} (h : Con n L ks) : f_Contents_zlenz [.r n] L = some (.ok (.v (.int ks.length)), L) := by
  unfold f_Contents_zlenz
  refine scope_s (body_rt ?_) (Older.refl _) rfl
  have h5 : attD 5 (.r n) L = some (.ok (.r (n + 1)), L) := by simp [attD, h.a, flook]
  have hl : lenD [.r (n + 1)] L = some (.ok (.v (.int ks.length)), L) := by simp [lenD, oneD, asS, asL, asM, h.b]
  unfold d_Contents_zlenz
  simp [tup_0, tup_1, tup_2, tup_3, tup_4, tup_5, tup_6, lst_0, lst_1, lst_2, lst_3, lst_4, lst_5, lst_6, lst_7, lst_8, lst_9, lst_10, lst_11, lst_12, new_0, new_1, new_2, new_3, new_4, new_5, new_6, bind, M.bnd, pure, M.ret, M.stuck, varD, retD, DN.bin, un, appA, consA, nilA, arN_1, arN_2, arN_3, arN_4, arN_5, arN_6, arN_7, asP, setS, eThen, seqS, ifS, nxS, killS, killT, retS, exprS, unitS, setIS, setA, tstD, asB, andB, orB, notB, andV, orV, notV, valB, intOp, addD, subD, modD, powD, fdivD, negD, ordI, ltD, chn, asM, asL, asS, oneD, intD, ixA, ixD, dnAt, DN.keyD, atI, ixN, mthD, tyL, mutL, appendD, un, h5, hl]
theorem con_lenO {n : Nat} {L : List MO} {ks : List P} (h : Con n L ks) : lenO tm_zlenz (.r n) L = some (.ok (.v (.int ks.length)), L) := by
  have hz := h.z
  have : (0 : Int) ≤ ks.length ∧ (ks.length : Int) < 2 ^ 63 := by omega
  simp [lenO, clsOf, h.a, tm_zlenz, con_len h, lenRes]
  omega
theorem con_at {n : Nat} {L : List MO} {ks : List P} (h : Con n L ks) {i : Int} (h0 : 0 ≤ i) (h1 : i < ks.length) : ∃ p, ks[i.toNat]? = some p ∧ f_Contents_formula [.r n, .v (.int i)] L = some (.ok (.v p), L) := by
  have hl : i.toNat < ks.length := by omega
  refine ⟨ks[i.toNat], List.getElem?_eq_getElem hl, ?_⟩
  have hn : ixN ks.length i = some i.toNat := by
    unfold ixN
    rw [if_pos h0, if_pos h1]
  unfold f_Contents_formula
  refine scope_s (body_rt ?_) (Older.refl _) rfl
  have h5 : attD 5 (.r n) L = some (.ok (.r (n + 1)), L) := by simp [attD, h.a, flook]
  have hln : lenD [.r (n + 1)] L = some (.ok (.v (.int ks.length)), L) := by simp [lenD, oneD, asS, asL, asM, h.b]
  have hix : ixA (.r (n + 1)) (.v (.int i)) L = some (.ok (.v ks[i.toNat]), L) := by
    simp [ixA, dnAt, h.b, ixD, asM, asL, atI, hn, hl]
  unfold d_Contents_formula
  simp only [tup_0, tup_1, tup_2, tup_3, tup_4, tup_5, tup_6, lst_0, lst_1, lst_2, lst_3, lst_4, lst_5, lst_6, lst_7, lst_8, lst_9, lst_10, lst_11, lst_12, new_0, new_1, new_2, new_3, new_4, new_5, new_6, bind, M.bnd, pure, M.ret, M.stuck, varD, retD, DN.bin, un, appA, consA, nilA, arN_1, arN_2, arN_3, arN_4, arN_5, arN_6, arN_7, asP, setS, eThen, seqS, ifS, nxS, killS, killT, retS, exprS, unitS, setIS, setA, tstD, asB, andB, orB, notB, andV, orV, notV, valB, intOp, addD, subD, modD, powD, fdivD, negD, ordI, ltD, chn, asM, asL, asS, oneD, intD, mthD, tyL, mutL, appendD, List.getElem?_cons_succ, List.getElem?_cons_zero, List.set_cons_succ, List.set_cons_zero, if_true, if_false, decide_true, decide_false, Bool.false_eq_true, reduceIte, chn, un, List.map_cons, List.map_nil, List.length_cons, List.length_nil, List.replicate, List.cons_append, List.nil_append, h5, hln, hix, decide_eq_true h0, decide_eq_true h1, Bool.not_true]
theorem con_no {n : Nat} {L : List MO} {ks : List P} (h : Con n L ks) {i : Int} (h1 : i < 0 ∨ (ks.length : Int) ≤ i) : f_Contents_formula [.r n, .v (.int i)] L = some (.ex 27 [.int i], L) := by
  unfold f_Contents_formula
  have h5 : attD 5 (.r n) L = some (.ok (.r (n + 1)), L) := by simp [attD, h.a, flook]
  have hln : lenD [.r (n + 1)] L = some (.ok (.v (.int ks.length)), L) := by simp [lenD, oneD, asS, asL, asM, h.b]
  refine scope_ex (body_ex (τ := [none, some (.v (.int i))]) ?_) (Older.refl _) rfl
  unfold d_Contents_formula
  by_cases h0 : 0 ≤ i
  · have h2 : ¬ i < ks.length := by omega
    simp only [tup_0, tup_1, tup_2, tup_3, tup_4, tup_5, tup_6, lst_0, lst_1, lst_2, lst_3, lst_4, lst_5, lst_6, lst_7, lst_8, lst_9, lst_10, lst_11, lst_12, new_0, new_1, new_2, new_3, new_4, new_5, new_6, bind, M.bnd, pure, M.ret, M.stuck, varD, retD, DN.bin, un, appA, consA, nilA, arN_1, arN_2, arN_3, arN_4, arN_5, arN_6, arN_7, asP, setS, eThen, seqS, ifS, nxS, killS, killT, retS, exprS, unitS, setIS, setA, tstD, asB, andB, orB, notB, andV, orV, notV, valB, intOp, addD, subD, modD, powD, fdivD, negD, ordI, ltD, chn, asM, asL, asS, oneD, intD, mthD, tyL, mutL, appendD, List.getElem?_cons_succ, List.getElem?_cons_zero, List.set_cons_succ, List.set_cons_zero, if_true, if_false, decide_true, decide_false, Bool.false_eq_true, reduceIte, chn, un, List.map_cons, List.map_nil, List.length_cons, List.length_nil, List.replicate, List.cons_append, List.nil_append, h5, hln, decide_eq_true h0, decide_eq_false h2, Bool.not_false, raiseS, asPs]
    rfl
  · simp only [tup_0, tup_1, tup_2, tup_3, tup_4, tup_5, tup_6, lst_0, lst_1, lst_2, lst_3, lst_4, lst_5, lst_6, lst_7, lst_8, lst_9, lst_10, lst_11, lst_12, new_0, new_1, new_2, new_3, new_4, new_5, new_6, bind, M.bnd, pure, M.ret, M.stuck, varD, retD, DN.bin, un, appA, consA, nilA, arN_1, arN_2, arN_3, arN_4, arN_5, arN_6, arN_7, asP, setS, eThen, seqS, ifS, nxS, killS, killT, retS, exprS, unitS, setIS, setA, tstD, asB, andB, orB, notB, andV, orV, notV, valB, intOp, addD, subD, modD, powD, fdivD, negD, ordI, ltD, chn, asM, asL, asS, oneD, intD, mthD, tyL, mutL, appendD, List.getElem?_cons_succ, List.getElem?_cons_zero, List.set_cons_succ, List.set_cons_zero, if_true, if_false, decide_true, decide_false, Bool.false_eq_true, reduceIte, chn, un, List.map_cons, List.map_nil, List.length_cons, List.length_nil, List.replicate, List.cons_append, List.nil_append, h5, hln, decide_eq_false h0, Bool.not_false, raiseS, asPs]
    rfl
theorem older_con {n : Nat} {L : List MO} {ks : List P} (h : Con n L ks) (xs : List P) (es : List (P × P)) : Older L ((L.set (n + 2) (.dn es)).set (n + 1) (.lst xs)) := by
  have hlt := h.lt
  refine ⟨by simp, fun i m hi e => ?_⟩
  by_cases h1 : n + 1 = i
  · subst h1
    rw [List.getElem?_set_self (by simpa using hi)] at e
    cases e
    exact .inr trivial
  · rw [List.getElem?_set_ne h1] at e
    by_cases h2 : n + 2 = i
    · subst h2
      rw [List.getElem?_set_self hi] at e
      cases e
      exact .inr trivial
    · rw [List.getElem?_set_ne h2] at e
      exact .inl e
def grow (n : Nat) (L : List MO) (ks : List P) : List MO := (L.set (n + 2) (.dn (rows 0 ks))).set (n + 1) (.lst ks)
theorem grow_con {n : Nat} {L : List MO} {ks : List P} {p : P} (h : Con n L ks) (hp : KOk p) (hn : p ∉ ks) (hz : ks.length < 99) : Con n (grow n L (ks ++ [p])) (ks ++ [p]) := by
  have hlt := h.lt
  unfold grow
  refine ⟨?_, ?_, ?_, fun q hq => ?_, ?_, by simp; omega⟩
  · rw [List.getElem?_set_ne (by omega), List.getElem?_set_ne (by omega)]; exact h.a
  · rw [List.getElem?_set_self (by simp; omega)]
  · rw [List.getElem?_set_ne (by omega), List.getElem?_set_self (by omega)]
  · rcases List.mem_append.mp hq with z | z
    · exact h.k q z
    · rw [List.mem_singleton.mp z]; exact hp
  · rw [List.nodup_append]
    exact ⟨h.d, by simp, fun a ha b hb z => hn (by rw [List.mem_singleton.mp hb] at z; exact z ▸ ha)⟩
noncomputable def nTail : SX := (seqS (ifS (tstD (DN.bin (inA true) (varD 1) (un (attD 6) (varD 0)))) (seqS (setIS (un (attD 6) (varD 0)) (varD 1) (appA lenD (consA (un (attD 5) (varD 0)) nilA))) (exprS (mthD tyL appendD (un (attD 5) (varD 0)) (consA (varD 1) nilA)))) nxS) (retS (DN.bin ixA (un (attD 6) (varD 0)) (varD 1))))
theorem tail_in {n : Nat} {L : List MO} {ks : List P} {p : P} {j : Nat} (h : Con n L ks) (hp : KOk p) (hj : ks[j]? = some p) : nTail [some (.r n), some (.v p), none] L = some (.rt (.v (.int j)), L) := by
  obtain ⟨hc, k, hk, hkd⟩ := hp
  have hl : lookN (rows 0 ks) k = some (.int j) := by have := look_in (i := 0) hk h.k h.d hj; rwa [Nat.zero_add] at this
  have h6 : attD 6 (.r n) L = some (.ok (.r (n + 2)), L) := by simp [attD, h.a, flook]
  have hi : inA true (.v p) (.r (n + 2)) L = some (.ok (.v (.bl false)), L) := by simp [inA, dnAt, h.c, hkd, hl]
  have hx : ixA (.r (n + 2)) (.v p) L = some (.ok (.v (.int j)), L) := by simp [ixA, dnAt, h.c, hkd, hl]
  unfold nTail
  simp only [tup_0, tup_1, tup_2, tup_3, tup_4, tup_5, tup_6, lst_0, lst_1, lst_2, lst_3, lst_4, lst_5, lst_6, lst_7, lst_8, lst_9, lst_10, lst_11, lst_12, new_0, new_1, new_2, new_3, new_4, new_5, new_6, bind, M.bnd, pure, M.ret, M.stuck, varD, retD, DN.bin, un, appA, consA, nilA, arN_1, arN_2, arN_3, arN_4, arN_5, arN_6, arN_7, asP, setS, eThen, seqS, ifS, nxS, killS, killT, retS, exprS, unitS, setIS, setA, tstD, asB, andB, orB, notB, andV, orV, notV, valB, intOp, addD, subD, modD, powD, fdivD, negD, ordI, ltD, chn, asM, asL, asS, oneD, intD, mthD, tyL, mutL, appendD, List.getElem?_cons_succ, List.getElem?_cons_zero, List.set_cons_succ, List.set_cons_zero, if_true, if_false, decide_true, decide_false, Bool.false_eq_true, reduceIte, un, h6, hi, hx]
theorem tail_new {n : Nat} {L : List MO} {ks : List P} {p : P} (h : Con n L ks) (hp : KOk p) (hn : p ∉ ks) (hz : ks.length < 99) : nTail [some (.r n), some (.v p), none] L = some (.rt (.v (.int ks.length)), grow n L (ks ++ [p])) := by
  have hp' := hp
  have hg := grow_con h hp hn hz
  obtain ⟨hc, k, hk, hkd⟩ := hp
  have hl : lookN (rows 0 ks) k = none := look_out hk h.k hn
  have h6 : attD 6 (.r n) L = some (.ok (.r (n + 2)), L) := by simp [attD, h.a, flook]
  have h5 : attD 5 (.r n) L = some (.ok (.r (n + 1)), L) := by simp [attD, h.a, flook]
  have hi : inA true (.v p) (.r (n + 2)) L = some (.ok (.v (.bl true)), L) := by simp [inA, dnAt, h.c, hkd, hl]
  have hln : lenD [.r (n + 1)] L = some (.ok (.v (.int ks.length)), L) := by simp [lenD, oneD, asS, asL, asM, h.b]
  have hz1 : (rows 0 ks).length < sizeLine := by rw [rows_len]; have := le_line 101 (by decide); omega
  have hz2 : ks.length < sizeLine := by have := le_line 101 (by decide); omega
  have hs : setA (.r (n + 2)) (.v p) (.v (.int ks.length)) L = some (.ok (), L.set (n + 2) (.dn (rows 0 (ks ++ [p])))) := by
    have : storeN (rows 0 ks) k p (.int ks.length) = rows 0 (ks ++ [p]) := by
      unfold storeN
      rw [hl, rows_app, Nat.zero_add]
    simp [setA, h.c, hkd, hz1, this]
  have hlt := h.lt
  have h5' : attD 5 (.r n) (L.set (n + 2) (.dn (rows 0 (ks ++ [p])))) = some (.ok (.r (n + 1)), L.set (n + 2) (.dn (rows 0 (ks ++ [p])))) := by
    simp [attD, List.getElem?_set_ne, h.a, flook]
  have hb' : (L.set (n + 2) (.dn (rows 0 (ks ++ [p]))))[n + 1]? = some (.lst ks) := by rw [List.getElem?_set_ne (by omega)]; exact h.b
  have h6' : attD 6 (.r n) (grow n L (ks ++ [p])) = some (.ok (.r (n + 2)), grow n L (ks ++ [p])) := by simp [attD, hg.a, flook]
  have hl' : lookN (rows 0 (ks ++ [p])) k = some (.int ks.length) := by
    have := look_in (i := 0) hk hg.k hg.d (j := ks.length) (by rw [List.getElem?_append_right (Nat.le_refl _), Nat.sub_self]; rfl)
    rwa [Nat.zero_add] at this
  have hx : ixA (.r (n + 2)) (.v p) (grow n L (ks ++ [p])) = some (.ok (.v (.int ks.length)), grow n L (ks ++ [p])) := by simp [ixA, dnAt, hg.c, hkd, hl']
  have hap : exprS (mthD tyL appendD (un (attD 5) (varD 0)) (consA (varD 1) nilA)) [some (.r n), some (.v p), none] (L.set (n + 2) (.dn (rows 0 (ks ++ [p])))) = some (.nx [some (.r n), some (.v p), none], grow n L (ks ++ [p])) := by
    simp only [tup_0, tup_1, tup_2, tup_3, tup_4, tup_5, tup_6, lst_0, lst_1, lst_2, lst_3, lst_4, lst_5, lst_6, lst_7, lst_8, lst_9, lst_10, lst_11, lst_12, new_0, new_1, new_2, new_3, new_4, new_5, new_6, bind, M.bnd, pure, M.ret, M.stuck, varD, retD, DN.bin, un, appA, consA, nilA, arN_1, arN_2, arN_3, arN_4, arN_5, arN_6, arN_7, asP, setS, eThen, seqS, ifS, nxS, killS, killT, retS, exprS, unitS, setIS, setA, tstD, asB, andB, orB, notB, andV, orV, notV, valB, intOp, addD, subD, modD, powD, fdivD, negD, ordI, ltD, chn, asM, asL, asS, oneD, intD, mthD, tyL, mutL, appendD, List.getElem?_cons_succ, List.getElem?_cons_zero, List.set_cons_succ, List.set_cons_zero, if_true, if_false, decide_true, decide_false, Bool.false_eq_true, reduceIte, un, h5', hb', Option.isSome_some, if_pos hz2, grow]
  have hst : unitS (setA (.r (n + 2)) (.v p) (.v (.int ks.length))) [some (.r n), some (.v p), none] L = some (.nx [some (.r n), some (.v p), none], L.set (n + 2) (.dn (rows 0 (ks ++ [p])))) := by
    unfold unitS
    rw [hs]
  unfold nTail
  rw [seq_nx (τ1 := [some (.r n), some (.v p), none]) (L1 := grow n L (ks ++ [p])) ?_]
  · simp only [tup_0, tup_1, tup_2, tup_3, tup_4, tup_5, tup_6, lst_0, lst_1, lst_2, lst_3, lst_4, lst_5, lst_6, lst_7, lst_8, lst_9, lst_10, lst_11, lst_12, new_0, new_1, new_2, new_3, new_4, new_5, new_6, bind, M.bnd, pure, M.ret, M.stuck, varD, retD, DN.bin, un, appA, consA, nilA, arN_1, arN_2, arN_3, arN_4, arN_5, arN_6, arN_7, asP, setS, eThen, seqS, ifS, nxS, killS, killT, retS, exprS, unitS, setIS, setA, tstD, asB, andB, orB, notB, andV, orV, notV, valB, intOp, addD, subD, modD, powD, fdivD, negD, ordI, ltD, chn, asM, asL, asS, oneD, intD, mthD, tyL, mutL, appendD, List.getElem?_cons_succ, List.getElem?_cons_zero, List.set_cons_succ, List.set_cons_zero, if_true, if_false, decide_true, decide_false, Bool.false_eq_true, reduceIte, un, h6', hx]
  · have e1 : setIS (un (attD 6) (varD 0)) (varD 1) (appA lenD (consA (un (attD 5) (varD 0)) nilA)) [some (.r n), some (.v p), none] L = some (.nx [some (.r n), some (.v p), none], L.set (n + 2) (.dn (rows 0 (ks ++ [p])))) := by
      refine Eq.trans ?_ hst
      simp only [setIS, eThen, appA, consA, nilA, varD, un, bind, M.bnd, pure, M.ret, h5, h6, hln, List.getElem?_cons_succ, List.getElem?_cons_zero]
    refine Eq.trans ?_ ((seq_nx e1).trans hap)
    simp only [ifS, eThen, tstD, DN.bin, varD, un, bind, M.bnd, pure, M.ret, h6, hi, asB, List.getElem?_cons_succ, List.getElem?_cons_zero, if_true]
theorem ix_tup {xs : List P} {r : Nat} {p : P} (h : xs[r]? = some p) (L : List MO) : ixA (.v (.tup xs)) (.v (.int r)) L = some (.ok (.v p), L) := by
  have hl : r < xs.length := (List.getElem?_eq_some_iff.mp h).1
  have hn : ixN xs.length (r : Int) = some r := by
    unfold ixN
    rw [if_pos (by omega), if_pos (by omega)]
    rfl
  simp [ixA, dnAt, ixD, atI, hn, h]
theorem cmp_str {x : Str} (h : PyData.strOk x = true) : Cmp (.str x) := ⟨by simp [nb, h], by simp [pd, PyData.depth]⟩
noncomputable def nBody : SX := (exprS (methF 2 tm_formula (varD 0) (consA (varD 2) nilA)))
noncomputable def nHead : SX := (ifS (tstD (DN.bin (eqD false) (DN.bin ixA (varD 1) (retD (.v (.int 0)))) (retD (.v (.str "derived"))))) (forS (seqI (DN.bin ixA (varD 1) (retD (.v (.int 3))))) (tgN 2) nBody) nxS)
def Fm.tag : Fm → Str
  | .start _ _ => "start"
  | .fresh _ _ => "fresh"
  | .der _ _ _ => "derived"
theorem Fm.ix0 (f : Fm) (L : List MO) : ixA (.v f.p) (.v (.int 0)) L = some (.ok (.v (.str f.tag)), L) := by
  cases f <;> exact ix_tup (r := 0) rfl L
theorem eqD_str {x y : Str} (h : PyData.strOk x = true) (k : PyData.strOk y = true) (L : List MO) : eqD false (.v (.str x)) (.v (.str y)) L = some (.ok (.v (.bl (decide (x = y)))), L) := by
  have h1 : okD (.str x) = true := by simp [okD, SeqAt.shaped, PyData.canLay0, h, PyData.depth]
  have h2 : okD (.str y) = true := by simp [okD, SeqAt.shaped, PyData.canLay0, k, PyData.depth]
  by_cases e : x = y <;> simp [eqD, dOf, toD, h1, h2, PyData.eqv, e]
theorem tag_eq (f : Fm) (L : List MO) : eqD false (.v (.str f.tag)) (.v (.str "derived")) L = some (.ok (.v (.bl (decide (f.tag = "derived")))), L) := by
  have h1 : PyData.strOk f.tag = true := by cases f <;> simp only [Fm.tag] <;> decide +kernel
  have h2 : PyData.strOk ("derived" : Str) = true := by decide +kernel
  rw [eqD_str h1 h2]
theorem nBody_at {n : Nat} {L : List MO} {ks : List P} (h : Con n L ks) (d : D) {i : Int} (h0 : 0 ≤ i) (h1 : i < ks.length) : nBody [some (.r n), some d, some (.v (.int i))] L = some (.nx [some (.r n), some d, some (.v (.int i))], L) := by
  obtain ⟨p, _, e⟩ := con_at h h0 h1
  simp [nBody, exprS, eThen, methF, clsOf, h.a, tm_formula, varD, consA, nilA, arN, bind, M.bnd, pure, M.ret, e]
theorem nBody_no {n : Nat} {L : List MO} {ks : List P} (h : Con n L ks) (d : D) {i : Int} (h1 : i < 0 ∨ (ks.length : Int) ≤ i) : nBody [some (.r n), some d, some (.v (.int i))] L = some (.ex [some (.r n), some d, some (.v (.int i))] 27 [.int i], L) := by
  have e := con_no h h1
  simp [nBody, exprS, eThen, methF, clsOf, h.a, tm_formula, varD, consA, nilA, arN, bind, M.bnd, pure, M.ret, e]
theorem forG_nx {tg : TgD} {body : SX} {p : P} {ps : List P} {τ τ1 τ2 : Tau} {L L2 : List MO} (h : tg p τ = some τ1) (k : body τ1 L = some (.nx τ2, L2)) : forG (fun _ => True) tg body (p :: ps) τ L = forG (fun _ => True) tg body ps τ2 L2 := by
  rw [forG]
  refine (if_pos trivial).trans ?_
  rw [h]
  dsimp only
  rw [k]
theorem forG_ex {tg : TgD} {body : SX} {p : P} {ps : List P} {τ τ1 τ2 : Tau} {L L2 : List MO} {c : Nat} {fs : List P} (h : tg p τ = some τ1) (k : body τ1 L = some (.ex τ2 c fs, L2)) : forG (fun _ => True) tg body (p :: ps) τ L = some (.ex τ2 c fs, L2) := by
  rw [forG]
  refine (if_pos trivial).trans ?_
  rw [h]
  dsimp only
  rw [k]
theorem for_at {n : Nat} {L : List MO} {ks : List P} (h : Con n L ks) (d : D) : ∀ {xs : List Int} (z : Option D), (∀ x ∈ xs, 0 ≤ x ∧ x < ks.length) → ∃ z', forG (fun _ => True) (tgN 2) nBody (xs.map P.int) [some (.r n), some d, z] L = some (.nx [some (.r n), some d, z'], L)
  | [], z, _ => ⟨z, by rw [List.map_nil, forG]; exact if_pos trivial⟩
  | x :: xs, z, hx => by
    have h1 := hx x List.mem_cons_self
    obtain ⟨z', e⟩ := for_at h d (xs := xs) (some (.v (.int x))) fun y hy => hx y (List.mem_cons_of_mem _ hy)
    refine ⟨z', ?_⟩
    exact (forG_nx (τ1 := [some (.r n), some d, some (.v (.int x))]) rfl (nBody_at h d h1.1 h1.2)).trans e
theorem for_no {n : Nat} {L : List MO} {ks : List P} (h : Con n L ks) (d : D) {b : Int} (hb : b < 0 ∨ (ks.length : Int) ≤ b) (post : List Int) : ∀ {xs : List Int} (z : Option D), (∀ x ∈ xs, 0 ≤ x ∧ x < ks.length) → forG (fun _ => True) (tgN 2) nBody ((xs ++ b :: post).map P.int) [some (.r n), some d, z] L = some (.ex [some (.r n), some d, some (.v (.int b))] 27 [.int b], L)
  | [], z, _ => by
    exact forG_ex (τ1 := [some (.r n), some d, some (.v (.int b))]) rfl (nBody_no h d hb)
  | x :: xs, z, hx => by
    have h1 := hx x List.mem_cons_self
    have e := for_no h d hb post (xs := xs) (some (.v (.int x))) fun y hy => hx y (List.mem_cons_of_mem _ hy)
    exact (forG_nx (τ1 := [some (.r n), some d, some (.v (.int x))]) rfl (nBody_at h d h1.1 h1.2)).trans e
theorem head_src {n : Nat} {L : List MO} {i : Int} {nm : Str} {xs : List Int} : (forS (seqI (DN.bin ixA (varD 1) (retD (.v (.int 3))))) (tgN 2) nBody) [some (.r n), some (.v (Fm.der i nm xs).p), none] L = forG (fun _ => True) (tgN 2) nBody (xs.map P.int) [some (.r n), some (.v (Fm.der i nm xs).p), none] L := by
  have : ixA (.v (Fm.der i nm xs).p) (.v (.int 3)) L = some (.ok (.v (.tup (xs.map P.int))), L) := ix_tup (r := 3) rfl L
  exact forS_of (it := (xs.map P.int, fun _ => True)) (by simp [seqI, DN.bin, varD, retD, bind, M.bnd, pure, M.ret, this, itmD])
theorem head_at {n : Nat} {L : List MO} {ks : List P} (h : Con n L ks) {f : Fm} (hx : ∀ x ∈ f.nums, 0 ≤ x ∧ x < ks.length) : ∃ z, nHead [some (.r n), some (.v f.p), none] L = some (.nx [some (.r n), some (.v f.p), z], L) := by
  have h0 := f.ix0 L
  have h1 := tag_eq f L
  unfold nHead
  cases f with
  | start nm i =>
    refine ⟨none, ?_⟩
    have : decide ((Fm.start nm i).tag = "derived") = false := by show decide (("start" : Str) = "derived") = false; decide +kernel
    rw [this] at h1
    simp [ifS, eThen, tstD, DN.bin, varD, retD, bind, M.bnd, pure, M.ret, h0, h1, asB, nxS]
  | fresh i nm =>
    refine ⟨none, ?_⟩
    have : decide ((Fm.fresh i nm).tag = "derived") = false := by show decide (("fresh" : Str) = "derived") = false; decide +kernel
    rw [this] at h1
    simp [ifS, eThen, tstD, DN.bin, varD, retD, bind, M.bnd, pure, M.ret, h0, h1, asB, nxS]
  | der i nm xs =>
    obtain ⟨z, e⟩ := for_at h (.v (Fm.der i nm xs).p) (xs := xs) none hx
    refine ⟨z, ?_⟩
    have : decide ((Fm.der i nm xs).tag = "derived") = true := by show decide (("derived" : Str) = "derived") = true; decide +kernel
    rw [this] at h1
    simp [ifS, eThen, tstD, DN.bin, varD, retD, bind, M.bnd, pure, M.ret, h0, h1, asB]
    exact head_src.trans e
theorem num_eq {n : Nat} {L : List MO} {f : Fm} {r : Option (Out × List MO)} {z : Option D} (e : nHead [some (.r n), some (.v f.p), none] L = some (.nx [some (.r n), some (.v f.p), z], L)) {d : D} {L1 : List MO} (k : nTail [some (.r n), some (.v f.p), none] L = some (.rt d, L1)) : bodyF 3 d_Contents_number_of [.r n, .v f.p] L = some (.ok d, L1) := by
  refine body_rt ?_
  show seqS nHead (killS [2] nTail) [some (.r n), some (.v f.p), none] L = _
  rw [seq_nx e]
  exact k
theorem num_in {n : Nat} {L : List MO} {ks : List P} (h : Con n L ks) {f : Fm} (hf : f.ok) (hx : ∀ x ∈ f.nums, 0 ≤ x ∧ x < ks.length) {j : Nat} (hj : ks[j]? = some f.p) : f_Contents_number_of [.r n, .v f.p] L = some (.ok (.v (.int j)), L) := by
  obtain ⟨z, e⟩ := head_at h hx
  exact scope_s (num_eq (r := none) e (tail_in h (Fm.kok hf) hj)) (Older.refl _) rfl
theorem num_new {n : Nat} {L : List MO} {ks : List P} (h : Con n L ks) {f : Fm} (hf : f.ok) (hx : ∀ x ∈ f.nums, 0 ≤ x ∧ x < ks.length) (hn : f.p ∉ ks) (hz : ks.length < 99) : f_Contents_number_of [.r n, .v f.p] L = some (.ok (.v (.int ks.length)), grow n L (ks ++ [f.p])) := by
  obtain ⟨z, e⟩ := head_at h hx
  exact scope_s (num_eq (r := none) e (tail_new h (Fm.kok hf) hn hz)) (older_con h _ _) (by simp [grow])
theorem num_no {n : Nat} {L : List MO} {ks : List P} (h : Con n L ks) {i : Int} {nm : Str} {pre post : List Int} {b : Int} (hx : ∀ x ∈ pre, 0 ≤ x ∧ x < ks.length) (hb : b < 0 ∨ (ks.length : Int) ≤ b) : f_Contents_number_of [.r n, .v (Fm.der i nm (pre ++ b :: post)).p] L = some (.ex 27 [.int b], L) := by
  have e := for_no h (.v (Fm.der i nm (pre ++ b :: post)).p) hb post (xs := pre) none hx
  have h0 := (Fm.der i nm (pre ++ b :: post)).ix0 L
  have h1 := tag_eq (Fm.der i nm (pre ++ b :: post)) L
  have : decide ((Fm.der i nm (pre ++ b :: post)).tag = "derived") = true := by show decide (("derived" : Str) = "derived") = true; decide +kernel
  rw [this] at h1
  refine scope_ex (body_ex (τ := [some (.r n), some (.v (Fm.der i nm (pre ++ b :: post)).p), some (.v (.int b))]) ?_) (Older.refl _) rfl
  show seqS nHead (killS [2] nTail) [some (.r n), some (.v (Fm.der i nm (pre ++ b :: post)).p), none] L = _
  have : nHead [some (.r n), some (.v (Fm.der i nm (pre ++ b :: post)).p), none] L = some (.ex [some (.r n), some (.v (Fm.der i nm (pre ++ b :: post)).p), some (.v (.int b))] 27 [.int b], L) := by
    unfold nHead
    simp [ifS, eThen, tstD, DN.bin, varD, retD, bind, M.bnd, pure, M.ret, h0, h1, asB]
    exact head_src.trans e
  unfold seqS
  rw [this]
/-! the text of a formula -/
def txh (s : Int) (n : Str) : Str := (toString s : Str) ++ "." ++ n
def tx (fs : List Fm) (sub : Option (Int → Str)) (i : Nat) : Str := match fs[i]? with
  | none => ""
  | some (.start n k) => n ++ ":" ++ (toString k : Str)
  | some (.fresh s n) => txh s n ++ "()"
  | some (.der s n []) => txh s n ++ "()"
  | some (.der s n (x :: xs)) => match sub with
    | none => txh s n ++ "(..)"
    | some g => txh s n ++ "(" ++ Txt.join ", " ((x :: xs).map g) ++ ")"
def txt (fs : List Fm) : Nat → Nat → Str
  | 0, i => tx fs none i
  | d + 1, i => tx fs (some fun x => txt fs d x.toNat) i
def bnd : Nat → Nat
  | 0 => 60
  | d + 1 => 60 + 6 * (bnd d + 2)
theorem join_le (sep : Str) : ∀ ys : List Str, (Txt.join sep ys).length ≤ (ys.map (·.length)).sum + ys.length * sep.length := by
  have len : ∀ x : Str, x.length = (TL.tl x).length := fun x => by simp [Str.length, TL.tl]
  have key : ∀ (s : List Nat) (zs : List (List Nat)), (TL.joinL s zs).length ≤ (zs.map List.length).sum + zs.length * s.length := by
    intro s zs
    induction zs with
    | nil => simp [TL.joinL]
    | cons z zs ih =>
      cases zs with
      | nil => simp [TL.joinL]
      | cons y zs =>
        have e : TL.joinL s (z :: y :: zs) = z ++ (s ++ TL.joinL s (y :: zs)) := rfl
        rw [e, List.length_append, List.length_append]
        simp only [List.map_cons, List.sum_cons, List.length_cons, Nat.add_mul, Nat.one_mul] at ih ⊢
        omega
  intro ys
  rw [len, show TL.tl (Txt.join sep ys) = TL.joinL (TL.tl sep) (ys.map TL.tl) from by rw [TL.join_eq, TL.tl_join]]
  have := key (TL.tl sep) (ys.map TL.tl)
  rw [List.length_map, List.map_map] at this
  rw [len sep]
  have e : (ys.map TL.tl).map List.length = ys.map (·.length) := by rw [List.map_map]; exact List.map_congr_left fun y _ => (len y).symm
  have e2 : List.map (List.length ∘ TL.tl) ys = ys.map (·.length) := List.map_congr_left fun y _ => (len y).symm
  rw [e2] at this
  exact this
theorem txt_len (x : Int) (h0 : 0 ≤ x) (h1 : x < 100000) : (Str.ofString (toString x)).length ≤ 6 ∧ x.natAbs.log2 < 1920 := by
  refine ⟨?_, ?_⟩
  · have := int_text_length_le10 (a := x) (k := 5) (by decide) (by omega)
    rw [ofString_length]
    omega
  · by_cases h : x.natAbs = 0
    · rw [h]; decide
    · have : x.natAbs.log2 < 17 := (Nat.log2_lt h).mpr (by omega)
      omega
theorem low_len {n : Nat} {x : Str} (h : LowS n x) : x.length ≤ n := by have := h.2; simp [Str.length] at this ⊢; exact this
theorem lit_len (x : Str) (n : Nat) (h : x.length = n := by decide +kernel) : x.length = n := h
theorem txh_len {s : Int} {n : Str} (h0 : 0 ≤ s) (h1 : s < 100000) (hn : LowS 40 n) : (txh s n).length ≤ 47 := by
  have a := (txt_len s h0 h1).1
  have b := low_len hn
  have c := lit_len "." 1
  unfold txh
  rw [Str.length_append, Str.length_append, c]
  omega
def bd : Nat → Nat
  | 0 => 60
  | d + 1 => 60 + 20 * (bd d + 2)
theorem sum_le {B : Nat} : ∀ {ys : List Str}, (∀ y ∈ ys, y.length ≤ B) → (ys.map (·.length)).sum ≤ ys.length * B
  | [], _ => by simp
  | y :: ys, h => by
    have h1 := sum_le (ys := ys) fun z hz => h z (List.mem_cons_of_mem _ hz)
    have h2 := h y List.mem_cons_self
    simp only [List.map_cons, List.sum_cons, List.length_cons, Nat.add_mul, Nat.one_mul]
    omega
theorem tx_len {fs : List Fm} (hf : ∀ f ∈ fs, f.ok) {sub : Option (Int → Str)} {B i : Nat} (hB : 0 ≤ B) (hs : ∀ g, sub = some g → ∀ x, (g x).length ≤ B) : (tx fs sub i).length ≤ if sub.isSome = true then 60 + 20 * (B + 2) else 60 := by
  have hle : (60 : Nat) ≤ if sub.isSome = true then 60 + 20 * (B + 2) else 60 := by split <;> omega
  have l0 := lit_len "" 0
  have l1 := lit_len ":" 1
  have l2 := lit_len "()" 2
  have l3 := lit_len "(..)" 4
  have l4 := lit_len "(" 1
  have l5 := lit_len ")" 1
  have l6 := lit_len ", " 2
  unfold tx
  split
  · rw [l0]; refine Nat.le_trans ?_ hle; omega
  · rename_i n k e
    obtain ⟨a1, a2, a3⟩ := hf _ (List.mem_of_getElem? e)
    have := (txt_len k a2 a3).1
    have := low_len a1
    rw [Str.length_append, Str.length_append, l1]
    refine Nat.le_trans ?_ hle
    omega
  · rename_i s n e
    obtain ⟨a1, a2, a3⟩ := hf _ (List.mem_of_getElem? e)
    have := txh_len a2 a3 a1
    rw [Str.length_append, l2]
    refine Nat.le_trans ?_ hle
    omega
  · rename_i s n e
    obtain ⟨a1, a2, a3, _⟩ := hf _ (List.mem_of_getElem? e)
    have := txh_len a2 a3 a1
    rw [Str.length_append, l2]
    refine Nat.le_trans ?_ hle
    omega
  · rename_i s n x xs e
    obtain ⟨a1, a2, a3, a4, _⟩ := hf _ (List.mem_of_getElem? e)
    have h1 := txh_len a2 a3 a1
    split
    · rw [Str.length_append, l3]
      refine Nat.le_trans ?_ hle
      omega
    · rename_i g
      have h2 := join_le ", " ((x :: xs).map g)
      have h3 := sum_le (B := B) (ys := (x :: xs).map g) fun y hy => by
        obtain ⟨z, _, rfl⟩ := List.mem_map.mp hy
        exact hs g rfl z
      rw [List.length_map] at h2 h3
      rw [Str.length_append, Str.length_append, Str.length_append, l4, l5]
      rw [l6] at h2
      have h4 : (x :: xs).length * B ≤ 20 * B := Nat.mul_le_mul_right B a4
      have h5 : (x :: xs).length * 2 ≤ 20 * 2 := Nat.mul_le_mul_right 2 a4
      rw [if_pos (show (some g).isSome = true from rfl)]
      omega
theorem txt_bd {fs : List Fm} (hf : ∀ f ∈ fs, f.ok) : ∀ d i, (txt fs d i).length ≤ bd d
  | 0, i => tx_len hf (sub := none) (i := i) (B := 60) (by omega) (fun g e => by cases e)
  | d + 1, i => tx_len hf (sub := some fun x => txt fs d x.toNat) (i := i) (B := bd d) (by omega) (fun g e x => by cases e; exact txt_bd hf d x.toNat)
theorem bd_mono {d : Nat} (h : d ≤ 4) : bd d ≤ 10442100 := by
  match d, h with
  | 0, _ => decide
  | 1, _ => decide
  | 2, _ => decide
  | 3, _ => decide
  | 4, _ => decide
/-- the table holds these formulas -/
structure Cf (n : Nat) (L : List MO) (fs : List Fm) : Prop where
  c : Con n L (fs.map Fm.p)
  f : ∀ f ∈ fs, f.ok
  r : ∀ f ∈ fs, ∀ x ∈ f.nums, 0 ≤ x ∧ x < fs.length
theorem page_ok (n : Str) (i : Int) (hn : LowS 40 n) (h0 : 0 ≤ i) (h1 : i < 100000) (L : List MO) : f_page_text [.v (.tup [.str n, .int i])] L = some (.ok (.v (.str (n ++ ":" ++ (toString i : Str)))), L) := by
  have l1 := lit_len ":" 1
  have a := txt_len i h0 h1
  have b := low_len hn
  have z : (100 : Nat) ≤ sizeLine := le_line 100 (by decide)
  refine wp_eq ?_
  unfold f_page_text
  refine wp_scope ?_
  show wps d_page_text [some (.v (.tup [.str n, .int i]))] L _
  unfold d_page_text
  simp only [wps_nx, wps_bk, wps_ct, wps_retN, wps_kill, wps_set, wps_expr, wps_ret, wps_if, wps_ift, wps_iff, wps_satt, wps_unit, wps_setI, wps_for, th_rt, th_bk, th_ct, th_ex, killT, wp_var, varW_some, wp_retD, wp_ret, wp_pure, wp_bin, wp_un, wp_app, wp_cons, wp_nil, wp_tstD, wp_asB, wp_tstT, wp_truB_bl, wp_truB_tup, wp_truB_lst, wp_andB, wp_orB, wp_notB, wp_valB, wp_andV, wp_orV, wp_notV, wp_ifE, wp_noP, wp_part, wp_asJ, wp_slice, wp_seqI, wp_argI, wp_itm_tup, wp_itm_lst, wp_tup0, wp_tup1, wp_tup2, wp_tup3, wp_tup4, wp_lst0, wp_lst1, wp_lst2, wp_lst3, wp_lst4, wp_lst5, wp_lst6, wp_lst7, wp_lst8, wp_new0, wp_arN1, wp_arN2, wp_arN3, wp_arN4, wp_arN5, wp_arN6, wp_arN7, wp_addI, wp_subI, wp_negI, wp_int, wp_max2, wp_ord, wp_ltI, wp_chn, wp_eqI, wp_len_lst, wp_len_tup, wp_ixT0, wp_ixT1, wp_ixT2, wp_ixT3, wp_mth, wp_meth, wp_methZ, wp_methK, wp_lc, wp_yes, wp_js, wp_js0, wp_jsM, tyS_str, List.getElem?_cons_succ, List.getElem?_cons_zero, List.set_cons_succ, List.set_cons_zero, if_true, if_false, decide_true, decide_false, Bool.false_eq_true, Bool.not_true, Bool.not_false, reduceIte, List.cons_append, List.nil_append, List.length_cons, List.length_nil, Nat.reduceAdd, and_self, and_true, true_and, wp_fmtS, wp_fmtI, Str.empty_append, Str.length_append, l1]
  refine ⟨by omega, by omega, by omega, a.2, by omega, L, [], by simp, rfl, Older.refl _, rfl, rfl⟩
theorem strs_tx (g : Int → Str) (xs : List Int) : strsOf (xs.map fun x => P.str (g x)) = some (xs.map g) := by
  have : (xs.map fun x => P.str (g x)) = (xs.map g).map P.str := by rw [List.map_map]; rfl
  rw [this]
  exact strs_map _
theorem fm_map {xs : List Int} {F : P → Option P} {g : Int → P} (h : ∀ x ∈ xs, F (.int x) = some (g x)) : (xs.map P.int).filterMap F = xs.map g := by
  induction xs with
  | nil => rfl
  | cons x xs ih =>
    rw [List.map_cons, List.filterMap_cons, h x List.mem_cons_self, List.map_cons, ih fun y hy => h y (List.mem_cons_of_mem _ hy)]
theorem ok_tags : PyData.strOk "start" = true ∧ PyData.strOk "fresh" = true ∧ PyData.strOk "derived" = true ∧ (("start" : Str) = "fresh") = False ∧ (("fresh" : Str) = "start") = False ∧ (("derived" : Str) = "start") = False ∧ (("derived" : Str) = "fresh") = False := by
  refine ⟨by decide +kernel, by decide +kernel, by decide +kernel, ?_, ?_, ?_, ?_⟩ <;> exact eq_false (by decide +kernel)
/-- what a depth brings -/
def Sub (m : Nat) (d : Int) (B : Nat) (call : Int → Int → Str → Prop) : Option (Int → Str) → Prop
  | none => d = 0
  | some g => d ≠ 0 ∧ (∀ x, (g x).length ≤ B) ∧ ∀ x : Int, 0 ≤ x → x < m → call x (d - 1) (g x)
theorem sumj {B : Nat} {g : Int → Str} {xs : List Int} (hg : ∀ x, (g x).length ≤ B) (hx : xs.length ≤ 20) : ((xs.map g).map (·.length)).sum + (xs.map g).length * (Str.ofString ", ").length ≤ 20 * (B + 2) := by
  have l6 := lit_len ", " 2
  have h3 := sum_le (B := B) (ys := xs.map g) fun y hy => by
    obtain ⟨z, _, rfl⟩ := List.mem_map.mp hy
    exact hg z
  rw [List.length_map] at h3
  rw [List.length_map, l6]
  have h4 : xs.length * B ≤ 20 * B := Nat.mul_le_mul_right B hx
  have h5 : xs.length * 2 ≤ 20 * 2 := Nat.mul_le_mul_right 2 hx
  omega
theorem Cf.app {n : Nat} {L : List MO} {fs : List Fm} (h : Cf n L fs) (X : List MO) : Cf n (L ++ X) fs := by
  have hl := h.c.lt
  exact ⟨{ a := by rw [List.getElem?_append_left (by omega)]; exact h.c.a, b := by rw [List.getElem?_append_left (by omega)]; exact h.c.b, c := by rw [List.getElem?_append_left (by omega)]; exact h.c.c, k := h.c.k, d := h.c.d, z := h.c.z }, h.f, h.r⟩
theorem text_step {n : Nat} {L : List MO} {fs : List Fm} (h : Cf n L fs) {rec : List D → M D} {d : Int} {sub : Option (Int → Str)} {B i : Nat} (hB : 100 + 20 * (B + 2) ≤ 16777216) (hi : i < fs.length)
    (hs : Sub fs.length d B (fun x e y => ∀ L', Cf n L' fs → rec [.r n, .v (.int x), .v (.int e)] L' = some (.ok (.v (.str y)), L')) sub) {E : EX} {Q : D → List MO → Prop} (hq : Q (.v (.str (tx fs sub i))) L) : wp (scopeF false (bodyF 7 (d_Contents_text rec)) [.r n, .v (.int i), .v (.int d)]) L E Q := by
  obtain ⟨t1, t2, t3, t4, t5, t6, t7⟩ := ok_tags
  obtain ⟨p, hp, ef⟩ := con_at h.c (i := i) (by omega) (by rw [List.length_map]; omega)
  rw [Int.toNat_natCast, List.getElem?_map, List.getElem?_eq_getElem hi] at hp
  cases hp
  have e0 : fs[i]? = some fs[i] := List.getElem?_eq_getElem hi
  have hm : (clsOf L (.r n)).bind tm_formula = some f_Contents_formula := by simp [clsOf, h.c.a, tm_formula]
  have wf := fun E Q => wp_of (E := E) (Q := Q) ef
  have hok := h.f _ (List.mem_of_getElem? e0)
  have hnum := h.r _ (List.mem_of_getElem? e0)
  have z : (1000 : Nat) ≤ sizeLine := le_line 1000 (by decide)
  refine wp_scope ?_
  show wps (d_Contents_text rec) [some (.r n), some (.v (.int i)), some (.v (.int d)), none, none, none, none] L _
  unfold d_Contents_text
  rw [wps_seq]
  simp only [wps_nx, wps_bk, wps_ct, wps_retN, wps_kill, wps_set, wps_expr, wps_ret, wps_if, wps_ift, wps_iff, wps_satt, wps_unit, wps_setI, wps_for, th_rt, th_bk, th_ct, th_ex, killT, wp_var, varW_some, wp_retD, wp_ret, wp_pure, wp_bin, wp_un, wp_app, wp_cons, wp_nil, wp_tstD, wp_asB, wp_tstT, wp_truB_bl, wp_truB_tup, wp_truB_lst, wp_andB, wp_orB, wp_notB, wp_valB, wp_andV, wp_orV, wp_notV, wp_ifE, wp_noP, wp_part, wp_asJ, wp_slice, wp_seqI, wp_argI, wp_itm_tup, wp_itm_lst, wp_tup0, wp_tup1, wp_tup2, wp_tup3, wp_tup4, wp_lst0, wp_lst1, wp_lst2, wp_lst3, wp_lst4, wp_lst5, wp_lst6, wp_lst7, wp_lst8, wp_new0, wp_arN1, wp_arN2, wp_arN3, wp_arN4, wp_arN5, wp_arN6, wp_arN7, wp_addI, wp_subI, wp_negI, wp_int, wp_max2, wp_ord, wp_ltI, wp_chn, wp_eqI, wp_len_lst, wp_len_tup, wp_ixT0, wp_ixT1, wp_ixT2, wp_ixT3, wp_mth, wp_meth, wp_methZ, wp_methK, wp_lc, wp_yes, wp_js, wp_js0, wp_jsM, tyS_str, List.getElem?_cons_succ, List.getElem?_cons_zero, List.set_cons_succ, List.set_cons_zero, if_true, if_false, decide_true, decide_false, Bool.false_eq_true, Bool.not_true, Bool.not_false, reduceIte, List.cons_append, List.nil_append, List.length_cons, List.length_nil, Nat.reduceAdd, and_self, and_true, true_and, hm, wf]
  simp only [th_nx, wps_nx, wps_bk, wps_ct, wps_retN, wps_kill, wps_set, wps_expr, wps_ret, wps_if, wps_ift, wps_iff, wps_satt, wps_unit, wps_setI, wps_for, th_rt, th_bk, th_ct, th_ex, killT, wp_var, varW_some, wp_retD, wp_ret, wp_pure, wp_bin, wp_un, wp_app, wp_cons, wp_nil, wp_tstD, wp_asB, wp_tstT, wp_truB_bl, wp_truB_tup, wp_truB_lst, wp_andB, wp_orB, wp_notB, wp_valB, wp_andV, wp_orV, wp_notV, wp_ifE, wp_noP, wp_part, wp_asJ, wp_slice, wp_seqI, wp_argI, wp_itm_tup, wp_itm_lst, wp_tup0, wp_tup1, wp_tup2, wp_tup3, wp_tup4, wp_lst0, wp_lst1, wp_lst2, wp_lst3, wp_lst4, wp_lst5, wp_lst6, wp_lst7, wp_lst8, wp_new0, wp_arN1, wp_arN2, wp_arN3, wp_arN4, wp_arN5, wp_arN6, wp_arN7, wp_addI, wp_subI, wp_negI, wp_int, wp_max2, wp_ord, wp_ltI, wp_chn, wp_eqI, wp_len_lst, wp_len_tup, wp_ixT0, wp_ixT1, wp_ixT2, wp_ixT3, wp_mth, wp_meth, wp_methZ, wp_methK, wp_lc, wp_yes, wp_js, wp_js0, wp_jsM, tyS_str, List.getElem?_cons_succ, List.getElem?_cons_zero, List.set_cons_succ, List.set_cons_zero, if_true, if_false, decide_true, decide_false, Bool.false_eq_true, Bool.not_true, Bool.not_false, reduceIte, List.cons_append, List.nil_append, List.length_cons, List.length_nil, Nat.reduceAdd, and_self, and_true, true_and, wps_seq]
  have l2 := lit_len "()" 2
  have l1 := lit_len "." 1
  have l3 := lit_len "(..)" 4
  have l4 := lit_len "(" 1
  have l5 := lit_len ")" 1
  cases ef0 : fs[i] with
  | start nm k =>
    rw [ef0] at hok hnum e0
    simp only [Fm.p, wps_nx, wps_bk, wps_ct, wps_retN, wps_kill, wps_set, wps_expr, wps_ret, wps_if, wps_ift, wps_iff, wps_satt, wps_unit, wps_setI, wps_for, th_rt, th_bk, th_ct, th_ex, killT, wp_var, varW_some, wp_retD, wp_ret, wp_pure, wp_bin, wp_un, wp_app, wp_cons, wp_nil, wp_tstD, wp_asB, wp_tstT, wp_truB_bl, wp_truB_tup, wp_truB_lst, wp_andB, wp_orB, wp_notB, wp_valB, wp_andV, wp_orV, wp_notV, wp_ifE, wp_noP, wp_part, wp_asJ, wp_slice, wp_seqI, wp_argI, wp_itm_tup, wp_itm_lst, wp_tup0, wp_tup1, wp_tup2, wp_tup3, wp_tup4, wp_lst0, wp_lst1, wp_lst2, wp_lst3, wp_lst4, wp_lst5, wp_lst6, wp_lst7, wp_lst8, wp_new0, wp_arN1, wp_arN2, wp_arN3, wp_arN4, wp_arN5, wp_arN6, wp_arN7, wp_addI, wp_subI, wp_negI, wp_int, wp_max2, wp_ord, wp_ltI, wp_chn, wp_eqI, wp_len_lst, wp_len_tup, wp_ixT0, wp_ixT1, wp_ixT2, wp_ixT3, wp_mth, wp_meth, wp_methZ, wp_methK, wp_lc, wp_yes, wp_js, wp_js0, wp_jsM, tyS_str, List.getElem?_cons_succ, List.getElem?_cons_zero, List.set_cons_succ, List.set_cons_zero, if_true, if_false, decide_true, decide_false, Bool.false_eq_true, Bool.not_true, Bool.not_false, reduceIte, List.cons_append, List.nil_append, List.length_cons, List.length_nil, Nat.reduceAdd, and_self, and_true, true_and, wp_eqS t1 t1, th_nx]
    rw [wp_of (page_ok nm k hok.1 hok.2.1 hok.2.2 L)]
    refine endQ_v ?_
    simpa [tx, e0] using hq
  | fresh st nm =>
    rw [ef0] at hok hnum e0
    have a := txt_len st hok.2.1 hok.2.2
    have b := low_len hok.1
    simp only [Fm.p, wps_nx, wps_bk, wps_ct, wps_retN, wps_kill, wps_set, wps_expr, wps_ret, wps_if, wps_ift, wps_iff, wps_satt, wps_unit, wps_setI, wps_for, th_rt, th_bk, th_ct, th_ex, killT, wp_var, varW_some, wp_retD, wp_ret, wp_pure, wp_bin, wp_un, wp_app, wp_cons, wp_nil, wp_tstD, wp_asB, wp_tstT, wp_truB_bl, wp_truB_tup, wp_truB_lst, wp_andB, wp_orB, wp_notB, wp_valB, wp_andV, wp_orV, wp_notV, wp_ifE, wp_noP, wp_part, wp_asJ, wp_slice, wp_seqI, wp_argI, wp_itm_tup, wp_itm_lst, wp_tup0, wp_tup1, wp_tup2, wp_tup3, wp_tup4, wp_lst0, wp_lst1, wp_lst2, wp_lst3, wp_lst4, wp_lst5, wp_lst6, wp_lst7, wp_lst8, wp_new0, wp_arN1, wp_arN2, wp_arN3, wp_arN4, wp_arN5, wp_arN6, wp_arN7, wp_addI, wp_subI, wp_negI, wp_int, wp_max2, wp_ord, wp_ltI, wp_chn, wp_eqI, wp_len_lst, wp_len_tup, wp_ixT0, wp_ixT1, wp_ixT2, wp_ixT3, wp_mth, wp_meth, wp_methZ, wp_methK, wp_lc, wp_yes, wp_js, wp_js0, wp_jsM, tyS_str, List.getElem?_cons_succ, List.getElem?_cons_zero, List.set_cons_succ, List.set_cons_zero, if_true, if_false, decide_true, decide_false, Bool.false_eq_true, Bool.not_true, Bool.not_false, reduceIte, List.cons_append, List.nil_append, List.length_cons, List.length_nil, Nat.reduceAdd, and_self, and_true, true_and, wp_eqS t2 t1, wp_eqS t2 t2, t5, th_nx, wps_seq, wp_fmtI, wp_fmtS, wp_addS, Str.empty_append, Str.length_append, l1, l2]
    refine ⟨a.2, by omega, by omega, by omega, by omega, by omega, ?_⟩
    refine endQ_v ?_
    simpa [tx, e0, txh] using hq
  | der st nm xs =>
    rw [ef0] at hok hnum e0
    have a := txt_len st hok.2.1 hok.2.2.1
    have b := low_len hok.1
    simp only [Fm.p, wps_nx, wps_bk, wps_ct, wps_retN, wps_kill, wps_set, wps_expr, wps_ret, wps_if, wps_ift, wps_iff, wps_satt, wps_unit, wps_setI, wps_for, th_rt, th_bk, th_ct, th_ex, killT, wp_var, varW_some, wp_retD, wp_ret, wp_pure, wp_bin, wp_un, wp_app, wp_cons, wp_nil, wp_tstD, wp_asB, wp_tstT, wp_truB_bl, wp_truB_tup, wp_truB_lst, wp_andB, wp_orB, wp_notB, wp_valB, wp_andV, wp_orV, wp_notV, wp_ifE, wp_noP, wp_part, wp_asJ, wp_slice, wp_seqI, wp_argI, wp_itm_tup, wp_itm_lst, wp_tup0, wp_tup1, wp_tup2, wp_tup3, wp_tup4, wp_lst0, wp_lst1, wp_lst2, wp_lst3, wp_lst4, wp_lst5, wp_lst6, wp_lst7, wp_lst8, wp_new0, wp_arN1, wp_arN2, wp_arN3, wp_arN4, wp_arN5, wp_arN6, wp_arN7, wp_addI, wp_subI, wp_negI, wp_int, wp_max2, wp_ord, wp_ltI, wp_chn, wp_eqI, wp_len_lst, wp_len_tup, wp_ixT0, wp_ixT1, wp_ixT2, wp_ixT3, wp_mth, wp_meth, wp_methZ, wp_methK, wp_lc, wp_yes, wp_js, wp_js0, wp_jsM, tyS_str, List.getElem?_cons_succ, List.getElem?_cons_zero, List.set_cons_succ, List.set_cons_zero, if_true, if_false, decide_true, decide_false, Bool.false_eq_true, Bool.not_true, Bool.not_false, reduceIte, List.cons_append, List.nil_append, List.length_cons, List.length_nil, Nat.reduceAdd, and_self, and_true, true_and, wp_eqS t3 t1, wp_eqS t3 t2, t6, t7, th_nx, wps_seq, wp_fmtI, wp_fmtS, wp_addS, Str.empty_append, Str.length_append, l1, l2]
    refine ⟨a.2, by omega, by omega, by omega, by omega, ?_⟩
    cases xs with
    | nil =>
      simp only [List.map_nil, List.isEmpty_nil, wps_nx, wps_bk, wps_ct, wps_retN, wps_kill, wps_set, wps_expr, wps_ret, wps_if, wps_ift, wps_iff, wps_satt, wps_unit, wps_setI, wps_for, th_rt, th_bk, th_ct, th_ex, killT, wp_var, varW_some, wp_retD, wp_ret, wp_pure, wp_bin, wp_un, wp_app, wp_cons, wp_nil, wp_tstD, wp_asB, wp_tstT, wp_truB_bl, wp_truB_tup, wp_truB_lst, wp_andB, wp_orB, wp_notB, wp_valB, wp_andV, wp_orV, wp_notV, wp_ifE, wp_noP, wp_part, wp_asJ, wp_slice, wp_seqI, wp_argI, wp_itm_tup, wp_itm_lst, wp_tup0, wp_tup1, wp_tup2, wp_tup3, wp_tup4, wp_lst0, wp_lst1, wp_lst2, wp_lst3, wp_lst4, wp_lst5, wp_lst6, wp_lst7, wp_lst8, wp_new0, wp_arN1, wp_arN2, wp_arN3, wp_arN4, wp_arN5, wp_arN6, wp_arN7, wp_addI, wp_subI, wp_negI, wp_int, wp_max2, wp_ord, wp_ltI, wp_chn, wp_eqI, wp_len_lst, wp_len_tup, wp_ixT0, wp_ixT1, wp_ixT2, wp_ixT3, wp_mth, wp_meth, wp_methZ, wp_methK, wp_lc, wp_yes, wp_js, wp_js0, wp_jsM, tyS_str, List.getElem?_cons_succ, List.getElem?_cons_zero, List.set_cons_succ, List.set_cons_zero, if_true, if_false, decide_true, decide_false, Bool.false_eq_true, Bool.not_true, Bool.not_false, reduceIte, List.cons_append, List.nil_append, List.length_cons, List.length_nil, Nat.reduceAdd, and_self, and_true, true_and, th_nx, wp_addS, Str.length_append, l1, l2]
      refine ⟨by omega, endQ_v ?_⟩
      simpa [tx, e0, txh] using hq
    | cons x xs =>
      simp only [List.map_cons, List.isEmpty_cons, wps_nx, wps_bk, wps_ct, wps_retN, wps_kill, wps_set, wps_expr, wps_ret, wps_if, wps_ift, wps_iff, wps_satt, wps_unit, wps_setI, wps_for, th_rt, th_bk, th_ct, th_ex, killT, wp_var, varW_some, wp_retD, wp_ret, wp_pure, wp_bin, wp_un, wp_app, wp_cons, wp_nil, wp_tstD, wp_asB, wp_tstT, wp_truB_bl, wp_truB_tup, wp_truB_lst, wp_andB, wp_orB, wp_notB, wp_valB, wp_andV, wp_orV, wp_notV, wp_ifE, wp_noP, wp_part, wp_asJ, wp_slice, wp_seqI, wp_argI, wp_itm_tup, wp_itm_lst, wp_tup0, wp_tup1, wp_tup2, wp_tup3, wp_tup4, wp_lst0, wp_lst1, wp_lst2, wp_lst3, wp_lst4, wp_lst5, wp_lst6, wp_lst7, wp_lst8, wp_new0, wp_arN1, wp_arN2, wp_arN3, wp_arN4, wp_arN5, wp_arN6, wp_arN7, wp_addI, wp_subI, wp_negI, wp_int, wp_max2, wp_ord, wp_ltI, wp_chn, wp_eqI, wp_len_lst, wp_len_tup, wp_ixT0, wp_ixT1, wp_ixT2, wp_ixT3, wp_mth, wp_meth, wp_methZ, wp_methK, wp_lc, wp_yes, wp_js, wp_js0, wp_jsM, tyS_str, List.getElem?_cons_succ, List.getElem?_cons_zero, List.set_cons_succ, List.set_cons_zero, if_true, if_false, decide_true, decide_false, Bool.false_eq_true, Bool.not_true, Bool.not_false, reduceIte, List.cons_append, List.nil_append, List.length_cons, List.length_nil, Nat.reduceAdd, and_self, and_true, true_and, th_nx, wp_addS, Str.length_append, l1, l2, l3]
      cases sub with
      | none =>
        have hd : d = 0 := hs
        simp only [wps_seq, decide_eq_true hd, wps_nx, wps_bk, wps_ct, wps_retN, wps_kill, wps_set, wps_expr, wps_ret, wps_if, wps_ift, wps_iff, wps_satt, wps_unit, wps_setI, wps_for, th_rt, th_bk, th_ct, th_ex, killT, wp_var, varW_some, wp_retD, wp_ret, wp_pure, wp_bin, wp_un, wp_app, wp_cons, wp_nil, wp_tstD, wp_asB, wp_tstT, wp_truB_bl, wp_truB_tup, wp_truB_lst, wp_andB, wp_orB, wp_notB, wp_valB, wp_andV, wp_orV, wp_notV, wp_ifE, wp_noP, wp_part, wp_asJ, wp_slice, wp_seqI, wp_argI, wp_itm_tup, wp_itm_lst, wp_tup0, wp_tup1, wp_tup2, wp_tup3, wp_tup4, wp_lst0, wp_lst1, wp_lst2, wp_lst3, wp_lst4, wp_lst5, wp_lst6, wp_lst7, wp_lst8, wp_new0, wp_arN1, wp_arN2, wp_arN3, wp_arN4, wp_arN5, wp_arN6, wp_arN7, wp_addI, wp_subI, wp_negI, wp_int, wp_max2, wp_ord, wp_ltI, wp_chn, wp_eqI, wp_len_lst, wp_len_tup, wp_ixT0, wp_ixT1, wp_ixT2, wp_ixT3, wp_mth, wp_meth, wp_methZ, wp_methK, wp_lc, wp_yes, wp_js, wp_js0, wp_jsM, tyS_str, List.getElem?_cons_succ, List.getElem?_cons_zero, List.set_cons_succ, List.set_cons_zero, if_true, if_false, decide_true, decide_false, Bool.false_eq_true, Bool.not_true, Bool.not_false, reduceIte, List.cons_append, List.nil_append, List.length_cons, List.length_nil, Nat.reduceAdd, and_self, and_true, true_and, wp_addS, Str.length_append, l1, l3]
        refine ⟨by omega, endQ_v ?_⟩
        simpa [tx, e0, txh] using hq
      | some g =>
        obtain ⟨hd, hg, hr⟩ := hs
        have hc : clsOf L (.r n) = some 9 := by simp [clsOf, h.c.a]
        rw [wps_seq]
        simp only [decide_eq_false hd, wps_nx, wps_bk, wps_ct, wps_retN, wps_kill, wps_set, wps_expr, wps_ret, wps_if, wps_ift, wps_iff, wps_satt, wps_unit, wps_setI, wps_for, th_rt, th_bk, th_ct, th_ex, killT, wp_var, varW_some, wp_retD, wp_ret, wp_pure, wp_bin, wp_un, wp_app, wp_cons, wp_nil, wp_tstD, wp_asB, wp_tstT, wp_truB_bl, wp_truB_tup, wp_truB_lst, wp_andB, wp_orB, wp_notB, wp_valB, wp_andV, wp_orV, wp_notV, wp_ifE, wp_noP, wp_part, wp_asJ, wp_slice, wp_seqI, wp_argI, wp_itm_tup, wp_itm_lst, wp_tup0, wp_tup1, wp_tup2, wp_tup3, wp_tup4, wp_lst0, wp_lst1, wp_lst2, wp_lst3, wp_lst4, wp_lst5, wp_lst6, wp_lst7, wp_lst8, wp_new0, wp_arN1, wp_arN2, wp_arN3, wp_arN4, wp_arN5, wp_arN6, wp_arN7, wp_addI, wp_subI, wp_negI, wp_int, wp_max2, wp_ord, wp_ltI, wp_chn, wp_eqI, wp_len_lst, wp_len_tup, wp_ixT0, wp_ixT1, wp_ixT2, wp_ixT3, wp_mth, wp_meth, wp_methZ, wp_methK, wp_lc, wp_yes, wp_js, wp_js0, wp_jsM, tyS_str, List.getElem?_cons_succ, List.getElem?_cons_zero, List.set_cons_succ, List.set_cons_zero, if_true, if_false, decide_true, decide_false, Bool.false_eq_true, Bool.not_true, Bool.not_false, reduceIte, List.cons_append, List.nil_append, List.length_cons, List.length_nil, Nat.reduceAdd, and_self, and_true, true_and, th_nx]
        rw [wps_seq]
        simp only [wps_nx, wps_bk, wps_ct, wps_retN, wps_kill, wps_set, wps_expr, wps_ret, wps_if, wps_ift, wps_iff, wps_satt, wps_unit, wps_setI, wps_for, th_rt, th_bk, th_ct, th_ex, killT, wp_var, varW_some, wp_retD, wp_ret, wp_pure, wp_bin, wp_un, wp_app, wp_cons, wp_nil, wp_tstD, wp_asB, wp_tstT, wp_truB_bl, wp_truB_tup, wp_truB_lst, wp_andB, wp_orB, wp_notB, wp_valB, wp_andV, wp_orV, wp_notV, wp_ifE, wp_noP, wp_part, wp_asJ, wp_slice, wp_seqI, wp_argI, wp_itm_tup, wp_itm_lst, wp_tup0, wp_tup1, wp_tup2, wp_tup3, wp_tup4, wp_lst0, wp_lst1, wp_lst2, wp_lst3, wp_lst4, wp_lst5, wp_lst6, wp_lst7, wp_lst8, wp_new0, wp_arN1, wp_arN2, wp_arN3, wp_arN4, wp_arN5, wp_arN6, wp_arN7, wp_addI, wp_subI, wp_negI, wp_int, wp_max2, wp_ord, wp_ltI, wp_chn, wp_eqI, wp_len_lst, wp_len_tup, wp_ixT0, wp_ixT1, wp_ixT2, wp_ixT3, wp_mth, wp_meth, wp_methZ, wp_methK, wp_lc, wp_yes, wp_js, wp_js0, wp_jsM, tyS_str, List.getElem?_cons_succ, List.getElem?_cons_zero, List.set_cons_succ, List.set_cons_zero, if_true, if_false, decide_true, decide_false, Bool.false_eq_true, Bool.not_true, Bool.not_false, reduceIte, List.cons_append, List.nil_append, List.length_cons, List.length_nil, Nat.reduceAdd, and_self, and_true, true_and]
        have h20 := hok.2.2.2.1
        refine wp_lcE (F := fun p => match p with | .int x => some (.str (g x)) | _ => none) (fun _ => trivial) (by have := hok.2.2.2.1; rw [← List.map_cons, List.length_map]; omega) (fun p hp acc => ?_) ?_
        · rw [← List.map_cons] at hp
          obtain ⟨y, hy, rfl⟩ := List.mem_map.mp hp
          have hy2 := hnum y hy
          refine ⟨_, rfl, ?_⟩
          have hC := h.app [.lst acc]
          have hc : clsOf (L ++ [.lst acc]) (.r n) = some 9 := by simp [clsOf, hC.c.a]
          have hr2 := hr y hy2.1 hy2.2 _ hC
          simp only [wps_nx, wps_bk, wps_ct, wps_retN, wps_kill, wps_set, wps_expr, wps_ret, wps_if, wps_ift, wps_iff, wps_satt, wps_unit, wps_setI, wps_for, th_rt, th_bk, th_ct, th_ex, killT, wp_var, varW_some, wp_retD, wp_ret, wp_pure, wp_bin, wp_un, wp_app, wp_cons, wp_nil, wp_tstD, wp_asB, wp_tstT, wp_truB_bl, wp_truB_tup, wp_truB_lst, wp_andB, wp_orB, wp_notB, wp_valB, wp_andV, wp_orV, wp_notV, wp_ifE, wp_noP, wp_part, wp_asJ, wp_slice, wp_seqI, wp_argI, wp_itm_tup, wp_itm_lst, wp_tup0, wp_tup1, wp_tup2, wp_tup3, wp_tup4, wp_lst0, wp_lst1, wp_lst2, wp_lst3, wp_lst4, wp_lst5, wp_lst6, wp_lst7, wp_lst8, wp_new0, wp_arN1, wp_arN2, wp_arN3, wp_arN4, wp_arN5, wp_arN6, wp_arN7, wp_addI, wp_subI, wp_negI, wp_int, wp_max2, wp_ord, wp_ltI, wp_chn, wp_eqI, wp_len_lst, wp_len_tup, wp_ixT0, wp_ixT1, wp_ixT2, wp_ixT3, wp_mth, wp_meth, wp_methZ, wp_methK, wp_lc, wp_yes, wp_js, wp_js0, wp_jsM, tyS_str, List.getElem?_cons_succ, List.getElem?_cons_zero, List.set_cons_succ, List.set_cons_zero, if_true, if_false, decide_true, decide_false, Bool.false_eq_true, Bool.not_true, Bool.not_false, reduceIte, List.cons_append, List.nil_append, List.length_cons, List.length_nil, Nat.reduceAdd, and_self, and_true, true_and, hc, wp_of hr2]
          exact ⟨_, rfl, rfl⟩
        · rw [← List.map_cons, fm_map (g := fun x => .str (g x)) fun y _ => rfl]
          have sj := sumj hg h20
          simp only [th_nx, wps_nx, wps_bk, wps_ct, wps_retN, wps_kill, wps_set, wps_expr, wps_ret, wps_if, wps_ift, wps_iff, wps_satt, wps_unit, wps_setI, wps_for, th_rt, th_bk, th_ct, th_ex, killT, wp_var, varW_some, wp_retD, wp_ret, wp_pure, wp_bin, wp_un, wp_app, wp_cons, wp_nil, wp_tstD, wp_asB, wp_tstT, wp_truB_bl, wp_truB_tup, wp_truB_lst, wp_andB, wp_orB, wp_notB, wp_valB, wp_andV, wp_orV, wp_notV, wp_ifE, wp_noP, wp_part, wp_asJ, wp_slice, wp_seqI, wp_argI, wp_itm_tup, wp_itm_lst, wp_tup0, wp_tup1, wp_tup2, wp_tup3, wp_tup4, wp_lst0, wp_lst1, wp_lst2, wp_lst3, wp_lst4, wp_lst5, wp_lst6, wp_lst7, wp_lst8, wp_new0, wp_arN1, wp_arN2, wp_arN3, wp_arN4, wp_arN5, wp_arN6, wp_arN7, wp_addI, wp_subI, wp_negI, wp_int, wp_max2, wp_ord, wp_ltI, wp_chn, wp_eqI, wp_len_lst, wp_len_tup, wp_ixT0, wp_ixT1, wp_ixT2, wp_ixT3, wp_mth, wp_meth, wp_methZ, wp_methK, wp_lc, wp_yes, wp_js, wp_js0, wp_jsM, tyS_str, List.getElem?_cons_succ, List.getElem?_cons_zero, List.set_cons_succ, List.set_cons_zero, if_true, if_false, decide_true, decide_false, Bool.false_eq_true, Bool.not_true, Bool.not_false, reduceIte, List.cons_append, List.nil_append, List.length_cons, List.length_nil, Nat.reduceAdd, and_self, and_true, true_and, wp_join (strs_tx g _) (Nat.le_trans sj (by omega)), wp_fmtS, Str.empty_append, Str.length_append, l1, l4, l5]
          have jl := join_le ", " ((x :: xs).map g)
          have zz : sizeLine = 16777216 := sizeLine_eq
          refine ⟨by omega, by omega, by omega, by omega, by omega, by omega, endQ_v ?_⟩
          simpa [tx, e0, txh] using hq
theorem text_ok {n : Nat} {fs : List Fm} : ∀ (d s i : Nat), d ≤ 4 → i < fs.length → ∀ L, Cf n L fs → f_Contents_text (d + 1 + s) [.r n, .v (.int i), .v (.int d)] L = some (.ok (.v (.str (txt fs d i))), L) := by
  intro d
  induction d with
  | zero =>
    intro s i hd hi L h
    refine wp_eq ?_
    rw [show 0 + 1 + s = s + 1 by omega]
    exact text_step h (B := 0) (by decide) hi (sub := none) rfl ⟨rfl, rfl⟩
  | succ d ih =>
    intro s i hd hi L h
    refine wp_eq ?_
    rw [show d + 1 + 1 + s = (d + 1 + s) + 1 by omega]
    have hb : bd d ≤ 522100 := by
      match d, (show d ≤ 3 by omega) with
      | 0, _ => decide
      | 1, _ => decide
      | 2, _ => decide
      | 3, _ => decide
    refine text_step h (B := bd d) (by omega) hi (sub := some fun x => txt fs d x.toNat) ⟨by omega, fun x => txt_bd h.f d _, fun x h0 h1 L' hL' => ?_⟩ ⟨rfl, rfl⟩
    have := ih s x.toNat (by omega) (by omega) L' hL'
    rw [Int.toNat_of_nonneg h0] at this
    rw [show ((d + 1 : Nat) : Int) - 1 = (d : Int) by omega]
    exact this
structure Kn (m : Nat) (L : List MO) (fs : List Fm) : Prop where
  a : L[m]? = some (.lst (fs.map Fm.p))
  f : ∀ f ∈ fs, f.ok
  r : ∀ f ∈ fs, ∀ x ∈ f.nums, 0 ≤ x ∧ x < fs.length
theorem Kn.app {m : Nat} {L : List MO} {fs : List Fm} (h : Kn m L fs) (X : List MO) : Kn m (L ++ X) fs := by
  have hl : m < L.length := (List.getElem?_eq_some_iff.mp h.a).1
  exact ⟨by rw [List.getElem?_append_left hl]; exact h.a, h.f, h.r⟩
theorem wp_ixN {xs : List P} {r : Nat} {i : Int} {p : P} (hi : i = r) (h : xs[r]? = some p) {L : List MO} {E : EX} {Q : D → List MO → Prop} : wp (ixA (.v (.tup xs)) (.v (.int i))) L E Q = Q (.v p) L := by
  subst hi
  exact wp_ixT h
theorem ltext_step {m : Nat} {L : List MO} {fs : List Fm} (h : Kn m L fs) {rec : List D → M D} {d : Int} {sub : Option (Int → Str)} {B i : Nat} (hB : 100 + 20 * (B + 2) ≤ 16777216) (hi : i < fs.length)
    (hs : Sub fs.length d B (fun x e y => ∀ L', Kn m L' fs → rec [.r m, .v (.int x), .v (.int e)] L' = some (.ok (.v (.str y)), L')) sub) {E : EX} {Q : D → List MO → Prop} (hq : Q (.v (.str (tx fs sub i))) L) : wp (scopeF false (bodyF 7 (d_q_text rec)) [.r m, .v (.int i), .v (.int d)]) L E Q := by
  obtain ⟨t1, t2, t3, t4, t5, t6, t7⟩ := ok_tags
  have e0 : fs[i]? = some fs[i] := List.getElem?_eq_getElem hi
  have wf := fun E Q => wp_ixR (E := E) (Q := Q) h.a (i := i) (p := fs[i].p) (by rw [List.getElem?_map, e0]; rfl)
  have hok := h.f _ (List.mem_of_getElem? e0)
  have hnum := h.r _ (List.mem_of_getElem? e0)
  have z : (1000 : Nat) ≤ sizeLine := le_line 1000 (by decide)
  refine wp_scope ?_
  show wps (d_q_text rec) [some (.r m), some (.v (.int i)), some (.v (.int d)), none, none, none, none] L _
  unfold d_q_text
  rw [wps_seq]
  simp only [wps_nx, wps_bk, wps_ct, wps_retN, wps_kill, wps_set, wps_expr, wps_ret, wps_if, wps_ift, wps_iff, wps_satt, wps_unit, wps_setI, wps_for, th_rt, th_bk, th_ct, th_ex, killT, wp_var, varW_some, wp_retD, wp_ret, wp_pure, wp_bin, wp_un, wp_app, wp_cons, wp_nil, wp_tstD, wp_asB, wp_tstT, wp_truB_bl, wp_truB_tup, wp_truB_lst, wp_andB, wp_orB, wp_notB, wp_valB, wp_andV, wp_orV, wp_notV, wp_ifE, wp_noP, wp_part, wp_asJ, wp_slice, wp_seqI, wp_argI, wp_itm_tup, wp_itm_lst, wp_tup0, wp_tup1, wp_tup2, wp_tup3, wp_tup4, wp_lst0, wp_lst1, wp_lst2, wp_lst3, wp_lst4, wp_lst5, wp_lst6, wp_lst7, wp_lst8, wp_new0, wp_arN1, wp_arN2, wp_arN3, wp_arN4, wp_arN5, wp_arN6, wp_arN7, wp_addI, wp_subI, wp_negI, wp_int, wp_max2, wp_ord, wp_ltI, wp_chn, wp_eqI, wp_len_lst, wp_len_tup, wp_ixT0, wp_ixT1, wp_ixT2, wp_ixT3, wp_mth, wp_meth, wp_methZ, wp_methK, wp_lc, wp_yes, wp_js, wp_js0, wp_jsM, tyS_str, List.getElem?_cons_succ, List.getElem?_cons_zero, List.set_cons_succ, List.set_cons_zero, if_true, if_false, decide_true, decide_false, Bool.false_eq_true, Bool.not_true, Bool.not_false, reduceIte, List.cons_append, List.nil_append, List.length_cons, List.length_nil, Nat.reduceAdd, and_self, and_true, true_and, wf]
  simp only [th_nx, wps_nx, wps_bk, wps_ct, wps_retN, wps_kill, wps_set, wps_expr, wps_ret, wps_if, wps_ift, wps_iff, wps_satt, wps_unit, wps_setI, wps_for, th_rt, th_bk, th_ct, th_ex, killT, wp_var, varW_some, wp_retD, wp_ret, wp_pure, wp_bin, wp_un, wp_app, wp_cons, wp_nil, wp_tstD, wp_asB, wp_tstT, wp_truB_bl, wp_truB_tup, wp_truB_lst, wp_andB, wp_orB, wp_notB, wp_valB, wp_andV, wp_orV, wp_notV, wp_ifE, wp_noP, wp_part, wp_asJ, wp_slice, wp_seqI, wp_argI, wp_itm_tup, wp_itm_lst, wp_tup0, wp_tup1, wp_tup2, wp_tup3, wp_tup4, wp_lst0, wp_lst1, wp_lst2, wp_lst3, wp_lst4, wp_lst5, wp_lst6, wp_lst7, wp_lst8, wp_new0, wp_arN1, wp_arN2, wp_arN3, wp_arN4, wp_arN5, wp_arN6, wp_arN7, wp_addI, wp_subI, wp_negI, wp_int, wp_max2, wp_ord, wp_ltI, wp_chn, wp_eqI, wp_len_lst, wp_len_tup, wp_ixT0, wp_ixT1, wp_ixT2, wp_ixT3, wp_mth, wp_meth, wp_methZ, wp_methK, wp_lc, wp_yes, wp_js, wp_js0, wp_jsM, tyS_str, List.getElem?_cons_succ, List.getElem?_cons_zero, List.set_cons_succ, List.set_cons_zero, if_true, if_false, decide_true, decide_false, Bool.false_eq_true, Bool.not_true, Bool.not_false, reduceIte, List.cons_append, List.nil_append, List.length_cons, List.length_nil, Nat.reduceAdd, and_self, and_true, true_and, wps_seq]
  have l2 := lit_len "()" 2
  have l1 := lit_len "." 1
  have l3 := lit_len "(..)" 4
  have l4 := lit_len "(" 1
  have l5 := lit_len ")" 1
  have l7 := lit_len ":" 1
  cases ef0 : fs[i] with
  | start nm k =>
    rw [ef0] at hok hnum e0
    have a := txt_len k hok.2.1 hok.2.2
    have b := low_len hok.1
    simp only [Fm.p, wps_nx, wps_bk, wps_ct, wps_retN, wps_kill, wps_set, wps_expr, wps_ret, wps_if, wps_ift, wps_iff, wps_satt, wps_unit, wps_setI, wps_for, th_rt, th_bk, th_ct, th_ex, killT, wp_var, varW_some, wp_retD, wp_ret, wp_pure, wp_bin, wp_un, wp_app, wp_cons, wp_nil, wp_tstD, wp_asB, wp_tstT, wp_truB_bl, wp_truB_tup, wp_truB_lst, wp_andB, wp_orB, wp_notB, wp_valB, wp_andV, wp_orV, wp_notV, wp_ifE, wp_noP, wp_part, wp_asJ, wp_slice, wp_seqI, wp_argI, wp_itm_tup, wp_itm_lst, wp_tup0, wp_tup1, wp_tup2, wp_tup3, wp_tup4, wp_lst0, wp_lst1, wp_lst2, wp_lst3, wp_lst4, wp_lst5, wp_lst6, wp_lst7, wp_lst8, wp_new0, wp_arN1, wp_arN2, wp_arN3, wp_arN4, wp_arN5, wp_arN6, wp_arN7, wp_addI, wp_subI, wp_negI, wp_int, wp_max2, wp_ord, wp_ltI, wp_chn, wp_eqI, wp_len_lst, wp_len_tup, wp_ixT0, wp_ixT1, wp_ixT2, wp_ixT3, wp_mth, wp_meth, wp_methZ, wp_methK, wp_lc, wp_yes, wp_js, wp_js0, wp_jsM, tyS_str, List.getElem?_cons_succ, List.getElem?_cons_zero, List.set_cons_succ, List.set_cons_zero, if_true, if_false, decide_true, decide_false, Bool.false_eq_true, Bool.not_true, Bool.not_false, reduceIte, List.cons_append, List.nil_append, List.length_cons, List.length_nil, Nat.reduceAdd, and_self, and_true, true_and, wp_eqS t1 t1, th_nx, wp_addS, wp_strI, Str.length_append, l7]
    refine ⟨by omega, a.2, by omega, ?_⟩
    refine endQ_v ?_
    simpa [tx, e0] using hq
  | fresh st nm =>
    rw [ef0] at hok hnum e0
    have a := txt_len st hok.2.1 hok.2.2
    have b := low_len hok.1
    simp only [Fm.p, wps_nx, wps_bk, wps_ct, wps_retN, wps_kill, wps_set, wps_expr, wps_ret, wps_if, wps_ift, wps_iff, wps_satt, wps_unit, wps_setI, wps_for, th_rt, th_bk, th_ct, th_ex, killT, wp_var, varW_some, wp_retD, wp_ret, wp_pure, wp_bin, wp_un, wp_app, wp_cons, wp_nil, wp_tstD, wp_asB, wp_tstT, wp_truB_bl, wp_truB_tup, wp_truB_lst, wp_andB, wp_orB, wp_notB, wp_valB, wp_andV, wp_orV, wp_notV, wp_ifE, wp_noP, wp_part, wp_asJ, wp_slice, wp_seqI, wp_argI, wp_itm_tup, wp_itm_lst, wp_tup0, wp_tup1, wp_tup2, wp_tup3, wp_tup4, wp_lst0, wp_lst1, wp_lst2, wp_lst3, wp_lst4, wp_lst5, wp_lst6, wp_lst7, wp_lst8, wp_new0, wp_arN1, wp_arN2, wp_arN3, wp_arN4, wp_arN5, wp_arN6, wp_arN7, wp_addI, wp_subI, wp_negI, wp_int, wp_max2, wp_ord, wp_ltI, wp_chn, wp_eqI, wp_len_lst, wp_len_tup, wp_ixT0, wp_ixT1, wp_ixT2, wp_ixT3, wp_mth, wp_meth, wp_methZ, wp_methK, wp_lc, wp_yes, wp_js, wp_js0, wp_jsM, tyS_str, List.getElem?_cons_succ, List.getElem?_cons_zero, List.set_cons_succ, List.set_cons_zero, if_true, if_false, decide_true, decide_false, Bool.false_eq_true, Bool.not_true, Bool.not_false, reduceIte, List.cons_append, List.nil_append, List.length_cons, List.length_nil, Nat.reduceAdd, and_self, and_true, true_and, wp_eqS t2 t1, wp_eqS t2 t2, t5, th_nx, wps_seq, wp_strI, wp_addS, Str.length_append, l1, l2]
    refine ⟨a.2, by omega, by omega, by omega, ?_⟩
    refine endQ_v ?_
    simpa [tx, e0, txh] using hq
  | der st nm xs =>
    rw [ef0] at hok hnum e0
    have a := txt_len st hok.2.1 hok.2.2.1
    have b := low_len hok.1
    have ht : ∀ {neg : Bool} {xs : List Int} {E : EX} {Q : D → List MO → Prop} {L : List MO}, xs.length ≤ 20 → wp (eqD neg (.v (.tup (xs.map P.int))) (.v (.tup []))) L E Q = Q (.v (.bl (if neg = true then !xs.isEmpty else xs.isEmpty))) L := by
      intro neg xs E Q L _
      refine wp_of ?_
      have c1 : Cmp (.tup (xs.map P.int)) := ⟨by rw [nb]; exact nbs_ints xs, by simp [pd, PyData.depth, pdep_ints]⟩
      have c2 : Cmp (.tup []) := ⟨rfl, by decide⟩
      classical
      have e : decide (P.tup (xs.map P.int) = .tup []) = xs.isEmpty := by cases xs <;> simp
      cases neg
      · rw [eq_cmp c1 c2, e]; rfl
      · rw [ne_cmp c1 c2, e]; rfl
    simp only [Fm.p, wps_nx, wps_bk, wps_ct, wps_retN, wps_kill, wps_set, wps_expr, wps_ret, wps_if, wps_ift, wps_iff, wps_satt, wps_unit, wps_setI, wps_for, th_rt, th_bk, th_ct, th_ex, killT, wp_var, varW_some, wp_retD, wp_ret, wp_pure, wp_bin, wp_un, wp_app, wp_cons, wp_nil, wp_tstD, wp_asB, wp_tstT, wp_truB_bl, wp_truB_tup, wp_truB_lst, wp_andB, wp_orB, wp_notB, wp_valB, wp_andV, wp_orV, wp_notV, wp_ifE, wp_noP, wp_part, wp_asJ, wp_slice, wp_seqI, wp_argI, wp_itm_tup, wp_itm_lst, wp_tup0, wp_tup1, wp_tup2, wp_tup3, wp_tup4, wp_lst0, wp_lst1, wp_lst2, wp_lst3, wp_lst4, wp_lst5, wp_lst6, wp_lst7, wp_lst8, wp_new0, wp_arN1, wp_arN2, wp_arN3, wp_arN4, wp_arN5, wp_arN6, wp_arN7, wp_addI, wp_subI, wp_negI, wp_int, wp_max2, wp_ord, wp_ltI, wp_chn, wp_eqI, wp_len_lst, wp_len_tup, wp_ixT0, wp_ixT1, wp_ixT2, wp_ixT3, wp_mth, wp_meth, wp_methZ, wp_methK, wp_lc, wp_yes, wp_js, wp_js0, wp_jsM, tyS_str, List.getElem?_cons_succ, List.getElem?_cons_zero, List.set_cons_succ, List.set_cons_zero, if_true, if_false, decide_true, decide_false, Bool.false_eq_true, Bool.not_true, Bool.not_false, reduceIte, List.cons_append, List.nil_append, List.length_cons, List.length_nil, Nat.reduceAdd, and_self, and_true, true_and, wp_eqS t3 t1, wp_eqS t3 t2, t6, t7, th_nx, wps_seq, wp_strI, wp_addS, Str.length_append, l1, l2, ht hok.2.2.2.1]
    refine ⟨a.2, by omega, by omega, ?_⟩
    cases xs with
    | nil =>
      simp only [List.map_nil, List.isEmpty_nil, wps_nx, wps_bk, wps_ct, wps_retN, wps_kill, wps_set, wps_expr, wps_ret, wps_if, wps_ift, wps_iff, wps_satt, wps_unit, wps_setI, wps_for, th_rt, th_bk, th_ct, th_ex, killT, wp_var, varW_some, wp_retD, wp_ret, wp_pure, wp_bin, wp_un, wp_app, wp_cons, wp_nil, wp_tstD, wp_asB, wp_tstT, wp_truB_bl, wp_truB_tup, wp_truB_lst, wp_andB, wp_orB, wp_notB, wp_valB, wp_andV, wp_orV, wp_notV, wp_ifE, wp_noP, wp_part, wp_asJ, wp_slice, wp_seqI, wp_argI, wp_itm_tup, wp_itm_lst, wp_tup0, wp_tup1, wp_tup2, wp_tup3, wp_tup4, wp_lst0, wp_lst1, wp_lst2, wp_lst3, wp_lst4, wp_lst5, wp_lst6, wp_lst7, wp_lst8, wp_new0, wp_arN1, wp_arN2, wp_arN3, wp_arN4, wp_arN5, wp_arN6, wp_arN7, wp_addI, wp_subI, wp_negI, wp_int, wp_max2, wp_ord, wp_ltI, wp_chn, wp_eqI, wp_len_lst, wp_len_tup, wp_ixT0, wp_ixT1, wp_ixT2, wp_ixT3, wp_mth, wp_meth, wp_methZ, wp_methK, wp_lc, wp_yes, wp_js, wp_js0, wp_jsM, tyS_str, List.getElem?_cons_succ, List.getElem?_cons_zero, List.set_cons_succ, List.set_cons_zero, if_true, if_false, decide_true, decide_false, Bool.false_eq_true, Bool.not_true, Bool.not_false, reduceIte, List.cons_append, List.nil_append, List.length_cons, List.length_nil, Nat.reduceAdd, and_self, and_true, true_and, th_nx, wp_addS, Str.length_append, l1, l2]
      refine ⟨by omega, endQ_v ?_⟩
      simpa [tx, e0, txh] using hq
    | cons x xs =>
      simp only [List.map_cons, List.isEmpty_cons, wps_nx, wps_bk, wps_ct, wps_retN, wps_kill, wps_set, wps_expr, wps_ret, wps_if, wps_ift, wps_iff, wps_satt, wps_unit, wps_setI, wps_for, th_rt, th_bk, th_ct, th_ex, killT, wp_var, varW_some, wp_retD, wp_ret, wp_pure, wp_bin, wp_un, wp_app, wp_cons, wp_nil, wp_tstD, wp_asB, wp_tstT, wp_truB_bl, wp_truB_tup, wp_truB_lst, wp_andB, wp_orB, wp_notB, wp_valB, wp_andV, wp_orV, wp_notV, wp_ifE, wp_noP, wp_part, wp_asJ, wp_slice, wp_seqI, wp_argI, wp_itm_tup, wp_itm_lst, wp_tup0, wp_tup1, wp_tup2, wp_tup3, wp_tup4, wp_lst0, wp_lst1, wp_lst2, wp_lst3, wp_lst4, wp_lst5, wp_lst6, wp_lst7, wp_lst8, wp_new0, wp_arN1, wp_arN2, wp_arN3, wp_arN4, wp_arN5, wp_arN6, wp_arN7, wp_addI, wp_subI, wp_negI, wp_int, wp_max2, wp_ord, wp_ltI, wp_chn, wp_eqI, wp_len_lst, wp_len_tup, wp_ixT0, wp_ixT1, wp_ixT2, wp_ixT3, wp_mth, wp_meth, wp_methZ, wp_methK, wp_lc, wp_yes, wp_js, wp_js0, wp_jsM, tyS_str, List.getElem?_cons_succ, List.getElem?_cons_zero, List.set_cons_succ, List.set_cons_zero, if_true, if_false, decide_true, decide_false, Bool.false_eq_true, Bool.not_true, Bool.not_false, reduceIte, List.cons_append, List.nil_append, List.length_cons, List.length_nil, Nat.reduceAdd, and_self, and_true, true_and, th_nx, wp_addS, Str.length_append, l1, l2, l3]
      cases sub with
      | none =>
        have hd : d = 0 := hs
        simp only [wps_seq, decide_eq_true hd, wps_nx, wps_bk, wps_ct, wps_retN, wps_kill, wps_set, wps_expr, wps_ret, wps_if, wps_ift, wps_iff, wps_satt, wps_unit, wps_setI, wps_for, th_rt, th_bk, th_ct, th_ex, killT, wp_var, varW_some, wp_retD, wp_ret, wp_pure, wp_bin, wp_un, wp_app, wp_cons, wp_nil, wp_tstD, wp_asB, wp_tstT, wp_truB_bl, wp_truB_tup, wp_truB_lst, wp_andB, wp_orB, wp_notB, wp_valB, wp_andV, wp_orV, wp_notV, wp_ifE, wp_noP, wp_part, wp_asJ, wp_slice, wp_seqI, wp_argI, wp_itm_tup, wp_itm_lst, wp_tup0, wp_tup1, wp_tup2, wp_tup3, wp_tup4, wp_lst0, wp_lst1, wp_lst2, wp_lst3, wp_lst4, wp_lst5, wp_lst6, wp_lst7, wp_lst8, wp_new0, wp_arN1, wp_arN2, wp_arN3, wp_arN4, wp_arN5, wp_arN6, wp_arN7, wp_addI, wp_subI, wp_negI, wp_int, wp_max2, wp_ord, wp_ltI, wp_chn, wp_eqI, wp_len_lst, wp_len_tup, wp_ixT0, wp_ixT1, wp_ixT2, wp_ixT3, wp_mth, wp_meth, wp_methZ, wp_methK, wp_lc, wp_yes, wp_js, wp_js0, wp_jsM, tyS_str, List.getElem?_cons_succ, List.getElem?_cons_zero, List.set_cons_succ, List.set_cons_zero, if_true, if_false, decide_true, decide_false, Bool.false_eq_true, Bool.not_true, Bool.not_false, reduceIte, List.cons_append, List.nil_append, List.length_cons, List.length_nil, Nat.reduceAdd, and_self, and_true, true_and, wp_addS, Str.length_append, l1, l3]
        refine ⟨by omega, endQ_v ?_⟩
        simpa [tx, e0, txh] using hq
      | some g =>
        obtain ⟨hd, hg, hr⟩ := hs
        rw [wps_seq]
        simp only [decide_eq_false hd, wps_nx, wps_bk, wps_ct, wps_retN, wps_kill, wps_set, wps_expr, wps_ret, wps_if, wps_ift, wps_iff, wps_satt, wps_unit, wps_setI, wps_for, th_rt, th_bk, th_ct, th_ex, killT, wp_var, varW_some, wp_retD, wp_ret, wp_pure, wp_bin, wp_un, wp_app, wp_cons, wp_nil, wp_tstD, wp_asB, wp_tstT, wp_truB_bl, wp_truB_tup, wp_truB_lst, wp_andB, wp_orB, wp_notB, wp_valB, wp_andV, wp_orV, wp_notV, wp_ifE, wp_noP, wp_part, wp_asJ, wp_slice, wp_seqI, wp_argI, wp_itm_tup, wp_itm_lst, wp_tup0, wp_tup1, wp_tup2, wp_tup3, wp_tup4, wp_lst0, wp_lst1, wp_lst2, wp_lst3, wp_lst4, wp_lst5, wp_lst6, wp_lst7, wp_lst8, wp_new0, wp_arN1, wp_arN2, wp_arN3, wp_arN4, wp_arN5, wp_arN6, wp_arN7, wp_addI, wp_subI, wp_negI, wp_int, wp_max2, wp_ord, wp_ltI, wp_chn, wp_eqI, wp_len_lst, wp_len_tup, wp_ixT0, wp_ixT1, wp_ixT2, wp_ixT3, wp_mth, wp_meth, wp_methZ, wp_methK, wp_lc, wp_yes, wp_js, wp_js0, wp_jsM, tyS_str, List.getElem?_cons_succ, List.getElem?_cons_zero, List.set_cons_succ, List.set_cons_zero, if_true, if_false, decide_true, decide_false, Bool.false_eq_true, Bool.not_true, Bool.not_false, reduceIte, List.cons_append, List.nil_append, List.length_cons, List.length_nil, Nat.reduceAdd, and_self, and_true, true_and, th_nx]
        rw [wps_seq]
        simp only [wps_nx, wps_bk, wps_ct, wps_retN, wps_kill, wps_set, wps_expr, wps_ret, wps_if, wps_ift, wps_iff, wps_satt, wps_unit, wps_setI, wps_for, th_rt, th_bk, th_ct, th_ex, killT, wp_var, varW_some, wp_retD, wp_ret, wp_pure, wp_bin, wp_un, wp_app, wp_cons, wp_nil, wp_tstD, wp_asB, wp_tstT, wp_truB_bl, wp_truB_tup, wp_truB_lst, wp_andB, wp_orB, wp_notB, wp_valB, wp_andV, wp_orV, wp_notV, wp_ifE, wp_noP, wp_part, wp_asJ, wp_slice, wp_seqI, wp_argI, wp_itm_tup, wp_itm_lst, wp_tup0, wp_tup1, wp_tup2, wp_tup3, wp_tup4, wp_lst0, wp_lst1, wp_lst2, wp_lst3, wp_lst4, wp_lst5, wp_lst6, wp_lst7, wp_lst8, wp_new0, wp_arN1, wp_arN2, wp_arN3, wp_arN4, wp_arN5, wp_arN6, wp_arN7, wp_addI, wp_subI, wp_negI, wp_int, wp_max2, wp_ord, wp_ltI, wp_chn, wp_eqI, wp_len_lst, wp_len_tup, wp_ixT0, wp_ixT1, wp_ixT2, wp_ixT3, wp_mth, wp_meth, wp_methZ, wp_methK, wp_lc, wp_yes, wp_js, wp_js0, wp_jsM, tyS_str, List.getElem?_cons_succ, List.getElem?_cons_zero, List.set_cons_succ, List.set_cons_zero, if_true, if_false, decide_true, decide_false, Bool.false_eq_true, Bool.not_true, Bool.not_false, reduceIte, List.cons_append, List.nil_append, List.length_cons, List.length_nil, Nat.reduceAdd, and_self, and_true, true_and]
        have h20 := hok.2.2.2.1
        refine wp_lcE (F := fun p => match p with | .int x => some (.str (g x)) | _ => none) (fun _ => trivial) (by have := hok.2.2.2.1; rw [← List.map_cons, List.length_map]; omega) (fun p hp acc => ?_) ?_
        · rw [← List.map_cons] at hp
          obtain ⟨y, hy, rfl⟩ := List.mem_map.mp hp
          have hy2 := hnum y hy
          refine ⟨_, rfl, ?_⟩
          have hC := h.app [.lst acc]
          have hr2 := hr y hy2.1 hy2.2 _ hC
          simp only [wps_nx, wps_bk, wps_ct, wps_retN, wps_kill, wps_set, wps_expr, wps_ret, wps_if, wps_ift, wps_iff, wps_satt, wps_unit, wps_setI, wps_for, th_rt, th_bk, th_ct, th_ex, killT, wp_var, varW_some, wp_retD, wp_ret, wp_pure, wp_bin, wp_un, wp_app, wp_cons, wp_nil, wp_tstD, wp_asB, wp_tstT, wp_truB_bl, wp_truB_tup, wp_truB_lst, wp_andB, wp_orB, wp_notB, wp_valB, wp_andV, wp_orV, wp_notV, wp_ifE, wp_noP, wp_part, wp_asJ, wp_slice, wp_seqI, wp_argI, wp_itm_tup, wp_itm_lst, wp_tup0, wp_tup1, wp_tup2, wp_tup3, wp_tup4, wp_lst0, wp_lst1, wp_lst2, wp_lst3, wp_lst4, wp_lst5, wp_lst6, wp_lst7, wp_lst8, wp_new0, wp_arN1, wp_arN2, wp_arN3, wp_arN4, wp_arN5, wp_arN6, wp_arN7, wp_addI, wp_subI, wp_negI, wp_int, wp_max2, wp_ord, wp_ltI, wp_chn, wp_eqI, wp_len_lst, wp_len_tup, wp_ixT0, wp_ixT1, wp_ixT2, wp_ixT3, wp_mth, wp_meth, wp_methZ, wp_methK, wp_lc, wp_yes, wp_js, wp_js0, wp_jsM, tyS_str, List.getElem?_cons_succ, List.getElem?_cons_zero, List.set_cons_succ, List.set_cons_zero, if_true, if_false, decide_true, decide_false, Bool.false_eq_true, Bool.not_true, Bool.not_false, reduceIte, List.cons_append, List.nil_append, List.length_cons, List.length_nil, Nat.reduceAdd, and_self, and_true, true_and, wp_of hr2]
          exact ⟨_, rfl, rfl⟩
        · rw [← List.map_cons, fm_map (g := fun x => .str (g x)) fun y _ => rfl]
          have sj := sumj hg h20
          simp only [th_nx, wps_nx, wps_bk, wps_ct, wps_retN, wps_kill, wps_set, wps_expr, wps_ret, wps_if, wps_ift, wps_iff, wps_satt, wps_unit, wps_setI, wps_for, th_rt, th_bk, th_ct, th_ex, killT, wp_var, varW_some, wp_retD, wp_ret, wp_pure, wp_bin, wp_un, wp_app, wp_cons, wp_nil, wp_tstD, wp_asB, wp_tstT, wp_truB_bl, wp_truB_tup, wp_truB_lst, wp_andB, wp_orB, wp_notB, wp_valB, wp_andV, wp_orV, wp_notV, wp_ifE, wp_noP, wp_part, wp_asJ, wp_slice, wp_seqI, wp_argI, wp_itm_tup, wp_itm_lst, wp_tup0, wp_tup1, wp_tup2, wp_tup3, wp_tup4, wp_lst0, wp_lst1, wp_lst2, wp_lst3, wp_lst4, wp_lst5, wp_lst6, wp_lst7, wp_lst8, wp_new0, wp_arN1, wp_arN2, wp_arN3, wp_arN4, wp_arN5, wp_arN6, wp_arN7, wp_addI, wp_subI, wp_negI, wp_int, wp_max2, wp_ord, wp_ltI, wp_chn, wp_eqI, wp_len_lst, wp_len_tup, wp_ixT0, wp_ixT1, wp_ixT2, wp_ixT3, wp_mth, wp_meth, wp_methZ, wp_methK, wp_lc, wp_yes, wp_js, wp_js0, wp_jsM, tyS_str, List.getElem?_cons_succ, List.getElem?_cons_zero, List.set_cons_succ, List.set_cons_zero, if_true, if_false, decide_true, decide_false, Bool.false_eq_true, Bool.not_true, Bool.not_false, reduceIte, List.cons_append, List.nil_append, List.length_cons, List.length_nil, Nat.reduceAdd, and_self, and_true, true_and, wp_join (strs_tx g _) (Nat.le_trans sj (by omega)), wp_addS, Str.length_append, l1, l4, l5]
          have jl := join_le ", " ((x :: xs).map g)
          have zz : sizeLine = 16777216 := sizeLine_eq
          refine ⟨by omega, by omega, by omega, endQ_v ?_⟩
          simpa [tx, e0, txh] using hq
theorem ltext_ok {m : Nat} {fs : List Fm} : ∀ (d s i : Nat), d ≤ 4 → i < fs.length → ∀ L, Kn m L fs → f_q_text (d + 1 + s) [.r m, .v (.int i), .v (.int d)] L = some (.ok (.v (.str (txt fs d i))), L) := by
  intro d
  induction d with
  | zero =>
    intro s i hd hi L h
    refine wp_eq ?_
    rw [show 0 + 1 + s = s + 1 by omega]
    exact ltext_step h (B := 0) (by decide) hi (sub := none) rfl ⟨rfl, rfl⟩
  | succ d ih =>
    intro s i hd hi L h
    refine wp_eq ?_
    rw [show d + 1 + 1 + s = (d + 1 + s) + 1 by omega]
    have hb : bd d ≤ 522100 := by
      match d, (show d ≤ 3 by omega) with
      | 0, _ => decide
      | 1, _ => decide
      | 2, _ => decide
      | 3, _ => decide
    refine ltext_step h (B := bd d) (by omega) hi (sub := some fun x => txt fs d x.toNat) ⟨by omega, fun x => txt_bd h.f d _, fun x h0 h1 L' hL' => ?_⟩ ⟨rfl, rfl⟩
    have := ih s x.toNat (by omega) (by omega) L' hL'
    rw [Int.toNat_of_nonneg h0] at this
    rw [show ((d + 1 : Nat) : Int) - 1 = (d : Int) by omega]
    exact this
/-- a number that the table does not have -/
theorem text_no {n : Nat} {L : List MO} {ks : List P} (h : Con n L ks) {i : Int} (h1 : i < 0 ∨ (ks.length : Int) ≤ i) {d : D} {s : Nat} : f_Contents_text (s + 1) [.r n, .v (.int i), d] L = some (.ex 27 [.int i], L) := by
  have hm : (clsOf L (.r n)).bind tm_formula = some f_Contents_formula := by simp [clsOf, h.a, tm_formula]
  have wf := fun E Q => wp_ofx (E := E) (Q := Q) (con_no h h1)
  refine wp_ex ?_
  unfold f_Contents_text
  refine wp_scope ?_
  show wps (d_Contents_text _) [some (.r n), some (.v (.int i)), some d, none, none, none, none] L _
  unfold d_Contents_text
  rw [wps_seq]
  simp only [wps_nx, wps_bk, wps_ct, wps_retN, wps_kill, wps_set, wps_expr, wps_ret, wps_if, wps_ift, wps_iff, wps_satt, wps_unit, wps_setI, wps_for, th_rt, th_bk, th_ct, th_ex, killT, wp_var, varW_some, wp_retD, wp_ret, wp_pure, wp_bin, wp_un, wp_app, wp_cons, wp_nil, wp_tstD, wp_asB, wp_tstT, wp_truB_bl, wp_truB_tup, wp_truB_lst, wp_andB, wp_orB, wp_notB, wp_valB, wp_andV, wp_orV, wp_notV, wp_ifE, wp_noP, wp_part, wp_asJ, wp_slice, wp_seqI, wp_argI, wp_itm_tup, wp_itm_lst, wp_tup0, wp_tup1, wp_tup2, wp_tup3, wp_tup4, wp_lst0, wp_lst1, wp_lst2, wp_lst3, wp_lst4, wp_lst5, wp_lst6, wp_lst7, wp_lst8, wp_new0, wp_arN1, wp_arN2, wp_arN3, wp_arN4, wp_arN5, wp_arN6, wp_arN7, wp_addI, wp_subI, wp_negI, wp_int, wp_max2, wp_ord, wp_ltI, wp_chn, wp_eqI, wp_len_lst, wp_len_tup, wp_ixT0, wp_ixT1, wp_ixT2, wp_ixT3, wp_mth, wp_meth, wp_methZ, wp_methK, wp_lc, wp_yes, wp_js, wp_js0, wp_jsM, tyS_str, List.getElem?_cons_succ, List.getElem?_cons_zero, List.set_cons_succ, List.set_cons_zero, if_true, if_false, decide_true, decide_false, Bool.false_eq_true, Bool.not_true, Bool.not_false, reduceIte, List.cons_append, List.nil_append, List.length_cons, List.length_nil, Nat.reduceAdd, and_self, and_true, true_and, hm, wf]
  exact ⟨L, [], by simp, rfl, Older.refl _, by simp⟩
theorem missing_ok {n : Nat} {L : List MO} {ks : List P} (h : Con n L ks) {i : Int} (h1 : i < 0 ∨ (ks.length : Int) ≤ i) : f_q_missing [.r n, .v (.int i)] L = some (.ok (.v (.tup [.int i, .bl true])), L) := by
  have hc : clsOf L (.r n) = some 9 := by simp [clsOf, h.a]
  have hs : subE 27 27 = true := rfl
  have hs2 : subE 27 20 = true := rfl
  refine wp_eq ?_
  unfold f_q_missing
  refine wp_scope ?_
  show wps d_q_missing [some (.r n), some (.v (.int i)), none, none] L _
  unfold d_q_missing
  rw [wps_seq]
  refine wps_try ?_
  simp only [wps_nx, wps_bk, wps_ct, wps_retN, wps_kill, wps_set, wps_expr, wps_ret, wps_if, wps_ift, wps_iff, wps_satt, wps_unit, wps_setI, wps_for, th_rt, th_bk, th_ct, th_ex, killT, wp_var, varW_some, wp_retD, wp_ret, wp_pure, wp_bin, wp_un, wp_app, wp_cons, wp_nil, wp_tstD, wp_asB, wp_tstT, wp_truB_bl, wp_truB_tup, wp_truB_lst, wp_andB, wp_orB, wp_notB, wp_valB, wp_andV, wp_orV, wp_notV, wp_ifE, wp_noP, wp_part, wp_asJ, wp_slice, wp_seqI, wp_argI, wp_itm_tup, wp_itm_lst, wp_tup0, wp_tup1, wp_tup2, wp_tup3, wp_tup4, wp_lst0, wp_lst1, wp_lst2, wp_lst3, wp_lst4, wp_lst5, wp_lst6, wp_lst7, wp_lst8, wp_new0, wp_arN1, wp_arN2, wp_arN3, wp_arN4, wp_arN5, wp_arN6, wp_arN7, wp_addI, wp_subI, wp_negI, wp_int, wp_max2, wp_ord, wp_ltI, wp_chn, wp_eqI, wp_len_lst, wp_len_tup, wp_ixT0, wp_ixT1, wp_ixT2, wp_ixT3, wp_mth, wp_meth, wp_methZ, wp_methK, wp_lc, wp_yes, wp_js, wp_js0, wp_jsM, tyS_str, List.getElem?_cons_succ, List.getElem?_cons_zero, List.set_cons_succ, List.set_cons_zero, if_true, if_false, decide_true, decide_false, Bool.false_eq_true, Bool.not_true, Bool.not_false, reduceIte, List.cons_append, List.nil_append, List.length_cons, List.length_nil, Nat.reduceAdd, and_self, and_true, true_and, hc, wp_ofx (text_no h h1)]
  refine ⟨by simp [tb_q_missing0], ?_⟩
  unfold zs_q_missing0
  rw [wps_cls_here hs]
  refine wps_clOne rfl ?_
  simp only [wps_nx, wps_bk, wps_ct, wps_retN, wps_kill, wps_set, wps_expr, wps_ret, wps_if, wps_ift, wps_iff, wps_satt, wps_unit, wps_setI, wps_for, th_rt, th_bk, th_ct, th_ex, killT, wp_var, varW_some, wp_retD, wp_ret, wp_pure, wp_bin, wp_un, wp_app, wp_cons, wp_nil, wp_tstD, wp_asB, wp_tstT, wp_truB_bl, wp_truB_tup, wp_truB_lst, wp_andB, wp_orB, wp_notB, wp_valB, wp_andV, wp_orV, wp_notV, wp_ifE, wp_noP, wp_part, wp_asJ, wp_slice, wp_seqI, wp_argI, wp_itm_tup, wp_itm_lst, wp_tup0, wp_tup1, wp_tup2, wp_tup3, wp_tup4, wp_lst0, wp_lst1, wp_lst2, wp_lst3, wp_lst4, wp_lst5, wp_lst6, wp_lst7, wp_lst8, wp_new0, wp_arN1, wp_arN2, wp_arN3, wp_arN4, wp_arN5, wp_arN6, wp_arN7, wp_addI, wp_subI, wp_negI, wp_int, wp_max2, wp_ord, wp_ltI, wp_chn, wp_eqI, wp_len_lst, wp_len_tup, wp_ixT0, wp_ixT1, wp_ixT2, wp_ixT3, wp_mth, wp_meth, wp_methZ, wp_methK, wp_lc, wp_yes, wp_js, wp_js0, wp_jsM, tyS_str, List.getElem?_cons_succ, List.getElem?_cons_zero, List.set_cons_succ, List.set_cons_zero, if_true, if_false, decide_true, decide_false, Bool.false_eq_true, Bool.not_true, Bool.not_false, reduceIte, List.cons_append, List.nil_append, List.length_cons, List.length_nil, Nat.reduceAdd, and_self, and_true, true_and, hs2]
  rw [wp_exf0 rfl rfl, wp_exi0 rfl, wp_tup2]
  exact endQ_v ⟨rfl, rfl⟩
theorem con_new (L : List MO) : makF false 9 1 f_Contents_zinitz [] L = some (.ok (.r L.length), L ++ [.ins 9 [(5, .r (L.length + 1)), (6, .r (L.length + 2))], .lst [], .dn []]) := by
  have f9 : 5 ∈ flT 9 ∧ 6 ∈ flT 9 := by decide
  have hi : f_Contents_zinitz [.r L.length] (L ++ [.ins 9 []]) = some (.ok (.v .non), L ++ [.ins 9 [(5, .r (L.length + 1)), (6, .r (L.length + 2))], .lst [], .dn []]) := by
    refine body_nx (τ := [some (.r L.length)]) ?_
    show d_Contents_zinitz [some (.r L.length)] _ = _
    unfold d_Contents_zinitz
    have e1 : ((L ++ [MO.ins 9 []]) ++ [MO.lst []])[L.length]? = some (.ins 9 []) := by simp
    have s1 : ((L ++ [MO.ins 9 []]) ++ [MO.lst []]).set L.length (.ins 9 [(5, .r (L.length + 1))]) = L ++ [MO.ins 9 [(5, .r (L.length + 1))], .lst []] := by
      rw [List.append_assoc, List.set_append_right _ _ (Nat.le_refl _), Nat.sub_self]; rfl
    have s2 : ((L ++ [MO.ins 9 [(5, .r (L.length + 1))], .lst []]) ++ [MO.dn []]).set L.length (.ins 9 [(5, .r (L.length + 1)), (6, .r (L.length + 2))]) = L ++ [MO.ins 9 [(5, .r (L.length + 1)), (6, .r (L.length + 2))], .lst [], .dn []] := by
      rw [List.append_assoc, List.set_append_right _ _ (Nat.le_refl _), Nat.sub_self]; rfl
    have e3 : ((L ++ [MO.ins 9 [(5, .r (L.length + 1))], .lst []]) ++ [MO.dn []])[L.length]? = some (.ins 9 [(5, .r (L.length + 1))]) := by simp
    have l1 : (L ++ [MO.ins 9 []]).length = L.length + 1 := by simp
    have l2 : (L ++ [MO.ins 9 [(5, .r (L.length + 1))], MO.lst []]).length = L.length + 2 := by simp
    rw [seq_nx (τ1 := [some (.r L.length)]) (L1 := L ++ [MO.ins 9 [(5, .r (L.length + 1))], .lst []])]
    · simp only [sattS, eThen, dnNew, varD, bind, M.bnd, pure, M.ret, List.getElem?_cons_zero, sattD, e3, if_pos f9.2, l2, fput, s2]
      simp [s2]
    · simp only [sattS, eThen, new_0, varD, bind, M.bnd, pure, M.ret, appA, nilA, List.getElem?_cons_zero, sattD, e1, if_pos f9.1, l1, fput, s1]
  unfold makF
  refine (if_pos (show [D.r L.length].length = 1 from rfl)).trans ?_
  rw [hi]
  exact if_neg Bool.false_ne_true
/-- the law's state -/
structure S (L : List MO) (fs : List Fm) : Prop where
  c : Cf 1 L fs
  k : Kn 4 L fs
  d : 5 ≤ L.length
theorem Cf.set_ne {n m : Nat} {L : List MO} {fs : List Fm} (h : Cf n L fs) (x : MO) (h1 : m ≠ n) (h2 : m ≠ n + 1) (h3 : m ≠ n + 2) : Cf n (L.set m x) fs :=
  ⟨{ a := by rw [List.getElem?_set_ne h1]; exact h.c.a, b := by rw [List.getElem?_set_ne h2]; exact h.c.b, c := by rw [List.getElem?_set_ne h3]; exact h.c.c, k := h.c.k, d := h.c.d, z := h.c.z }, h.f, h.r⟩
theorem S.pool {L Lb : List MO} {fs : List Fm} {m : Nat} (h : S L fs) (hm : 5 ≤ m) (p : Pooled m L Lb) : S Lb fs := by
  obtain ⟨ys, _, rfl⟩ := p
  exact ⟨h.c.set_ne _ (by omega) (by omega) (by omega), ⟨by rw [List.getElem?_set_ne (by omega)]; exact h.k.a, h.k.f, h.k.r⟩, by rw [List.length_set]; exact h.d⟩
theorem S.app {L : List MO} {fs : List Fm} (h : S L fs) (X : List MO) : S (L ++ X) fs := ⟨h.c.app X, h.k.app X, by have := h.d; rw [List.length_append]; omega⟩
theorem fm_p_inj {f g : Fm} (h : f.p = g.p) : f = g := by
  have hs : (("start" : Str) = "fresh") = False ∧ (("start" : Str) = "derived") = False ∧ (("fresh" : Str) = "start") = False ∧ (("fresh" : Str) = "derived") = False ∧ (("derived" : Str) = "start") = False ∧ (("derived" : Str) = "fresh") = False := by
    refine ⟨?_, ?_, ?_, ?_, ?_, ?_⟩ <;> exact eq_false (by decide +kernel)
  obtain ⟨h1, h2, h3, h4, h5, h6⟩ := hs
  have inj : ∀ {xs ys : List Int}, xs.map P.int = ys.map P.int → xs = ys := by
    intro xs
    induction xs with
    | nil => intro ys e; cases ys with
      | nil => rfl
      | cons y ys => cases e
    | cons x xs ih => intro ys e; cases ys with
      | nil => cases e
      | cons y ys =>
        simp only [List.map_cons, List.cons.injEq, P.int.injEq] at e
        rw [e.1, ih e.2]
  cases f <;> cases g <;> simp [Fm.p, h1, h2, h3, h4, h5, h6] at h ⊢
  · exact h
  · exact h
  · exact ⟨h.1, h.2.1, inj h.2.2⟩
theorem fm_mem {fs : List Fm} {f : Fm} (h : f.p ∈ fs.map Fm.p) : f ∈ fs := by
  obtain ⟨g, hg, e⟩ := List.mem_map.mp h
  rw [← fm_p_inj e]
  exact hg
/-- the known list, a new one -/
theorem S.more {L : List MO} {fs : List Fm} {f : Fm} (h : S L fs) (hf : f.ok) (hr : ∀ x ∈ f.nums, 0 ≤ x ∧ x < fs.length) (hn : f ∉ fs) (hz : fs.length < 99) : S (grow 1 (L.set 4 (.lst ((fs ++ [f]).map Fm.p))) ((fs ++ [f]).map Fm.p)) (fs ++ [f]) := by
  have hd := h.d
  have e : (fs ++ [f]).map Fm.p = fs.map Fm.p ++ [f.p] := by simp
  have hF : ∀ g ∈ fs ++ [f], g.ok := fun g hg => by
    rcases List.mem_append.mp hg with z | z
    · exact h.c.f g z
    · rw [List.mem_singleton.mp z]; exact hf
  have hR : ∀ g ∈ fs ++ [f], ∀ x ∈ g.nums, 0 ≤ x ∧ x < (fs ++ [f]).length := fun g hg x hx => by
    rw [List.length_append, List.length_singleton]
    rcases List.mem_append.mp hg with z | z
    · have := h.c.r g z x hx; omega
    · rw [List.mem_singleton.mp z] at hx
      have := hr x hx; omega
  refine ⟨⟨?_, hF, hR⟩, ⟨?_, hF, hR⟩, ?_⟩
  · rw [e]
    exact grow_con (h.c.set_ne (m := 4) _ (by omega) (by omega) (by omega)).c (Fm.kok hf) (fun z => hn (fm_mem z)) (by rw [List.length_map]; exact hz)
  · unfold LK12.grow
    rw [List.getElem?_set_ne (by omega), List.getElem?_set_ne (by omega), List.getElem?_set_self (by omega)]
  · unfold LK12.grow
    simp only [List.length_set]
    exact hd
noncomputable def T (sc nm : D) (a4 a5 a6 a7 a8 a9 : Option D) : Tau := [some sc, some nm, some (.r 1), some (.r 4), a4, a5, a6, a7, a8, a9]
theorem wp_inA {neg : Bool} {L : List MO} {m : Nat} {xs : List P} {p : P} (hp : Cmp p) (h : L[m]? = some (.lst xs)) (hx : ∀ x ∈ xs, Cmp x) [Decidable (p ∈ xs)] {E : EX} {Q : D → List MO → Prop} : wp (inA neg (.v p) (.r m)) L E Q = Q (.v (.bl (xor neg (decide (p ∈ xs))))) L := by
  refine wp_of ?_
  have hn : dnAt L (.r m) = none := by simp [dnAt, h]
  unfold inA
  rw [hn]
  exact in_cmp hp (by simp [asM, h]) hx
theorem strOk_iff (x : Str) : PyData.strOk x = true ↔ ∀ c ∈ x.cps.toList, c < 0x110000 := by
  unfold PyData.strOk
  rw [Array.all_eq_true_iff_forall_mem]
  simp
theorem strOk_app {x y : Str} (h : PyData.strOk x = true) (k : PyData.strOk y = true) : PyData.strOk (x ++ y) = true := by
  rw [strOk_iff] at *
  intro c hc
  have e : (x ++ y).cps.toList = x.cps.toList ++ y.cps.toList := TL.tl_append x y
  rw [e] at hc
  rcases List.mem_append.mp hc with z | z
  · exact h c z
  · exact k c z
theorem strOk_of (s : String) : PyData.strOk (Str.ofString s) = true := by
  rw [strOk_iff]
  intro c hc
  rw [Str.ofString_eq_toList] at hc
  simp at hc
  obtain ⟨a, _, rfl⟩ := hc
  have := a.valid
  have h2 : a.toNat = a.val.toNat := rfl
  rcases this with h | ⟨_, h⟩ <;> omega
theorem strOk_join {sep : Str} (hs : PyData.strOk sep = true) : ∀ {ys : List Str}, (∀ y ∈ ys, PyData.strOk y = true) → PyData.strOk (Txt.join sep ys) = true := by
  intro ys h
  rw [strOk_iff] at *
  have e : (Txt.join sep ys).cps.toList = TL.joinL (TL.tl sep) (ys.map TL.tl) := by
    show TL.tl _ = _
    rw [TL.join_eq, TL.tl_join]
  rw [e]
  have key : ∀ (s : List Nat) (zs : List (List Nat)), (∀ c ∈ s, c < 0x110000) → (∀ z ∈ zs, ∀ c ∈ z, c < 0x110000) → ∀ c ∈ TL.joinL s zs, c < 0x110000 := by
    intro s zs hs
    induction zs with
    | nil => intro _ c hc; simp [TL.joinL] at hc
    | cons z zs ih =>
      intro hz c hc
      cases zs with
      | nil => exact hz z List.mem_cons_self c (by simpa [TL.joinL] using hc)
      | cons y zs =>
        have e : TL.joinL s (z :: y :: zs) = z ++ (s ++ TL.joinL s (y :: zs)) := rfl
        rw [e] at hc
        rcases List.mem_append.mp hc with q | q
        · exact hz z List.mem_cons_self c q
        · rcases List.mem_append.mp q with q | q
          · exact hs c q
          · exact ih (fun w hw => hz w (List.mem_cons_of_mem _ hw)) c q
  refine key _ _ hs fun z hz => ?_
  obtain ⟨y, hy, rfl⟩ := List.mem_map.mp hz
  exact (strOk_iff y).mp (h y hy)
theorem strOk_tx {fs : List Fm} (hf : ∀ f ∈ fs, f.ok) {sub : Option (Int → Str)} {i : Nat} (hs : ∀ g, sub = some g → ∀ x, PyData.strOk (g x) = true) : PyData.strOk (tx fs sub i) = true := by
  have hx : ∀ s n, LowS 40 n → PyData.strOk (txh s n) = true := fun s n hn => strOk_app (strOk_app (strOk_of _) (strOk_of _)) (low_ok hn)
  unfold tx
  split
  · exact strOk_of _
  · rename_i n k e
    have := hf _ (List.mem_of_getElem? e)
    exact strOk_app (strOk_app (low_ok this.1) (strOk_of _)) (strOk_of _)
  · rename_i s n e
    have := hf _ (List.mem_of_getElem? e)
    exact strOk_app (hx s n this.1) (strOk_of _)
  · rename_i s n e
    have := hf _ (List.mem_of_getElem? e)
    exact strOk_app (hx s n this.1) (strOk_of _)
  · rename_i s n x xs e
    have := hf _ (List.mem_of_getElem? e)
    split
    · exact strOk_app (hx s n this.1) (strOk_of _)
    · rename_i g
      refine strOk_app (strOk_app (strOk_app (hx s n this.1) (strOk_of _)) (strOk_join (strOk_of _) fun y hy => ?_)) (strOk_of _)
      obtain ⟨z, _, rfl⟩ := List.mem_map.mp hy
      exact hs g rfl z
theorem strOk_txt {fs : List Fm} (hf : ∀ f ∈ fs, f.ok) : ∀ d i, PyData.strOk (txt fs d i) = true
  | 0, i => strOk_tx hf fun g e => by cases e
  | d + 1, i => strOk_tx hf fun g e x => by cases e; exact strOk_txt hf d x.toNat
theorem dat_str {x : Str} (h : PyData.strOk x = true) : datB (.str x) = true := by
  simp [datB, toD, okD, SeqAt.shaped, PyData.canLay0, h, PyData.depth, PyData.eqv]
theorem gX (L : List MO) (m : MO) : (L ++ [m])[L.length]? = some m := by rw [List.getElem?_append_right (Nat.le_refl _), Nat.sub_self]; rfl
theorem law_ok (sc : List Int) (hl : sc.length ≤ 63) : ∃ L1, f_law [.v (.scr sc)] [] = some (.ok (.v (.bl true)), L1) := by
  suffices h : wp (f_law [.v (.scr sc)]) [] (fun _ _ _ => False) (fun d _ => d = .v (.bl true)) by
    obtain ⟨x, L1, e, rfl⟩ := wp_out h
    exact ⟨L1, e⟩
  obtain ⟨ys, hy, ep⟩ := pool_ok (L := []) hl (k := 2) (by omega)
  have ep : f_q_pool [.v (.scr sc), .v (.int 2)] [] = some (.ok (.r 0), [.lst ys]) := ep
  obtain ⟨nm, Ln, hns, hlow, pn, en⟩ := names_ok (L := [.lst ys]) (n := 0) (by simp) (Pooled.of rfl hy)
  have e1 : Ln.length = 1 := pn.len
  have c1 := con_new Ln
  rw [e1] at c1
  unfold f_law
  refine wp_scope ?_
  generalize hk : (KK.mk _ _ _ _ _) = K
  have hrt : ∀ L1 : List MO, K.rt (.v (.bl true)) L1 := fun L1 => by
    subst hk
    exact ⟨[], L1, rfl, rfl, Older.refl _, rfl⟩
  show wps d_law [some (.v (.scr sc)), none, none, none, none, none, none, none, none, none] [] K
  unfold d_law
  rw [wps_seq]
  simp only [wps_nx, wps_bk, wps_ct, wps_retN, wps_kill, wps_set, wps_expr, wps_ret, wps_if, wps_ift, wps_iff, wps_satt, wps_unit, wps_setI, wps_for, th_rt, th_bk, th_ct, th_ex, killT, wp_var, varW_some, wp_retD, wp_ret, wp_pure, wp_bin, wp_un, wp_app, wp_cons, wp_nil, wp_tstD, wp_asB, wp_tstT, wp_truB_bl, wp_truB_tup, wp_truB_lst, wp_andB, wp_orB, wp_notB, wp_valB, wp_andV, wp_orV, wp_notV, wp_ifE, wp_noP, wp_part, wp_asJ, wp_slice, wp_seqI, wp_argI, wp_itm_tup, wp_itm_lst, wp_tup0, wp_tup1, wp_tup2, wp_tup3, wp_tup4, wp_lst0, wp_lst1, wp_lst2, wp_lst3, wp_lst4, wp_lst5, wp_lst6, wp_lst7, wp_lst8, wp_new0, wp_arN1, wp_arN2, wp_arN3, wp_arN4, wp_arN5, wp_arN6, wp_arN7, wp_addI, wp_subI, wp_negI, wp_int, wp_max2, wp_ord, wp_ltI, wp_chn, wp_eqI, wp_len_lst, wp_len_tup, wp_ixT0, wp_ixT1, wp_ixT2, wp_ixT3, wp_mth, wp_meth, wp_methZ, wp_methK, wp_lc, wp_yes, wp_js, wp_js0, wp_jsM, tyS_str, List.getElem?_cons_succ, List.getElem?_cons_zero, List.set_cons_succ, List.set_cons_zero, if_true, if_false, decide_true, decide_false, Bool.false_eq_true, Bool.not_true, Bool.not_false, reduceIte, List.cons_append, List.nil_append, List.length_cons, List.length_nil, Nat.reduceAdd, and_self, and_true, true_and, wp_of ep, wp_of en]
  rw [th_nx, wps_seq]
  simp only [wps_nx, wps_bk, wps_ct, wps_retN, wps_kill, wps_set, wps_expr, wps_ret, wps_if, wps_ift, wps_iff, wps_satt, wps_unit, wps_setI, wps_for, th_rt, th_bk, th_ct, th_ex, killT, wp_var, varW_some, wp_retD, wp_ret, wp_pure, wp_bin, wp_un, wp_app, wp_cons, wp_nil, wp_tstD, wp_asB, wp_tstT, wp_truB_bl, wp_truB_tup, wp_truB_lst, wp_andB, wp_orB, wp_notB, wp_valB, wp_andV, wp_orV, wp_notV, wp_ifE, wp_noP, wp_part, wp_asJ, wp_slice, wp_seqI, wp_argI, wp_itm_tup, wp_itm_lst, wp_tup0, wp_tup1, wp_tup2, wp_tup3, wp_tup4, wp_lst0, wp_lst1, wp_lst2, wp_lst3, wp_lst4, wp_lst5, wp_lst6, wp_lst7, wp_lst8, wp_new0, wp_arN1, wp_arN2, wp_arN3, wp_arN4, wp_arN5, wp_arN6, wp_arN7, wp_addI, wp_subI, wp_negI, wp_int, wp_max2, wp_ord, wp_ltI, wp_chn, wp_eqI, wp_len_lst, wp_len_tup, wp_ixT0, wp_ixT1, wp_ixT2, wp_ixT3, wp_mth, wp_meth, wp_methZ, wp_methK, wp_lc, wp_yes, wp_js, wp_js0, wp_jsM, tyS_str, List.getElem?_cons_succ, List.getElem?_cons_zero, List.set_cons_succ, List.set_cons_zero, if_true, if_false, decide_true, decide_false, Bool.false_eq_true, Bool.not_true, Bool.not_false, reduceIte, List.cons_append, List.nil_append, List.length_cons, List.length_nil, Nat.reduceAdd, and_self, and_true, true_and, wp_of c1]
  rw [th_nx, wps_seq]
  simp only [wps_nx, wps_bk, wps_ct, wps_retN, wps_kill, wps_set, wps_expr, wps_ret, wps_if, wps_ift, wps_iff, wps_satt, wps_unit, wps_setI, wps_for, th_rt, th_bk, th_ct, th_ex, killT, wp_var, varW_some, wp_retD, wp_ret, wp_pure, wp_bin, wp_un, wp_app, wp_cons, wp_nil, wp_tstD, wp_asB, wp_tstT, wp_truB_bl, wp_truB_tup, wp_truB_lst, wp_andB, wp_orB, wp_notB, wp_valB, wp_andV, wp_orV, wp_notV, wp_ifE, wp_noP, wp_part, wp_asJ, wp_slice, wp_seqI, wp_argI, wp_itm_tup, wp_itm_lst, wp_tup0, wp_tup1, wp_tup2, wp_tup3, wp_tup4, wp_lst0, wp_lst1, wp_lst2, wp_lst3, wp_lst4, wp_lst5, wp_lst6, wp_lst7, wp_lst8, wp_new0, wp_arN1, wp_arN2, wp_arN3, wp_arN4, wp_arN5, wp_arN6, wp_arN7, wp_addI, wp_subI, wp_negI, wp_int, wp_max2, wp_ord, wp_ltI, wp_chn, wp_eqI, wp_len_lst, wp_len_tup, wp_ixT0, wp_ixT1, wp_ixT2, wp_ixT3, wp_mth, wp_meth, wp_methZ, wp_methK, wp_lc, wp_yes, wp_js, wp_js0, wp_jsM, tyS_str, List.getElem?_cons_succ, List.getElem?_cons_zero, List.set_cons_succ, List.set_cons_zero, if_true, if_false, decide_true, decide_false, Bool.false_eq_true, Bool.not_true, Bool.not_false, reduceIte, List.cons_append, List.nil_append, List.length_cons, List.length_nil, Nat.reduceAdd, and_self, and_true, true_and]
  rw [th_nx, wps_seq]
  have hS0 : S ((Ln ++ [.ins 9 [(5, .r 2), (6, .r 3)], .lst [], .dn []]) ++ [.lst []]) [] := by
    refine ⟨⟨⟨?_, ?_, ?_, fun q hq => (by cases hq), List.nodup_nil, by decide⟩, fun g hg => (by cases hg), fun g hg => (by cases hg)⟩, ⟨?_, fun g hg => (by cases hg), fun g hg => (by cases hg)⟩, by simp [e1]⟩
    · simp [List.getElem?_append, e1]
    · simp [List.getElem?_append, e1]
    · simp [List.getElem?_append, e1, rows]
    · simp [List.getElem?_append, e1]
  have e4 : (Ln ++ [MO.ins 9 [(5, .r 2), (6, .r 3)], .lst [], .dn []]).length = 4 := by simp [e1]
  rw [e4]
  generalize (Ln ++ [MO.ins 9 [(5, .r 2), (6, .r 3)], .lst [], .dn []]) ++ [.lst []] = L0 at hS0 ⊢
  obtain ⟨zs, hz, ep0⟩ := pool_ok (L := L0) hl (k := 0) (by omega)
  have ep0 : f_q_pool [.v (.scr sc), .v (.int 0)] L0 = some (.ok (.r L0.length), L0 ++ [.lst zs]) := ep0
  obtain ⟨r, La, r0, r1, pa, ea⟩ := draw_q (n := L0.length) (L := L0 ++ [.lst zs]) (by simp) (Pooled.of (gX L0 (.lst zs)) hz) (m := 14) (by decide) (by decide)
  have hSa : S La [] := (hS0.app _).pool hS0.d pa
  have hr : (1 + r) = ((1 + r.toNat : Nat) : Int) := by omega
  simp only [wps_nx, wps_bk, wps_ct, wps_retN, wps_kill, wps_set, wps_expr, wps_ret, wps_if, wps_ift, wps_iff, wps_satt, wps_unit, wps_setI, wps_for, th_rt, th_bk, th_ct, th_ex, killT, wp_var, varW_some, wp_retD, wp_ret, wp_pure, wp_bin, wp_un, wp_app, wp_cons, wp_nil, wp_tstD, wp_asB, wp_tstT, wp_truB_bl, wp_truB_tup, wp_truB_lst, wp_andB, wp_orB, wp_notB, wp_valB, wp_andV, wp_orV, wp_notV, wp_ifE, wp_noP, wp_part, wp_asJ, wp_slice, wp_seqI, wp_argI, wp_itm_tup, wp_itm_lst, wp_tup0, wp_tup1, wp_tup2, wp_tup3, wp_tup4, wp_lst0, wp_lst1, wp_lst2, wp_lst3, wp_lst4, wp_lst5, wp_lst6, wp_lst7, wp_lst8, wp_new0, wp_arN1, wp_arN2, wp_arN3, wp_arN4, wp_arN5, wp_arN6, wp_arN7, wp_addI, wp_subI, wp_negI, wp_int, wp_max2, wp_ord, wp_ltI, wp_chn, wp_eqI, wp_len_lst, wp_len_tup, wp_ixT0, wp_ixT1, wp_ixT2, wp_ixT3, wp_mth, wp_meth, wp_methZ, wp_methK, wp_lc, wp_yes, wp_js, wp_js0, wp_jsM, tyS_str, List.getElem?_cons_succ, List.getElem?_cons_zero, List.set_cons_succ, List.set_cons_zero, if_true, if_false, decide_true, decide_false, Bool.false_eq_true, Bool.not_true, Bool.not_false, reduceIte, List.cons_append, List.nil_append, List.length_cons, List.length_nil, Nat.reduceAdd, and_self, and_true, true_and, wp_of ep0, wp_of ea, hr]
  rw [wp_rng1 (by omega)]
  refine wps_forG (fun i τ L' => ∃ fs z5, S L' fs ∧ fs.length ≤ i ∧ i ≤ 14 ∧ τ = T (.v (.scr sc)) (.v (.lst (nm.map P.str))) none z5 none none none none) _ 0 ?_ ?_ ?_ ?_
  · exact ⟨[], none, hSa, by simp, by omega, rfl⟩
  · intros; trivial
  · rintro i p τ L ei ⟨fs, z5, hS, hf, hi, rfl⟩
    obtain ⟨hi2, rfl⟩ := range_at ei
    rw [Nat.zero_add] at hf hi
    refine ⟨_, rfl, ?_⟩
    have hi3 : i < 14 := by omega
    obtain ⟨ws, hw, epw⟩ := pool_ok (L := L) hl (k := 14 + i) (by omega)
    rw [show ((14 + i : Nat) : Int) = 14 + (i : Int) by omega] at epw
    have hS1 : S (L ++ [.lst ws]) fs := hS.app _
    obtain ⟨f, Lf, hfo, hnum, pf, ef⟩ := formula_ok (L := L ++ [.lst ws]) (n := L.length) (m := fs.length) (by simp) (Pooled.of (gX L (.lst ws)) hw) hns hlow (by omega)
    have hSf : S Lf fs := hS1.pool hS.d pf
    have hln := fun E Q => wp_len_r (E := E) (Q := Q) hS1.k.a
    simp only [List.length_map] at hln
    rw [wps_kill, wps_seq]
    simp only [wps_nx, wps_bk, wps_ct, wps_retN, wps_kill, wps_set, wps_expr, wps_ret, wps_if, wps_ift, wps_iff, wps_satt, wps_unit, wps_setI, wps_for, th_rt, th_bk, th_ct, th_ex, killT, wp_var, varW_some, wp_retD, wp_ret, wp_pure, wp_bin, wp_un, wp_app, wp_cons, wp_nil, wp_tstD, wp_asB, wp_tstT, wp_truB_bl, wp_truB_tup, wp_truB_lst, wp_andB, wp_orB, wp_notB, wp_valB, wp_andV, wp_orV, wp_notV, wp_ifE, wp_noP, wp_part, wp_asJ, wp_slice, wp_seqI, wp_argI, wp_itm_tup, wp_itm_lst, wp_tup0, wp_tup1, wp_tup2, wp_tup3, wp_tup4, wp_lst0, wp_lst1, wp_lst2, wp_lst3, wp_lst4, wp_lst5, wp_lst6, wp_lst7, wp_lst8, wp_new0, wp_arN1, wp_arN2, wp_arN3, wp_arN4, wp_arN5, wp_arN6, wp_arN7, wp_addI, wp_subI, wp_negI, wp_int, wp_max2, wp_ord, wp_ltI, wp_chn, wp_eqI, wp_len_lst, wp_len_tup, wp_ixT0, wp_ixT1, wp_ixT2, wp_ixT3, wp_mth, wp_meth, wp_methZ, wp_methK, wp_lc, wp_yes, wp_js, wp_js0, wp_jsM, tyS_str, List.getElem?_cons_succ, List.getElem?_cons_zero, List.set_cons_succ, List.set_cons_zero, if_true, if_false, decide_true, decide_false, Bool.false_eq_true, Bool.not_true, Bool.not_false, reduceIte, List.cons_append, List.nil_append, List.length_cons, List.length_nil, Nat.reduceAdd, and_self, and_true, true_and, T, wp_of epw, hln, wp_of ef]
    rw [th_nx, wps_kill, wps_seq]
    have hcm : ∀ q ∈ fs.map Fm.p, Cmp q := fun q hq => (hSf.c.c.k q hq).1
    have hko := Fm.kok hfo
    classical
    have win := fun E Q => wp_inA (neg := true) (E := E) (Q := Q) hko.1 hSf.k.a hcm
    have hm : ∀ {Lz gs}, S Lz gs → (clsOf Lz (.r 1)).bind tm_number_of = some f_Contents_number_of := fun h => by simp [clsOf, h.c.c.a, tm_number_of]
    simp only [wps_nx, wps_bk, wps_ct, wps_retN, wps_kill, wps_set, wps_expr, wps_ret, wps_if, wps_ift, wps_iff, wps_satt, wps_unit, wps_setI, wps_for, th_rt, th_bk, th_ct, th_ex, killT, wp_var, varW_some, wp_retD, wp_ret, wp_pure, wp_bin, wp_un, wp_app, wp_cons, wp_nil, wp_tstD, wp_asB, wp_tstT, wp_truB_bl, wp_truB_tup, wp_truB_lst, wp_andB, wp_orB, wp_notB, wp_valB, wp_andV, wp_orV, wp_notV, wp_ifE, wp_noP, wp_part, wp_asJ, wp_slice, wp_seqI, wp_argI, wp_itm_tup, wp_itm_lst, wp_tup0, wp_tup1, wp_tup2, wp_tup3, wp_tup4, wp_lst0, wp_lst1, wp_lst2, wp_lst3, wp_lst4, wp_lst5, wp_lst6, wp_lst7, wp_lst8, wp_new0, wp_arN1, wp_arN2, wp_arN3, wp_arN4, wp_arN5, wp_arN6, wp_arN7, wp_addI, wp_subI, wp_negI, wp_int, wp_max2, wp_ord, wp_ltI, wp_chn, wp_eqI, wp_len_lst, wp_len_tup, wp_ixT0, wp_ixT1, wp_ixT2, wp_ixT3, wp_mth, wp_meth, wp_methZ, wp_methK, wp_lc, wp_yes, wp_js, wp_js0, wp_jsM, tyS_str, List.getElem?_cons_succ, List.getElem?_cons_zero, List.set_cons_succ, List.set_cons_zero, if_true, if_false, decide_true, decide_false, Bool.false_eq_true, Bool.not_true, Bool.not_false, reduceIte, List.cons_append, List.nil_append, List.length_cons, List.length_nil, Nat.reduceAdd, and_self, and_true, true_and, win]
    by_cases hin : f ∈ fs
    · have hin' : f.p ∈ fs.map Fm.p := List.mem_map.mpr ⟨f, hin, rfl⟩
      obtain ⟨j, hj⟩ := List.mem_iff_getElem?.mp hin'
      have eN := num_in hSf.c.c hfo (fun x hx => by rw [List.length_map]; exact hnum x hx) hj
      simp only [hin', wps_nx, wps_bk, wps_ct, wps_retN, wps_kill, wps_set, wps_expr, wps_ret, wps_if, wps_ift, wps_iff, wps_satt, wps_unit, wps_setI, wps_for, th_rt, th_bk, th_ct, th_ex, killT, wp_var, varW_some, wp_retD, wp_ret, wp_pure, wp_bin, wp_un, wp_app, wp_cons, wp_nil, wp_tstD, wp_asB, wp_tstT, wp_truB_bl, wp_truB_tup, wp_truB_lst, wp_andB, wp_orB, wp_notB, wp_valB, wp_andV, wp_orV, wp_notV, wp_ifE, wp_noP, wp_part, wp_asJ, wp_slice, wp_seqI, wp_argI, wp_itm_tup, wp_itm_lst, wp_tup0, wp_tup1, wp_tup2, wp_tup3, wp_tup4, wp_lst0, wp_lst1, wp_lst2, wp_lst3, wp_lst4, wp_lst5, wp_lst6, wp_lst7, wp_lst8, wp_new0, wp_arN1, wp_arN2, wp_arN3, wp_arN4, wp_arN5, wp_arN6, wp_arN7, wp_addI, wp_subI, wp_negI, wp_int, wp_max2, wp_ord, wp_ltI, wp_chn, wp_eqI, wp_len_lst, wp_len_tup, wp_ixT0, wp_ixT1, wp_ixT2, wp_ixT3, wp_mth, wp_meth, wp_methZ, wp_methK, wp_lc, wp_yes, wp_js, wp_js0, wp_jsM, tyS_str, List.getElem?_cons_succ, List.getElem?_cons_zero, List.set_cons_succ, List.set_cons_zero, if_true, if_false, decide_true, decide_false, Bool.false_eq_true, Bool.not_true, Bool.not_false, reduceIte, List.cons_append, List.nil_append, List.length_cons, List.length_nil, Nat.reduceAdd, and_self, and_true, true_and, Bool.xor_true, th_nx, hm hSf, wp_of eN]
      exact ⟨fs, some (.v f.p), hSf, by omega, by omega, rfl⟩
    · have hin' : f.p ∉ fs.map Fm.p := fun z => hin (fm_mem z)
      have hS2 := hSf.more hfo hnum hin (by omega)
      have hd := hSf.d
      have e : (fs ++ [f]).map Fm.p = fs.map Fm.p ++ [f.p] := by simp
      have hc4 : Con 1 (Lf.set 4 (.lst ((fs ++ [f]).map Fm.p))) (fs.map Fm.p) := (hSf.c.set_ne (m := 4) _ (by omega) (by omega) (by omega)).c
      have eN := num_new hc4 hfo (fun x hx => by rw [List.length_map]; exact hnum x hx) hin' (by rw [List.length_map]; omega)
      rw [← e] at eN
      have hm4 : (clsOf (Lf.set 4 (.lst ((fs ++ [f]).map Fm.p))) (.r 1)).bind tm_number_of = some f_Contents_number_of := by unfold clsOf; dsimp only; rw [hc4.a]; rfl
      have htl : tyL Lf (.r 4) = true := by simp [tyL, asL, asM, hSf.k.a]
      have hz : (fs.map Fm.p).length < sizeLine := by rw [List.length_map]; have := le_line 101 (by decide); omega
      simp only [hin', wps_nx, wps_bk, wps_ct, wps_retN, wps_kill, wps_set, wps_expr, wps_ret, wps_if, wps_ift, wps_iff, wps_satt, wps_unit, wps_setI, wps_for, th_rt, th_bk, th_ct, th_ex, killT, wp_var, varW_some, wp_retD, wp_ret, wp_pure, wp_bin, wp_un, wp_app, wp_cons, wp_nil, wp_tstD, wp_asB, wp_tstT, wp_truB_bl, wp_truB_tup, wp_truB_lst, wp_andB, wp_orB, wp_notB, wp_valB, wp_andV, wp_orV, wp_notV, wp_ifE, wp_noP, wp_part, wp_asJ, wp_slice, wp_seqI, wp_argI, wp_itm_tup, wp_itm_lst, wp_tup0, wp_tup1, wp_tup2, wp_tup3, wp_tup4, wp_lst0, wp_lst1, wp_lst2, wp_lst3, wp_lst4, wp_lst5, wp_lst6, wp_lst7, wp_lst8, wp_new0, wp_arN1, wp_arN2, wp_arN3, wp_arN4, wp_arN5, wp_arN6, wp_arN7, wp_addI, wp_subI, wp_negI, wp_int, wp_max2, wp_ord, wp_ltI, wp_chn, wp_eqI, wp_len_lst, wp_len_tup, wp_ixT0, wp_ixT1, wp_ixT2, wp_ixT3, wp_mth, wp_meth, wp_methZ, wp_methK, wp_lc, wp_yes, wp_js, wp_js0, wp_jsM, tyS_str, List.getElem?_cons_succ, List.getElem?_cons_zero, List.set_cons_succ, List.set_cons_zero, if_true, if_false, decide_true, decide_false, Bool.false_eq_true, Bool.not_true, Bool.not_false, reduceIte, List.cons_append, List.nil_append, List.length_cons, List.length_nil, Nat.reduceAdd, and_self, and_true, true_and, Bool.xor_false, htl, wp_append hSf.k.a hz, th_nx, ← e, hm4, wp_of eN]
      exact ⟨fs ++ [f], some (.v f.p), hS2, by rw [List.length_append, List.length_singleton]; omega, by omega, rfl⟩
  · rintro τ L ⟨fs, z5, hS, hf, hi, rfl⟩
    dsimp only at hf
    rw [Nat.zero_add, List.length_map, List.length_range] at hf
    have hln := fun E Q => wp_len_r (E := E) (Q := Q) hS.k.a
    simp only [List.length_map] at hln
    have hmx : (if (fs.length : Int) - 5 > 0 then (fs.length : Int) - 5 else 0) = ((fs.length - 5 : Nat) : Int) := by split <;> omega
    rw [th_nx, wps_kill, wps_seq]
    simp only [wps_nx, wps_bk, wps_ct, wps_retN, wps_kill, wps_set, wps_expr, wps_ret, wps_if, wps_ift, wps_iff, wps_satt, wps_unit, wps_setI, wps_for, th_rt, th_bk, th_ct, th_ex, killT, wp_var, varW_some, wp_retD, wp_ret, wp_pure, wp_bin, wp_un, wp_app, wp_cons, wp_nil, wp_tstD, wp_asB, wp_tstT, wp_truB_bl, wp_truB_tup, wp_truB_lst, wp_andB, wp_orB, wp_notB, wp_valB, wp_andV, wp_orV, wp_notV, wp_ifE, wp_noP, wp_part, wp_asJ, wp_slice, wp_seqI, wp_argI, wp_itm_tup, wp_itm_lst, wp_tup0, wp_tup1, wp_tup2, wp_tup3, wp_tup4, wp_lst0, wp_lst1, wp_lst2, wp_lst3, wp_lst4, wp_lst5, wp_lst6, wp_lst7, wp_lst8, wp_new0, wp_arN1, wp_arN2, wp_arN3, wp_arN4, wp_arN5, wp_arN6, wp_arN7, wp_addI, wp_subI, wp_negI, wp_int, wp_max2, wp_ord, wp_ltI, wp_chn, wp_eqI, wp_len_lst, wp_len_tup, wp_ixT0, wp_ixT1, wp_ixT2, wp_ixT3, wp_mth, wp_meth, wp_methZ, wp_methK, wp_lc, wp_yes, wp_js, wp_js0, wp_jsM, tyS_str, List.getElem?_cons_succ, List.getElem?_cons_zero, List.set_cons_succ, List.set_cons_zero, if_true, if_false, decide_true, decide_false, Bool.false_eq_true, Bool.not_true, Bool.not_false, reduceIte, List.cons_append, List.nil_append, List.length_cons, List.length_nil, Nat.reduceAdd, and_self, and_true, true_and, T, hln]
    rw [th_nx, wps_seq]
    simp only [wps_nx, wps_bk, wps_ct, wps_retN, wps_kill, wps_set, wps_expr, wps_ret, wps_if, wps_ift, wps_iff, wps_satt, wps_unit, wps_setI, wps_for, th_rt, th_bk, th_ct, th_ex, killT, wp_var, varW_some, wp_retD, wp_ret, wp_pure, wp_bin, wp_un, wp_app, wp_cons, wp_nil, wp_tstD, wp_asB, wp_tstT, wp_truB_bl, wp_truB_tup, wp_truB_lst, wp_andB, wp_orB, wp_notB, wp_valB, wp_andV, wp_orV, wp_notV, wp_ifE, wp_noP, wp_part, wp_asJ, wp_slice, wp_seqI, wp_argI, wp_itm_tup, wp_itm_lst, wp_tup0, wp_tup1, wp_tup2, wp_tup3, wp_tup4, wp_lst0, wp_lst1, wp_lst2, wp_lst3, wp_lst4, wp_lst5, wp_lst6, wp_lst7, wp_lst8, wp_new0, wp_arN1, wp_arN2, wp_arN3, wp_arN4, wp_arN5, wp_arN6, wp_arN7, wp_addI, wp_subI, wp_negI, wp_int, wp_max2, wp_ord, wp_ltI, wp_chn, wp_eqI, wp_len_lst, wp_len_tup, wp_ixT0, wp_ixT1, wp_ixT2, wp_ixT3, wp_mth, wp_meth, wp_methZ, wp_methK, wp_lc, wp_yes, wp_js, wp_js0, wp_jsM, tyS_str, List.getElem?_cons_succ, List.getElem?_cons_zero, List.set_cons_succ, List.set_cons_zero, if_true, if_false, decide_true, decide_false, Bool.false_eq_true, Bool.not_true, Bool.not_false, reduceIte, List.cons_append, List.nil_append, List.length_cons, List.length_nil, Nat.reduceAdd, and_self, and_true, true_and, hmx]
    have hrng : rng2 [.v (.int ((fs.length - 5 : Nat) : Int)), .v (.int fs.length)] L = some (.ok ((List.range (((fs.length : Int) - ((fs.length - 5 : Nat) : Int))).toNat).map (fun k : Nat => P.int (((fs.length - 5 : Nat) : Int) + k)), fun _ => True), L) := by
      have hb : (-(2 ^ 62) ≤ ((fs.length - 5 : Nat) : Int) ∧ ((fs.length - 5 : Nat) : Int) < 2 ^ 62) ∧ -(2 ^ 62) ≤ (fs.length : Int) ∧ (fs.length : Int) < 2 ^ 62 := by omega
      simp only [rng2, if_pos hb]
    rw [wp_of hrng]
    have hC1 : clsOf L (.r 1) = some 9 := by simp [clsOf, hS.c.c.a]
    have hTx : ∀ {i d : Nat}, d ≤ 4 → i < fs.length → f_Contents_text 6 [.r 1, .v (.int i), .v (.int d)] L = some (.ok (.v (.str (txt fs d i))), L) := fun {i d} hd hi => by
      have := text_ok d (5 - d) i hd hi L hS.c
      rw [show d + 1 + (5 - d) = 6 by omega] at this
      exact this
    have hLx : ∀ {i d : Nat}, d ≤ 4 → i < fs.length → f_q_text 6 [.r 4, .v (.int i), .v (.int d)] L = some (.ok (.v (.str (txt fs d i))), L) := fun {i d} hd hi => by
      have := ltext_ok d (5 - d) i hd hi L hS.k
      rw [show d + 1 + (5 - d) = 6 by omega] at this
      exact this
    have hTx2 : ∀ {i : Nat}, i < fs.length → f_Contents_text 6 [.r 1, .v (.int i), .v (.int 2)] L = some (.ok (.v (.str (txt fs 2 i))), L) := fun hi => hTx (d := 2) (by decide) hi
    have hLx2 : ∀ {i : Nat}, i < fs.length → f_q_text 6 [.r 4, .v (.int i), .v (.int 2)] L = some (.ok (.v (.str (txt fs 2 i))), L) := fun hi => hLx (d := 2) (by decide) hi
    have hdat : ∀ d i, datB (.str (txt fs d i)) = true := fun d i => dat_str (strOk_txt hS.c.f d i)
    refine wps_forG (fun i τ L' => L' = L ∧ ∃ z7 z8 z9, τ = [none, none, some (.r 1), some (.r 4), none, none, some (.v (.int fs.length)), z7, z8, z9]) _ 0 ⟨rfl, none, none, none, rfl⟩ (fun _ _ _ _ => trivial) ?_ ?_
    · rintro k p τ L1 ek ⟨rfl, z7, z8, z9, rfl⟩
      rw [List.getElem?_map] at ek
      obtain ⟨k', ek2, rfl⟩ := Option.map_eq_some_iff.mp (show Option.map (fun k : Nat => P.int (((fs.length - 5 : Nat) : Int) + k)) _ = some p from ek)
      obtain ⟨hk1, ek⟩ := List.getElem?_eq_some_iff.mp ek2
      simp at hk1 ek
      subst ek
      have hin : fs.length - 5 + k < fs.length := by omega
      rw [show (((fs.length - 5 : Nat) : Int) + (k : Int)) = ((fs.length - 5 + k : Nat) : Int) by omega]
      refine ⟨_, rfl, ?_⟩
      rw [wps_kill, wps_seq]
      simp only [wps_nx, wps_bk, wps_ct, wps_retN, wps_kill, wps_set, wps_expr, wps_ret, wps_if, wps_ift, wps_iff, wps_satt, wps_unit, wps_setI, wps_for, th_rt, th_bk, th_ct, th_ex, killT, wp_var, varW_some, wp_retD, wp_ret, wp_pure, wp_bin, wp_un, wp_app, wp_cons, wp_nil, wp_tstD, wp_asB, wp_tstT, wp_truB_bl, wp_truB_tup, wp_truB_lst, wp_andB, wp_orB, wp_notB, wp_valB, wp_andV, wp_orV, wp_notV, wp_ifE, wp_noP, wp_part, wp_asJ, wp_slice, wp_seqI, wp_argI, wp_itm_tup, wp_itm_lst, wp_tup0, wp_tup1, wp_tup2, wp_tup3, wp_tup4, wp_lst0, wp_lst1, wp_lst2, wp_lst3, wp_lst4, wp_lst5, wp_lst6, wp_lst7, wp_lst8, wp_new0, wp_arN1, wp_arN2, wp_arN3, wp_arN4, wp_arN5, wp_arN6, wp_arN7, wp_addI, wp_subI, wp_negI, wp_int, wp_max2, wp_ord, wp_ltI, wp_chn, wp_eqI, wp_len_lst, wp_len_tup, wp_ixT0, wp_ixT1, wp_ixT2, wp_ixT3, wp_mth, wp_meth, wp_methZ, wp_methK, wp_lc, wp_yes, wp_js, wp_js0, wp_jsM, tyS_str, List.getElem?_cons_succ, List.getElem?_cons_zero, List.set_cons_succ, List.set_cons_zero, if_true, if_false, decide_true, decide_false, Bool.false_eq_true, Bool.not_true, Bool.not_false, reduceIte, List.cons_append, List.nil_append, List.length_cons, List.length_nil, Nat.reduceAdd, and_self, and_true, true_and, hC1, wp_of (hTx2 hin), wp_of (hLx2 hin), wp_eqR (hdat 2 (fs.length - 5 + k))]
      rw [th_nx]
      simp only [wps_nx, wps_bk, wps_ct, wps_retN, wps_kill, wps_set, wps_expr, wps_ret, wps_if, wps_ift, wps_iff, wps_satt, wps_unit, wps_setI, wps_for, th_rt, th_bk, th_ct, th_ex, killT, wp_var, varW_some, wp_retD, wp_ret, wp_pure, wp_bin, wp_un, wp_app, wp_cons, wp_nil, wp_tstD, wp_asB, wp_tstT, wp_truB_bl, wp_truB_tup, wp_truB_lst, wp_andB, wp_orB, wp_notB, wp_valB, wp_andV, wp_orV, wp_notV, wp_ifE, wp_noP, wp_part, wp_asJ, wp_slice, wp_seqI, wp_argI, wp_itm_tup, wp_itm_lst, wp_tup0, wp_tup1, wp_tup2, wp_tup3, wp_tup4, wp_lst0, wp_lst1, wp_lst2, wp_lst3, wp_lst4, wp_lst5, wp_lst6, wp_lst7, wp_lst8, wp_new0, wp_arN1, wp_arN2, wp_arN3, wp_arN4, wp_arN5, wp_arN6, wp_arN7, wp_addI, wp_subI, wp_negI, wp_int, wp_max2, wp_ord, wp_ltI, wp_chn, wp_eqI, wp_len_lst, wp_len_tup, wp_ixT0, wp_ixT1, wp_ixT2, wp_ixT3, wp_mth, wp_meth, wp_methZ, wp_methK, wp_lc, wp_yes, wp_js, wp_js0, wp_jsM, tyS_str, List.getElem?_cons_succ, List.getElem?_cons_zero, List.set_cons_succ, List.set_cons_zero, if_true, if_false, decide_true, decide_false, Bool.false_eq_true, Bool.not_true, Bool.not_false, reduceIte, List.cons_append, List.nil_append, List.length_cons, List.length_nil, Nat.reduceAdd, and_self, and_true, true_and]
      refine wps_forG (fun j τ L' => L' = L1 ∧ ∃ z8 z9, τ = [none, none, some (.r 1), some (.r 4), none, none, some (.v (.int fs.length)), some (.v (.int ((fs.length - 5 + k : Nat) : Int))), z8, z9]) _ 0 ⟨rfl, none, none, rfl⟩ (fun _ _ _ _ => trivial) ?_ ?_
      · rintro j p τ L2 ej ⟨rfl, z8, z9, rfl⟩
        have hp : ∃ d : Nat, d ≤ 4 ∧ p = .int (d : Int) := by
          match j, ej with
          | 0, ej => cases ej; exact ⟨4, by decide, rfl⟩
          | 1, ej => cases ej; exact ⟨0, by decide, rfl⟩
          | 2, ej => cases ej; exact ⟨3, by decide, rfl⟩
          | 3, ej => cases ej; exact ⟨1, by decide, rfl⟩
          | 4, ej => cases ej; exact ⟨2, by decide, rfl⟩
          | j + 5, ej => simp at ej
        obtain ⟨d, hd, rfl⟩ := hp
        refine ⟨_, rfl, ?_⟩
        have his : ∀ (x : Str) E Q, wp (isiD ti_str (.v (.str x))) L2 E Q = Q (.v (.bl true)) L2 := fun x E Q => wp_of rfl
        rw [wps_kill, wps_seq]
        simp only [wps_nx, wps_bk, wps_ct, wps_retN, wps_kill, wps_set, wps_expr, wps_ret, wps_if, wps_ift, wps_iff, wps_satt, wps_unit, wps_setI, wps_for, th_rt, th_bk, th_ct, th_ex, killT, wp_var, varW_some, wp_retD, wp_ret, wp_pure, wp_bin, wp_un, wp_app, wp_cons, wp_nil, wp_tstD, wp_asB, wp_tstT, wp_truB_bl, wp_truB_tup, wp_truB_lst, wp_andB, wp_orB, wp_notB, wp_valB, wp_andV, wp_orV, wp_notV, wp_ifE, wp_noP, wp_part, wp_asJ, wp_slice, wp_seqI, wp_argI, wp_itm_tup, wp_itm_lst, wp_tup0, wp_tup1, wp_tup2, wp_tup3, wp_tup4, wp_lst0, wp_lst1, wp_lst2, wp_lst3, wp_lst4, wp_lst5, wp_lst6, wp_lst7, wp_lst8, wp_new0, wp_arN1, wp_arN2, wp_arN3, wp_arN4, wp_arN5, wp_arN6, wp_arN7, wp_addI, wp_subI, wp_negI, wp_int, wp_max2, wp_ord, wp_ltI, wp_chn, wp_eqI, wp_len_lst, wp_len_tup, wp_ixT0, wp_ixT1, wp_ixT2, wp_ixT3, wp_mth, wp_meth, wp_methZ, wp_methK, wp_lc, wp_yes, wp_js, wp_js0, wp_jsM, tyS_str, List.getElem?_cons_succ, List.getElem?_cons_zero, List.set_cons_succ, List.set_cons_zero, if_true, if_false, decide_true, decide_false, Bool.false_eq_true, Bool.not_true, Bool.not_false, reduceIte, List.cons_append, List.nil_append, List.length_cons, List.length_nil, Nat.reduceAdd, and_self, and_true, true_and, hC1, wp_of (hTx hd hin)]
        rw [th_nx]
        simp only [wps_nx, wps_bk, wps_ct, wps_retN, wps_kill, wps_set, wps_expr, wps_ret, wps_if, wps_ift, wps_iff, wps_satt, wps_unit, wps_setI, wps_for, th_rt, th_bk, th_ct, th_ex, killT, wp_var, varW_some, wp_retD, wp_ret, wp_pure, wp_bin, wp_un, wp_app, wp_cons, wp_nil, wp_tstD, wp_asB, wp_tstT, wp_truB_bl, wp_truB_tup, wp_truB_lst, wp_andB, wp_orB, wp_notB, wp_valB, wp_andV, wp_orV, wp_notV, wp_ifE, wp_noP, wp_part, wp_asJ, wp_slice, wp_seqI, wp_argI, wp_itm_tup, wp_itm_lst, wp_tup0, wp_tup1, wp_tup2, wp_tup3, wp_tup4, wp_lst0, wp_lst1, wp_lst2, wp_lst3, wp_lst4, wp_lst5, wp_lst6, wp_lst7, wp_lst8, wp_new0, wp_arN1, wp_arN2, wp_arN3, wp_arN4, wp_arN5, wp_arN6, wp_arN7, wp_addI, wp_subI, wp_negI, wp_int, wp_max2, wp_ord, wp_ltI, wp_chn, wp_eqI, wp_len_lst, wp_len_tup, wp_ixT0, wp_ixT1, wp_ixT2, wp_ixT3, wp_mth, wp_meth, wp_methZ, wp_methK, wp_lc, wp_yes, wp_js, wp_js0, wp_jsM, tyS_str, List.getElem?_cons_succ, List.getElem?_cons_zero, List.set_cons_succ, List.set_cons_zero, if_true, if_false, decide_true, decide_false, Bool.false_eq_true, Bool.not_true, Bool.not_false, reduceIte, List.cons_append, List.nil_append, List.length_cons, List.length_nil, Nat.reduceAdd, and_self, and_true, true_and, his, wp_of (hLx hd hin), wp_eqR (hdat d (fs.length - 5 + k))]
        exact ⟨_, _, rfl⟩
      · rintro τ L2 ⟨rfl, z8, z9, rfl⟩
        exact ⟨rfl, _, _, _, rfl⟩
    · rintro τ L1 ⟨rfl, z7, z8, z9, rfl⟩
      rw [th_nx, wps_kill, wps_seq]
      simp only [wps_nx, wps_bk, wps_ct, wps_retN, wps_kill, wps_set, wps_expr, wps_ret, wps_if, wps_ift, wps_iff, wps_satt, wps_unit, wps_setI, wps_for, th_rt, th_bk, th_ct, th_ex, killT, wp_var, varW_some, wp_retD, wp_ret, wp_pure, wp_bin, wp_un, wp_app, wp_cons, wp_nil, wp_tstD, wp_asB, wp_tstT, wp_truB_bl, wp_truB_tup, wp_truB_lst, wp_andB, wp_orB, wp_notB, wp_valB, wp_andV, wp_orV, wp_notV, wp_ifE, wp_noP, wp_part, wp_asJ, wp_slice, wp_seqI, wp_argI, wp_itm_tup, wp_itm_lst, wp_tup0, wp_tup1, wp_tup2, wp_tup3, wp_tup4, wp_lst0, wp_lst1, wp_lst2, wp_lst3, wp_lst4, wp_lst5, wp_lst6, wp_lst7, wp_lst8, wp_new0, wp_arN1, wp_arN2, wp_arN3, wp_arN4, wp_arN5, wp_arN6, wp_arN7, wp_addI, wp_subI, wp_negI, wp_int, wp_max2, wp_ord, wp_ltI, wp_chn, wp_eqI, wp_len_lst, wp_len_tup, wp_ixT0, wp_ixT1, wp_ixT2, wp_ixT3, wp_mth, wp_meth, wp_methZ, wp_methK, wp_lc, wp_yes, wp_js, wp_js0, wp_jsM, tyS_str, List.getElem?_cons_succ, List.getElem?_cons_zero, List.set_cons_succ, List.set_cons_zero, if_true, if_false, decide_true, decide_false, Bool.false_eq_true, Bool.not_true, Bool.not_false, reduceIte, List.cons_append, List.nil_append, List.length_cons, List.length_nil, Nat.reduceAdd, and_self, and_true, true_and]
      refine wps_forG (fun j τ L' => L' = L1 ∧ ∃ z7, τ = [none, none, some (.r 1), none, none, none, some (.v (.int fs.length)), z7, none, none]) _ 0 ⟨rfl, none, rfl⟩ (fun _ _ _ _ => trivial) ?_ ?_
      · rintro j p τ L2 ej ⟨rfl, z7, rfl⟩
        have hp : ∃ i : Int, (i < 0 ∨ ((fs.map Fm.p).length : Int) ≤ i) ∧ p = .int i := by
          rw [List.length_map]
          match j, ej with
          | 0, ej => cases ej; exact ⟨-1, by omega, rfl⟩
          | 1, ej => cases ej; exact ⟨_, .inr (by omega), rfl⟩
          | 2, ej => cases ej; exact ⟨_, .inr (by omega), rfl⟩
          | j + 3, ej => simp at ej
        obtain ⟨i, hi, rfl⟩ := hp
        refine ⟨_, rfl, ?_⟩
        have hdt : datB (.tup [.int i, .bl true]) = true := by
          simp [datB, toD, toDs, okD, SeqAt.shaped, PyData.canLay0, PyData.canLayAll0, PyData.depth, PyData.depthAll, PyData.eqv, PyData.eqvAll]
        simp only [wps_nx, wps_bk, wps_ct, wps_retN, wps_kill, wps_set, wps_expr, wps_ret, wps_if, wps_ift, wps_iff, wps_satt, wps_unit, wps_setI, wps_for, th_rt, th_bk, th_ct, th_ex, killT, wp_var, varW_some, wp_retD, wp_ret, wp_pure, wp_bin, wp_un, wp_app, wp_cons, wp_nil, wp_tstD, wp_asB, wp_tstT, wp_truB_bl, wp_truB_tup, wp_truB_lst, wp_andB, wp_orB, wp_notB, wp_valB, wp_andV, wp_orV, wp_notV, wp_ifE, wp_noP, wp_part, wp_asJ, wp_slice, wp_seqI, wp_argI, wp_itm_tup, wp_itm_lst, wp_tup0, wp_tup1, wp_tup2, wp_tup3, wp_tup4, wp_lst0, wp_lst1, wp_lst2, wp_lst3, wp_lst4, wp_lst5, wp_lst6, wp_lst7, wp_lst8, wp_new0, wp_arN1, wp_arN2, wp_arN3, wp_arN4, wp_arN5, wp_arN6, wp_arN7, wp_addI, wp_subI, wp_negI, wp_int, wp_max2, wp_ord, wp_ltI, wp_chn, wp_eqI, wp_len_lst, wp_len_tup, wp_ixT0, wp_ixT1, wp_ixT2, wp_ixT3, wp_mth, wp_meth, wp_methZ, wp_methK, wp_lc, wp_yes, wp_js, wp_js0, wp_jsM, tyS_str, List.getElem?_cons_succ, List.getElem?_cons_zero, List.set_cons_succ, List.set_cons_zero, if_true, if_false, decide_true, decide_false, Bool.false_eq_true, Bool.not_true, Bool.not_false, reduceIte, List.cons_append, List.nil_append, List.length_cons, List.length_nil, Nat.reduceAdd, and_self, and_true, true_and, wp_of (missing_ok hS.c.c hi), wp_eqR hdt]
        exact ⟨_, rfl⟩
      · rintro τ L2 ⟨rfl, z7, rfl⟩
        have hlo := con_lenO hS.c.c
        rw [List.length_map] at hlo
        rw [th_nx]
        simp only [wps_nx, wps_bk, wps_ct, wps_retN, wps_kill, wps_set, wps_expr, wps_ret, wps_if, wps_ift, wps_iff, wps_satt, wps_unit, wps_setI, wps_for, th_rt, th_bk, th_ct, th_ex, killT, wp_var, varW_some, wp_retD, wp_ret, wp_pure, wp_bin, wp_un, wp_app, wp_cons, wp_nil, wp_tstD, wp_asB, wp_tstT, wp_truB_bl, wp_truB_tup, wp_truB_lst, wp_andB, wp_orB, wp_notB, wp_valB, wp_andV, wp_orV, wp_notV, wp_ifE, wp_noP, wp_part, wp_asJ, wp_slice, wp_seqI, wp_argI, wp_itm_tup, wp_itm_lst, wp_tup0, wp_tup1, wp_tup2, wp_tup3, wp_tup4, wp_lst0, wp_lst1, wp_lst2, wp_lst3, wp_lst4, wp_lst5, wp_lst6, wp_lst7, wp_lst8, wp_new0, wp_arN1, wp_arN2, wp_arN3, wp_arN4, wp_arN5, wp_arN6, wp_arN7, wp_addI, wp_subI, wp_negI, wp_int, wp_max2, wp_ord, wp_ltI, wp_chn, wp_eqI, wp_len_lst, wp_len_tup, wp_ixT0, wp_ixT1, wp_ixT2, wp_ixT3, wp_mth, wp_meth, wp_methZ, wp_methK, wp_lc, wp_yes, wp_js, wp_js0, wp_jsM, tyS_str, List.getElem?_cons_succ, List.getElem?_cons_zero, List.set_cons_succ, List.set_cons_zero, if_true, if_false, decide_true, decide_false, Bool.false_eq_true, Bool.not_true, Bool.not_false, reduceIte, List.cons_append, List.nil_append, List.length_cons, List.length_nil, Nat.reduceAdd, and_self, and_true, true_and, wp_of hlo]
        exact hrt _
end LK12

end
theorem PySem.Challenge.cw_redopages_k12_texts_of_formulas_holds : PySem.Challenge.rw_redopages_k12_texts_of_formulas.Holds :=
  PySem.Challenge.cw_redopages_k12_texts_of_formulas_of LK12.law_ok
