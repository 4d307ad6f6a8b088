import PyProof.Rows.All
import Wide.All
import OpenK.AllK
import Wide.FinOn
import HandS.ForMost
import HandS.TupSets
import KE.KeyNested
import HandS.SetBool
import HandS.Base
import HandS.Exc
import HandS.ExcOwn
import HandS.ExcInit
import HandS.TryOnly
import HandS.CallSlots
import HandS.Deep
import HandS.TupAny
import HandS.Wide
import HandS.Steps
import HandS.Flow
import KE.LtData
import KE.SortData
import KE.KDictKeyed
import HandS.SortInts
import HandS.Iter
import HandS.WordsExc
import HandS.Nested
import KE.KExcSuper
import HandS.ExcField
import HandS.ExcIs
import KE.KExcIs
import HandS.IsInst
import HandS.Dict
import HandS.Text
import HandS.Head3
import HandS.HeadHook3
import HandS.HeadEnd
import HandS.Ends
import HandS.More
import HandS.Words
import HandS.Defaults
import HandS.FStr
import HandS.Strs
import HandS.IterVal
import HandS.OwnIter
import OpenK.KMeth
import HandS.SlotsOwn
import HandS.Zip
import KE.GoesEnum
import KE.KDictZip
import PyProof.EnumMake
import HandS.Conv
import HandS.Star
import PyProof.EqKinds
import KE.KEqDict
import PyProof.FString3
import PyProof.Rows.StrIntSpec
import PyProof.Rows.StrPins
import HandS.StrMore
import PyProof.StrLaws
import HandS.Property
import HandS.Style
import KE.GoesMore
import HandS.RevRange
import PyProof.DictCompW
import HandS.DictComp
import HandS.GenList
import HandS.HotCalls
import HandS.DictSubView
import KE.KDictDisplayH
import HandS.DeepEq
import KE.KSuper
import PySem.Challenge.RW_redopages_k01_roles_and_their_words
set_option Elab.async false
set_option linter.all false
set_option maxRecDepth 100000
set_option maxHeartbeats 4000000
section
namespace DN
open PySem PySem.Spec PyProof.Rows L2
def kE (m : Nat) : Prop := m = 7 ∨ m = 31 ∨ m = 127 ∨ m = 511
structure TabG (t : SetTable) (hs : List Int) : Prop where
 ris : Ris t.place.toList
 dm : t.dummies = #[]
 sz : t.place.size = hs.length
 mok : kE t.mask
 bd : ∀ x ∈ t.place.toList, x ≤ t.mask
 reach : ∀ (i : Nat) (h : Int) (j : Nat), hs[i]? = some h → t.place.toList[i]? = some j → ∃ k, way t.mask h k = j ∧ ∀ k', k' < k → way t.mask h k' ∈ t.place.toList
end DN
end
section
namespace DN
open PySem PySem.Spec PyProof.Rows L2
def eE (h : Heap) (k : NestedKey) (b : Addr) : Prop := NestedIs h k (.ref b) ∧ k.depth ≤ 8
section
variable {P : Program} {w : World}
def tK (P : Program) (w : World) (n : Nat) (s : Shared) (v : Value) : Prop := ∀ (A : Around) (E : Value → Shared → Prop) (Q : Bool → Shared → Prop), Q false s → wpAny (model P w) A (ofAClassStatement n v) Q E s
def tL (P : Program) (w : World) (n : Nat) (s : Shared) (v : Value) : Prop := ∀ (A : Around) (E : Value → Shared → Prop) (Q : Bool → Shared → Prop), (∀ b, Q b s) → wpAny (model P w) A (hashByValue n v) Q E s
theorem tK.tup {n : Nat} {s : Shared} {a : Addr} {o : Obj} {vs : Array Value} {m : Nat} (ho : s.heap.get? a = some o) (hc : o.cls = .type "tuple") (hd : o.data = .seq vs m) (hq : ∀ v ∈ vs.toList, tK P w n s v) : tK P w (n + 1) s (.ref a) := fun A E Q h => by
 have hT : s.TypeIs (.ref a) "tuple" := ⟨o, ho, hc⟩
 have te : (("tuple" : String) == "tuple") = true := by decide
 unfold ofAClassStatement
 refine wpAny_bind (wpAny_typeOf hT ?_)
 dsimp only
 simp only [te, if_true, Bool.not_true, Bool.false_eq_true, if_false]
 try refine wpAny_bind (wpAny_pure ?_)
 try simp only [Bool.not_true, Bool.false_eq_true, if_false]
 show wpAny _ _ (seqItems? (.ref a) >>= _) _ _ s
 refine wpAny_bind (wpAny_seqItems ho hd ?_)
 dsimp only
 refine wpAny_bind ?_
 show wpAny _ _ (forIn vs _ _) _ _ s
 rw [← Array.forIn_toList]
 refine wpAny_forIn_list _ (fun left r s2 => r.1 = none ∧ s2 = s ∧ ∀ v ∈ left, tK P w n s v) _ ?_ ?_ _ _ ⟨rfl, rfl, hq⟩
 ·rintro v left r s2 ⟨hr, rfl, all⟩
  refine wpAny_bind (all v List.mem_cons_self _ _ _ ?_)
  simp only [Bool.false_eq_true, if_false]
  exact wpAny_pure ⟨rfl, rfl, fun u hu => all u (List.mem_cons_of_mem _ hu)⟩
 ·rintro ⟨r1, r2⟩ s2 ⟨hr, rfl, _⟩
  simp only at hr
  subst hr
  exact wpAny_pure h
theorem tL.tup {n : Nat} {s : Shared} {a : Addr} {o : Obj} {vs : Array Value} {m : Nat} (ho : s.heap.get? a = some o) (hc : o.cls = .type "tuple") (hd : o.data = .seq vs m) (hq : ∀ v ∈ vs.toList, tL P w n s v) : tL P w (n + 1) s (.ref a) := fun A E Q h => by
 have hT : s.TypeIs (.ref a) "tuple" := ⟨o, ho, hc⟩
 unfold hashByValue
 refine wpAny_bind (wpAny_specialOf hT F.slot_tuple_hash.lookup ?_)
 show wpAny _ _ (seqItems? (.ref a) >>= _) _ _ s
 refine wpAny_bind (wpAny_seqItems ho hd ?_)
 refine wpAny_bind ?_
 show wpAny _ _ (forIn vs _ _) _ _ s
 rw [← Array.forIn_toList]
 refine wpAny_forIn_list _ (fun left r s2 => s2 = s ∧ ∀ v ∈ left, tL P w n s v) _ ?_ ?_ _ _ ⟨rfl, hq⟩
 ·rintro v left r s2 ⟨rfl, all⟩
  refine wpAny_bind (all v List.mem_cons_self _ _ _ fun b => ?_)
  cases b
  ·simp only [Bool.not_false, if_true]
   exact wpAny_pure (show wpAny _ _ (pure false) _ _ _ from wpAny_pure (h _))
  ·simp only [Bool.not_true, Bool.false_eq_true, if_false]
   exact wpAny_pure ⟨rfl, fun u hu => all u (List.mem_cons_of_mem _ hu)⟩
 ·rintro ⟨r1, r2⟩ s2 ⟨rfl, _⟩
  cases r1 <;> exact wpAny_pure (h _)
variable {A : Around} {E : Value → Shared → Prop} {s : Shared}
abbrev Mem := Addr × NestedKey
def hsh (w : World) (L : List Mem) : List Int := L.map fun p => p.2.hash w
def kJ (w : World) (L : List Mem) : List (Int × Value) := L.map fun p => (p.2.hash w, Value.ref p.1)
structure SetT (w : World) (h : Heap) (a : Addr) (L : List Mem) (es : Array (Int × Value)) (ep : Nat) (t : SetTable) : Prop where
 ob : ∃ o, h.get? a = some o ∧ o.ExactSet ∧ o.data = .set es ep t
 rows : es.toList = kJ w L
 tab : TabG t (hsh w L)
 nd : (L.map (·.2)).Nodup
 key : ∀ p ∈ L, eE h p.2 p.1
 led : w.params.followText "set-order" = true ∨ t.led = true
 room : L.length * 5 < t.mask * 3
 few : L.length < 300
variable {a : Addr} {L : List Mem} {es : Array (Int × Value)} {ep : Nat} {t : SetTable}
theorem Dt : (kJ w L).length = L.length := List.length_map _
theorem SetT.size (R : SetT w s.heap a L es ep t) : es.size = L.length := by rw [← Array.length_toList, R.rows, Dt]
theorem yZ (hd : t.dummies = #[]) (h1 : t.place.size = es.size) (h2 : es.size ≤ t.mask) : t.fits es.size = true := by
 unfold SetTable.fits SetTable.fill
 rw [hd, Bool.and_eq_true, beq_iff_eq, decide_eq_true_eq]
 show t.place.size = es.size ∧ t.place.size + 0 ≤ t.mask
 omega
theorem SetT.places (R : SetT w s.heap a L es ep t) : t.place.size = L.length := by have := R.tab.sz; unfold hsh at this; rwa [List.length_map] at this
theorem SetT.fits (R : SetT w s.heap a L es ep t) : t.fits es.size = true := by
 have h1 := R.places
 have h2 := R.size
 have h3 := R.room
 exact yZ R.tab.dm (by omega) (by omega)
theorem zA {es : Array (Int × Value)} (hr : es.toList = kJ w L) : es.size = L.length := by rw [← Array.length_toList, hr, Dt]
end
end DN
end
section
namespace DN
open PySem PySem.Spec PyProof.Rows L2
def txOf (e : Int × Value) : Str := match e.2 with
 | .str x _ => x
 | _ => Str.empty
def tM (w : World) (e : Int × Value) : Prop := ∃ x tk, e.2 = Value.str x tk ∧ e.1 = hashStr w x
structure kW (w : World) (h : Heap) (a : Addr) (xs : List Str) (es : Array (Int × Value)) (ep : Nat) (t : SetTable) : Prop where
 ob : ∃ o, h.get? a = some o ∧ o.ExactSet ∧ o.data = .set es ep t
 good : ∀ e ∈ es.toList, tM w e
 key : es.toList.map txOf = xs
 nd : xs.Nodup
 fits : t.fits es.size = true
 ris : Ris t.place.toList
 led : w.params.followText "set-order" = true ∨ t.led = true
 few : xs.length < 300
section
variable {P : Program} {w : World} {A : Around} {E : Value → Shared → Prop} {s : Shared} {a : Addr} {xs : List Str} {es : Array (Int × Value)} {ep : Nat} {t : SetTable}
theorem kW.size (R : kW w s.heap a xs es ep t) : es.size = xs.length := by rw [← R.key, List.length_map, Array.length_toList]
end
structure SetT0 (w : World) (h : Heap) (a : Addr) (L : List Mem) (es : Array (Int × Value)) (ep : Nat) (t : SetTable) : Prop where
 ob : ∃ o, h.get? a = some o ∧ o.ExactSet ∧ o.data = .set es ep t
 rows : es.toList = kJ w L
 tab : TabG t (hsh w L)
 nd : (L.map (·.2)).Nodup
 led : w.params.followText "set-order" = true ∨ t.led = true
 room : L.length * 5 < t.mask * 3
 few : L.length < 300
abbrev pG := Value × NestedKey
def dI (w : World) (a : Addr) (ms : List pG) (h : Heap) : Prop :=
 (∃ L es ep t, SetT0 w h a L es ep t ∧ ms = L.map fun p => (Value.ref p.1, p.2)) ∨ ∃ xs es ep t, kW w h a xs es ep t ∧ xs ≠ [] ∧ ms = es.toList.map fun e => (e.2, NestedKey.text (txOf e))
def Ut (w : World) (a : Addr) (ms : List pG) : HO := .ext (dI w a ms)
section
variable {P : Program} {w : World} {A : Around} {E : Value → Shared → Prop} {s : Shared} {a : Addr} {ms : List pG}
theorem dI.at {h0 h' : Heap} (h : dI w a ms h0) (k : ∀ o, h0.get? a = some o → h'.get? a = some o) : dI w a ms h' := by
 rcases h with ⟨L, es, ep, t, R, e⟩ | ⟨xs, es, ep, t, R, ne, e⟩
 ·obtain ⟨o, ho, r⟩ := R.ob
  exact .inl ⟨L, es, ep, t, ⟨⟨o, k o ho, r⟩, R.rows, R.tab, R.nd, R.led, R.room, R.few⟩, e⟩
 ·obtain ⟨o, ho, r⟩ := R.ob
  exact .inr ⟨xs, es, ep, t, ⟨⟨o, k o ho, r⟩, R.good, R.key, R.nd, R.fits, R.ris, R.led, R.few⟩, ne, e⟩
theorem dI.nd {h : Heap} (x : dI w a ms h) : (ms.map (·.2)).Nodup := by
 rcases x with ⟨L, es, ep, t, R, e⟩ | ⟨xs, es, ep, t, R, ne, e⟩
 ·rw [e, List.map_map]
  exact R.nd
 ·rw [e, List.map_map]
  have h1 := R.nd
  rw [← R.key] at h1
  have : es.toList.map ((fun m : pG => m.2) ∘ fun e => (e.2, NestedKey.text (txOf e))) = (es.toList.map txOf).map NestedKey.text := by rw [List.map_map]; rfl
  rw [this]
  exact List.Pairwise.map _ (fun x y hne e => hne (by injection e)) h1
theorem dI.len (h : dI w a ms s.heap) {Q : Value → Shared → Prop} (hq : Q (.int ms.length (s.toks + 1)) { s with toks := s.toks + 1 + 1 }) : wpAny (model P w) A (call (.builtin "len") [.ref a]) Q E s := by
 rcases h with ⟨L, es, ep, t, R, rfl⟩ | ⟨xs, es, ep, t, R, ne, rfl⟩
 ·obtain ⟨o, ho, hex, hd⟩ := R.ob
  have hs : es.size = L.length := zA R.rows
  have h1 := R.tab.sz
  unfold hsh at h1
  rw [List.length_map] at h1
  have h2 := R.room
  have h3 := R.few
  refine call_len_set ho hex hd (yZ R.tab.dm (by omega) (by omega)) (by omega) ?_
  rw [hs]
  rw [List.length_map] at hq
  exact hq
 ·obtain ⟨o, ho, hex, hd⟩ := R.ob
  have h3 := R.few
  rw [← R.key, List.length_map, Array.length_toList] at h3
  refine call_len_set ho hex hd R.fits (by omega) ?_
  rw [List.length_map, Array.length_toList] at hq
  exact hq
end
end DN
end
section
namespace DN
open PySem
def aN : Nat → List Nat
 | 0 | 1 | 2 | 3 | 4 | 5 => [0, 1]
 | 6 => [0, 2]
 | 7 => [3]
 | 8 => [4]
 | 9 => [5, 6]
 | 10 => [7, 8, 9]
 | 11 => [10, 11]
 | 12 => [4]
 | 13 => [10, 12, 13, 14]
 | 14 => [15, 16]
 | 15 => [17, 18]
 | 16 => [19, 20, 21, 22, 23]
 | 21 | 22 | 23 | 24 => [0]
 | 25 => [24, 8]
 | 26 | 27 => [7]
 | 28 => [26, 25]
 | 29 | 34 => [27]
 | 30 => [28, 25]
 | 31 => [31, 30, 25, 29]
 | 32 => [34, 33, 32, 25]
 | 33 => [8]
 | 35 => [1]
 | 36 => [20]
 | 37 => [25]
 | _ => []
def aK : Nat → Str
 | 0 => "name" | 1 => "group" | 2 => "roles" | 3 => "kinds" | 4 => "rows" | 5 => "formulas" | 6 => "numbers" | 7 => "number" | 8 => "kind" | 9 => "pages"
 | 10 => "catalog" | 11 => "steps" | 12 => "waits" | 13 => "log" | 14 => "disk" | 15 => "contents" | 16 => "pages_held" | 17 => "size" | 18 => "images" | 19 => "store"
 | 20 => "order" | 21 => "turn" | 22 => "seen" | 23 => "held" | 24 => "at" | 25 => "page" | 26 => "version" | 27 => "row" | 28 => "behind" | 29 => "step"
 | 30 => "stood" | 31 => "stamp" | 32 => "due" | 33 => "found" | 34 => "newer"
 | _ => ""
end DN
end
section
namespace DN
open PySem L2
inductive P where
 | non | bl (b : Bool) | int (i : Int) | str (x : Str)
 | tup (xs : List P) | lst (xs : List P)
 | ins (c : Nat) (fs : List P)
 | dk (es : List P) | dn (es : List P) | set (xs : List P)
 | exn (c : Nat) (fs : List P) | scr (ns : List Int)
 deriving Inhabited
inductive D where
 | v (p : P) | r (n : Nat)
inductive MO where
 | lst (xs : List P)
 | dk (es : List (Key × P)) | dn (es : List (P × P))
 | ins (c : Nat) (fs : List (Nat × D))
 | set (xs : List P)
 | dead
inductive Res (α : Type) where
 | ok (a : α) | ex (c : Nat) (fs : List P)
def M (α : Type) := List MO → Option (Res α × List MO)
namespace M
def ret {α : Type} (a : α) : M α := fun L => some (.ok a, L)
def bnd {α β : Type} (m : M α) (f : α → M β) : M β := fun L => match m L with
 | none => none
 | some (.ok a, L1) => f a L1
 | some (.ex c fs, L1) => some (.ex c fs, L1)
end M
instance : Monad M where
 pure := M.ret
 bind := M.bnd
structure G where
 K : PySem.W.Frag
 w : World
 cl : Nat → Addr
structure jM (g : G) (c : Nat) : Prop where
 cls : Cls g.K (g.cl c)
 att : ∀ f ∈ aN c, NoAttr g.K (g.cl c) (aK f)
 nd : ((aN c).map aK).Nodup
 few : (aN c).length < 1000
mutual
inductive NK : P → NestedKey → Prop where
 | non : NK .non .none
 | int (i : Int) : NK (.int i) (.num i)
 | str (x : Str) : NK (.str x) (.text x)
 | tup {ps : List P} {ks : List NestedKey} : qX ps ks → NK (.tup ps) (.tup ks)
inductive qX : List P → List NestedKey → Prop where
 | nil : qX [] []
 | cons {p : P} {k : NestedKey} {ps : List P} {ks : List NestedKey} : NK p k → qX ps ks → qX (p :: ps) (k :: ks)
end
def tQ (w : World) (d : Addr) (rows : List (NestedKey × Addr × Value)) (h : Heap) : Prop :=
 ∃ o es ep, h.get? d = some o ∧ o.ExactDict ∧ o.data = .dict es ep ∧
  es.toList = rows.map (fun x => (⟨x.1.hash w, .ref x.2.1, x.2.2⟩ : DictEntry))
def Uu : Key → P
 | .inl i => .int i
 | .inr s => .str s
mutual
inductive Is (g : G) (F : Hp) : V → P → Prop where
 | non : Is g F .non .non
 | bl (b : Bool) : Is g F (.bl b) (.bl b)
 | int (i : Int) : Is g F (.int i) (.int i)
 | str (x : Str) : Is g F (.str x) (.str x)
 | tup {a : Addr} {vs : List V} {ps : List P} : SqT g.K F a vs → aP g F vs ps → Is g F (.ref a) (.tup ps)
 | lst {a : Addr} {vs : List V} {ps : List P} : F a = some (.lst vs) → aP g F vs ps → Is g F (.ref a) (.lst ps)
 | scr {a : Addr} {ns : List Int} : SqL g.K F a (ns.map V.int) → Is g F (.ref a) (.scr ns)
 | ins {a dx : Addr} {c : Nat} {vs : List V} {ps : List P} : F a = some (.ins (g.cl c) dx (((aN c).map aK).zip vs)) →
   vs.length = (aN c).length → aP g F vs ps → jM g c → Is g F (.ref a) (.ins c ps)
 | exn {a dx : Nat} {c : Nat} {vs : List V} {ps : List P} : F dx = some (.xd (((aN c).map aK).zip vs)) → vs.length = (aN c).length → aP g F vs ps → Is g F (.ref a) (.exn c (.int a :: .int dx :: ps))
 | dn {a : Addr} {o : Obj} {rows : List (NestedKey × Addr × Value)} {es : List P} : F a = some (.frz o (.ext (tQ g.w a rows))) → (a == sysModules) = false → (rows.map (·.1)).Nodup → mU g F rows es → Is g F (.ref a) (.dn es)
 | exv {a dx : Addr} {c : Nat} {vs : List V} {ps : List P} : F a = some (exo a (g.cl c) (some dx)) → F dx = some (exd dx (((aN c).map aK).zip vs)) → vs.length = (aN c).length → aP g F vs ps → Is g F (.ref a) (.dk (.int c :: ps))
 | dt {a : Addr} {kvs : List (Key × V)} {es : List P} : F a = some (.dK kvs) → oH g F kvs es → Is g F (.ref a) (.dk (.non :: es))
inductive aP (g : G) (F : Hp) : List V → List P → Prop where
 | nil : aP g F [] []
 | cons {v : V} {p : P} {vs : List V} {ps : List P} : Is g F v p → aP g F vs ps → aP g F (v :: vs) (p :: ps)
inductive mU (g : G) (F : Hp) : List (NestedKey × Addr × Value) → List P → Prop where
 | nil : mU g F [] []
 | cons {x : NestedKey × Addr × Value} {k p : P} {v : V} {rows : List (NestedKey × Addr × Value)} {es : List P} : NK k x.1 → x.1.depth ≤ 8 → Is g F (.ref x.2.1) k → RelV v x.2.2 → Is g F v p → mU g F rows es → mU g F (x :: rows) (k :: p :: es)
inductive oH (g : G) (F : Hp) : List (Key × V) → List P → Prop where
 | nil : oH g F [] []
 | cons {x : Key × V} {p : P} {kvs : List (Key × V)} {es : List P} : Is g F x.2 p → oH g F kvs es → oH g F (x :: kvs) (Uu x.1 :: p :: es)
end
def Sub (F F' : Hp) : Prop := ∀ a o, F a = some o → F' a = some o
theorem Sub.refl (F : Hp) : Sub F F := fun _ _ h => h
theorem Sub.trans {F F' F2 : Hp} (h : Sub F F') (h' : Sub F' F2) : Sub F F2 := fun a o e => h' a o (h a o e)
theorem Sub.sqL {K : PySem.W.Frag} {F F' : Hp} (s : Sub F F') {a : Addr} {xs : List V} (h : SqL K F a xs) : SqL K F' a xs := by
 rcases h with (h | ⟨o, h⟩) | h
 ·exact .inl (.inl (s _ _ h))
 ·exact .inl (.inr ⟨o, s _ _ h⟩)
 ·exact .inr h
theorem Sub.sqT {K : PySem.W.Frag} {F F' : Hp} (s : Sub F F') {a : Addr} {xs : List V} (h : SqT K F a xs) : SqT K F' a xs := by
 rcases h with (h | ⟨o, h⟩) | h
 ·exact .inl (.inl (s _ _ h))
 ·exact .inl (.inr ⟨o, s _ _ h⟩)
 ·exact .inr h
mutual
theorem Is.mono {g : G} {F F' : Hp} (s : Sub F F') {v : V} {p : P} (h : Is g F v p) : Is g F' v p := match h with
 | .non => .non
 | .bl b => .bl b
 | .int i => .int i
 | .str x => .str x
 | .tup h1 h2 => .tup (s.sqT h1) (aP.mono s h2)
 | .lst h1 h2 => .lst (s _ _ h1) (aP.mono s h2)
 | .scr h1 => .scr (s.sqL h1)
 | .ins h1 h2 h3 h4 => .ins (s _ _ h1) h2 (aP.mono s h3) h4
 | .exn h1 h2 h3 => .exn (s _ _ h1) h2 (aP.mono s h3)
 | .dn h1 h2 h3 h4 => .dn (s _ _ h1) h2 h3 (mU.mono s h4)
 | .exv h1 h2 h3 h4 => .exv (s _ _ h1) (s _ _ h2) h3 (aP.mono s h4)
 | .dt h1 h2 => .dt (s _ _ h1) (oH.mono s h2)
theorem aP.mono {g : G} {F F' : Hp} (s : Sub F F') {vs : List V} {ps : List P} (h : aP g F vs ps) : aP g F' vs ps := match h with
 | .nil => .nil
 | .cons h1 h2 => .cons (Is.mono s h1) (aP.mono s h2)
theorem mU.mono {g : G} {F F' : Hp} (s : Sub F F') {rows : List (NestedKey × Addr × Value)} {es : List P} (h : mU g F rows es) : mU g F' rows es := match h with
 | .nil => .nil
 | .cons h1 h2 h3 h4 h5 h6 => .cons h1 h2 (Is.mono s h3) h4 (Is.mono s h5) (mU.mono s h6)
theorem oH.mono {g : G} {F F' : Hp} (s : Sub F F') {kvs : List (Key × V)} {es : List P} (h : oH g F kvs es) : oH g F' kvs es := match h with
 | .nil => .nil
 | .cons h1 h2 => .cons (Is.mono s h1) (oH.mono s h2)
end
theorem aP.len {g : G} {F : Hp} : ∀ {vs : List V} {ps : List P}, aP g F vs ps → vs.length = ps.length
 | _, _, .nil => rfl
 | _, _, .cons _ h => congrArg (· + 1) (aP.len h)
def IsD (g : G) (F : Hp) (ρ : Nat → Addr) (n : Nat) (v : V) : D → Prop
 | .v p => Is g F v p
 | .r k => k < n ∧ v = .ref (ρ k)
def gK (g : G) (F : Hp) (ρ : Nat → Addr) (n : Nat) (H : Hp) (a : Addr) : MO → Prop
 | .lst xs => ∃ vs, H a = some (.lst vs) ∧ aP g F vs xs
 | .dk es => ∃ kvs, H a = some (.dK kvs) ∧ Paired (fun (x : Key × V) (y : Key × P) => x.1 = y.1 ∧ Is g F x.2 y.2) kvs es ∧ (es.map (·.1)).Nodup
 | .dn es => ∃ rows : List (NestedKey × Addr × Value), H a = some (.ext (tQ g.w a rows)) ∧ (a == sysModules) = false ∧ (rows.map (·.1)).Nodup ∧
   Paired (fun (x : NestedKey × Addr × Value) (y : P × P) => NK y.1 x.1 ∧ x.1.depth ≤ 8 ∧ Is g F (.ref x.2.1) y.1 ∧ ∃ v, RelV v x.2.2 ∧ Is g F v y.2) rows es
 | .ins c fs => ∃ dx vs, H a = some (.ins (g.cl c) dx vs) ∧ Paired (fun (x : Str × V) (y : Nat × D) => x.1 = aK y.1 ∧ IsD g F ρ n x.2 y.2) vs fs ∧
   jM g c ∧ (∀ y ∈ fs, y.1 ∈ aN c) ∧ (fs.map (·.1)).Nodup
 | .set xs => ∃ ms, H a = some (Ut g.w a ms) ∧ ∃ ms', ms'.Perm ms ∧ Paired (fun (m : pG) (p : P) => NK p m.2 ∧ m.2.depth ≤ 8 ∧ ∃ v, RelV v m.1 ∧ Is g F v p) ms' xs
 | .dead => True
structure R (g : G) (F : Hp) (ρ : Nat → Addr) (L : List MO) (H : Hp) : Prop where
 sub : Sub F H
 ent : ∀ i m, L[i]? = some m → m ≠ .dead → F (ρ i) = none ∧ gK g F ρ L.length H (ρ i) m
 inj : ∀ i j m m', L[i]? = some m → L[j]? = some m' → m ≠ .dead → m' ≠ .dead → ρ i = ρ j → i = j
def Sl (g : G) (F : Hp) (ρ : Nat → Addr) (n : Nat) (σ : St) (τ : List (Option D)) : Prop :=
 τ.length = σ.length ∧ ∀ (i : Nat) (d : D), τ[i]? = some (some d) → ∃ v, σ[i]? = some (some v) ∧ IsD g F ρ n v d
structure Ext (F : Hp) (ρ : Nat → Addr) (n : Nat) (F' : Hp) (ρ' : Nat → Addr) (n' : Nat) : Prop where
 sub : Sub F F'
 rho : ∀ i, i < n → ρ' i = ρ i
 len : n ≤ n'
theorem Ext.refl {F : Hp} {ρ : Nat → Addr} {n : Nat} : Ext F ρ n F ρ n := ⟨Sub.refl _, fun _ _ => rfl, Nat.le_refl _⟩
theorem Ext.trans {F F' F2 : Hp} {ρ ρ' ρ2 : Nat → Addr} {n n' n2 : Nat} (a : Ext F ρ n F' ρ' n') (b : Ext F' ρ' n' F2 ρ2 n2) : Ext F ρ n F2 ρ2 n2 :=
 ⟨a.sub.trans b.sub, fun i h => (b.rho i (Nat.lt_of_lt_of_le h a.len)).trans (a.rho i h), Nat.le_trans a.len b.len⟩
theorem IsD.ext {g : G} {F F' : Hp} {ρ ρ' : Nat → Addr} {n n' : Nat} {v : V} {d : D} (e : Ext F ρ n F' ρ' n') (h : IsD g F ρ n v d) : IsD g F' ρ' n' v d := by
 cases d with
 | v p => exact Is.mono e.sub h
 | r k => exact ⟨Nat.lt_of_lt_of_le h.1 e.len, by rw [e.rho k h.1]; exact h.2⟩
theorem Sl.ext {g : G} {F F' : Hp} {ρ ρ' : Nat → Addr} {n n' : Nat} {σ : St} {τ : List (Option D)} (e : Ext F ρ n F' ρ' n') (h : Sl g F ρ n σ τ) : Sl g F' ρ' n' σ τ :=
 ⟨h.1, fun i d q => let ⟨v, a, b⟩ := h.2 i d q; ⟨v, a, b.ext e⟩⟩
abbrev aA := List (Option D)
def Post {α β : Type} (g : G) (rel : Hp → (Nat → Addr) → Nat → β → α → Prop) (F : Hp) (ρ : Nat → Addr) (n : Nat) (W : Value → Option Addr → Hp → Prop) (Q : β → Hp → Prop) : Option (Res α × List MO) → Prop
 | none => False
 | some (.ok d, L) => ∀ F' ρ' b H', Ext F ρ n F' ρ' L.length → R g F' ρ' L H' → rel F' ρ' L.length b d → Q b H'
 | some (.ex c fs, L) => ∀ F' ρ' dx vs H', Ext F ρ n F' ρ' L.length → R g F' ρ' L H' → F' dx = some (.xd (((aN c).map aK).zip vs)) → vs.length = (aN c).length → aP g F' vs fs →
   W (.ref (g.cl c)) (some dx) H'
theorem Post.ext {α β : Type} {g : G} {rel : Hp → (Nat → Addr) → Nat → β → α → Prop} {F F1 : Hp} {ρ ρ1 : Nat → Addr} {n n1 : Nat} {W : Value → Option Addr → Hp → Prop} {Q : β → Hp → Prop} {o : Option (Res α × List MO)}
  (e : Ext F ρ n F1 ρ1 n1) (h : Post g rel F ρ n W Q o) : Post g rel F1 ρ1 n1 W Q o := by
 match o, h with
 | some (.ok d, L), h => exact fun F' ρ' b H' x => h F' ρ' b H' (e.trans x)
 | some (.ex c fs, L), h => exact fun F' ρ' dx vs H' x => h F' ρ' dx vs H' (e.trans x)
def Sat {α β : Type} (g : G) (rel : Hp → (Nat → Addr) → Nat → β → α → Prop) (W : WX) (ctx : List (V × D)) (f : aA → M α) (σ : St) (H : Hp) (Q : β → Hp → Prop) : Prop :=
 ∃ F ρ τ L, R g F ρ L H ∧ Sl g F ρ L.length σ τ ∧ (∀ x ∈ ctx, IsD g F ρ L.length x.1 x.2) ∧ Post g rel F ρ L.length (fun c d H' => W c d σ H') Q (f τ L)
abbrev bT (g : G) (F : Hp) (ρ : Nat → Addr) (n : Nat) (v : V) (d : D) : Prop := IsD g F ρ n v d
section
variable {X : Cx} {g : G} {W : WX}
theorem Sat.ret {α β : Type} {rel : Hp → (Nat → Addr) → Nat → β → α → Prop} {ctx : List (V × D)} {σ : St} {H : Hp} {Q : β → Hp → Prop} {f : aA → M α} {a : α} {b : β}
  (h : Sat g rel W ctx f σ H Q) (hf : ∀ τ L, f τ L = some (.ok a, L)) (hr : ∀ F ρ n, (∀ x ∈ ctx, IsD g F ρ n x.1 x.2) → rel F ρ n b a) : Q b H := by
 obtain ⟨F, ρ, τ, L, hR, hS, hc, hp⟩ := h
 rw [hf] at hp
 exact hp F ρ b H Ext.refl hR (hr _ _ _ hc)
end
end DN
end
section
namespace DN
open PySem L2
section
variable {g : G} {F : Hp} {ρ : Nat → Addr} {n : Nat} {L : List MO} {H : Hp} {a p : Addr} {m : MO} {o : HO}
theorem gK.some (h : gK g F ρ n H a m) (nd : m ≠ .dead) : ∃ o, H a = some o := by
 cases m with
 | lst xs => obtain ⟨vs, e, _⟩ := h; exact ⟨_, e⟩
 | dk es => obtain ⟨vs, e, _⟩ := h; exact ⟨_, e⟩
 | dn es => obtain ⟨vs, e, _⟩ := h; exact ⟨_, e⟩
 | ins c fs => obtain ⟨dx, vs, e, _⟩ := h; exact ⟨_, e⟩
 | set xs => obtain ⟨ms, e, _⟩ := h; exact ⟨_, e⟩
 | dead => exact absurd rfl nd
theorem gK.congr {H' : Hp} (h : gK g F ρ n H a m) (e : H' a = H a) : gK g F ρ n H' a m := by
 cases m with
 | lst xs => obtain ⟨vs, q, r⟩ := h; exact ⟨vs, e.trans q, r⟩
 | dk es => obtain ⟨vs, q, r⟩ := h; exact ⟨vs, e.trans q, r⟩
 | dn es => obtain ⟨vs, q, r⟩ := h; exact ⟨vs, e.trans q, r⟩
 | ins c fs => obtain ⟨dx, vs, q, r⟩ := h; exact ⟨dx, vs, e.trans q, r⟩
 | set xs => obtain ⟨ms, q, r⟩ := h; exact ⟨ms, e.trans q, r⟩
 | dead => trivial
theorem tR {α β : Type} {A B : α → β → Prop} : ∀ {xs : List α} {ys : List β}, Paired A xs ys → (∀ x y, A x y → B x y) → Paired B xs ys
 | _, _, .nil, _ => .nil
 | _, _, .cons h t, f => .cons (f _ _ h) (tR t f)
theorem gK.ext {F' : Hp} {ρ' : Nat → Addr} {n' : Nat} (x : Ext F ρ n F' ρ' n') (h : gK g F ρ n H a m) : gK g F' ρ' n' H a m := by
 cases m with
 | lst xs => obtain ⟨vs, q, r⟩ := h; exact ⟨vs, q, aP.mono x.sub r⟩
 | dk es => obtain ⟨vs, q, r, nd⟩ := h; exact ⟨vs, q, tR r fun _ _ z => ⟨z.1, Is.mono x.sub z.2⟩, nd⟩
 | dn es =>
  obtain ⟨vs, q, sm, nd, r⟩ := h
  exact ⟨vs, q, sm, nd, tR r fun _ _ z => ⟨z.1, z.2.1, Is.mono x.sub z.2.2.1, let ⟨v, r1, r2⟩ := z.2.2.2; ⟨v, r1, Is.mono x.sub r2⟩⟩⟩
 | ins c fs => obtain ⟨dx, vs, q, r, s⟩ := h; exact ⟨dx, vs, q, tR r fun _ _ z => ⟨z.1, z.2.ext x⟩, s⟩
 | set xs => obtain ⟨ms, q, ms', p, r⟩ := h; exact ⟨ms, q, ms', p, tR r fun _ _ z => ⟨z.1, z.2.1, let ⟨v, r1, r2⟩ := z.2.2; ⟨v, r1, Is.mono x.sub r2⟩⟩⟩
 | dead => trivial
theorem R.live (h : R g F ρ L H) {i : Nat} (e : L[i]? = some m) (nd : m ≠ .dead) : ∃ o, H (ρ i) = some o := (h.ent i m e nd).2.some nd
theorem R.frz (h : R g F ρ L H) (hp : H p = none) (o : HO) : R g (upd F p o) ρ L (upd H p o) where
 sub := fun a q e => by
  by_cases z : a = p
  ·subst z
   rw [upd_same] at e ⊢
   exact e
  ·rw [upd_ne z] at e ⊢
   exact h.sub a q e
 ent := fun i m e nd => by
  obtain ⟨q, hq⟩ := h.live e nd
  have ne : ρ i ≠ p := fun z => by rw [z, hp] at hq; cases hq
  obtain ⟨h1, h2⟩ := h.ent i m e nd
  refine ⟨by rw [upd_ne ne]; exact h1, (h2.congr (upd_ne ne)).ext (F' := upd F p o) (ρ' := ρ) ⟨fun b q eb => ?_, fun _ _ => rfl, Nat.le_refl _⟩⟩
  have nb : b ≠ p := fun z => by
   have := h.sub b q eb
   rw [z, hp] at this
   cases this
  rw [upd_ne nb]
  exact eb
 inj := h.inj
theorem Sub.frz (h : R g F ρ L H) (hp : H p = none) (o : HO) : Sub F (upd F p o) := fun b q eb => by
 have nb : b ≠ p := fun z => by
  have := h.sub b q eb
  rw [z, hp] at this
  cases this
 rw [upd_ne nb]
 exact eb
end
section
variable {g : G} {F : Hp} {ρ : Nat → Addr} {L : List MO} {H : Hp} {x y : V} {d e : D} {W : Value → Option Addr → Hp → Prop} {Q : VK}
theorem Post.tup {ps : List P} {vs : List V} (hR : R g F ρ L H) (h : Post g (bT g) F ρ L.length W Q (some (.ok (.v (.tup ps)), L))) (hv : aP g F vs ps) {p : Addr} (hp : H p = none) : Q (.ref p) (upd H p (.tup vs)) := by
 refine h (upd F p (.tup vs)) ρ (.ref p) _ ⟨Sub.frz hR hp _, fun _ _ => rfl, Nat.le_refl _⟩ (hR.frz hp _) ?_
 exact Is.tup (SqT.of upd_same) (aP.mono (Sub.frz hR hp _) hv)
theorem Post.lst {ps : List P} {vs : List V} (hR : R g F ρ L H) (h : Post g (bT g) F ρ L.length W Q (some (.ok (.v (.lst ps)), L))) (hv : aP g F vs ps) {p : Addr} (hp : H p = none) : Q (.ref p) (upd H p (.lst vs)) := by
 refine h (upd F p (.lst vs)) ρ (.ref p) _ ⟨Sub.frz hR hp _, fun _ _ => rfl, Nat.le_refl _⟩ (hR.frz hp _) ?_
 exact Is.lst upd_same (aP.mono (Sub.frz hR hp _) hv)
end
end DN
end
section
namespace DN
open PySem L2
theorem aP.set {g : G} {F : Hp} {v : V} {p : P} (hv : Is g F v p) : ∀ {vs : List V} {ps : List P} (n : Nat), aP g F vs ps → aP g F (vs.set n v) (ps.set n p)
 | _, _, _, .nil => .nil
 | _, _, 0, .cons _ t => .cons hv t
 | _, _, n + 1, .cons h t => .cons h (aP.set hv n t)
end DN
end
section
namespace DN
open PySem L2
section
variable {g : G} {F : Hp} {ρ : Nat → Addr} {L : List MO} {H : Hp} {x y : V} {d e : D}
theorem Post.bnd {α β γ δ : Type} {ra : Hp → (Nat → Addr) → Nat → γ → α → Prop} {rb : Hp → (Nat → Addr) → Nat → δ → β → Prop} {m : M α} {k : α → M β} {n : Nat} {W : Value → Option Addr → Hp → Prop} {Q : δ → Hp → Prop} {Qa : γ → Hp → Prop}
  (h : Post g rb F ρ n W Q ((m >>= k) L)) (w : ∀ a L1 F1 ρ1 b H1, m L = some (.ok a, L1) → Ext F ρ n F1 ρ1 L1.length → R g F1 ρ1 L1 H1 → ra F1 ρ1 L1.length b a → Post g rb F1 ρ1 L1.length W Q (k a L1) → Qa b H1) : Post g ra F ρ n W Qa (m L) := by
 have h' : Post g rb F ρ n W Q (match m L with | none => none | some (.ok a, L1) => k a L1 | some (.ex c fs, L1) => some (.ex c fs, L1)) := h
 match e : m L with
 | none => rw [e] at h'; exact h'
 | some (.ex c fs, L1) => rw [e] at h'; exact h'
 | some (.ok a, L1) =>
  rw [e] at h'
  exact fun F1 ρ1 b H1 x1 x2 x3 => w a L1 F1 ρ1 b H1 e x1 x2 x3 (h'.ext x1)
end
end DN
end
section
namespace DN
open PySem L2
end DN
end
section
namespace DN
open PySem L2
inductive Out where
 | nx (τ : aA) | rt (d : D) | bk (τ : aA) | ct (τ : aA) | ex (τ : aA) (c : Nat) (fs : List P)
def eV (g : G) (F : Hp) (ρ : Nat → Addr) (n : Nat) (W : WX) (D : Ends) : Option (Out × List MO) → Prop
 | none => False
 | some (.nx τ, L) => ∀ F' ρ' H' σ', Ext F ρ n F' ρ' L.length → R g F' ρ' L H' → Sl g F' ρ' L.length σ' τ → D.nx σ' H'
 | some (.rt d, L) => ∀ F' ρ' H' v, Ext F ρ n F' ρ' L.length → R g F' ρ' L H' → IsD g F' ρ' L.length v d → D.rt v H'
 | some (.bk τ, L) => ∀ F' ρ' H' σ', Ext F ρ n F' ρ' L.length → R g F' ρ' L H' → Sl g F' ρ' L.length σ' τ → D.bk σ' H'
 | some (.ct τ, L) => ∀ F' ρ' H' σ', Ext F ρ n F' ρ' L.length → R g F' ρ' L H' → Sl g F' ρ' L.length σ' τ → D.ct σ' H'
 | some (.ex τ c fs, L) => ∀ F' ρ' dx vs H' σ', Ext F ρ n F' ρ' L.length → R g F' ρ' L H' → Sl g F' ρ' L.length σ' τ → F' dx = some (.xd (((aN c).map aK).zip vs)) → vs.length = (aN c).length → aP g F' vs fs →
   W (.ref (g.cl c)) (some dx) σ' H'
theorem eV.ext {g : G} {F F1 : Hp} {ρ ρ1 : Nat → Addr} {n n1 : Nat} {W : WX} {D : Ends} {o : Option (Out × List MO)} (e : Ext F ρ n F1 ρ1 n1) (h : eV g F ρ n W D o) : eV g F1 ρ1 n1 W D o := by
 match o, h with
 | some (.nx τ, L), h => exact fun F' ρ' H' σ' x => h F' ρ' H' σ' (e.trans x)
 | some (.rt d, L), h => exact fun F' ρ' H' v x => h F' ρ' H' v (e.trans x)
 | some (.bk τ, L), h => exact fun F' ρ' H' σ' x => h F' ρ' H' σ' (e.trans x)
 | some (.ct τ, L), h => exact fun F' ρ' H' σ' x => h F' ρ' H' σ' (e.trans x)
 | some (.ex τ c fs, L), h => exact fun F' ρ' dx vs H' σ' x => h F' ρ' dx vs H' σ' (e.trans x)
theorem Sl.set {g : G} {F : Hp} {ρ : Nat → Addr} {n : Nat} {σ : St} {τ : aA} (h : Sl g F ρ n σ τ) {v : V} {d : D} (hv : IsD g F ρ n v d) (i : Nat) : Sl g F ρ n (σ.set i (some v)) (τ.set i (some d)) := by
 refine ⟨by rw [List.length_set, List.length_set]; exact h.1, fun j e q => ?_⟩
 by_cases hj : i = j
 ·subst hj
  by_cases hl : i < τ.length
  ·rw [List.getElem?_set_self hl] at q
   cases q
   exact ⟨v, List.getElem?_set_self (by rw [← h.1]; exact hl), hv⟩
  ·rw [List.getElem?_eq_none (by rw [List.length_set]; omega)] at q
   cases q
 ·rw [List.getElem?_set_ne hj] at q ⊢
  exact h.2 j e q
end DN
end
section
namespace DN
open PySem L2
end DN
end
section
namespace DN
open PySem L2
end DN
end
section
namespace DN
open PySem L2
end DN
end
section
namespace DN
open PySem PySem.Spec PyProof.Rows L2
end DN
end
section
namespace DN
open PySem PySem.Spec PyProof.Rows L2
section
variable {X : Cx} {g : G} {W : WX} {a b c e o : Expr} {fa fb fc f : aA → M D} {pos p apos : Pos} {es : List Expr} {fs : aA → M (List D)} {k n : Nat} {fn : List D → M D}
theorem PE.ex {ι : Type} {t : ι → TE} {A : ι → Prop} (h : ∀ i, A i → PE X e (t i)) : PE X e (fun σ H Q => ∃ i, A i ∧ t i σ H Q) := ⟨fun pins s σ H Q I q => by
 obtain ⟨i, ai, q⟩ := q
 exact (h i ai).run pins s σ H Q I q⟩
end
end DN
end
section
namespace DN
open PySem PySem.Spec PyProof.Rows L2
end DN
end
section
namespace DN
open PySem PySem.Spec PyProof.Rows L2
end DN
end
section
namespace DN
open PySem PySem.Spec PyProof.Rows L2
end DN
end
section
namespace DN
open PySem PySem.Spec PyProof.Rows PySem.W PySem.Calls L2 NdefX
end DN
end
section
namespace DN
open PySem PySem.Spec PyProof.Rows L2
def eX (c c' : Nat) : Bool := c == c' || c' == 20
end DN
end
section
namespace DN
open PySem PySem.Spec PyProof.Rows L2
-- the key as a value in the ledger H
end DN
end
section
namespace DN
open PySem PySem.Spec PyProof.Rows L2
section
variable {X : Cx} {g : G} {W : WX} {a b c e o : Expr} {fa fb fc f : aA → M D} {p pos apos : Pos} {es : List Expr} {fs : aA → M (List D)} {k n : Nat} {fn : List D → M D}
inductive Tg where
 | non | bl | int | str | lst | tup | ins (c : Nat)
end
end DN
end
section
namespace DN
open PySem PySem.Spec PyProof.Rows L2 He NdefX
def bA : Nat → Str
 | 0 => "Role" | 1 => "Read" | 2 => "Made" | 3 => "Fresh" | 4 => "Both" | 5 => "Renewed" | 6 => "Kind" | 7 => "Catalog" | 8 => "Waits" | 9 => "Contents" | 10 => "Step" | 11 => "Log" | 12 => "Disk" | 13 => "Store" | 14 => "State" | 15 => "Price" | 16 => "Backup"
 | 20 => "RedoError" | 21 => "BadName" | 22 => "BadKind" | 23 => "NoKind" | 24 => "NoRole" | 25 => "BadStep" | 26 => "NoStep" | 27 => "BadFormula" | 28 => "BadStamp" | 29 => "BadWait" | 30 => "Held" | 31 => "Newer" | 32 => "Broken" | 33 => "MutualWait"
 | 34 => "BadSlot" | 35 => "BadSize" | 36 => "BadOrder" | 37 => "OutOfTurn"
 | _ => ""
structure DX where
 at_ : Str × Option Str
 qual : Str
 st : Stmt
 cl : List Str := []
 pr : Bool := false
def defName : Stmt → Str
 | .FunctionDef x _ _ _ _ _ _ _ _ _ => x
 | _ => ""
abbrev vR : Type := Option (Str × Str × Arguments × FuncBody × Scope × Addr × List Str × Value × Addr)
def Uv (K : PySem.W.Frag) (p : Addr) : Addr := match PySem.W.recIn K p "property" with
 | some (.ref g :: _) => g
 | _ => 0
def DX.ad (d : DX) (K : PySem.W.Frag) : Addr := match d.pr with
 | true => Uv K (fAd K d.at_)
 | false => fAd K d.at_
def fnX (K : PySem.W.Frag) (a : Addr) : vR := match K.lookup a with
 | some ⟨_, _, .func fd, _⟩ => some (fd.name, fd.qualname, fd.params, fd.body, fd.scope, fd.globals, fd.closure.map (·.1), fd.defaults, fd.builtins)
 | _ => none
def DX.val (d : DX) : vR := some (defName d.st, d.qual, defArgs d.st, .stmts (defBody d.st), defScope d.st, mainGlobals, d.cl, .none, builtinsNs)
def DX.ok (K : PySem.W.Frag) (d : DX) : Bool := PySem.W.keepIn K (.ref (d.ad K)) && (match K.lookup (d.ad K) with
 | some ⟨_, _, .func fd, _⟩ => PySem.W.codeIn K fd.code d.qual
 | _ => false)
abbrev dX : Type := PySem.W.Frag → Bool
abbrev AlX : Type := Bool × List vR
def asX (g : Addr → Option Obj) : Nat → List Addr
 | 0 => [mainGlobals, cStatics]
 | n + 1 => growD g (asX g n)
def obsX (fa : List dX) (fn : List DX) (K : PySem.W.Frag) : AlX := ((fa.all fun f => f K) && fn.all fun d => d.ok K, fn.map fun d => fnX K (d.ad K))
def valX (fn : List DX) : AlX := (true, fn.map DX.val)
def SaysX (fa : List dX) (fn : List DX) (K : PySem.W.Frag) : Prop := obsX fa fn K = valX fn
def Du (n : Nat) (fa : List dX) (fn : List DX) (g : Addr → Option Obj) : AlX := obsX fa fn (frG g (asX g n))
def hookX (n : Nat) (fa : List dX) (fn : List DX) : PySem.W.Hook where
 α := AlX
 obs := fun s => Du n fa fn s.heap.get?
 val := fun _ => valX fn
 says := fun _ h => ∃ K : PySem.W.Frag, K.In h ∧ SaysX fa fn K
 of := fun _ _ e => ⟨_, frG_in, e⟩
 keeps := fun _ _ _ ⟨K, hK, c⟩ k => ⟨K, PySem.W.Frag.In.keeps hK k, c⟩
def aX (f : Fa) : dX := fun K => f.ok K
section
variable {K : PySem.W.Frag}
def qY (c : Nat) : dX := fun K => (Fa.cls (bA c)).ok K && (aN c).all fun f => eqO (PySem.W.findIn K (.ref (ga K (bA c))) (aK f)) (some none)
def qZ (c : Nat) : dX := fun K => let C := ga K (bA c); eqO (PySem.W.findIn K (.ref C) "__class__") (some (some (.builtin "object.__class__"))) && (eqO (PySem.W.specialIn K (.builtin "object.__class__") "__get__") (some (some (.builtin "getset_descriptor.__get__"))) && (decide (PySem.W.takesIn K (.builtin "object.__class__") = some true) && decide (PySem.W.mroIn K C (.type "object") = some true)))
def Kh (K : PySem.W.Frag) : Tg → Value
 | .ins c => .ref (ga K (bA c))
 | .non => .type "NoneType"
 | .bl => .type "bool"
 | .int => .type "int"
 | .str => .type "str"
 | .lst => .type "list"
 | .tup => .type "tuple"
def kitB (t : Tg) (u : PySem.W.Frag → Value) (b : Bool) : dX := fun K => decide (PySem.W.kitOne K (Kh K t) (u K) = some b)
def zB (C : Addr) : dX := fun K => match K.lookup C with
 | some ⟨.type "type", _, .cls cd, sl⟩ => (match cd.mro, sl.toList with
  | .ref C' :: bm, [_, _, _, _, some (.builtin n), _] => C' == C && (n == "ValueError.__new__" && (!cd.hasDel && (cd.hasDict && PySem.HandSPX.refsVE bm)))
  | _, _ => false)
 | _ => false
def vU (a b : Option Value) : Bool := decide (a = b)
def eY (a b : Option Bool) : Bool := decide (a = b)
def Dy (file : Str) (vs : Array Value) : Bool := match vs[2]? with
 | some (Value.str f _) => file == f
 | _ => false
def rA (C fI : Addr) (file : Str) : dX := fun K => match K.lookup fI with
 | some ⟨_, _, .func fd, _⟩ => (match fd.closure, fd.code with
  | [(_, cc)], .ref cda => (match K.lookup cc, K.lookup cda with
   | some ⟨_, _, .cell (some (.ref D)), _⟩, some ⟨_, _, .fields vs, _⟩ => D == C && Dy file vs
   | _, _ => false)
  | _, _ => false)
 | _ => false
def oJ (file : Str) (c : Nat) : dX := fun K => let C := ga K (bA c); let fI := ma K C "__init__"
 [zB C K, eqO (PySem.W.findIn K (.ref C) "__setattr__") (some (some (.builtin "object.__setattr__"))), eY (PySem.W.subIn K (.ref C) (.type "BaseException")) (some true), vU (PySem.W.typeIn K (.ref C)) (some (.type "type")), PySem.W.keepIn K (.ref C),
  eqO (PySem.W.findIn K (.ref C) "__init__") (some (some (.ref fI))), vU (PySem.W.typeIn K (.ref fI)) (some (.type "function")), (aN c).all fun f => eqO (PySem.W.findIn K (.ref C) (aK f)) (some none), rA C fI file K,
  eY (PySem.W.mroIn K C (.ref C)) (some true), eqO (PySem.W.nsIn K cStatics "thirdparty.any") (some none), eqO (PySem.W.ks_superIn K C C "__init__") (some (some (.builtin "ValueError.__init__"))), eY (PySem.W.subIn K (.ref C) (.type "ValueError")) (some true),
  eqO (PySem.W.findIn K (.ref C) "__getattribute__") (some (some (.builtin "BaseException.__getattribute__"))), eqO (PySem.W.findIn K (.ref C) "__getattr__") (some none), PySem.W.hasDictIn K C, eqO (PySem.W.findIn K (.ref C) "__class__") (some (some (.builtin "object.__class__"))),
  eqO (PySem.W.specialIn K (.builtin "object.__class__") "__get__") (some (some (.builtin "getset_descriptor.__get__"))), eY (PySem.W.takesIn K (.builtin "object.__class__")) (some true), eY (PySem.W.mroIn K C (.type "object")) (some true), (PySem.W.clsIn K C).isSome].all id
end
end DN
end
section
namespace DN
open PySem PySem.Spec PyProof.Rows L2 He NdefX
end DN
namespace DN
open PySem
end DN
end
section
namespace DN
open PySem
open L2 (ixN atI)
end DN
end
section
namespace DN
open PySem
end DN
end
section
namespace DN
open PySem
open L2 (ixN atI)
end DN
end
section
namespace DN
open PySem PySem.Spec PyProof.Rows L2 He NdefX
end DN
end
section
namespace DN
open PySem
open L2 (ixN atI)
end DN
namespace DN
open PySem
end DN
end
section
namespace DN
open PySem PySem.Spec PyProof.Rows L2
end DN
end
section
namespace DN
open PySem PySem.Spec PyProof.Rows L2
end DN
end
section
namespace DN
open PySem PySem.Spec PyProof.Rows L2
end DN
end
section
namespace DN
open PySem PySem.Spec PyProof.Rows L2
end DN
end
section
namespace DN
open PySem PySem.Spec PyProof.Rows L2
end DN
end
section
namespace DN
open PySem PySem.Spec PyProof.Rows L2
end DN
end
section
namespace DN
open PySem PySem.Spec PyProof.Rows L2
end DN
end
section
namespace DN
open PySem PySem.Spec PyProof.Rows L2
end DN
end
section
namespace DN
open PySem PySem.Spec PyProof.Rows L2 He
section
variable {K : PySem.W.Frag}
def conB (c : Nat) (f x : Str) : dX := fun K => match PySem.W.findIn K (.ref (ga K (bA c))) f with
 | some (some (.str y t)) => decide (y = x) && (eqO (PySem.W.specialIn K (.str y t) "__get__") (some none) && !PySem.W.copiedNames.contains f)
 | _ => false
def dN (c d m : Str) : dX := fun K => decide (ma K (ga K c) m = ma K (ga K d) m)
end
end DN
end
section
namespace DN
open PySem
open L2 (ixN atI)
end DN
end
section
namespace DN
open PySem
open L2 (ixN atI)
end DN
end
section
namespace DN
open PySem
open L2 (ixN atI)
end DN
end
section
namespace DN
open PySem
open L2 (ixN atI)
end DN
end
section
namespace DN
end DN
end
section
namespace DN
open PySem PySem.Spec PyProof.Rows L2
end DN
end
section
namespace DN
open PySem
end DN
end
section
namespace DN
open PySem
end DN
end
section
namespace DN
open PySem
end DN
end
section
namespace DN
open PySem
end DN
end
section
namespace DN
open PySem
end DN
end
section
namespace DN
open PySem
end DN
end
section
namespace DN
open PySem
end DN
end
section
namespace DN
open PySem
end DN
end
section
namespace DN
open PySem PySem.Spec PyProof.Rows L2
end DN
end
section
namespace DN
open PySem
end DN
end
section
namespace DN
open PySem
open L2 (ixN atI)
end DN
end
section
namespace DN
open PySem
end DN
namespace DN
open PySem
end DN
end
section
namespace DN
open PySem
end DN
end
section
namespace DN
open PySem
end DN
end
section
namespace DN
open PySem PySem.Spec PyProof.Rows L2
end DN
end
section
namespace DN
open PySem PySem.Spec PyProof.Rows L2 He
end DN
end
section
namespace DN
open PySem PySem.Spec PyProof.Rows L2
end DN
end
section
namespace DN
open PySem PySem.W
open PySem.Sem (wp)
end DN
end
section
namespace DN
open PySem PySem.W
open PySem.Sem (wp)
end DN
end
section
namespace DN
open PySem PySem.Spec PyProof.Rows L2
end DN
end
section
namespace DN
open PySem PySem.Spec PyProof.Rows L2
end DN
end
section
namespace DN
open PySem PySem.Spec PyProof.Rows L2
end DN
end
section
namespace DN
open PySem
end DN
end
section
namespace DN
open PySem
open L2 (ixN atI)
end DN
end
section
namespace DN
open PySem
end DN
end
section
namespace DN
open PySem PySem.Spec PyProof.Rows L2
end DN
end
section
namespace DN
open PySem
open L2 (ixN atI)
end DN
end
section
namespace DN
open PySem PySem.Spec PyProof.Rows L2
end DN
end
section
namespace DN
open PySem PySem.Spec PyProof.Rows L2
end DN
namespace DN
open PySem PySem.Spec PyProof.Rows L2
end DN
end
section
namespace DN
open PySem PySem.Spec PyProof.Rows L2
end DN
end
section
namespace DN
open PySem PySem.Spec PyProof.Rows L2
end DN
end
section
namespace DN
open PySem PySem.Spec PyProof PyProof.Rows L2
end DN
end
section
namespace DN
open PySem
end DN
end
section
namespace DN
open PySem PySem.Spec PyProof.Rows L2
open Builtin Builtin.Str Builtin.Int Builtin.Float
end DN
end
section
namespace DN
open PySem
end DN
end
section
namespace DN
open PySem
end DN
end
section
namespace DN
open PySem PySem.Spec PyProof.Rows L2 He
end DN
end
section
namespace DN
open PySem
end DN
end
section
namespace DN
open PySem
end DN
end
section
namespace DN
open PySem
end DN
end
section
namespace DN
open PySem
open L2 (ixN atI)
end DN
end
section
namespace DN
open PySem
end DN
end
section
namespace DN
open PySem PySem.Spec PyProof.Rows L2
end DN
end
section
namespace DN
open PySem PySem.Spec PyProof.Rows L2
end DN
end
section
namespace DN
open PySem PySem.Spec PyProof.Rows L2 He NdefX
end DN
end
section
namespace DN
open PySem
open L2 (ixN atI Key)
end DN
end
section
namespace DN
open PySem PySem.Spec PyProof.Rows L2 RZ
end DN
end
section
namespace DN
open PySem PySem.Spec PyProof.Rows L2 He NdefX
end DN
end
section
namespace DN
open PySem
end DN
end
section
namespace DN
open PySem PySem.Spec PyProof.Rows L2
end DN
end
section
namespace DN
open PySem PySem.Spec PyProof.Rows L2
end DN
end
section
namespace DN
open PySem
end DN
end
section
namespace DN
open PySem PySem.Spec PyProof.Rows L2
end DN
end
section
namespace DN
open PySem PySem.Spec PyProof.Rows L2 He NdefX
end DN
end
section
namespace DN
open PySem
end DN
end
section
namespace DN
open PySem PySem.Spec PyProof.Rows L2
end DN
end
section
namespace DN
open PySem PySem.Spec PyProof.Rows L2
end DN
end
section
namespace DN
open PySem PySem.Spec PyProof.Rows L2
end DN
end
section
namespace GQ
open PySem PySem.Spec PyProof.Rows GenW L2
end GQ
end
section
namespace GQ
open PySem PySem.Spec PyProof.Rows GenW L2
end GQ
end
section
namespace GQ
open PySem PySem.Spec PyProof.Rows GenW L2
end GQ
end
section
namespace GQ
open PySem PySem.Spec PyProof.Rows GenW L2
end GQ
end
section
namespace GQ
open PySem PySem.Spec PyProof.Rows GenW L2
end GQ
end
section
namespace DN
open PySem L2 GQ
end DN
end
section
namespace DN
open PySem PySem.Spec PyProof.Rows L2 GQ
end DN
end
section
namespace DN
open PySem PySem.Spec PyProof.Rows L2 GQ
end DN
end
section
namespace DN
open PySem
end DN
end
section
namespace DN
end DN
end
section
namespace DN
open PySem PySem.Spec PyProof.Rows L2
end DN
end
section
namespace DN
end DN
end
section
namespace DN
open PySem PySem.Spec PyProof.Rows L2
end DN
end
section
namespace DN
end DN
end
section
namespace DN
open PySem PySem.Spec PyProof.Rows L2
end DN
namespace DN
open PySem PySem.Spec PyProof.Rows L2
end DN
end
section
namespace DN
open PySem PySem.Spec PyProof.Rows L2
end DN
end
section
namespace DN
open PySem
end DN
end
section
namespace DN
open PySem
end DN
end
section
namespace DN
open PySem
end DN
end
section
namespace DN
open PySem
end DN
end
section
namespace DN
open PySem
end DN
end
section
namespace DN
open PySem
end DN
end
section
namespace DN
open PySem PySem.Spec PyProof.Rows L2 RZ
end DN
end
section
namespace DN
open PySem L2
end DN
end
section
namespace DN
open PySem PySem.Spec PyProof.Rows L2 He
end DN
end
section
namespace DN
open PySem PySem.Spec PyProof.Rows L2 He
end DN
end
section
namespace DN
open PySem PySem.Spec PyProof.Rows L2 He
end DN
end
section
namespace DN
open PySem PySem.Spec PyProof.Rows L2 He
end DN
end
section
namespace DN
open PySem
end DN
end
section
namespace DN
open PySem PySem.Spec PyProof.Rows L2 He
end DN
end
section
namespace PySem.W
open PySem PySem.Calls PyProof.Rows
end PySem.W
end
section
namespace DN
open PySem PySem.Spec PyProof.Rows L2 He
end DN
end
section
namespace DN
open PySem PySem.Spec PyProof.Rows L2
end DN
end
section
namespace DN
open PySem PySem.Spec PyProof.Rows L2
end DN
end
section
namespace DN
open PySem
end DN
end
section
namespace DN
open PySem PySem.Spec PyProof.Rows PySem.W PySem.Calls L2 He NdefX
def pH (c : Nat) (d e m : Str) : dX := fun K => eqO (PySem.W.ks_superIn K (ga K (bA c)) (ga K d) m) (some (some (.ref (ma K (ga K e) m)))) && (eY (PySem.W.mroIn K (ga K (bA c)) (.ref (ga K d))) (some true) && (vU (PySem.W.typeIn K (.ref (ma K (ga K e) m))) (some (.type "function")) && PySem.W.fnIn K (ma K (ga K e) m)))
def zE (d m : Str) (file : Str) : dX := fun K => rA (ga K d) (ma K (ga K d) m) file K && (eqO (PySem.W.nsIn K cStatics "thirdparty.any") (some none) && (PySem.W.clsIn K (ga K d)).isSome)
end DN
end
section
namespace DN
open PySem
end DN
end
section
set_option maxHeartbeats 8000000
namespace LK01
open PySem PySem.Spec PyProof.Rows L2 He NdefX DN
abbrev PG : Program := PySem.Challenge.pw_redopages_k01_roles_and_their_words
def top (i : Nat) : Stmt := PG.main.body.getD i (.Pass ⟨0, 0, 0, 0⟩)
abbrev s_check_name : Stmt := top 7
abbrev s_Role_zinitz : Stmt := inClass (top 8) 1
abbrev s_q_role : Stmt := top 15
abbrev s_q_any_role : Stmt := top 23
abbrev s_q_error : Stmt := top 24
abbrev s_q_draw : Stmt := top 19
abbrev s_q_bad_name : Stmt := top 22
abbrev s_q_classes : Stmt := top 25
abbrev s_Role_derived : Stmt := inClass (top 8) 4
abbrev s_Made_derived : Stmt := inClass (top 10) 2
abbrev s_Role_makes : Stmt := inClass (top 8) 3
abbrev s_Made_makes : Stmt := inClass (top 10) 1
abbrev s_Fresh_makes : Stmt := inClass (top 11) 1
abbrev s_Role_reads : Stmt := inClass (top 8) 2
abbrev s_Read_reads : Stmt := inClass (top 9) 1
abbrev s_q_flags : Stmt := top 26
abbrev s_q_derived : Stmt := top 17
abbrev s_q_reads : Stmt := top 16
abbrev s_Role_words : Stmt := inClass (top 8) 5
abbrev s_Fresh_words : Stmt := inClass (top 11) 2
abbrev s_Made_words : Stmt := inClass (top 10) 3
abbrev s_Read_words : Stmt := inClass (top 9) 2
abbrev s_q_is : Stmt := top 27
abbrev s_Role_imaged : Stmt := inClass (top 8) 6
abbrev s_Made_imaged : Stmt := inClass (top 10) 4
abbrev s_Both_imaged : Stmt := inClass (top 12) 1
abbrev s_q_word : Stmt := top 20
abbrev s_q_names : Stmt := top 21
abbrev s_q_pool : Stmt := top 18
abbrev s_law : Stmt := top 28
abbrev s_e21 : Stmt := inClass (top 2) 0
def fa : List dX := [
 aX (.free "len"),
 aX (.int "LONGEST_NAME" 8),
 aX (.free "any"),
 aX (.str "LETTERS" "abcdefghijklmnopqrstuvwxyz"),
 aX (.glo "BadName"),
 oJ PG.main.file 21,
 aX (.glo "check_name"),
 aX (.glo "Fresh"),
 qY 3,
 aX (.mkr "Fresh"),
 aX (.glo "Renewed"),
 qY 5,
 aX (.mkr "Renewed"),
 aX (.glo "Both"),
 qY 4,
 aX (.mkr "Both"),
 aX (.glo "Made"),
 qY 2,
 aX (.mkr "Made"),
 aX (.glo "Read"),
 qY 1,
 aX (.mkr "Read"),
 aX (.free "int"),
 aX (.free "sum"),
 aX (.free "range"),
 aX (.glo "_law_word"),
 aX (.glo "_law_draw"),
 aX (.glo "_law_role"),
 aX (.glo "Role"),
 qY 0,
 aX (.mkr "Role"),
 aX (.glo "_law_any_role"),
 aX (.free "isinstance"),
 aX (.glo "RedoError"),
 aX (.free "ValueError"),
 aX (.glo "BadKind"),
 aX (.free "bool"),
 aX (.glo "_law_classes"),
 aX (.glo "_law_flags"),
 aX (.glo "_law_derived"),
 aX (.glo "_law_reads"),
 aX (.free "list"),
 aX (.glo "_law_error"),
 aX (.glo "_law_bad_name"),
 aX (.glo "_law_is"),
 aX (.glo "_law_names"),
 aX (.glo "_law_pool"),
 aX (.glo "law"),
 aX (.free "super"),
 zE "Fresh" "words" PG.main.file,
 pH 3 "Fresh" "Role" "words",
 pH 5 "Fresh" "Role" "words",
 zE "Made" "words" PG.main.file,
 pH 2 "Made" "Role" "words",
 pH 4 "Made" "Role" "words",
 zE "Read" "words" PG.main.file,
 pH 1 "Read" "Role" "words",
 pH 4 "Read" "Made" "words",
 pH 5 "Read" "Fresh" "words",
 conB 0 "MARK" "",
 conB 1 "MARK" "r",
 conB 2 "MARK" "m",
 conB 3 "MARK" "f",
 conB 4 "MARK" "rm",
 conB 5 "MARK" "rf",
 dN "Fresh" "Role" "__init__",
 dN "Renewed" "Role" "__init__",
 dN "Both" "Role" "__init__",
 dN "Made" "Role" "__init__",
 dN "Read" "Role" "__init__",
 dN "Read" "Role" "derived",
 dN "Fresh" "Role" "derived",
 dN "Both" "Made" "derived",
 dN "Renewed" "Role" "derived",
 dN "Read" "Role" "makes",
 dN "Both" "Made" "makes",
 dN "Renewed" "Fresh" "makes",
 dN "Made" "Role" "reads",
 dN "Fresh" "Role" "reads",
 dN "Both" "Read" "reads",
 dN "Renewed" "Read" "reads",
 dN "Both" "Read" "words",
 dN "Renewed" "Read" "words",
 dN "Read" "Role" "imaged",
 dN "Fresh" "Role" "imaged",
 dN "Renewed" "Role" "imaged",
 aX (.meth "Role" "derived"),
 aX (.meth "Read" "derived"),
 aX (.meth "Made" "derived"),
 aX (.meth "Fresh" "derived"),
 aX (.meth "Both" "derived"),
 aX (.meth "Renewed" "derived"),
 aX (.meth "Role" "makes"),
 aX (.meth "Read" "makes"),
 aX (.meth "Made" "makes"),
 aX (.meth "Fresh" "makes"),
 aX (.meth "Both" "makes"),
 aX (.meth "Renewed" "makes"),
 aX (.meth "Role" "reads"),
 aX (.meth "Read" "reads"),
 aX (.meth "Made" "reads"),
 aX (.meth "Fresh" "reads"),
 aX (.meth "Both" "reads"),
 aX (.meth "Renewed" "reads"),
 aX (.meth "Role" "words"),
 aX (.meth "Read" "words"),
 aX (.meth "Made" "words"),
 aX (.meth "Fresh" "words"),
 aX (.meth "Both" "words"),
 aX (.meth "Renewed" "words"),
 aX (.meth "Role" "imaged"),
 aX (.meth "Read" "imaged"),
 aX (.meth "Made" "imaged"),
 aX (.meth "Fresh" "imaged"),
 aX (.meth "Both" "imaged"),
 aX (.meth "Renewed" "imaged"),
 DN.kitB .non (fun K => .ref (ga K "Renewed")) false,
 DN.kitB .bl (fun K => .ref (ga K "Renewed")) false,
 DN.kitB .int (fun K => .ref (ga K "Renewed")) false,
 DN.kitB .str (fun K => .ref (ga K "Renewed")) false,
 DN.kitB .lst (fun K => .ref (ga K "Renewed")) false,
 DN.kitB .tup (fun K => .ref (ga K "Renewed")) false,
 DN.kitB (.ins 0) (fun K => .ref (ga K "Renewed")) false,
 DN.kitB (.ins 1) (fun K => .ref (ga K "Renewed")) false,
 DN.kitB (.ins 2) (fun K => .ref (ga K "Renewed")) false,
 DN.kitB (.ins 3) (fun K => .ref (ga K "Renewed")) false,
 DN.kitB (.ins 4) (fun K => .ref (ga K "Renewed")) false,
 DN.kitB (.ins 5) (fun K => .ref (ga K "Renewed")) true,
 DN.kitB .non (fun K => .ref (ga K "Both")) false,
 DN.kitB .bl (fun K => .ref (ga K "Both")) false,
 DN.kitB .int (fun K => .ref (ga K "Both")) false,
 DN.kitB .str (fun K => .ref (ga K "Both")) false,
 DN.kitB .lst (fun K => .ref (ga K "Both")) false,
 DN.kitB .tup (fun K => .ref (ga K "Both")) false,
 DN.kitB (.ins 0) (fun K => .ref (ga K "Both")) false,
 DN.kitB (.ins 1) (fun K => .ref (ga K "Both")) false,
 DN.kitB (.ins 2) (fun K => .ref (ga K "Both")) false,
 DN.kitB (.ins 3) (fun K => .ref (ga K "Both")) false,
 DN.kitB (.ins 4) (fun K => .ref (ga K "Both")) true,
 DN.kitB (.ins 5) (fun K => .ref (ga K "Both")) false,
 DN.kitB .non (fun K => .ref (ga K "Fresh")) false,
 DN.kitB .bl (fun K => .ref (ga K "Fresh")) false,
 DN.kitB .int (fun K => .ref (ga K "Fresh")) false,
 DN.kitB .str (fun K => .ref (ga K "Fresh")) false,
 DN.kitB .lst (fun K => .ref (ga K "Fresh")) false,
 DN.kitB .tup (fun K => .ref (ga K "Fresh")) false,
 DN.kitB (.ins 0) (fun K => .ref (ga K "Fresh")) false,
 DN.kitB (.ins 1) (fun K => .ref (ga K "Fresh")) false,
 DN.kitB (.ins 2) (fun K => .ref (ga K "Fresh")) false,
 DN.kitB (.ins 3) (fun K => .ref (ga K "Fresh")) true,
 DN.kitB (.ins 4) (fun K => .ref (ga K "Fresh")) false,
 DN.kitB (.ins 5) (fun K => .ref (ga K "Fresh")) true,
 DN.kitB .non (fun K => .ref (ga K "Made")) false,
 DN.kitB .bl (fun K => .ref (ga K "Made")) false,
 DN.kitB .int (fun K => .ref (ga K "Made")) false,
 DN.kitB .str (fun K => .ref (ga K "Made")) false,
 DN.kitB .lst (fun K => .ref (ga K "Made")) false,
 DN.kitB .tup (fun K => .ref (ga K "Made")) false,
 DN.kitB (.ins 0) (fun K => .ref (ga K "Made")) false,
 DN.kitB (.ins 1) (fun K => .ref (ga K "Made")) false,
 DN.kitB (.ins 2) (fun K => .ref (ga K "Made")) true,
 DN.kitB (.ins 3) (fun K => .ref (ga K "Made")) false,
 DN.kitB (.ins 4) (fun K => .ref (ga K "Made")) true,
 DN.kitB (.ins 5) (fun K => .ref (ga K "Made")) false,
 DN.kitB .non (fun K => .ref (ga K "Read")) false,
 DN.kitB .bl (fun K => .ref (ga K "Read")) false,
 DN.kitB .int (fun K => .ref (ga K "Read")) false,
 DN.kitB .str (fun K => .ref (ga K "Read")) false,
 DN.kitB .lst (fun K => .ref (ga K "Read")) false,
 DN.kitB .tup (fun K => .ref (ga K "Read")) false,
 DN.kitB (.ins 0) (fun K => .ref (ga K "Read")) false,
 DN.kitB (.ins 1) (fun K => .ref (ga K "Read")) true,
 DN.kitB (.ins 2) (fun K => .ref (ga K "Read")) false,
 DN.kitB (.ins 3) (fun K => .ref (ga K "Read")) false,
 DN.kitB (.ins 4) (fun K => .ref (ga K "Read")) true,
 DN.kitB (.ins 5) (fun K => .ref (ga K "Read")) true,
 DN.kitB .non (fun K => .ref (ga K "Role")) false,
 DN.kitB .bl (fun K => .ref (ga K "Role")) false,
 DN.kitB .int (fun K => .ref (ga K "Role")) false,
 DN.kitB .str (fun K => .ref (ga K "Role")) false,
 DN.kitB .lst (fun K => .ref (ga K "Role")) false,
 DN.kitB .tup (fun K => .ref (ga K "Role")) false,
 DN.kitB (.ins 0) (fun K => .ref (ga K "Role")) true,
 DN.kitB (.ins 1) (fun K => .ref (ga K "Role")) true,
 DN.kitB (.ins 2) (fun K => .ref (ga K "Role")) true,
 DN.kitB (.ins 3) (fun K => .ref (ga K "Role")) true,
 DN.kitB (.ins 4) (fun K => .ref (ga K "Role")) true,
 DN.kitB (.ins 5) (fun K => .ref (ga K "Role")) true,
 DN.kitB .non (fun _ => .type "bool") false,
 DN.kitB .bl (fun _ => .type "bool") true,
 DN.kitB .int (fun _ => .type "bool") false,
 DN.kitB .str (fun _ => .type "bool") false,
 DN.kitB .lst (fun _ => .type "bool") false,
 DN.kitB .tup (fun _ => .type "bool") false,
 DN.kitB (.ins 0) (fun _ => .type "bool") false,
 DN.kitB (.ins 1) (fun _ => .type "bool") false,
 DN.kitB (.ins 2) (fun _ => .type "bool") false,
 DN.kitB (.ins 3) (fun _ => .type "bool") false,
 DN.kitB (.ins 4) (fun _ => .type "bool") false,
 DN.kitB (.ins 5) (fun _ => .type "bool") false,
 DN.kitB .non (fun _ => .type "list") false,
 DN.kitB .bl (fun _ => .type "list") false,
 DN.kitB .int (fun _ => .type "list") false,
 DN.kitB .str (fun _ => .type "list") false,
 DN.kitB .lst (fun _ => .type "list") true,
 DN.kitB .tup (fun _ => .type "list") false,
 DN.kitB (.ins 0) (fun _ => .type "list") false,
 DN.kitB (.ins 1) (fun _ => .type "list") false,
 DN.kitB (.ins 2) (fun _ => .type "list") false,
 DN.kitB (.ins 3) (fun _ => .type "list") false,
 DN.kitB (.ins 4) (fun _ => .type "list") false,
 DN.kitB (.ins 5) (fun _ => .type "list") false,
 qZ 0,
 qZ 1,
 qZ 2,
 qZ 3,
 qZ 4,
 qZ 5,
 (fun K => eY (PySem.W.exmOne K (.ref (ga K (bA 21))) (.ref (ga K (bA 21)))) (some (eX 21 21))),
 (fun K => eY (PySem.W.kitOne K (.ref (ga K (bA 21))) (.ref (ga K "RedoError"))) (some (eX 21 20))),
 (fun K => eY (PySem.W.kitOne K (.ref (ga K (bA 21))) (.type "ValueError")) (some true)),
 (fun K => eY (PySem.W.kitOne K (.ref (ga K (bA 21))) (.ref (ga K "BadKind"))) (some (eX 21 22))),
 (fun K => eY (PySem.W.exmOne K (.ref (ga K (bA 22))) (.ref (ga K (bA 21)))) (some (eX 22 21))),
 (fun K => eY (PySem.W.kitOne K (.ref (ga K (bA 22))) (.ref (ga K "RedoError"))) (some (eX 22 20))),
 (fun K => eY (PySem.W.kitOne K (.ref (ga K (bA 22))) (.type "ValueError")) (some true)),
 (fun K => eY (PySem.W.kitOne K (.ref (ga K (bA 22))) (.ref (ga K "BadKind"))) (some (eX 22 22))),
 oJ PG.main.file 22,
 aX (.noat "BadName" "name"),
 aX (.noat "BadKind" "name")]
def dx0 : DX := ⟨("check_name", none), "check_name", s_check_name, [], false⟩
def dx1 : DX := ⟨("Role", some "__init__"), "Role.__init__", s_Role_zinitz, [], false⟩
def dx2 : DX := ⟨("_law_role", none), "_law_role", s_q_role, [], false⟩
def dx3 : DX := ⟨("_law_any_role", none), "_law_any_role", s_q_any_role, [], false⟩
def dx4 : DX := ⟨("_law_error", none), "_law_error", s_q_error, [], false⟩
def dx5 : DX := ⟨("_law_draw", none), "_law_draw", s_q_draw, [], false⟩
def dx6 : DX := ⟨("_law_bad_name", none), "_law_bad_name", s_q_bad_name, [], false⟩
def dx7 : DX := ⟨("_law_classes", none), "_law_classes", s_q_classes, [], false⟩
def dx8 : DX := ⟨("Role", some "derived"), "Role.derived", s_Role_derived, [], false⟩
def dx9 : DX := ⟨("Made", some "derived"), "Made.derived", s_Made_derived, [], false⟩
def dx10 : DX := ⟨("Role", some "makes"), "Role.makes", s_Role_makes, [], false⟩
def dx11 : DX := ⟨("Made", some "makes"), "Made.makes", s_Made_makes, [], false⟩
def dx12 : DX := ⟨("Fresh", some "makes"), "Fresh.makes", s_Fresh_makes, [], false⟩
def dx13 : DX := ⟨("Role", some "reads"), "Role.reads", s_Role_reads, [], false⟩
def dx14 : DX := ⟨("Read", some "reads"), "Read.reads", s_Read_reads, [], false⟩
def dx15 : DX := ⟨("_law_flags", none), "_law_flags", s_q_flags, [], false⟩
def dx16 : DX := ⟨("_law_derived", none), "_law_derived", s_q_derived, [], false⟩
def dx17 : DX := ⟨("_law_reads", none), "_law_reads", s_q_reads, [], false⟩
def dx18 : DX := ⟨("Role", some "words"), "Role.words", s_Role_words, [], false⟩
def dx19 : DX := ⟨("Fresh", some "words"), "Fresh.words", s_Fresh_words, ["__class__"], false⟩
def dx20 : DX := ⟨("Made", some "words"), "Made.words", s_Made_words, ["__class__"], false⟩
def dx21 : DX := ⟨("Read", some "words"), "Read.words", s_Read_words, ["__class__"], false⟩
def dx22 : DX := ⟨("_law_is", none), "_law_is", s_q_is, [], false⟩
def dx23 : DX := ⟨("Role", some "imaged"), "Role.imaged", s_Role_imaged, [], false⟩
def dx24 : DX := ⟨("Made", some "imaged"), "Made.imaged", s_Made_imaged, [], false⟩
def dx25 : DX := ⟨("Both", some "imaged"), "Both.imaged", s_Both_imaged, [], false⟩
def dx26 : DX := ⟨("_law_word", none), "_law_word", s_q_word, [], false⟩
def dx27 : DX := ⟨("_law_names", none), "_law_names", s_q_names, [], false⟩
def dx28 : DX := ⟨("_law_pool", none), "_law_pool", s_q_pool, [], false⟩
def dx29 : DX := ⟨("law", none), "law", s_law, [], false⟩
def dx30 : DX := ⟨("BadName", some "__init__"), "BadName.__init__", s_e21, ["__class__"], false⟩
def fn : List DX := [dx0, dx1, dx2, dx3, dx4, dx5, dx6, dx7, dx8, dx9, dx10, dx11, dx12, dx13, dx14, dx15, dx16, dx17, dx18, dx19, dx20, dx21, dx22, dx23, dx24, dx25, dx26, dx27, dx28, dx29, dx30]
abbrev RR : PySem.W.OpenRow := PySem.W.OpenLaw.row PySem.Challenge.rw_redopages_k01_roles_and_their_words
abbrev QV : Program := PySem.W.view RR.prog [28]
abbrev hk : PySem.W.Hook := hookX 4 fa fn
def ob (s : PySem.W.SharedT) : AlX := Du 4 fa fn (HandSHeadRun.getT s)
def Uw : List Str := ["__name__", "RedoError", "BadName", "BadKind", "LETTERS", "LONGEST_NAME", "check_name", "Role", "Read", "Made", "Fresh", "Both", "Renewed", "_law_role", "_law_reads", "_law_derived", "_law_pool", "_law_draw", "_law_word", "_law_names", "_law_bad_name", "_law_any_role", "_law_error", "_law_classes", "_law_flags", "_law_is"]
abbrev nms : List Str := Uw
theorem run (w : World) : HandSHeadRun.RunEq RR QV hk ob 9000 nms w := by
 intro os
 kernel_rfl
end LK01
open PySem PySem.W PySem.Calls PyProof.Rows
end
section
namespace DN
open PySem PySem.Spec PyProof.Rows L2
theorem Ux {m : Nat} (h : kE m) : m % 2 = 1 := by
 rcases h with rfl | rfl | rfl | rfl <;> rfl
theorem Uy {m : Nat} (h : kE m) : m ≤ 511 := by
 rcases h with rfl | rfl | rfl | rfl <;> decide
def pJ : Nat → Nat → List Nat
 | 0, _ => []
 | n + 1, i => i :: pJ n ((i * 5 + 1) % 512)
theorem Kl : ∀ (n i b x : Nat), (pJ n i)[b]? = some x → lcgI 511 i b = x
 | 0, i, b, x, h => by cases h
 | n + 1, i, 0, x, h => by cases h; rfl
 | n + 1, i, b + 1, x, h => by
  have h : (pJ n ((i * 5 + 1) % 512))[b]? = some x := by simpa [pJ] using h
  have ih := Kl n _ b x h
  have sh : ∀ b, lcgI 511 i (b + 1) = lcgI 511 ((i * 5 + 1) % 512) b := by
   intro b
   induction b with
   | zero => rfl
   | succ b ihb =>
    show (lcgI 511 i (b + 1) * 5 + 1) % (511 + 1) = (lcgI 511 ((i * 5 + 1) % 512) b * 5 + 1) % (511 + 1)
    rw [ihb]
  rw [sh, ih]
theorem Uz : ((List.range 512).all fun j => (pJ 512 0).any fun b => Nat.beq b j) = true := by decide +kernel
theorem U0 : lcgN 511 512 = 0 := by decide +kernel
theorem Km (m : Nat) : ∀ k, lcgI m 0 k = lcgN m k
 | 0 => rfl
 | k + 1 => by
  show (lcgI m 0 k * 5 + 1) % (m + 1) = (lcgN m k * 5 + 1) % (m + 1)
  rw [Km m k]
theorem Dz : ∀ n i, (pJ n i).length = n
 | 0, _ => rfl
 | n + 1, i => by rw [pJ, List.length_cons, Dz n]
theorem U3 {i j : Nat} (hi : i ≤ 511) (hj : j ≤ 511) : ∃ k, k ≤ 511 ∧ lcgI 511 i k = j := by
 have some_ : ∀ x, x ≤ 511 → ∃ b, b ≤ 511 ∧ lcgN 511 b = x := fun x hx => by
  have hm : x ∈ pJ 512 0 := by
   obtain ⟨b, hb, e⟩ := List.any_eq_true.mp (List.all_eq_true.mp Uz x (List.mem_range.mpr (by omega)))
   rw [← Nat.eq_of_beq_eq_true e]
   exact hb
  obtain ⟨b, hb, e⟩ := List.mem_iff_getElem.mp hm
  rw [Dz] at hb
  refine ⟨b, by omega, ?_⟩
  rw [← Km]
  exact Kl 512 0 b x (by rw [List.getElem?_eq_getElem (by rw [Dz]; omega), e])
 have wrap : ∀ k, lcgN 511 (512 + k) = lcgN 511 k := by
  intro k
  induction k with
  | zero => exact U0
  | succ k ih =>
   show (lcgN 511 (512 + k) * 5 + 1) % (511 + 1) = (lcgN 511 k * 5 + 1) % (511 + 1)
   rw [ih]
 obtain ⟨a, ha, rfl⟩ := some_ i hi
 obtain ⟨b, hb, rfl⟩ := some_ j hj
 by_cases c : a ≤ b
 ·exact ⟨b - a, by omega, by rw [lcgN_add, Nat.add_sub_cancel' c]⟩
 ·refine ⟨b + 512 - a, by omega, ?_⟩
  rw [lcgN_add, show a + (b + 512 - a) = 512 + b by omega, wrap]
theorem U4 {m : Nat} (hm : kE m) {i j : Nat} (hi : i ≤ m) (hj : j ≤ m) : ∃ k, k ≤ m ∧ lcgI m i k = j := by
 rcases hm with e | e | e | e
 ·exact lcgI_all (.inl e) hi hj
 ·exact lcgI_all (.inr (.inl e)) hi hj
 ·exact lcgI_all (.inr (.inr e)) hi hj
 ·subst e
  exact U3 hi hj
theorem Ko {m : Nat} (hm : kE m) (h : Int) {j : Nat} (hj : j ≤ m) : ∃ n, n ≤ m + 12 ∧ runI m (SetTable.bits h) n = j := by
 obtain ⟨q, hq, eq⟩ := U4 hm (runI_le m (SetTable.bits h) 12) hj
 refine ⟨12 + q, by omega, ?_⟩
 rw [runI_tail (bits_lt h), eq]
theorem Ea {m : Nat} {h : Int} {k : Nat} : way m h k ≤ m := by
 have a : SetTable.bits h % (m + 1) ≤ m := Nat.le_of_lt_succ (Nat.mod_lt _ (Nat.succ_pos _))
 have b := runEnd_bd a
 have c := nth_in (m := m) k (runAt m (SetTable.bits h % (m + 1)) (SetTable.bits h)) (by
  have : SetTable.bits h % (m + 1) + (SetTable.runEnd m (SetTable.bits h % (m + 1)) - SetTable.bits h % (m + 1)) ≤ m := by omega
  exact this)
 have d : way m h k + (nth m (runAt m (SetTable.bits h % (m + 1)) (SetTable.bits h)) k).more ≤ m := c
 omega
theorem U5 {m : Nat} (hm : kE m) (h : Int) {j : Nat} (hj : j ≤ m) : ∃ k, k < 10 * SetTable.turns m ∧ way m h k = j := by
 obtain ⟨n, hn, e⟩ := Ko hm h hj
 obtain ⟨k, hk, e2⟩ := run_nth m (SetTable.bits h) n
 have ht : SetTable.turns m ≥ m + 13 := by unfold SetTable.turns; omega
 exact ⟨k, by omega, (congrArg SetTable.Probe.j e2).trans e⟩
section
variable {t : SetTable} {hs : List Int}
theorem TabG.first (T : TabG t hs) (hl : hs.length ≤ t.mask) (h : Int) : ∃ K, K < 10 * SetTable.turns t.mask ∧ way t.mask h K ∉ t.place.toList ∧ ∀ k, k < K → way t.mask h k ∈ t.place.toList := by
 obtain ⟨j, j1, j2⟩ := st_missing t.place.toList (t.mask + 1) (by rw [Array.length_toList, T.sz]; omega)
 obtain ⟨q, q1, q2⟩ := U5 T.mok h (Nat.le_of_lt_succ j1)
 have free : way t.mask h q ∉ t.place.toList := by rw [q2]; exact j2
 obtain ⟨K, a, b, c⟩ := st_least (p := fun n => way t.mask h n ∉ t.place.toList) q free
 exact ⟨K, by omega, b, fun k hk => Classical.byContradiction fun z => c k hk z⟩
theorem TabG.before (T : TabG t hs) {h : Int} {K i j : Nat} (hK : way t.mask h K ∉ t.place.toList) (hi : hs[i]? = some h) (hj : t.place.toList[i]? = some j) : ∃ k, k < K ∧ way t.mask h k = j := by
 obtain ⟨q, e, low⟩ := T.reach i h j hi hj
 refine ⟨q, Nat.lt_of_not_le fun z => ?_, e⟩
 rcases Nat.eq_or_lt_of_le z with y | y
 ·rw [y, e] at hK
  exact hK (List.mem_of_getElem? hj)
 ·exact hK (low K y)
theorem TabG.put (T : TabG t hs) {h : Int} {K : Nat} (hK : way t.mask h K ∉ t.place.toList) (hb : ∀ k, k < K → way t.mask h k ∈ t.place.toList) :
  (t.put (way t.mask h K)).2 = SetTable.below t.place (way t.mask h K) ∧ SetTable.below t.place (way t.mask h K) ≤ hs.length ∧
  TabG (t.put (way t.mask h K)).1 (hs.take (SetTable.below t.place (way t.mask h K)) ++ h :: hs.drop (SetTable.below t.place (way t.mask h K))) ∧
  (t.put (way t.mask h K)).1.mask = t.mask ∧ (t.put (way t.mask h K)).1.led = t.led ∧ (t.put (way t.mask h K)).1.plain = t.plain ∧ (t.put (way t.mask h K)).1.moves = t.moves ∧ (t.put (way t.mask h K)).1.finger = t.finger ∧
  (t.put (way t.mask h K)).1.fill = hs.length + 1 := by
 have jm : way t.mask h K ≤ t.mask := Ea
 obtain ⟨j, ej⟩ : ∃ j, way t.mask h K = j := ⟨_, rfl⟩
 rw [ej] at hK jm ⊢
 have cut := (below_cut T.ris j).1
 generalize hp : SetTable.below t.place j = p at cut
 have pl : p ≤ t.place.toList.length := by rw [Array.length_toList]; exact cut
 have ph : p ≤ hs.length := by rw [← T.sz]; exact cut
 have fresh : t.place[SetTable.below t.place j]? ≠ some j := fun z => hK (List.mem_of_getElem? (by rw [Array.getElem?_toList]; exact z))
 have lay : (t.put j).1.place.toList = t.place.toList.take p ++ j :: t.place.toList.drop p := by rw [← hp]; exact put_place t j
 have more : (t.put j).1.place.size = hs.length + 1 := by rw [← Array.length_toList, lay, len_ins _ pl, Array.length_toList, T.sz]
 have old : ∀ {x : Nat}, x ∈ t.place.toList → x ∈ (t.put j).1.place.toList := fun {x} hx => by rw [lay, mem_ins]; exact .inr hx
 have dm := put_dm T.dm j
 refine ⟨hp, ph, ⟨ris_insert T.ris fresh, dm, by rw [len_ins _ ph]; exact more, T.mok, fun x hx => ?_, fun i h' j' e1 e2 => ?_⟩, rfl, rfl, rfl, rfl, rfl, ?_⟩
 ·rw [lay, mem_ins] at hx
  exact hx.elim (fun z => by rw [z]; exact jm) (T.bd x)
 ·rw [tins_get hs ph] at e1
  rw [lay, tins_get _ pl] at e2
  have keep : ∀ i, hs[i]? = some h' → t.place.toList[i]? = some j' → ∃ k, way t.mask h' k = j' ∧ ∀ k', k' < k → way t.mask h' k' ∈ (t.put j).1.place.toList := fun i a b => by
   obtain ⟨k, u, v⟩ := T.reach i h' j' a b
   exact ⟨k, u, fun k' hk' => old (v k' hk')⟩
  by_cases c : i < p
  ·rw [if_pos c] at e1 e2
   exact keep i e1 e2
  ·rw [if_neg c] at e1 e2
   by_cases d : i = p
   ·rw [if_pos d] at e1 e2
    cases e1
    cases e2
    exact ⟨K, ej, fun k' hk' => old (hb k' hk')⟩
   ·rw [if_neg d] at e1 e2
    exact keep (i - 1) e1 e2
 ·have : (t.put j).1.place.size + (t.put j).1.dummies.size = hs.length + 1 := by rw [more, dm]; rfl
  exact this
end
theorem U6 {m : Nat} (hm : kE m) (owner : Array (Option Nat)) (h : Int) {j : Nat} (hj : j ≤ m) (hf : oAt owner j = none) :
  ∃ K, SetTable.layClean.free m owner (SetTable.turns m) (SetTable.bits h % (m + 1)) (SetTable.bits h) = some (way m h K) ∧ oAt owner (way m h K) = none ∧ ∀ k, k < K → oAt owner (way m h k) ≠ none := by
 obtain ⟨n, hn, e⟩ := Ko hm h hj
 generalize ho : off m (SetTable.bits h % (m + 1)) (SetTable.bits h) n = q
 have wq : way m h q = j := by
  have := congrArg SetTable.Probe.j (nth_off m n (SetTable.bits h % (m + 1)) (SetTable.bits h))
  rw [ho, itL_run] at this
  exact this.trans e
 obtain ⟨K, a, b, c⟩ := st_least (p := fun k => oAt owner (way m h k) = none) q (by rw [wq]; exact hf)
 have tn : n < SetTable.turns m := by unfold SetTable.turns; omega
 refine ⟨K, free_spec m owner (SetTable.turns m) n _ _ K tn (by rw [ho]; exact a) (fun k hk => ?_) ?_, b, c⟩
 ·have := c k hk
  cases z : oAt owner (way m h k) with
  | none => exact absurd z this
  | some y =>
   rfl
 ·show (oAt owner (way m h K)).isNone = true
  rw [b]; rfl
theorem U7 {m : Nat} (hm : kE m) {done : List Int} {owner : Array (Option Nat)} (W : Own m done owner) (hl : done.length ≤ m) (h : Int) :
  ∃ j, SetTable.layClean.free m owner (SetTable.turns m) (SetTable.bits h % (m + 1)) (SetTable.bits h) = some j ∧ Own m (done ++ [h]) (owner.setIfInBounds j (some done.length)) := by
 obtain ⟨ps, p1, p2⟩ := W.ps
 obtain ⟨y, y1, y2⟩ := st_missing ps (m + 1) (by omega)
 have yf : oAt owner y = none := Classical.byContradiction fun z => y2 (p2 y (Nat.le_of_lt_succ y1) z)
 obtain ⟨K, k1, k2, k3⟩ := U6 hm owner h (Nat.le_of_lt_succ y1) yf
 have wm : way m h K ≤ m := Ea
 have ws : way m h K < owner.size := by rw [W.sz]; omega
 refine ⟨way m h K, k1, ?_⟩
 generalize hj : way m h K = j at wm ws k2
 have at_j := oAt_set_self (some done.length) ws
 have off_j : ∀ {i}, i ≠ j → oAt (owner.setIfInBounds j (some done.length)) i = oAt owner i := fun {i} hi => oAt_set_ne _ hi
 have taken : ∀ {i}, oAt owner i ≠ none → oAt (owner.setIfInBounds j (some done.length)) i ≠ none := fun {i} hi => by
  by_cases c : i = j
  ·rw [c, at_j]; simp
  ·rw [off_j c]; exact hi
 constructor
 ·rw [Array.size_setIfInBounds]; exact W.sz
 ·intro i k hi e
  by_cases c : i = j
  ·subst c
   rw [at_j] at e
   cases e
   exact ⟨h, K, by rw [List.getElem?_append_right (Nat.le_refl _), Nat.sub_self]; rfl, hj, fun k' hk' => taken (k3 k' hk')⟩
  ·rw [off_j c] at e
   obtain ⟨h', K', a1, a2, a3⟩ := W.at_ i k hi e
   exact ⟨h', K', by rw [List.getElem?_append_left (List.getElem?_eq_some_iff.mp a1).1]; exact a1, a2, fun k' hk' => taken (a3 k' hk')⟩
 ·intro k hk
  rw [List.length_append, List.length_singleton] at hk
  by_cases c : k = done.length
  ·exact ⟨j, wm, by rw [at_j, c]⟩
  ·obtain ⟨i, hi, e⟩ := W.all k (by omega)
   exact ⟨i, hi, by rw [off_j (fun z => by rw [z, k2] at e; cases e)]; exact e⟩
 ·refine ⟨j :: ps, by simp [p1], fun i hi e => ?_⟩
  by_cases c : i = j
  ·rw [c]; exact List.mem_cons_self
  ·rw [off_j c] at e
   exact List.mem_cons_of_mem _ (p2 i hi e)
theorem U8 {m : Nat} (hm : kE m) (rest : List Int) : ∀ (done : List Int) (owner : Array (Option Nat)), Own m done owner → done.length + rest.length ≤ m →
  ∃ o', rest.foldl (stepF m) (some (owner, done.length)) = some (o', (done ++ rest).length) ∧ Own m (done ++ rest) o' := by
 induction rest with
 | nil => intro done owner W _; exact ⟨owner, by simp, by simpa using W⟩
 | cons h rest ih =>
  intro done owner W hl
  rw [List.length_cons] at hl
  obtain ⟨j, e, W2⟩ := U7 hm W (by omega) h
  obtain ⟨o', f, W3⟩ := ih (done ++ [h]) _ W2 (by rw [List.length_append, List.length_singleton]; omega)
  rw [List.append_assoc] at f W3
  refine ⟨o', ?_, W3⟩
  rw [List.foldl_cons, stepF_some e]
  rw [List.length_append, List.length_singleton] at f
  exact f
theorem U9 (t : SetTable) {hs : Array Int} {wanted M : Nat} (hw : SetTable.sizeAbove wanted - 1 = M) (hM : kE M) (hn : hs.size ≤ M) :
  ∃ t' order, t.relaid hs wanted = some (t', order) ∧ order.toList.Perm (List.range hs.size) ∧ TabG t' (order.toList.map fun i => hs.getD i 0) ∧ t'.mask = M ∧ t'.led = t.led ∧ t'.plain = t.plain ∧ t'.dummies = #[] := by
 have hz : hs.toList.length = hs.size := Array.length_toList
 obtain ⟨owner, f, W⟩ := U8 hM hs.toList [] _ (Own.init M) (by rw [hz, List.length_nil]; omega)
 rw [List.nil_append] at f W
 have lc : SetTable.layClean M hs = some owner := by
  rw [layClean_eq]
  have g : hs.toList.foldl (stepF M) (some (Array.replicate (M + 1) none, 0)) = some (owner, hs.toList.length) := f
  rw [g]; rfl
 generalize hl : liveOf M owner = lv
 have hr : t.relaid hs wanted = some (tabOf t M owner, (lv.map (·.2)).toArray) := by rw [relaid_eq, hw, lc, ← hl]; rfl
 have ml : ∀ {j k : Nat}, (j, k) ∈ lv ↔ j ≤ M ∧ oAt owner j = some k := fun {j k} => by rw [← hl]; exact mem_live W.sz
 have rs := ris_live (fun j => owner.getD j none) (List.range (M + 1)) (by
  unfold Ris
  first | exact List.pairwise_lt_range | exact List.pairwise_lt_range _)
 have r1 : Ris (lv.map (·.1)) := by rw [← hl]; exact rs.1
 have r2 : ∀ x ∈ lv.map (·.1), x ∈ List.range (M + 1) := by rw [← hl]; exact rs.2
 have count : lv.length = hs.size := by
  obtain ⟨ps, p1, p2⟩ := W.ps
  have nd : (lv.map (·.1)).Nodup := r1.imp fun z => Nat.ne_of_lt z
  have up := nat_nodup_len (lv.map (·.1)) ps nd fun x hx => by
   obtain ⟨⟨y, k⟩, hq, rfl⟩ := List.mem_map.mp hx
   obtain ⟨a, b⟩ := ml.mp hq
   exact p2 y a (by rw [b]; simp)
  have dn := nat_nodup_len (List.range hs.size) (lv.map (·.2)) List.nodup_range fun k hk => by
   obtain ⟨j, a, b⟩ := W.all k (by rw [hz]; exact List.mem_range.mp hk)
   exact List.mem_map.mpr ⟨(j, k), ml.mpr ⟨a, b⟩, rfl⟩
  rw [List.length_map] at up
  rw [List.length_map, List.length_range] at dn
  omega
 have pt : (tabOf t M owner).place.toList = lv.map (·.1) := by rw [← hl]; rfl
 refine ⟨_, _, hr, perm_range _ _ (by simp [count]) fun k hk => ?_, ⟨by rw [pt]; exact r1, rfl, ?_, hM, fun x hx => ?_, fun i h j e1 e2 => ?_⟩, rfl, rfl, rfl, rfl⟩
 ·obtain ⟨j, a, b⟩ := W.all k (by rw [hz]; exact hk)
  exact List.mem_map.mpr ⟨(j, k), ml.mpr ⟨a, b⟩, rfl⟩
 ·rw [← Array.length_toList, pt]
  simp
 ·rw [pt] at hx
  exact Nat.le_of_lt_succ (List.mem_range.mp (r2 x hx))
 ·rw [pt] at e2 ⊢
  have e1 : ((lv.map (·.2)).map fun i => hs.getD i 0)[i]? = some h := e1
  rw [List.getElem?_map, List.getElem?_map] at e1
  rw [List.getElem?_map] at e2
  cases q : lv[i]? with
  | none => rw [q] at e2; cases e2
  | some yk =>
   obtain ⟨y, k⟩ := yk
   rw [q] at e1 e2
   cases e2
   have e1 : hs.getD k 0 = h := Option.some.inj e1
   obtain ⟨a, b⟩ := ml.mp (List.mem_of_getElem? q)
   obtain ⟨h0, K, c1, c2, c3⟩ := W.at_ y k a b
   have eh : h0 = h := by
    rw [← e1, Array.getD_eq_getD_getElem?, ← Array.getElem?_toList, c1]
    rfl
   subst eh
   refine ⟨K, c2, fun k' hk' => ?_⟩
   have c4 := c3 k' hk'
   cases z : oAt owner (way M h0 k') with
   | none => exact absurd z c4
   | some k2 =>
    have : (way M h0 k', k2) ∈ lv := ml.mpr ⟨Ea, z⟩
    exact List.mem_map.mpr ⟨_, this, rfl⟩
theorem Kr : SetTable.sizeAbove (SetTable.grown 5) = 32 := by decide +kernel
theorem Ks : SetTable.sizeAbove (SetTable.grown 19) = 128 := by decide +kernel
theorem Ku : SetTable.sizeAbove (SetTable.grown 77) = 512 := by decide +kernel
end DN
end
section
namespace DN
open PySem PySem.Spec PyProof.Rows L2
section
variable {P : Program} {w : World}
mutual
theorem Eb : ∀ (k : NestedKey) (v : Value) (n : Nat) (s : Shared), NestedIs s.heap k v → k.depth ≤ n → tK P w n s v
 | .none, _, n, s, x, _ => by cases x; intro A E Q h; cases n <;> exact wpAny_pure h
 | .num i, _, n, s, x, _ => by cases x <;> (intro A E Q h; cases n <;> exact wpAny_pure h)
 | .text y, _, n, s, x, _ => by cases x; intro A E Q h; cases n <;> exact wpAny_pure h
 | .tup ks, _, n, s, x, hn => by
  cases x with
  | tup h1 h2 h3 h4 =>
   simp only [NestedKey.depth] at hn
   cases n with
   | zero => omega
   | succ n => exact .tup h1 h2 h3 (Kv ks _ n s h4 (by omega))
theorem Kv : ∀ (ks : List NestedKey) (vs : List Value) (n : Nat) (s : Shared), NestedAll s.heap ks vs → NestedKey.depthAll ks ≤ n → ∀ v ∈ vs, tK P w n s v
 | [], _, n, s, x, _, v, hv => by cases x; cases hv
 | k :: ks, _, n, s, x, hn, v, hv => by
  cases x with
  | cons x1 x2 =>
   simp only [NestedKey.depthAll] at hn
   rcases List.mem_cons.mp hv with e | hv
   ·rw [e]; exact Eb k _ n s x1 (by omega)
   ·exact Kv ks _ n s x2 (by omega) v hv
end
mutual
theorem Ec : ∀ (k : NestedKey) (v : Value) (n : Nat) (s : Shared), NestedIs s.heap k v → k.depth ≤ n → tL P w n s v
 | .none, _, n, s, x, _ => by cases x; intro A E Q h; cases n <;> exact wpAny_pure (h _)
 | .num i, _, n, s, x, _ => by cases x <;> (intro A E Q h; cases n <;> exact wpAny_pure (h _))
 | .text y, _, n, s, x, _ => by cases x; intro A E Q h; cases n <;> exact wpAny_pure (h _)
 | .tup ks, _, n, s, x, hn => by
  cases x with
  | tup h1 h2 h3 h4 =>
   simp only [NestedKey.depth] at hn
   cases n with
   | zero => omega
   | succ n => exact .tup h1 h2 h3 (Kw ks _ n s h4 (by omega))
theorem Kw : ∀ (ks : List NestedKey) (vs : List Value) (n : Nat) (s : Shared), NestedAll s.heap ks vs → NestedKey.depthAll ks ≤ n → ∀ v ∈ vs, tL P w n s v
 | [], _, n, s, x, _, v, hv => by cases x; cases hv
 | k :: ks, _, n, s, x, hn, v, hv => by
  cases x with
  | cons x1 x2 =>
   simp only [NestedKey.depthAll] at hn
   rcases List.mem_cons.mp hv with e | hv
   ·rw [e]; exact Ec k _ n s x1 (by omega)
   ·exact Kw ks _ n s x2 (by omega) v hv
end
variable {A : Around} {E : Value → Shared → Prop} {s : Shared}
theorem Va {k : NestedKey} {b : Addr} {Q : Bool → Shared → Prop} (hk : eE s.heap k b) {ys : List Value} (hy : ∀ y ∈ ys, ∃ k' c, y = Value.ref c ∧ eE s.heap k' c) (h : Q false s) : wpAny (model P w) A (searchCouldBeSeen (.ref b) ys) Q E s := by
 unfold searchCouldBeSeen
 refine wpAny_bind ?_
 refine wpAny_forIn_list _ (fun left r s2 => r.1 = none ∧ s2 = s ∧ ∀ y ∈ left, ∃ k' c, y = Value.ref c ∧ eE s.heap k' c) _ ?_ ?_ _ _ ⟨rfl, rfl, hy⟩
 ·rintro v left r s2 ⟨hr, rfl, all⟩
  obtain ⟨k', c, rfl, hc⟩ := all v List.mem_cons_self
  have more : ∀ y ∈ left, ∃ k' c, y = Value.ref c ∧ eE s2.heap k' c := fun u hu => all u (List.mem_cons_of_mem _ hu)
  dsimp only
  by_cases hv : (b == c || (carriedByValue (.ref b) && carriedByValue (.ref c))) = true
  ·exact wp_if_pos hv (wpAny_pure ⟨rfl, rfl, more⟩)
  ·refine wp_if_neg hv ?_
   refine wpAny_bind (quiet_key k _ 8 s2 hk.1 hk.2 _ _ _ ?_)
   simp only [Bool.not_true, Bool.false_eq_true, if_false]
   refine wpAny_bind (quiet_key k' _ 8 s2 hc.1 hc.2 _ _ _ ?_)
   simp only [Bool.not_true, Bool.false_eq_true, if_false]
   refine wpAny_bind (Eb k _ 8 s2 hk.1 hk.2 _ _ _ ?_)
   simp only [Bool.false_eq_true, if_false]
   refine wpAny_bind (Eb k' _ 8 s2 hc.1 hc.2 _ _ _ ?_)
   simp only [Bool.false_eq_true, if_false]
   exact wpAny_pure ⟨rfl, rfl, more⟩
 ·rintro ⟨r1, r2⟩ s2 ⟨hr, rfl, _⟩
  simp only at hr
  subst hr
  exact wpAny_pure h
variable {a : Addr} {L : List Mem} {es : Array (Int × Value)} {ep : Nat} {t : SetTable}
theorem SetT.entry (R : SetT w s.heap a L es ep t) {i : Nat} {p : Mem} (h : L[i]? = some p) : es[i]? = some (p.2.hash w, Value.ref p.1) := by
 rw [← Array.getElem?_toList, R.rows, kJ, List.getElem?_map, h]
 rfl
theorem SetT.stays (R : SetT w s.heap a L es ep t) : ¬ t.gaveWay = true := by
 unfold SetTable.gaveWay
 rw [Ux R.tab.mok]
 decide
abbrev rB (m : Nat) (h : Int) : SetTable.Probe := runAt m (SetTable.bits h % (m + 1)) (SetTable.bits h)
theorem Ky (m : Nat) : ∀ (n : Nat) (p : SetTable.Probe), p.dummy = none → (nth m p n).dummy = none
 | 0, _, h => h
 | n + 1, p, h => Ky m n (adv m p) (by unfold adv; split <;> exact h)
theorem SetT.from_ (R : SetT w s.heap a L es ep t) {x : Addr} {k : NestedKey} (hx : eE s.heap k x) (hu : A.units + 8 < cLine) {K : Nat} (hKf : K < 10 * SetTable.turns t.mask)
  (hK : way t.mask (k.hash w) K ∉ t.place.toList) (hKb : ∀ c, c < K → way t.mask (k.hash w) c ∈ t.place.toList) {Q : SetFound → Shared → Prop}
  (hin : k ∈ L.map (·.2) → Q (.there none) s) (hout : k ∉ L.map (·.2) → Q (.free (way t.mask (k.hash w) K) false) s) :
  ∀ (f c : Nat) (stand : Option SetTable.Probe), stand.getD (t.probeStart (k.hash w)) = nth t.mask (rB t.mask (k.hash w)) c → c ≤ K → K - c < f →
   (∀ (i : Nat) p, L[i]? = some p → p.2 = k → ∃ c', c ≤ c' ∧ c' < K ∧ t.place.toList[i]? = some (way t.mask (k.hash w) c')) →
   wpAny (model P w) A (setSearchFrom a (.ref x) (k.hash w) true f stand) Q E s := by
 intro f
 induction f with
 | zero => intro c stand _ _ hf _; exact absurd hf (Nat.not_lt_zero _)
 | succ f ih =>
  intro c stand hst hc hf hre
  obtain ⟨o, ho, hex, hd⟩ := R.ob
  rw [setSearchFrom_succ]
  refine wpAny_bind (wpAny_setState_of ho hd R.fits ?_)
  dsimp only
  refine wp_if_neg R.stays ?_
  try refine wpAny_bind (wpAny_pure ?_)
  have sh : ∀ q, nth t.mask (nth t.mask (rB t.mask (k.hash w)) c) q = nth t.mask (rB t.mask (k.hash w)) (c + q) := fun q => (nth_add t.mask c _ q).symm
  have jq : ∀ q, (nth t.mask (nth t.mask (rB t.mask (k.hash w)) c) q).j = way t.mask (k.hash w) (c + q) := fun q => congrArg SetTable.Probe.j (sh q)
  have hK2 : c + (K - c) = K := by omega
  have hashAt : ∀ (i : Nat) p, L[i]? = some p → (es[i]?.map (·.1)).getD 0 = p.2.hash w := fun i p hp => by rw [R.entry hp]; rfl
  have spec := go_spec t R.tab.ris R.tab.dm (fun i => (es[i]?.map (·.1)).getD 0) (k.hash w) (10 * SetTable.turns t.mask) (K - c) _ (Ky t.mask c _ rfl) (by omega) (fun q hq => by rw [jq]; exact hKb (c + q) (by omega)) (by rw [jq, hK2]; exact hK)
  rcases spec with ⟨q, i, hq, hi, hh, hno, hpr⟩ | ⟨hno, hpr⟩
  ·have hpr2 : t.probe (fun i => (es[i]?.map (·.1)).getD 0) (k.hash w) (stand.getD (t.probeStart (k.hash w))) = some (.candidate (way t.mask (k.hash w) (c + q)) i (nth t.mask (rB t.mask (k.hash w)) (c + (q + 1)))) := by
    rw [hst, ← jq, ← sh]
    exact hpr
   rw [hpr2]
   dsimp only
   rw [jq] at hi
   have hil : i < L.length := by
    have h1 : i < t.place.toList.length := (List.getElem?_eq_some_iff.mp hi).1
    rw [Array.length_toList, R.places] at h1
    exact h1
   obtain ⟨p, hp⟩ : ∃ p, L[i]? = some p := ⟨L[i], List.getElem?_eq_getElem hil⟩
   have hmem : p ∈ L := List.mem_of_getElem? hp
   have back : wpAny (model P w) A (searchRest a (.ref x) (k.hash w) true f es t (way t.mask (k.hash w) (c + q)) i (nth t.mask (rB t.mask (k.hash w)) (c + (q + 1)))) Q E s := by
    unfold searchRest
    rw [R.entry hp]
    dsimp only
    refine wpAny_bind (wpAny_holding ((nestedKind P w).eqBool hu (R.key p hmem) hx ?_))
    refine wpAny_bind (wpAny_setState_of ho hd R.fits ?_)
    dsimp only
    by_cases hkk : p.2 = k
    ·refine wp_if_pos (by simp [hkk]) ?_
     exact wpAny_pure (hin (List.mem_map.mpr ⟨p, hmem, hkk⟩))
    ·refine wp_if_neg (by simp [hkk]) ?_
     try refine wpAny_bind (wpAny_pure ?_)
     rw [sameMem]
     dsimp only
     have hsl : t.slot (way t.mask (k.hash w) (c + q)) = .live i := slot_live R.tab.ris hi
     simp only [if_true, hsl, R.entry hp]
     refine wpAny_bind (wpAny_isSame_ref_self (wpAny_bind (wpAny_pure ?_)))
     simp only [if_true]
     refine wp_if_neg (by simp [hkk]) ?_
     refine ih (c + (q + 1)) _ rfl (by omega) (by omega) fun i0 p0 h0 hk0 => ?_
     obtain ⟨c', a1, a2, a3⟩ := hre i0 p0 h0 hk0
     refine ⟨c', ?_, a2, a3⟩
     have neq : c' ≠ c + q := fun ec => by
      rw [ec] at a3
      have s0 := slot_live R.tab.ris a3
      rw [hsl] at s0
      injection s0 with s0
      rw [← s0, hp] at h0
      exact hkk ((congrArg Prod.snd (Option.some.inj h0)).trans hk0)
     rcases Nat.lt_or_ge c' (c + q) with z | z
     ·exact absurd ((hashAt i0 p0 h0).trans (congrArg (NestedKey.hash w) hk0)) (hno (c' - c) i0 (by omega) (by rw [jq, show c + (c' - c) = c' by omega]; exact a3))
     ·omega
   by_cases hl : t.led = true
   ·refine wp_if_neg (by simp [hl]) ?_
    try refine wpAny_bind (wpAny_pure ?_)
    exact back
   ·refine wp_if_pos (by simp [hl]) ?_
    refine wpAny_bind (Va hx (fun y hy => ?_) ?_)
    ·obtain ⟨e, he, ee⟩ := List.mem_map.mp hy
     have he1 : e ∈ es.toList := by
      have : e ∈ es ∧ e.1 = k.hash w := by simpa using he
      simpa using this.1
     rw [R.rows] at he1
     obtain ⟨p2, hp2, e2⟩ := List.mem_map.mp he1
     exact ⟨p2.2, p2.1, by rw [← ee, ← e2], R.key p2 hp2⟩
    ·refine wp_if_neg (by decide) ?_
     try refine wpAny_bind (wpAny_pure ?_)
     exact back
  ·have hpr2 : t.probe (fun i => (es[i]?.map (·.1)).getD 0) (k.hash w) (stand.getD (t.probeStart (k.hash w))) = some (.empty (way t.mask (k.hash w) K) none) := by
    have e2 : way t.mask (k.hash w) K = (nth t.mask (nth t.mask (rB t.mask (k.hash w)) c) (K - c)).j := by rw [jq, hK2]
    rw [hst, e2]
    exact hpr
   rw [hpr2]
   dsimp only
   refine wpAny_pure (hout fun hm => ?_)
   obtain ⟨p0, h0, hk0⟩ := List.mem_map.mp hm
   obtain ⟨i0, hi0, e0⟩ := List.getElem_of_mem h0
   have h00 : L[i0]? = some p0 := by rw [List.getElem?_eq_getElem hi0, e0]
   obtain ⟨c', a1, a2, a3⟩ := hre i0 p0 h00 hk0
   exact hno (c' - c) i0 (by omega) (by rw [jq, show c + (c' - c) = c' by omega]; exact a3) ((hashAt i0 p0 h00).trans (congrArg (NestedKey.hash w) hk0))
theorem SetT.search (R : SetT w s.heap a L es ep t) {x : Addr} {k : NestedKey} (hx : eE s.heap k x) (hu : A.units + 8 < cLine) {Q : SetFound → Shared → Prop} (hin : k ∈ L.map (·.2) → Q (.there none) s)
  (hout : ∀ K, k ∉ L.map (·.2) → way t.mask (k.hash w) K ∉ t.place.toList → (∀ c, c < K → way t.mask (k.hash w) c ∈ t.place.toList) → Q (.free (way t.mask (k.hash w) K) false) s) : wpAny (model P w) A (setSearch a (.ref x) (k.hash w) true) Q E s := by
 have hroom := R.room
 obtain ⟨K, hKf, hK, hKb⟩ := R.tab.first (by unfold hsh; rw [List.length_map]; omega) (k.hash w)
 have hbig : K < 100000 := by
  have : 10 * SetTable.turns t.mask ≤ 90000 := by
   have := Uy R.tab.mok
   unfold SetTable.turns
   omega
  omega
 unfold setSearch
 refine R.from_ hx hu hKf hK hKb hin (fun hn => hout K hn hK hKb) 100000 0 none rfl (Nat.zero_le _) (by omega) fun i p hp hk => ?_
 have hi : (hsh w L)[i]? = some (k.hash w) := by unfold hsh; rw [List.getElem?_map, hp, ← hk]; rfl
 have hil : i < t.place.toList.length := by rw [Array.length_toList, R.places]; exact (List.getElem?_eq_some_iff.mp hp).1
 have hj := List.getElem?_eq_getElem hil
 obtain ⟨c, hc, e⟩ := R.tab.before hK hi hj
 exact ⟨c, Nat.zero_le _, hc, by rw [hj, e]⟩
theorem eE.keep {h h' : Heap} {k : NestedKey} {b : Addr} (x : eE h k b) (hk : ∀ c o vs n, h.get? c = some o → o.data = .seq vs n → h'.get? c = some o) : eE h' k b := ⟨NestedIs.at hk _ _ x.1, x.2⟩
theorem eE.but {h h' : Heap} {k : NestedKey} {a b : Addr} {o : Obj} {es : Array (Int × Value)} {ep : Nat} {t : SetTable} (x : eE h k b) (ho : h.get? a = some o) (hd : o.data = .set es ep t) (hs : Heap.SameBut a h h') : eE h' k b := x.keep fun c oc vs n hc hq => by
 refine (hs.2 c fun e => ?_).trans hc
 rw [e, ho] at hc
 cases hc
 rw [hd] at hq
 cases hq
theorem picked {es : Array (Int × Value)} {order : Array Nat} (hr : es.toList = kJ w L) (hp : order.toList.Perm (List.range L.length)) :
  ∃ L2 : List Mem, (order.filterMap (es[·]?)).toList = kJ w L2 ∧ L2.Perm L ∧ hsh w L2 = order.toList.map fun i => (es.map (·.1)).getD i 0 := by
 have hsz : es.size = L.length := by rw [← Array.length_toList, hr, Dt]
 have ent : ∀ i (h : i < L.length), es[i]? = some ((L[i]).2.hash w, Value.ref (L[i]).1) := fun i h => by
  rw [← Array.getElem?_toList, hr, kJ, List.getElem?_map, List.getElem?_eq_getElem h]
  rfl
 have key : ∀ l : List Nat, (∀ i ∈ l, i < L.length) → l.filterMap (fun i => es[i]?) = kJ w (l.filterMap fun i => L[i]?) ∧ hsh w (l.filterMap fun i => L[i]?) = l.map fun i => (es.map (·.1)).getD i 0 := by
  intro l
  induction l with
  | nil => intro _; exact ⟨rfl, rfl⟩
  | cons i l ih =>
   intro hl
   have hi := hl i List.mem_cons_self
   obtain ⟨e1, e3⟩ := ih fun j hj => hl j (List.mem_cons_of_mem _ hj)
   have e5 : (es.map (·.1))[i]? = some ((L[i]).2.hash w) := by rw [Array.getElem?_map, ent i hi]; rfl
   have e4 : (es.map (·.1)).getD i 0 = (L[i]).2.hash w := by simp [Array.getD_eq_getD_getElem?, e5]
   rw [List.filterMap_cons_some (ent i hi), List.filterMap_cons_some (List.getElem?_eq_getElem hi), List.map_cons, e1, ← e3, e4]
   exact ⟨rfl, rfl⟩
 obtain ⟨e1, e3⟩ := key order.toList fun i hi => List.mem_range.mp (hp.mem_iff.mp hi)
 have all : ∀ n, n ≤ L.length → (List.range n).filterMap (fun i => L[i]?) = L.take n := by
  intro n
  induction n with
  | zero => intro _; rfl
  | succ n ih =>
   intro hn
   rw [List.range_succ, List.filterMap_append, ih (Nat.le_of_lt hn), List.take_succ, List.getElem?_eq_getElem hn, List.filterMap_cons_some (List.getElem?_eq_getElem hn)]
   rfl
 refine ⟨_, by first | (rw [Array.toList_filterMap]; exact e1) | simpa using e1, ?_, e3⟩
 have h1 := hp.filterMap fun i => L[i]?
 rw [all L.length (Nat.le_refl _), List.take_length] at h1
 exact h1
theorem SetT.relay {o : Obj} (ho : s.heap.get? a = some o) (hex : o.ExactSet) (hd : o.data = .set es ep t) (hr : es.toList = kJ w L) (hsz : t.place.size = es.size) (hdm : t.dummies = #[]) (hfl : es.size ≤ t.mask)
  (nd : (L.map (·.2)).Nodup) (key : ∀ p ∈ L, eE s.heap p.2 p.1) (ld : w.params.followText "set-order" = true ∨ t.led = true) (few : L.length < 300) {wanted M : Nat}
  (hw : SetTable.sizeAbove wanted - 1 = M) (hM : kE M) (hw2 : SetTable.sizeAbove wanted ≤ 512) (hn : L.length * 5 < M * 3) {Q : Unit → Shared → Prop}
  (hQ : ∀ h' L' es' ep' t', Heap.SameBut a s.heap h' → SetT w h' a L' es' ep' t' → L'.Perm L → Q () { s with heap := h' }) : wpAny (model P w) A (setRelay a wanted) Q E s := by
 have hsl := zA hr
 obtain ⟨t', order, e, hp, T, em, el, _, ed⟩ := U9 t (hs := es.map (·.1)) (wanted := wanted) hw hM (by rw [Array.size_map, hsl]; omega)
 rw [Array.size_map, hsl] at hp
 obtain ⟨L2, r1, r2, r3⟩ := picked hr hp
 rw [← r3] at T
 have hs2 : (order.filterMap (es[·]?)).size = es.size := by rw [zA r1, r2.length_eq, hsl]
 rw [setRelay_eq]
 refine wpAny_bind (wpAny_setState_of ho hd (yZ hdm hsz hfl) ?_)
 dsimp only
 refine wp_if_neg (by rw [sizeLine_eq]; omega) ?_
 try refine wpAny_bind (wpAny_pure ?_)
 rw [e]
 dsimp only
 refine wpAny_bind ?_
 refine wp_if_neg (by rw [hs2]; simp) ?_
 try refine wpAny_bind (wpAny_pure ?_)
 refine wpAny_pure ?_
 dsimp only
 refine wpAny_storeSet_of ho hd ?_ (by rw [hs2, hsl, sizeLine_eq]; omega)
 have sb : Heap.SameBut a s.heap (s.heap.update a (Obj.putSet (order.filterMap (es[·]?)) t')) := Heap.SameBut.update ..
 refine hQ _ L2 _ (ep + 1) t' sb ⟨⟨_, store_at ho hd, ⟨hex.1, hex.2.1, hex.2.2⟩, rfl⟩, r1, T, (r2.map (·.2)).nodup_iff.mpr nd, fun p hpm => (key p (r2.mem_iff.mp hpm)).but ho hd sb, by rw [el]; exact ld, ?_, by rw [r2.length_eq]; exact few⟩ r2
 rw [r2.length_eq, em]
 exact hn
theorem tab_plain {t : SetTable} {hs : List Int} (T : TabG t hs) : TabG { t with plain := false } hs := ⟨T.ris, T.dm, T.sz, T.mok, T.bd, T.reach⟩
theorem SetT.add (R : SetT w s.heap a L es ep t) {x : Addr} {k : NestedKey} (hx : eE s.heap k x) (hu : A.units + 8 < cLine) (hfew : L.length + 1 < 300) {Q : Bool → Shared → Prop}
  (hQ : ∀ b h' L' es' ep' t', Heap.SameBut a s.heap h' → SetT w h' a L' es' ep' t' → (k ∈ L.map (·.2) → L' = L) → (k ∉ L.map (·.2) → L'.Perm ((x, k) :: L)) → Q b { s with heap := h' }) :
  wpAny (model P w) A (setAddHashed a (.ref x) (k.hash w)) Q E s := by
 obtain ⟨o, ho, hex, hd⟩ := R.ob
 have hsl := R.size
 have hroom := R.room
 unfold setAddHashed
 refine wpAny_holding ?_
 rw [show (100000 : Nat) = 99999 + 1 from rfl, setAddHashedIn_succ]
 refine wpAny_bind (wpAny_setState_of ho hd R.fits ?_)
 dsimp only
 refine wp_if_neg (by simp [byScan, Value.scannable]) ?_
 try refine wpAny_bind (wpAny_pure ?_)
 refine wpAny_bind (R.search hx hu (fun hm => ?_) fun K hm hK hb => ?_)
 ·exact wpAny_pure (hQ false s.heap L es ep t (Heap.SameBut.refl a s.heap) R (fun _ => rfl) fun z => absurd hm z)
 ·dsimp only
  refine wpAny_bind (wpAny_setState_of ho hd R.fits ?_)
  dsimp only
  obtain ⟨q1, q2, q3, q4, q5, q6, q7, q8, q9⟩ := R.tab.put hK hb
  generalize hpt : t.put (way t.mask (k.hash w) K) = pt at q1 q3 q4 q5 q6 q7 q8 q9 ⊢
  obtain ⟨t1, p⟩ := pt
  dsimp only at q1 q3 q4 q5 q6 q7 q8 q9 ⊢
  subst q1
  -- the members with the new one in its place
  have hin : (SetTable.insertAt es (SetTable.below t.place (way t.mask (k.hash w) K)) (k.hash w, Value.ref x)).toList = kJ w (L.take (SetTable.below t.place (way t.mask (k.hash w) K)) ++ (x, k) :: L.drop (SetTable.below t.place (way t.mask (k.hash w) K))) := by
   rw [SetTable.toList_insertAt, R.rows]
   unfold kJ
   rw [List.map_append, List.map_cons, List.map_take, List.map_drop]
  have hhs : hsh w (L.take (SetTable.below t.place (way t.mask (k.hash w) K)) ++ (x, k) :: L.drop (SetTable.below t.place (way t.mask (k.hash w) K))) = (hsh w L).take (SetTable.below t.place (way t.mask (k.hash w) K)) ++ k.hash w :: (hsh w L).drop (SetTable.below t.place (way t.mask (k.hash w) K)) := by
   unfold hsh
   rw [List.map_append, List.map_cons, List.map_take, List.map_drop]
  rw [← hhs] at q3
  have pm := put_perm L (SetTable.below t.place (way t.mask (k.hash w) K)) (x, k)
  generalize L.take (SetTable.below t.place (way t.mask (k.hash w) K)) ++ (x, k) :: L.drop (SetTable.below t.place (way t.mask (k.hash w) K)) = L1 at hin q3 pm
  generalize SetTable.insertAt es (SetTable.below t.place (way t.mask (k.hash w) K)) (k.hash w, Value.ref x) = es1 at hin ⊢
  have hlen : L1.length = L.length + 1 := pm.length_eq
  have hes : es1.size = L.length + 1 := by rw [zA hin, hlen]
  have nd1 : (L1.map (·.2)).Nodup := (pm.map (·.2)).nodup_iff.mpr (by rw [List.map_cons]; exact List.nodup_cons.mpr ⟨hm, R.nd⟩)
  have ld1 : w.params.followText "set-order" = true ∨ t1.led = true := by rw [q5]; exact R.led
  have hfill : t1.fill = L.length + 1 := by rw [q9]; unfold hsh; rw [List.length_map]
  -- what follows, whatever the table says of its members
  have fin : ∀ t2 : SetTable, TabG t2 (hsh w L1) → t2.mask = t.mask → t2.fill = L.length + 1 → (w.params.followText "set-order" = true ∨ t2.led = true) → wpAny (model P w) A (do
    storeSet a es1 t2
    if (!false && t2.tooFull) = true then setRelay a (SetTable.grown (es.size + 1))
    return true) Q E s := fun t2 T2 m2 f2 l2 => by
   refine wpAny_bind (wpAny_storeSet_of ho hd ?_ (by rw [hes, sizeLine_eq]; omega))
   have sb : Heap.SameBut a s.heap (s.heap.update a (Obj.putSet es1 t2)) := Heap.SameBut.update ..
   have ho1 := store_at (es' := es1) (t' := t2) ho hd
   generalize s.heap.update a (Obj.putSet es1 t2) = h1 at sb ho1 ⊢
   have key1 : ∀ p ∈ L1, eE h1 p.2 p.1 := fun p hp => by
    rcases List.mem_cons.mp (pm.mem_iff.mp hp) with e | hp
    ·rw [e]; exact hx.but ho hd sb
    ·exact (R.key p hp).but ho hd sb
   by_cases hf : t2.tooFull = true
   ·first
     | (refine wpAny_bind ?_; refine wp_if_pos (by simp [hf]) ?_)
     | (refine wp_if_pos (by simp [hf]) ?_; refine wpAny_bind ?_)
    have hfull : (L.length + 1) * 5 ≥ t2.mask * 3 := by
     have h := hf
     unfold SetTable.tooFull at h
     rw [decide_eq_true_eq, f2] at h
     exact h
    rw [hsl]
    have hsz1 : t2.place.size = es1.size := by
     have h := T2.sz
     unfold hsh at h
     rw [List.length_map, hlen] at h
     rw [h, hes]
    have two : (t.mask = 7 ∧ L.length = 4) ∨ (t.mask = 31 ∧ L.length = 18) ∨ (t.mask = 127 ∧ L.length = 76) := by
     rw [m2] at hfull
     rcases R.tab.mok with e | e | e | e
     ·left; rw [e] at hfull hroom; exact ⟨e, by omega⟩
     ·right; left; rw [e] at hfull hroom; exact ⟨e, by omega⟩
     ·right; right; rw [e] at hfull hroom; exact ⟨e, by omega⟩
     ·exfalso; rw [e] at hfull; omega
    have go : ∀ M, SetTable.sizeAbove (SetTable.grown (L.length + 1)) - 1 = M → kE M → SetTable.sizeAbove (SetTable.grown (L.length + 1)) ≤ 512 → (L.length + 1) * 5 < M * 3 →
      wpAny (model P w) A (setRelay a (SetTable.grown (L.length + 1))) (fun _ s' => wpAny (model P w) A (pure true) Q E s') E { s with heap := h1 } := fun M g1 g2 g3 g4 => by
     refine SetT.relay (s := { s with heap := h1 }) ho1 ⟨hex.1, hex.2.1, hex.2.2⟩ rfl hin hsz1 T2.dm (by rw [hes, m2]; rcases two with ⟨e, e2⟩ | ⟨e, e2⟩ | ⟨e, e2⟩ <;> omega) nd1 key1 l2 (by rw [hlen]; exact hfew) g1 g2 g3 (by rw [hlen]; exact g4) ?_
     intro h2 L2 es2 ep2 t3 sb2 R2 pm2
     exact wpAny_pure (hQ true h2 L2 es2 ep2 t3 (sb.trans sb2) R2 (fun z => absurd z hm) fun _ => pm2.trans pm)
    rcases two with ⟨_, e2⟩ | ⟨_, e2⟩ | ⟨_, e2⟩
    ·exact go 31 (by rw [e2, Kr]) (.inr (.inl rfl)) (by rw [e2, Kr]; decide) (by omega)
    ·exact go 127 (by rw [e2, Ks]) (.inr (.inr (.inl rfl))) (by rw [e2, Ks]; decide) (by omega)
    ·exact go 511 (by rw [e2, Ku]) (.inr (.inr (.inr rfl))) (by rw [e2, Ku]; decide) (by omega)
   ·first
     | refine wp_if_neg (by simp [hf]) ?_
     | (refine wpAny_bind ?_; refine wp_if_neg (by simp [hf]) ?_; refine wpAny_pure ?_)
    refine wpAny_pure (hQ true h1 L1 es1 (ep + 1) t2 sb ⟨⟨_, ho1, ⟨hex.1, hex.2.1, hex.2.2⟩, rfl⟩, hin, T2, nd1, key1, l2, ?_, by rw [hlen]; exact hfew⟩ (fun z => absurd z hm) fun _ => pm)
    have h := hf
    unfold SetTable.tooFull at h
    rw [decide_eq_true_eq, f2] at h
    rw [hlen]
    omega
  have plain : ∀ b : Bool, wpAny (model P w) A (do
    let t2 := if b = true then t1 else { t1 with plain := false }
    storeSet a es1 t2
    if (!false && t2.tooFull) = true then setRelay a (SetTable.grown (es.size + 1))
    return true) Q E s := fun b => by
   cases b with
   | true => exact fin t1 q3 q4 hfill ld1
   | false => exact fin { t1 with plain := false } (tab_plain q3) q4 hfill ld1
  by_cases hpl : t1.plain = true
  ·first
    | (refine wpAny_bind ?_; refine wp_if_pos hpl ?_; exact Ec k _ 8 s hx.1 hx.2 _ _ _ plain)
    | (refine wp_if_pos hpl (wpAny_bind ?_); exact Ec k _ 8 s hx.1 hx.2 _ _ _ plain)
  ·first
    | (refine wpAny_bind ?_; refine wp_if_neg hpl ?_; exact wpAny_pure (plain true))
    | (refine wp_if_neg hpl ?_; exact plain true)
theorem SetT.new {h : Heap} {a : Addr} (ho : h.get? a = some { cls := .type "set", dict := none, data := .set #[] 0 (.fresh 0 0 (!w.params.followText "set-order")) }) : SetT w h a [] #[] 0 (.fresh 0 0 (!w.params.followText "set-order")) where
 ob := ⟨_, ho, ⟨rfl, rfl, rfl⟩, rfl⟩
 rows := rfl
 tab := ⟨List.Pairwise.nil, rfl, rfl, .inl rfl, fun x hx => (by cases hx), fun i h j hi => (by simp [hsh] at hi)⟩
 nd := List.nodup_nil
 key := fun p hp => (by cases hp)
 led := by
  show _ ∨ (!w.params.followText "set-order") = true
  cases w.params.followText "set-order"
  ·exact .inr rfl
  ·exact .inl rfl
 room := show 0 * 5 < 7 * 3 by decide
 few := show 0 < 300 by decide
end
end DN
end
section
namespace DN
open PySem PySem.Spec PyProof.Rows L2
section
variable {P : Program} {w : World} {A : Around} {E : Value → Shared → Prop} {s : Shared} {a : Addr} {xs : List Str} {es : Array (Int × Value)} {ep : Nat} {t : SetTable}
theorem Vb {l : List (Int × Value)} (g : ∀ e ∈ l, tM w e) : ElemsOf (PySem.strKind P w) l := fun e he => by
 obtain ⟨x, tk, h1, h2⟩ := g e he
 exact ⟨⟨x, by rw [h1]; exact strKind_is P w x tk, h2⟩, by rw [h1]; rfl⟩
theorem Kz {e : Int × Value} (g : tM w e) (x : Str) : (PySem.strKind P w).is x e.2 = true ↔ txOf e = x := by
 obtain ⟨y, tk, h1, _⟩ := g
 unfold txOf
 rw [h1]
 constructor
 ·intro h
  exact (PySem.strKind P w).inj _ _ _ (strKind_is P w y tk) h
 ·intro h
  rw [← h]
  exact strKind_is P w y tk
theorem K6 {l : List (Int × Value)} (g : ∀ e ∈ l, tM w e) (x : Str) : x ∈ l.map txOf ↔ ∃ e ∈ l, (PySem.strKind P w).is x e.2 = true := by
 rw [List.mem_map]
 constructor
 ·rintro ⟨e, he, q⟩
  exact ⟨e, he, (Kz (g e he) x).2 q⟩
 ·rintro ⟨e, he, q⟩
  exact ⟨e, he, (Kz (g e he) x).1 q⟩
theorem K7 {g : Bool → Sem Unit} (hg : ∀ (b : Bool) (s₁ : Shared) (Q' : Unit → Shared → Prop), Q' () s₁ → wpAny (model P w) A (g b) Q' E s₁)
  {o : Obj} (ho : s.heap.get? a = some o) (hex : o.ExactSet) (hd : o.data = .set es ep t) {es1 : Array (Int × Value)} {t2 : SetTable} {ys : List Str} (g1 : ∀ e ∈ es1.toList, tM w e) (k1 : (es1.toList.map txOf).Perm ys) (nd1 : ys.Nodup) (few1 : ys.length < 300)
  (hf2 : t2.fits es1.size = true) (hr : Ris t2.place.toList) (hl : w.params.followText "set-order" = true ∨ t2.led = true) {wd : Bool} {R : Option Bool → Shared → Prop}
  (hR : ∀ h' zs es' ep' t', Heap.SameBut a s.heap h' → kW w h' a zs es' ep' t' → zs.Perm ys → R (some true) { s with heap := h' }) :
  wpAny (model P w) A (do
    storeSet a es1 t2
    if (!wd && t2.tooFull) = true then do
      g (relayAll t2 es1 (SetTable.grown es1.size)).2.2
      storeSet a (relayAll t2 es1 (SetTable.grown es1.size)).1 (relayAll t2 es1 (SetTable.grown es1.size)).2.1
      pure (some true)
     else pure (some true)) R E s := by
 have hs1 : es1.size < 300 := by rw [← Array.length_toList, ← List.length_map (f := txOf), k1.length_eq]; exact few1
 refine wpAny_bind (wpAny_storeSet_of ho hd ?_ (by rw [sizeLine_eq]; omega))
 have ho1 := store_at (es' := es1) (t' := t2) ho hd
 have sb1 := Heap.SameBut.update s.heap a (Obj.putSet es1 t2)
 split
 ·have pm := relayAll_perm t2 es1 (SetTable.grown es1.size)
  have hf3 := relayAll_fits t2 es1 (SetTable.grown es1.size)
  have hr3 := relayAll_ris t2 es1 (SetTable.grown es1.size)
  have hl3 := relayAll_led t2 es1 (SetTable.grown es1.size)
  generalize relayAll t2 es1 (SetTable.grown es1.size) = Z at pm hf3 hr3 hl3 ⊢
  obtain ⟨es2, t3, gave⟩ := Z
  dsimp only at pm hf3 hr3 hl3 ⊢
  have hs2 : es2.size < 300 := by rw [← Array.length_toList, pm.length_eq, Array.length_toList]; exact hs1
  refine wpAny_bind (hg _ _ _ ?_)
  refine wpAny_bind (wpAny_storeSet_of ho1 rfl ?_ (by rw [sizeLine_eq]; omega))
  have ho2 := store_at (es' := es2) (t' := t3) ho1 rfl
  have pk := (pm.map txOf).trans k1
  exact wpAny_pure (hR _ _ es2 _ t3 (sb1.trans (Heap.SameBut.update _ a _)) ⟨⟨_, ho2, hex, rfl⟩, fun e he => g1 e (pm.mem_iff.mp he), rfl, pk.nodup_iff.mpr nd1, hf3, hr3, hl.imp id fun z => by rw [hl3]; exact z, by rw [pk.length_eq]; exact few1⟩ pk)
 ·exact wpAny_pure (hR _ _ es1 _ t2 sb1 ⟨⟨_, ho1, hex, rfl⟩, g1, rfl, k1.nodup_iff.mpr nd1, hf2, hr, hl, by rw [k1.length_eq]; exact few1⟩ k1)
theorem kW.add (R : kW w s.heap a xs es ep t) {x : Str} {tk : Tok} (hfew : xs.length + 1 < 300) {Q : Bool → Shared → Prop}
  (hQ : ∀ b h' ys es' ep' t', Heap.SameBut a s.heap h' → kW w h' a ys es' ep' t' → (x ∈ xs → ys = xs) → (x ∉ xs → ys.Perm (x :: xs)) → Q b { s with heap := h' }) :
  wpAny (model P w) A (setAddHashed a (.str x tk) (hashStr w x)) Q E s := by
 obtain ⟨⟨o, ho, hex, hd⟩, g, hk, nd, hf, hr, hl, few⟩ := R
 have hkey : (PySem.strKind P w).is x (.str x tk) = true := strKind_is P w x tk
 have hsc : (Value.str x tk).scannable = true := rfl
 have hel : ElemsOf (PySem.strKind P w) es.toList := Vb g
 have hsz : es.size = xs.length := by rw [← hk, List.length_map, Array.length_toList]
 have hb : es.size < scanBound := by unfold scanBound; omega
 show wpAny (model P w) A (setAddHashed a (.str x tk) ((PySem.strKind P w).hash x)) Q E s
 unfold setAddHashed setAddHashedIn
 refine wpAny_holding (wpAny_bind (wpAny_setState_of ho hd hf ?_))
 dsimp only
 rw [byScan_of hsc hb hel]
 simp only [↓reduceIte]
 unfold setAddByScan
 refine wpAny_bind ?_
 refine wpAny_bind (wpAny_rule ?_)
 refine wpAny_bind (wpAny_setScan_of hkey ho hd hf hel ?_)
 cases hfi : List.findIdx? (fun e => (PySem.strKind P w).is x e.2) es.toList with
 | some j =>
  dsimp only
  obtain ⟨hj, pj, _⟩ := List.findIdx?_eq_some_iff_getElem.mp hfi
  have hin : x ∈ xs := by rw [← hk]; exact (K6 (P := P) g x).2 ⟨es.toList[j], List.getElem_mem hj, pj⟩
  refine wpAny_pure (wpAny_pure ?_)
  exact hQ _ s.heap xs es ep t (Heap.SameBut.refl a s.heap) ⟨⟨o, ho, hex, hd⟩, g, hk, nd, hf, hr, hl, few⟩ (fun _ => rfl) fun z => absurd hin z
 | none =>
  dsimp only
  have hnk : x ∉ xs := fun z => by
   rw [← hk] at z
   obtain ⟨e, he, q⟩ := (K6 (P := P) g x).1 z
   have c := List.findIdx?_eq_none_iff.mp hfi e he
   rw [q] at c
   cases c
  have pm := layNew_perm t es ((PySem.strKind P w).hash x) (.str x tk)
  have hf1 := layNew_fits t es ((PySem.strKind P w).hash x) (.str x tk)
  have hr1 := layNew_ris t es ((PySem.strKind P w).hash x) (.str x tk) hr
  have hl1 := layNew_led t es ((PySem.strKind P w).hash x) (.str x tk)
  generalize layNew t es ((PySem.strKind P w).hash x) (.str x tk) = Z at pm hf1 hr1 hl1 ⊢
  obtain ⟨es1, t1, wd, gave⟩ := Z
  dsimp only at pm hf1 hr1 hl1 ⊢
  rw [Array.toList_push] at pm
  have pc : es1.toList.Perm (((PySem.strKind P w).hash x, Value.str x tk) :: es.toList) := pm.trans (List.perm_append_singleton _ _)
  have pk : (es1.toList.map txOf).Perm (x :: xs) := by
   have := pc.map txOf
   rw [List.map_cons, hk] at this
   exact this
  have g1 : ∀ e ∈ es1.toList, tM w e := fun e he => by
   rcases List.mem_cons.mp (pc.mem_iff.mp he) with z | z
   ·rw [z]; exact ⟨x, tk, rfl, rfl⟩
   ·exact g e z
  have nd1 : (x :: xs).Nodup := List.nodup_cons.mpr ⟨hnk, nd⟩
  have hled : w.params.followText "set-order" = true ∨ t1.led = true := hl.imp id fun z => by rw [hl1]; exact z
  have fin : ∀ h' ys es' ep' t', Heap.SameBut a s.heap h' → kW w h' a ys es' ep' t' → ys.Perm (x :: xs) → Q true { s with heap := h' } := fun h' ys es' ep' t' sb r p => hQ true h' ys es' ep' t' sb r (fun z => absurd z hnk) fun _ => p
  have hgw : ∀ (b : Bool) {s₁ : Shared} {Q' : Unit → Shared → Prop}, Q' () s₁ → wpAny (model P w) A (match b with | true => rule "set.scan.the-table-gave-way" | false => pure ()) Q' E s₁ :=
   fun b s₁ Q' q => by cases b <;> first | exact wpAny_pure q | exact wpAny_rule q
  refine wpAny_bind (hgw _ ?_)
  split
  ·refine wpAny_bind ?_
   rw [hashByValue_scannable 8 hsc]
   refine wpAny_pure ?_
   refine K7 ?_ ho hex hd g1 pk nd1 (by rw [List.length_cons]; exact hfew) ?_ ?_ ?_ ?_
   ·intro b s₁ Q' q; cases b <;> first | exact wpAny_pure q | exact wpAny_rule q
   ·first | (split <;> first | exact hf1 | exact SetTable.fits_plain_off hf1) | exact hf1
   ·first | (split <;> exact hr1) | exact hr1
   ·first | (split <;> exact hled) | exact hled
   ·intro h' ys es' ep' t' sb r p; dsimp only; exact wpAny_pure (fin h' ys es' ep' t' sb r p)
  ·refine wpAny_bind (wpAny_pure ?_)
   simp only [↓reduceIte]
   refine K7 ?_ ho hex hd g1 pk nd1 (by rw [List.length_cons]; exact hfew) hf1 hr1 hled ?_
   ·intro b s₁ Q' q; cases b <;> first | exact wpAny_pure q | exact wpAny_rule q
   ·intro h' ys es' ep' t' sb r p; dsimp only; exact wpAny_pure (fin h' ys es' ep' t' sb r p)
theorem kW.new {h : Heap} {a : Addr} (ho : h.get? a = some { cls := .type "set", dict := none, data := .set #[] 0 (.fresh 0 0 (!w.params.followText "set-order")) }) : kW w h a [] #[] 0 (.fresh 0 0 (!w.params.followText "set-order")) where
 ob := ⟨_, ho, ⟨rfl, rfl, rfl⟩, rfl⟩
 good := fun e he => by simp at he
 key := by simp
 nd := List.nodup_nil
 fits := by rfl
 ris := List.Pairwise.nil
 led := by
  show _ ∨ (!w.params.followText "set-order") = true
  cases w.params.followText "set-order"
  ·exact .inr rfl
  ·exact .inl rfl
 few := show 0 < 300 by decide
end
theorem SetT.t0 {w : World} {h : Heap} {a : Addr} {L : List Mem} {es : Array (Int × Value)} {ep : Nat} {t : SetTable} (R : SetT w h a L es ep t) : SetT0 w h a L es ep t := ⟨R.ob, R.rows, R.tab, R.nd, R.led, R.room, R.few⟩
theorem SetT0.full {w : World} {h : Heap} {a : Addr} {L : List Mem} {es : Array (Int × Value)} {ep : Nat} {t : SetTable} (R : SetT0 w h a L es ep t) (k : ∀ p ∈ L, eE h p.2 p.1) : SetT w h a L es ep t := ⟨R.ob, R.rows, R.tab, R.nd, k, R.led, R.room, R.few⟩
section
variable {P : Program} {w : World} {A : Around} {E : Value → Shared → Prop} {s : Shared} {a : Addr} {ms : List pG}
theorem dI.there {h : Heap} (x : dI w a ms h) : ∃ o, h.get? a = some o := by
 rcases x with ⟨L, es, ep, t, R, e⟩ | ⟨xs, es, ep, t, R, ne, e⟩
 ·obtain ⟨o, ho, _⟩ := R.ob; exact ⟨o, ho⟩
 ·obtain ⟨o, ho, _⟩ := R.ob; exact ⟨o, ho⟩
theorem dI.new {h : Heap} {a : Addr} (ho : h.get? a = some { cls := .type "set", dict := none, data := .set #[] 0 (.fresh 0 0 (!w.params.followText "set-order")) }) : dI w a [] h := .inl ⟨[], #[], 0, _, (SetT.new ho).t0, rfl⟩
theorem dI.str_of_nil (h : dI w a [] s.heap) : ∃ es ep t, kW w s.heap a [] es ep t := by
 rcases h with ⟨L, es, ep, t, R, e⟩ | ⟨xs, es, ep, t, R, ne, e⟩
 ·have hL : L = [] := by cases L with
   | nil => rfl
   | cons x L => cases e
  subst hL
  have he : es.toList = [] := R.rows
  have hs : es.size = 0 := by rw [← Array.length_toList, he]; rfl
  have hp : t.place.size = 0 := R.tab.sz
  refine ⟨es, ep, t, R.ob, fun e h => (by rw [he] at h; cases h), by rw [he]; rfl, List.nodup_nil, yZ R.tab.dm (by omega) (by omega), R.tab.ris, R.led, show 0 < 300 by decide⟩
 ·exact absurd (by have := R.key; rw [← this]; cases h2 : es.toList with
   | nil => rfl
   | cons x l => rw [h2] at e; cases e) ne
def Vc (ms : List pG) : Prop := ∀ m ∈ ms, ∃ b, m.1 = Value.ref b
def K8 (ms : List pG) : Prop := ∀ m ∈ ms, ∃ x tk, m.1 = Value.str x tk
theorem dI.addT (h : dI w a ms s.heap) (hm : Vc ms) (hk : ∀ m ∈ ms, NestedIs s.heap m.2 m.1 ∧ m.2.depth ≤ 8) {x : Addr} {k : NestedKey} (hx : eE s.heap k x) (hu : A.units + 8 < cLine) (hfew : ms.length + 1 < 300) {Q : Bool → Shared → Prop}
  (hQ : ∀ b h' ms', Heap.SameBut a s.heap h' → dI w a ms' h' → (k ∈ ms.map (·.2) → ms' = ms) → (k ∉ ms.map (·.2) → ms'.Perm ((.ref x, k) :: ms)) → Q b { s with heap := h' }) :
  wpAny (model P w) A (setAddHashed a (.ref x) (k.hash w)) Q E s := by
 rcases h with ⟨L, es, ep, t, R, rfl⟩ | ⟨xs, es, ep, t, R, ne, rfl⟩
 ·have R' := R.full fun p hp => by
   have := hk (.ref p.1, p.2) (List.mem_map.mpr ⟨p, hp, rfl⟩)
   exact this
  rw [List.length_map] at hfew
  refine R'.add hx hu hfew fun b h' L' es' ep' t' sb R2 c1 c2 => hQ b h' _ sb (.inl ⟨L', es', ep', t', R2.t0, rfl⟩) (fun z => ?_) fun z => ?_
  ·rw [List.map_map] at z
   rw [c1 z]
  ·rw [List.map_map] at z
   exact (c2 z).map fun p => (Value.ref p.1, p.2)
 ·exfalso
  cases he : es.toList with
  | nil => exact ne (by rw [← R.key, he]; rfl)
  | cons e l =>
   obtain ⟨x, tk, h1, _⟩ := R.good e (by rw [he]; exact List.mem_cons_self)
   obtain ⟨b, h2⟩ := hm (e.2, NestedKey.text (txOf e)) (by rw [he]; exact List.mem_cons_self)
   rw [h1] at h2
   cases h2
theorem dI.addS (h : dI w a ms s.heap) (hm : K8 ms) {x : Str} {tk : Tok} (hfew : ms.length + 1 < 300) {Q : Bool → Shared → Prop}
  (hQ : ∀ b h' ms', Heap.SameBut a s.heap h' → dI w a ms' h' → (NestedKey.text x ∈ ms.map (·.2) → ms'.map (·.2) = ms.map (·.2)) → (NestedKey.text x ∉ ms.map (·.2) → (ms'.map (·.2)).Perm (.text x :: ms.map (·.2))) → K8 ms' → (∀ m ∈ ms', ∃ y tk, m = (.str y tk, .text y)) → Q b { s with heap := h' }) :
  wpAny (model P w) A (setAddHashed a (.str x tk) (hashStr w x)) Q E s := by
 have key : ∀ {xs es ep t}, kW w s.heap a xs es ep t → ms = es.toList.map (fun e => (e.2, NestedKey.text (txOf e))) → wpAny (model P w) A (setAddHashed a (.str x tk) (hashStr w x)) Q E s := fun {xs es ep t} R e => by
  have mk : ∀ {es : Array (Int × Value)} {xs}, es.toList.map txOf = xs → (es.toList.map fun e => (e.2, NestedKey.text (txOf e))).map (·.2) = xs.map NestedKey.text := fun {es xs} h => by rw [← h, List.map_map, List.map_map]; rfl
  have mi : ∀ {xs : List Str} {y : Str}, NestedKey.text y ∈ xs.map NestedKey.text ↔ y ∈ xs := fun {xs y} => by
   rw [List.mem_map]
   exact ⟨fun ⟨z, hz, e⟩ => by injection e with e; rw [← e]; exact hz, fun h => ⟨y, h, rfl⟩⟩
  have hl : xs.length + 1 < 300 := by
   rw [e, List.length_map] at hfew
   rw [← R.key, List.length_map]
   exact hfew
  refine R.add (tk := tk) hl fun b h' ys es' ep' t' sb R2 c1 c2 => ?_
  have gd : ∀ m ∈ es'.toList.map (fun e => (e.2, NestedKey.text (txOf e))), ∃ y tk, m = (Value.str y tk, NestedKey.text y) := fun m hm2 => by
   obtain ⟨e, he, rfl⟩ := List.mem_map.mp hm2
   obtain ⟨y, tk', h1, _⟩ := R2.good e he
   exact ⟨y, tk', by rw [show txOf e = y by unfold txOf; rw [h1], h1]⟩
  have hne : ys ≠ [] := fun z => by
   by_cases hin : x ∈ xs
   ·rw [c1 hin] at z; rw [z] at hin; cases hin
   ·have := (c2 hin).length_eq; rw [z] at this; cases this
  refine hQ b h' _ sb (.inr ⟨ys, es', ep', t', R2, hne, rfl⟩) (fun z => ?_) (fun z => ?_) (fun m hm2 => ?_) gd
  ·rw [e, mk R.key, mi] at z
   rw [e, mk R.key, mk R2.key, c1 z]
  ·rw [e, mk R.key, mi] at z
   rw [e, mk R.key, mk R2.key]
   exact (c2 z).map NestedKey.text
  ·obtain ⟨y, tk', rfl⟩ := gd m hm2
   exact ⟨y, tk', rfl⟩
 rcases h with ⟨L, es, ep, t, R, e⟩ | ⟨xs, es, ep, t, R, ne, e⟩
 ·cases L with
  | nil =>
   have he : es.toList = [] := R.rows
   obtain ⟨es2, ep2, t2, R2⟩ := dI.str_of_nil (s := s) (w := w) (a := a) (.inl ⟨[], es, ep, t, R, rfl⟩)
   exact key R2 (by rw [e]; have := R2.key; cases h2 : es2.toList with
    | nil => rfl
    | cons x l => rw [h2] at this; cases this)
  | cons p L =>
   obtain ⟨y, tk', h1⟩ := hm (Value.ref p.1, p.2) (by rw [e]; exact List.mem_cons_self)
   cases h1
 ·exact key R e
end
end DN
end
section
namespace DN
open PySem
end DN
end
section
namespace DN
open PySem L2
namespace M
def stuck {α : Type} : M α := fun _ => none
end M
abbrev relB (_ : Hp) (_ : Nat → Addr) (_ : Nat) (b : Bool) (c : Bool) : Prop := b = c
abbrev K9 (_ : Hp) (_ : Nat → Addr) (_ : Nat) (_ : Unit) (_ : Unit) : Prop := True
def fZ (g : G) (F : Hp) (ρ : Nat → Addr) (n : Nat) : List V → List D → Prop := Paired fun v d => IsD g F ρ n v d
def tE (g : G) (W : WX) (f : aA → M D) : TE := fun σ H Q => Sat g (bT g) W [] f σ H Q
def tT (g : G) (W : WX) (f : aA → M Bool) : TT := fun σ H Q => Sat g relB W [] f σ H Q
def tA (g : G) (W : WX) (f : aA → M (List D)) : TA := fun σ H Q => Sat g (fZ g) W [] f σ H Q
theorem Sat.bind {α β γ δ : Type} {g : G} {ra : Hp → (Nat → Addr) → Nat → γ → α → Prop} {rb : Hp → (Nat → Addr) → Nat → δ → β → Prop} {W : WX} {ctx : List (V × D)} {fa : aA → M α} {k : aA → α → M β} {σ : St} {H : Hp} {Q : δ → Hp → Prop}
  (h : Sat g rb W ctx (fun τ => fa τ >>= k τ) σ H Q) :
  Sat g ra W [] fa σ H fun x H1 => ∃ F ρ τ L d, R g F ρ L H1 ∧ Sl g F ρ L.length σ τ ∧ (∀ y ∈ ctx, IsD g F ρ L.length y.1 y.2) ∧ ra F ρ L.length x d ∧ Post g rb F ρ L.length (fun c d H' => W c d σ H') Q (k τ d L) := by
 obtain ⟨F, ρ, τ, L, hR, hS, hc, hp⟩ := h
 refine ⟨F, ρ, τ, L, hR, hS, (fun y hy => by cases hy), ?_⟩
 have hp' : Post g rb F ρ L.length (fun c d H' => W c d σ H') Q (match fa τ L with | none => none | some (.ok a, L1) => k τ a L1 | some (.ex c fs, L1) => some (.ex c fs, L1)) := hp
 match e : fa τ L with
 | none =>
  rw [e] at hp'
  exact hp'
 | some (.ex c fs, L1) =>
  rw [e] at hp'
  exact hp'
 | some (.ok d, L1) =>
  rw [e] at hp'
  intro F1 ρ1 x H1 he hR1 hx
  exact ⟨F1, ρ1, τ, L1, d, hR1, hS.ext he, fun y hy => (hc y hy).ext he, hx, hp'.ext he⟩
theorem Sat.bindV {β δ : Type} {g : G} {rb : Hp → (Nat → Addr) → Nat → δ → β → Prop} {W : WX} {ctx : List (V × D)} {fa : aA → M D} {k : aA → D → M β} {σ : St} {H : Hp} {Q : δ → Hp → Prop}
  (h : Sat g rb W ctx (fun τ => fa τ >>= k τ) σ H Q) :
  tE g W fa σ H fun x H1 => ∃ d, Sat g rb W ((x, d) :: ctx) (fun τ => k τ d) σ H1 Q := by
 obtain ⟨F, ρ, τ, L, hR, hS, hc, hp⟩ := Sat.bind (ra := bT g) h
 refine ⟨F, ρ, τ, L, hR, hS, hc, ?_⟩
 match e : fa τ L with
 | none =>
  rw [e] at hp
  exact hp
 | some (.ex c fs, L1) =>
  rw [e] at hp
  exact hp
 | some (.ok d, L1) =>
  rw [e] at hp
  intro F1 ρ1 x H1 he hR1 hx
  obtain ⟨F2, ρ2, τ2, L2, d2, a1, a2, a3, a4, a5⟩ := hp F1 ρ1 x H1 he hR1 hx
  refine ⟨d2, F2, ρ2, τ2, L2, a1, a2, fun y hy => ?_, a5⟩
  rcases List.mem_cons.mp hy with z | z
  ·rw [z]; exact a4
  ·exact a3 y z
theorem Post.mono {α β : Type} {g : G} {rel : Hp → (Nat → Addr) → Nat → β → α → Prop} {F : Hp} {ρ : Nat → Addr} {n : Nat} {W : Value → Option Addr → Hp → Prop} {Q Q' : β → Hp → Prop} {o : Option (Res α × List MO)}
  (h : Post g rel F ρ n W Q o) (w : ∀ b H, Q b H → Q' b H) : Post g rel F ρ n W Q' o := by
 match o, h with
 | some (.ok d, L), h => exact fun F' ρ' b H' a1 a2 a3 => w _ _ (h F' ρ' b H' a1 a2 a3)
 | some (.ex c fs, L), h => exact h
theorem Sat.mono {α β : Type} {g : G} {rel : Hp → (Nat → Addr) → Nat → β → α → Prop} {W : WX} {ctx : List (V × D)} {f : aA → M α} {σ : St} {H : Hp} {Q Q' : β → Hp → Prop}
  (h : Sat g rel W ctx f σ H Q) (w : ∀ b H, Q b H → Q' b H) : Sat g rel W ctx f σ H Q' := by
 obtain ⟨F, ρ, τ, L, hR, hS, hc, hp⟩ := h
 exact ⟨F, ρ, τ, L, hR, hS, hc, hp.mono w⟩
theorem PE.weak {X : Cx} {e : Expr} {t t' : TE} (h : PE X e t) (w : ∀ σ H Q, t' σ H Q → t σ H Q) : PE X e t' := ⟨fun pins s σ H Q I q => h.run pins s σ H Q I (w σ H Q q)⟩
theorem PT.weak {X : Cx} {e : Expr} {t t' : TT} (h : PT X e t) (w : ∀ σ H Q, t' σ H Q → t σ H Q) : PT X e t' := ⟨fun pins s σ H Q I q => h.run pins s σ H Q I (w σ H Q q)⟩
theorem PA.weak {X : Cx} {e : List Expr} {t t' : TA} (h : PA X e t) (w : ∀ σ H Q, t' σ H Q → t σ H Q) : PA X e t' := ⟨fun pos pins s σ H Q I q => h.run pos pins s σ H Q I (w σ H Q q)⟩
theorem PS.weak {X : Cx} {e : Stmt} {t t' : TS} (h : PS X e t) (w : ∀ D σ H, t' D σ H → t D σ H) : PS X e t' := ⟨fun pins s σ H D I q => h.run pins s σ H D I (w D σ H q)⟩
theorem PSs.weak {X : Cx} {e : List Stmt} {t t' : TS} (h : PSs X e t) (w : ∀ D σ H, t' D σ H → t D σ H) : PSs X e t' := ⟨fun pins s σ H D I q => h.run pins s σ H D I (w D σ H q)⟩
section
variable {X : Cx} {g : G} {W : WX}
def aC (i : Nat) (τ : aA) : M D := fun L => match τ[i]? with
 | some (some d) => some (.ok d, L)
 | _ => none
def aG (d : D) (_ : aA) : M D := pure d
theorem aQ {i j pos} : PE X (.Constant (.int i) j pos) (tE g W (aG (.v (.int i)))) :=
 PE.weak pe_int fun σ H Q h => Sat.ret h (fun _ _ => rfl) fun _ _ _ _ => Is.int i
theorem eZ {b j pos} : PE X (.Constant (.bool b) j pos) (tE g W (aG (.v (.bl b)))) :=
 PE.weak pe_bl fun σ H Q h => Sat.ret h (fun _ _ => rfl) fun _ _ _ _ => Is.bl b
theorem fO {x j pos} : PE X (.Constant (.str x) j pos) (tE g W (aG (.v (.str x)))) :=
 PE.weak pe_str fun σ H Q h => Sat.ret h (fun _ _ => rfl) fun _ _ _ _ => Is.str x
theorem Vd {i : Nat} {x : Str} {pos : Pos} (hN : X.N[i]? = some x) (hv : Vis X.env.scope x) (hd : (x == ("__debug__" : Str)) = false := by decide) (hcd : (x == ("__classdict__" : Str)) = false := by decide) : PE X (.Name x pos) (tE g W (aC i)) := by
 refine PE.weak (pe_var hN hv hd hcd) fun σ H Q h => ?_
 obtain ⟨F, ρ, τ, L, hR, hS, hc, hp⟩ := h
 unfold aC at hp
 match e : τ[i]? with
 | none =>
  rw [e] at hp
  exact hp.elim
 | some none =>
  rw [e] at hp
  exact hp.elim
 | some (some d) =>
  rw [e] at hp
  obtain ⟨v, e1, e2⟩ := hS.2 i d e
  exact ⟨v, e1, hp F ρ v H Ext.refl hR e2⟩
def bin (op : D → D → M D) (fa fb : aA → M D) (τ : aA) : M D := do
 let x ← fa τ
 let y ← fb τ
 op x y
def cU (g : G) (op : D → D → M D) (r : R2) : Prop := ∀ (F : Hp) (ρ : Nat → Addr) (L : List MO) (H : Hp) (x y : V) (d e : D) (W : Value → Option Addr → Hp → Prop) (Q : VK),
 R g F ρ L H → IsD g F ρ L.length x d → IsD g F ρ L.length y e → Post g (bT g) F ρ L.length W Q (op d e L) → r x y H Q
theorem rC {op : Operator} {r : R2} {od : D → D → M D} {a b : Expr} {fa fb : aA → M D} {pos : Pos} (ho : OpR X (binaryOp op) r) (hd : cU g od r) (ha : PE X a (tE g W fa)) (hb : PE X b (tE g W fb)) :
  PE X (.BinOp a op b pos) (tE g W (bin od fa fb)) := by
 refine PE.weak (pe_op ho ha hb) fun σ H Q h => ?_
 refine (Sat.bindV h).mono fun x H1 h1 => ?_
 obtain ⟨d, h1⟩ := h1
 refine (Sat.bindV h1).mono fun y H2 h2 => ?_
 obtain ⟨e, F, ρ, τ, L, hR, hS, hc, hp⟩ := h2
 exact hd F ρ L H2 x y d e _ Q hR (hc (x, d) (by simp)) (hc (y, e) (by simp)) hp
end
end DN
end
section
namespace DN
open PySem L2
section
variable {g : G} {F : Hp} {ρ : Nat → Addr} {n : Nat} {L : List MO} {H : Hp} {a p : Addr} {m : MO} {o : HO}
theorem rD {α β : Type} {A : α → β → Prop} : ∀ {xs : List α} {ys : List β}, Paired A xs ys → xs.length = ys.length
 | _, _, .nil => rfl
 | _, _, .cons _ t => congrArg (· + 1) (rD t)
theorem R.fnone (h : R g F ρ L H) (hp : H p = none) : F p = none := by
 cases e : F p with
 | none => rfl
 | some q =>
  have := h.sub p q e
  rw [hp] at this
  cases this
def gA (ρ : Nat → Addr) (n : Nat) (p : Addr) : Nat → Addr := fun i => if i = n then p else ρ i
theorem mV {q : Addr} : gA ρ n q n = q := if_pos rfl
theorem pK {q : Addr} {i : Nat} (h : i < n) : gA ρ n q i = ρ i := if_neg (Nat.ne_of_lt h)
theorem Ext.new {q : Addr} : Ext F ρ n F (gA ρ n q) (n + 1) := ⟨Sub.refl _, fun i h => pK h, Nat.le_succ _⟩
theorem R.new (h : R g F ρ L H) (hp : H p = none) (o : HO) (m : MO) (hm : gK g F (gA ρ L.length p) (L.length + 1) (upd H p o) p m) : R g F (gA ρ L.length p) (L ++ [m]) (upd H p o) where
 sub := fun a q e => by
  have nb : a ≠ p := fun z => by
   have := h.sub a q e
   rw [z, hp] at this
   cases this
  rw [upd_ne nb]
  exact h.sub a q e
 ent := fun i m' e nd => by
  rw [List.length_append, List.length_singleton]
  by_cases hi : i < L.length
  ·rw [List.getElem?_append_left hi] at e
   obtain ⟨q, hq⟩ := h.live e nd
   have ne : ρ i ≠ p := fun z => by rw [z, hp] at hq; cases hq
   obtain ⟨h1, h2⟩ := h.ent i m' e nd
   rw [pK hi]
   exact ⟨h1, (h2.congr (upd_ne ne)).ext Ext.new⟩
  ·have hi' : i = L.length := by
    have := (List.getElem?_eq_some_iff.mp e).1
    rw [List.length_append, List.length_singleton] at this
    omega
   subst hi'
   rw [List.getElem?_append_right (Nat.le_refl _), Nat.sub_self] at e
   cases e
   rw [mV]
   exact ⟨h.fnone hp, hm⟩
 inj := by
  have key : ∀ (i : Nat) (m' : MO), (L ++ [m])[i]? = some m' → m' ≠ .dead → (i < L.length ∧ L[i]? = some m' ∧ gA ρ L.length p i = ρ i ∧ ρ i ≠ p) ∨ (i = L.length ∧ gA ρ L.length p i = p) := fun i m' e nd => by
   by_cases hi : i < L.length
   ·rw [List.getElem?_append_left hi] at e
    obtain ⟨q, hq⟩ := h.live e nd
    exact .inl ⟨hi, e, pK hi, fun z => by rw [z, hp] at hq; cases hq⟩
   ·have := (List.getElem?_eq_some_iff.mp e).1
    rw [List.length_append, List.length_singleton] at this
    have e2 : i = L.length := by omega
    exact .inr ⟨e2, by rw [e2]; exact mV⟩
  intro i j m1 m2 e1 e2 n1 n2 er
  rcases key i m1 e1 n1 with ⟨a1, a2, a3, a4⟩ | ⟨a1, a2⟩
  ·rcases key j m2 e2 n2 with ⟨b1, b2, b3, b4⟩ | ⟨b1, b2⟩
   ·rw [a3, b3] at er
    exact h.inj i j m1 m2 a2 b2 n1 n2 er
   ·rw [a3, b2] at er
    exact absurd er a4
  ·rcases key j m2 e2 n2 with ⟨b1, b2, b3, b4⟩ | ⟨b1, b2⟩
   ·rw [a2, b3] at er
    exact absurd er.symm b4
   ·rw [a1, b1]
theorem R.put (h : R g F ρ L H) {i : Nat} {m0 : MO} (e0 : L[i]? = some m0) (n0 : m0 ≠ .dead) (o : HO) (m : MO) (hm : gK g F ρ L.length (upd H (ρ i) o) (ρ i) m) : R g F ρ (L.set i m) (upd H (ρ i) o) where
 sub := fun a q e => by
  have nb : a ≠ ρ i := fun z => by
   have := (h.ent i m0 e0 n0).1
   rw [z, this] at e
   cases e
  rw [upd_ne nb]
  exact h.sub a q e
 ent := fun j m' e nd => by
  rw [List.length_set]
  by_cases hj : i = j
  ·subst hj
   have hl : i < L.length := (List.getElem?_eq_some_iff.mp e0).1
   rw [List.getElem?_set_self hl] at e
   cases e
   exact ⟨(h.ent i m0 e0 n0).1, hm⟩
  ·rw [List.getElem?_set_ne hj] at e
   obtain ⟨h1, h2⟩ := h.ent j m' e nd
   exact ⟨h1, h2.congr (upd_ne fun z => hj (h.inj i j m0 m' e0 e n0 nd z.symm))⟩
 inj := by
  have key : ∀ (j : Nat) (m' : MO), (L.set i m)[j]? = some m' → m' ≠ .dead → ∃ m2, L[j]? = some m2 ∧ m2 ≠ .dead := fun j m' e nd => by
   by_cases hj : i = j
   ·subst hj
    exact ⟨m0, e0, n0⟩
   ·rw [List.getElem?_set_ne hj] at e
    exact ⟨m', e, nd⟩
  intro j k m1 m2 e1 e2 n1 n2 er
  obtain ⟨x1, q1, r1⟩ := key j m1 e1 n1
  obtain ⟨x2, q2, r2⟩ := key k m2 e2 n2
  exact h.inj j k x1 x2 q1 q2 r1 r2 er
theorem R.kill (h : R g F ρ L H) (i : Nat) : R g F ρ (L.set i .dead) H where
 sub := h.sub
 ent := fun j m' e nd => by
  rw [List.length_set]
  by_cases hj : i = j
  ·subst hj
   have hl : i < L.length := by
    have := (List.getElem?_eq_some_iff.mp e).1
    rwa [List.length_set] at this
   rw [List.getElem?_set_self hl] at e
   cases e
   exact absurd rfl nd
  ·rw [List.getElem?_set_ne hj] at e
   exact h.ent j m' e nd
 inj := by
  have key : ∀ (j : Nat) (m' : MO), (L.set i .dead)[j]? = some m' → m' ≠ .dead → L[j]? = some m' := fun j m' e nd => by
   by_cases hj : i = j
   ·subst hj
    have hl : i < L.length := by
     have := (List.getElem?_eq_some_iff.mp e).1
     rwa [List.length_set] at this
    rw [List.getElem?_set_self hl] at e
    cases e
    exact absurd rfl nd
   ·rwa [List.getElem?_set_ne hj] at e
  exact fun j k m1 m2 e1 e2 n1 n2 er => h.inj j k m1 m2 (key j m1 e1 n1) (key k m2 e2 n2) n1 n2 er
theorem R.freeze (h : R g F ρ L H) {i : Nat} {m0 : MO} (e0 : L[i]? = some m0) (n0 : m0 ≠ .dead) {o : HO} (ho : H (ρ i) = some o) : R g (upd F (ρ i) o) ρ (L.set i .dead) H := by
 have h' := h.kill i
 have f0 := (h.ent i m0 e0 n0).1
 have sb : Sub F (upd F (ρ i) o) := fun b q eb => by
  have nb : b ≠ ρ i := fun z => by rw [z, f0] at eb; cases eb
  rw [upd_ne nb]
  exact eb
 refine ⟨fun a q e => ?_, fun j m' e nd => ?_, h'.inj⟩
 ·by_cases z : a = ρ i
  ·subst z
   rw [upd_same] at e
   rw [ho]
   exact e
  ·rw [upd_ne z] at e
   exact h.sub a q e
 ·obtain ⟨h1, h2⟩ := h'.ent j m' e nd
  have hj : i ≠ j := fun z => by
   subst z
   have hl : i < L.length := (List.getElem?_eq_some_iff.mp e0).1
   rw [List.getElem?_set_self hl] at e
   cases e
   exact nd rfl
  rw [List.getElem?_set_ne hj] at e
  have nr : ρ j ≠ ρ i := fun z => hj (h.inj i j m0 m' e0 e n0 nd z.symm)
  exact ⟨by rw [upd_ne nr]; exact h1, h2.ext ⟨sb, fun _ _ => rfl, Nat.le_refl _⟩⟩
end
def cI (L : List MO) : D → Option (List P)
 | .v (.lst xs) => some xs
 | .r n => match L[n]? with
  | some (.lst xs) => some xs
  | _ => none
 | _ => none
def cR (L : List MO) : D → Option (List P)
 | .v (.scr ns) => some (ns.map P.int)
 | d => cI L d
theorem Is.inv_lst {g : G} {F : Hp} {v : V} {xs : List P} (h : Is g F v (.lst xs)) : ∃ a vs, v = .ref a ∧ F a = some (.lst vs) ∧ aP g F vs xs := by
 cases h with
 | lst h1 h2 => exact ⟨_, _, rfl, h1, h2⟩
theorem Is.inv_tup {g : G} {F : Hp} {v : V} {xs : List P} (h : Is g F v (.tup xs)) : ∃ a vs, v = .ref a ∧ SqT g.K F a vs ∧ aP g F vs xs := by
 cases h with
 | tup h1 h2 => exact ⟨_, _, rfl, h1, h2⟩
theorem Is.inv_int {g : G} {F : Hp} {v : V} {i : Int} (h : Is g F v (.int i)) : v = .int i := by cases h; rfl
theorem Is.inv_str {g : G} {F : Hp} {v : V} {i : Str} (h : Is g F v (.str i)) : v = .str i := by cases h; rfl
theorem Is.inv_bl {g : G} {F : Hp} {v : V} {i : Bool} (h : Is g F v (.bl i)) : v = .bl i := by cases h; rfl
theorem Is.inv_non {g : G} {F : Hp} {v : V} (h : Is g F v .non) : v = .non := by cases h; rfl
section
variable {g : G} {F : Hp} {ρ : Nat → Addr} {L : List MO} {H : Hp} {x y : V} {d e : D} {W : Value → Option Addr → Hp → Prop} {Q : VK}
theorem vW (hR : R g F ρ L H) (hx : IsD g F ρ L.length x d) {xs : List P} (h : cI L d = some xs) : ∃ a vs, x = .ref a ∧ H a = some (.lst vs) ∧ aP g F vs xs := by
 match d, h, hx with
 | .v (.lst ys), h, hx =>
  cases h
  obtain ⟨a, vs, e, h1, h2⟩ := Is.inv_lst hx
  exact ⟨a, vs, e, hR.sub _ _ h1, h2⟩
 | .r n, h, hx =>
  unfold cI at h
  dsimp only at h
  match e : L[n]?, h with
  | some (.lst ys), h =>
   cases h
   obtain ⟨h1, vs, h2, h3⟩ := hR.ent n _ e (by intro z; cases z)
   exact ⟨ρ n, vs, hx.2, h2, h3⟩
theorem Ef (g : G) (F : Hp) : ∀ ns : List Int, aP g F (ns.map V.int) (ns.map P.int)
 | [] => .nil
 | n :: ns => .cons (.int n) (Ef g F ns)
theorem rE (hR : R g F ρ L H) (hx : IsD g F ρ L.length x d) {xs : List P} (h : cR L d = some xs) : ∃ a vs, x = .ref a ∧ SqL g.K H a vs ∧ aP g F vs xs := by
 have key : cI L d = some xs → ∃ a vs, x = .ref a ∧ SqL g.K H a vs ∧ aP g F vs xs := fun h => by
  obtain ⟨a, vs, e, h1, h2⟩ := vW hR hx h
  exact ⟨a, vs, e, SqL.of h1, h2⟩
 match d, h, hx, key with
 | .v (.scr ns), h, hx, _ =>
  cases h
  cases hx with
  | scr h1 => exact ⟨_, _, rfl, hR.sub.sqL h1, Ef g F ns⟩
 | .v .non, h, _, key => exact key h
 | .v (.bl _), h, _, key => exact key h
 | .v (.int _), h, _, key => exact key h
 | .v (.str _), h, _, key => exact key h
 | .v (.tup _), h, _, key => exact key h
 | .v (.lst _), h, _, key => exact key h
 | .v (.ins _ _), h, _, key => exact key h
 | .v (.dk _), h, _, key => exact key h
 | .v (.dn _), h, _, key => exact key h
 | .v (.set _), h, _, key => exact key h
 | .v (.exn _ _), h, _, key => exact key h
 | .r n, h, _, key => exact key h
theorem Post.val {p : P} {v : V} (hR : R g F ρ L H) (h : Post g (bT g) F ρ L.length W Q (some (.ok (.v p), L))) (hv : Is g F v p) : Q v H := h F ρ v H Ext.refl hR hv
theorem Post.newL {ps : List P} {vs : List V} (hR : R g F ρ L H) (h : Post g (bT g) F ρ L.length W Q (some (.ok (.r L.length), L ++ [.lst ps]))) (hv : aP g F vs ps) {p : Addr} (hp : H p = none) : Q (.ref p) (upd H p (.lst vs)) := by
 have e1 : (L ++ [MO.lst ps]).length = L.length + 1 := by rw [List.length_append, List.length_singleton]
 refine h F (gA ρ L.length p) (.ref p) _ (by rw [e1]; exact Ext.new) (hR.new hp _ _ ⟨vs, upd_same, hv⟩) ?_
 exact ⟨by rw [e1]; exact Nat.lt_succ_self _, by rw [mV]⟩
end
def bY : D → D → M D := fun x y L => match x, y with
 | .v (.int a), .v (.int b) => some (.ok (.v (.int (a + b))), L)
 | .v (.str a), .v (.str b) => if a.length + b.length ≤ sizeLine then some (.ok (.v (.str (a ++ b))), L) else none
 | .v (.tup a), .v (.tup b) => if a.length + b.length ≤ sizeLine then some (.ok (.v (.tup (a ++ b))), L) else none
 | x, y => match cI L x, cI L y with
  | some a, some b => if a.length + b.length ≤ sizeLine then some (.ok (.v (.lst (a ++ b))), L) else none
  | _, _ => none
def intOp (C : Int → Int → Bool) (f : Int → Int → Int) : D → D → M D := fun x y L => match x, y with
 | .v (.int a), .v (.int b) => if C a b = true then some (.ok (.v (.int (f a b))), L) else none
 | _, _ => none
theorem vX {C : Int → Int → Prop} {Cb : Int → Int → Bool} {f : Int → Int → Int} {g : G} (hC : ∀ a b, Cb a b = true → C a b) : cU g (intOp Cb f) (rI C fun i j => .int (f i j)) := by
 intro F ρ L H x y d e W Q hR hx hy hp
 unfold intOp at hp
 match d, e, hx, hy, hp with
 | .v (.int a), .v (.int b), hx, hy, hp =>
  dsimp only at hp
  by_cases hc : Cb a b = true
  ·rw [if_pos hc] at hp
   exact ⟨a, b, Is.inv_int hx, Is.inv_int hy, hC _ _ hc, hp.val hR (.int _)⟩
  ·rw [if_neg hc] at hp
   exact hp.elim
def pN : D → D → M D := intOp (fun _ _ => true) fun a b => a - b
def iK (a b : Int) : Bool := (decide (-(2 ^ 64) < a) && decide (a < 2 ^ 64)) || (decide (-(2 ^ 64) < b) && decide (b < 2 ^ 64))
def gD : D → D → M D := intOp iK fun a b => a * b
def fB : D → D → M D := intOp (fun _ b => decide (0 < b)) fun a b => a % b
def mW : D → D → M D := intOp (fun a b => decide (0 ≤ b) && decide (b ≤ 1000000) && decide (a.natAbs < 2 ^ 64)) fun a b => a ^ b.toNat
theorem Ve {g : G} : cU g pN (rI (fun _ _ => True) fun i j => .int (i - j)) := vX fun _ _ _ => trivial
theorem Vf {g : G} : cU g gD (rI CMul fun i j => .int (i * j)) := vX fun a b h => by
 unfold iK at h
 unfold CMul
 simpa using h
theorem Vg {g : G} : cU g fB (rI (fun _ j => 0 < j) fun i j => .int (i % j)) := vX fun a b h => by simpa using h
theorem Vh {g : G} : cU g mW (rI CPow fun i j => .int (i ^ j.toNat)) := vX fun a b h => by
 unfold CPow
 simpa [and_assoc] using h
section
variable {X : Cx} {g : G} {W : WX} {a b : Expr} {fa fb : aA → M D} {pos : Pos}
theorem Vi : OpR X (binaryOp .Sub) (rI (fun _ _ => True) fun i j => .int (i - j)) := fun pins s σ H x y v u Q I r1 r2 ⟨i, j, e1, e2, _, q⟩ => op_sub pins s σ H x y v u Q I r1 r2 ⟨i, j, e1, e2, q⟩
theorem Vj (ha : PE X a (tE g W fa)) (hb : PE X b (tE g W fb)) : PE X (.BinOp a .Sub b pos) (tE g W (bin pN fa fb)) := rC Vi Ve ha hb
theorem tU (ha : PE X a (tE g W fa)) (hb : PE X b (tE g W fb)) : PE X (.BinOp a .Mult b pos) (tE g W (bin gD fa fb)) := rC op_mul Vf ha hb
theorem pO (ha : PE X a (tE g W fa)) (hb : PE X b (tE g W fb)) : PE X (.BinOp a .Mod b pos) (tE g W (bin fB fa fb)) := rC op_mod Vg ha hb
theorem Vk (ha : PE X a (tE g W fa)) (hb : PE X b (tE g W fb)) : PE X (.BinOp a .Pow b pos) (tE g W (bin mW fa fb)) := rC op_pow Vh ha hb
end
end DN
end
section
namespace DN
open PySem L2
theorem aP.append {g : G} {F : Hp} : ∀ {vs ws : List V} {ps qs : List P}, aP g F vs ps → aP g F ws qs → aP g F (vs ++ ws) (ps ++ qs)
 | _, _, _, _, .nil, h => h
 | _, _, _, _, .cons h t, h' => .cons h (aP.append t h')
theorem aP.get {g : G} {F : Hp} : ∀ {vs : List V} {ps : List P} {i : Nat} {p : P}, aP g F vs ps → ps[i]? = some p → ∃ v, vs[i]? = some v ∧ Is g F v p
 | _, _, _, _, .nil, e => by simp at e
 | _, _, 0, _, .cons h _, e => by simp at e; subst e; exact ⟨_, rfl, h⟩
 | _, _, i + 1, p, .cons _ t, e => by
  obtain ⟨v, h1, h2⟩ := aP.get (i := i) (p := p) t (by simpa using e)
  exact ⟨v, by simpa using h1, h2⟩
theorem aP.take {g : G} {F : Hp} : ∀ {vs : List V} {ps : List P} (n : Nat), aP g F vs ps → aP g F (vs.take n) (ps.take n)
 | _, _, 0, _ => .nil
 | _, _, _ + 1, .nil => .nil
 | _, _, n + 1, .cons h t => .cons h (aP.take n t)
theorem aP.drop {g : G} {F : Hp} : ∀ {vs : List V} {ps : List P} (n : Nat), aP g F vs ps → aP g F (vs.drop n) (ps.drop n)
 | _, _, 0, h => h
 | _, _, _ + 1, .nil => .nil
 | _, _, n + 1, .cons _ t => aP.drop n t
theorem aP.erase {g : G} {F : Hp} : ∀ {vs : List V} {ps : List P} (n : Nat), aP g F vs ps → aP g F (vs.eraseIdx n) (ps.eraseIdx n)
 | _, _, _, .nil => .nil
 | _, _, 0, .cons _ t => t
 | _, _, n + 1, .cons h t => .cons h (aP.erase n t)
theorem Vl {g : G} {K : PySem.W.Frag} (hK : K = g.K) : cU g bY (fun x y H Q => (∃ i j, x = .int i ∧ y = .int j ∧ Q (.int (i + j)) H) ∨ (∃ i j, x = .str i ∧ y = .str j ∧ i.length + j.length ≤ sizeLine ∧ Q (.str (i ++ j)) H) ∨ rCatA K x y H Q ∨ rCat x y H Q) := by
 subst hK
 intro F ρ L H x y d e W Q hR hx hy hp
 have lists : (match cI L d, cI L e with
   | some a, some b => if a.length + b.length ≤ sizeLine then (some (Res.ok (D.v (.lst (a ++ b))), L) : Option (Res D × List MO)) else none
   | _, _ => none) = bY d e L → rCat x y H Q := fun eq => by
  rw [← eq] at hp
  match e1 : cI L d, e2 : cI L e with
  | some a, some b =>
   rw [e1, e2] at hp
   dsimp only at hp
   by_cases hz : a.length + b.length ≤ sizeLine
   ·rw [if_pos hz] at hp
    obtain ⟨p, vs, r1, h1, i1⟩ := vW hR hx e1
    obtain ⟨q, ws, r2, h2, i2⟩ := vW hR hy e2
    refine ⟨p, q, vs, ws, r1, r2, h1, h2, by rw [i1.len, i2.len]; exact hz, fun n hn => hp.lst hR (i1.append i2) hn⟩
   ·rw [if_neg hz] at hp
    exact hp.elim
  | none, _ =>
   rw [e1] at hp
   exact hp.elim
  | some a, none =>
   rw [e1, e2] at hp
   exact hp.elim
 have hI : ∀ a b : Int, IsD g F ρ L.length x (.v (.int a)) → IsD g F ρ L.length y (.v (.int b)) → Post g (bT g) F ρ L.length W Q (bY (.v (.int a)) (.v (.int b)) L) → ∃ i j, x = .int i ∧ y = .int j ∧ Q (.int (i + j)) H :=
  fun a b hx hy hp => ⟨a, b, Is.inv_int hx, Is.inv_int hy, hp.val hR (.int _)⟩
 have hS : ∀ a b : Str, IsD g F ρ L.length x (.v (.str a)) → IsD g F ρ L.length y (.v (.str b)) → Post g (bT g) F ρ L.length W Q (bY (.v (.str a)) (.v (.str b)) L) → ∃ i j, x = .str i ∧ y = .str j ∧ i.length + j.length ≤ sizeLine ∧ Q (.str (i ++ j)) H := fun a b hx hy hp => by
  unfold bY at hp
  dsimp only at hp
  by_cases hz : a.length + b.length ≤ sizeLine
  ·rw [if_pos hz] at hp
   exact ⟨a, b, Is.inv_str hx, Is.inv_str hy, hz, hp.val hR (.str _)⟩
  ·rw [if_neg hz] at hp
   exact False.elim hp
 have hT : ∀ a b : List P, IsD g F ρ L.length x (.v (.tup a)) → IsD g F ρ L.length y (.v (.tup b)) → Post g (bT g) F ρ L.length W Q (bY (.v (.tup a)) (.v (.tup b)) L) → rCatA g.K x y H Q := fun a b hx hy hp => by
  unfold bY at hp
  dsimp only at hp
  by_cases hz : a.length + b.length ≤ sizeLine
  ·rw [if_pos hz] at hp
   obtain ⟨p, vs, rfl, h1, i1⟩ := Is.inv_tup hx
   obtain ⟨q, ws, rfl, h2, i2⟩ := Is.inv_tup hy
   refine ⟨p, q, vs, ws, rfl, rfl, hR.sub.sqT h1, hR.sub.sqT h2, by rw [i1.len, i2.len]; exact hz, fun z => ?_, fun _ z => ?_, fun _ _ n hn => hp.tup hR (i1.append i2) hn⟩
   ·subst z
    cases i1
    exact hp.val hR hy
   ·subst z
    cases i2
    rw [List.append_nil] at hp
    exact hp.val hR hx
  ·rw [if_neg hz] at hp
   exact False.elim hp
 cases d with
 | r n => exact .inr (.inr (.inr (lists rfl)))
 | v p =>
  cases p with
  | int a =>
   cases e with
   | r n => exact False.elim hp
   | v q =>
    cases q with
    | int b => exact .inl (hI a b hx hy hp)
    | _ => exact False.elim hp
  | str a =>
   cases e with
   | r n => exact False.elim hp
   | v q =>
    cases q with
    | str b => exact .inr (.inl (hS a b hx hy hp))
    | _ => exact False.elim hp
  | tup a =>
   cases e with
   | r n => exact False.elim hp
   | v q =>
    cases q with
    | tup b => exact .inr (.inr (.inl (hT a b hx hy hp)))
    | _ => exact False.elim hp
  | _ => exact .inr (.inr (.inr (lists rfl)))
section
variable {X : Cx} {g : G} {W : WX} {a b c : Expr} {fa fb fc : aA → M D} {pos : Pos}
theorem dO (hK : X.K = g.K) (ha : PE X a (tE g W fa)) (hb : PE X b (tE g W fb)) : PE X (.BinOp a .Add b pos) (tE g W (bin bY fa fb)) :=
 rC (op_add.or (op_add_str.or (op_catA.or op_cat))) (Vl hK) ha hb
def tV : D → D → M D := intOp (fun _ b => decide (0 < b) && decide (b < 1073741824)) fun a b => a / b
theorem Vm (ha : PE X a (tE g W fa)) (hb : PE X b (tE g W fb)) : PE X (.BinOp a .FloorDiv b pos) (tE g W (bin tV fa fb)) :=
 rC op_fdiv (vX fun a b h => by unfold CDiv; simpa using h) ha hb
end
mutual
def toD : P → Option PyData
 | .non => some .none
 | .bl b => some (.bool b)
 | .int i => some (.int i)
 | .str x => some (.str x)
 | .tup xs => (lK xs).map .tuple
 | .lst xs => (lK xs).map .list
 | _ => none
def lK : List P → Option (List PyData)
 | [] => some []
 | x :: xs => match toD x, lK xs with
  | some d, some ds => some (d :: ds)
  | _, _ => none
end
mutual
theorem La {g : G} {F H : Hp} (s : Sub F H) {v : V} {p : P} (h : Is g F v p) {d : PyData} (e : toD p = some d) : Dp g.K H v d := match h with
 | .non => by simp only [toD, Option.some.injEq] at e; subst e; exact .non
 | .bl b => by simp only [toD, Option.some.injEq] at e; subst e; exact .bl b
 | .int i => by simp only [toD, Option.some.injEq] at e; subst e; exact .int i
 | .str x => by simp only [toD, Option.some.injEq] at e; subst e; exact .str x
 | .tup h1 h2 => by
  simp only [toD, Option.map_eq_some_iff] at e
  obtain ⟨ds, e1, rfl⟩ := e
  exact .tup (s.sqT h1) (zF s h2 e1)
 | .lst h1 h2 => by
  simp only [toD, Option.map_eq_some_iff] at e
  obtain ⟨ds, e1, rfl⟩ := e
  exact .lst (SqL.of (s _ _ h1)) (zF s h2 e1)
 | .scr _ => by simp only [toD] at e; cases e
 | .ins _ _ _ _ => by simp only [toD] at e; cases e
 | .exn _ _ _ => by simp only [toD] at e; cases e
 | .dn _ _ _ _ => by simp only [toD] at e; cases e
 | .exv _ _ _ _ => by simp only [toD] at e; cases e
theorem zF {g : G} {F H : Hp} (s : Sub F H) {vs : List V} {ps : List P} (h : aP g F vs ps) {ds : List PyData} (e : lK ps = some ds) : DpAll g.K H vs ds := match h with
 | .nil => by simp only [lK, Option.some.injEq] at e; subst e; exact .nil
 | .cons (p := p) (ps := ps) h1 h2 => by
  simp only [lK] at e
  match e1 : toD p, e2 : lK ps with
  | some d, some ds' =>
   rw [e1, e2] at e
   cases e
   exact .cons (La s h1 e1) (zF s h2 e2)
  | none, _ => rw [e1] at e; cases e
  | some _, none => rw [e1, e2] at e; cases e
end
def cZ (L : List MO) : D → Option PyData
 | .v p => toD p
 | .r n => match L[n]? with
  | some (.lst xs) => (lK xs).map .list
  | _ => none
theorem kY {g : G} {F H : Hp} {ρ : Nat → Addr} {L : List MO} {x : V} {d : D} (hR : R g F ρ L H) (hx : IsD g F ρ L.length x d) {y : PyData} (h : cZ L d = some y) : Dp g.K H x y := by
 match d, h, hx with
 | .v p, h, hx => exact La hR.sub hx h
 | .r n, h, hx =>
  unfold cZ at h
  dsimp only at h
  match e : L[n]?, h with
  | some (.lst ys), h =>
   simp only [Option.map_eq_some_iff] at h
   obtain ⟨ds, e1, rfl⟩ := h
   obtain ⟨h1, vs, h2, h3⟩ := hR.ent n _ e (by intro z; cases z)
   rw [hx.2]
   exact .lst (SqL.of h2) (zF hR.sub h3 e1)
def fP (d : PyData) : Bool := SeqAt.shaped d
def bK (neg : Bool) : D → D → M D := fun x y L => match cZ L x, cZ L y with
 | some a, some b => if (fP a && fP b) = true then some (.ok (.v (.bl (if neg = true then !PyData.eqv a b else PyData.eqv a b))), L) else none
 | _, _ => none
section
variable {X : Cx} {g : G} {W : WX} {a b c : Expr} {fa fb fc : aA → M D} {pos : Pos}
theorem Vn : cU g (bK false) (rEqD g.K) := by
 intro F ρ L H x y d e W Q hR hx hy hp
 unfold bK at hp
 match e1 : cZ L d, e2 : cZ L e with
 | some p, some q =>
  rw [e1, e2] at hp
  dsimp only at hp
  by_cases hk : (fP p && fP q) = true
  ·rw [if_pos hk] at hp
   rw [Bool.and_eq_true] at hk
   exact ⟨p, q, kY hR hx e1, kY hR hy e2, hk.1, hk.2, hp.val hR (.bl _)⟩
  ·rw [if_neg hk] at hp
   exact hp.elim
 | none, _ => rw [e1] at hp; exact hp.elim
 | some _, none => rw [e1, e2] at hp; exact hp.elim
theorem Vo : cU g (bK true) (rNeD g.K) := by
 intro F ρ L H x y d e W Q hR hx hy hp
 unfold bK at hp
 match e1 : cZ L d, e2 : cZ L e with
 | some p, some q =>
  rw [e1, e2] at hp
  dsimp only at hp
  by_cases hk : (fP p && fP q) = true
  ·rw [if_pos hk] at hp
   rw [Bool.and_eq_true] at hk
   exact ⟨p, q, kY hR hx e1, kY hR hy e2, hk.1, hk.2, hp.val hR (.bl _)⟩
  ·rw [if_neg hk] at hp
   exact hp.elim
 | none, _ => rw [e1] at hp; exact hp.elim
 | some _, none => rw [e1, e2] at hp; exact hp.elim
theorem Ld {K : PySem.W.Frag} (hK : K = g.K) : cU g (bK false) (rEqD K) := by subst hK; exact Vn
theorem Vp {K : PySem.W.Frag} (hK : K = g.K) : cU g (bK true) (rNeD K) := by subst hK; exact Vo
theorem zG {op : CmpOp} {r : R2} {od : D → D → M D} (ho : OpR X (compareOp op) r) (hd : cU g od r) (ha : PE X a (tE g W fa)) (hb : PE X b (tE g W fb)) (hm : behindInMarks op b = false) :
  PE X (.Compare a [op] [b] pos) (tE g W (bin od fa fb)) := by
 refine PE.weak (pe_cmpR ho ha hb hm) fun σ H Q h => ?_
 refine (Sat.bindV h).mono fun x H1 h1 => ?_
 obtain ⟨d, h1⟩ := h1
 refine (Sat.bindV h1).mono fun y H2 h2 => ?_
 obtain ⟨e, F, ρ, τ, L, hR, hS, hc, hp⟩ := h2
 exact hd F ρ L H2 x y d e _ Q hR (hc (x, d) (by simp)) (hc (y, e) (by simp)) hp
theorem mX (hK : X.K = g.K) (hu : X.A.units + 64 < cLine) (ha : PE X a (tE g W fa)) (hb : PE X b (tE g W fb)) : PE X (.Compare a [.Eq] [b] pos) (tE g W (bin (bK false) fa fb)) := zG (op_eqD hu) (Ld hK) ha hb (nomark _)
def dY (f : Int → Int → Bool) : D → D → M D := fun x y L => match x, y with
 | .v (.int a), .v (.int b) => some (.ok (.v (.bl (f a b))), L)
 | _, _ => none
def vY (a : PyData) : Bool := decide (a.depth ≤ 64) && (match a with | .none => false | _ => true)
def iQ : D → D → M D := fun x y L => match x, y with
 | .v (.int a), .v (.int b) => some (.ok (.v (.bl (decide (a < b)))), L)
 | x, y => match cZ L x, cZ L y with
  | some a, some b => if (PySem.W.alike a b && vY a) = true then some (.ok (.v (.bl (PySem.W.dataLt a b))), L) else none
  | _, _ => none
theorem rF {f : Int → Int → Bool} : cU g (dY f) (rI0 fun i j => .bl (f i j)) := by
 intro F ρ L H x y d e W Q hR hx hy hp
 unfold dY at hp
 match d, e, hx, hy, hp with
 | .v (.int p), .v (.int q), hx, hy, hp => exact ⟨p, q, Is.inv_int hx, Is.inv_int hy, hp.val hR (.bl _)⟩
theorem Vq (ha : PE X a (tE g W fa)) (hb : PE X b (tE g W fb)) : PE X (.Compare a [.GtE] [b] pos) (tE g W (bin (dY fun i j => decide (j ≤ i)) fa fb)) := zG op_ge rF ha hb (nomark _)
end
end DN
end
section
namespace DN
open PySem L2
section
variable {g : G} {F : Hp} {ρ : Nat → Addr} {L : List MO} {H : Hp} {x y : V} {d e : D}
theorem Post.bool {b : Bool} {n : Nat} {W : Value → Option Addr → Hp → Prop} {Q : Bool → Hp → Prop} (hR : R g F ρ L H) (h : Post g relB F ρ L.length W Q (some (.ok b, L))) : Q b H := h F ρ b H Ext.refl hR rfl
end
def gM : D → M Bool := fun x L => match x with
 | .v (.bl b) => some (.ok b, L)
 | _ => none
def bB (f : aA → M D) (τ : aA) : M Bool := f τ >>= gM
theorem Vr {g : G} {F : Hp} {ρ : Nat → Addr} {L : List MO} {H : Hp} {x : V} {d : D} {W : Value → Option Addr → Hp → Prop} {Q : Bool → Hp → Prop} (hR : R g F ρ L H) (hx : IsD g F ρ L.length x d) (hp : Post g relB F ρ L.length W Q (gM d L)) : ∃ c, x = .bl c ∧ Q c H := by
 match d, hx, hp with
 | .v (.bl b), hx, hp => exact ⟨b, Is.inv_bl hx, Post.bool (n := 0) hR hp⟩
section
variable {X : Cx} {g : G} {W : WX} {a b c e : Expr} {fa fb fc f : aA → M D} {ta tb : aA → M Bool} {pos : Pos}
theorem Eh {σ : St} {H : Hp} {Q : Bool → Hp → Prop} (h : tT g W (bB f) σ H Q) : tE g W f σ H fun x H1 => ∃ c, x = .bl c ∧ Q c H1 := by
 refine (Sat.bindV h).mono fun x H1 h1 => ?_
 obtain ⟨d, F, ρ, τ, L, hR, hS, hc, hp⟩ := h1
 exact Vr hR (hc (x, d) (by simp)) hp
theorem mY (h : PE X e (tE g W f)) (he : ∀ whole, isTrue e X.env whole = (do let v ← whole; standAt e.pos; holding [v] (truthy v)) := by intro _; rfl) : PT X e (tT g W (bB f)) :=
 PT.weak (pt_val h he) fun σ H Q q => Eh q
theorem vZ {op : CmpOp} {r : R2} {od : D → D → M D} (ho : OpR X (compareOp op) r) (hd : cU g od r) (ha : PE X a (tE g W fa)) (hb : PE X b (tE g W fb)) (hm : behindInMarks op b = false) :
  PT X (.Compare a [op] [b] pos) (tT g W (bB (bin od fa fb))) := by
 refine PT.weak (pt_cmpR ho ha hb hm) fun σ H Q h => ?_
 have h0 := Eh h
 refine (Sat.bindV h0).mono fun x H1 h1 => ?_
 obtain ⟨d, h1⟩ := h1
 refine (Sat.bindV h1).mono fun y H2 h2 => ?_
 obtain ⟨e, F, ρ, τ, L, hR, hS, hc, hp⟩ := h2
 exact hd F ρ L H2 x y d e _ _ hR (hc (x, d) (by simp)) (hc (y, e) (by simp)) hp
theorem lM (hK : X.K = g.K) (hu : X.A.units + 64 < cLine) (ha : PE X a (tE g W fa)) (hb : PE X b (tE g W fb)) : PT X (.Compare a [.Eq] [b] pos) (tT g W (bB (bin (bK false) fa fb))) := vZ (op_eqD hu) (Ld hK) ha hb (nomark _)
theorem oK (hK : X.K = g.K) (hu : X.A.units + 64 < cLine) (ha : PE X a (tE g W fa)) (hb : PE X b (tE g W fb)) : PT X (.Compare a [.NotEq] [b] pos) (tT g W (bB (bin (bK true) fa fb))) := vZ (op_neD hu) (Vp hK) ha hb (nomark _)
theorem Vs (ha : PE X a (tE g W fa)) (hb : PE X b (tE g W fb)) : PT X (.Compare a [.GtE] [b] pos) (tT g W (bB (bin (dY fun i j => decide (j ≤ i)) fa fb))) := vZ op_ge rF ha hb (nomark _)
theorem Le (ha : PE X a (tE g W fa)) (hb : PE X b (tE g W fb)) : PT X (.Compare a [.Gt] [b] pos) (tT g W (bB (bin (dY fun i j => decide (j < i)) fa fb))) := vZ op_gt rF ha hb (nomark _)
def Ei (K : PySem.W.Frag) : R2 := fun x y H Q => ∃ d e, Dp K H x d ∧ Dp K H y e ∧ PySem.W.alike d e = true ∧ vY d = true ∧ Q (.bl (PySem.W.dataLt d e)) H
theorem Lf (hu : X.A.units + 64 < cLine) : OpR X (compareOp .Lt) (Ei X.K) := by
 intro pins s σ H x y v u Q I rx ry h
 obtain ⟨d, e, hd, he, al, ok, q⟩ := h
 obtain ⟨as, r1⟩ := Dp.reads I d x v hd rx
 obtain ⟨bs, r2⟩ := Dp.reads I e y u he ry
 unfold vY at ok
 rw [Bool.and_eq_true] at ok
 have hdep : d.depth ≤ 64 := of_decide_eq_true ok.1
 have hm : min d.depth e.depth ≤ d.depth := Nat.min_le_left _ _
 refine PySem.W.rcLt_alike d e X.A s v u as bs r1 r2 al (fun z => ?_) (by omega) X.prog X.w X.xe _ ⟨.bl _, H, I, rfl, q⟩
 rw [z] at ok
 exact absurd ok.2 (by decide)
theorem Lg {K : PySem.W.Frag} (hK : K = g.K) : cU g iQ (fun x y H Q => rI0 (fun i j => .bl (decide (i < j))) x y H Q ∨ Ei K x y H Q) := by
 subst hK
 intro F ρ L H x y d e W Q hR hx hy hp
 have dat : (match cZ L d, cZ L e with
  | some a, some b => if (PySem.W.alike a b && vY a) = true then (some (Res.ok (D.v (.bl (PySem.W.dataLt a b))), L) : Option (Res D × List MO)) else none
  | _, _ => none) = iQ d e L → Ei g.K x y H Q := fun eq => by
  rw [← eq] at hp
  match e1 : cZ L d, e2 : cZ L e with
  | some p, some q =>
   rw [e1, e2] at hp
   dsimp only at hp
   by_cases hk : (PySem.W.alike p q && vY p) = true
   ·rw [if_pos hk] at hp
    rw [Bool.and_eq_true] at hk
    exact ⟨p, q, kY hR hx e1, kY hR hy e2, hk.1, hk.2, hp.val hR (.bl _)⟩
   ·rw [if_neg hk] at hp
    exact False.elim hp
  | none, _ => rw [e1] at hp; exact False.elim hp
  | some _, none => rw [e1, e2] at hp; exact False.elim hp
 cases d with
 | r n => exact .inr (dat rfl)
 | v p =>
  cases p with
  | int a =>
   cases e with
   | r n => exact .inr (dat rfl)
   | v q =>
    cases q with
    | int b => exact .inl ⟨a, b, Is.inv_int hx, Is.inv_int hy, hp.val hR (.bl _)⟩
    | _ => exact .inr (dat rfl)
  | _ => exact .inr (dat rfl)
theorem Vt (hK : X.K = g.K) (hu : X.A.units + 64 < cLine) (ha : PE X a (tE g W fa)) (hb : PE X b (tE g W fb)) : PE X (.Compare a [.Lt] [b] pos) (tE g W (bin iQ fa fb)) := zG (op_lt.or (Lf hu)) (Lg hK) ha hb (nomark _)
theorem Lh (hK : X.K = g.K) (hu : X.A.units + 64 < cLine) (ha : PE X a (tE g W fa)) (hb : PE X b (tE g W fb)) : PT X (.Compare a [.Lt] [b] pos) (tT g W (bB (bin iQ fa fb))) := vZ (op_lt.or (Lf hu)) (Lg hK) ha hb (nomark _)
def inD (neg : Bool) : D → D → M D := fun x y L => match cZ L x, cZ L y with
 | some a, some (.list bs) => if (fP a && fP (.list bs)) = true then some (.ok (.v (.bl (xor neg (bs.any fun z => PyData.eqv z a)))), L) else none
 | some a, some (.tuple bs) => if (fP a && fP (.list bs)) = true then some (.ok (.v (.bl (xor neg (bs.any fun z => PyData.eqv z a)))), L) else none
 | some (.str ⟨cs⟩), some (.str z) => if cs.size = 1 then some (.ok (.v (.bl (xor neg (decide (cs.getD 0 0 ∈ z.cps.toList))))), L) else none
 | _, _ => none
def Ek (K : PySem.W.Frag) (neg : Bool) : R2 := fun x y H Q => ∃ d ds, Dp K H x d ∧ (Dp K H y (.list ds) ∨ Dp K H y (.tuple ds)) ∧ SeqAt.shaped d = true ∧ SeqAt.shaped (.list ds) = true ∧ Q (.bl (xor neg (ds.any fun z => PyData.eqv z d))) H
theorem Lj {A : Around} {d : PyData} {ds : List PyData} (h : SeqAt.shaped d = true) (hu : A.units + 65 < cLine) : A.units + 1 + min (PyData.depthAll ds) d.depth < cLine := by
 have h1 := SeqAt.depth_of_shaped h
 have h2 : min (PyData.depthAll ds) d.depth ≤ d.depth := Nat.min_le_right _ _
 omega
theorem Vu (hu : X.A.units + 65 < cLine) : OpR X (compareOp .NotIn) (Ek X.K true) := by
 intro pins s σ H x y v u Q I rx ry h
 obtain ⟨d, ds, hd, he, sd, se, q⟩ := h
 obtain ⟨as, r1⟩ := Dp.reads I d x v hd rx
 rw [Bool.true_xor] at q
 rcases he with he | he
 ·obtain ⟨bs, r2⟩ := Dp.reads I (.list ds) y u he ry
  exact SeqAt.notIn_list_reads r2 r1 (SeqAt.canLay_of_shaped se) (SeqAt.canLay_of_shaped sd) (Lj sd hu) ⟨.bl _, H, I, rfl, q⟩
 ·obtain ⟨bs, r2⟩ := Dp.reads I (.tuple ds) y u he ry
  exact SeqAt.notIn_tuple_reads r2 r1 (SeqAt.canLay_of_shaped se) (SeqAt.canLay_of_shaped sd) (Lj sd hu) ⟨.bl _, H, I, rfl, q⟩
def El (neg : Bool) : R2 := fun x y H Q => ∃ (c : Nat) (z : Str), x = .str ⟨#[c]⟩ ∧ y = .str z ∧ Q (.bl (xor neg (decide (c ∈ z.cps.toList)))) H
theorem Vv : OpR X (compareOp .NotIn) (El true) := fun pins s σ H x y v u Q I rx ry ⟨c, z, e1, e2, q⟩ => op_notIn_sign pins s σ H x y v u Q I rx ry ⟨c, z, e1, e2, by rwa [Bool.true_xor] at q⟩
theorem Vw {cs : Array Nat} (h : cs.size = 1) : cs = #[cs.getD 0 0] := by
 obtain ⟨l⟩ := cs
 match l, h with
 | [a], _ => rfl
theorem Lk {K : PySem.W.Frag} {H : Hp} {x : V} {z : Str} (h : Dp K H x (.str z)) : x = .str z := by cases h; rfl
theorem Vx {K : PySem.W.Frag} {neg : Bool} (hK : K = g.K) : cU g (inD neg) (fun x y H Q => Ek K neg x y H Q ∨ El neg x y H Q) := by
 subst hK
 intro F ρ L H x y d e W Q hR hx hy hp
 unfold inD at hp
 match e1 : cZ L d, e2 : cZ L e with
 | some p, some (.list bs) =>
  rw [e1, e2] at hp
  dsimp only at hp
  by_cases hk : (fP p && fP (.list bs)) = true
  ·rw [if_pos hk] at hp
   rw [Bool.and_eq_true] at hk
   exact .inl ⟨p, bs, kY hR hx e1, .inl (kY hR hy e2), hk.1, hk.2, hp.val hR (.bl _)⟩
  ·rw [if_neg hk] at hp
   exact False.elim hp
 | some p, some (.tuple bs) =>
  rw [e1, e2] at hp
  dsimp only at hp
  by_cases hk : (fP p && fP (.list bs)) = true
  ·rw [if_pos hk] at hp
   rw [Bool.and_eq_true] at hk
   exact .inl ⟨p, bs, kY hR hx e1, .inr (kY hR hy e2), hk.1, hk.2, hp.val hR (.bl _)⟩
  ·rw [if_neg hk] at hp
   exact False.elim hp
 | some (.str ⟨cs⟩), some (.str z) =>
  rw [e1, e2] at hp
  dsimp only at hp
  by_cases hk : cs.size = 1
  ·rw [if_pos hk] at hp
   exact .inr ⟨cs.getD 0 0, z, (Lk (kY hR hx e1)).trans (by rw [← Vw hk]), Lk (kY hR hy e2), hp.val hR (.bl _)⟩
  ·rw [if_neg hk] at hp
   exact False.elim hp
 | none, _ => rw [e1] at hp; exact False.elim hp
 | some p, none => rw [e1, e2] at hp; cases p <;> exact False.elim hp
 | some p, some .none => rw [e1, e2] at hp; cases p <;> exact False.elim hp
 | some p, some (.bool _) => rw [e1, e2] at hp; cases p <;> exact False.elim hp
 | some p, some (.int _) => rw [e1, e2] at hp; cases p <;> exact False.elim hp
 | some p, some (.dict _) => rw [e1, e2] at hp; cases p <;> exact False.elim hp
 | some .none, some (.str z) => rw [e1, e2] at hp; exact False.elim hp
 | some (.bool _), some (.str z) => rw [e1, e2] at hp; exact False.elim hp
 | some (.int _), some (.str z) => rw [e1, e2] at hp; exact False.elim hp
 | some (.list _), some (.str z) => rw [e1, e2] at hp; exact False.elim hp
 | some (.tuple _), some (.str z) => rw [e1, e2] at hp; exact False.elim hp
 | some (.dict _), some (.str z) => rw [e1, e2] at hp; exact False.elim hp
def isNon : D → Bool
 | .v .non => true
 | _ => false
def rG (neg : Bool) : D → D → M D := fun x y L => match y with
 | .v .non => some (.ok (.v (.bl (xor neg (isNon x)))), L)
 | _ => none
end
end DN
end
section
namespace DN
open PySem L2
section
variable {X : Cx} {g : G} {W : WX} {a b c e : Expr} {fa fb fc f : aA → M D} {ta tb : aA → M Bool} {pos : Pos} {rest : List Expr}
theorem Sat.bindB {β δ : Type} {rb : Hp → (Nat → Addr) → Nat → δ → β → Prop} {ctx : List (V × D)} {k : aA → Bool → M β} {σ : St} {H : Hp} {Q : δ → Hp → Prop}
  (h : Sat g rb W ctx (fun τ => ta τ >>= k τ) σ H Q) : tT g W ta σ H fun b H1 => Sat g rb W ctx (fun τ => k τ b) σ H1 Q := by
 obtain ⟨F, ρ, τ, L, hR, hS, hc, hp⟩ := Sat.bind (ra := relB) h
 refine ⟨F, ρ, τ, L, hR, hS, hc, ?_⟩
 refine hp.mono fun b H1 ⟨F2, ρ2, τ2, L2, d2, a1, a2, a3, a4, a5⟩ => ?_
 subst a4
 exact ⟨F2, ρ2, τ2, L2, a1, a2, a3, a5⟩
def jN (ta tb : aA → M Bool) (τ : aA) : M Bool := do
 let b ← ta τ
 if b then tb τ else pure false
def iT (ta tb : aA → M Bool) (τ : aA) : M Bool := do
 let b ← ta τ
 if b then pure true else tb τ
def gQ (ta : aA → M Bool) (τ : aA) : M Bool := do
 let b ← ta τ
 pure (!b)
theorem Sat.retB {ctx : List (V × D)} {σ : St} {H : Hp} {Q : Bool → Hp → Prop} {b : Bool} (h : Sat g relB W ctx (fun _ => pure b) σ H Q) : Q b H := by
 obtain ⟨F, ρ, τ, L, hR, hS, hc, hp⟩ := h
 exact hp F ρ b H Ext.refl hR rfl
theorem Em (ha : PT X a (tT g W ta)) : PW X (.BoolOp .And [a] pos) (tT g W ta) := pw_and1 ha
theorem wA (ha : PT X a (tT g W ta)) : PW X (.BoolOp .Or [a] pos) (tT g W ta) := pw_or1 ha
theorem PW.weak {t t' : TT} (h : PW X e t) (w : ∀ σ H Q, t' σ H Q → t σ H Q) : PW X e t' := ⟨fun wh pins s σ H Q I q => h.run wh pins s σ H Q I (w σ H Q q)⟩
theorem zH (ha : PT X a (tT g W ta)) (hb : PW X (.BoolOp .And (b :: rest) pos) (tT g W tb)) : PW X (.BoolOp .And (a :: b :: rest) pos) (tT g W (jN ta tb)) := by
 refine PW.weak (pw_and ha hb) fun σ H Q h => (Sat.bindB h).mono fun b H1 h1 => ?_
 cases b with
 | true => exact h1
 | false => exact Sat.retB h1
theorem tX (ha : PT X a (tT g W ta)) (hb : PW X (.BoolOp .Or (b :: rest) pos) (tT g W tb)) : PW X (.BoolOp .Or (a :: b :: rest) pos) (tT g W (iT ta tb)) := by
 refine PW.weak (pw_or ha hb) fun σ H Q h => (Sat.bindB h).mono fun b H1 h1 => ?_
 cases b with
 | true => exact Sat.retB h1
 | false => exact h1
theorem rH (ha : PT X a (tT g W ta)) : PT X (.UnaryOp .Not a pos) (tT g W (gQ ta)) := by
 refine PT.weak (pt_not ha) fun σ H Q h => (Sat.bindB h).mono fun b H1 h1 => ?_
 exact Sat.retB h1
def oM (ta : aA → M Bool) (τ : aA) : M D := do
 let b ← ta τ
 pure (.v (.bl b))
theorem Sat.bindVal {β δ : Type} {rb : Hp → (Nat → Addr) → Nat → δ → β → Prop} {ctx : List (V × D)} {k : aA → Bool → M β} {σ : St} {H : Hp} {Q : δ → Hp → Prop}
  (h : Sat g rb W ctx (fun τ => ta τ >>= k τ) σ H Q) : tE g W (oM ta) σ H fun x H1 => ∃ c, x = .bl c ∧ Sat g rb W ctx (fun τ => k τ c) σ H1 Q := by
 obtain ⟨F, ρ, τ, L, hR, hS, hc, hp⟩ := Sat.bind (ra := relB) h
 refine ⟨F, ρ, τ, L, hR, hS, hc, ?_⟩
 show Post g (bT g) F ρ L.length _ _ (M.bnd (ta τ) (fun b => M.ret (D.v (P.bl b))) L)
 unfold M.bnd M.ret
 match e : ta τ L with
 | none => rw [e] at hp; exact hp
 | some (.ex c fs, L1) => rw [e] at hp; exact hp
 | some (.ok d, L1) =>
  rw [e] at hp
  intro F1 ρ1 x H1 x1 x2 x3
  obtain ⟨F2, ρ2, τ2, L2, d2, a1, a2, a3, a4, a5⟩ := hp F1 ρ1 d H1 x1 x2 rfl
  subst a4
  exact ⟨d, Is.inv_bl x3, F2, ρ2, τ2, L2, a1, a2, a3, a5⟩
theorem wB {op} (h : PE X a (tE g W f)) : PE X (.BoolOp op [a] pos) (tE g W f) := pe_one h
def mZ (ta : aA → M Bool) (fb : aA → M D) (τ : aA) : M D := do
 let b ← ta τ
 if b then fb τ else pure (.v (.bl false))
def lN (ta : aA → M Bool) (fb : aA → M D) (τ : aA) : M D := do
 let b ← ta τ
 if b then pure (.v (.bl true)) else fb τ
def tY (ta : aA → M Bool) (τ : aA) : M D := do
 let b ← ta τ
 pure (.v (.bl (!b)))
theorem Sat.retV {ctx : List (V × D)} {σ : St} {H : Hp} {Q : V → Hp → Prop} {b : Bool} (h : Sat g (bT g) W ctx (fun _ => pure (D.v (.bl b))) σ H Q) : Q (.bl b) H := by
 obtain ⟨F, ρ, τ, L, hR, hS, hc, hp⟩ := h
 exact hp F ρ _ H Ext.refl hR (Is.bl b)
theorem Ln {σ : St} {H : Hp} {Q : VK} (h : tE g W (oM (bB f)) σ H Q) : tE g W f σ H Q := by
 have h0 : Sat g (bT g) W [] (fun τ => f τ >>= fun d => gM d >>= fun b => pure (.v (.bl b))) σ H Q := by
  obtain ⟨F, ρ, τ, L, hR, hS, hc, hp⟩ := h
  refine ⟨F, ρ, τ, L, hR, hS, hc, ?_⟩
  have e : (oM (bB f) τ : M D) L = (f τ >>= fun d => gM d >>= fun b => (pure (D.v (.bl b)) : M D)) L := by
   show M.bnd (M.bnd (f τ) gM) _ L = M.bnd (f τ) _ L
   unfold M.bnd
   match e : f τ L with
   | none => rfl
   | some (.ex c fs, L1) => rfl
   | some (.ok d, L1) => rfl
  exact Eq.mp (congrArg (fun o => Post g (bT g) F ρ L.length (fun c d H' => W c d σ H') Q o) e) hp
 refine (Sat.bindV h0).mono fun x H1 h1 => ?_
 obtain ⟨d, F, ρ, τ, L, hR, hS, hc, hp⟩ := h1
 have hx := hc (x, d) (by simp)
 match d, hx, hp with
 | .v (.bl b), hx, hp =>
  have e : x = .bl b := Is.inv_bl hx
  subst e
  exact hp F ρ _ H1 Ext.refl hR (Is.bl b)
theorem Vy (ha : PE X a (tE g W fa)) (hb : PE X (.BoolOp .And (b :: rest) pos) (tE g W fb)) : PE X (.BoolOp .And (a :: b :: rest) pos) (tE g W (mZ (bB fa) fb)) := by
 refine PE.weak (pe_and ha hb) fun σ H Q h => Ln ((Sat.bindVal h).mono fun x H1 h1 => ?_)
 obtain ⟨c, rfl, h1⟩ := h1
 refine ⟨c, rfl, ?_⟩
 cases c with
 | true => exact h1
 | false => exact Sat.retV h1
theorem zJ (ha : PE X a (tE g W fa)) (hb : PE X (.BoolOp .Or (b :: rest) pos) (tE g W fb)) : PE X (.BoolOp .Or (a :: b :: rest) pos) (tE g W (lN (bB fa) fb)) := by
 refine PE.weak (pe_or ha hb) fun σ H Q h => Ln ((Sat.bindVal h).mono fun x H1 h1 => ?_)
 obtain ⟨c, rfl, h1⟩ := h1
 refine ⟨c, rfl, ?_⟩
 cases c with
 | true => exact Sat.retV h1
 | false => exact h1
def Lp (t : aA → M Bool) (fa fb : aA → M D) (τ : aA) : M D := do
 let b ← t τ
 if b then fa τ else fb τ
def lO (o1 o2 : D → D → M D) (fa fb fc : aA → M D) (τ : aA) : M D := do
 let x ← fa τ
 let y ← fb τ
 let z ← o1 x y
 let k ← gM z
 if k then (do let w ← fc τ; o2 y w) else pure (.v (.bl false))
theorem Lq {r r' : R2} {o1 o2 : D → D → M D} (h1 : cU g o1 r) (h2 : cU g o2 r') {σ : St} {H : Hp} {Q : VK} (h : tE g W (lO o1 o2 fa fb fc) σ H Q) : tChain r r' (tE g W fa) (tE g W fb) (tE g W fc) σ H Q := by
 refine (Sat.bindV h).mono fun x H1 q1 => ?_
 obtain ⟨d, q1⟩ := q1
 refine (Sat.bindV q1).mono fun y H2 q2 => ?_
 obtain ⟨e, F, ρ, τ, L, hR, hS, hc, hp⟩ := q2
 have hx := hc (x, d) (by simp)
 have hy := hc (y, e) (by simp)
 refine h1 F ρ L H2 x y d e (fun c d H' => W c d σ H') _ hR hx hy (Post.bnd (ra := bT g) hp fun z L1 F1 ρ1 v H3 ez x1 hR1 hz hp1 => ?_)
 have hy1 := hy.ext x1
 have hS1 := hS.ext x1
 match z, hz, hp1 with
 | .v (.bl k), hz, hp1 =>
  refine ⟨k, Is.inv_bl hz, ?_⟩
  cases k with
  | false =>
   rw [if_neg Bool.false_ne_true]
   exact hp1 F1 ρ1 _ H3 Ext.refl hR1 (Is.bl false)
  | true =>
   rw [if_pos rfl]
   have q3 : Sat g (bT g) W [(y, e)] (fun τ => fc τ >>= o2 e) σ H3 Q := ⟨F1, ρ1, τ, L1, hR1, hS1, fun p hp => by rw [List.mem_singleton.mp hp]; exact hy1, hp1⟩
   refine (Sat.bindV q3).mono fun w H4 q4 => ?_
   obtain ⟨dw, F2, ρ2, τ2, L2, hR2, hS2, hc2, hp2⟩ := q4
   exact h2 F2 ρ2 L2 H4 y w e dw _ _ hR2 (hc2 (y, e) (by simp)) (hc2 (w, dw) (by simp)) hp2
theorem V1 {op op' : CmpOp} {r r' : R2} {o1 o2 : D → D → M D} (ho : OpR X (compareOp op) r) (ho' : OpR X (compareOp op') r') (h1 : cU g o1 r) (h2 : cU g o2 r') (ha : PE X a (tE g W fa)) (hb : PE X b (tE g W fb)) (hc : PE X c (tE g W fc))
  (hm : lastMarks [op, op'] [b, c] = false := by with_unfolding_all rfl) : PE X (.Compare a [op, op'] [b, c] pos) (tE g W (lO o1 o2 fa fb fc)) :=
 PE.weak (pe_chain ho ho' ha hb hc hm) fun σ H Q h => Lq h1 h2 h
theorem V2 {op op' : CmpOp} {r r' : R2} {o1 o2 : D → D → M D} (ho : OpR X (compareOp op) r) (ho' : OpR X (compareOp op') r') (h1 : cU g o1 r) (h2 : cU g o2 r') (ha : PE X a (tE g W fa)) (hb : PE X b (tE g W fb)) (hc : PE X c (tE g W fc))
  (hm : lastMarks [op, op'] [b, c] = false := by with_unfolding_all rfl) : PT X (.Compare a [op, op'] [b, c] pos) (tT g W (bB (lO o1 o2 fa fb fc))) :=
 PT.weak (pt_chain ho ho' ha hb hc hm) fun σ H Q h => Lq h1 h2 (Eh h)
def oN : D → D → M D := fun x y L => match y with
 | .v (.int i) => match x with
  | .v (.tup xs) => (atI xs i).map fun p => (.ok (.v p), L)
  | .v (.str z) => if z.length ≤ sizeLine then (atI z.cps.toList i).map fun c => (.ok (.v (.str ⟨#[c]⟩)), L) else none
  | x => (cR L x).bind fun xs => (atI xs i).map fun p => (.ok (.v p), L)
 | _ => none
theorem Lr {F : Hp} {vs : List V} {ps : List P} {i : Int} {p : P} (h : aP g F vs ps) (e : atI ps i = some p) : ∃ v, atI vs i = some v ∧ Is g F v p := by
 unfold atI at e ⊢
 rw [h.len]
 cases q : ixN ps.length i with
 | none => rw [q] at e; cases e
 | some j =>
  rw [q] at e
  exact h.get e
theorem V3 {K : PySem.W.Frag} (hK : K = g.K) : cU g oN (rIx K) := by
 subst hK
 intro F ρ L H x y d e W Q hR hx hy hp
 unfold oN at hp
 match e, hy, hp with
 | .v (.int i), hy, hp =>
  have ey := Is.inv_int hy
  have lists : Post g (bT g) F ρ L.length W Q ((cR L d).bind fun xs => (atI xs i).map fun p => (Res.ok (D.v p), L)) → rIxL g.K x y H Q := fun hp => by
   match e1 : cR L d with
   | none => rw [e1] at hp; exact False.elim hp
   | some xs =>
    rw [e1] at hp
    dsimp only [Option.bind] at hp
    match e2 : atI xs i with
    | none => rw [e2] at hp; exact False.elim hp
    | some p =>
     rw [e2] at hp
     obtain ⟨a, vs, h1, h2, h3⟩ := rE hR hx e1
     obtain ⟨v, h4, h5⟩ := Lr h3 e2
     exact ⟨a, vs, i, v, h1, ey, h2, h4, hp.val hR h5⟩
  cases d with
  | r n => exact .inl (lists hp)
  | v q =>
   cases q with
   | tup xs =>
    dsimp only at hp
    match e2 : atI xs i with
    | none => rw [e2] at hp; exact False.elim hp
    | some p =>
     rw [e2] at hp
     obtain ⟨a, vs, h1, h2, h3⟩ := Is.inv_tup hx
     obtain ⟨v, h4, h5⟩ := Lr h3 e2
     exact .inr (.inl ⟨a, vs, i, v, h1, ey, hR.sub.sqT h2, h4, hp.val hR h5⟩)
   | str z =>
    dsimp only at hp
    by_cases hz : z.length ≤ sizeLine
    ·rw [if_pos hz] at hp
     match e2 : atI z.cps.toList i with
     | none => rw [e2] at hp; exact False.elim hp
     | some c =>
      rw [e2] at hp
      exact .inr (.inr ⟨z, i, c, Is.inv_str hx, ey, hz, e2, hp.val hR (.str _)⟩)
    ·rw [if_neg hz] at hp
     exact False.elim hp
   | _ => exact .inl (lists hp)
abbrev En (_ : Hp) (_ : Nat → Addr) (_ : Nat) (b : Option Int) (c : Option Int) : Prop := b = c
def tO (g : G) (W : WX) (f : aA → M (Option Int)) : TO := fun σ H Q => Sat g En W [] f σ H Q
def nA (_ : aA) : M (Option Int) := pure none
def zK : D → M (Option Int) := fun x L => match x with
 | .v (.int i) => some (.ok (some i), L)
 | .v .non => some (.ok none, L)
 | _ => none
def Eo : D → M (Option Int) := fun x L => match x with
 | .v (.int i) => some (.ok (some i), L)
 | _ => none
def part (f : aA → M D) (τ : aA) : M (Option Int) := f τ >>= Eo
theorem PO.weak {o : Option Expr} {t t' : TO} (h : PO X o t) (w : ∀ σ H Q, t' σ H Q → t σ H Q) : PO X o t' := ⟨fun pins s σ H Q I q => h.run pins s σ H Q I (w σ H Q q)⟩
theorem pP : PO X none (tO g W nA) := PO.weak po_none fun σ H Q h => by
 obtain ⟨F, ρ, τ, L, hR, hS, hc, hp⟩ := h
 exact hp F ρ none H Ext.refl hR rfl
theorem kZ (h : PE X e (tE g W f)) : PO X (some e) (tO g W (part f)) := PO.weak (po_some h) fun σ H Q q => by
 refine (Sat.bindV q).mono fun x H1 h1 => ?_
 obtain ⟨d, F, ρ, τ, L, hR, hS, hc, hp⟩ := h1
 have hx := hc (x, d) (by simp)
 match d, hx, hp with
 | .v (.int i), hx, hp => exact ⟨i, Is.inv_int hx, hp F ρ (some i) H1 Ext.refl hR rfl⟩
def rJ {α : Type} (xs : List α) (lo hi : Option Int) : List α := (xs.drop (HT.sIx xs.length 0 lo)).take (HT.sIx xs.length xs.length hi - HT.sIx xs.length 0 lo)
def tZ (x : D) (lo hi : Option Int) : M D := fun L => match x with
 | .v (.tup xs) => some (.ok (.v (.tup (rJ xs lo hi))), L)
 | .v (.str z) => if z.length ≤ sizeLine then some (.ok (.v (.str (cutS z lo hi))), L) else none
 | x => (cR L x).map fun xs => (.ok (.v (.lst (rJ xs lo hi))), L)
def slice (fa : aA → M D) (fl fh : aA → M (Option Int)) (τ : aA) : M D := do
 let x ← fa τ
 let lo ← fl τ
 let hi ← fh τ
 tZ x lo hi
theorem Ls {F : Hp} {vs : List V} {ps : List P} (h : aP g F vs ps) (lo hi : Option Int) : aP g F (cutV vs lo hi) (rJ ps lo hi) := by
 unfold cutV rJ
 rw [h.len]
 exact (h.drop _).take _
theorem V4 {α : Type} (xs : List α) {lo hi : Option Int} (h : HT.sIx xs.length 0 lo = 0 ∧ HT.sIx xs.length xs.length hi = xs.length) : rJ xs lo hi = xs := by
 unfold rJ
 rw [h.1, h.2]
 simp
def Lw (K : PySem.W.Frag) : V → Option Int → Option Int → Hp → VK → Prop := fun x lo hi H Q => rSlL K x lo hi H Q ∨ rSlA K x lo hi H Q ∨ rSlS x lo hi H Q
theorem V5 : SlR X (Lw X.K) := sl_list.or (sl_tupA.or sl_str)
theorem V6 {F : Hp} {ρ : Nat → Addr} {L : List MO} {H : Hp} {x : V} {d : D} {lo hi : Option Int} {W : Value → Option Addr → Hp → Prop} {Q : VK} (hR : R g F ρ L H) (hx : IsD g F ρ L.length x d) (hp : Post g (bT g) F ρ L.length W Q (tZ d lo hi L)) : Lw g.K x lo hi H Q := by
 unfold tZ at hp
 have lists : Post g (bT g) F ρ L.length W Q ((cR L d).map fun xs => (Res.ok (D.v (.lst (rJ xs lo hi))), L)) → rSlL g.K x lo hi H Q := fun hp => by
  match e1 : cR L d with
  | none => rw [e1] at hp; exact False.elim hp
  | some xs =>
   rw [e1] at hp
   obtain ⟨a, vs, h1, h2, h3⟩ := rE hR hx e1
   exact ⟨a, vs, h1, h2, fun p hp' => hp.lst hR (Ls h3 lo hi) hp'⟩
 cases d with
 | r n => exact .inl (lists hp)
 | v q =>
  cases q with
  | tup xs =>
   obtain ⟨a, vs, h1, h2, h3⟩ := Is.inv_tup hx
   refine .inr (.inl ⟨a, vs, h1, hR.sub.sqT h2, fun z => ?_, fun _ p hp' => hp.tup hR (Ls h3 lo hi) hp'⟩)
   rw [h3.len] at z
   dsimp only at hp
   rw [V4 xs z] at hp
   rw [← h1]
   exact hp.val hR hx
  | str z =>
   dsimp only at hp
   by_cases hz : z.length ≤ sizeLine
   ·rw [if_pos hz] at hp
    exact .inr (.inr ⟨z, Is.inv_str hx, hz, hp.val hR (.str _)⟩)
   ·rw [if_neg hz] at hp
    exact False.elim hp
  | _ => exact .inl (lists hp)
theorem nD {lo hi : Option Expr} {fl fh : aA → M (Option Int)} {p2 : Pos} (hK : X.K = g.K) (he : PE X e (tE g W f)) (hl : PO X lo (tO g W fl)) (hh : PO X hi (tO g W fh)) : PE X (.Subscript e (.Slice lo hi none p2) pos) (tE g W (slice f fl fh)) := by
 refine PE.weak (pe_slice V5 he hl hh) fun σ H Q h => ?_
 refine (Sat.bindV h).mono fun x H1 h1 => ?_
 obtain ⟨d, h1⟩ := h1
 refine (Sat.bind (ra := En) h1).mono fun l H2 h2 => ?_
 obtain ⟨F, ρ, τ, L, l', hR, hS, hc, rfl, hp⟩ := h2
 have h3 : Sat g (bT g) W [(x, d)] (fun τ => fh τ >>= tZ d l) σ H2 Q := ⟨F, ρ, τ, L, hR, hS, hc, hp⟩
 refine (Sat.bind (ra := En) h3).mono fun u H3 h4 => ?_
 obtain ⟨F, ρ, τ, L, u', hR, hS, hc, rfl, hp⟩ := h4
 rw [hK]
 exact V6 hR (hc (x, d) (by simp)) hp
end
end DN
end
section
namespace DN
open PySem L2
abbrev SX := aA → List MO → Option (Out × List MO)
def dR (g : G) (W : WX) (ctx : List (V × D)) (f : SX) (E : Ends) (σ : St) (H : Hp) : Prop :=
 ∃ F ρ τ L, R g F ρ L H ∧ Sl g F ρ L.length σ τ ∧ (∀ x ∈ ctx, IsD g F ρ L.length x.1 x.2) ∧ eV g F ρ L.length W E (f τ L)
def tS (g : G) (W : WX) (f : SX) : TS := fun D σ H => dR g W [] f D σ H
def bW {α : Type} (m : aA → M α) (k : α → SX) : SX := fun τ L => match m τ L with
 | none => none
 | some (.ok a, L1) => k a τ L1
 | some (.ex c fs, L1) => some (.ex τ c fs, L1)
theorem dR.bind {α γ : Type} {g : G} {ra : Hp → (Nat → Addr) → Nat → γ → α → Prop} {W : WX} {ctx : List (V × D)} {m : aA → M α} {k : α → SX} {E : Ends} {σ : St} {H : Hp} (h : dR g W ctx (bW m k) E σ H) :
  Sat g ra W [] m σ H fun x H1 => ∃ F ρ τ L d, R g F ρ L H1 ∧ Sl g F ρ L.length σ τ ∧ (∀ y ∈ ctx, IsD g F ρ L.length y.1 y.2) ∧ ra F ρ L.length x d ∧ eV g F ρ L.length W E (k d τ L) := by
 obtain ⟨F, ρ, τ, L, hR, hS, hc, hp⟩ := h
 refine ⟨F, ρ, τ, L, hR, hS, (fun y hy => by cases hy), ?_⟩
 unfold bW at hp
 match e : m τ L with
 | none =>
  rw [e] at hp
  exact hp
 | some (.ex c fs, L1) =>
  rw [e] at hp
  exact fun F' ρ' dx vs H' x1 x2 x3 x4 x5 => hp F' ρ' dx vs H' σ x1 x2 (hS.ext x1) x3 x4 x5
 | some (.ok d, L1) =>
  rw [e] at hp
  intro F1 ρ1 x H1 he hR1 hx
  exact ⟨F1, ρ1, τ, L1, d, hR1, hS.ext he, fun y hy => (hc y hy).ext he, hx, hp.ext he⟩
theorem dR.bindV {g : G} {W : WX} {ctx : List (V × D)} {m : aA → M D} {k : D → SX} {E : Ends} {σ : St} {H : Hp} (h : dR g W ctx (bW m k) E σ H) :
  tE g W m σ H fun x H1 => ∃ d, dR g W ((x, d) :: ctx) (k d) E σ H1 := by
 refine (dR.bind (ra := bT g) h).mono fun x H1 ⟨F, ρ, τ, L, d, a1, a2, a3, a4, a5⟩ => ⟨d, F, ρ, τ, L, a1, a2, fun y hy => ?_, a5⟩
 rcases List.mem_cons.mp hy with z | z
 ·rw [z]; exact a4
 ·exact a3 y z
theorem dR.bindB {g : G} {W : WX} {ctx : List (V × D)} {m : aA → M Bool} {k : Bool → SX} {E : Ends} {σ : St} {H : Hp} (h : dR g W ctx (bW m k) E σ H) :
  tT g W m σ H fun b H1 => dR g W ctx (k b) E σ H1 := by
 refine (dR.bind (ra := relB) h).mono fun x H1 ⟨F, ρ, τ, L, d, a1, a2, a3, a4, a5⟩ => ?_
 subst a4
 exact ⟨F, ρ, τ, L, a1, a2, a3, a5⟩
def cJ : List Nat → aA → aA
 | [], τ => τ
 | i :: is, τ => cJ is (τ.set i none)
theorem Sl.unset {g : G} {F : Hp} {ρ : Nat → Addr} {n : Nat} {σ : St} {τ : aA} (h : Sl g F ρ n σ τ) (i : Nat) : Sl g F ρ n σ (τ.set i none) := by
 refine ⟨by rw [List.length_set]; exact h.1, fun j e q => ?_⟩
 by_cases hj : i = j
 ·subst hj
  by_cases hl : i < τ.length
  ·rw [List.getElem?_set_self hl] at q
   cases q
  ·rw [List.getElem?_eq_none (by rw [List.length_set]; omega)] at q
   cases q
 ·rw [List.getElem?_set_ne hj] at q
  exact h.2 j e q
theorem Sl.kill {g : G} {F : Hp} {ρ : Nat → Addr} {n : Nat} {σ : St} : ∀ (is : List Nat) {τ : aA}, Sl g F ρ n σ τ → Sl g F ρ n σ (cJ is τ)
 | [], _, h => h
 | i :: is, _, h => Sl.kill is (h.unset i)
section
variable {X : Cx} {g : G} {W : WX} {a b c e : Expr} {fa fb fc f : aA → M D} {ta tb : aA → M Bool} {pos : Pos} {rest : List Expr} {st : Stmt} {sts : List Stmt} {s1 s2 : SX}
def cA : SX := fun τ L => some (.nx τ, L)
def aR (f1 f2 : SX) : SX := fun τ L => match f1 τ L with
 | some (.nx τ1, L1) => f2 τ1 L1
 | o => o
def bD (is : List Nat) (f : SX) : SX := fun τ L => f (cJ is τ) L
theorem tS.kill {is : List Nat} {D : Ends} {σ : St} {H : Hp} (h : tS g W (bD is s1) D σ H) : tS g W s1 D σ H := by
 obtain ⟨F, ρ, τ, L, hR, hS, hc, hp⟩ := h
 exact ⟨F, ρ, cJ is τ, L, hR, hS.kill is, hc, hp⟩
theorem bJ (is : List Nat) (h : PSs X sts (tS g W s1)) : PSs X sts (tS g W (bD is s1)) := PSs.weak h fun D σ H q => tS.kill q
theorem dB : PSs X [] (tS g W cA) := PSs.weak pss_nil fun D σ H h => by
 obtain ⟨F, ρ, τ, L, hR, hS, hc, hp⟩ := h
 exact hp F ρ H σ Ext.refl hR hS
theorem V7 {D : Ends} {σ : St} {H : Hp} (h : tS g W (aR s1 s2) D σ H) : tSeq (tS g W s1) (tS g W s2) D σ H := by
 obtain ⟨F, ρ, τ, L, hR, hS, hc, hp⟩ := h
 refine ⟨F, ρ, τ, L, hR, hS, hc, ?_⟩
 unfold aR at hp
 match e : s1 τ L with
 | none => rw [e] at hp; exact hp
 | some (.nx τ1, L1) =>
  rw [e] at hp
  exact fun F' ρ' H' σ' x1 x2 x3 => ⟨F', ρ', τ1, L1, x2, x3, (fun y hy => by cases hy), hp.ext x1⟩
 | some (.rt d, L1) => rw [e] at hp; exact hp
 | some (.bk _, L1) => rw [e] at hp; exact hp
 | some (.ct _, L1) => rw [e] at hp; exact hp
 | some (.ex _ _ _, L1) => rw [e] at hp; exact hp
theorem aY (h1 : PS X st (tS g W s1)) (h2 : PSs X sts (tS g W s2)) : PSs X (st :: sts) (tS g W (aR s1 s2)) := PSs.weak (pss_cons h1 h2) fun D σ H h => V7 h
theorem bH (h1 : PS X st (tS g W s1)) : PSs X [st] (tS g W s1) := pss_one h1
def V8 : SX := fun τ L => some (.bk τ, L)
def V9 : SX := fun τ L => some (.ct τ, L)
def bM (i : Nat) (f : aA → M D) : SX := bW f fun d τ L => some (.nx (τ.set i (some d)), L)
theorem Wb {i : Nat} {D : Ends} {σ : St} {H : Hp} (h : tS g W (bM i f) D σ H) : tAsg (tE g W f) (gName i) D σ H := by
 refine (dR.bindV h).mono fun x H1 h1 => ?_
 obtain ⟨d, F, ρ, τ, L, hR, hS, hc, hp⟩ := h1
 exact hp F ρ H1 _ Ext.refl hR (hS.set (hc (x, d) (by simp)) i)
theorem Wc {i : Nat} {x : Str} {pos' : Pos} (hN : X.N.Nodup) (hi : X.N[i]? = some x) (hx : Loc X.env.scope x) (he : PE X e (tE g W f)) (hs : swapsWith e (some (.Name x pos')) pos.line X.env = pure false := by rfl) (hf : X.fn x = true ∨ X.env.scope.names.lookup x = some .local := by first | exact .inl rfl | exact .inr rfl | assumption) :
  PS X (.Assign [.Name x pos'] e pos) (tS g W (bM i f)) := PS.weak (ps_set hN hi hx he hs hf) fun D σ H h => Wb h
def gR (f : aA → M D) : SX := bW f fun _ τ L => some (.nx τ, L)
theorem pQ (he : PE X e (tE g W f)) (hs : swapsWith e none pos.line X.env = pure false := by rfl) : PS X (.Expr e pos) (tS g W (gR f)) := PS.weak (ps_expr he hs) fun D σ H h => by
 refine (dR.bindV h).mono fun x H1 h1 => ?_
 obtain ⟨d, F, ρ, τ, L, hR, hS, hc, hp⟩ := h1
 exact hp F ρ H1 σ Ext.refl hR hS
def retS (f : aA → M D) : SX := bW f fun d _ L => some (.rt d, L)
theorem bU (he : PE X e (tE g W f)) : PS X (.Return (some e) pos) (tS g W (retS f)) := PS.weak (ps_ret he) fun D σ H h => by
 refine (dR.bindV h).mono fun x H1 h1 => ?_
 obtain ⟨d, F, ρ, τ, L, hR, hS, hc, hp⟩ := h1
 exact hp F ρ H1 x Ext.refl hR (hc (x, d) (by simp))
def Wd : SX := fun _ L => some (.rt (.v .non), L)
def cC (t : aA → M Bool) (s1 s2 : SX) : SX := bW t fun b => if b then s1 else s2
theorem dD {p q : List Stmt} (hc : PT X c (tT g W ta)) (ha : PSs X p (tS g W s1)) (hb : PSs X q (tS g W s2)) : PS X (.If c p q pos) (tS g W (cC ta s1 s2)) := PS.weak (ps_if hc ha hb) fun D σ H h => by
 refine (dR.bindB h).mono fun b H1 h1 => ?_
 cases b with
 | true => exact h1
 | false => exact h1
def aM (_ : aA) : M (List D) := pure []
def aF (f : aA → M D) (fs : aA → M (List D)) (τ : aA) : M (List D) := do
 let d ← f τ
 let ds ← fs τ
 pure (d :: ds)
variable {es : List Expr} {fs : aA → M (List D)}
theorem wC : PA X [] (tA g W aM) := PA.weak pa_nil fun σ H Q h => by
 obtain ⟨F, ρ, τ, L, hR, hS, hc, hp⟩ := h
 exact hp F ρ _ H Ext.refl hR .nil
theorem aU (ha : PE X e (tE g W f)) (hr : PA X es (tA g W fs)) (hs : starEach (e :: es) X.env = (false, eval e X.env) :: starEach es X.env := by rfl) : PA X (e :: es) (tA g W (aF f fs)) := PA.weak (pa_cons ha hr hs) fun σ H Q h => by
 refine (Sat.bindV h).mono fun x H1 h1 => ?_
 obtain ⟨d, h1⟩ := h1
 refine (Sat.bind (ra := fZ g) h1).mono fun xs H2 h2 => ?_
 obtain ⟨F, ρ, τ, L, ds, hR, hS, hc, hr, hp⟩ := h2
 exact hp F ρ _ H2 Ext.refl hR (.cons (hc (x, d) (by simp)) hr)
def asP : D → Option P
 | .v p => some p
 | .r _ => none
def aV : List D → Option (List P)
 | [] => some []
 | d :: ds => match asP d, aV ds with
  | some p, some ps => some (p :: ps)
  | _, _ => none
theorem wD {F : Hp} {ρ : Nat → Addr} {n : Nat} : ∀ {vs : List V} {ds : List D} {ps : List P}, fZ g F ρ n vs ds → aV ds = some ps → aP g F vs ps
 | _, _, _, .nil, e => by cases e; exact .nil
 | _, d :: ds, _, .cons h t, e => by
  unfold aV at e
  match e1 : asP d, e2 : aV ds with
  | some p, some ps =>
   rw [e1, e2] at e
   cases e
   cases d with
   | v q =>
    cases e1
    exact .cons h (wD t e2)
   | r n => cases e1
  | none, _ => rw [e1] at e; cases e
  | some _, none => rw [e1, e2] at e; cases e
def cV (ds : List D) : M D := fun L => match aV ds with
 | some ps => if ps.length ≤ sizeLine then some (.ok (.v (.tup ps)), L) else none
 | none => none
def bL (ds : List D) : M D := fun L => match aV ds with
 | some ps => if ps.length ≤ sizeLine then some (.ok (.v (.lst ps)), L) else none
 | none => none
def newD (ds : List D) : M D := fun L => match aV ds with
 | some ps => if ps.length ≤ sizeLine then some (.ok (.r L.length), L ++ [.lst ps]) else none
 | none => none
def aO (op : List D → M D) (fs : aA → M (List D)) (τ : aA) : M D := fs τ >>= op
def CallD (g : G) (op : List D → M D) (r : List V → Hp → VK → Prop) : Prop := ∀ (F : Hp) (ρ : Nat → Addr) (L : List MO) (H : Hp) (vs : List V) (ds : List D) (W : Value → Option Addr → Hp → Prop) (Q : VK),
 R g F ρ L H → fZ g F ρ L.length vs ds → Post g (bT g) F ρ L.length W Q (op ds L) → r vs H Q
theorem wF {op : List D → M D} {r : List V → Hp → VK → Prop} (hr : CallD g op r) {σ : St} {H : Hp} {Q : VK} (h : tE g W (aO op fs) σ H Q) : tCB r (tA g W fs) σ H Q := by
 refine (Sat.bind (ra := fZ g) h).mono fun xs H2 h2 => ?_
 obtain ⟨F, ρ, τ, L, ds, hR, hS, hc, ha, hp⟩ := h2
 exact hr F ρ L H2 xs ds _ Q hR ha hp
theorem Wf : CallD g cV (fun xs H1 Q => xs.length ≤ sizeLine ∧ ∀ p, H1 p = none → Q (.ref p) (upd H1 p (.tup xs))) := by
 intro F ρ L H vs ds W Q hR ha hp
 unfold cV at hp
 match e : aV ds with
 | none => rw [e] at hp; exact False.elim hp
 | some ps =>
  rw [e] at hp
  dsimp only at hp
  have hi := wD ha e
  by_cases hz : ps.length ≤ sizeLine
  ·rw [if_pos hz] at hp
   exact ⟨by rw [hi.len]; exact hz, fun p hp' => hp.tup hR hi hp'⟩
  ·rw [if_neg hz] at hp
   exact False.elim hp
theorem Wg : CallD g bL (fun xs H1 Q => xs.length ≤ sizeLine ∧ ∀ p, H1 p = none → Q (.ref p) (upd H1 p (.lst xs))) := by
 intro F ρ L H vs ds W Q hR ha hp
 unfold bL at hp
 match e : aV ds with
 | none => rw [e] at hp; exact False.elim hp
 | some ps =>
  rw [e] at hp
  dsimp only at hp
  have hi := wD ha e
  by_cases hz : ps.length ≤ sizeLine
  ·rw [if_pos hz] at hp
   exact ⟨by rw [hi.len]; exact hz, fun p hp' => hp.lst hR hi hp'⟩
  ·rw [if_neg hz] at hp
   exact False.elim hp
theorem Wh : CallD g newD (fun xs H1 Q => xs.length ≤ sizeLine ∧ ∀ p, H1 p = none → Q (.ref p) (upd H1 p (.lst xs))) := by
 intro F ρ L H vs ds W Q hR ha hp
 unfold newD at hp
 match e : aV ds with
 | none => rw [e] at hp; exact False.elim hp
 | some ps =>
  rw [e] at hp
  dsimp only at hp
  have hi := wD ha e
  by_cases hz : ps.length ≤ sizeLine
  ·rw [if_pos hz] at hp
   exact ⟨by rw [hi.len]; exact hz, fun p hp' => hp.newL hR hi hp'⟩
  ·rw [if_neg hz] at hp
   exact False.elim hp
theorem wG {x1} (h : PA X es (tA g W fs)) : PE X (.Tuple es x1 pos) (tE g W (aO cV fs)) := PE.weak (pe_tup h) fun σ H Q q => wF Wf q
theorem jO (h : PA X es (tA g W fs)) : PE X (.List es pos) (tE g W (aO bL fs)) := PE.weak (pe_lst h) fun σ H Q q => wF Wg q
theorem zL (h : PA X es (tA g W fs)) : PE X (.List es pos) (tE g W (aO newD fs)) := PE.weak (pe_lst h) fun σ H Q q => wF Wh q
theorem rK {x : Str} {p : Pos} {id : String} {r : List V → Hp → VK → Prop} {op : List D → M D} (hc : CallR X (.builtin id) r) (hr : CallD g op r) (hg : Gl X x) (hm : X.mg x = none) (hv : bootBuiltins x = some (.builtin id)) (ha : PA X (e :: es) (tA g W fs)) (hn : x ≠ "__name__" := by decide) (hdb : (x == ("__debug__" : Str)) = false := by decide)
  (he : starEach (e :: es) X.env = (false, eval e X.env) :: starEach es X.env := by rfl) (hpl : (backTo pos (starEach es X.env)).any (·.1) = false := by rfl) : PE X (.Call (.Name x p) (e :: es) [] pos) (tE g W (aO op fs)) :=
 PE.weak (pe_callB hc hg hm hv ha hn hdb he hpl) fun σ H Q h => wF hr h
theorem pU {x : Str} {p : Pos} {T : String} {r : List V → Hp → VK → Prop} {op : List D → M D} (hc : CallR X (.type T) r) (hr : CallD g op r) (hg : Gl X x) (hm : X.mg x = none) (hv : bootBuiltins x = some (.type T)) (ha : PA X (e :: es) (tA g W fs)) (hn : x ≠ "__name__" := by decide) (hdb : (x == ("__debug__" : Str)) = false := by decide)
  (he : starEach (e :: es) X.env = (false, eval e X.env) :: starEach es X.env := by rfl) (hpl : (backTo pos (starEach es X.env)).any (·.1) = false := by rfl) : PE X (.Call (.Name x p) (e :: es) [] pos) (tE g W (aO op fs)) :=
 PE.weak (pe_callTy hc hg hm hv ha hn hdb he hpl) fun σ H Q h => wF hr h
end
end DN
end
section
namespace DN
open PySem L2
section
variable {X : Cx} {g : G} {W : WX} {a b c e o : Expr} {fa fb fc f : aA → M D} {pos : Pos} {es : List Expr} {fs : aA → M (List D)}
theorem zM {F : Hp} {ρ : Nat → Addr} {n : Nat} {vs : List V} {d : D} (h : fZ g F ρ n vs [d]) : ∃ v, vs = [v] ∧ IsD g F ρ n v d := by
 cases h with
 | cons h t => cases t; exact ⟨_, rfl, h⟩
theorem Wi {F : Hp} {ρ : Nat → Addr} {n : Nat} {vs : List V} (h : fZ g F ρ n vs []) : vs = [] := by
 cases h; rfl
def eG (k : D → M D) : List D → M D
 | [d] => k d
 | _ => M.stuck
theorem zN {k : D → M D} {r : List V → Hp → VK → Prop} (h : ∀ (F : Hp) (ρ : Nat → Addr) (L : List MO) (H : Hp) (x : V) (d : D) (W : Value → Option Addr → Hp → Prop) (Q : VK),
  R g F ρ L H → IsD g F ρ L.length x d → Post g (bT g) F ρ L.length W Q (k d L) → r [x] H Q) : CallD g (eG k) r := by
 intro F ρ L H vs ds W Q hR ha hp
 match ds, ha, hp with
 | [], _, hp => exact False.elim hp
 | _ :: _ :: _, _, hp => exact False.elim hp
 | [d], ha, hp =>
  obtain ⟨x, rfl, hx⟩ := zM ha
  exact h F ρ L H x d W Q hR hx hp
def fQ (L : List MO) : D → Option (List P)
 | .v (.tup xs) => some xs
 | d => cR L d
theorem Ly {F : Hp} {ρ : Nat → Addr} {L : List MO} {H : Hp} {x : V} {d : D} {xs : List P} (hR : R g F ρ L H) (hx : IsD g F ρ L.length x d) (h : fQ L d = some xs) : ∃ a vs, x = .ref a ∧ (SqL g.K H a vs ∨ (SqT g.K H a vs ∧ d = .v (.tup xs))) ∧ aP g F vs xs := by
 have lists : cR L d = some xs → ∃ a vs, x = .ref a ∧ (SqL g.K H a vs ∨ (SqT g.K H a vs ∧ d = .v (.tup xs))) ∧ aP g F vs xs := fun h => by
  obtain ⟨a, vs, e, h1, h2⟩ := rE hR hx h
  exact ⟨a, vs, e, .inl h1, h2⟩
 cases d with
 | r n => exact lists h
 | v p =>
  cases p with
  | tup ys =>
   cases h
   obtain ⟨a, vs, e, h1, h2⟩ := Is.inv_tup hx
   exact ⟨a, vs, e, .inr ⟨hR.sub.sqT h1, rfl⟩, h2⟩
  | _ => exact lists h
def jP : List D → M D := eG fun d L => match d with
 | .v (.str z) => if z.length ≤ sizeLine then some (.ok (.v (.int z.length)), L) else none
 | d => (fQ L d).map fun xs => (.ok (.v (.int xs.length)), L)
theorem wH {K : PySem.W.Frag} (hK : K = g.K) : CallD g jP (fun xs H Q => ∃ x n, xs = [x] ∧ LenV K x H n ∧ Q (.int n) H) := by
 subst hK
 refine zN fun F ρ L H x d W Q hR hx hp => ?_
 ·skip
  have seqs : Post g (bT g) F ρ L.length W Q ((fQ L d).map fun xs => (Res.ok (D.v (.int xs.length)), L)) → ∃ y n, [x] = [y] ∧ LenV g.K y H n ∧ Q (.int n) H := fun hp => by
   match e1 : fQ L d with
   | none => rw [e1] at hp; exact False.elim hp
   | some xs =>
    rw [e1] at hp
    obtain ⟨p, ws, rfl, h1, h2⟩ := Ly hR hx e1
    refine ⟨_, xs.length, rfl, ?_, hp.val hR (.int _)⟩
    rcases h1 with h1 | ⟨h1, _⟩
    ·exact .inl ⟨ws, h1, h2.len.symm⟩
    ·exact .inr ⟨ws, h1, h2.len.symm⟩
  cases d with
  | r n => exact seqs hp
  | v p =>
   cases p with
   | str z =>
    dsimp only at hp
    by_cases hz : z.length ≤ sizeLine
    ·rw [if_pos hz] at hp
     refine ⟨x, z.length, rfl, ?_, hp.val hR (.int _)⟩
     rw [Is.inv_str hx]
     exact ⟨hz, rfl⟩
    ·rw [if_neg hz] at hp
     exact False.elim hp
   | _ => exact seqs hp
def intD : List D → M D := eG fun d L => match d with
 | .v (.int i) => some (.ok (.v (.int i)), L)
 | _ => none
theorem pW : CallD g intD (fun xs H Q => (∃ i, xs = [.int i] ∧ Q (.int i) H) ∨ ∃ k, xs = [.bl k] ∧ Q (.int (if k then 1 else 0)) H) := by
 refine zN fun F ρ L H x d W Q hR hx hp => ?_
 cases d with
 | r n => exact False.elim hp
 | v p =>
  cases p with
  | int i => exact .inl ⟨i, by rw [Is.inv_int hx], hp.val hR (.int _)⟩
  | _ => exact False.elim hp
def intsOf : List P → Option (List Int)
 | [] => some []
 | .int i :: ps => (intsOf ps).map (i :: ·)
 | _ => none
theorem Lz {F : Hp} : ∀ {vs : List V} {ps : List P} {ns : List Int}, aP g F vs ps → intsOf ps = some ns → vs = ns.map V.int
 | _, [], _, h, e => by cases e; cases h; rfl
 | _, .int i :: ps, _, .cons h t, e => by
  unfold intsOf at e
  match e1 : intsOf ps with
  | none => rw [e1] at e; cases e
  | some ms =>
   rw [e1] at e
   cases e
   rw [Is.inv_int h, Lz t e1]
   rfl
def oO : List P → Option (List Bool)
 | [] => some []
 | .bl i :: ps => (oO ps).map (i :: ·)
 | _ => none
theorem Ma {F : Hp} : ∀ {vs : List V} {ps : List P} {ns : List Bool}, aP g F vs ps → oO ps = some ns → vs = ns.map V.bl
 | _, [], _, h, e => by cases e; cases h; rfl
 | _, .bl i :: ps, _, .cons h t, e => by
  unfold oO at e
  match e1 : oO ps with
  | none => rw [e1] at e; cases e
  | some ms =>
   rw [e1] at e
   cases e
   rw [Is.inv_bl h, Ma t e1]
   rfl
def zP : List D → M D := eG fun d L => ((cR L d).bind intsOf).map fun ns => (.ok (.v (.int ns.sum)), L)
theorem Wj {K : PySem.W.Frag} (hK : K = g.K) : CallD g zP (rSum K) := by
 subst hK
 refine zN fun F ρ L H x d W Q hR hx hp => ?_
 ·skip
  match e1 : cR L d with
  | none => rw [e1] at hp; exact False.elim hp
  | some xs =>
   rw [e1] at hp
   dsimp only [Option.bind] at hp
   match e2 : intsOf xs with
   | none => rw [e2] at hp; exact False.elim hp
   | some ns =>
    rw [e2] at hp
    obtain ⟨p, ws, rfl, h1, h2⟩ := rE hR hx e1
    rw [Lz h2 e2] at h1
    exact ⟨p, ns, rfl, h1, hp.val hR (.int _)⟩
def zQ : List D → M D := eG fun d L => ((cR L d).bind oO).map fun ns => (.ok (.v (.bl (ns.any id))), L)
theorem Wk {K : PySem.W.Frag} (hK : K = g.K) : CallD g zQ (rAny K) := by
 subst hK
 refine zN fun F ρ L H x d W Q hR hx hp => ?_
 ·skip
  match e1 : cR L d with
  | none => rw [e1] at hp; exact False.elim hp
  | some xs =>
   rw [e1] at hp
   dsimp only [Option.bind] at hp
   match e2 : oO xs with
   | none => rw [e2] at hp; exact False.elim hp
   | some ns =>
    rw [e2] at hp
    obtain ⟨p, ws, rfl, h1, h2⟩ := rE hR hx e1
    rw [Ma h2 e2] at h1
    exact ⟨p, ns, rfl, h1, hp.val hR (.bl _)⟩
def zR : List D → M D := eG fun d L => (fQ L d).map fun xs => (.ok (.v (.tup xs)), L)
def zU (mu : Bool) : List D → M D := eG fun d L => (fQ L d).map fun xs => if mu = true then (.ok (.r L.length), L ++ [.lst xs]) else (.ok (.v (.lst xs)), L)
end
end DN
end
section
namespace DN
open PySem L2
section
variable {X : Cx} {g : G} {W : WX} {a b c e o : Expr} {fa fb fc f : aA → M D} {pos : Pos} {es : List Expr} {fs : aA → M (List D)}
def gU (ty : List MO → D → Bool) (op : D → List D → M D) (f : aA → M D) (fs : aA → M (List D)) (τ : aA) : M D := do
 let x ← f τ
 let _ ← (fun L => if ty L x = true then some (.ok (), L) else none : M Unit)
 let ds ← fs τ
 op x ds
def pX (g : G) (op : D → List D → M D) (r : V → List V → Hp → VK → Prop) : Prop := ∀ (F : Hp) (ρ : Nat → Addr) (L : List MO) (H : Hp) (x : V) (d : D) (vs : List V) (ds : List D) (W : Value → Option Addr → Hp → Prop) (Q : VK),
 R g F ρ L H → IsD g F ρ L.length x d → fZ g F ρ L.length vs ds → Post g (bT g) F ρ L.length W Q (op d ds L) → r x vs H Q
def wI (g : G) (ty : List MO → D → Bool) (T : String) : Prop := ∀ (F : Hp) (ρ : Nat → Addr) (L : List MO) (H : Hp) (x : V) (d : D), R g F ρ L H → IsD g F ρ L.length x d → ty L d = true → tyV g.K T x H
def gW (L : List MO) (d : D) : Bool := (cR L d).isSome
theorem wJ : wI g gW "list" := by
 intro F ρ L H x d hR hx h
 unfold gW at h
 obtain ⟨xs, e⟩ := Option.isSome_iff_exists.mp h
 obtain ⟨a, vs, rfl, h1, _⟩ := rE hR hx e
 exact .inl ⟨rfl, vs, h1⟩
def wL (_ : List MO) : D → Bool
 | .v (.str _) => true
 | _ => false
theorem Mf : wI g wL "str" := by
 intro F ρ L H x d hR hx h
 cases d with
 | r n => cases h
 | v p =>
  cases p with
  | str z => rw [Is.inv_str hx]; rfl
  | _ => cases h
theorem Mg {ty : List MO → D → Bool} {T : String} {op : D → List D → M D} {r : V → List V → Hp → VK → Prop} (ht : wI g ty T) (hr : pX g op r) {σ : St} {H : Hp} {Q : VK} (h : tE g W (gU ty op f fs) σ H Q) : tBM g.K T r (tE g W f) (tA g W fs) σ H Q := by
 refine (Sat.bindV h).mono fun x H1 h1 => ?_
 obtain ⟨d, F, ρ, τ, L, hR, hS, hc, hp⟩ := h1
 have hx := hc (x, d) (by simp)
 by_cases hty : ty L d = true
 ·have hp2 : Post g (bT g) F ρ L.length (fun c d H' => W c d σ H') Q ((fs τ >>= op d) L) := by
   refine Eq.mp (congrArg (fun o => Post g (bT g) F ρ L.length (fun c d H' => W c d σ H') Q o) ?_) hp
   show M.bnd (fun L => if ty L d = true then some (Res.ok (), L) else none) _ L = _
   unfold M.bnd
   dsimp only
   rw [if_pos hty]
  have h2 : Sat g (bT g) W [(x, d)] (fun τ => fs τ >>= op d) σ H1 Q := ⟨F, ρ, τ, L, hR, hS, hc, hp2⟩
  refine ⟨ht F ρ L H1 x d hR hx hty, (Sat.bind (ra := fZ g) h2).mono fun xs H2 h3 => ?_⟩
  obtain ⟨F, ρ, τ, L, ds, hR, hS, hc, ha, hp⟩ := h3
  exact hr F ρ L H2 x d xs ds _ Q hR (hc (x, d) (by simp)) ha hp
 ·exfalso
  have hp2 : Post g (bT g) F ρ L.length (fun c d H' => W c d σ H') Q none := by
   refine Eq.mp (congrArg (fun o => Post g (bT g) F ρ L.length (fun c d H' => W c d σ H') Q o) ?_) hp
   show M.bnd (fun L => if ty L d = true then some (Res.ok (), L) else none) _ L = none
   unfold M.bnd
   dsimp only
   rw [if_neg hty]
  exact hp2
theorem uD {T id : String} {name : Str} {apos : Pos} {ty : List MO → D → Bool} {op : D → List D → M D} {r : V → List V → Hp → VK → Prop} (hK : X.K = g.K) (pa : PlainAttrs T) (slot : Slot T name id) (hty : typeOf (.builtin id) = pure (.type "method_descriptor")) (hm : MtR X id r) (ht : wI g ty T) (hr : pX g op r) (ho : PE X o (tE g W f)) (ha : PA X (e :: es) (tA g W fs))
  (hbase : attributeBase o name X.env (eval o X.env) = eval o X.env := by rfl)
  (hfew : ((backTo pos (starEach (e :: es) X.env)).all (fun x => !x.1) && (backToKw pos (keywordEach [] X.env)).all (fun x => x.1.isSome)
   && decide ((e :: es).length + ([] : List Keyword).length + (if ([] : List Keyword).isEmpty then 0 else 1) < 30)) = true := by rfl)
  (hline : (apos.endLine == pos.line) = true := by rfl) (hs : starEach (e :: es) X.env = (false, eval e X.env) :: starEach es X.env := by rfl) (hplain : (backTo pos (starEach es X.env)).any (·.1) = false := by rfl) :
  PE X (.Call (.Attribute o name apos) (e :: es) [] pos) (tE g W (gU ty op f fs)) :=
 PE.weak (pe_bm pa slot hty hm ho ha hbase hfew hline hs hplain) fun σ H Q h => by
  rw [hK]
  exact Mg ht hr h
theorem Wm {T id : String} {name : Str} {apos : Pos} {ty : List MO → D → Bool} {op : D → List D → M D} {r : V → List V → Hp → VK → Prop} (hK : X.K = g.K) (pa : PlainAttrs T) (slot : Slot T name id) (hty : typeOf (.builtin id) = pure (.type "method_descriptor")) (hm : MtR X id r) (ht : wI g ty T) (hr : pX g op r) (ho : PE X o (tE g W f))
  (hbase : attributeBase o name X.env (eval o X.env) = eval o X.env := by rfl) (hline : (apos.endLine == pos.line) = true := by rfl) : PE X (.Call (.Attribute o name apos) [] [] pos) (tE g W (gU ty op f aM)) :=
 PE.weak (pe_bm0 pa slot hty hm ho hbase hline) fun σ H Q h => by
  rw [hK]
  have h' := Mg (W := W) (fs := aM) ht hr h
  refine Sat.mono h' fun x H1 ⟨q1, q2⟩ => ⟨q1, ?_⟩
  obtain ⟨F, ρ, τ, L, hR, hS, hc, hp⟩ := q2
  exact hp F ρ [] H1 Ext.refl hR .nil
theorem Post.putL {F : Hp} {ρ : Nat → Addr} {L : List MO} {H : Hp} {x : V} {n : Nat} {xs ys : List P} {p : P} {v : V} {us vs : List V} {W : Value → Option Addr → Hp → Prop} {Q : VK} (hR : R g F ρ L H) (e : L[n]? = some (.lst xs))
  (hp : Post g (bT g) F ρ L.length W Q (some (.ok (.v p), L.set n (.lst ys)))) (hv : Is g F v p) (hy : aP g F vs ys) : Q v (upd H (ρ n) (.lst vs)) := by
 have e1 : (L.set n (MO.lst ys)).length = L.length := by rw [List.length_set]
 refine hp F ρ v _ (by rw [e1]; exact Ext.refl) (hR.put e (by intro z; cases z) _ _ ⟨vs, upd_same, hy⟩) ?_
 exact hv
theorem R.lstAt {F : Hp} {ρ : Nat → Addr} {L : List MO} {H : Hp} {n : Nat} {xs : List P} (hR : R g F ρ L H) (e : L[n]? = some (.lst xs)) : ∃ vs, H (ρ n) = some (.lst vs) ∧ aP g F vs xs :=
 (hR.ent n _ e (by intro z; cases z)).2
def iU (k : Nat → List P → List D → M D) : D → List D → M D := fun x ds L => match x with
 | .r n => match L[n]? with
  | some (.lst xs) => k n xs ds L
  | _ => none
 | _ => none
theorem Wn {k : Nat → List P → List D → M D} {r : V → List V → Hp → VK → Prop} (h : ∀ (F : Hp) (ρ : Nat → Addr) (L : List MO) (H : Hp) (n : Nat) (xs : List P) (us vs : List V) (ds : List D) (W : Value → Option Addr → Hp → Prop) (Q : VK),
  R g F ρ L H → L[n]? = some (.lst xs) → H (ρ n) = some (.lst us) → aP g F us xs → fZ g F ρ L.length vs ds → Post g (bT g) F ρ L.length W Q (k n xs ds L) → r (.ref (ρ n)) vs H Q) : pX g (iU k) r := by
 intro F ρ L H x d vs ds W Q hR hx ha hp
 unfold iU at hp
 cases d with
 | v p => exact False.elim hp
 | r n =>
  dsimp only at hp
  match e : L[n]? with
  | some (.lst xs) =>
   rw [e] at hp
   obtain ⟨us, h1, h2⟩ := hR.lstAt e
   rw [hx.2]
   exact h F ρ L H n xs us vs ds W Q hR e h1 h2 ha hp
  | none => rw [e] at hp; exact False.elim hp
  | some (.dk _) => rw [e] at hp; exact False.elim hp
  | some (.dn _) => rw [e] at hp; exact False.elim hp
  | some (.ins _ _) => rw [e] at hp; exact False.elim hp
  | some (.set _) => rw [e] at hp; exact False.elim hp
  | some .dead => rw [e] at hp; exact False.elim hp
def jC : D → List D → M D := iU fun n xs ds L => match ds with
 | [.v p] => if xs.length < sizeLine then some (.ok (.v .non), L.set n (.lst (xs ++ [p]))) else none
 | _ => none
theorem wM : pX g jC rAppend := Wn fun F ρ L H n xs us vs ds W Q hR e h1 h2 ha hp => by
 match ds, ha, hp with
 | [.v p], ha, hp =>
  obtain ⟨v, rfl, hv⟩ := zM ha
  dsimp only at hp
  by_cases hz : xs.length < sizeLine
  ·rw [if_pos hz] at hp
   exact ⟨ρ n, us, v, rfl, rfl, h1, by rw [h2.len]; exact hz, hp.putL (us := us) (x := v) hR e Is.non (h2.append (.cons hv .nil))⟩
  ·rw [if_neg hz] at hp
   exact False.elim hp
 | [], _, hp => exact False.elim hp
 | [.r _], _, hp => exact False.elim hp
 | .v _ :: _ :: _, _, hp => exact False.elim hp
 | .r _ :: _ :: _, _, hp => exact False.elim hp
end
end DN
end
section
namespace DN
open PySem L2
abbrev Itm := List P × (List MO → Prop)
def lQ (g : G) (F0 : Hp) (ρ0 : Nat → Addr) (n0 : Nat) (J : It) (s : Itm) : Prop := ∀ (F : Hp) (ρ : Nat → Addr) (L : List MO) (H : Hp), Ext F0 ρ0 n0 F ρ L.length → R g F ρ L H → s.2 L →
 (∀ i p, s.1[i]? = some p → J.go i H ∧ ∀ x H', J.yld i H x H' → ∃ F', Sub F F' ∧ R g F' ρ L H' ∧ Is g F' x p) ∧ J.stop s.1.length H
def tI (g : G) (W : WX) (f : aA → M Itm) : TI := fun σ H R' => Sat g (lQ g) W [] f σ H R'
theorem PI.weak {X : Cx} {tg e : Expr} {t t' : TI} (h : PI X tg e t) (w : ∀ σ H Q, t' σ H Q → t σ H Q) : PI X tg e t' := ⟨fun pins s σ H Q I q => h.run pins s σ H Q I (w σ H Q q)⟩
theorem PI.or {X : Cx} {tg e : Expr} {t t' : TI} (h : PI X tg e t) (h' : PI X tg e t') : PI X tg e (fun σ H Q => t σ H Q ∨ t' σ H Q) := ⟨fun pins s σ H Q I q => by
 rcases q with q | q
 ·exact h.run pins s σ H Q I q
 ·exact h'.run pins s σ H Q I q⟩
def chars (z : Str) : List P := z.cps.toList.map fun c => P.str ⟨#[c]⟩
def fU : D → M Itm := fun d L => match d with
 | .v (.tup xs) => some (.ok (xs, fun _ => True), L)
 | .v (.str z) => some (.ok (chars z, fun _ => True), L)
 | .v (.lst xs) => some (.ok (xs, fun _ => True), L)
 | .v (.scr ns) => some (.ok (ns.map P.int, fun _ => True), L)
 | .r n => match L[n]? with
  | some (.lst xs) => some (.ok (xs, fun L' => L'[n]? = some (.lst xs)), L)
  | _ => none
 | _ => none
section
variable {X : Cx} {g : G} {W : WX} {a b c e o tg : Expr} {fa fb fc f : aA → M D} {ta : aA → M Bool} {pos : Pos} {es : List Expr} {fs : aA → M (List D)} {s1 s2 : SX}
theorem Ep {F0 : Hp} {ρ0 : Nat → Addr} {n0 : Nat} {ad : Addr} {ok : List MO → Prop} {xs : List P} (h : ∀ (F : Hp) (ρ : Nat → Addr) (L : List MO) (H : Hp), Ext F0 ρ0 n0 F ρ L.length → R g F ρ L H → ok L → ∃ vs, SqL g.K H ad vs ∧ aP g F vs xs) : lQ g F0 ρ0 n0 (Itl g.K ad) (xs, ok) := by
 intro F ρ L H hE hR hk
 obtain ⟨vs, h1, h2⟩ := h F ρ L H hE hR hk
 refine ⟨fun i p hp => ?_, vs, h1, by rw [h2.len]; exact Nat.le_refl _⟩
 obtain ⟨v, h3, h4⟩ := h2.get hp
 refine ⟨⟨vs, v, h1, h3⟩, fun x H' hy => ?_⟩
 obtain ⟨rfl, hy⟩ := hy
 have e1 := hy vs h1
 rw [h3] at e1
 cases e1
 exact ⟨F, Sub.refl _, hR, h4⟩
theorem Wo {F0 : Hp} {ρ0 : Nat → Addr} {n0 : Nat} {ad : Addr} {ok : List MO → Prop} {xs : List P} (h : ∀ (F : Hp) (ρ : Nat → Addr) (L : List MO) (H : Hp), Ext F0 ρ0 n0 F ρ L.length → R g F ρ L H → ok L → ∃ vs, SqT g.K H ad vs ∧ aP g F vs xs) : lQ g F0 ρ0 n0 (Itt g.K ad) (xs, ok) := by
 intro F ρ L H hE hR hk
 obtain ⟨vs, h1, h2⟩ := h F ρ L H hE hR hk
 refine ⟨fun i p hp => ?_, vs, h1, by rw [h2.len]; exact Nat.le_refl _⟩
 obtain ⟨v, h3, h4⟩ := h2.get hp
 refine ⟨⟨vs, v, h1, h3⟩, fun x H' hy => ?_⟩
 obtain ⟨rfl, hy⟩ := hy
 have e1 := hy vs h1
 rw [h3] at e1
 cases e1
 exact ⟨F, Sub.refl _, hR, h4⟩
theorem Wr {F0 : Hp} {ρ0 : Nat → Addr} {n0 : Nat} {ok : List MO → Prop} (z : Str) : lQ g F0 ρ0 n0 (Its z) (chars z, ok) := by
 intro F ρ L H hE hR hk
 have hl : (chars z).length = z.cps.size := by unfold chars; rw [List.length_map, Array.length_toList]
 refine ⟨fun i p hp => ?_, by rw [hl]; exact Nat.le_refl _⟩
 have hi : i < z.cps.size := by rw [← hl]; exact (List.getElem?_eq_some_iff.mp hp).1
 refine ⟨hi, fun x H' hy => ?_⟩
 obtain ⟨rfl, c, hc, rfl⟩ := hy
 refine ⟨F, Sub.refl _, hR, ?_⟩
 unfold chars at hp
 rw [List.getElem?_map, Array.getElem?_toList, hc] at hp
 cases hp
 exact .str _
theorem Ws {F0 : Hp} {ρ0 : Nat → Addr} {n0 : Nat} {ok : List MO → Prop} (lo : Int) (n : Nat) : lQ g F0 ρ0 n0 (Itr lo n) ((List.range n).map (fun i : Nat => P.int (lo + i)), ok) := by
 intro F ρ L H hE hR hk
 have hl : ((List.range n).map (fun i : Nat => P.int (lo + i))).length = n := by rw [List.length_map, List.length_range]
 refine ⟨fun i p hp => ?_, by show n ≤ _; rw [hl]; exact Nat.le_refl _⟩
 have hi : i < n := by rw [← hl]; exact (List.getElem?_eq_some_iff.mp hp).1
 refine ⟨hi, fun x H' hy => ?_⟩
 obtain ⟨rfl, rfl⟩ := hy
 refine ⟨F, Sub.refl _, hR, ?_⟩
 rw [List.getElem?_map, List.getElem?_range hi] at hp
 cases hp
 exact .int _
def wN (f : aA → M D) (τ : aA) : M Itm := f τ >>= fU
theorem Wu {F : Hp} {ρ : Nat → Addr} {L : List MO} {H : Hp} {x : V} {d : D} {Wq : Value → Option Addr → Hp → Prop} {Q : It → Hp → Prop} (hR : R g F ρ L H) (hx : IsD g F ρ L.length x d) (h1 : ∀ xs, d ≠ .v (.tup xs)) (h2 : ∀ z, d ≠ .v (.str z)) (hp : Post g (lQ g) F ρ L.length Wq Q (fU d L)) :
  ∃ a, x = .ref a ∧ (∃ xs, SqL g.K H a xs) ∧ Q (Itl g.K a) H := by
 cases d with
 | r n =>
  unfold fU at hp
  dsimp only at hp
  match e : L[n]? with
  | some (.lst xs) =>
   rw [e] at hp
   obtain ⟨us, h1, h2⟩ := hR.lstAt e
   refine ⟨ρ n, hx.2, ⟨us, SqL.of h1⟩, hp F ρ _ H Ext.refl hR (Ep fun F' ρ' L' H' hE hR' hk => ?_)⟩
   obtain ⟨vs, q1, q2⟩ := hR'.lstAt hk
   exact ⟨vs, by rw [← hE.rho n hx.1]; exact SqL.of q1, q2⟩
  | none => rw [e] at hp; exact False.elim hp
  | some (.dk _) => rw [e] at hp; exact False.elim hp
  | some (.dn _) => rw [e] at hp; exact False.elim hp
  | some (.ins _ _) => rw [e] at hp; exact False.elim hp
  | some (.set _) => rw [e] at hp; exact False.elim hp
  | some .dead => rw [e] at hp; exact False.elim hp
 | v p =>
  cases p with
  | tup xs => exact absurd rfl (h1 xs)
  | lst xs =>
   obtain ⟨a, vs, e1, h1, h2⟩ := Is.inv_lst hx
   refine ⟨a, e1, ⟨vs, SqL.of (hR.sub _ _ h1)⟩, hp F ρ _ H Ext.refl hR (Ep fun F' ρ' L' H' hE hR' hk => ⟨vs, SqL.of (hR'.sub _ _ (hE.sub _ _ h1)), aP.mono hE.sub h2⟩)⟩
  | scr ns =>
   cases hx with
   | scr h1 => exact ⟨_, rfl, ⟨_, hR.sub.sqL h1⟩, hp F ρ _ H Ext.refl hR (Ep fun F' ρ' L' H' hE hR' hk => ⟨_, hR'.sub.sqL (hE.sub.sqL h1), Ef g F' ns⟩)⟩
  | str z => exact absurd rfl (h2 z)
  | _ => exact False.elim hp
theorem Wv {F : Hp} {ρ : Nat → Addr} {L : List MO} {H : Hp} {x : V} {xs : List P} {Wq : Value → Option Addr → Hp → Prop} {Q : It → Hp → Prop} (hR : R g F ρ L H) (hx : IsD g F ρ L.length x (.v (.tup xs))) (hp : Post g (lQ g) F ρ L.length Wq Q (fU (.v (.tup xs)) L)) :
  ∃ a, x = .ref a ∧ (∃ xs, SqT g.K H a xs) ∧ Q (Itt g.K a) H := by
 obtain ⟨a, vs, e1, h1, h2⟩ := Is.inv_tup hx
 exact ⟨a, e1, ⟨vs, hR.sub.sqT h1⟩, hp F ρ _ H Ext.refl hR (Wo fun F' ρ' L' H' hE hR' hk => ⟨vs, hR'.sub.sqT (hE.sub.sqT h1), aP.mono hE.sub h2⟩)⟩
theorem Ww {F : Hp} {ρ : Nat → Addr} {L : List MO} {H : Hp} {x : V} {z : Str} {Wq : Value → Option Addr → Hp → Prop} {Q : It → Hp → Prop} (hR : R g F ρ L H) (hx : IsD g F ρ L.length x (.v (.str z))) (hp : Post g (lQ g) F ρ L.length Wq Q (fU (.v (.str z)) L)) :
  ∃ z, x = .str z ∧ Q (Its z) H := ⟨z, Is.inv_str hx, hp F ρ _ H Ext.refl hR (Wr z)⟩
theorem Es (hK : X.K = g.K) (he : PE X e (tE g W f)) : PI X tg e (tI g W (wN f)) := by
 refine PI.weak (PI.or (pi_list he) (PI.or (pi_tup he) (pi_str he))) fun σ H Q h => ?_
 obtain ⟨F, ρ, τ, L, hR, hS, hc, hp⟩ := h
 have hp' : Post g (lQ g) F ρ L.length (fun c d H' => W c d σ H') Q (M.bnd (f τ) fU L) := hp
 unfold M.bnd at hp'
 rw [hK]
 match e : f τ L with
 | none => rw [e] at hp'; exact False.elim hp'
 | some (.ex c fs, L1) =>
  rw [e] at hp'
  exact .inl ⟨F, ρ, τ, L, hR, hS, hc, by rw [e]; exact hp'⟩
 | some (.ok d, L1) =>
  rw [e] at hp'
  by_cases h1 : ∃ xs, d = .v (.tup xs)
  ·obtain ⟨xs, rfl⟩ := h1
   refine .inr (.inl ⟨F, ρ, τ, L, hR, hS, hc, ?_⟩)
   rw [e]
   exact fun F1 ρ1 x H1 a1 a2 a3 => Wv a2 a3 (hp'.ext a1)
  ·by_cases h2 : ∃ z, d = .v (.str z)
   ·obtain ⟨z, rfl⟩ := h2
    refine .inr (.inr ⟨F, ρ, τ, L, hR, hS, hc, ?_⟩)
    rw [e]
    exact fun F1 ρ1 x H1 a1 a2 a3 => Ww a2 a3 (hp'.ext a1)
   ·refine .inl ⟨F, ρ, τ, L, hR, hS, hc, ?_⟩
    rw [e]
    exact fun F1 ρ1 x H1 a1 a2 a3 => Wu a2 a3 (fun xs z => h1 ⟨xs, z⟩) (fun z q => h2 ⟨z, q⟩) (hp'.ext a1)
noncomputable def oR : List D → M Itm := fun ds L => match ds with
 | [.v (.int j)] => @ite _ (-(2 ^ 62) ≤ j ∧ j < 2 ^ 62) (Classical.propDecidable _) (some (.ok ((List.range j.toNat).map (fun i : Nat => P.int (0 + i)), fun _ => True), L)) none
 | _ => none
def uE (op : List D → M Itm) (fs : aA → M (List D)) (τ : aA) : M Itm := fs τ >>= op
theorem zV {p : Pos} (hg : Gl X "range") (hm : X.mg "range" = none) (ha : PA X [a] (tA g W fs)) (hs : starEach [a] X.env = [(false, eval a X.env)] := by rfl) : PI X tg (.Call (.Name "range" p) [a] [] pos) (tI g W (uE oR fs)) := by
 refine PI.weak (pi_range1 hg hm ha hs) fun σ H Q h => ?_
 refine (Sat.bind (ra := fZ g) h).mono fun xs H2 h2 => ?_
 obtain ⟨F, ρ, τ, L, ds, hR, hS, hc, hr, hp⟩ := h2
 unfold oR at hp
 match ds, hr, hp with
 | [.v (.int j)], hr, hp =>
  obtain ⟨v, rfl, hv⟩ := zM hr
  dsimp only at hp
  by_cases hz : -(2 ^ 62) ≤ j ∧ j < 2 ^ 62
  ·rw [if_pos hz] at hp
   exact ⟨j, by rw [Is.inv_int hv], hz.1, hz.2, hp F ρ _ H2 Ext.refl hR (Ws 0 j.toNat)⟩
  ·rw [if_neg hz] at hp
   exact False.elim hp
abbrev dF := P → aA → Option aA
def Et (g : G) (t : TG) (tg : dF) : Prop := ∀ (F : Hp) (ρ : Nat → Addr) (n : Nat) (L : List MO) (H : Hp) (v : V) (p : P) (σ : St) (τ τ' : aA) (Q : St → Hp → Prop), R g F ρ L H → Sl g F ρ L.length σ τ → Is g F v p → tg p τ = some τ' →
 (∀ σ', Sl g F ρ L.length σ' τ' → Q σ' H) → t v σ H Q
def oU (i : Nat) : dF := fun p τ => some (τ.set i (some (.v p)))
theorem zW (i : Nat) : Et g (gName i) (oU i) := by
 intro F ρ n L H v p σ τ τ' Q hR hS hv e hQ
 cases e
 exact hQ _ (hS.set (v := v) (d := .v p) hv i)
open Classical in
noncomputable def jQ (ok : List MO → Prop) (tg : dF) (body : SX) : List P → SX
 | [] => fun τ L => if ok L then some (.nx τ, L) else none
 | p :: ps => fun τ L => if ok L then (match tg p τ with
   | none => none
   | some τ1 => match body τ1 L with
    | some (.nx τ2, L2) => jQ ok tg body ps τ2 L2
    | some (.ct τ2, L2) => jQ ok tg body ps τ2 L2
    | some (.bk τ2, L2) => some (.nx τ2, L2)
    | o => o) else none
noncomputable def rM (src : aA → M Itm) (tg : dF) (body : SX) : SX := bW src fun it => jQ it.2 tg body it.1
theorem Wx {wi : aA → M Itm} {t : TG} {tg : dF} (ht : Et g t tg) {D : Ends} {σ : St} {H : Hp} (h : tS g W (rM wi tg s1) D σ H) : tFor (tI g W wi) t (tS g W s1) D σ H := by
 refine (dR.bind (ra := lQ g) h).mono fun J H1 h1 => ?_
 obtain ⟨F0, ρ0, τ0, L0, it, hR0, hS0, _, hsrc, hp0⟩ := h1
 obtain ⟨xs, ok⟩ := it
 refine ⟨fun i m σ H => m = xs.length - i ∧ i ≤ xs.length ∧ ∃ F ρ τ L, Ext F0 ρ0 L0.length F ρ L.length ∧ R g F ρ L H ∧ Sl g F ρ L.length σ τ ∧ eV g F ρ L.length W D (jQ ok tg s1 (xs.drop i) τ L),
  ⟨xs.length, by simp, Nat.zero_le _, F0, ρ0, τ0, L0, Ext.refl, hR0, hS0, hp0⟩, ?_⟩
 rintro i m σ2 H2 ⟨rfl, hi, F, ρ, τ, L, hE, hR, hS, hp⟩
 by_cases hlt : i < xs.length
 ·refine .inr ?_
  have e0 : xs[i]? = some xs[i] := List.getElem?_eq_getElem hlt
  rw [List.drop_eq_getElem_cons hlt] at hp
  unfold jQ at hp
  by_cases hk : ok L
  ·rw [if_pos hk] at hp
   obtain ⟨go, yl⟩ := (hsrc F ρ L H2 hE hR hk).1 i _ e0
   refine ⟨go, fun σ' H' => i + 1 ≤ xs.length ∧ ∃ F ρ τ L, Ext F0 ρ0 L0.length F ρ L.length ∧ R g F ρ L H' ∧ Sl g F ρ L.length σ' τ ∧ eV g F ρ L.length W D (jQ ok tg s1 (xs.drop (i + 1)) τ L), fun σ' H' q => ⟨xs.length - (i + 1), by omega, rfl, q⟩, fun x H' hy => ?_⟩
   obtain ⟨F', sb, hR', hx⟩ := yl x H' hy
   have e1 : Ext F ρ L.length F' ρ L.length := ⟨sb, fun _ _ => rfl, Nat.le_refl _⟩
   match et : tg xs[i] τ with
   | none => rw [et] at hp; exact False.elim hp
   | some τ1 =>
    rw [et] at hp
    dsimp only at hp
    refine ht F' ρ 0 L H' x _ σ2 τ τ1 _ hR' (hS.ext e1) hx et fun σ3 hS3 => ⟨F', ρ, τ1, L, hR', hS3, (fun y hy => by cases hy), ?_⟩
    match eb : s1 τ1 L with
    | none => rw [eb] at hp; exact hp
    | some (.nx τ2, L2) =>
     rw [eb] at hp
     exact fun F3 ρ3 H3 σ4 x1 x2 x3 => ⟨hlt, F3, ρ3, τ2, L2, hE.trans (e1.trans x1), x2, x3, hp.ext (e1.trans x1)⟩
    | some (.ct τ2, L2) =>
     rw [eb] at hp
     exact fun F3 ρ3 H3 σ4 x1 x2 x3 => ⟨hlt, F3, ρ3, τ2, L2, hE.trans (e1.trans x1), x2, x3, hp.ext (e1.trans x1)⟩
    | some (.bk τ2, L2) =>
     rw [eb] at hp
     exact fun F3 ρ3 H3 σ4 x1 x2 x3 => hp F3 ρ3 H3 σ4 (e1.trans x1) x2 x3
    | some (.rt d, L2) =>
     rw [eb] at hp
     exact eV.ext (D := D) (W := W) e1 hp
    | some (.ex τ2 c fs, L2) =>
     rw [eb] at hp
     exact eV.ext (D := D) (W := W) e1 hp
  ·rw [if_neg hk] at hp
   exact False.elim hp
 ·have e : i = xs.length := by omega
  subst e
  rw [List.drop_length] at hp
  unfold jQ at hp
  by_cases hk : ok L
  ·rw [if_pos hk] at hp
   exact .inl ⟨(hsrc F ρ L H2 hE hR hk).2, hp F ρ H2 σ2 Ext.refl hR hS⟩
  ·rw [if_neg hk] at hp
   exact False.elim hp
theorem zX {iter : Expr} {body : List Stmt} {wi : aA → M Itm} {t : TG} {td : dF} (hp : PassesOwn (model X.prog X.w) X.A X.env X.xe) (hc : X.calm = true) (hi : PI X tg iter (tI g W wi)) (hg : PG X tg t) (ht : Et g t td) (hb : PSs X body (tS g W s1))
  (hs : ∀ x, foldedSetIterable iter X.env x = pure x := by intro _; rfl) : PS X (.For tg iter body [] pos) (tS g W (rM wi td s1)) := PS.weak (ps_for hp hc hi hg hb hs) fun D σ H h => Wx ht h
end
end DN
end
section
namespace DN
open PySem PySem.Spec PyProof.Rows L2
def gG (g : G) (n : Nat) (f : List D → M D) : Sp := fun vs H Q E => ∃ F ρ L ds, R g F ρ L H ∧ fZ g F ρ L.length vs ds ∧ ds.length = n ∧ Post g (bT g) F ρ L.length E Q (f ds L)
def bV (N : Nat) (s : SX) (ds : List D) : M D := fun L => match s (ds.map some ++ List.replicate (N - ds.length) none) L with
 | some (.nx _, L1) => some (.ok (.v .non), L1)
 | some (.rt d, L1) => some (.ok d, L1)
 | some (.ex _ c fs, L1) => some (.ex c fs, L1)
 | _ => none
theorem Sl.start {g : G} {F : Hp} {ρ : Nat → Addr} {n m : Nat} : ∀ {vs : List V} {ds : List D}, fZ g F ρ n vs ds → Sl g F ρ n (vs.map some ++ List.replicate m none) (ds.map some ++ List.replicate m none) := by
 intro vs ds h
 have hl := rD h
 refine ⟨by simp [hl], fun i d q => ?_⟩
 by_cases hi : i < ds.length
 ·rw [List.getElem?_append_left (by simpa using hi), List.getElem?_map] at q
  rw [List.getElem?_append_left (by simp [hl]; exact hi), List.getElem?_map]
  have key : ∀ {vs : List V} {ds : List D} {i : Nat} {d : D}, Paired (fun v d => IsD g F ρ n v d) vs ds → ds[i]? = some d → ∃ v, vs[i]? = some v ∧ IsD g F ρ n v d := by
   intro vs ds i d h
   induction h generalizing i with
   | nil => intro q; simp at q
   | cons h t ih =>
    cases i with
    | zero => intro q; simp at q; subst q; exact ⟨_, rfl, h⟩
    | succ i => intro q; simpa using ih (by simpa using q)
  cases e : ds[i]? with
  | none => rw [e] at q; cases q
  | some d' =>
   rw [e] at q
   cases q
   obtain ⟨v, h1, h2⟩ := key h e
   exact ⟨v, by rw [h1]; rfl, h2⟩
 ·rw [List.getElem?_append_right (by simpa using Nat.not_lt.mp hi), List.getElem?_replicate] at q
  split at q <;> cases q
section
variable {P0 : Program} {w : World} {K : PySem.W.Frag} {mg : Str → Option Value} {base : Heap} {g : G}
theorem fn_ok {x qual : Str} {st : Stmt} {f : Addr} {fd : FuncData} {N ps : List Str} {k m n : Nat} {s : SX} (F : Fun K x qual st f fd) (S : FnScope N ps (defScope st)) (hm : N.length = m) (hn : ps.length = n)
  (hb : ∀ (cdv : Value) (A : Around) (outer : List Env) (s0 : Shared) (H : Hp) (E : XK), Room k (A.deeper (envOfC qual (defScope st) s0.heap.objs.size f cdv)) →
   Takes (cxOf (L2.CX P0 w) P0 w K mg base N qual (defScope st) f cdv A outer s0 H E) (fun cls d _ H => E cls d H) →
   PassesOwn (model P0 w) (A.deeper (envOfC qual (defScope st) s0.heap.objs.size f cdv)) (envOfC qual (defScope st) s0.heap.objs.size f cdv) (cxOf (L2.CX P0 w) P0 w K mg base N qual (defScope st) f cdv A outer s0 H E).xe →
   PSs (cxOf (L2.CX P0 w) P0 w K mg base N qual (defScope st) f cdv A outer s0 H E) (defBody st) (tS g (fun cls d _ H => E cls d H) s)) :
  FnOk P0 w K mg base (L2.CX P0 w) (k + 1) f fd ps (gG g n (bV m s)) := by
 refine F.okX S (fun vs H Q E h => ?_) (fun cdv A outer s0 H vs Q E hr h => ?_)
 ·obtain ⟨_, _, _, ds, _, ha, hl, _⟩ := h
  rw [rD ha, hl, hn]
 ·obtain ⟨F0, ρ, L, ds, hR, ha, hl, hp⟩ := h
  refine ⟨_, hb cdv A outer s0 H E hr (takes_of rfl rfl rfl rfl) PassesOwn.leaving, F0, ρ, ds.map some ++ List.replicate (m - ds.length) none, L, hR, ?_, (fun y hy => by cases hy), ?_⟩
  ·unfold L2.start
   rw [hm, rD ha]
   exact Sl.start ha
  ·unfold bV at hp
   match e : s (ds.map some ++ List.replicate (m - ds.length) none) L with
   | none => rw [e] at hp; exact hp
   | some (.nx _, L1) =>
    rw [e] at hp
    exact fun F' ρ' H' σ' x1 x2 x3 => hp F' ρ' _ H' x1 x2 Is.non
   | some (.rt d, L1) =>
    rw [e] at hp
    exact fun F' ρ' H' v x1 x2 x3 => hp F' ρ' v H' x1 x2 x3
   | some (.ex _ c fs, L1) =>
    rw [e] at hp
    exact fun F' ρ' dx vs' H' σ' x1 x2 x3 x4 x5 x6 => hp F' ρ' dx vs' H' x1 x2 x4 x5 x6
   | some (.bk _, L1) => rw [e] at hp; exact False.elim hp
   | some (.ct _, L1) => rw [e] at hp; exact False.elim hp
def okR (n : Nat) : D → Prop
 | .v _ => True
 | .r k => k < n
def MO.okR (n : Nat) : MO → Prop
 | .ins _ fs => ∀ y ∈ fs, DN.okR n y.2
 | _ => True
def aW (L L' : List MO) : Prop := L.length ≤ L'.length ∧ ∀ i m, i < L.length → L'[i]? = some m → L[i]? = some m ∨ MO.okR L.length m
theorem IsD.okR {F : Hp} {ρ : Nat → Addr} {n : Nat} {v : V} {d : D} (h : IsD g F ρ n v d) : DN.okR n d := by
 cases d with
 | v p => trivial
 | r k => exact h.1
theorem Mh {α β : Type} {A : α → β → Prop} {B : β → Prop} (f : ∀ x y, A x y → B y) : ∀ {xs : List α} {ys : List β}, Paired A xs ys → ∀ y ∈ ys, B y
 | _, _, .nil, _, h => by cases h
 | _, _, .cons h t, y, hy => by
  rcases List.mem_cons.mp hy with z | hy
  ·rw [z]; exact f _ _ h
  ·exact Mh f t y hy
theorem gK.okR {F : Hp} {ρ : Nat → Addr} {n : Nat} {H : Hp} {a : Addr} {m : MO} (h : gK g F ρ n H a m) : MO.okR n m := by
 cases m with
 | ins c fs =>
  obtain ⟨dx, vs, _, h1, _⟩ := h
  exact Mh (fun x y z => IsD.okR z.2) h1
 | _ => trivial
theorem R.okR {F : Hp} {ρ : Nat → Addr} {L : List MO} {H : Hp} (h : R g F ρ L H) {i : Nat} {m : MO} (e : L[i]? = some m) : MO.okR L.length m := by
 by_cases nd : m = .dead
 ·subst nd; trivial
 ·exact (h.ent i m e nd).2.okR
theorem IsD.down {F : Hp} {ρ ρ' : Nat → Addr} {n n' : Nat} {v : V} {d : D} (hr : ∀ i, i < n → ρ' i = ρ i) (h : IsD g F ρ' n' v d) (ho : DN.okR n d) : IsD g F ρ n v d := by
 cases d with
 | v p => exact h
 | r k => exact ⟨ho, by rw [← hr k ho]; exact h.2⟩
theorem Mi {α β : Type} {A B : α → β → Prop} {C : β → Prop} (f : ∀ x y, A x y → C y → B x y) : ∀ {xs : List α} {ys : List β}, Paired A xs ys → (∀ y ∈ ys, C y) → Paired B xs ys
 | _, _, .nil, _ => .nil
 | _, _, .cons h t, k => .cons (f _ _ h (k _ List.mem_cons_self)) (Mi f t fun y hy => k y (List.mem_cons_of_mem _ hy))
theorem gK.down {F : Hp} {ρ ρ' : Nat → Addr} {n n' : Nat} {H : Hp} {a : Addr} {m : MO} (hr : ∀ i, i < n → ρ' i = ρ i) (h : gK g F ρ' n' H a m) (ho : MO.okR n m) : gK g F ρ n H a m := by
 cases m with
 | lst xs => exact h
 | dk es => exact h
 | dn es => exact h
 | set xs => exact h
 | dead => trivial
 | ins c fs =>
  obtain ⟨dx, vs, h0, h1, h2⟩ := h
  exact ⟨dx, vs, h0, Mi (fun x y z k => ⟨z.1, z.2.down hr k⟩) h1 ho, h2⟩
theorem R.trunc {F : Hp} {ρ ρ' : Nat → Addr} {L' : List MO} {H : Hp} {n : Nat} (h : R g F ρ' L' H) (hn : n ≤ L'.length) (hr : ∀ i, i < n → ρ' i = ρ i) (ho : ∀ i m, i < n → L'[i]? = some m → MO.okR n m) : R g F ρ (L'.take n) H := by
 have hl : (L'.take n).length = n := by rw [List.length_take]; omega
 have get : ∀ i m, (L'.take n)[i]? = some m → i < n ∧ L'[i]? = some m := fun i m e => by
  have hi : i < n := by
   have := (List.getElem?_eq_some_iff.mp e).1
   rwa [hl] at this
  rw [List.getElem?_take_of_lt hi] at e
  exact ⟨hi, e⟩
 refine ⟨h.sub, fun i m e nd => ?_, fun i j m m' e1 e2 n1 n2 er => ?_⟩
 ·obtain ⟨hi, e'⟩ := get i m e
  obtain ⟨h1, h2⟩ := h.ent i m e' nd
  rw [hl, ← hr i hi]
  exact ⟨h1, h2.down hr (ho i m hi e')⟩
 ·obtain ⟨hi, e1'⟩ := get i m e1
  obtain ⟨hj, e2'⟩ := get j m' e2
  rw [← hr i hi, ← hr j hj] at er
  exact h.inj i j m m' e1' e2' n1 n2 er
open Classical in
noncomputable def bO (keep : Bool) (f : List D → M D) (ds : List D) : M D := fun L => match f ds L with
 | some (.ok (.v p), L1) => if aW L L1 then some (.ok (.v p), L1.take L.length) else none
 | some (.ok (.r n), L1) => if aW L L1 then
   (if n < L.length then some (.ok (.r n), L1.take L.length) else
    match L1[n]? with
    | some (.lst xs) => if keep = true then some (.ok (.r L.length), L1.take L.length ++ [.lst xs]) else some (.ok (.v (.lst xs)), L1.take L.length)
    | _ => none) else none
 | some (.ex c fs, L1) => if aW L L1 then some (.ex c fs, L1.take L.length) else none
 | none => none
theorem Wy {keep : Bool} {f : List D → M D} {ds : List D} {F : Hp} {ρ : Nat → Addr} {L : List MO} {H : Hp} {W : Value → Option Addr → Hp → Prop} {Q : VK} (hR : R g F ρ L H) (hp : Post g (bT g) F ρ L.length W Q (bO keep f ds L)) : Post g (bT g) F ρ L.length W Q (f ds L) := by
 unfold bO at hp
 have down : ∀ {L1 : List MO} {F' : Hp} {ρ' : Nat → Addr} {H' : Hp}, aW L L1 → Ext F ρ L.length F' ρ' L1.length → R g F' ρ' L1 H' → R g F' ρ (L1.take L.length) H' ∧ (L1.take L.length).length = L.length := fun {L1 F' ρ' H'} ho he hR' => by
  refine ⟨hR'.trunc he.len he.rho fun i m hi e => ?_, by rw [List.length_take]; have := he.len; omega⟩
  rcases ho.2 i m hi e with q | q
  ·exact hR.okR q
  ·exact q
 match e : f ds L with
 | none => rw [e] at hp; exact hp
 | some (.ok (.v p), L1) =>
  rw [e] at hp
  dsimp only at hp
  by_cases ho : aW L L1
  ·rw [if_pos ho] at hp
   intro F' ρ' v H' he hR' hv
   obtain ⟨q1, q2⟩ := down ho he hR'
   exact hp F' ρ v H' (by rw [q2]; exact ⟨he.sub, fun _ _ => rfl, Nat.le_refl _⟩) q1 hv
  ·rw [if_neg ho] at hp; exact False.elim hp
 | some (.ex c fs, L1) =>
  rw [e] at hp
  dsimp only at hp
  by_cases ho : aW L L1
  ·rw [if_pos ho] at hp
   intro F' ρ' dx vs H' he hR' hx h1 h2
   obtain ⟨q1, q2⟩ := down ho he hR'
   exact hp F' ρ dx vs H' (by rw [q2]; exact ⟨he.sub, fun _ _ => rfl, Nat.le_refl _⟩) q1 hx h1 h2
  ·rw [if_neg ho] at hp; exact False.elim hp
 | some (.ok (.r n), L1) =>
  rw [e] at hp
  dsimp only at hp
  by_cases ho : aW L L1
  ·rw [if_pos ho] at hp
   by_cases hn : n < L.length
   ·rw [if_pos hn] at hp
    intro F' ρ' v H' he hR' hv
    obtain ⟨q1, q2⟩ := down ho he hR'
    exact hp F' ρ v H' (by rw [q2]; exact ⟨he.sub, fun _ _ => rfl, Nat.le_refl _⟩) q1 (by rw [q2]; exact IsD.down he.rho hv hn)
   ·rw [if_neg hn] at hp
    intro F' ρ' v H' he hR' hv
    obtain ⟨q1, q2⟩ := down ho he hR'
    match em : L1[n]? with
    | some (.lst xs) =>
     rw [em] at hp
     dsimp only at hp
     obtain ⟨us, h1, h2⟩ := hR'.lstAt em
     cases keep with
     | true =>
      rw [if_pos rfl] at hp
      have hlen : (L1.take L.length ++ [MO.lst xs]).length = L.length + 1 := by rw [List.length_append, q2, List.length_singleton]
      refine hp F' (gA ρ L.length (ρ' n)) v H' ⟨he.sub, fun i hi => pK hi, by rw [hlen]; omega⟩ ?_ ⟨by rw [hlen]; omega, by rw [mV]; exact hv.2⟩
      refine ⟨q1.sub, fun i m ei nd => ?_, fun i j m m' e1 e2 n1 n2 er => ?_⟩
      ·rw [hlen]
       by_cases hi : i < L.length
       ·rw [List.getElem?_append_left (by rw [q2]; exact hi)] at ei
        obtain ⟨a1, a2⟩ := q1.ent i m ei nd
        rw [pK hi]
        rw [q2] at a2
        exact ⟨a1, a2.ext ⟨Sub.refl _, fun i hi => pK hi, Nat.le_succ _⟩⟩
       ·have hi' : i = L.length := by
         have := (List.getElem?_eq_some_iff.mp ei).1
         rw [hlen] at this
         omega
        subst hi'
        rw [List.getElem?_append_right (by rw [q2]; exact Nat.le_refl _), q2, Nat.sub_self] at ei
        cases ei
        rw [mV]
        exact ⟨(hR'.ent n _ em (by intro z; cases z)).1, us, h1, h2⟩
      ·have key : ∀ (i : Nat) (m : MO), (L1.take L.length ++ [MO.lst xs])[i]? = some m → (i < L.length ∧ L1[i]? = some m ∧ gA ρ L.length (ρ' n) i = ρ' i) ∨ (i = L.length ∧ m = .lst xs ∧ gA ρ L.length (ρ' n) i = ρ' n) := fun i m ei => by
        by_cases hi : i < L.length
        ·rw [List.getElem?_append_left (by rw [q2]; exact hi), List.getElem?_take_of_lt hi] at ei
         exact .inl ⟨hi, ei, by rw [pK hi, he.rho i hi]⟩
        ·have hi' : i = L.length := by
          have := (List.getElem?_eq_some_iff.mp ei).1
          rw [hlen] at this
          omega
         subst hi'
         rw [List.getElem?_append_right (by rw [q2]; exact Nat.le_refl _), q2, Nat.sub_self] at ei
         cases ei
         exact .inr ⟨rfl, rfl, mV⟩
       rcases key i m e1 with ⟨a1, a2, a3⟩ | ⟨a1, a2, a3⟩
       ·rcases key j m' e2 with ⟨b1, b2, b3⟩ | ⟨b1, b2, b3⟩
        ·rw [a3, b3] at er
         exact hR'.inj i j m m' a2 b2 n1 n2 er
        ·rw [a3, b3] at er
         have := hR'.inj i n m _ a2 em n1 (by intro z; cases z) er
         omega
       ·rcases key j m' e2 with ⟨b1, b2, b3⟩ | ⟨b1, b2, b3⟩
        ·rw [a3, b3] at er
         have := hR'.inj n j _ m' em b2 (by intro z; cases z) n2 er
         omega
        ·omega
     | false =>
      rw [if_neg Bool.false_ne_true] at hp
      have hf := hR'.freeze em (by intro z; cases z) h1
      have sb : Sub F' (upd F' (ρ' n) (.lst us)) := fun b q eb => by
       have nb : b ≠ ρ' n := fun z => by rw [z, (hR'.ent n _ em (by intro z; cases z)).1] at eb; cases eb
       rw [upd_ne nb]
       exact eb
      have e2 : (L1.set n MO.dead).take L.length = L1.take L.length := by
       rw [List.take_set, List.set_eq_of_length_le (by rw [q2]; omega)]
      have q3 : R g (upd F' (ρ' n) (.lst us)) ρ (L1.take L.length) H' := by
       rw [← e2]
       refine hf.trunc (by rw [List.length_set]; exact he.len) he.rho fun i m hi e => ?_
       rw [List.getElem?_set_ne (by omega)] at e
       rcases ho.2 i m hi e with q | q
       ·exact hR.okR q
       ·exact q
      refine hp _ ρ v H' ⟨he.sub.trans sb, fun _ _ => rfl, by rw [q2]; exact Nat.le_refl _⟩ q3 ?_
      have ev : v = .ref (ρ' n) := hv.2
      rw [ev]
      exact Is.lst upd_same (aP.mono sb h2)
    | none => rw [em] at hp; exact False.elim hp
    | some (.dk _) => rw [em] at hp; exact False.elim hp
    | some (.dn _) => rw [em] at hp; exact False.elim hp
    | some (.ins _ _) => rw [em] at hp; exact False.elim hp
    | some (.set _) => rw [em] at hp; exact False.elim hp
    | some .dead => rw [em] at hp; exact False.elim hp
  ·rw [if_neg ho] at hp; exact False.elim hp
theorem cW {f : Addr} {fd : FuncData} {ps : List Str} {k n : Nat} {fn : List D → M D} (keep : Bool) (h : FnOk P0 w K mg base (L2.CX P0 w) k f fd ps (gG g n fn)) : FnOk P0 w K mg base (L2.CX P0 w) k f fd ps (gG g n (bO keep fn)) :=
 h.imp fun vs H Q E ⟨F, ρ, L, ds, hR, ha, hl, hp⟩ => ⟨F, ρ, L, ds, hR, ha, hl, Wy hR hp⟩
end
end DN
end
section
namespace DN
open PySem PySem.Spec PyProof.Rows L2
section
variable {X : Cx} {g : G} {W : WX} {a b c e o : Expr} {fa fb fc f : aA → M D} {pos p apos : Pos} {es : List Expr} {fs : aA → M (List D)} {k n : Nat} {fn : List D → M D}
def bF (n : Nat) (fn : List D → M D) (ds : List D) : M D := if ds.length = n then fn ds else M.stuck
theorem Wz {fad : Addr} {fd : FuncData} {ps : List Str} {σ : L2.St} {H : Hp} {Q : VK} (h : tE g W (aO (bF n fn) fs) σ H Q) : (tA g W fs) σ H fun vs H1 => gG g n fn (vs ++ []) H1 Q (WE W σ) := by
 refine (Sat.bind (ra := fZ g) h).mono fun xs H2 h2 => ?_
 obtain ⟨F, ρ, τ, L, ds, hR, hS, hc, ha, hp⟩ := h2
 unfold bF at hp
 rw [List.append_nil]
 by_cases hz : ds.length = n
 ·rw [if_pos hz] at hp
  exact ⟨F, ρ, L, ds, hR, ha, hz, hp⟩
 ·rw [if_neg hz] at hp
  exact False.elim hp
theorem W4 {x : Str} {fad : Addr} {fd : FuncData} {ps : List Str} (FO : FnOk X.prog X.w X.K X.mg X.base (L2.CX X.prog X.w) k fad fd ps (gG g n fn)) (hr : Room k X.A) (hg : Gl X x) (hm : X.mg x = some (.ref fad)) (hk : PySem.W.keepIn X.K (.ref fad) = true) (hb : Binds X.K fd ps []) (tk : Takes X W)
  (ha : PA X (e :: es) (tA g W fs)) (hdb : (x == ("__debug__" : Str)) = false := by decide) (he : starEach (e :: es) X.env = (false, eval e X.env) :: starEach es X.env := by rfl) (hpl : (backTo pos (starEach es X.env)).any (·.1) = false := by rfl) :
  PE X (.Call (.Name x p) (e :: es) [] pos) (tE g W (aO (bF n fn) fs)) :=
 PE.weak (pe_callSD FO hr hg hm hk hb .nil (fun σ => passAt tk σ) ha hdb he hpl) fun σ H Q h => Wz (fad := fad) (fd := fd) (ps := ps) h
def clsOf (L : List MO) : D → Option Nat
 | .v (.ins c _) => some c
 | .r n => match L[n]? with
  | some (.ins c _) => some c
  | _ => none
 | _ => none
theorem wO {F : Hp} {ρ : Nat → Addr} {L : List MO} {H : Hp} {x : V} {d : D} {c : Nat} (hR : R g F ρ L H) (hx : IsD g F ρ L.length x d) (h : clsOf L d = some c) :
  ∃ a dx fs, x = .ref a ∧ H a = some (.ins (g.cl c) dx fs) ∧ jM g c ∧ ∀ y ∈ fs, ∃ i ∈ aN c, y.1 = aK i := by
 cases d with
 | v p =>
  cases p with
  | ins c' qs =>
   cases h
   cases hx with
   | ins h1 h2 h3 h4 =>
    refine ⟨_, _, _, rfl, hR.sub _ _ h1, h4, fun y hy => ?_⟩
    have := (List.of_mem_zip (a := y.1) (b := y.2) hy).1
    obtain ⟨i, hi, e⟩ := List.mem_map.mp this
    exact ⟨i, hi, e.symm⟩
  | _ => cases h
 | r n =>
  unfold clsOf at h
  dsimp only at h
  match e : L[n]?, h with
  | some (.ins c' fs'), h =>
   cases h
   obtain ⟨_, dx, vs, h1, h2, h3, h4, _⟩ := hR.ent n _ e (by intro z; cases z)
   refine ⟨_, dx, vs, hx.2, h1, h3, fun y hy => ?_⟩
   have key : ∀ {xs : List (Str × V)} {ys : List (Nat × D)}, Paired (fun (x : Str × V) (y : Nat × D) => x.1 = aK y.1 ∧ IsD g F ρ L.length x.2 y.2) xs ys → (∀ y ∈ ys, y.1 ∈ aN c) → ∀ y ∈ xs, ∃ i ∈ aN c, y.1 = aK i := by
    intro xs ys h
    induction h with
    | nil => intro _ y hy; cases hy
    | cons h t ih =>
     intro hh y hy
     rcases List.mem_cons.mp hy with z | hy
     ·rw [z]; exact ⟨_, hh _ List.mem_cons_self, h.1⟩
     ·exact ih (fun y hy => hh y (List.mem_cons_of_mem _ hy)) y hy
   exact key h2 h4 y hy
theorem lookup_none {m : Str} : ∀ {fs : List (Str × V)}, (∀ y ∈ fs, y.1 ≠ m) → fs.lookup m = none
 | [], _ => rfl
 | (k, v) :: fs, h => by
  have hk : (m == k) = false := beq_eq_false_iff_ne.mpr fun z => h (k, v) List.mem_cons_self z.symm
  rw [List.lookup_cons, hk]
  exact lookup_none fun y hy => h y (List.mem_cons_of_mem _ hy)
structure pY (P0 : Program) (w : World) (K : PySem.W.Frag) (mg : Str → Option Value) (base : Heap) (g : G) (m : Str) (k : Nat) (c : Nat) (n : Nat) (fn : List D → M D) : Prop where
 ex : ∃ (fad : Addr) (fd : FuncData) (ps : List Str), Meth K (g.cl c) m fad ∧ FnOk P0 w K mg base (L2.CX P0 w) k fad fd ps (gG g n fn) ∧ Binds K fd ps []
 no : ∀ i ∈ aN c, aK i ≠ m
def lU (n : Nat) (tab : Nat → Option (List D → M D)) (f : aA → M D) (fs : aA → M (List D)) (τ : aA) : M D := do
 let x ← f τ
 let fn ← (fun L => match (clsOf L x).bind tab with | some fn => some (.ok fn, L) | none => none : M (List D → M D))
 let ds ← fs τ
 bF n fn (x :: ds)
def tM1 (g : G) (W : WX) (n c : Nat) (m : Str) (fn : List D → M D) (ta : TE) (t : TA) : TE := fun σ H Q => ta σ H fun x H1 => ∃ a dx fs, x = .ref a ∧ H1 a = some (.ins (g.cl c) dx fs) ∧ Cls g.K (g.cl c) ∧ fs.lookup m = none ∧ t σ H1 fun vs H2 => gG g n fn (x :: vs) H2 Q (WE W σ)
theorem W6 {CX : CXT} {fad : Addr} {fd : FuncData} {ps : List Str} {sp : Sp} {pins : List (Addr × Obj)} {σ : L2.St} {H : Hp} {s : Shared} {Q : VK} {E : XK} {us : List Value} {vs : List V} (FO : FnOk X.prog X.w X.K X.mg X.base CX k fad fd ps sp) (hr : Room k X.A) (hb : Binds X.K fd ps [])
  (hx : PassesAt CX X σ E) (I : Inv X pins σ H s) (r : Vals vs us) (h : sp vs H Q E) : wpAny (model X.prog X.w) X.A (call (.ref fad) us) (EP X pins σ Q) X.xe s := by
 have h' : sp (vs ++ []) H Q E := by rw [List.append_nil]; exact h
 exact run_fnSD (E := fun _ => E) FO hr hb .nil hx I r h'
theorem W7 {c n : Nat} {m : Str} {ta : TE} {pl : Sem Bool} (hK : X.K = g.K) (MO : pY X.prog X.w X.K X.mg X.base g m k c n fn) (hr : Room k X.A) (tk : Takes X W) (he : PE X o ta)
  (ht : eval (.Call (.Attribute o m apos) [] [] pos) X.env = (do
   let v ← eval o X.env
   standAt apos.atName
   let (mf, first) ← holding [v] (getMethod v m pl)
   callWith pos mf first (backTo pos (starEach [] X.env)) (backToKw pos (keywordEach [] X.env))) := by rfl) :
  PE X (.Call (.Attribute o m apos) [] [] pos) (tM1 g W n c m fn ta tNil) := by
 obtain ⟨⟨fad, fd, ps, hm, FO, hb⟩, _⟩ := MO
 refine ⟨fun pins s σ H Q I h => PySem.W.methodCall_KW (pl := pl) (thn (he.run pins s σ H _ I h) fun u s1 hu => ?_) ht⟩
 obtain ⟨x, H1, I1, rx, ad, dx, fl, ex, ea, cl, lk, q⟩ := hu
 subst ex
 obtain rfl : u = Value.ref ad := rx
 rw [← hK] at cl
 exact getmeth_ok I1 ea cl hm lk (PySem.W.callWith_K0 (first := [.ref ad]) I1.kIn hm.kp (W6 (us := [.ref ad]) (vs := [.ref ad]) FO hr hb (passAt tk σ) I1 (.cons rfl .nil) q))
theorem W8 {tab : Nat → Option (List D → M D)} {m : Str} {σ : L2.St} {H : Hp} {Q : VK} (hno : ∀ c fn, tab c = some fn → ∀ i ∈ aN c, aK i ≠ m) (hsome : ∃ c fn, tab c = some fn)
  (h : tE g W (lU n tab f fs) σ H Q) : ∃ i : Nat × (List D → M D), tab i.1 = some i.2 ∧ tM1 g W n i.1 m i.2 (tE g W f) (tA g W fs) σ H Q := by
 obtain ⟨F, ρ, τ, L, hR, hS, hc, hp⟩ := h
 have hp' : Post g (bT g) F ρ L.length (fun c d H' => W c d σ H') Q (M.bnd (f τ) (fun x => M.bnd (fun L => match (clsOf L x).bind tab with | some fn => some (.ok fn, L) | none => none : M (List D → M D)) fun fn => M.bnd (fs τ) fun ds => bF n fn (x :: ds)) L) := hp
 unfold M.bnd at hp'
 match e : f τ L with
 | none => rw [e] at hp'; exact False.elim hp'
 | some (.ex c xs, L1) =>
  rw [e] at hp'
  obtain ⟨c0, fn0, h0⟩ := hsome
  exact ⟨(c0, fn0), h0, F, ρ, τ, L, hR, hS, hc, by rw [e]; exact hp'⟩
 | some (.ok d, L1) =>
  rw [e] at hp'
  dsimp only at hp'
  match e2 : clsOf L1 d with
  | none => rw [e2] at hp'; exact False.elim hp'
  | some c =>
   rw [e2] at hp'
   dsimp only [Option.bind] at hp'
   match e3 : tab c with
   | none => rw [e3] at hp'; exact False.elim hp'
   | some fn =>
    rw [e3] at hp'
    refine ⟨(c, fn), e3, F, ρ, τ, L, hR, hS, hc, ?_⟩
    rw [e]
    intro F1 ρ1 x H1 x1 hR1 hx
    obtain ⟨ad, dx, fl, ex, ea, cf, hfl⟩ := wO hR1 hx e2
    refine ⟨ad, dx, fl, ex, ea, cf.cls, lookup_none fun y hy z => ?_, ?_⟩
    ·obtain ⟨i, hi, q⟩ := hfl y hy
     exact hno c fn e3 i hi (q.symm.trans z)
    ·have h2 : Sat g (bT g) W [(x, d)] (fun τ => fs τ >>= fun ds => bF n fn (d :: ds)) σ H1 Q := ⟨F1, ρ1, τ, L1, hR1, hS.ext x1, (fun y hy => by rw [List.mem_singleton.mp hy]; exact hx), hp'.ext x1⟩
     refine (Sat.bind (ra := fZ g) h2).mono fun xs H2 h3 => ?_
     obtain ⟨F, ρ, τ, L, ds, hR, hS, hc, ha, hp⟩ := h3
     unfold bF at hp
     by_cases hz : (d :: ds).length = n
     ·rw [if_pos hz] at hp
      exact ⟨F, ρ, L, d :: ds, hR, .cons (hc (x, d) (by simp)) ha, hz, hp⟩
     ·rw [if_neg hz] at hp
      exact False.elim hp
theorem uF {tab : Nat → Option (List D → M D)} {m : Str} {pl : Sem Bool} (hK : X.K = g.K) (MT : ∀ c fn, tab c = some fn → pY X.prog X.w X.K X.mg X.base g m k c n fn) (hsome : ∃ c fn, tab c = some fn) (hr : Room k X.A) (tk : Takes X W) (he : PE X o (tE g W f))
  (ht : eval (.Call (.Attribute o m apos) [] [] pos) X.env = (do
   let v ← eval o X.env
   standAt apos.atName
   let (mf, first) ← holding [v] (getMethod v m pl)
   callWith pos mf first (backTo pos (starEach [] X.env)) (backToKw pos (keywordEach [] X.env))) := by rfl) :
  PE X (.Call (.Attribute o m apos) [] [] pos) (tE g W (lU n tab f aM)) :=
 PE.weak (PE.ex (A := fun i : Nat × (List D → M D) => tab i.1 = some i.2) fun i hi => W7 (pl := pl) hK (MT i.1 i.2 hi) hr tk he ht) fun σ H Q h => by
  obtain ⟨i, hi, q⟩ := W8 (fun c fn e => (MT c fn e).no) hsome h
  refine ⟨i, hi, q.mono fun x H1 ⟨ad, dx, fl, e1, e2, e3, e4, q2⟩ => ⟨ad, dx, fl, e1, e2, e3, e4, ?_⟩⟩
  obtain ⟨F, ρ, τ, L, hR, hS, hc, hp⟩ := q2
  exact hp F ρ [] H1 Ext.refl hR .nil
end
end DN
end
section
namespace DN
open PySem PySem.Spec PyProof.Rows L2
section
variable {X : Cx} {g : G} {W : WX} {a b c e o : Expr} {fa fb fc f : aA → M D} {pos p apos : Pos} {es : List Expr} {fs : aA → M (List D)} {k n : Nat} {fn : List D → M D} {cn : Nat}
def Mj (g : G) (W : WX) (cn n : Nat) (fn : List D → M D) (t : TA) : TE := fun σ H Q => t σ H fun vs H1 => ∀ x dx, H1 x = none → H1 dx = none → dx ≠ x →
 gG g n fn (.ref x :: vs) (upd (upd H1 dx (.own x)) x (.ins (g.cl cn) dx [])) (fun v H2 => v = .non ∧ Q (.ref x) H2) (WE W σ)
theorem run_mk {fad : Addr} {fd : FuncData} {ps : List Str} {sp : Sp} {C : Addr} {pins : List (Addr × Obj)} {σ : L2.St} {H : Hp} {s : Shared} {Q : VK} {E : XK} {us : List Value} {vs : List V} (MK : Mk X.K C fad) (FO : FnOk X.prog X.w X.K X.mg X.base (L2.CX X.prog X.w) k fad fd ps sp) (hr : Room (k + 1) X.A) (hb : Binds X.K fd ps [])
  (hx : PassesAt (L2.CX X.prog X.w) X σ E) (I : Inv X pins σ H s) (r : Vals vs us)
  (h : ∀ x dx, H x = none → H dx = none → dx ≠ x → sp (.ref x :: vs) (upd (upd H dx (.own x)) x (.ins C dx [])) (fun v H2 => v = .non ∧ Q (.ref x) H2) E) :
  wpAny (model X.prog X.w) X.A (call (.ref C) us) (EP X pins σ Q) X.xe s := by
 let d0 := s.heap.objs.size
 let x0 := s.heap.objs.size + 1
 have n1 : H x0 = none := I.hok.fresh (Nat.le_succ _)
 have n2 : H d0 = none := I.hok.fresh (Nat.le_refl _)
 have hq := h x0 d0 n1 n2 (Nat.ne_of_lt (Nat.lt_succ_self _))
 have J := Inv.made (C := C) I
 have rr : Vals (V.ref x0 :: vs) (Value.ref x0 :: us) := .cons rfl r
 have ln : (Value.ref x0 :: us).length = ps.length := by rw [← rr.length]; exact FO.len _ _ _ _ hq
 have bt := hb _ (Value.ref x0 :: us) J.kIn (by rw [List.append_nil]; exact ln)
 rw [List.append_nil] at bt
 have run := FO.run (X.A.under (.builtin "type.__call__" ⟨.ref C :: us, []⟩)) X.stack _ _ ⟨Value.ref x0 :: us, []⟩ (Value.ref x0 :: us) (V.ref x0 :: vs) _ E (hr.make C us []) (J.env0.make C us []) bt rr hq
 refine wpAny_call (make_map I.kIn MK.makes MK.init (beq_iff_eq.mp MK.fn) (codeAny_mono run fun z s' hz => ?_))
 match z, hz with
 | .error er, hz => exact hx pins _ _ er s' J hz
 | .ok (.ret u), hz =>
  obtain ⟨v, H3, J3, rv, ev, q3⟩ := J.after hz
  subst ev
  exact ⟨rv, V.ref x0, H3, J3, rfl, q3⟩
 | .ok .next, hz => exact False.elim hz
 | .ok .brk, hz => exact False.elim hz
 | .ok .cont, hz => exact False.elim hz
theorem pe_mk {x : Str} {fad : Addr} {fd : FuncData} {ps : List Str} {t : TA} (hK : X.K = g.K) (MK : Mk X.K (g.cl cn) fad) (FO : FnOk X.prog X.w X.K X.mg X.base (L2.CX X.prog X.w) k fad fd ps (gG g n fn)) (hr : Room (k + 1) X.A) (hg : Gl X x) (hm : X.mg x = some (.ref (g.cl cn))) (hb : Binds X.K fd ps []) (tk : Takes X W)
  (ha : PA X (e :: es) t) (hdb : (x == ("__debug__" : Str)) = false := by decide) (he : starEach (e :: es) X.env = (false, eval e X.env) :: starEach es X.env := by rfl) (hpl : (backTo pos (starEach es X.env)).any (·.1) = false := by rfl) :
  PE X (.Call (.Name x p) (e :: es) [] pos) (Mj g W cn n fn t) := ⟨fun pins s σ H Q I h =>
 wpAny_Call_Name_kw (ld_glob I hg hm (PySem.W.callWith_K (h₀ := X.base) I.ok.mod.kin MK.kp (thn (ha.run pos pins s σ H _ I h) fun us s1 ⟨vs, H1, I1, r, q⟩ => ⟨I1.kIn, run_mk MK FO hr hb (passAt tk σ) I1 r q⟩) he hpl) hdb)⟩
def uG (c : Nat) : List (Nat × D) → Option (List P)
 | fs => if fs.map (·.1) = aN c then aV (fs.map (·.2)) else none
open Classical in
noncomputable def gH (frz : Bool) (cn n : Nat) (fn : List D → M D) (ds : List D) : M D := fun L =>
 if (D.r L.length :: ds).length = n then (match fn (.r L.length :: ds) (L ++ [.ins cn []]) with
  | some (.ok (.v .non), L1) => if frz = true then (match L1[L.length]? with
    | some (.ins c' fs') => if c' = cn ∧ aW L L1 then (match uG cn fs' with
     | some ps => some (.ok (.v (.ins cn ps)), L1.take L.length)
     | none => none) else none
    | _ => none) else some (.ok (.r L.length), L1)
  | some (.ex c fs, L1) => if frz = true then (if aW L L1 then some (.ex c fs, L1.take L.length) else none) else some (.ex c fs, L1)
  | _ => none) else none
theorem Ml {F : Hp} {ρ : Nat → Addr} {m : Nat} : ∀ {vs : List (Str × V)} {fs : List (Nat × D)} {ps : List P}, Paired (fun (x : Str × V) (y : Nat × D) => x.1 = aK y.1 ∧ IsD g F ρ m x.2 y.2) vs fs → aV (fs.map (·.2)) = some ps →
  vs = ((fs.map (·.1)).map aK).zip (vs.map (·.2)) ∧ aP g F (vs.map (·.2)) ps ∧ vs.length = fs.length
 | _, _, _, .nil, e => by cases e; exact ⟨rfl, .nil, rfl⟩
 | x :: vs, y :: fs, ps, .cons h t, e => by
  rw [List.map_cons] at e
  unfold aV at e
  match e1 : asP y.2, e2 : aV (fs.map (·.2)) with
  | some q, some qs =>
   rw [e1, e2] at e
   cases e
   obtain ⟨h1, h2, h3⟩ := Ml t e2
   refine ⟨?_, ?_, by rw [List.length_cons, List.length_cons, h3]⟩
   ·rw [List.map_cons, List.map_cons, List.map_cons, List.zip_cons_cons, ← h1, ← h.1]
   ·have hq := h.2
    cases ey : y.2 with
    | v q' =>
     rw [ey] at e1 hq
     cases e1
     exact .cons hq h2
    | r m' => rw [ey] at e1; cases e1
  | none, _ => rw [e1] at e; cases e
  | some _, none => rw [e1, e2] at e; cases e
theorem W9 {frz : Bool} {σ : L2.St} {H : Hp} {Q : VK} (hC : jM g cn) (h : tE g W (aO (gH frz cn n fn) fs) σ H Q) : Mj g W cn n fn (tA g W fs) σ H Q := by
 refine (Sat.bind (ra := fZ g) h).mono fun xs H1 h2 => ?_
 obtain ⟨F, ρ, τ, L, ds, hR, hS, hc, ha, hp⟩ := h2
 intro x dx nx ndx ne
 unfold gH at hp
 by_cases hz : (D.r L.length :: ds).length = n
 ·rw [if_pos hz] at hp
  -- the new state
  have R1 := hR.frz ndx (.own x)
  have nx1 : upd H1 dx (.own x) x = none := by rw [upd_ne (Ne.symm ne)]; exact nx
  have R2 : R g (upd F dx (.own x)) (gA ρ L.length x) (L ++ [.ins cn []]) (upd (upd H1 dx (.own x)) x (.ins (g.cl cn) dx [])) :=
   R1.new nx1 (.ins (g.cl cn) dx []) (.ins cn []) ⟨dx, [], upd_same, .nil, hC, (fun y hy => by cases hy), List.nodup_nil⟩
  have sbF : Sub F (upd F dx (.own x)) := Sub.frz hR ndx _
  have len1 : (L ++ [MO.ins cn []]).length = L.length + 1 := by rw [List.length_append, List.length_singleton]
  have E1 : Ext F ρ L.length (upd F dx (.own x)) (gA ρ L.length x) (L ++ [MO.ins cn []]).length := by
   rw [len1]
   exact ⟨sbF, fun i hi => pK hi, Nat.le_succ _⟩
  have hx0 : IsD g (upd F dx (.own x)) (gA ρ L.length x) (L ++ [MO.ins cn []]).length (.ref x) (.r L.length) := ⟨by rw [len1]; exact Nat.lt_succ_self _, by rw [mV]⟩
  refine ⟨_, _, _, _, R2, .cons hx0 (tR ha fun v d z => z.ext E1), hz, ?_⟩
  match e : fn (.r L.length :: ds) (L ++ [.ins cn []]) with
  | none => rw [e] at hp; exact False.elim hp
  | some (.ok (.v .non), L1) =>
   rw [e] at hp ⊢
   dsimp only at hp
   intro F' ρ' v H' x1 hR' hv
   refine ⟨Is.inv_non hv, ?_⟩
   have x2 := E1.trans x1
   have rx : ρ' L.length = x := by rw [x1.rho L.length (by rw [len1]; exact Nat.lt_succ_self _), mV]
   have ln : L.length < L1.length := by have := x1.len; rw [len1] at this; omega
   cases frz with
   | false =>
    rw [if_neg Bool.false_ne_true] at hp
    exact hp F' ρ' _ H' x2 hR' ⟨ln, by rw [rx]⟩
   | true =>
    rw [if_pos rfl] at hp
    match e2 : L1[L.length]? with
    | some (.ins c' fs') =>
     rw [e2] at hp
     dsimp only at hp
     by_cases ho : c' = cn ∧ aW L L1
     ·rw [if_pos ho] at hp
      obtain ⟨rfl, ho⟩ := ho
      match e3 : uG c' fs' with
      | none => rw [e3] at hp; exact False.elim hp
      | some ps =>
       rw [e3] at hp
       dsimp only at hp
       unfold uG at e3
       by_cases hk : fs'.map (·.1) = aN c'
       ·rw [if_pos hk] at e3
        obtain ⟨d2, vs2, a1, a2, a3, a4, a5⟩ := (hR'.ent L.length _ e2 (by intro z; cases z)).2
        obtain ⟨b1, b2, b3⟩ := Ml a2 e3
        rw [rx] at a1
        have hf := hR'.freeze e2 (by intro z; cases z) (o := .ins (g.cl c') d2 vs2) (by rw [rx]; exact a1)
        rw [rx] at hf
        have fx : F' x = none := by
         have := (hR'.ent L.length _ e2 (by intro z; cases z)).1
         rwa [rx] at this
        have sb : Sub F' (upd F' x (.ins (g.cl c') d2 vs2)) := fun b q eb => by
         have nb : b ≠ x := fun z => by rw [z, fx] at eb; cases eb
         rw [upd_ne nb]
         exact eb
        have e4 : (L1.set L.length MO.dead).take L.length = L1.take L.length := by
         rw [List.take_set, List.set_eq_of_length_le (by rw [List.length_take]; omega)]
        have q2 : (L1.take L.length).length = L.length := by rw [List.length_take]; omega
        have q3 : R g (upd F' x (.ins (g.cl c') d2 vs2)) ρ (L1.take L.length) H' := by
         rw [← e4]
         refine hf.trunc (by rw [List.length_set]; omega) x2.rho fun i m hi e => ?_
         rw [List.getElem?_set_ne (by omega)] at e
         rcases ho.2 i m hi e with q | q
         ·exact hR.okR q
         ·exact q
        refine hp _ ρ (.ref x) H' ⟨x2.sub.trans sb, fun _ _ => rfl, by rw [q2]; exact Nat.le_refl _⟩ q3 ?_
        refine Is.ins (dx := d2) (vs := vs2.map (·.2)) ?_ (by rw [List.length_map, b3, ← hk, List.length_map]) (aP.mono sb b2) a3
        rw [upd_same, ← hk, ← b1]
       ·rw [if_neg hk] at e3
        cases e3
     ·rw [if_neg ho] at hp; exact False.elim hp
    | none => rw [e2] at hp; exact False.elim hp
    | some (.lst _) => rw [e2] at hp; exact False.elim hp
    | some (.dk _) => rw [e2] at hp; exact False.elim hp
    | some (.dn _) => rw [e2] at hp; exact False.elim hp
    | some (.set _) => rw [e2] at hp; exact False.elim hp
    | some .dead => rw [e2] at hp; exact False.elim hp
  | some (.ex c xs', L1) =>
   rw [e] at hp ⊢
   dsimp only at hp
   intro F' ρ' d vs' H' x1 hR' hd h1 h2
   have x2 := E1.trans x1
   cases frz with
   | false =>
    rw [if_neg Bool.false_ne_true] at hp
    exact hp F' ρ' d vs' H' x2 hR' hd h1 h2
   | true =>
    rw [if_pos rfl] at hp
    by_cases ho : aW L L1
    ·rw [if_pos ho] at hp
     have ln := x2.len
     have q2 : (L1.take L.length).length = L.length := by rw [List.length_take]; omega
     refine hp F' ρ d vs' H' ⟨x2.sub, fun _ _ => rfl, by rw [q2]; exact Nat.le_refl _⟩ (hR'.trunc ln x2.rho fun i m hi e => ?_) hd h1 h2
     rcases ho.2 i m hi e with q | q
     ·exact hR.okR q
     ·exact q
    ·rw [if_neg ho] at hp; exact False.elim hp
  | some (.ok (.r _), L1) => rw [e] at hp; exact False.elim hp
  | some (.ok (.v (.bl _)), L1) => rw [e] at hp; exact False.elim hp
  | some (.ok (.v (.int _)), L1) => rw [e] at hp; exact False.elim hp
  | some (.ok (.v (.str _)), L1) => rw [e] at hp; exact False.elim hp
  | some (.ok (.v (.tup _)), L1) => rw [e] at hp; exact False.elim hp
  | some (.ok (.v (.lst _)), L1) => rw [e] at hp; exact False.elim hp
  | some (.ok (.v (.ins _ _)), L1) => rw [e] at hp; exact False.elim hp
  | some (.ok (.v (.dk _)), L1) => rw [e] at hp; exact False.elim hp
  | some (.ok (.v (.dn _)), L1) => rw [e] at hp; exact False.elim hp
  | some (.ok (.v (.set _)), L1) => rw [e] at hp; exact False.elim hp
  | some (.ok (.v (.exn _ _)), L1) => rw [e] at hp; exact False.elim hp
  | some (.ok (.v (.scr _)), L1) => rw [e] at hp; exact False.elim hp
 ·rw [if_neg hz] at hp
  exact False.elim hp
theorem Xa {x : Str} {fad : Addr} {fd : FuncData} {ps : List Str} {frz : Bool} (hK : X.K = g.K) (hC : jM g cn) (MK : Mk X.K (g.cl cn) fad) (FO : FnOk X.prog X.w X.K X.mg X.base (L2.CX X.prog X.w) k fad fd ps (gG g n fn)) (hr : Room (k + 1) X.A) (hg : Gl X x) (hm : X.mg x = some (.ref (g.cl cn))) (hb : Binds X.K fd ps []) (tk : Takes X W)
  (ha : PA X (e :: es) (tA g W fs)) (hdb : (x == ("__debug__" : Str)) = false := by decide) (he : starEach (e :: es) X.env = (false, eval e X.env) :: starEach es X.env := by rfl) (hpl : (backTo pos (starEach es X.env)).any (·.1) = false := by rfl) :
  PE X (.Call (.Name x p) (e :: es) [] pos) (tE g W (aO (gH frz cn n fn) fs)) := PE.weak (pe_mk hK MK FO hr hg hm hb tk ha hdb he hpl) fun σ H Q h => W9 hC h
end
end DN
end
section
namespace DN
open PySem PySem.Spec PyProof.Rows L2
section
variable {X : Cx} {g : G} {W : WX} {a b c e o : Expr} {fa fb fc f : aA → M D} {ta tb : aA → M Bool} {pos p apos : Pos} {es : List Expr} {fs : aA → M (List D)} {k n : Nat} {fn : List D → M D} {s1 : SX}
def fget : List Nat → List P → Nat → Option P
 | i :: is, p :: ps, j => if i = j then some p else fget is ps j
 | _, _, _ => none
def jR : List (Nat × D) → Nat → Option D
 | [], _ => none
 | (i, d) :: fs, j => if i = j then some d else jR fs j
def cM (i : Nat) : D → M D := fun d L => match d with
 | .v (.ins c ps) => (fget (aN c) ps i).map fun p => (.ok (.v p), L)
 | .r n => match L[n]? with
  | some (.ins _ fs) => (jR fs i).map fun d => (.ok d, L)
  | _ => none
 | _ => none
theorem Eu {F : Hp} : ∀ {is : List Nat} {vs : List V} {ps : List P} {j : Nat} {q : P}, aP g F vs ps → (is.map aK).Nodup → j ∈ is → fget is ps j = some q → ∃ v, ((is.map aK).zip vs).lookup (aK j) = some v ∧ Is g F v q
 | [], _, _, _, _, _, _, h, _ => by cases h
 | i :: is, _, _, j, q, .nil, nd, h, e => by cases e
 | i :: is, _, _, j, q, .cons (v := v) (vs := vs) hv ht, nd, h, e => by
  unfold fget at e
  rw [List.map_cons, List.zip_cons_cons, List.lookup_cons]
  by_cases hij : i = j
  ·rw [if_pos hij] at e
   cases e
   subst hij
   rw [beq_self_eq_true]
   exact ⟨v, rfl, hv⟩
  ·rw [if_neg hij] at e
   have hj : j ∈ is := by
    rcases List.mem_cons.mp h with z | z
    ·exact absurd z.symm hij
    ·exact z
   rw [List.map_cons, List.nodup_cons] at nd
   have hk : (aK j == aK i) = false := beq_eq_false_iff_ne.mpr fun z => nd.1 (List.mem_map.mpr ⟨j, hj, z⟩)
   rw [hk]
   exact Eu ht nd.2 hj e
theorem zY : ∀ {is : List Nat} {ps : List P} {j : Nat} {q : P}, fget is ps j = some q → j ∈ is
 | [], _, _, _, h => by cases h
 | i :: is, [], _, _, h => by cases h
 | i :: is, p :: ps, j, q, h => by
  unfold fget at h
  by_cases hij : i = j
  ·rw [hij]; exact List.mem_cons_self
  ·rw [if_neg hij] at h
   exact List.mem_cons_of_mem _ (zY h)
theorem Mq {F : Hp} {ρ : Nat → Addr} {n : Nat} {L0 : List Nat} (nd : (L0.map aK).Nodup) : ∀ {vs : List (Str × V)} {fs : List (Nat × D)} {j : Nat} {d : D}, Paired (fun (x : Str × V) (y : Nat × D) => x.1 = aK y.1 ∧ IsD g F ρ n x.2 y.2) vs fs → (∀ y ∈ fs, y.1 ∈ L0) → j ∈ L0 → jR fs j = some d →
  ∃ v, vs.lookup (aK j) = some v ∧ IsD g F ρ n v d
 | _, _, _, _, .nil, _, _, e => by cases e
 | (x1, x2) :: vs, (i, d') :: fs, j, d, .cons h t, hm, hj, e => by
  unfold jR at e
  rw [List.lookup_cons]
  have hx : x1 = aK i := h.1
  by_cases hij : i = j
  ·rw [if_pos hij] at e
   cases e
   subst hij
   rw [hx, beq_self_eq_true]
   exact ⟨x2, rfl, h.2⟩
  ·rw [if_neg hij] at e
   have hk : (aK j == x1) = false := beq_eq_false_iff_ne.mpr fun z => by
    rw [hx] at z
    have hi := hm (i, d') List.mem_cons_self
    have : ∀ {l : List Nat}, (l.map aK).Nodup → i ∈ l → j ∈ l → aK j = aK i → i = j := by
     intro l
     induction l with
     | nil => intro _ h; cases h
     | cons a l ih =>
      intro nd hi hj z
      rw [List.map_cons, List.nodup_cons] at nd
      rcases List.mem_cons.mp hi with q1 | q1
      ·rcases List.mem_cons.mp hj with q2 | q2
       ·rw [q1, q2]
       ·exact absurd (List.mem_map.mpr ⟨j, q2, by rw [z, q1]⟩) nd.1
      ·rcases List.mem_cons.mp hj with q2 | q2
       ·exact absurd (List.mem_map.mpr ⟨i, q1, by rw [← z, q2]⟩) nd.1
       ·exact ih nd.2 q1 q2 z
    exact hij (this nd hi hj z)
   rw [hk]
   exact Mq nd t (fun y hy => hm y (List.mem_cons_of_mem _ hy)) hj e
theorem Mr : ∀ {fs : List (Nat × D)} {j : Nat} {d : D}, jR fs j = some d → ∃ y ∈ fs, y.1 = j
 | [], _, _, h => by cases h
 | (i, d') :: fs, j, d, h => by
  unfold jR at h
  by_cases hij : i = j
  ·exact ⟨(i, d'), List.mem_cons_self, hij⟩
  ·rw [if_neg hij] at h
   obtain ⟨y, hy, e⟩ := Mr h
   exact ⟨y, List.mem_cons_of_mem _ hy, e⟩
theorem Xb {F : Hp} {ρ : Nat → Addr} {L : List MO} {H : Hp} {x : V} {d : D} {i : Nat} {Wq : Value → Option Addr → Hp → Prop} {Q : VK} (hR : R g F ρ L H) (hx : IsD g F ρ L.length x d) (hp : Post g (bT g) F ρ L.length Wq Q (cM i d L)) :
  ∃ a C dx fs v, x = .ref a ∧ H a = some (.ins C dx fs) ∧ Cls g.K C ∧ NoAttr g.K C (aK i) ∧ fs.lookup (aK i) = some v ∧ Q v H := by
 cases d with
 | v q =>
  cases q with
  | ins c ps =>
   unfold cM at hp
   dsimp only at hp
   match e : fget (aN c) ps i with
   | none => rw [e] at hp; exact False.elim hp
   | some q =>
    rw [e] at hp
    cases hx with
    | ins h1 h2 h3 h4 =>
     obtain ⟨v, e1, e2⟩ := Eu h3 h4.nd (zY e) e
     exact ⟨_, _, _, _, v, rfl, hR.sub _ _ h1, h4.cls, h4.att i (zY e), e1, hp.val hR e2⟩
  | _ => exact False.elim hp
 | r n =>
  unfold cM at hp
  dsimp only at hp
  match e : L[n]? with
  | some (.ins c fs) =>
   rw [e] at hp
   dsimp only at hp
   match e2 : jR fs i with
   | none => rw [e2] at hp; exact False.elim hp
   | some d =>
    rw [e2] at hp
    obtain ⟨_, dx, vs, h1, h2, h3, h4, _⟩ := hR.ent n _ e (by intro z; cases z)
    obtain ⟨y, hy, ey⟩ := Mr e2
    have hi : i ∈ aN c := by rw [← ey]; exact h4 y hy
    obtain ⟨v, e3, e4⟩ := Mq h3.nd h2 h4 hi e2
    exact ⟨ρ n, _, dx, vs, v, hx.2, h1, h3.cls, h3.att i hi, e3, hp F ρ v H Ext.refl hR e4⟩
  | none => rw [e] at hp; exact False.elim hp
  | some (.lst _) => rw [e] at hp; exact False.elim hp
  | some (.dk _) => rw [e] at hp; exact False.elim hp
  | some (.dn _) => rw [e] at hp; exact False.elim hp
  | some (.set _) => rw [e] at hp; exact False.elim hp
  | some .dead => rw [e] at hp; exact False.elim hp
def un (op : D → M D) (f : aA → M D) (τ : aA) : M D := f τ >>= op
theorem rN {x : Str} (i : Nat) (hK : X.K = g.K) (hi : x = aK i) (he : PE X e (tE g W f)) (hb : attributeBase e x X.env (eval e X.env) = eval e X.env := by rfl) : PE X (.Attribute e x pos) (tE g W (un (cM i) f)) := by
 subst hi
 refine PE.weak (pe_fld he hb) fun σ H Q h => ?_
 refine (Sat.bindV h).mono fun x H1 h1 => ?_
 obtain ⟨d, F, ρ, τ, L, hR, hS, hc, hp⟩ := h1
 rw [hK]
 exact Xb hR (hc (x, d) (by simp)) hp
def wQ (tab : Nat → Option P) : D → M D := fun d L => match (clsOf L d).bind tab with
 | some p => some (.ok (.v p), L)
 | none => none
theorem Xc {x : Str} {tab : Nat → Option P} (hK : X.K = g.K) (hc : ∀ c p, tab c = some p → (∃ v u, Con g.K (g.cl c) x v u ∧ ∀ F, Is g F v p) ∧ ∀ i ∈ aN c, aK i ≠ x) (he : PE X e (tE g W f)) (hb : attributeBase e x X.env (eval e X.env) = eval e X.env := by rfl) : PE X (.Attribute e x pos) (tE g W (un (wQ tab) f)) := by
 refine PE.weak (pe_con he hb) fun σ H Q h => ?_
 refine (Sat.bindV h).mono fun y H1 h1 => ?_
 obtain ⟨d, F, ρ, τ, L, hR, hS, hcx, hp⟩ := h1
 unfold wQ at hp
 dsimp only at hp
 match e1 : (clsOf L d).bind tab with
 | none => rw [e1] at hp; exact False.elim hp
 | some q =>
  rw [e1] at hp
  obtain ⟨c', e2, e3⟩ := Option.bind_eq_some_iff.mp e1
  obtain ⟨ad, dx, fl, ex, ea, cf, hfl⟩ := wO hR (hcx (y, d) (by simp)) e2
  obtain ⟨⟨v, u, k1, k2⟩, k3⟩ := hc c' q e3
  rw [hK]
  refine ⟨ad, _, dx, fl, v, u, ex, ea, cf.cls, k1, lookup_none fun z hz q' => ?_, hp.val hR (k2 F)⟩
  obtain ⟨i, hi, q2⟩ := hfl z hz
  exact k3 i hi (q2.symm.trans q')
def gY (i : Nat) (d : D) : List (Nat × D) → List (Nat × D)
 | [] => [(i, d)]
 | (j, e) :: fs => if j = i then (j, d) :: fs else (j, e) :: gY i d fs
def oV (i : Nat) (d x : D) : M Unit := fun L => match x with
 | .r n => match L[n]? with
  | some (.ins c fs) => if i ∈ aN c then some (.ok (), L.set n (.ins c (gY i d fs))) else none
  | _ => none
 | _ => none
def wR (i : Nat) (fo fv : aA → M D) : SX := bW (fun τ => do let d ← fv τ; let x ← fo τ; oV i d x) fun _ τ L => some (.nx τ, L)
theorem Ms {F : Hp} {ρ : Nat → Addr} {n : Nat} {L0 : List Nat} (nd : (L0.map aK).Nodup) {v : V} {d : D} {i : Nat} (hv : IsD g F ρ n v d) (hi : i ∈ L0) : ∀ {vs : List (Str × V)} {fs : List (Nat × D)}, Paired (fun (x : Str × V) (y : Nat × D) => x.1 = aK y.1 ∧ IsD g F ρ n x.2 y.2) vs fs → (∀ y ∈ fs, y.1 ∈ L0) →
  Paired (fun (x : Str × V) (y : Nat × D) => x.1 = aK y.1 ∧ IsD g F ρ n x.2 y.2) (putF (aK i) v vs) (gY i d fs)
 | _, _, .nil, _ => .cons ⟨rfl, hv⟩ .nil
 | (x1, x2) :: vs, (j, e) :: fs, .cons h t, hm => by
  have hx : x1 = aK j := h.1
  have inj : ∀ {l : List Nat}, (l.map aK).Nodup → i ∈ l → j ∈ l → aK j = aK i → j = i := by
   intro l
   induction l with
   | nil => intro _ h; cases h
   | cons a l ih =>
    intro nd hi hj z
    rw [List.map_cons, List.nodup_cons] at nd
    rcases List.mem_cons.mp hi with q1 | q1
    ·rcases List.mem_cons.mp hj with q2 | q2
     ·rw [q1, q2]
     ·exact absurd (List.mem_map.mpr ⟨j, q2, by rw [z, q1]⟩) nd.1
    ·rcases List.mem_cons.mp hj with q2 | q2
     ·exact absurd (List.mem_map.mpr ⟨i, q1, by rw [← z, q2]⟩) nd.1
     ·exact ih nd.2 q1 q2 z
  unfold putF gY
  by_cases hij : j = i
  ·subst hij
   rw [if_pos hx, if_pos rfl]
   exact .cons ⟨hx, hv⟩ t
  ·have hne : ¬ x1 = aK i := fun z => hij (inj nd hi (hm (j, e) List.mem_cons_self) (hx.symm.trans z))
   rw [if_neg hne, if_neg hij]
   exact .cons h (Ms nd hv hi t fun y hy => hm y (List.mem_cons_of_mem _ hy))
theorem Mu {i : Nat} {d : D} : ∀ {fs : List (Nat × D)}, (fs.map (·.1)).Nodup → (∀ y ∈ gY i d fs, y.1 = i ∨ ∃ z ∈ fs, z.1 = y.1) ∧ ((gY i d fs).map (·.1)).Nodup
 | [], _ => ⟨fun y hy => by
   unfold gY at hy
   rw [List.mem_singleton.mp hy]
   exact .inl rfl, by unfold gY; simp⟩
 | (j, e) :: fs, nd => by
  unfold gY
  by_cases hij : j = i
  ·rw [if_pos hij]
   refine ⟨fun y hy => ?_, by simpa using nd⟩
   rcases List.mem_cons.mp hy with z | z
   ·rw [z]; exact .inl hij
   ·exact .inr ⟨y, List.mem_cons_of_mem _ z, rfl⟩
  ·rw [if_neg hij]
   rw [List.map_cons, List.nodup_cons] at nd
   obtain ⟨h1, h2⟩ := Mu (i := i) (d := d) nd.2
   refine ⟨fun y hy => ?_, ?_⟩
   ·rcases List.mem_cons.mp hy with z | z
    ·rw [z]; exact .inr ⟨(j, e), List.mem_cons_self, rfl⟩
    ·rcases h1 y z with q | ⟨w, hw, q⟩
     ·exact .inl q
     ·exact .inr ⟨w, List.mem_cons_of_mem _ hw, q⟩
   ·rw [List.map_cons, List.nodup_cons]
    refine ⟨fun hm => ?_, h2⟩
    obtain ⟨y, hy, q⟩ := List.mem_map.mp hm
    rcases h1 y hy with q2 | ⟨w, hw, q2⟩
    ·exact hij (q.symm.trans q2)
    ·exact nd.1 (List.mem_map.mpr ⟨w, hw, q2.trans q⟩)
theorem Mv : ∀ {xs ys : List Nat}, xs.Nodup → (∀ x ∈ xs, x ∈ ys) → xs.length ≤ ys.length
 | [], _, _, _ => Nat.zero_le _
 | x :: xs, ys, nd, h => by
  rw [List.nodup_cons] at nd
  have hx := h x List.mem_cons_self
  have := Mv (xs := xs) (ys := ys.erase x) nd.2 fun y hy => by
   have ne : y ≠ x := fun z => nd.1 (by rw [← z]; exact hy)
   exact (List.mem_erase_of_ne ne).mpr (h y (List.mem_cons_of_mem _ hy))
  rw [List.length_erase_of_mem hx] at this
  have hl : 0 < ys.length := List.length_pos_of_mem hx
  rw [List.length_cons]
  omega
theorem Mw {x : Str} {pos' : Pos} {value : Expr} (i : Nat) (hK : X.K = g.K) (hi : x = aK i) (ho : PE X o (tE g W fa)) (hv : PE X value (tE g W fb)) (hs : swapsWith value (some (.Attribute o x pos')) pos.line X.env = pure false := by rfl) : PS X (.Assign [.Attribute o x pos'] value pos) (tS g W (wR i fa fb)) := by
 subst hi
 refine PS.weak (ps_fld ho hv hs) fun D σ H h => ?_
 -- the value, the object, the store
 obtain ⟨F, ρ, τ, L, hR, hS, hc, hp⟩ := h
 have h1 : dR g W [] (bW fb fun d => bW fa fun x => bW (fun _ => oV i d x) fun _ τ L => some (.nx τ, L)) D σ H := by
  refine ⟨F, ρ, τ, L, hR, hS, hc, ?_⟩
  refine Eq.mp (congrArg (fun o => eV g F ρ L.length W D o) ?_) hp
  show bW (fun τ => M.bnd (fb τ) fun d => M.bnd (fa τ) fun x => oV i d x) _ τ L = _
  unfold bW M.bnd
  dsimp only
  cases fb τ L with
  | none => rfl
  | some z =>
   obtain ⟨r, L1⟩ := z
   cases r with
   | ex _ _ => rfl
   | ok d =>
    dsimp only
    cases fa τ L1 with
    | none => rfl
    | some z =>
     obtain ⟨r, L2⟩ := z
     cases r with
     | ex _ _ => rfl
     | ok y => rfl
 refine (dR.bindV h1).mono fun v H1 q1 => ?_
 obtain ⟨d, q1⟩ := q1
 refine (dR.bindV q1).mono fun y H2 q2 => ?_
 obtain ⟨dx0, F, ρ, τ, L, hR, hS, hc, hp⟩ := q2
 have hv := hc (v, d) (by simp)
 have hy := hc (y, dx0) (by simp)
 unfold bW oV at hp
 cases dx0 with
 | v q => exact False.elim hp
 | r n =>
  dsimp only at hp
  match e : L[n]? with
  | some (.ins c fs) =>
   rw [e] at hp
   dsimp only at hp
   by_cases him : i ∈ aN c
   ·rw [if_pos him] at hp
    obtain ⟨_, dx, vs, a1, a2, a3, a4, a5⟩ := hR.ent n _ e (by intro z; cases z)
    have hl : vs.length < 1000 := by
     have l1 := rD a2
     have l2 := Mv a5 fun x hx => by
      obtain ⟨z, hz, e⟩ := List.mem_map.mp hx
      rw [← e]
      exact a4 z hz
     rw [List.length_map] at l2
     have := a3.few
     omega
    rw [hK]
    refine ⟨ρ n, _, dx, vs, hy.2, a1, a3.cls, a3.att i him, hl, ?_⟩
    obtain ⟨k1, k2⟩ := Mu (i := i) (d := d) a5
    have le : (L.set n (MO.ins c (gY i d fs))).length = L.length := by rw [List.length_set]
    refine hp F ρ _ σ (by rw [le]; exact Ext.refl) (hR.put e (by intro z; cases z) _ _ ⟨dx, _, upd_same, Ms a3.nd hv him a2 a4, a3, fun z hz => ?_, k2⟩) (by rw [le]; exact hS)
    rcases k1 z hz with q | ⟨w, hw, q⟩
    ·rw [q]; exact him
    ·rw [← q]; exact a4 w hw
   ·rw [if_neg him] at hp
    exact False.elim hp
  | none => rw [e] at hp; exact False.elim hp
  | some (.lst _) => rw [e] at hp; exact False.elim hp
  | some (.dk _) => rw [e] at hp; exact False.elim hp
  | some (.dn _) => rw [e] at hp; exact False.elim hp
  | some (.set _) => rw [e] at hp; exact False.elim hp
  | some .dead => rw [e] at hp; exact False.elim hp
end
end DN
end
section
namespace DN
open PySem PySem.Spec PyProof.Rows L2
theorem Ew (σ : L2.St) (i : Nat) (y : Option V) : ∀ vs : List Nat, i ∈ vs → wipe (σ.set i y) vs = wipe σ vs
 | [], h => by cases h
 | v :: vs, h => by
  show (wipe (σ.set i y) vs).set v none = (wipe σ vs).set v none
  by_cases hi : i ∈ vs
  ·rw [Ew σ i y vs hi]
  ·have hv : i = v := by
    rcases List.mem_cons.mp h with z | z
    ·exact z
    ·exact absurd z hi
   subst hv
   have key : ∀ (ws : List Nat) (σ : L2.St), i ∉ ws → wipe (σ.set i y) ws = (wipe σ ws).set i y := by
    intro ws
    induction ws with
    | nil => intro σ _; rfl
    | cons u ws ih =>
     intro σ hu
     show (wipe (σ.set i y) ws).set u none = ((wipe σ ws).set u none).set i y
     rw [ih σ (fun z => hu (List.mem_cons_of_mem _ z))]
     exact List.set_comm _ _ fun z => hu (by rw [z]; exact List.mem_cons_self)
   rw [key vs σ hi, List.set_set]
theorem Xd (σ : L2.St) (vs : List Nat) : wipe (wipe σ vs) vs = wipe σ vs := by
 have key : ∀ (us : List Nat) (σ : L2.St), (∀ u ∈ us, u ∈ vs) → wipe (wipe σ us) vs = wipe σ vs := by
  intro us
  induction us with
  | nil => intro σ _; rfl
  | cons u us ih =>
   intro σ h
   show wipe ((wipe σ us).set u none) vs = wipe σ vs
   rw [Ew _ _ _ _ (h u List.mem_cons_self)]
   exact ih σ fun z hz => h z (List.mem_cons_of_mem _ hz)
 exact key vs σ fun _ h => h
section
variable {X : Cx} {g : G} {W : WX} {a b c e o tg elt iter : Expr} {fa fb fc f fe : aA → M D} {ta tb tt : aA → M Bool} {pos p apos : Pos} {es ifs : List Expr} {fs : aA → M (List D)} {k n : Nat} {fn : List D → M D} {s1 : SX}
abbrev W0 : WX := fun _ _ _ _ => False
def Ey (g : G) (vs : List Nat) (t : TG) (tg : dF) : Prop := ∀ (F : Hp) (ρ : Nat → Addr) (L : List MO) (H : Hp) (v : V) (p : P) (σ : L2.St) (τ τ' : aA) (Q : L2.St → Hp → Prop), R g F ρ L H → Sl g F ρ L.length σ τ → Is g F v p → tg p τ = some τ' →
 (∀ σ', Sl g F ρ L.length σ' τ' → wipe σ' vs = wipe σ vs → Q σ' H) → t v σ H Q
theorem Ez {vs : List Nat} (i : Nat) (h : i ∈ vs) : Ey g vs (gName i) (oU i) := by
 intro F ρ L H v p σ τ τ' Q hR hS hv e hQ
 cases e
 exact hQ _ (hS.set (v := v) (d := .v p) hv i) (Ew σ i _ vs h)
def iD (tg : dF) (tt : aA → M Bool) (fe : aA → M D) (p : P) (τ : aA) : M (Option P) := fun L => match tg p τ with
 | none => none
 | some τ1 => match tt τ1 L with
  | some (.ok false, L1) => some (.ok none, L1)
  | some (.ok true, L1) => match fe τ1 L1 with
   | some (.ok (.v q), L2) => some (.ok (some q), L2)
   | _ => none
  | _ => none
open Classical in
noncomputable def iV (ok : List MO → Prop) (turn : P → aA → M (Option P)) (n : Nat) (τ : aA) : List P → List MO → Option (List MO)
 | [], L => if ok L then some L else none
 | p :: ps, L => if ok L then (match turn p τ L with
  | some (.ok none, L1) => iV ok turn n τ ps L1
  | some (.ok (some q), L1) => (match L1[n]? with
   | some (.lst acc) => if acc.length < sizeLine then iV ok turn n τ ps (L1.set n (.lst (acc ++ [q]))) else none
   | _ => none)
  | _ => none) else none
open Classical in
noncomputable def pZ (mu : Bool) (L : List MO) : Option (List MO) → Option (Res D × List MO)
 | some L1 => if mu = true then some (.ok (.r L.length), L1) else (match L1[L.length]? with
   | some (.lst xs) => if aW L L1 then some (.ok (.v (.lst xs)), L1.take L.length) else none
   | _ => none)
 | none => none
noncomputable def oW (mu : Bool) (turn : P → aA → M (Option P)) (τ : aA) (it : Itm) : M D := fun L => pZ mu L (iV it.2 turn L.length τ it.1 (L ++ [.lst []]))
noncomputable def uH (mu : Bool) (src : aA → M Itm) (vs : List Nat) (tg : dF) (tt : aA → M Bool) (fe : aA → M D) (τ : aA) : M D := do
 let it ← src τ
 oW mu (iD tg tt fe) (cJ vs τ) it
theorem Sl.wipe {F : Hp} {ρ : Nat → Addr} {n : Nat} {σ : L2.St} {τ : aA} (h : Sl g F ρ n σ τ) : ∀ vs : List Nat, Sl g F ρ n (wipe σ vs) (cJ vs τ) := by
 have set1 : ∀ {σ : L2.St} {τ : aA}, Sl g F ρ n σ τ → ∀ v, Sl g F ρ n (σ.set v none) (τ.set v none) := fun {σ τ} h v => by
  refine ⟨by rw [List.length_set, List.length_set]; exact h.1, fun j d q => ?_⟩
  by_cases hj : v = j
  ·subst hj
   by_cases hl : v < τ.length
   ·rw [List.getElem?_set_self hl] at q; cases q
   ·rw [List.getElem?_eq_none (by rw [List.length_set]; omega)] at q; cases q
  ·rw [List.getElem?_set_ne hj] at q ⊢
   exact h.2 j d q
 intro vs
 -- forgetting in any order
 have key : ∀ (vs : List Nat) {τ : aA}, ∀ (i : Nat) (d : D), (cJ vs τ)[i]? = some (some d) → τ[i]? = some (some d) ∧ i ∉ vs := by
  intro vs
  induction vs with
  | nil => intro τ i d q; exact ⟨q, by simp⟩
  | cons v vs ih =>
   intro τ i d q
   obtain ⟨q1, q2⟩ := ih (τ := τ.set v none) i d q
   by_cases hv : v = i
   ·subst hv
    by_cases hl : v < τ.length
    ·rw [List.getElem?_set_self hl] at q1; cases q1
    ·rw [List.getElem?_eq_none (by rw [List.length_set]; omega)] at q1; cases q1
   ·rw [List.getElem?_set_ne hv] at q1
    exact ⟨q1, fun z => by
     rcases List.mem_cons.mp z with z | z
     ·exact hv z.symm
     ·exact q2 z⟩
 have klen : ∀ (vs : List Nat) (τ : aA), (cJ vs τ).length = τ.length := by
  intro vs
  induction vs with
  | nil => intro τ; rfl
  | cons v vs ih =>
   intro τ
   show (cJ vs (τ.set v none)).length = τ.length
   rw [ih, List.length_set]
 refine ⟨by rw [klen, wipe_length]; exact h.1, fun i d q => ?_⟩
 obtain ⟨q1, q2⟩ := key vs i d q
 obtain ⟨v, h1, h2⟩ := h.2 i d q1
 exact ⟨v, by rw [wipe_out q2]; exact h1, h2⟩
theorem Xe {mu : Bool} {src : aA → M Itm} {vs : List Nat} {t : TG} {tg : dF} (ht : Ey g vs t tg) {σ : L2.St} {H : Hp} {Q : VK} (h : tE g W (uH mu src vs tg tt fe) σ H Q) : tLc (tI g W src) t (tT g W0 tt) (tE g W0 fe) vs σ H Q := by
 refine (Sat.bind (ra := lQ g) h).mono fun J H1 h1 => ?_
 obtain ⟨F0, ρ0, τ, L0, it, hR0, hS0, _, hsrc, hp0⟩ := h1
 obtain ⟨xs, ok⟩ := it
 intro D hD
 -- the new list in the ledger
 have R1 := hR0.new hD (.lst []) (.lst []) ⟨[], upd_same, .nil⟩
 have len1 : (L0 ++ [MO.lst []]).length = L0.length + 1 := by rw [List.length_append, List.length_singleton]
 have E1 : Ext F0 ρ0 L0.length F0 (gA ρ0 L0.length D) (L0 ++ [MO.lst []]).length := by rw [len1]; exact Ext.new
 have hp1 : Post g (bT g) F0 ρ0 L0.length (fun c d H' => W c d σ H') Q (pZ mu L0 (iV ok (iD tg tt fe) L0.length (cJ vs τ) xs (L0 ++ [.lst []]))) := hp0
 refine ⟨fun i m H => m = xs.length - i ∧ i ≤ xs.length ∧ ∃ F ρ L, Ext F0 (gA ρ0 L0.length D) (L0.length + 1) F ρ L.length ∧ R g F ρ L H ∧ Post g (bT g) F0 ρ0 L0.length (fun c d H' => W c d σ H') Q (pZ mu L0 (iV ok (iD tg tt fe) L0.length (cJ vs τ) (xs.drop i) L)), ⟨xs.length, by simp, Nat.zero_le _, F0, _, _, by rw [len1]; exact Ext.refl, R1, hp1⟩, ?_⟩
 rintro i m H2 ⟨rfl, hi, F, ρ, L, hE, hR, hp⟩
 have hE0 : Ext F0 ρ0 L0.length F ρ L.length := by
  have := Ext.trans E1 (by rw [len1]; exact hE)
  exact this
 have hSl : Sl g F ρ L.length σ τ := hS0.ext hE0
 by_cases hlt : i < xs.length
 ·refine .inr ?_
  have e0 : xs[i]? = some xs[i] := List.getElem?_eq_getElem hlt
  rw [List.drop_eq_getElem_cons hlt] at hp
  unfold iV at hp
  by_cases hk : ok L
  ·rw [if_pos hk] at hp
   obtain ⟨go, yl⟩ := (hsrc F ρ L H2 hE0 hR hk).1 i _ e0
   refine ⟨go, fun H' => i + 1 ≤ xs.length ∧ ∃ F ρ L, Ext F0 (gA ρ0 L0.length D) (L0.length + 1) F ρ L.length ∧ R g F ρ L H' ∧ Post g (bT g) F0 ρ0 L0.length (fun c d H' => W c d σ H') Q (pZ mu L0 (iV ok (iD tg tt fe) L0.length (cJ vs τ) (xs.drop (i + 1)) L)), fun H' q => ⟨xs.length - (i + 1), by omega, rfl, q⟩, fun x H' hy => ?_⟩
   obtain ⟨F', sb, hR', hx⟩ := yl x H' hy
   have e1 : Ext F ρ L.length F' ρ L.length := ⟨sb, fun _ _ => rfl, Nat.le_refl _⟩
   have hS2 : Sl g F' ρ L.length (wipe σ vs) (cJ vs τ) := (hSl.ext e1).wipe vs
   unfold iD at hp
   match et : tg xs[i] (cJ vs τ) with
   | none => rw [et] at hp; exact False.elim hp
   | some τ1 =>
    rw [et] at hp
    dsimp only at hp
    refine ht F' ρ L H' x _ (wipe σ vs) (cJ vs τ) τ1 _ hR' hS2 hx et fun σ3 hS3 hw => ⟨by rw [hw, Xd], F', ρ, τ1, L, hR', hS3, (fun y hy => by cases hy), ?_⟩
    match eb : tt τ1 L with
    | none => rw [eb] at hp; exact False.elim hp
    | some (.ex _ _, _) => rw [eb] at hp; exact False.elim hp
    | some (.ok false, L1) =>
     rw [eb] at hp
     dsimp only at hp
     intro F3 ρ3 b3 H3 x1 x2 x3
     subst x3
     rw [if_neg Bool.false_ne_true]
     exact ⟨hlt, F3, ρ3, L1, hE.trans (e1.trans x1), x2, hp⟩
    | some (.ok true, L1) =>
     rw [eb] at hp
     dsimp only at hp
     intro F3 ρ3 b3 H3 x1 x2 x3
     subst x3
     rw [if_pos rfl]
     refine ⟨F3, ρ3, τ1, L1, x2, hS3.ext x1, (fun y hy => by cases hy), ?_⟩
     match ee : fe τ1 L1 with
     | none => rw [ee] at hp; exact False.elim hp
     | some (.ex _ _, _) => rw [ee] at hp; exact False.elim hp
     | some (.ok (.r _), _) => rw [ee] at hp; exact False.elim hp
     | some (.ok (.v q), L2) =>
      rw [ee] at hp
      dsimp only at hp
      intro F4 ρ4 v4 H4 y1 y2 y3
      match el : L2[L0.length]? with
      | some (.lst acc) =>
       rw [el] at hp
       dsimp only at hp
       by_cases hz : acc.length < sizeLine
       ·rw [if_pos hz] at hp
        obtain ⟨us, h1, h2⟩ := y2.lstAt el
        have hEE := hE.trans (e1.trans (x1.trans y1))
        have hrho : ρ4 L0.length = D := by rw [hEE.rho _ (Nat.lt_succ_self _), mV]
        refine ⟨us, by rw [← hrho]; exact h1, by rw [h2.len]; exact hz, hlt, F4, ρ4, L2.set L0.length (.lst (acc ++ [q])), by rw [List.length_set]; exact hEE, ?_, hp⟩
        rw [← hrho]
        exact y2.put el (by intro z; cases z) _ _ ⟨_, upd_same, h2.append (.cons y3 .nil)⟩
       ·rw [if_neg hz] at hp; exact False.elim hp
      | none => rw [el] at hp; exact False.elim hp
      | some (.dk _) => rw [el] at hp; exact False.elim hp
      | some (.dn _) => rw [el] at hp; exact False.elim hp
      | some (.ins _ _) => rw [el] at hp; exact False.elim hp
      | some (.set _) => rw [el] at hp; exact False.elim hp
      | some .dead => rw [el] at hp; exact False.elim hp
  ·rw [if_neg hk] at hp
   exact False.elim hp
 ·have e : i = xs.length := by omega
  subst e
  rw [List.drop_length] at hp
  unfold iV at hp
  by_cases hk : ok L
  ·rw [if_pos hk] at hp
   refine .inl ⟨(hsrc F ρ L H2 hE0 hR hk).2, ?_⟩
   unfold pZ at hp
   dsimp only at hp
   have ln : L0.length < L.length := by have := hE.len; omega
   have hrho : ρ L0.length = D := by rw [hE.rho _ (Nat.lt_succ_self _), mV]
   cases mu with
   | true =>
    rw [if_pos rfl] at hp
    exact hp F ρ _ H2 hE0 hR ⟨ln, by rw [hrho]⟩
   | false =>
    rw [if_neg Bool.false_ne_true] at hp
    match el : L[L0.length]? with
    | some (.lst ys) =>
     rw [el] at hp
     dsimp only at hp
     by_cases ho : aW L0 L
     ·rw [if_pos ho] at hp
      obtain ⟨us, h1, h2⟩ := hR.lstAt el
      have hf := hR.freeze el (by intro z; cases z) h1
      have sb : Sub F (upd F (ρ L0.length) (.lst us)) := fun b q eb => by
       have nb : b ≠ ρ L0.length := fun z => by rw [z, (hR.ent _ _ el (by intro z; cases z)).1] at eb; cases eb
       rw [upd_ne nb]
       exact eb
      have e4 : (L.set L0.length MO.dead).take L0.length = L.take L0.length := by
       rw [List.take_set, List.set_eq_of_length_le (by rw [List.length_take]; omega)]
      have q2 : (L.take L0.length).length = L0.length := by rw [List.length_take]; omega
      have q3 : R g (upd F (ρ L0.length) (.lst us)) ρ0 (L.take L0.length) H2 := by
       rw [← e4]
       refine hf.trunc (by rw [List.length_set]; omega) hE0.rho fun i m hi e => ?_
       rw [List.getElem?_set_ne (by omega)] at e
       rcases ho.2 i m hi e with q | q
       ·exact hR0.okR q
       ·exact q
      refine hp _ ρ0 _ H2 ⟨hE0.sub.trans sb, fun _ _ => rfl, by rw [q2]; exact Nat.le_refl _⟩ q3 ?_
      refine Is.lst ?_ (aP.mono sb h2)
      rw [← hrho]
      exact upd_same
     ·rw [if_neg ho] at hp; exact False.elim hp
    | none => rw [el] at hp; exact False.elim hp
    | some (.dk _) => rw [el] at hp; exact False.elim hp
    | some (.dn _) => rw [el] at hp; exact False.elim hp
    | some (.ins _ _) => rw [el] at hp; exact False.elim hp
    | some (.set _) => rw [el] at hp; exact False.elim hp
    | some .dead => rw [el] at hp; exact False.elim hp
  ·rw [if_neg hk] at hp
   exact False.elim hp
def uI (_ : aA) : M Bool := pure true
theorem PTs.weak {t t' : TT} (h : PTs X ifs t) (w : ∀ σ H Q, t' σ H Q → t σ H Q) : PTs X ifs t' := ⟨fun pins s σ H Q I q => h.run pins s σ H Q I (w σ H Q q)⟩
theorem Fb : PTs X [] (tT g W uI) := PTs.weak pts_nil fun σ H Q h => by
 obtain ⟨F, ρ, τ, L, hR, hS, hc, hp⟩ := h
 exact hp F ρ true H Ext.refl hR rfl
theorem Fd {scope : Scope} {own : List (Str × Nat)} {mu : Bool} {src : aA → M Itm} {t : TG} {td : dF} (hc : X.calm = true) (hN : X.N.Nodup) (hi : PI X tg iter (tI g W src)) (ok : BlkOk X.N X.env.scope scope own)
  (hg : ∀ (s : Shared) (H : Hp) (C : Addr) (cl : List (Str × Addr)) (fp : List Addr), PG (X.blk s H scope (compEnvC scope cl C X.env) fp) tg t) (ht : Ey g (own.map (·.2)) t td)
  (hts : ∀ (s : Shared) (H : Hp) (C : Addr) (cl : List (Str × Addr)) (fp : List Addr), PTs (X.blk s H scope (compEnvC scope cl C X.env) fp) ifs (tT g W0 tt))
  (he : ∀ (s : Shared) (H : Hp) (C : Addr) (cl : List (Str × Addr)) (fp : List Addr), PE (X.blk s H scope (compEnvC scope cl C X.env) fp) elt (tE g W0 fe)) (hs : ∀ x, foldedSetIterable iter X.env x = pure x := by intro _; rfl) :
  PE X (.ListComp elt [⟨tg, iter, ifs, 0⟩] scope pos) (tE g W (uH mu src (own.map (·.2)) td tt fe)) := PE.weak (pe_lc hc hN hi ok hg hts he hs) fun σ H Q h => Xe ht h
end
end DN
end
section
namespace DN
open PySem PySem.Spec PyProof.Rows PySem.W PySem.Calls L2 NdefX
theorem Xf {prog : Program} {w : World} {A : Around} {E : Value → Shared → Prop} {h : Heap} {g : Array GenState} {d : Drawn} {t : Nat} {os : OsState}
  {nm q : Str} {C N : Addr} {bs bm : List Value} {hdct : Bool} {sn : List Str} {sub : List Value} {ab : Bool} {col : Option Bool} {dd : Option Addr} {k0 k1 k2 k3 k5 : Option Value} {u e t0 : Addr} {rest : List Value} {Q : Value → Shared → Prop}
  (hC : h.get? C = some (excClassObj nm q C N bs bm hdct sn sub ab col dd k0 k1 k2 k3 k5 "ValueError.__new__")) (he : h.get? e = some (excObj C t0 none .none)) (hu : h.get? u = some (kxs_mw "ValueError.__init__" e)) (hrest : rest.length ≤ sizeLine)
  (hq : ∀ h' t1, (∀ b o, b ≠ e → h.get? b = some o → h'.get? b = some o) → h'.get? e = some (excObj C t1 none .none) → Q .none ⟨h', g, d, t, os⟩) :
  wpAny (model prog w) A (call (.ref u) rest) Q E ⟨h, g, d, t, os⟩ := by
 refine wpAny_call (codeAny_of_tree ?_)
 show wpAny _ A.in1 (callAny (.ref u) ⟨rest, []⟩) _ _ _
 simp only [callAny]
 refine wpAny_bind (wpAny_load hu ?_)
 simp only [kxs_mw, show (Value.type "method-wrapper" == Value.type "method" || Value.type "method-wrapper" == Value.type "builtin_function_or_method" || Value.type "method-wrapper" == Value.type "method-wrapper") = true by decide, if_true]
 refine KFB.if_so (by decide) ?_
 refine wpAny_bind (check_bound_init F.excBase_ValueError.toExcCallFacts hC he rfl ?_)
 refine wpAny_bind (wpAny_pure (wpAny_pure ?_))
 refine ⟨plainId_quiet F.excBase_ValueError.init.plain _, codeAny_builtin F.excBase_ValueError.initEntry ?_⟩
 exact exc_init_tree (cls := .ref C) (t0 := t0) (dv := none) (c2 := .none) (c3 := .none) (b4 := .bool false) he hrest fun h' k e' _ => hq h' _ k e'
theorem Xg {env : Env} {p1 p2 p3 p4 p5 : Pos} {msg : Str} {j : Nat} (hln : (p3.endLine == p5.line) = true) : eval (.Call (.Attribute (.Call (.Name "super" p1) [] [] p2) "__init__" p3) [.Constant (.str msg) j p4] [] p5) env = (do
   let ov ← attributeBase (.Call (.Name "super" p1) [] [] p2) "__init__" env (eval (.Call (.Name "super" p1) [] [] p2) env)
   standAt p3.atName
   let (f, first) ← holding [ov] (getMethod ov "__init__" (do return (← importBound (.Call (.Name "super" p1) [] [] p2) env).getD true))
   callWith p5 f first (backTo p5 (starEach [.Constant (.str msg) j p4] env)) []) := by
 have e2 : methodCallPos true (.Call (.Name "super" p1) [] [] p2) env p3 p5 = pure p5 := by unfold methodCallPos; simp [hln]
 show (do
  let ov ← attributeBase (.Call (.Name "super" p1) [] [] p2) "__init__" env (eval (.Call (.Name "super" p1) [] [] p2) env)
  standAt p3.atName
  let (f, first) ← holding [ov] (getMethod ov "__init__" (do return (← importBound (.Call (.Name "super" p1) [] [] p2) env).getD true))
  let callPos ← methodCallPos true (.Call (.Name "super" p1) [] [] p2) env p3 p5
  callWith callPos f first (backTo p5 (starEach [.Constant (.str msg) j p4] env)) []) = _
 rw [e2]
 rfl
abbrev P4 := Pos × Pos × Pos × Pos
def qC (l : List (Nat × P4)) : List Stmt := l.map fun x => .Assign [.Attribute (.Name "self" x.2.1) (aK x.1) x.2.2.1] (.Name (aK x.1) x.2.2.2.1) x.2.2.2.2
def Aa (C : Addr) (fs : List Nat) : Sp := fun vs H Q _ => ∃ (a : Addr) (ws : List V), vs = .ref a :: ws ∧ ws.length = fs.length ∧ H a = some (exo a C none) ∧
 ∀ d, H d = none → d ≠ a → Q .non (upd (upd H d (exd d ((fs.map aK).zip ws).reverse)) a (exo a C (some d)))
structure Mx (K : PySem.W.Frag) (C fI cc cda : Addr) (prog : Program) (qual : Str) (params : Arguments) (scope : Scope) (fs : List Nat) : Prop where
 T : OexC K C
 iC : findIn K (.ref C) "__init__" = some (some (.ref fI))
 tI : typeIn K (.ref fI) = some (.type "function")
 no : ∀ i ∈ fs, findIn K (.ref C) (aK i) = some none
 sc : NScope (("self" : Str) :: (fs.map aK ++ [("__class__" : Str)])) (("self" : Str) :: fs.map aK) [("__class__" : Str)] scope
 sup : scope.names.lookup ("super" : Str) = some .globalImplicit
 fewer : fs.length < 500
 hcell : ∃ cl cld csl, K.lookup cc = some ⟨cl, cld, .cell (some (.ref C)), csl⟩
 hcode : ∃ (ccl : Value) (cdd : Option Addr) (vs : Array Value) (ccs : Array (Option Value)) (file : Str) (tf : Tok), K.lookup cda = some ⟨ccl, cdd, .fields vs, ccs⟩ ∧ vs[2]? = some (.str file tf) ∧ ((prog.main.file : Str) == file) = true
 htop : (prog.main.scope.names.lookup ("super" : Str)).isSome = false
 hps : (params.posonlyargs ++ params.args).head?.map (·.arg) = some "self"
 hsub : mroIn K C (.ref C) = some true
 hany : nsIn K cStatics "thirdparty.any" = some none
 hal : ks_superIn K C C "__init__" = some (some (.builtin "ValueError.__init__"))
 hVE : subIn K (.ref C) (.type "ValueError") = some true
theorem Ab (i : Nat) : (aK i == ("__debug__" : Str)) = false ∧ (aK i == ("__classdict__" : Str)) = false := by
 unfold aK
 split <;> exact ⟨by decide, by decide⟩
def Xh (K : PySem.W.Frag) (C : Addr) (off : Nat) (fs : List Nat) : TS := fun D σ H => ∃ a d acc ws, σ[0]? = some (some (.ref a)) ∧ (∀ m w, ws[m]? = some w → σ[off + m]? = some (some w)) ∧ ws.length = fs.length ∧ H a = some (exo a C (some d)) ∧
 H d = some (exd d acc) ∧ d ≠ a ∧ acc.length + fs.length ≤ 900 ∧ D.nx σ (upd H d (exd d (((fs.map aK).zip ws).reverse ++ acc)))
theorem upd_self {H : Hp} {a : Addr} {o : HO} (e : H a = some o) : upd H a o = H := by
 funext b
 by_cases hb : b = a
 ·rw [hb, upd_same, e]
 ·rw [upd_ne hb]
theorem upd_upd {H : Hp} {a : Addr} {o u : HO} : upd (upd H a o) a u = upd H a u := by
 funext b
 by_cases hb : b = a
 ·rw [hb, upd_same, upd_same]
 ·rw [upd_ne hb, upd_ne hb, upd_ne hb]
theorem Xi {H : Hp} {a b : Addr} {o u : HO} (h : a ≠ b) : upd (upd H a o) b u = upd (upd H b u) a o := by
 funext c
 by_cases ha : c = a
 ·rw [ha, upd_ne h, upd_same, upd_same]
 ·by_cases hb : c = b
  ·rw [hb, upd_same, upd_ne (Ne.symm h), upd_same]
  ·rw [upd_ne hb, upd_ne ha, upd_ne ha, upd_ne hb]
section
variable {X : Cx} {C : Addr}
theorem Mz (T : OexC X.K C) (h0 : X.N[0]? = some ("self" : Str)) (v0 : Vis X.env.scope "self") : ∀ (l : List (Nat × P4)) (off : Nat), (∀ m x, l[m]? = some x → X.N[off + m]? = some (aK x.1) ∧ Vis X.env.scope (aK x.1) ∧ findIn X.K (.ref C) (aK x.1) = some none) →
  PSs X (qC l) (Xh X.K C off (l.map (·.1)))
 | [], off, _ => PSs.weak pss_nil fun D σ H ⟨a, d, acc, ws, e1, e2, e3, e4, e5, e6, e7, q⟩ => by
  have hw : ws = [] := List.eq_nil_of_length_eq_zero e3
  subst hw
  have q' : D.nx σ (upd H d (exd d acc)) := q
  rw [upd_self e5] at q'
  exact q'
 | (i, p1, p2, p3, p4) :: l, off, hl => by
  obtain ⟨n1, n2, n3⟩ := hl 0 _ rfl
  have ih := Mz T h0 v0 l (off + 1) fun m x e => by
   have := hl (m + 1) x e
   rw [Nat.add_assoc, Nat.add_comm 1 m]
   exact this
  refine PSs.weak (pss_cons (ps_ost (f := aK i) (pe_var h0 v0) (pe_var n1 n2 (Ab i).1 (Ab i).2)) ih) fun D σ H ⟨a, d, acc, ws, e1, e2, e3, e4, e5, e6, e7, q⟩ => ?_
  cases ws with
  | nil => cases e3
  | cons w ws =>
   refine ⟨w, e2 0 w rfl, .ref a, e1, a, C, rfl, T, n3, .inr ⟨d, acc, e4, e5, by rw [List.length_map, List.length_cons] at e7; omega, ?_⟩⟩
   refine ⟨a, d, (aK i, w) :: acc, ws, e1, fun m w' e => ?_, by simpa using e3, by rw [upd_ne (Ne.symm e6)]; exact e4, upd_same, e6, by rw [List.length_map, List.length_cons] at e7; rw [List.length_cons, List.length_map]; omega, ?_⟩
   ·have := e2 (m + 1) w' e
    rw [Nat.add_assoc, Nat.add_comm 1 m]
    exact this
   ·rw [upd_upd]
    have e8 : ((List.map aK (List.map (·.1) ((i, p1, p2, p3, p4) :: l))).zip (w :: ws)).reverse ++ acc = ((List.map aK (List.map (·.1) l)).zip ws).reverse ++ (aK i, w) :: acc := by simp
    rw [e8] at q
    exact q
theorem Xj (T : OexC X.K C) (h0 : X.N[0]? = some ("self" : Str)) (v0 : Vis X.env.scope "self") {l : List (Nat × P4)} (hne : l ≠ []) (hl : ∀ m x, l[m]? = some x → X.N[1 + m]? = some (aK x.1) ∧ Vis X.env.scope (aK x.1) ∧ findIn X.K (.ref C) (aK x.1) = some none) (hn : l.length < 500) :
  PSs X (qC l) (fun D σ H => ∃ a ws, σ[0]? = some (some (.ref a)) ∧ (∀ m w, ws[m]? = some w → σ[1 + m]? = some (some w)) ∧ ws.length = l.length ∧ H a = some (exo a C none) ∧
   ∀ d, H d = none → d ≠ a → D.nx σ (upd (upd H d (exd d (((l.map (·.1)).map aK).zip ws).reverse)) a (exo a C (some d)))) := by
 cases l with
 | nil => exact absurd rfl hne
 | cons x l =>
  obtain ⟨i, p1, p2, p3, p4⟩ := x
  obtain ⟨n1, n2, n3⟩ := hl 0 _ rfl
  have ih := Mz T h0 v0 l 2 fun m x e => by
   have := hl (m + 1) x e
   rw [show 1 + (m + 1) = 2 + m by omega] at this
   exact this
  refine PSs.weak (pss_cons (ps_ost (f := aK i) (pe_var h0 v0) (pe_var n1 n2 (Ab i).1 (Ab i).2)) ih) fun D σ H ⟨a, ws, e1, e2, e3, e4, q⟩ => ?_
  cases ws with
  | nil => cases e3
  | cons w ws =>
   refine ⟨w, e2 0 w rfl, .ref a, e1, a, C, rfl, T, n3, .inl ⟨e4, fun d hd hda => ?_⟩⟩
   refine ⟨a, d, [(aK i, w)], ws, e1, fun m w' e => ?_, by simpa using e3, upd_same, by rw [upd_ne hda]; exact upd_same, hda, by rw [List.length_map]; rw [List.length_cons] at hn; show 1 + l.length ≤ 900; omega, ?_⟩
   ·have := e2 (m + 1) w' e
    rw [show 1 + (m + 1) = 2 + m by omega] at this
    exact this
   ·have e8 : ((List.map aK (List.map (·.1) ((i, p1, p2, p3, p4) :: l))).zip (w :: ws)).reverse = ((List.map aK (List.map (·.1) l)).zip ws).reverse ++ [(aK i, w)] := by simp
    have q' := q d hd hda
    rw [e8] at q'
    rw [Xi (Ne.symm hda), upd_upd]
    exact q'
end
section
variable {P : Program} {w : World} {K : PySem.W.Frag} {mg : Str → Option Value} {base : Heap} {CX : CXT} {k : Nat} {C fI cc cda : Addr} {nm qual : Str} {params : Arguments} {body : List Stmt} {scope : Scope} {dV kV doc pm ct oc : Value} {an od : Option Addr} {osl : Array (Option Value)} {fs : List Nat}
 {msg : Str} {j : Nat} {p1 p2 p3 p4 p5 p6 : Pos} {sto : List (Nat × P4)}
theorem Xk (EF : Mx K C fI cc cda P qual params scope fs) (lk : K.lookup fI = some ⟨oc, od, .func (ksFn nm qual params body scope dV kV doc pm an (.ref cda) ct cc), osl⟩) (hcd : codeIn K (.ref cda) qual = true)
  (hb : body = .Expr (.Call (.Attribute (.Call (.Name "super" p1) [] [] p2) "__init__" p3) [.Constant (.str msg) j p4] [] p5) p6 :: qC sto) (hln : (p3.endLine == p5.line) = true) (hs : sto.map (·.1) = fs) (hne : fs ≠ []) (hnd : fs.Nodup) (hms : mg "super" = none) (hbt : bootBuiltins "super" = some (.type "super")) :
  FnOk P w K mg base CX (k + 1) fI (ksFn nm qual params body scope dV kV doc pm an (.ref cda) ct cc) (("self" : Str) :: fs.map aK) (Aa C fs) := by
 subst hb
 have len : ∀ {vs : List V} {H : Hp} {Q : VK} {E : XK}, Aa C fs vs H Q E → vs.length = (("self" : Str) :: fs.map aK).length := fun {vs H Q E} ⟨a, ws, e1, e2, _⟩ => by rw [e1, List.length_cons, List.length_cons, List.length_map, e2]
 refine ⟨fun vs H Q E h => len h, fun A outer s H args us vs Q E hr e0 hbd r hsp => ?_⟩
 have KX : K.In s.heap := e0.mod.kin.keeps fun b o e => (e0.bs b o e).1
 have lim : s.heap.NoLimit := e0.mod.nolimit.keeps fun b o e => (e0.bs b o e).1
 have hl := len hsp
 have S := EF.sc
 obtain ⟨cl, cld, csl, hcell⟩ := EF.hcell
 obtain ⟨ccl, cdd, cvs, ccs, file, tf, hcode, hvs, hfile⟩ := EF.hcode
 obtain ⟨a, ws, ev, hlw, ea, hq⟩ := hsp
 let NFv : NF := ⟨nm, qual, params, .Expr (.Call (.Attribute (.Call (.Name "super" p1) [] [] p2) "__init__" p3) [.Constant (.str msg) j p4] [] p5) p6 :: qC sto, scope, [("__class__", cc)], cda⟩
 refine codeAny_call_function hr.depth (KX _ _ lk) rfl S.co S.gen rfl (codeRec_of KX hcd) (hbd _ _ _ _ ?_)
 refine wpAny_newFunctionEnv S.nocell (fun ⟨n, _⟩ hy => S.par n (List.of_mem_zip hy).1) (fun h₁ hns hsb => ⟨lim.fresh _ hsb, ?_⟩) S.kind
 have kp : ∀ b o, s.heap.get? b = some o → h₁.get? b = some o := fun b o e => hsb.extBut b o (Nat.ne_of_lt (Heap.lt_size e)) (Heap.get?_push_of_some _ e)
 have clk : ∀ y c, ([(("__class__" : Str), cc)] : List (Str × Addr)).lookup y = some c → y = "__class__" ∧ c = cc := fun y c e => by
  by_cases hy : y = "__class__"
  ·subst hy
   rw [List.lookup_cons, beq_self_eq_true] at e
   exact ⟨rfl, (Option.some.inj e).symm⟩
  ·rw [List.lookup_cons, beq_eq_false_iff_ne.mpr hy] at e
   cases e
 have cbase : base.get? cc = some ⟨cl, cld, .cell (some (.ref C)), csl⟩ := e0.mod.kin _ _ hcell
 have CA : CellsAt [(("__class__" : Str), cc)] [("__class__" : Str)] [some (.ref C)] s.heap H := by
  refine ⟨rfl, fun y c e => ?_, fun x y c e1 e2 => (clk x c e1).1.trans (clk y c e2).1.symm, fun i y e => ?_⟩
  ·obtain ⟨_, rfl⟩ := clk y c e
   exact ⟨(e0.bs _ _ cbase).2, _, _, KX _ _ hcell, rfl⟩
  ·cases i with
   | zero =>
    cases e
    refine ⟨cc, by rw [List.lookup_cons, beq_self_eq_true], fun v ev => ?_⟩
    cases ev
    exact ⟨.ref C, rfl, _, KX _ _ hcell, rfl⟩
   | succ i => simp at e
 let X : Cx := ncx CX P w K mg base (("self" : Str) :: (fs.map aK ++ [("__class__" : Str)])) NFv fI A outer s H E
 have I : Inv X [] (startF X.N vs [some (.ref C)]) H { s with heap := h₁, toks := s.toks + (((("self" : Str) :: fs.map aK).zip us).length) } := inv_startN (F := NFv) S hr.hd e0 hl r CA hns kp
 have KX1 : K.In h₁ := I.kIn
 obtain ⟨t1, hx⟩ := exo_at I.hok ea
 have IA : PySem.W.InstAt h₁ a (excObj C t1 none .none) C none := ⟨hx, rfl, rfl, trivial⟩
 obtain ⟨u0, us', eu⟩ : ∃ u0 us', us = u0 :: us' ∧ u0 = .ref a := by
  rw [ev] at r
  cases r with
  | cons h t => exact ⟨_, _, rfl, h⟩
 obtain ⟨eu, eu0⟩ := eu
 subst eu0
 obtain ⟨ar, har, hself⟩ : ∃ ar, (params.posonlyargs ++ params.args).head? = some ar ∧ ar.arg = "self" := by
  have := EF.hps
  cases e : (params.posonlyargs ++ params.args).head? with
  | none => rw [e] at this; cases this
  | some ar => rw [e] at this; exact ⟨ar, rfl, Option.some.inj this⟩
 have kself : scope.names.lookup ("self" : Str) = some .local := S.par _ List.mem_cons_self
 have kcls : scope.names.lookup ("__class__" : Str) = some .free := S.frk _ List.mem_cons_self
 refine ks_codeAny_funcAt ?_
 show PySem.wpAt (model X.prog X.w) X.A (.func (_ :: qC sto) X.env) (execs (_ :: qC sto) X.env) _ _ _
 refine ks_wpAt_execs_cons (ks_wpAt_Expr_any (ks_wpAt_MethodCall (pl := do return (← importBound (.Call (.Name "super" p1) [] [] p2) X.env).getD true) (ks_wpAt_super_base (env := X.env) (fd := ksFn nm qual params (.Expr (.Call (.Attribute (.Call (.Name "super" p1) [] [] p2) "__init__" p3) [.Constant (.str msg) j p4] [] p5) p6 :: qC sto) scope dV kV doc pm an (.ref cda) ct cc) EF.sup kcls (by decide) rfl (KX1 _ _ lk) rfl har rfl (KX1 _ _ hcode) rfl hvs hfile EF.htop ?_) (Xg hln)) I.quiet)
 obtain ⟨mb, hb1, hb2⟩ := I.mod.blt
 obtain ⟨cd, hcd2⟩ : ∃ cd, clsIn K C = some cd := by
  have h := EF.hsub
  unfold mroIn at h
  cases e : clsIn K C with
  | none => rw [e] at h; cases h
  | some cd => exact ⟨cd, rfl⟩
 obtain ⟨oD, hD1, hD2⟩ : ∃ oD, h₁.get? C = some oD ∧ oD.data = .cls cd := by
  have h := hcd2
  unfold clsIn at h
  split at h
  ·rename_i c d cd' sl ho
   cases h
   exact ⟨_, KX1 _ _ ho, rfl⟩
  ·cases h
 refine ks_loadName_global I.ok.kind EF.sup (Calls.loadGlobal_builtin (by rw [I.ok.glob]; exact I.mod.glob.keeps I.bk) hms (by rw [I.ok.blt]; exact hb1.keeps I.bk) ((hb2 _ (by decide)).trans hbt) ⟨rfl, ?_⟩)
 refine wpAny_loadName_free I.ok.kind kcls rfl ⟨_, KX1 _ _ hcell, rfl⟩ ?_
 refine wpAny_loadName_local I.ok.kind (by rw [hself]; exact kself) hns (by rw [hself, eu]; exact zip_look (i := 0) (by have q := S.nd.sublist (List.take_sublist ((("self" : Str) :: fs.map aK).length + 1) _); rw [show (("self" : Str) :: fs.map aK).length + 1 = (("self" : Str) :: fs.map aK).length + [("__class__" : Str)].length from rfl, S.pre] at q; exact (List.nodup_append.mp q).1) rfl rfl) ?_
 refine ks_wpAny_isType_cls hD1 hD2 ⟨rfl, ?_⟩
 refine ks_wpAny_call_super hD1 hD2 hx rfl (fun c e => by cases e) (looks_mroIn KX1 EF.hsub) (fun h2 hso k2 => ?_)
 have J2 := I.kept (t' := s.toks + (((("self" : Str) :: fs.map aK).zip us).length)) k2
 have KX2 : K.In h2 := J2.kIn
 have hx2 := k2 _ _ hx
 have IA2 : PySem.W.InstAt h2 a (excObj C t1 none .none) C none := ⟨hx2, rfl, rfl, trivial⟩
 refine kxs_getMethod kxs_ValueError hso (looks_opaque KX2 EF.hany) (l₀ := cd.mro) (fun A Q E s k q => wpAny_bind ((looks_clsIn KX2 hcd2) A _ E s k (wpAny_pure q))) rfl KX2 (by have h := EF.hal; unfold ks_superIn at h; rw [hcd2] at h; exact h) (IA2.type.andThen (looks_subIn KX2 EF.hVE)) (ks_ne KX2 IA2 hcd2) (by decide) ?_
 have J3 : Inv X [] (startF X.N vs [some (.ref C)]) H ⟨h2.push (kxs_mw "ValueError.__init__" a), s.gens, s.drawn, s.toks + (((("self" : Str) :: fs.map aK).zip us).length) + 1, s.os⟩ := J2.kept (fun b o e => Heap.get?_push_of_some _ e)
 have eu2 : (h2.push (kxs_mw "ValueError.__init__" a)).get? h2.objs.size = some (kxs_mw "ValueError.__init__" a) := Heap.get?_push_size _ rfl
 have J4 : Inv X [(h2.objs.size, kxs_mw "ValueError.__init__" a)] (startF X.N vs [some (.ref C)]) H ⟨h2.push (kxs_mw "ValueError.__init__" a), s.gens, s.drawn, s.toks + (((("self" : Str) :: fs.map aK).zip us).length) + 1, s.os⟩ := J3.pins_of fun p hp => by
  have hp' : p = (h2.objs.size, kxs_mw "ValueError.__init__" a) := by
   have hp' : p ∈ ([] : List (Addr × Obj)) ++ [(h2.objs.size, kxs_mw "ValueError.__init__" a)] := hp
   simpa using hp'
  rw [hp']
  exact ⟨eu2, J2.hok.fresh (Nat.le_refl _), Nat.ne_of_gt J2.lt, J2.nofs (Nat.le_refl _), fun v z => by cases z⟩
 have PC : PA X [.Constant (.str msg) j p4] (tCons (tC (.str msg)) tNil) := pa_cons pe_str pa_nil
 refine kxs_callWith (i := "ValueError.__init__") (x := a) rfl (evalArgs_plain (thn (PC.run p5 [(h2.objs.size, kxs_mw "ValueError.__init__" a)] _ _ H (fun vs' H' => vs' = [.str msg] ∧ H' = H) J4 ⟨rfl, rfl⟩) fun us4 s4 hh => ?_))
 obtain ⟨vs4, H4, J5, r4, e4, eH4⟩ := hh
 subst eH4
 subst e4
 have pu := (J5.pin (h2.objs.size, kxs_mw "ValueError.__init__" a) (List.mem_append_right _ List.mem_cons_self)).1
 refine ⟨pu, ?_⟩
 obtain ⟨t4, hx4⟩ := exo_at J5.hok ea
 obtain ⟨nm', q', N', bs', bm', sn', sub', ab', col', dd', k0, k1, k2', k3, k5, hC, hbm⟩ := EF.T.cls
 obtain ⟨g4h, g4g, g4d, g4t, g4o⟩ := s4
 refine Xf (J5.kIn _ _ hC) hx4 pu (by rw [List.nil_append, ← Paired.length r4]; show 1 ≤ sizeLine; rw [sizeLine_eq]; omega) fun h5 t5 k5' hx5 => ?_
 have J6 := J5.write (t' := g4t) (x := a) (e := a) (o := exo a C none) (by rw [ea]; exact True.intro) (.inl rfl) k5' ⟨_, hx5⟩ (exo_ok hx5)
 have eu6 : upd H4 a (exo a C none) = H4 := by
  funext b
  by_cases hb : b = a
  ·rw [hb, upd_same, ea]
  ·rw [upd_ne hb]
 rw [eu6] at J6
 refine PySem.wpAt_of_wpAny ?_
 have hNI : ∀ m x, sto[m]? = some x → X.N[1 + m]? = some (aK x.1) ∧ Vis X.env.scope (aK x.1) ∧ findIn X.K (.ref C) (aK x.1) = some none := fun m x e => by
  have e1 : fs[m]? = some x.1 := by rw [← hs, List.getElem?_map, e]; rfl
  have e2 : (fs.map aK)[m]? = some (aK x.1) := by rw [List.getElem?_map, e1]; rfl
  have hm : aK x.1 ∈ fs.map aK := List.mem_of_getElem? e2
  refine ⟨?_, .inl (S.par _ (List.mem_cons_of_mem _ hm)), EF.no _ (List.mem_of_getElem? e1)⟩
  show (("self" : Str) :: (fs.map aK ++ [("__class__" : Str)]))[1 + m]? = _
  rw [Nat.add_comm, List.getElem?_cons_succ, List.getElem?_append_left (List.getElem?_eq_some_iff.mp e2).1]
  exact e2
 have hsne : sto ≠ [] := fun z => hne (by rw [← hs, z]; rfl)
 have hsl : sto.length = fs.length := by rw [← hs, List.length_map]
 have body := Xj (X := X) EF.T rfl (.inl kself) hsne hNI (by rw [hsl]; exact EF.fewer)
 refine wpAny_mono (body.run _ _ _ H4 { nx := fun _ H' => Q .non H', rt := Q } J6 ⟨a, ws, ?_, fun m w' e => ?_, by rw [hsl]; exact hlw, ea, fun d hd hda => by rw [hs]; exact hq d hd hda⟩) (fun fl s' hs' => ?_) fun e s' hs' => hs'
 ·show (startF X.N vs [some (.ref C)])[0]? = _
  rw [ev]
  rfl
 ·show (startF X.N vs [some (.ref C)])[1 + m]? = _
  rw [ev]
  unfold startF
  rw [List.getElem?_append_left (by rw [List.length_map, List.length_cons]; have := (List.getElem?_eq_some_iff.mp e).1; omega), List.getElem?_map, Nat.add_comm, List.getElem?_cons_succ, e]
  rfl
 ·have fin : ∀ {σ' : L2.St} {H' : Hp} {v : V} {u : Value} {pins'}, L2.Inv X pins' σ' H' s' → L2.RelV v u → Q v H' → CE outer P w H4 s Q u s' :=
   fun {σ' H' v u pins'} J rv q => ⟨v, H', J.os, J.bare, J.base, J.hok, rv, q⟩
  cases fl with
  | ret u =>
   obtain ⟨v, σ', H', J, rv, q⟩ := hs'
   exact fin J rv q
  | next =>
   obtain ⟨σ', H', J, q⟩ := hs'
   exact fin (v := V.non) (u := Value.none) J rfl q
  | brk =>
   obtain ⟨_, _, _, q⟩ := hs'
   exact False.elim q
  | cont =>
   obtain ⟨_, _, _, q⟩ := hs'
   exact False.elim q
end
end DN
end
section
namespace DN
open PySem PySem.Spec PyProof.Rows L2
section
variable {X : Cx} {g : G} {W : WX} {e : Expr} {es : List Expr} {fs : aA → M (List D)} {p pos pos2 : Pos} {k : Nat}
def uJ (c : Nat) (fs : aA → M (List D)) : SX := bW fs fun ds τ L => match aV ds with
 | some ps => if ps.length = (aN c).length then some (.ex τ c ps.reverse, L) else none
 | none => none
theorem M4 {α β : Type} {x : α} {y : β} : ∀ {xs : List α} {ys : List β}, xs.length = ys.length → (xs ++ [x]).zip (ys ++ [y]) = xs.zip ys ++ [(x, y)]
 | [], [], _ => rfl
 | [], _ :: _, h => by cases h
 | _ :: _, [], h => by cases h
 | a :: xs, b :: ys, h => by
  have := M4 (x := x) (y := y) (xs := xs) (ys := ys) (Nat.succ.inj h)
  simp only [List.cons_append, List.zip_cons_cons, this]
theorem Xl {α β : Type} : ∀ {xs : List α} {ys : List β}, xs.length = ys.length → (xs.reverse.zip ys).reverse = xs.zip ys.reverse := by
 have key : ∀ {xs : List α} {ys : List β}, xs.length = ys.length → (xs.zip ys).reverse = xs.reverse.zip ys.reverse := by
  intro xs
  induction xs with
  | nil => intro ys _; rfl
  | cons a xs ih =>
   intro ys h
   cases ys with
   | nil => cases h
   | cons b ys =>
    have h' : xs.length = ys.length := Nat.succ.inj h
    rw [List.zip_cons_cons, List.reverse_cons, List.reverse_cons, List.reverse_cons, M4 (by rw [List.length_reverse, List.length_reverse, h']), ih h']
 intro xs ys h
 rw [key (by rw [List.length_reverse, h]), List.reverse_reverse]
theorem Xm {F : Hp} {vs : List V} {ps : List P} (h : aP g F vs ps) : aP g F vs.reverse ps.reverse := by
 have snoc : ∀ {vs : List V} {ps : List P} {v : V} {p : P}, aP g F vs ps → Is g F v p → aP g F (vs ++ [v]) (ps ++ [p]) := by
  intro vs ps v p h
  induction vs generalizing ps with
  | nil => intro h2; cases h; exact .cons h2 .nil
  | cons a l ih => intro h2; cases h with | cons h t => exact .cons h (ih t h2)
 induction vs generalizing ps with
 | nil => cases h; exact .nil
 | cons a l ih => cases h with | cons h t => rw [List.reverse_cons, List.reverse_cons]; exact snoc (ih t) h
theorem Xn {x : Str} {c : Nat} {fI : Addr} {fd : FuncData} (hc : X.calm = true) (tk : Takes X W) (T : OexC X.K (g.cl c)) (iC : PySem.W.findIn X.K (.ref (g.cl c)) "__init__" = some (some (.ref fI))) (tI : PySem.W.typeIn X.K (.ref fI) = some (.type "function"))
  (FO : FnOk X.prog X.w X.K X.mg X.base (L2.CX X.prog X.w) k fI fd (("self" : Str) :: (aN c).reverse.map aK) (Aa (g.cl c) (aN c).reverse)) (hr : Room (k + 1) X.A) (hb : Binds X.K fd (("self" : Str) :: (aN c).reverse.map aK) [])
  (hg : Gl X x) (hm : X.mg x = some (.ref (g.cl c))) (hfew : (aN c).length ≤ 1000) (ha : PA X (e :: es) (tA g W fs)) (hdb : (x == ("__debug__" : Str)) = false := by decide)
  (hst : starEach (e :: es) X.env = (false, eval e X.env) :: starEach es X.env := by rfl) (hpl : (backTo pos (starEach es X.env)).any (·.1) = false := by rfl) :
  PS X (.Raise (some (.Call (.Name x p) (e :: es) [] pos)) none pos2) (tS g W (uJ c fs)) := by
 refine PS.weak (ps_raise hc tk (pmk_oex T iC tI FO hr hb .nil (passes_call tk fun _ _ _ _ h => h.elim) hg hm ha hdb hst hpl)) fun D σ H h => ?_
 refine (dR.bind (ra := fZ g) h).mono fun vs H1 h1 => ?_
 obtain ⟨F, ρ, τ, L, ds, hR, hS, hcx, hr, hp⟩ := h1
 match ed : aV ds with
 | none => rw [ed] at hp; exact False.elim hp
 | some ps =>
  rw [ed] at hp
  dsimp only at hp
  have hi := wD hr ed
  by_cases hz : ps.length = (aN c).length
  ·rw [if_pos hz] at hp
   have hvl : vs.length = (aN c).length := hi.len.trans hz
   refine ⟨by rw [hvl]; exact hfew, fun a hna => ⟨a, vs ++ [], rfl, by rw [List.append_nil, List.length_reverse, hvl], upd_same, fun d hd hda => ?_⟩⟩
   rw [upd_ne hda] at hd
   refine ⟨rfl, d, _, upd_same, by rw [upd_ne hda]; exact upd_same, hd, ?_⟩
   have eH : upd (del (upd (upd (upd H1 a (exo a (g.cl c) none)) d (exd d ((List.map aK (aN c).reverse).zip (vs ++ [])).reverse)) a (exo a (g.cl c) (some d))) a) d (.xd ((List.map aK (aN c).reverse).zip (vs ++ [])).reverse) = upd H1 d (.xd (((aN c).map aK).zip vs.reverse)) := by
    have ez : ((List.map aK (aN c).reverse).zip (vs ++ [])).reverse = ((aN c).map aK).zip vs.reverse := by
     rw [List.append_nil, List.map_reverse]
     exact Xl (by rw [List.length_map, hvl])
    rw [ez]
    funext b
    by_cases hb : b = d
    ·rw [hb, upd_same, upd_same]
    ·rw [upd_ne hb, upd_ne hb]
     by_cases hba : b = a
     ·rw [hba, del_same, hna]
     ·rw [del_ne hba, upd_ne hba, upd_ne hb, upd_ne hba]
   rw [eH]
   refine hp (upd F d (.xd (((aN c).map aK).zip vs.reverse))) ρ d vs.reverse _ σ ⟨Sub.frz hR hd _, fun _ _ => rfl, Nat.le_refl _⟩ (hR.frz hd _) (hS.ext ⟨Sub.frz hR hd _, fun _ _ => rfl, Nat.le_refl _⟩) upd_same ?_ ?_
   ·rw [List.length_reverse, hvl]
   ·exact Xm (aP.mono (Sub.frz hR hd _) hi)
  ·rw [if_neg hz] at hp
   exact False.elim hp
end
structure Clz where
 c : Nat
 i : Option Nat
 su : Nat → Nat → Nat → SX
def wU (i : Nat) : Option (Out × List MO) → Option (Out × List MO)
 | some (.nx τ, L) => some (.nx (τ.set i none), L)
 | some (.bk τ, L) => some (.bk (τ.set i none), L)
 | some (.ct τ, L) => some (.ct (τ.set i none), L)
 | some (.rt d, L) => some (.rt d, L)
 | _ => none
def M5 : Option (Out × List MO) → Option (Out × List MO)
 | some (.ex _ _ _, _) => none
 | o => o
def gJ (z : Clz) (a dx c : Nat) (fs : List P) : SX := fun τ L => match z.i with
 | none => M5 (z.su a dx c τ L)
 | some i => wU i (z.su a dx c (τ.set i (some (.v (.exn c (.int a :: .int dx :: fs))))) L)
def lV : List Clz → Nat → List P → SX
 | [], c, fs => fun τ L => some (.ex τ c fs, L)
 | z :: zs, c, fs => if eX c z.c = true then gJ z 0 0 c fs else lV zs c fs
def Ac (tab : List Nat) (zs : List Clz) (sb : SX) : SX := fun τ L => match sb τ L with
 | some (.ex τ1 c fs, L1) => if c ∈ tab then lV zs c fs τ1 L1 else none
 | o => o
inductive rO (X : Cx) (g : G) (tab : List Nat) : List ExceptHandler → List Clz → Prop
 | nil : rO X g tab [] []
 | only {x : Str} {z : Clz} {b0 : Stmt} {suite : List Stmt} {np p1 : Pos} {hds : List ExceptHandler} {zs : List Clz} (hi : z.i = none) (hc : Names X x (.ref (g.cl z.c)))
   (hsu : ∀ (a : Addr) (oe : Obj) (dx : Addr) (c : Nat) (pn : List (Addr × Obj)), c ∈ tab → Zc (.ref (g.cl c)) (some dx) oe → (∃ vs, oe.data = .fields vs) → PSs (X.suite a ((a, oe) :: pn)) (b0 :: suite) (tS g W0 (z.su a dx c)))
   (r : rO X g tab hds zs) : rO X g tab (.ExceptHandler (some (.Name x np)) none (b0 :: suite) p1 :: hds) (z :: zs)
 | named {x n : Str} {i : Nat} {z : Clz} {b0 : Stmt} {suite : List Stmt} {np p1 : Pos} {hds : List ExceptHandler} {zs : List Clz} (hi : z.i = some i) (hn : X.N[i]? = some n) (hl : X.env.kindOf n = some .local) (hc : Names X x (.ref (g.cl z.c)))
   (hsu : ∀ (a : Addr) (oe : Obj) (dx : Addr) (c : Nat) (pn : List (Addr × Obj)), c ∈ tab → Zc (.ref (g.cl c)) (some dx) oe → (∃ vs, oe.data = .fields vs) → PSs (X.suite a ((a, oe) :: pn)) (b0 :: suite) (tS g W0 (z.su a dx c)))
   (r : rO X g tab hds zs) : rO X g tab (.ExceptHandler (some (.Name x np)) (some n) (b0 :: suite) p1 :: hds) (z :: zs)
section
variable {X : Cx} {g : G} {Wout : WX} {tab : List Nat} {pos : Pos} {body : List Stmt} {sb : SX}
theorem Sl.unset2 {F : Hp} {ρ : Nat → Addr} {n : Nat} {σ : L2.St} {τ : aA} (h : Sl g F ρ n σ τ) (i : Nat) : Sl g F ρ n (σ.set i none) (τ.set i none) := by
 refine ⟨by rw [List.length_set, List.length_set]; exact h.1, fun j d e => ?_⟩
 by_cases hj : i = j
 ·subst hj
  rw [List.getElem?_set] at e
  simp at e
 ·rw [List.getElem?_set_ne hj] at e
  rw [List.getElem?_set_ne hj]
  exact h.2 j d e
def Fe (g : G) (Wout : WX) (tab : List Nat) (zs : List Clz) (E : Ends) : WX := fun cls dd σ H => ∃ F ρ τ L c fs dx vs, cls = .ref (g.cl c) ∧ dd = some dx ∧ c ∈ tab ∧ R g F ρ L H ∧ Sl g F ρ L.length σ τ ∧ F dx = some (.xd (((aN c).map aK).zip vs)) ∧ vs.length = (aN c).length ∧ aP g F vs fs ∧
 eV g F ρ L.length Wout E (lV zs c fs τ L)
theorem Xo {F : Hp} {ρ : Nat → Addr} {n : Nat} {zs : List Clz} {E : Ends} {o : Option (Out × List MO)} (h : eV g F ρ n Wout E (match o with | some (.ex τ1 c fs, L1) => if c ∈ tab then lV zs c fs τ1 L1 else none | o => o)) : eV g F ρ n (Fe g Wout tab zs E) E o := by
 match o, h with
 | none, h => exact h
 | some (.nx τ, L), h => exact h
 | some (.rt d, L), h => exact h
 | some (.bk τ, L), h => exact h
 | some (.ct τ, L), h => exact h
 | some (.ex τ c fs, L), h =>
  dsimp only at h
  by_cases hc : c ∈ tab
  ·rw [if_pos hc] at h
   exact fun F' ρ' dx vs H' σ' x hR hS hd hl hi => ⟨F', ρ', τ, L, c, fs, dx, vs, rfl, rfl, hc, hR, hS, hd, hl, hi, h.ext x⟩
  ·rw [if_neg hc] at h
   exact False.elim h
theorem Xp {F : Hp} {ρ : Nat → Addr} {n i : Nat} {E : Ends} {o : Option (Out × List MO)} (h : eV g F ρ n Wout E (wU i o)) : eV g F ρ n W0 { nx := fun σ H => E.nx (σ.set i none) H, rt := E.rt, bk := fun σ H => E.bk (σ.set i none) H, ct := fun σ H => E.ct (σ.set i none) H } o := by
 match o, h with
 | none, h => exact h
 | some (.nx τ, L), h => exact fun F' ρ' H' σ' x hR hS => h F' ρ' H' _ x hR (hS.unset2 i)
 | some (.rt d, L), h => exact h
 | some (.bk τ, L), h => exact fun F' ρ' H' σ' x hR hS => h F' ρ' H' _ x hR (hS.unset2 i)
 | some (.ct τ, L), h => exact fun F' ρ' H' σ' x hR hS => h F' ρ' H' _ x hR (hS.unset2 i)
 | some (.ex τ c fs, L), h => exact False.elim h
theorem Xq {F : Hp} {ρ : Nat → Addr} {n : Nat} {E : Ends} {o : Option (Out × List MO)} (h : eV g F ρ n Wout E (M5 o)) : eV g F ρ n W0 E o := by
 match o, h with
 | none, h => exact h
 | some (.nx τ, L), h => exact h
 | some (.rt d, L), h => exact h
 | some (.bk τ, L), h => exact h
 | some (.ct τ, L), h => exact h
 | some (.ex τ c fs, L), h => exact False.elim h
theorem Xr {h0 : ExceptHandler} {hds : List ExceptHandler} {zs : List Clz} (hs : X.stack = X.env :: X.outer) (hf : X.env.frame = some X.env.locals) (hN : X.N.Nodup) (tk : Takes X Wout)
  (hb : ∀ (pn : List (Addr × Obj)) (xe : Value → Shared → Prop) (W : WX), Takes (X.tr pn xe) W → PassesOwn (model X.prog X.w) X.A X.env xe → PSs (X.tr pn xe) body (tS g W sb))
  (hh : rO X g tab (h0 :: hds) zs) (hx : ∀ c ∈ tab, ∀ z ∈ zs, PySem.W.exmOne X.K (.ref (g.cl c)) (.ref (g.cl z.c)) = some (eX c z.c)) (par : ∀ z ∈ zs, ∀ a dx c fs τ L, gJ z a dx c fs τ L = gJ z 0 0 c fs τ L) :
  PS X (.Try body (h0 :: hds) [] [] pos) (tS g Wout (Ac tab zs sb)) := by
 refine ⟨fun pins s σ H E I h => ?_⟩
 have ok := I.ok
 have hfr : X.A.frames = some (X.env :: X.outer) := by rw [ok.frames, hs]
 obtain ⟨F0, ρ0, τ0, L0, hR0, hS0, _, hp0⟩ := h
 have hq : tS g (Fe g Wout tab zs E) sb E σ H := ⟨F0, ρ0, τ0, L0, hR0, hS0, (fun y hy => by cases hy), Xo hp0⟩
 refine wpAny_Try_except (wpAny_mono ((hb (X.pn ++ pins) (fun e s₁ => wpAny (model X.prog X.w) X.A (noteFrame e X.env) (fun _ s₂ => wpAny (model X.prog X.w) X.A (setFlight e none) (fun _ s₃ =>
  wpAny (model X.prog X.w) X.A (handleBy e X.env (h0 :: hds)) (SP X pins E) X.xe s₃) X.xe s₂) X.xe s₁) (Fe g Wout tab zs E) (fun u s1 hu => ?_) PassesOwn.looking).run [] s σ H E (I.toTry _) hq) (fun f s1 hsp => ?_) fun e s1 he => he)
 ·obtain ⟨a, B, sI, pins1, σ1, H1, cls, dd, eu, J', nb, up, sky, na, os, ag, wt⟩ := hu
  subst eu
  have J : Inv X pins σ1 H1 sI := J'.ofTry ok
  rw [hs] at sky
  show wpAny (model X.prog X.w) X.A (noteFrame (.ref a) X.env) _ _ _
  refine Sky.land Zc.steady hfr hf sky fun h3 fl up3 => ?_
  have J3 : Inv X pins σ1 H1 { s1 with heap := h3 } := J.landed nb fl.1 (up.trans up3) os ag
  obtain ⟨o3, v3, he3, hz3, hd3⟩ := fl.there
  have aFr : a ∉ frs (X.env :: X.outer) := fun hm => by
   obtain ⟨_, o', e', hnf⟩ := fl.2.2.1.mem hm
   rw [he3] at e'
   cases e'
   exact hnf _ hd3
  have nL : a ≠ X.env.locals := fun z => aFr (List.mem_filterMap.mpr ⟨X.env, List.mem_cons_self, by rw [hf, z]⟩)
  have nF : a ∉ X.fs := fun hm => by
   obtain ⟨e, h1, h2⟩ := List.mem_filterMap.mp hm
   exact aFr (List.mem_filterMap.mpr ⟨e, List.mem_cons_of_mem _ h1, h2⟩)
  obtain ⟨F, ρ, τ, L, c, fs, dx, vs, ec, ed, hct, hR, hS, hxd, hvl, hia, hp⟩ := wt
  subst ec
  subst ed
  have S3 := J3.suite he3 hd3 na nL nF
  have walk : ∀ {hs' : List ExceptHandler} {ys : List Clz}, rO X g tab hs' ys → (∀ z ∈ ys, PySem.W.exmOne X.K (.ref (g.cl c)) (.ref (g.cl z.c)) = some (eX c z.c)) → (∀ z ∈ ys, ∀ a dx c fs τ L, gJ z a dx c fs τ L = gJ z 0 0 c fs τ L) → eV g F ρ L.length Wout E (lV ys c fs τ L) →
    wpAny (model X.prog X.w) X.A (handleBy (.ref a) X.env hs') (SP X pins E) X.xe { s1 with heap := h3 } := by
   intro hs' ys hk
   have testOf : ∀ {x : Str} {np : Pos} {cv : Value} {Q : Value → Shared → Prop} {E' : Value → Shared → Prop}, Names X x cv → Q cv { s1 with heap := h3 } → wpAny (model X.prog X.w) (X.A.mark (some (.ref a))) (eval (.Name x np) X.env) Q E' { s1 with heap := h3 } := fun {x np cv Q E'} hc q => by
    obtain ⟨hg, hdb, hm | ⟨hm, hv, hnn⟩⟩ := hc
    ·exact ld_glob (X := X.suite a ((a, o3) :: (X.pn ++ pins))) S3 hg hm q hdb
    ·exact ld_blt (X := X.suite a ((a, o3) :: (X.pn ++ pins))) S3 hg hm hv q hnn hdb
   have clsOfA : PySem.W.Looks (model X.prog X.w) h3 (typeOf (.ref a)) (.ref (g.cl c)) := fun A Q E s k q => wpAny_typeOf_ref (k _ _ he3) (by rw [hz3.1]; exact q)
   induction hk with
   | nil =>
    intro _ _ hp
    refine wpAny_handleBy_nil ?_
    obtain ⟨k1, k2, k3, oe, ws, T, oT, ts', he, hz, hd, h1, hr⟩ := id fl
    unfold PySem.passOn
    refine wpAny_bind (wpAny_field he hd h1 ?_)
    rw [if_neg (by simp : ¬ ((Value.ref T == Value.none) = true))]
    have fin : wpAny (model X.prog X.w) X.A (setFlight (.ref a) X.env.frame) (fun _ s4 => wpAny (model X.prog X.w) X.A (throw (.ref a) : Sem Flow) (SP X pins E) X.xe s4) X.xe { s1 with heap := h3 } := by
     rw [hf]
     refine HandSPX.setFlight_upZ fl fun h4 hh4 up4 => wpAny_throw (tk _ _ ?_)
     refine ⟨a, B, sI, pins, σ1, H1, _, _, rfl, J, nb, (up.trans up3).trans up4, .inr (.inr (by rw [hs]; exact hh4)), na, os, ag, ?_⟩
     exact hp F ρ dx vs H1 σ1 Ext.refl hR hS hxd hvl hia
    first
     | exact wpAny_bind (wpAny_pure (wpAny_bind fin))
     | exact wpAny_bind fin
   | @only x z b0 suite np p1 hds2 zs2 hi hc hsu r ih =>
    intro hx2 par2 hp
    refine wpAny_handleBy_cons (codeAny_handlers_test ?_) (by intro q; cases q)
    have LM := PySem.W.exm_one (M := model X.prog X.w) J3.kIn clsOfA (hx2 z List.mem_cons_self)
    refine testOf hc (LM.here ?_)
    unfold lV at hp
    cases hb : eX c z.c with
    | true =>
     rw [if_pos hb] at hp
     unfold gJ at hp
     rw [hi] at hp
     refine codeAny_handlers_suite (HandSPX.lands_againZ fl fun h4 fl4 up4 => ?_)
     have J4 : Inv X pins σ1 H1 { s1 with heap := h4 } := J.landed nb fl4.1 ((up.trans up3).trans up4) os ag
     obtain ⟨o4, v4, he4, hz4, hd4⟩ := fl4.there
     have S4 := J4.suite he4 hd4 na nL nF
     have pz := par2 z List.mem_cons_self a dx c fs τ L
     unfold gJ at pz
     rw [hi] at pz
     dsimp only at pz hp
     rw [← pz] at hp
     refine wpAny_mono ((hsu a o4 dx c (X.pn ++ pins) hct hz4 ⟨_, hd4⟩).run [] _ _ H1 _ S4 ⟨F, ρ, τ, L, hR, hS, (fun y hy => by cases hy), Xq hp⟩) (fun f s6 hsp => ?_) (fun _ _ z => False.elim z)
     cases f with
     | next => exact let ⟨σ6, H6, S6, q6⟩ := hsp; ⟨σ6, H6, S6.unsuite ok, q6⟩
     | brk => exact let ⟨σ6, H6, S6, q6⟩ := hsp; ⟨σ6, H6, S6.unsuite ok, q6⟩
     | cont => exact let ⟨σ6, H6, S6, q6⟩ := hsp; ⟨σ6, H6, S6.unsuite ok, q6⟩
     | ret u => exact let ⟨v6, σ6, H6, S6, r6, q6⟩ := hsp; ⟨v6, σ6, H6, S6.unsuite ok, r6, q6⟩
    | false =>
     rw [if_neg (by rw [hb]; exact Bool.false_ne_true)] at hp
     show wpAny _ X.A (handleBy (.ref a) X.env hds2) _ _ _
     exact ih (fun z hz => hx2 z (List.mem_cons_of_mem _ hz)) (fun z hz => par2 z (List.mem_cons_of_mem _ hz)) hp
   | @named x n i z b0 suite np p1 hds2 zs2 hi hn hl hc hsu r ih =>
    intro hx2 par2 hp
    refine wpAny_handleBy_cons (codeAny_handlers_test ?_) (by intro q; cases q)
    have LM := PySem.W.exm_one (M := model X.prog X.w) J3.kIn clsOfA (hx2 z List.mem_cons_self)
    refine testOf hc (LM.here ?_)
    unfold lV at hp
    cases hb : eX c z.c with
    | true =>
     rw [if_pos hb] at hp
     unfold gJ at hp
     rw [hi] at hp
     refine codeAny_handlers_suite_as (HandSPX.lands_againZ fl fun h4 fl4 up4 => ?_)
     have J4 : Inv X pins σ1 H1 { s1 with heap := h4 } := J.landed nb fl4.1 ((up.trans up3).trans up4) os ag
     obtain ⟨o4, v4, he4, hz4, hd4⟩ := fl4.there
     have S4 := J4.suite he4 hd4 na nL nF
     have pz := par2 z List.mem_cons_self a dx c fs τ L
     unfold gJ at pz
     rw [hi] at pz
     dsimp only at pz hp
     rw [← pz] at hp
     refine store_ok (X := X.suite a ((a, o4) :: (X.pn ++ pins))) (v := .ref a) S4 hN hn (.inl hl) rfl (fun s5 S5 => ?_) (.inr hl)
     have hsl : Sl g F ρ L.length (σ1.set i (some (.ref a))) (τ.set i (some (.v (.exn c (.int a :: .int dx :: fs))))) := hS.set (show IsD g F ρ L.length (.ref a) (.v (.exn c (.int a :: .int dx :: fs))) from Is.exn hxd hvl hia) i
     refine wpAny_mono ((hsu a o4 dx c (X.pn ++ pins) hct hz4 ⟨_, hd4⟩).run [] s5 _ H1 _ S5 ⟨F, ρ, _, L, hR, hsl, (fun y hy => by cases hy), Xp hp⟩) (fun f s6 hsp => ?_) (fun _ _ z => False.elim z)
     have gone : ∀ {σ6 : L2.St} {H6 : Hp} {Q : Shared → Prop}, Inv (X.suite a ((a, o4) :: (X.pn ++ pins))) [] σ6 H6 s6 → (∀ s7, Inv X pins (σ6.set i none) H6 s7 → Q s7) →
       wpAny (model X.prog X.w) X.A (do bindName X.env n .none; unbindBehindTheSuite X.env n p1) (fun _ s7 => Q s7) X.xe s6 := fun {σ6 H6 Q} S6 hq => gone_ok (S6.unsuite ok) hN hn hl hq
     cases f with
     | next => exact let ⟨σ6, H6, S6, q6⟩ := hsp; gone S6 fun s7 J7 => ⟨_, H6, J7, q6⟩
     | brk => exact let ⟨σ6, H6, S6, q6⟩ := hsp; gone S6 fun s7 J7 => ⟨_, H6, J7, q6⟩
     | cont => exact let ⟨σ6, H6, S6, q6⟩ := hsp; gone S6 fun s7 J7 => ⟨_, H6, J7, q6⟩
     | ret u => exact let ⟨v6, σ6, H6, S6, r6, q6⟩ := hsp; gone S6 fun s7 J7 => ⟨v6, _, H6, J7, r6, q6⟩
    | false =>
     rw [if_neg (by rw [hb]; exact Bool.false_ne_true)] at hp
     show wpAny _ X.A (handleBy (.ref a) X.env hds2) _ _ _
     exact ih (fun z hz => hx2 z (List.mem_cons_of_mem _ hz)) (fun z hz => par2 z (List.mem_cons_of_mem _ hz)) hp
  exact walk hh (hx c hct) par hp
 ·cases f with
  | next => exact let ⟨σ', H', J', q⟩ := hsp; wpAny_execs_nil ⟨σ', H', J'.ofTry ok, q⟩
  | brk => exact let ⟨σ', H', J', q⟩ := hsp; ⟨σ', H', J'.ofTry ok, q⟩
  | cont => exact let ⟨σ', H', J', q⟩ := hsp; ⟨σ', H', J'.ofTry ok, q⟩
  | ret u => exact let ⟨v, σ', H', J', r, q⟩ := hsp; ⟨v, σ', H', J'.ofTry ok, r, q⟩
end
def lW (a dx i f : Nat) (τ : aA) : M D := fun L => match τ[i]? with
 | some (some (.v (.exn c (.int a' :: .int dx' :: fs)))) => if a' = a ∧ dx' = dx then (match fget (aN c) fs f with
  | some p => some (.ok (.v p), L)
  | none => none) else none
 | _ => none
def jT (a dx i : Nat) (b : Bool) (τ : aA) : M D := fun L => match τ[i]? with
 | some (some (.v (.exn _ (.int a' :: .int dx' :: _)))) => if a' = a ∧ dx' = dx then some (.ok (.v (.bl b)), L) else none
 | _ => none
section
variable {X : Cx} {g : G} {W : WX} {a dx c i : Nat} {oe : Obj} {pn : List (Addr × Obj)} {n : Str} {p pos : Pos}
theorem Xu {F : Hp} : ∀ {is : List Nat} {vs : List V} {ps : List P} {f : Nat} {q : P}, aP g F vs ps → (is.map aK).Nodup → fget is ps f = some q → ∃ v, ((is.map aK).zip vs).lookup (aK f) = some v ∧ Is g F v q := fun {is vs ps f q} h nd e => Eu h nd (zY e) e
theorem Xv {x : Str} (f : Nat) (hx : x = aK f) (T : XfC X.K (g.cl c)) (hno : PySem.W.findIn X.K (.ref (g.cl c)) x = some none) (hnd : ∀ c, ((aN c).map aK).Nodup) (hz : Zc (.ref (g.cl c)) (some dx) oe) (hf : ∃ vs, oe.data = .fields vs) (hN : X.N[i]? = some n) (hv : Vis X.env.scope n)
  (hd : (n == ("__debug__" : Str)) = false := by decide) (hcd : (n == ("__classdict__" : Str)) = false := by decide) (hb : attributeBase (.Name n p) x X.env (eval (.Name n p) X.env) = eval (.Name n p) X.env := by rfl) :
  PE (X.suite a ((a, oe) :: pn)) (.Attribute (.Name n p) x pos) (tE g W (lW a dx i f)) := by
 subst hx
 refine PE.weak (pe_xf T hno hz hf (pe_var (X := X.suite a ((a, oe) :: pn)) hN hv hd hcd) hb) fun σ H Q h => ?_
 obtain ⟨F, ρ, τ, L, hR, hS, hc, hp⟩ := h
 unfold lW at hp
 split at hp
 ·rename_i c1 a1 dx1 fs e1
  split at hp
  ·rename_i hq
   obtain ⟨v, e2, e3⟩ := hS.2 i _ e1
   have e3' : Is g F v (.exn c1 (.int a1 :: .int dx1 :: fs)) := e3
   split at hp
   ·rename_i q eq
    cases e3' with
    | @exn a2 dx2 c2 vs ps h1 h2 h3 =>
     obtain ⟨w, k1, k2⟩ := Xu h3 (hnd c1) eq
     have ea : a2 = a := by have := hq.1; omega
     have edx : dx2 = dx := by have := hq.2; omega
     subst ea
     subst edx
     exact ⟨_, e2, rfl, rfl, _, _, w, rfl, hR.sub _ _ h1, k1, hp F ρ w H Ext.refl hR k2⟩
   ·exact False.elim hp
  ·exact False.elim hp
 ·exact False.elim hp
structure Ad (K : PySem.W.Frag) (C : Addr) : Prop where
 cl : (PySem.W.clsIn K C).isSome = true
 ga : PySem.W.findIn K (.ref C) "__getattribute__" = some (some (.builtin "BaseException.__getattribute__"))
 gg : PySem.W.findIn K (.ref C) "__getattr__" = some none
 sb : PySem.W.subIn K (.ref C) (.type "BaseException") = some true
 ca : PySem.W.findIn K (.ref C) "__class__" = some (some (.builtin "object.__class__"))
 cn : PySem.W.specialIn K (.builtin "object.__class__") "__get__" = some (some (.builtin "getset_descriptor.__get__"))
 tk : PySem.W.takesIn K (.builtin "object.__class__") = some true
 ob : PySem.W.mroIn K C (.type "object") = some true
theorem Xw {D : Addr} (T : Ad X.K D) (hz : Zc (.ref D) (some dx) oe) (hf : ∃ vs, oe.data = .fields vs) : CallR (X.suite a ((a, oe) :: pn)) (.builtin "isinstance") (fun xs H Q => ∃ (cv : V) (u : Value) (b : Bool) (fs : List (Str × V)), xs = [.ref a, cv] ∧ ClsV cv u ∧ H dx = some (.xd fs) ∧ PySem.W.kitOne X.K (.ref D) u = some b ∧ Q (.bl b) H) := by
 intro pins s σ H xs us Q I r h
 obtain ⟨cv, u, b, fs, ex, k, ed, e, q⟩ := h
 subst ex
 obtain ⟨u1, u2, eu, r1, r2⟩ := vals2 r
 subst eu
 have e2 := k.eq r2
 subst e2
 obtain rfl : u1 = Value.ref a := r1
 obtain ⟨ha, _⟩ := I.pin (a, oe) (List.mem_append_left _ List.mem_cons_self)
 obtain ⟨vs, hd⟩ := hf
 obtain ⟨mA, hns, _⟩ := (show ObjOk X.prog X.w H s.heap dx (.xd fs) from I.hok dx _ ed)
 obtain ⟨od, ho, hl⟩ := lookIn_ns hns
 have J : PySem.W.InstAt s.heap a oe D (some od) := ⟨ha, hz.1, by unfold PySem.W.notCls; rw [hd] <;> rfl, by rw [hz.2]; exact ho⟩
 exact PySem.W.kia_one (PySem.W.kitx_exc T.cl T.ga T.gg T.sb T.ca T.cn T.tk T.ob) I.kIn J e (fun z => nomatch z) fun tk => ⟨.bl b, H, I.tok tk, rfl, q⟩
theorem Fg {x : Str} {b : Bool} {cv : V} {u : Value} {p1 p2 : Pos} (T : Ad X.K (g.cl c)) (hz : Zc (.ref (g.cl c)) (some dx) oe) (hf : ∃ vs, oe.data = .fields vs) (hN : X.N[i]? = some n) (hv : Vis X.env.scope n) (k : ClsV cv u) (hk : PySem.W.kitOne X.K (.ref (g.cl c)) u = some b)
  (hcl : PE (X.suite a ((a, oe) :: pn)) (.Name x p2) (tC cv)) (hgi : Gl X "isinstance") (hmi : X.mg "isinstance" = none) (hvi : bootBuiltins "isinstance" = some (.builtin "isinstance"))
  (hd : (n == ("__debug__" : Str)) = false := by decide) (hcd : (n == ("__classdict__" : Str)) = false := by decide) :
  PE (X.suite a ((a, oe) :: pn)) (.Call (.Name "isinstance" p) [.Name n p1, .Name x p2] [] pos) (tE g W (jT a dx i b)) := by
 refine PE.weak (pe_callB (Xw T hz hf) hgi hmi hvi (pa_cons (pe_var (X := X.suite a ((a, oe) :: pn)) hN hv hd hcd) (pa_cons hcl pa_nil))) fun σ H Q h => ?_
 obtain ⟨F, ρ, τ, L, hR, hS, hc, hp⟩ := h
 unfold jT at hp
 split at hp
 ·rename_i c1 a1 dx1 fs e1
  split at hp
  ·rename_i hq
   obtain ⟨v, e2, e3⟩ := hS.2 i _ e1
   have e3' : Is g F v (.exn c1 (.int a1 :: .int dx1 :: fs)) := e3
   cases e3' with
   | @exn a2 dx2 c2 vs ps h1 h2 h3 =>
    have ea : a2 = a := by have := hq.1; omega
    have edx : dx2 = dx := by have := hq.2; omega
    subst ea
    subst edx
    exact ⟨_, e2, cv, u, b, _, rfl, k, hR.sub _ _ h1, hk, hp.val hR (Is.bl b)⟩
  ·exact False.elim hp
 ·exact False.elim hp
end
end DN
end
section
namespace DN
open PySem PySem.Spec PyProof.Rows L2
mutual
def cO : P → Option NestedKey
 | .non => some .none
 | .int i => some (.num i)
 | .str x => some (.text x)
 | .tup xs => (nH xs).map .tup
 | _ => none
def nH : List P → Option (List NestedKey)
 | [] => some []
 | x :: xs => match cO x, nH xs with
  | some k, some ks => some (k :: ks)
  | _, _ => none
end
mutual
theorem Fj {p : P} {k : NestedKey} (h : cO p = some k) : NK p k := by
 cases p with
 | non => unfold cO at h; cases h; exact .non
 | int i => unfold cO at h; cases h; exact .int i
 | str x => unfold cO at h; cases h; exact .str x
 | tup xs =>
  unfold cO at h
  cases e : nH xs with
  | none => rw [e] at h; cases h
  | some ks => rw [e] at h; cases h; exact .tup (M6 e)
 | bl _ => unfold cO at h; cases h
 | lst _ => unfold cO at h; cases h
 | ins _ _ => unfold cO at h; cases h
 | dk _ => unfold cO at h; cases h
 | dn _ => unfold cO at h; cases h
 | set _ => unfold cO at h; cases h
 | exn _ _ => unfold cO at h; cases h
 | scr _ => unfold cO at h; cases h
theorem M6 {ps : List P} {ks : List NestedKey} (h : nH ps = some ks) : qX ps ks := by
 cases ps with
 | nil => unfold nH at h; cases h; exact .nil
 | cons p ps =>
  unfold nH at h
  cases e1 : cO p with
  | none => rw [e1] at h; cases h
  | some k =>
   cases e2 : nH ps with
   | none => rw [e1, e2] at h; cases h
   | some ks2 => rw [e1, e2] at h; cases h; exact .cons (Fj e1) (M6 e2)
end
mutual
theorem M7 {p : P} {k : NestedKey} (h : NK p k) : cO p = some k := by
 cases h with
 | non => unfold cO; rfl
 | int i => unfold cO; rfl
 | str x => unfold cO; rfl
 | tup h => unfold cO; rw [M8 h]; rfl
theorem M8 {ps : List P} {ks : List NestedKey} (h : qX ps ks) : nH ps = some ks := by
 cases h with
 | nil => unfold nH; rfl
 | cons h t => unfold nH; rw [M7 h, M8 t]
end
-- the key as a value in the ledger H
mutual
inductive jU (K : PySem.W.Frag) (H : Hp) : V → NestedKey → Prop where
 | non : jU K H .non .none
 | int (i : Int) : jU K H (.int i) (.num i)
 | str (x : Str) : jU K H (.str x) (.text x)
 | tup {a : Addr} {vs : List V} {ks : List NestedKey} : SqT K H a vs → uK K H vs ks → jU K H (.ref a) (.tup ks)
inductive uK (K : PySem.W.Frag) (H : Hp) : List V → List NestedKey → Prop where
 | nil : uK K H [] []
 | cons {v : V} {k : NestedKey} {vs : List V} {ks : List NestedKey} : jU K H v k → uK K H vs ks → uK K H (v :: vs) (k :: ks)
end
mutual
theorem Ae {g : G} {F H : Hp} (s : Sub F H) {v : V} {p : P} {k : NestedKey} (h : Is g F v p) (n : NK p k) : jU g.K H v k := by
 cases n with
 | non => rw [Is.inv_non h]; exact .non
 | int i => rw [Is.inv_int h]; exact .int i
 | str x => rw [Is.inv_str h]; exact .str x
 | tup n =>
  obtain ⟨a, vs, rfl, h1, h2⟩ := Is.inv_tup h
  exact .tup (s.sqT h1) (M9 s h2 n)
theorem M9 {g : G} {F H : Hp} (s : Sub F H) {vs : List V} {ps : List P} {ks : List NestedKey} (h : aP g F vs ps) (n : qX ps ks) : uK g.K H vs ks := by
 cases n with
 | nil => cases h; exact .nil
 | cons n t => cases h with | cons h1 h2 => exact .cons (Ae s h1 n) (M9 s h2 t)
end
section
variable {X : Cx} {pins : List (Addr × Obj)} {σ : L2.St} {H : Hp} {s : Shared}
mutual
theorem wV (I : Inv X pins σ H s) {v : V} {k : NestedKey} {u : Value} (h : jU X.K H v k) (r : RelV v u) : NestedIs s.heap k u := by
 cases h with
 | non => cases (show u = Value.none from r); exact .none
 | int i => obtain ⟨t, q⟩ := (show ∃ t, u = Value.int i t from r); cases q; exact .int i t
 | str x => obtain ⟨t, q⟩ := (show ∃ t, u = Value.str x t from r); cases q; exact .text x t
 | @tup a vs ks h1 h2 =>
  cases (show u = Value.ref a from r)
  obtain ⟨its, rv, ⟨o, e1, e2, n, e3⟩, _⟩ := I.tuple h1
  exact .tup e1 e2 e3 (Nb I h2 rv)
theorem Nb (I : Inv X pins σ H s) {vs : List V} {ks : List NestedKey} {us : List Value} (h : uK X.K H vs ks) (r : Vals vs us) : NestedAll s.heap ks us := by
 cases h with
 | nil => cases r; exact .nil
 | cons h1 h2 => cases r with | cons r1 r2 => exact .cons (wV I h1 r1) (Nb I h2 r2)
end
structure DnH (K : PySem.W.Frag) (w : World) (H : Hp) (d : Addr) (rows : List (NestedKey × Addr × Value)) : Prop where
 at_ : Rd H d (.ext (tQ w d rows))
 sys : (d == sysModules) = false
 nd : (rows.map (·.1)).Nodup
 key : ∀ x ∈ rows, jU K H (.ref x.2.1) x.1 ∧ x.1.depth ≤ 8
structure DnW (K : PySem.W.Frag) (w : World) (H : Hp) (d : Addr) (rows : List (NestedKey × Addr × Value)) : Prop extends DnH K w H d rows where
 own : H d = some (.ext (tQ w d rows))
theorem Fo {d : Addr} {rows : List (NestedKey × Addr × Value)} (I : Inv X pins σ H s) (h : DnH X.K X.w H d rows) : s.heap.DictOfH (nestedKind X.prog X.w) d rows := by
 obtain ⟨⟨o, es, ep, e1, e2, e3, e4⟩, _, _⟩ := h.at_.ok I.hok
 exact ⟨o, es, ep, e1, e2, e3, e4, fun x hx => ⟨wV I (h.key x hx).1 rfl, (h.key x hx).2⟩, h.nd⟩
theorem Fp (hu : X.A.units + 65 < cLine) : (nestedKind X.prog X.w).room X.A.in1 := by
 show X.A.in1.units + 8 < cLine
 have : X.A.in1.units = X.A.units + 1 := rfl
 omega
def KeyAt (K : PySem.W.Frag) (H : Hp) (x : V) (k : NestedKey) : Prop := ∃ a, x = .ref a ∧ jU K H x k ∧ k.depth ≤ 8
def Nf (K : PySem.W.Frag) (w : World) (neg : Bool) : R2 := fun x y H Q => ∃ d rows k, y = .ref d ∧ KeyAt K H x k ∧ DnH K w H d rows ∧ Q (.bl (xor neg (atKey rows k).isSome)) H
theorem Xx (hu : X.A.units + 65 < cLine) : OpR X (compareOp .NotIn) (Nf X.K X.w true) := by
 intro pins s σ H x y v u Q I rx ry h
 obtain ⟨d, rows, k, rfl, ⟨a, rfl, hk, hd⟩, D, q⟩ := h
 cases (show u = Value.ref d from ry)
 cases (show v = Value.ref a from rx)
 refine notIn_keyed (knd := nestedKind X.prog X.w) (kvs := pairsH rows) (Fp hu) ⟨wV I hk rfl, hd⟩ D.sys ⟨rows, Fo I D, rfl⟩ ?_
 rw [valueAt_pairsH, Option.isSome_map]
 exact ⟨.bl (!(atKey rows k).isSome), H, I.tok _, rfl, by simpa using q⟩
def Nh (K : PySem.W.Frag) (w : World) : R2 := fun x y H Q => ∃ d rows k b u v, x = .ref d ∧ KeyAt K H y k ∧ DnH K w H d rows ∧ atKey rows k = some (b, u) ∧ RelV v u ∧ Q v H
theorem Xy (hu : X.A.units + 65 < cLine) : IxR X (Nh X.K X.w) := by
 intro value slice pins s σ H x y v u Q I rx ry h hs
 obtain ⟨d, rows, k, b, z, w, rfl, ⟨a, rfl, hk, hd⟩, D, e, r, q⟩ := h
 cases (show u = Value.ref a from ry)
 cases (show v = Value.ref d from rx)
 have hm := Fo I D
 exact subscriptTail_builtinR (x := z) hm.typeIs PySem.F.slot_dict_getitem.lookup (wpAny_getItem_heap (knd := nestedKind X.prog X.w) (Q := fun r s' => r = z ∧ EP X pins σ Q r s') (Fp hu) ⟨wV I hk rfl, hd⟩ hm e ⟨rfl, w, H, I.tok _, r, q⟩) hs
def Nk (K : PySem.W.Frag) (w : World) : TSet := fun o i v H Q => ∃ d rows k a, o = .ref d ∧ i = .ref a ∧ jU K H i k ∧ k.depth ≤ 8 ∧ DnW K w H d rows ∧ rows.length < sizeLine ∧ ∀ u, RelV v u → Q (upd H d (.ext (tQ w d (storedH rows k a u))))
theorem Xz {d : Addr} {rows rows2 : List (NestedKey × Addr × Value)} {h' : Heap} {t : Nat} (I : Inv X pins σ H s) (D : DnW X.K X.w H d rows) (hm : h'.DictOfH (nestedKind X.prog X.w) d rows2) (hs : Heap.SameBut d s.heap h') : Inv X pins σ (upd H d (.ext (tQ X.w d rows2))) { s with heap := h', toks := t } := by
 obtain ⟨o, es, ep, e1, e2, e3, e4, _⟩ := id hm
 refine I.write (x := d) (e := d) (by rw [D.own]; exact True.intro) (.inl rfl) (fun b u hb q => (hs.2 b hb).trans q) ⟨o, e1⟩ ?_
 exact ⟨⟨o, es, ep, e1, e2, e3, e4⟩, ⟨o, e1⟩, fun h1 h2 z k => let ⟨o, es, ep, q1, q2⟩ := z; ⟨o, es, ep, k _ q1, q2⟩⟩
theorem X3 (hu : X.A.units + 65 < cLine) : PSet X (Nk X.K X.w) := by
 intro pins s σ H o i v ov iv u Q I ro ri rv h
 obtain ⟨d, rows, k, a, rfl, rfl, hk, hd, D, hl, q⟩ := h
 cases (show ov = Value.ref d from ro)
 cases (show iv = Value.ref a from ri)
 exact wpAny_setItem_heap (knd := nestedKind X.prog X.w) (hsz := Nat.le_of_lt hl) (Fp hu) ⟨wV I hk rfl, hd⟩ (Fo I D.toDnH) fun h' hm hs => ⟨_, Xz I D hm hs, q u rv⟩
end
abbrev jD (g : G) (F : Hp) (x : NestedKey × Addr × Value) (y : P × P) : Prop := NK y.1 x.1 ∧ x.1.depth ≤ 8 ∧ Is g F (.ref x.2.1) y.1 ∧ ∃ v, RelV v x.2.2 ∧ Is g F v y.2
def isKey (k : NestedKey) (e : P × P) : Bool := match cO e.1 with
 | some k' => decide (k' = k)
 | none => false
def uL (es : List (P × P)) (k : NestedKey) : Option P := (es.find? (isKey k)).map (·.2)
def wX (es : List (P × P)) (k : NestedKey) (p v : P) : List (P × P) := match uL es k with
 | some _ => es.map fun e => if isKey k e = true then (e.1, v) else e
 | none => es ++ [(p, v)]
section
variable {g : G} {F : Hp}
theorem Np {k : NestedKey} {x : NestedKey × Addr × Value} {y : P × P} (h : jD g F x y) : isKey k y = decide (x.1 = k) := by
 unfold isKey
 rw [M7 h.1]
theorem Af {k : NestedKey} : ∀ {rows : List (NestedKey × Addr × Value)} {es : List (P × P)}, Paired (jD g F) rows es → (uL es k = none ∧ atKey rows k = none) ∨ ∃ p b u v, uL es k = some p ∧ atKey rows k = some (b, u) ∧ RelV v u ∧ Is g F v p
 | _, _, .nil => .inl ⟨rfl, rfl⟩
 | x :: rows, y :: es, .cons h t => by
  have hk := Np (k := k) h
  unfold uL atKey
  rw [List.find?_cons, List.find?_cons, hk]
  by_cases e : x.1 = k
  ·rw [decide_eq_true e]
   obtain ⟨_, _, _, v, h1, h2⟩ := h
   exact .inr ⟨y.2, x.2.1, x.2.2, v, rfl, rfl, h1, h2⟩
  ·rw [decide_eq_false e]
   exact Af t
theorem Nq {k : NestedKey} {v : V} {u : Value} {p : P} (r : RelV v u) (hv : Is g F v p) : ∀ {rows : List (NestedKey × Addr × Value)} {es : List (P × P)}, Paired (jD g F) rows es → Paired (jD g F) (rows.map (putAt k u)) (es.map fun e => if isKey k e = true then (e.1, p) else e)
 | _, _, .nil => .nil
 | x :: rows, y :: es, .cons h t => by
  refine .cons ?_ (Nq r hv t)
  show jD g F (putAt k u x) (if isKey k y = true then (y.1, p) else y)
  rw [Np (k := k) h]
  unfold putAt
  by_cases e : x.1 = k
  ·rw [if_pos e, decide_eq_true e, if_pos rfl]
   exact ⟨h.1, h.2.1, h.2.2.1, v, r, hv⟩
  ·rw [if_neg e, decide_eq_false e, if_neg Bool.false_ne_true]
   exact h
theorem X4 {k : NestedKey} {a : Addr} {v : V} {u : Value} {q p : P} (hk : NK q k) (hd : k.depth ≤ 8) (hq : Is g F (.ref a) q) (r : RelV v u) (hv : Is g F v p) {rows : List (NestedKey × Addr × Value)} {es : List (P × P)} (h : Paired (jD g F) rows es) :
  Paired (jD g F) (storedH rows k a u) (wX es k q p) := by
 unfold wX
 rcases Af (k := k) h with ⟨e1, e2⟩ | ⟨p', b, u', v', e1, e2, _⟩
 ·rw [e1, storedH_new e2]
  have app : ∀ {rows : List (NestedKey × Addr × Value)} {es : List (P × P)}, Paired (jD g F) rows es → Paired (jD g F) (rows ++ [(k, a, u)]) (es ++ [(q, p)]) := by
   intro rows es h
   induction h with
   | nil => exact .cons ⟨hk, hd, hq, v, r, hv⟩ .nil
   | cons h t ih => exact .cons h ih
  exact app h
 ·rw [e1, storedH_old e2]
  exact Nq r hv h
theorem X5 {k : NestedKey} {a : Addr} {u : Value} {rows : List (NestedKey × Addr × Value)} (nd : (rows.map (·.1)).Nodup) : ((storedH rows k a u).map (·.1)).Nodup := by
 cases e : atKey rows k with
 | none =>
  rw [storedH_new e, List.map_append, List.nodup_append]
  refine ⟨nd, by simp, fun x hx y hy => ?_⟩
  have hy' : y = k := by simpa using hy
  rw [hy']
  intro z
  rw [z] at hx
  obtain ⟨w, hw, ew⟩ := List.mem_map.mp hx
  have : (rows.find? fun x => decide (x.1 = k)) ≠ none := fun z2 => by
   have := List.find?_eq_none.mp z2 w hw
   rw [ew] at this
   simp at this
  unfold atKey at e
  exact this (Option.map_eq_none_iff.mp e)
 | some p =>
  rw [storedH_old e, keys_map_putAt]
  exact nd
def keyD : D → Option NestedKey
 | .v (.tup xs) => match cO (.tup xs) with
  | some k => if k.depth ≤ 8 then some k else none
  | none => none
 | _ => none
theorem Fq {ρ : Nat → Addr} {L : List MO} {H : Hp} {x : V} {d : D} {k : NestedKey} (hR : R g F ρ L H) (hx : IsD g F ρ L.length x d) (h : keyD d = some k) : ∃ a p, d = .v p ∧ x = .ref a ∧ NK p k ∧ jU g.K H x k ∧ k.depth ≤ 8 ∧ Is g F x p := by
 unfold keyD at h
 split at h
 ·rename_i xs
  split at h
  ·rename_i k' e
   split at h
   ·rename_i hd
    cases h
    have hx' : Is g F x (.tup xs) := hx
    obtain ⟨a, vs, ex, h1, h2⟩ := Is.inv_tup hx'
    exact ⟨a, _, rfl, ex, Fj e, Ae hR.sub hx' (Fj e), hd, hx'⟩
   ·cases h
  ·cases h
 ·cases h
theorem Nr {ρ : Nat → Addr} {L : List MO} {H : Hp} {n : Nat} {es : List (P × P)} (hR : R g F ρ L H) (e : L[n]? = some (.dn es)) : ∃ rows, DnW g.K g.w H (ρ n) rows ∧ Paired (jD g F) rows es := by
 obtain ⟨_, rows, h1, h2, h3, h4⟩ := hR.ent n _ e (by intro z; cases z)
 refine ⟨rows, ⟨⟨.inl h1, h2, h3, ?_⟩, h1⟩, h4⟩
 have : ∀ {rows : List (NestedKey × Addr × Value)} {es : List (P × P)}, Paired (jD g F) rows es → ∀ x ∈ rows, jU g.K H (.ref x.2.1) x.1 ∧ x.1.depth ≤ 8 := by
  intro rows es h
  induction h with
  | nil => intro x hx; cases hx
  | cons h t ih =>
   intro x hx
   rcases List.mem_cons.mp hx with z | hx
   ·rw [z]; exact ⟨Ae hR.sub h.2.2.1 h.1, h.2.1⟩
   ·exact ih x hx
 exact this h4
def wY : List P → List (P × P)
 | k :: p :: es => (k, p) :: wY es
 | _ => []
def uM : List (P × P) → List P
 | [] => []
 | x :: es => x.1 :: x.2 :: uM es
theorem Nt : ∀ es : List (P × P), wY (uM es) = es
 | [] => rfl
 | x :: es => by rw [uM, wY, Nt es]
theorem Nu {F : Hp} : ∀ {rows : List (NestedKey × Addr × Value)} {es : List P}, mU g F rows es → Paired (jD g F) rows (wY es)
 | _, _, .nil => .nil
 | _, _, .cons h1 h2 h3 h4 h5 h6 => .cons ⟨h1, h2, h3, _, h4, h5⟩ (Nu h6)
def iG (L : List MO) : D → Option (List (P × P))
 | .r n => match L[n]? with
  | some (.dn es) => some es
  | _ => none
 | .v (.dn es) => some (wY es)
 | _ => none
theorem X6 {ρ : Nat → Addr} {L : List MO} {H : Hp} (hR : R g F ρ L H) : ∀ {rows : List (NestedKey × Addr × Value)} {es : List (P × P)}, Paired (jD g F) rows es → ∀ x ∈ rows, jU g.K H (.ref x.2.1) x.1 ∧ x.1.depth ≤ 8 := by
 intro rows es h
 induction h with
 | nil => intro x hx; cases hx
 | cons h t ih =>
  intro x hx
  rcases List.mem_cons.mp hx with z | hx
  ·rw [z]; exact ⟨Ae hR.sub h.2.2.1 h.1, h.2.1⟩
  ·exact ih x hx
theorem Nv {ρ : Nat → Addr} {L : List MO} {H : Hp} {x : V} {d : D} {es : List (P × P)} (hR : R g F ρ L H) (hx : IsD g F ρ L.length x d) (h : iG L d = some es) : ∃ a rows, x = .ref a ∧ DnH g.K g.w H a rows ∧ Paired (jD g F) rows es := by
 unfold iG at h
 split at h
 ·rename_i n
  split at h
  ·rename_i es' e
   cases h
   obtain ⟨rows, h1, h2⟩ := Nr hR e
   exact ⟨_, rows, hx.2, h1.toDnH, h2⟩
  ·cases h
 ·rename_i es'
  cases h
  have hx' : Is g F x (.dn es') := hx
  cases hx' with
  | @dn a o rows _ h1 h2 h3 h4 =>
   have pr := Nu h4
   exact ⟨a, rows, rfl, ⟨.inr ⟨o, hR.sub _ _ h1⟩, h2, h3, X6 hR pr⟩, pr⟩
 ·cases h
def uN (neg : Bool) : D → D → M D := fun x y L => match iG L y with
 | some es => match keyD x with
  | some k => some (.ok (.v (.bl (xor neg (uL es k).isSome))), L)
  | none => none
 | none => inD neg x y L
theorem X7 {K : PySem.W.Frag} {w : World} {neg : Bool} (hK : K = g.K) (hw : w = g.w) : cU g (uN neg) (fun x y H Q => (Ek K neg x y H Q ∨ El neg x y H Q) ∨ Nf K w neg x y H Q) := by
 subst hK
 subst hw
 intro F ρ L H x y d e W Q hR hx hy hp
 unfold uN at hp
 match e1 : iG L e with
 | none =>
  rw [e1] at hp
  exact .inl (Vx rfl F ρ L H x y d e W Q hR hx hy hp)
 | some es =>
  rw [e1] at hp
  dsimp only at hp
  match e2 : keyD d with
  | none => rw [e2] at hp; exact False.elim hp
  | some k =>
   rw [e2] at hp
   dsimp only at hp
   obtain ⟨n, rows, ey, D, pr⟩ := Nv hR hy e1
   obtain ⟨a, p, _, ex, _, h1, h2, _⟩ := Fq hR hx e2
   refine .inr ⟨n, rows, k, ey, ⟨a, ex, h1, h2⟩, D, ?_⟩
   rcases Af (k := k) pr with ⟨q1, q2⟩ | ⟨p', b, u', v', q1, q2, _⟩
   ·rw [q2]
    rw [q1] at hp
    exact hp.val hR (Is.bl _)
   ·rw [q2]
    rw [q1] at hp
    exact hp.val hR (Is.bl _)
def bR : D → D → M D := fun x y L => match iG L x with
 | some es => match (keyD y).bind (uL es) with
  | some p => some (.ok (.v p), L)
  | none => none
 | none => oN x y L
theorem X8 {K : PySem.W.Frag} {w : World} (hK : K = g.K) (hw : w = g.w) : cU g bR (fun x y H Q => rIx K x y H Q ∨ Nh K w x y H Q) := by
 subst hK
 subst hw
 intro F ρ L H x y d e W Q hR hx hy hp
 unfold bR at hp
 match e1 : iG L d with
 | none =>
  rw [e1] at hp
  exact .inl (V3 rfl F ρ L H x y d e W Q hR hx hy hp)
 | some es =>
  rw [e1] at hp
  dsimp only at hp
  match e2 : keyD e with
  | none => rw [e2] at hp; exact False.elim hp
  | some k =>
   rw [e2] at hp
   obtain ⟨n, rows, ex, D, pr⟩ := Nv hR hx e1
   obtain ⟨a, p, _, ey, _, h1, h2, _⟩ := Fq hR hy e2
   rcases Af (k := k) pr with ⟨q1, q2⟩ | ⟨p', b, u', v', q1, q2, q3, q4⟩
   ·dsimp only [Option.bind] at hp
    rw [q1] at hp
    exact False.elim hp
   ·dsimp only [Option.bind] at hp
    rw [q1] at hp
    exact .inr ⟨n, rows, k, b, u', v', ex, ⟨a, ey, h1, h2⟩, D, q2, q3, hp.val hR q4⟩
def qD : D → D → D → M Unit := fun o i v L => match o, v with
 | .r n, .v p => match L[n]? with
  | some (.lst xs) => match i with
   | .v (.int k) => (ixN xs.length k).map fun j => (.ok (), L.set n (.lst (xs.set j p)))
   | _ => none
  | some (.dn es) => match i, keyD i with
   | .v q, some k => if es.length < sizeLine then some (.ok (), L.set n (.dn (wX es k q p))) else none
   | _, _ => none
  | _ => none
 | _, _ => none
def Yb (K : PySem.W.Frag) (w : World) : TSet := fun o i v H Q => rSetL o i v H Q ∨ Nk K w o i v H Q
theorem Yc {vs : List V} {ps : List P} (h : aP g F vs ps) {v : V} {p : P} (hv : Is g F v p) : ∀ j : Nat, aP g F (vs.set j v) (ps.set j p) := by
 induction vs generalizing ps with
 | nil => intro j; cases h; exact .nil
 | cons a vs ih =>
  intro j
  cases h with
  | cons h t =>
   cases j with
   | zero => exact .cons hv t
   | succ j => exact .cons h (ih t j)
theorem Yd {ρ : Nat → Addr} {L : List MO} {H : Hp} {o i v : V} {d e f : D} {K : PySem.W.Frag} {w : World} {Q : Hp → Prop} {Wq : Value → Option Addr → Hp → Prop} (hK : K = g.K) (hw : w = g.w) (hR : R g F ρ L H) (ho : IsD g F ρ L.length o d) (hi : IsD g F ρ L.length i e) (hv : IsD g F ρ L.length v f)
  (hp : Post g K9 F ρ L.length Wq (fun _ H' => Q H') (qD d e f L)) : Yb K w o i v H Q := by
 subst hK
 subst hw
 unfold qD at hp
 split at hp
 ·rename_i n p
  split at hp
  ·rename_i xs eL
   split at hp
   ·rename_i k
    cases ej : ixN xs.length k with
    | none => rw [ej] at hp; exact False.elim hp
    | some j =>
     rw [ej] at hp
     obtain ⟨vs, h1, h2⟩ := hR.lstAt eL
     have e1 : (L.set n (MO.lst (xs.set j p))).length = L.length := by rw [List.length_set]
     refine .inl ⟨ρ n, vs, k, j, ho.2, Is.inv_int hi, h1, by rw [h2.len]; exact ej, ?_⟩
     exact hp F ρ () _ (by rw [e1]; exact Ext.refl) (hR.put eL (by intro z; cases z) _ _ ⟨_, upd_same, Yc h2 hv j⟩) trivial
   ·exact False.elim hp
  ·rename_i es eL
   split at hp
   ·rename_i q k ek
    split at hp
    ·rename_i hl
     obtain ⟨rows, D, pr⟩ := Nr hR eL
     obtain ⟨a, p', eq, ei, nk, h1, h2, h3⟩ := Fq hR hi ek
     cases eq
     have e1 : (L.set n (MO.dn (wX es k q p))).length = L.length := by rw [List.length_set]
     refine .inr ⟨ρ n, rows, k, a, ho.2, ei, h1, h2, D, by rw [rD pr]; exact hl, fun u r => ?_⟩
     rw [ei] at h3
     refine hp F ρ () _ (by rw [e1]; exact Ext.refl) (hR.put eL (by intro z; cases z) _ _ ⟨_, upd_same, D.sys, X5 D.nd, X4 nk h2 h3 r hv pr⟩) trivial
    ·exact False.elim hp
   ·exact False.elim hp
  ·exact False.elim hp
 ·exact False.elim hp
end
end DN
end
section
namespace DN
open PySem PySem.Spec PyProof.Rows L2
section
variable {X : Cx} {g : G} {W : WX} {a b c e o : Expr} {fa fb fc f : aA → M D} {p pos apos : Pos} {es : List Expr} {fs : aA → M (List D)} {k n : Nat} {fn : List D → M D}
theorem Ye (hK : X.K = g.K) (hw : X.w = g.w) (hu : X.A.units + 65 < cLine) (hm : behindInMarks .NotIn b = false) (ha : PE X a (tE g W fa)) (hb : PE X b (tE g W fb)) : PE X (.Compare a [.NotIn] [b] pos) (tE g W (bin (uN true) fa fb)) := zG (((Vu hu).or Vv).or (Xx hu)) (X7 hK hw) ha hb hm
theorem Yg (hK : X.K = g.K) (hw : X.w = g.w) (hu : X.A.units + 65 < cLine) (ha : PE X a (tE g W fa)) (hb : PE X b (tE g W fb)) (hs : PlainIx b) : PE X (.Subscript a b pos) (tE g W (bin bR fa fb)) := by
 refine PE.weak (pe_ix (ix_seq.or (Xy hu)) ha hb hs) fun σ H Q h => ?_
 refine (Sat.bindV h).mono fun x H1 h1 => ?_
 obtain ⟨d, h1⟩ := h1
 refine (Sat.bindV h1).mono fun y H2 h2 => ?_
 obtain ⟨e, F, ρ, τ, L, hR, hS, hc, hp⟩ := h2
 exact X8 hK hw F ρ L H2 x y d e _ Q hR (hc (x, d) (by simp)) (hc (y, e) (by simp)) hp
theorem Yh {t t' : TSet} (h : PSet X t) (h' : PSet X t') : PSet X (fun o i v H Q => t o i v H Q ∨ t' o i v H Q) := fun pins s σ H o i v ov iv u Q I ro ri rv q => q.elim (h pins s σ H o i v ov iv u Q I ro ri rv) (h' pins s σ H o i v ov iv u Q I ro ri rv)
theorem Yi {i value : Expr} {to ti tv : TE} {t : TSet} {p2 : Pos} (hs : PSet X t) (ho : PE X o to) (hi : PE X i ti) (hv : PE X value tv) (hw : swapsWith value (some (.Subscript o i p2)) pos.line X.env = pure false) :
  PS X (.Assign [.Subscript o i p2] value pos) (fun D σ H => tv σ H fun v H1 => to σ H1 fun x H2 => ti σ H2 fun y H3 => t x y v H3 fun H' => D.nx σ H') := by
 refine ⟨fun pins s σ H D I h => ?_⟩
 refine wpAny_Assign_Subscript (thn (hv.run pins s σ H _ I h) fun r s1 h1 => ?_) hw
 obtain ⟨v, H1, I1, rv, q1⟩ := h1
 refine thn (ho.run pins s1 σ H1 _ I1 q1) fun u s2 h2 => ?_
 obtain ⟨x, H2, I2, rx, q2⟩ := h2
 refine thn (hi.run pins s2 σ H2 _ I2 q2) fun iv s3 h3 => ?_
 obtain ⟨y, H3, I3, ry, q3⟩ := h3
 exact thn (hs pins s3 σ H3 x y v u iv r _ I3 rx ry rv q3) fun _ s4 ⟨H4, I4, q4⟩ => ⟨σ, H4, I4, q4⟩
def jV (m : M Unit) : SX := fun τ L => match m L with
 | none => none
 | some (.ok _, L1) => some (.nx τ, L1)
 | some (.ex c fs, L1) => some (.ex τ c fs, L1)
theorem Yj {F : Hp} {ρ : Nat → Addr} {n : Nat} {m : M Unit} {τ : aA} {L : List MO} {E : Ends} {σ : L2.St} (hS : Sl g F ρ n σ τ) (hp : eV g F ρ n W E (jV m τ L)) : Post g K9 F ρ n (fun _ _ _ => True) (fun _ H' => E.nx σ H') (m L) := by
 unfold jV at hp
 match e : m L with
 | none => rw [e] at hp; exact hp
 | some (.ok u, L1) => rw [e] at hp; exact fun F' ρ' b H' x1 x2 _ => hp F' ρ' H' σ x1 x2 (hS.ext x1)
 | some (.ex c fs, L1) => exact fun _ _ _ _ _ _ _ _ _ _ => trivial
def nJ (fo fi fv : aA → M D) : SX := bW fv fun v => bW fo fun x => bW fi fun y => jV (qD x y v)
theorem Ft {i value : Expr} {fo fi fv : aA → M D} {p2 : Pos} (hK : X.K = g.K) (hw : X.w = g.w) (hu : X.A.units + 65 < cLine) (ho : PE X o (tE g W fo)) (hi : PE X i (tE g W fi)) (hv : PE X value (tE g W fv)) (hsw : swapsWith value (some (.Subscript o i p2)) pos.line X.env = pure false := by rfl) :
  PS X (.Assign [.Subscript o i p2] value pos) (tS g W (nJ fo fi fv)) := by
 refine PS.weak (Yi (Yh set_list (X3 hu)) ho hi hv hsw) fun D σ H h => ?_
 refine (dR.bindV h).mono fun v H1 h1 => ?_
 obtain ⟨dv, h1⟩ := h1
 refine (dR.bindV h1).mono fun x H2 h2 => ?_
 obtain ⟨dx, h2⟩ := h2
 refine (dR.bindV h2).mono fun y H3 h3 => ?_
 obtain ⟨dy, F, ρ, τ, L, hR, hS, hc, hp⟩ := h3
 refine Yd hK hw hR (hc (x, dx) (by simp)) (hc (y, dy) (by simp)) (hc (v, dv) (by simp)) (Wq := fun _ _ _ => True) ?_
 exact Yj hS hp
def tagOf (L : List MO) : D → Option Tg
 | .v .non => some .non
 | .v (.bl _) => some .bl
 | .v (.int _) => some .int
 | .v (.str _) => some .str
 | .v (.tup _) => some .tup
 | .v (.ins c _) => some (.ins c)
 | .v (.lst _) => some .lst
 | .v (.scr _) => some .lst
 | .r n => match L[n]? with
  | some (.lst _) => some .lst
  | some (.ins c _) => some (.ins c)
  | _ => none
 | _ => none
def dU (g : G) : Tg → Value
 | .non => .type "NoneType"
 | .bl => .type "bool"
 | .int => .type "int"
 | .str => .type "str"
 | .lst => .type "list"
 | .tup => .type "tuple"
 | .ins c => .ref (g.cl c)
structure lX (K : PySem.W.Frag) (C : Addr) : Prop where
 ha : PySem.W.findIn K (.ref C) "__class__" = some (some (.builtin "object.__class__"))
 hn : PySem.W.specialIn K (.builtin "object.__class__") "__get__" = some (some (.builtin "getset_descriptor.__get__"))
 ht : PySem.W.takesIn K (.builtin "object.__class__") = some true
 hm : PySem.W.mroIn K C (.type "object") = some true
theorem Yk {K : PySem.W.Frag} {H : Hp} {a : Addr} {vs : List V} (h : SqL K H a vs) : TyX K H (.ref a) (.type "list") := by
 rcases h with (h | ⟨o, h⟩) | h
 ·exact .base (.lst h)
 ·exact .base (.frz h)
 ·obtain ⟨o, its, n, e, q, _⟩ := h
  exact .kList e q
theorem Yl {K : PySem.W.Frag} {H : Hp} {a : Addr} {vs : List V} (h : SqT K H a vs) : TyX K H (.ref a) (.type "tuple") := by
 rcases h with (h | ⟨o, h⟩) | h
 ·exact .base (.tup h)
 ·exact .fTuple h
 ·obtain ⟨o, its, n, e, q, _⟩ := h
  exact .kTuple e q
theorem Ym {F : Hp} {ρ : Nat → Addr} {L : List MO} {H : Hp} {x : V} {d : D} {t : Tg} (hI : ∀ c, t = .ins c → lX g.K (g.cl c)) (hR : R g F ρ L H) (hx : IsD g F ρ L.length x d) (h : tagOf L d = some t) : TyX g.K H x (dU g t) := by
 have ins : ∀ c a dx fs, t = .ins c → x = .ref a → H a = some (.ins (g.cl c) dx fs) → Cls g.K (g.cl c) → TyX g.K H x (dU g t) := fun c a dx fs et ex e cl => by
  subst et
  subst ex
  have T := hI c rfl
  exact .base (.ins e cl T.ha T.hn T.ht T.hm)
 cases d with
 | r n =>
  unfold tagOf at h
  dsimp only at h
  split at h
  ·rename_i xs e
   cases h
   obtain ⟨vs, h1, _⟩ := hR.lstAt e
   rw [hx.2]
   exact .base (.lst h1)
  ·rename_i c fs e
   cases h
   obtain ⟨a, dx, fl, ex, ea, cf, _⟩ := wO hR hx (show clsOf L (.r n) = some c by unfold clsOf; dsimp only; rw [e])
   exact ins c a dx fl rfl ex ea cf.cls
  ·cases h
 | v q =>
  have hx' : Is g F x q := hx
  cases q with
  | non => cases h; rw [Is.inv_non hx']; exact .base .non
  | bl b => cases h; rw [Is.inv_bl hx']; exact .base (.bl b)
  | int i => cases h; rw [Is.inv_int hx']; exact .base (.int i)
  | str z => cases h; rw [Is.inv_str hx']; exact .base (.str z)
  | tup xs =>
   cases h
   obtain ⟨a, vs, ex, h1, _⟩ := Is.inv_tup hx'
   rw [ex]
   exact Yl (hR.sub.sqT h1)
  | lst xs =>
   cases h
   obtain ⟨a, vs, ex, h1, _⟩ := Is.inv_lst hx'
   rw [ex]
   exact .base (.lst (hR.sub _ _ h1))
  | scr ns =>
   cases h
   obtain ⟨a, vs, ex, h1, _⟩ := rE (xs := ns.map P.int) hR hx rfl
   rw [ex]
   exact Yk h1
  | ins c ps =>
   cases h
   obtain ⟨a, dx, fl, ex, ea, cf, _⟩ := wO hR hx (show clsOf L (.v (.ins c ps)) = some c from rfl)
   exact ins c a dx fl rfl ex ea cf.cls
  | _ => cases h
def lA (tab : Tg → Option Bool) : D → M D := fun d L => match (tagOf L d).bind tab with
 | some b => some (.ok (.v (.bl b)), L)
 | none => none
theorem qF {x : Str} {p2 : Pos} {cv : V} {u : Value} {tab : Tg → Option Bool} (hK : X.K = g.K) (hk : ∀ t b, tab t = some b → PySem.W.kitOne g.K (dU g t) u = some b) (hI : ∀ c b, tab (.ins c) = some b → lX g.K (g.cl c)) (k : ClsV cv u) (he : PE X e (tE g W f)) (hcl : PE X (.Name x p2) (tC cv))
  (hgi : Gl X "isinstance") (hmi : X.mg "isinstance" = none) (hvi : bootBuiltins "isinstance" = some (.builtin "isinstance")) (hst : starEach [e, .Name x p2] X.env = (false, eval e X.env) :: starEach [.Name x p2] X.env := by rfl) (hpl : (backTo pos (starEach [.Name x p2] X.env)).any (·.1) = false := by rfl) :
  PE X (.Call (.Name "isinstance" p) [e, .Name x p2] [] pos) (tE g W (un (lA tab) f)) := by
 refine PE.weak (pe_callB call_isi hgi hmi hvi (pa_cons he (pa_cons hcl pa_nil) hst) (he := hst) (hpl := hpl)) fun σ H Q h => ?_
 refine (Sat.bindV h).mono fun y H1 h1 => ?_
 obtain ⟨d, F, ρ, τ, L, hR, hS, hcx, hp⟩ := h1
 unfold lA at hp
 dsimp only at hp
 match et : tagOf L d with
 | none => rw [et] at hp; exact False.elim hp
 | some t =>
  rw [et] at hp
  dsimp only [Option.bind] at hp
  match eb : tab t with
  | none => rw [eb] at hp; exact False.elim hp
  | some b =>
   rw [eb] at hp
   rw [hK]
   exact ⟨y, cv, dU g t, u, b, rfl, k, Ym (fun c e => hI c b (by rw [← e]; exact eb)) hR (hcx (y, d) (by simp)) et, hk t b eb, hp.val hR (Is.bl b)⟩
def strsOf : List P → Option (List Str)
 | [] => some []
 | .str x :: xs => (strsOf xs).map (x :: ·)
 | _ => none
theorem Ny {F : Hp} : ∀ {vs : List V} {ps : List P} {ns : List Str}, aP g F vs ps → strsOf ps = some ns → vs = ns.map V.str
 | _, _, _, .nil, e => by cases e; rfl
 | _, p :: ps, _, .cons h t, e => by
  cases p with
  | str x =>
   unfold strsOf at e
   cases e2 : strsOf ps with
   | none => rw [e2] at e; cases e
   | some ms =>
    rw [e2] at e
    cases e
    rw [Is.inv_str h, Ny t e2]
    rfl
  | _ => cases e
def wZ : D → List D → M D := fun x ds L => match x, ds with
 | .v (.str a), [y] => match (fQ L y).bind strsOf with
  | some ys => if (ys.map (·.length)).sum + ys.length * a.length ≤ 16777216 then some (.ok (.v (.str (Txt.join a ys))), L) else none
  | none => none
 | _, _ => none
theorem Yn {K : PySem.W.Frag} (hK : K = g.K) : pX g wZ (fun x xs H Q => ∃ a p, ∃ ys : List Str, x = .str a ∧ xs = [.ref p] ∧ (SqL K H p (ys.map V.str) ∨ SqT K H p (ys.map V.str)) ∧ (ys.map (·.length)).sum + ys.length * a.length ≤ 16777216 ∧ Q (.str (Txt.join a ys)) H) := by
 subst hK
 intro F ρ L H x d vs ds W Q hR hx ha hp
 unfold wZ at hp
 split at hp
 ·rename_i a y
  obtain ⟨v, rfl, hv⟩ := zM ha
  match e1 : fQ L y with
  | none => rw [e1] at hp; exact False.elim hp
  | some ps =>
   rw [e1] at hp
   dsimp only [Option.bind] at hp
   match e2 : strsOf ps with
   | none => rw [e2] at hp; exact False.elim hp
   | some ys =>
    rw [e2] at hp
    dsimp only at hp
    split at hp
    ·rename_i hz
     obtain ⟨q, us, ev, hs, hi⟩ := Ly hR hv e1
     have eu := Ny hi e2
     subst eu
     refine ⟨a, q, ys, Is.inv_str hx, by rw [ev], ?_, hz, hp.val hR (Is.str _)⟩
     rcases hs with hs | ⟨hs, _⟩
     ·exact .inl hs
     ·exact .inr hs
    ·exact False.elim hp
 ·exact False.elim hp
end
end DN
end
section
namespace DN
open PySem PySem.Spec PyProof.Rows L2 He NdefX
abbrev gOf (K : PySem.W.Frag) (w : World) : G := ⟨K, w, fun c => ga K (bA c)⟩
theorem dx_fun {K : PySem.W.Frag} {d : DX} (e : fnX K (d.ad K) = d.val) (c : d.ok K = true) (hcl : d.cl = []) : ∃ kV doc pm an cdv ct, Fun K (defName d.st) d.qual d.st (d.ad K) (PySem.W.fnOf (defName d.st) d.qual (defArgs d.st) (defBody d.st) (defScope d.st) .none kV doc pm an cdv ct) := by
 obtain ⟨kp, c2⟩ := ba c
 unfold fnX at e
 cases q : K.lookup (d.ad K) with
 | none => rw [q] at c2; cases c2
 | some o =>
  obtain ⟨oc, od, dt, osl⟩ := o
  rw [q] at c2 e
  cases dt with
  | func fd =>
   obtain ⟨n1, n2, n3, n4, n5, n6, n7, n8, n9, n10, n11, n12, n13, n14, n15⟩ := fd
   have e2 : (some (n1, n2, n3, n4, n5, n6, n7.map (·.1), n8, n15) : vR) = some (defName d.st, d.qual, defArgs d.st, .stmts (defBody d.st), defScope d.st, mainGlobals, d.cl, .none, builtinsNs) := e
   simp only [Option.some.injEq, Prod.mk.injEq] at e2
   obtain ⟨h1, h2, h3, h4, h5, h6, h7, h8, h9⟩ := e2
   rw [hcl] at h7
   have h7' : n7 = [] := List.map_eq_nil_iff.mp h7
   subst h1 h2 h3 h4 h5 h6 h7' h8 h9
   exact ⟨_, _, _, _, _, _, ⟨⟨oc, od, _, _, _, _, _, _, osl, rfl, q, c2⟩, kp⟩⟩
  | _ => cases c2
theorem dx_cls {K : PySem.W.Frag} {d : DX} (e : fnX K (d.ad K) = d.val) (c : d.ok K = true) (hcl : d.cl = [("__class__" : Str)]) : ∃ oc od osl cc kV doc pm an cdv ct, K.lookup (d.ad K) = some ⟨oc, od, .func (PySem.W.ksFn (defName d.st) d.qual (defArgs d.st) (defBody d.st) (defScope d.st) .none kV doc pm an cdv ct cc), osl⟩ ∧
  PySem.W.codeIn K cdv d.qual = true ∧ PySem.W.keepIn K (.ref (d.ad K)) = true := by
 obtain ⟨kp, c2⟩ := ba c
 unfold fnX at e
 cases q : K.lookup (d.ad K) with
 | none => rw [q] at c2; cases c2
 | some o =>
  obtain ⟨oc, od, dt, osl⟩ := o
  rw [q] at c2 e
  cases dt with
  | func fd =>
   obtain ⟨n1, n2, n3, n4, n5, n6, n7, n8, n9, n10, n11, n12, n13, n14, n15⟩ := fd
   have e2 : (some (n1, n2, n3, n4, n5, n6, n7.map (·.1), n8, n15) : vR) = some (defName d.st, d.qual, defArgs d.st, .stmts (defBody d.st), defScope d.st, mainGlobals, d.cl, .none, builtinsNs) := e
   simp only [Option.some.injEq, Prod.mk.injEq] at e2
   obtain ⟨h1, h2, h3, h4, h5, h6, h7, h8, h9⟩ := e2
   rw [hcl] at h7
   cases n7 with
   | nil => cases h7
   | cons a r =>
    obtain ⟨x, cc⟩ := a
    cases r with
    | nil =>
     obtain rfl : x = ("__class__" : Str) := by simpa using h7
     subst h1 h2 h3 h4 h5 h6 h8 h9
     exact ⟨oc, od, osl, cc, _, _, _, _, _, _, rfl, c2, kp⟩
    | cons b r => simp at h7
  | _ => cases c2
theorem Yo {n : Nat} {fa : List dX} {fn : List DX} {g : Addr → Option Obj} {s : Shared} (h : ∀ a, g a = s.heap.get? a) : Du n fa fn g = (hookX n fa fn).obs s := by
 have e : g = s.heap.get? := funext h
 rw [e] <;> rfl
section
variable {fa : List dX} {fn : List DX} {K : PySem.W.Frag}
theorem SaysX.fact (c : SaysX fa fn K) (i : Nat) {f : dX} (h : fa[i]? = some f := by rfl) : f K = true := by
 have c1 := (ba (show ((fa.all fun f => f K) && fn.all fun d => d.ok K) = true from congrArg (fun z : AlX => z.1) c)).1
 exact List.all_eq_true.mp c1 f (List.mem_of_getElem? h)
theorem SaysX.val_ (c : SaysX fa fn K) (i : Nat) {d : DX} (h : fn[i]? = some d) : fnX K (d.ad K) = d.val ∧ d.ok K = true := by
 have c2 := (ba (show ((fa.all fun f => f K) && fn.all fun d => d.ok K) = true from congrArg (fun z : AlX => z.1) c)).2
 have e : fn.map (fun d => fnX K (d.ad K)) = fn.map DX.val := congrArg (fun z : AlX => z.2) c
 have e2 : (fn.map fun d => fnX K (d.ad K))[i]? = (fn.map DX.val)[i]? := by rw [e]
 rw [List.getElem?_map, List.getElem?_map, h] at e2
 exact ⟨Option.some.inj e2, List.all_eq_true.mp c2 d (List.mem_of_getElem? h)⟩
structure Nz (K : PySem.W.Frag) (d : DX) (ps : List Str) (f : Addr) (fd : FuncData) : Prop where
 F : Fun K (defName d.st) d.qual d.st f fd
 B : Binds K fd ps []
theorem SaysX.def_ (c : SaysX fa fn K) (i : Nat) {d : DX} {ps : List Str} (h : fn[i]? = some d) (hcl : d.cl = []) (hb : ∀ (kV doc pm : Value) (an : Option Addr) (cdv ct : Value) (us : List Value), us.length = ps.length → bindArgs (PySem.W.fnOf (defName d.st) d.qual (defArgs d.st) (defBody d.st) (defScope d.st) .none kV doc pm an cdv ct) ⟨us, []⟩ = pure (ps.zip us)) :
  ∃ fd, Nz K d ps (d.ad K) fd := by
 obtain ⟨e, ok⟩ := c.val_ i h
 obtain ⟨kV, doc, pm, an, cdv, ct, F⟩ := dx_fun e ok hcl
 exact ⟨_, F, F.binds hb⟩
end
section
variable {K : PySem.W.Frag}
theorem N5 : ∀ c, ((aN c).map aK).Nodup := by
 have h : ((List.range 40).all fun c => decide ((aN c).map aK).Nodup) = true := by decide +kernel
 intro c
 by_cases hc : c < 40
 ·exact of_decide_eq_true (List.all_eq_true.mp h c (List.mem_range.mpr hc))
 ·have : aN c = [] := by
   unfold aN
   split <;> first | omega | rfl
  rw [this]
  exact List.nodup_nil
theorem Fv : ∀ c, (aN c).length < 500 := by
 intro c
 unfold aN
 split <;> decide
theorem uO {w : World} {c : Nat} (h : qY c K = true) : jM (gOf K w) c := by
 obtain ⟨h1, h2⟩ := ba h
 exact ⟨cls_ok h1, fun f hf => eqO_ok (List.all_eq_true.mp h2 f hf), N5 c, Nat.lt_trans (Fv c) (by decide)⟩
theorem bQ {c : Nat} (h : qZ c K = true) : lX K (ga K (bA c)) := by
 obtain ⟨h1, h⟩ := ba h
 obtain ⟨h2, h⟩ := ba h
 obtain ⟨h3, h4⟩ := ba h
 exact ⟨eqO_ok h1, eqO_ok h2, of_decide_eq_true h3, of_decide_eq_true h4⟩
theorem Yp {w : World} (t : Tg) : dU (gOf K w) t = Kh K t := by cases t <;> rfl
theorem kitB_ok {w : World} {t : Tg} {u : PySem.W.Frag → Value} {b : Bool} (h : kitB t u b K = true) : PySem.W.kitOne (gOf K w).K (dU (gOf K w) t) (u K) = some b := by
 rw [Yp]
 exact of_decide_eq_true h
theorem Yq {C : Addr} (h : zB C K = true) : ∃ nm q N bs bm sn sub ab col dd k0 k1 k2 k3 k5, K.lookup C = some (excClassObj nm q C N bs bm true sn sub ab col dd k0 k1 k2 k3 k5 "ValueError.__new__") ∧ PySem.HandSPX.refsVE bm = true := by
 unfold zB at h
 split at h
 ·rename_i dd cd sl e
  split at h
  ·rename_i C' bm k0 k1 k2 k3 n k5 hm hs
   obtain ⟨h1, h⟩ := ba h
   obtain ⟨h2, h⟩ := ba h
   obtain ⟨h3, h⟩ := ba h
   obtain ⟨h4, h5⟩ := ba h
   have e1 := beq_iff_eq.mp h1
   have e2 := beq_iff_eq.mp h2
   subst e1
   subst e2
   obtain ⟨nm, bs, mro, ns, qn, hd, sn, sub, ab, col, del⟩ := cd
   dsimp only at hm h3 h4
   subst hm
   subst h4
   have h3' : del = false := by simpa using h3
   subst h3'
   have hsl : sl = #[k0, k1, k2, k3, some (.builtin "ValueError.__new__"), k5] := by
    obtain ⟨l⟩ := sl
    dsimp only at hs
    rw [hs]
   subst hsl
   exact ⟨nm, qn, ns, bs, bm, sn, sub, ab, col, dd, k0, k1, k2, k3, k5, e, h5⟩
  ·cases h
 ·cases h
theorem dJ {file : Str} {c : Nat} (h : oJ file c K = true) (i : Nat) {b : Bool} (e : [zB (ga K (bA c)) K, eqO (PySem.W.findIn K (.ref (ga K (bA c))) "__setattr__") (some (some (.builtin "object.__setattr__"))), eY (PySem.W.subIn K (.ref (ga K (bA c))) (.type "BaseException")) (some true), vU (PySem.W.typeIn K (.ref (ga K (bA c)))) (some (.type "type")), PySem.W.keepIn K (.ref (ga K (bA c))),
  eqO (PySem.W.findIn K (.ref (ga K (bA c))) "__init__") (some (some (.ref (ma K (ga K (bA c)) "__init__")))), vU (PySem.W.typeIn K (.ref (ma K (ga K (bA c)) "__init__"))) (some (.type "function")), (aN c).all fun f => eqO (PySem.W.findIn K (.ref (ga K (bA c))) (aK f)) (some none), rA (ga K (bA c)) (ma K (ga K (bA c)) "__init__") file K,
  eY (PySem.W.mroIn K (ga K (bA c)) (.ref (ga K (bA c)))) (some true), eqO (PySem.W.nsIn K cStatics "thirdparty.any") (some none), eqO (PySem.W.ks_superIn K (ga K (bA c)) (ga K (bA c)) "__init__") (some (some (.builtin "ValueError.__init__"))), eY (PySem.W.subIn K (.ref (ga K (bA c))) (.type "ValueError")) (some true),
  eqO (PySem.W.findIn K (.ref (ga K (bA c))) "__getattribute__") (some (some (.builtin "BaseException.__getattribute__"))), eqO (PySem.W.findIn K (.ref (ga K (bA c))) "__getattr__") (some none), PySem.W.hasDictIn K (ga K (bA c)), eqO (PySem.W.findIn K (.ref (ga K (bA c))) "__class__") (some (some (.builtin "object.__class__"))),
  eqO (PySem.W.specialIn K (.builtin "object.__class__") "__get__") (some (some (.builtin "getset_descriptor.__get__"))), eY (PySem.W.takesIn K (.builtin "object.__class__")) (some true), eY (PySem.W.mroIn K (ga K (bA c)) (.type "object")) (some true), (PySem.W.clsIn K (ga K (bA c))).isSome][i]? = some b) : b = true := List.all_eq_true.mp h b (List.mem_of_getElem? e)
theorem N6 {file : Str} {c : Nat} (h : oJ file c K = true) : XfC K (ga K (bA c)) := ⟨eqO_ok (dJ h 13 rfl), eqO_ok (dJ h 14 rfl), of_decide_eq_true (dJ h 2 rfl), dJ h 15 rfl⟩
theorem N7 {file : Str} {c : Nat} (h : oJ file c K = true) : Ad K (ga K (bA c)) :=
 ⟨dJ h 20 rfl, eqO_ok (dJ h 13 rfl), eqO_ok (dJ h 14 rfl), of_decide_eq_true (dJ h 2 rfl), eqO_ok (dJ h 16 rfl), eqO_ok (dJ h 17 rfl), of_decide_eq_true (dJ h 18 rfl), of_decide_eq_true (dJ h 19 rfl)⟩
theorem N8 {file : Str} {c : Nat} (h : oJ file c K = true) : OexC K (ga K (bA c)) := ⟨Yq (dJ h 0 rfl), eqO_ok (dJ h 1 rfl), of_decide_eq_true (dJ h 2 rfl), of_decide_eq_true (dJ h 3 rfl), dJ h 4 rfl⟩
theorem Ag {file : Str} {c : Nat} (h : oJ file c K = true) : PySem.W.findIn K (.ref (ga K (bA c))) "__init__" = some (some (.ref (ma K (ga K (bA c)) "__init__"))) ∧ PySem.W.typeIn K (.ref (ma K (ga K (bA c)) "__init__")) = some (.type "function") := ⟨eqO_ok (dJ h 5 rfl), of_decide_eq_true (dJ h 6 rfl)⟩
theorem Yr {file : Str} {c : Nat} (h : oJ file c K = true) : ∀ i ∈ aN c, PySem.W.findIn K (.ref (ga K (bA c))) (aK i) = some none := fun i hi => eqO_ok (List.all_eq_true.mp (dJ h 7 rfl) i hi)
structure Fw (P0 : Program) (w : World) (K : PySem.W.Frag) (mg : Str → Option Value) (base : Heap) (k c : Nat) : Prop where
 ex : ∃ (fI : Addr) (fd : FuncData), OexC K (ga K (bA c)) ∧ PySem.W.findIn K (.ref (ga K (bA c))) "__init__" = some (some (.ref fI)) ∧ PySem.W.typeIn K (.ref fI) = some (.type "function") ∧
  FnOk P0 w K mg base (L2.CX P0 w) k fI fd (("self" : Str) :: (aN c).reverse.map aK) (Aa (ga K (bA c)) (aN c).reverse) ∧ Binds K fd (("self" : Str) :: (aN c).reverse.map aK) []
theorem Ys {P0 : Program} {w : World} {mg : Str → Option Value} {base : Heap} {c k : Nat} {fa : List dX} {fn : List DX} {d : DX} {msg : Str} {jc : Nat} {p1 p2 p3 p4 p5 p6 : Pos} {sto : List (Nat × P4)} (sy : SaysX fa fn K) (i j : Nat) (hi : fa[i]? = some (oJ P0.main.file c)) (hj : fn[j]? = some d) (hcl : d.cl = [("__class__" : Str)])
  (hat : d.at_ = (bA c, some ("__init__" : Str))) (hpr : d.pr = false) (hsc : nscB (("self" : Str) :: ((aN c).reverse.map aK ++ [("__class__" : Str)])) (("self" : Str) :: (aN c).reverse.map aK) [("__class__" : Str)] (defScope d.st) = true) (hsup : (defScope d.st).names.lookup ("super" : Str) = some .globalImplicit) (htop : (P0.main.scope.names.lookup ("super" : Str)).isSome = false)
  (hps : ((defArgs d.st).posonlyargs ++ (defArgs d.st).args).head?.map (·.arg) = some ("self" : Str)) (hms : mg "super" = none) (hb : defBody d.st = .Expr (.Call (.Attribute (.Call (.Name "super" p1) [] [] p2) "__init__" p3) [.Constant (.str msg) jc p4] [] p5) p6 :: qC sto) (hln : (p3.endLine == p5.line) = true) (hs : sto.map (·.1) = (aN c).reverse)
  (hne : aN c ≠ []) (hnd : (aN c).reverse.Nodup) (hbt : bootBuiltins "super" = some (.type "super"))
  (hbd : ∀ (nm qual : Str) (body : List Stmt) (kV doc pm : Value) (an : Option Addr) (cdv ct : Value) (cc : Addr) (us : List Value), us.length = (("self" : Str) :: (aN c).reverse.map aK).length → bindArgs (PySem.W.ksFn nm qual (defArgs d.st) body (defScope d.st) .none kV doc pm an cdv ct cc) ⟨us, []⟩ = pure ((("self" : Str) :: (aN c).reverse.map aK).zip us)) :
  Fw P0 w K mg base (k + 1) c := by
 have h := sy.fact i hi
 obtain ⟨e, ok⟩ := sy.val_ j hj
 obtain ⟨oc, od, osl, cc, kV, doc, pm, an, cdv, ct, lk, hcd, kp⟩ := dx_cls e ok hcl
 have hf : d.ad K = ma K (ga K (bA c)) "__init__" := by unfold DX.ad; rw [hpr, hat]; rfl
 rw [hf] at lk
 have hcel : rA (ga K (bA c)) (ma K (ga K (bA c)) "__init__") P0.main.file K = true := dJ h 8 rfl
 unfold rA at hcel
 rw [lk] at hcel
 dsimp only at hcel
 cases cdv with
 | ref cda =>
  dsimp only at hcel
  split at hcel
  ·rename_i cl cld D csl ccl cdd vs ccs q1 q2
   obtain ⟨z1, z2⟩ := ba hcel
   have eD := beq_iff_eq.mp z1
   subst eD
   unfold Dy at z2
   split at z2
   ·rename_i f tf q3
    have EF : Mx K (ga K (bA c)) (ma K (ga K (bA c)) "__init__") cc cda P0 d.qual (defArgs d.st) (defScope d.st) (aN c).reverse :=
     ⟨N8 h, (Ag h).1, (Ag h).2, fun i hi => Yr h i (List.mem_reverse.mp hi), nscope_by hsc, hsup, by rw [List.length_reverse]; exact Fv c, ⟨cl, cld, csl, q1⟩, ⟨ccl, cdd, vs, ccs, f, tf, q2, q3, z2⟩, htop, hps, of_decide_eq_true (dJ h 9 rfl),
      eqO_ok (dJ h 10 rfl), eqO_ok (dJ h 11 rfl), of_decide_eq_true (dJ h 12 rfl)⟩
    exact ⟨_, _, N8 h, (Ag h).1, (Ag h).2, Xk EF lk hcd hb hln hs (fun z => hne (List.reverse_eq_nil_iff.mp z)) hnd hms hbt, .all (hbd _ _ _ _ _ _ _ _ _ _)⟩
   ·cases z2
  ·cases hcel
 | _ => cases hcel
end
end DN
end
section
namespace DN
open PySem PySem.Spec PyProof.Rows L2 He NdefX
theorem xG : bootBuiltins "len" = some (.builtin "len") := by decide +kernel
theorem Yt : bootBuiltins "sum" = some (.builtin "sum") := by decide +kernel
theorem Yu : bootBuiltins "any" = some (.builtin "any") := by decide +kernel
theorem lY : bootBuiltins "isinstance" = some (.builtin "isinstance") := by decide +kernel
theorem qG : bootBuiltins "int" = some (.type "int") := by decide +kernel
theorem Yv : bootBuiltins "bool" = some (.type "bool") := by decide +kernel
theorem Yw : bootBuiltins "list" = some (.type "list") := by decide +kernel
theorem Ah : bootBuiltins "super" = some (.type "super") := by decide +kernel
theorem Yx : bootBuiltins "ValueError" = some (.type "ValueError") := by decide +kernel
theorem cX {k : Nat} {A : Around} (h : Room k A) : A.units + 65 < cLine := by have := h.un; omega
theorem cY {k : Nat} {A : Around} (h : Room k A) : A.units + 64 < cLine := by have := h.un; omega
section
variable {X : Cx} {g : G} {W : WX} {a b c e o : Expr} {fa fb fc f : aA → M D} {p pos apos : Pos} {es : List Expr} {fs : aA → M (List D)} {k n : Nat} {fn : List D → M D}
theorem Yy (h : ∀ u s, X.xe u s ↔ False := by intro _ _; exact Iff.rfl) : Takes X W0 := fun u s q => by
 obtain ⟨a, B, sI, pins, σ, H, cls, d, _, _, _, _, _, _, _, _, w⟩ := q
 exact w.elim
theorem Yz {x z : Str} (hg : Gl X x) (hm : ∃ t, X.mg x = some (.str z t)) (hd : (x == ("__debug__" : Str)) = false := by decide) : PE X (.Name x pos) (tE g W (aG (.v (.str z)))) := by
 obtain ⟨t, hm⟩ := hm
 exact PE.weak (pe_glob (v := .str z) hg hm ⟨t, rfl⟩ hd) fun σ H Q h => Sat.ret h (fun _ _ => rfl) fun _ _ _ _ => Is.str z
theorem Y0 {x : Str} {z : Int} (hg : Gl X x) (hm : ∃ t, X.mg x = some (.int z t)) (hd : (x == ("__debug__" : Str)) = false := by decide) : PE X (.Name x pos) (tE g W (aG (.v (.int z)))) := by
 obtain ⟨t, hm⟩ := hm
 exact PE.weak (pe_glob (v := .int z) hg hm ⟨t, rfl⟩ hd) fun σ H Q h => Sat.ret h (fun _ _ => rfl) fun _ _ _ _ => Is.int z
def xH : D → M D := fun d L => match d with
 | .v (.int i) => some (.ok (.v (.int (-i))), L)
 | _ => none
structure FnD (P0 : Program) (w : World) (K : PySem.W.Frag) (mg : Str → Option Value) (base : Heap) (g : G) (f : Addr) (k n : Nat) (fn : List D → M D) : Prop where
 ex : ∃ (fd : FuncData) (ps : List Str), FnOk P0 w K mg base (L2.CX P0 w) k f fd ps (gG g n fn) ∧ Binds K fd ps []
 kp : PySem.W.keepIn K (.ref f) = true
theorem cG {x : Str} {fad : Addr} (FO : FnD X.prog X.w X.K X.mg X.base g fad k n fn) (hr : Room k X.A) (hg : Gl X x) (hm : X.mg x = some (.ref fad)) (tk : Takes X W) (ha : PA X (e :: es) (tA g W fs)) (hdb : (x == ("__debug__" : Str)) = false := by decide)
  (he : starEach (e :: es) X.env = (false, eval e X.env) :: starEach es X.env := by rfl) (hpl : (backTo pos (starEach es X.env)).any (·.1) = false := by rfl) : PE X (.Call (.Name x p) (e :: es) [] pos) (tE g W (aO (bF n fn) fs)) := by
 obtain ⟨⟨fd, ps, FO1, hb⟩, kp⟩ := FO
 exact W4 FO1 hr hg hm kp hb tk ha hdb he hpl
theorem qH {x : Str} {fad : Addr} {frz : Bool} {cn : Nat} (hK : X.K = g.K := by rfl) (hC : jM g cn) (MK : Mk X.K (g.cl cn) fad) (FO : FnD X.prog X.w X.K X.mg X.base g fad k n fn) (hr : Room (k + 1) X.A) (hg : Gl X x) (hm : X.mg x = some (.ref (g.cl cn))) (tk : Takes X W)
  (ha : PA X (e :: es) (tA g W fs)) (hdb : (x == ("__debug__" : Str)) = false := by decide) (he : starEach (e :: es) X.env = (false, eval e X.env) :: starEach es X.env := by rfl) (hpl : (backTo pos (starEach es X.env)).any (·.1) = false := by rfl) :
  PE X (.Call (.Name x p) (e :: es) [] pos) (tE g W (aO (gH frz cn n fn) fs)) := by
 obtain ⟨⟨fd, ps, FO1, hb⟩, kp⟩ := FO
 exact Xa hK hC MK FO1 hr hg hm hb tk ha hdb he hpl
theorem cP {P0 : Program} {w : World} {K : PySem.W.Frag} {mg : Str → Option Value} {base : Heap} {m : Str} {f : Addr} {j : Nat} (hm : Meth K (g.cl n) m f) (FO : FnD P0 w K mg base g f j k fn) {i : Nat} (hj : j ≤ i) (hno : ∀ q ∈ aN n, aK q ≠ m) : pY P0 w K mg base g m i n k fn := by
 obtain ⟨⟨fd, ps, FO1, hb⟩, kp⟩ := FO
 exact ⟨⟨f, fd, ps, hm, FO1.mono hj, hb⟩, hno⟩
theorem Y4 {x : Str} {c : Nat} {K : PySem.W.Frag} {w : World} {fs : aA → M (List D)} {pos2 : Pos} (ER : Fw X.prog X.w X.K X.mg X.base k c) (hK : X.K = K) (hc : X.calm = true) (tk : Takes X W) (hr : Room (k + 1) X.A) (hg : Gl X x) (hm : X.mg x = some (.ref (ga X.K (bA c)))) (ha : PA X (e :: es) (tA (gOf K w) W fs))
  (hdb : (x == ("__debug__" : Str)) = false := by decide) (hst : starEach (e :: es) X.env = (false, eval e X.env) :: starEach es X.env := by rfl) (hpl : (backTo pos (starEach es X.env)).any (·.1) = false := by rfl) :
  PS X (.Raise (some (.Call (.Name x p) (e :: es) [] pos)) none pos2) (tS (gOf K w) W (uJ c fs)) := by
 subst hK
 obtain ⟨fI, fd, T, iC, tI, FO, hb⟩ := ER.ex
 exact Xn hc tk T iC tI FO hr hb hg hm (Nat.le_trans (Nat.le_of_lt (Fv c)) (by decide)) ha hdb hst hpl
theorem qI {K : PySem.W.Frag} {w : World} {tab : Tg → Option Bool} {u : Value} (cs : List Nat) (hc : ∀ c b, tab (.ins c) = some b → c ∈ cs)
  (h6 : (∀ b, tab .non = some b → PySem.W.kitOne (gOf K w).K (dU (gOf K w) .non) u = some b) ∧ (∀ b, tab .bl = some b → PySem.W.kitOne (gOf K w).K (dU (gOf K w) .bl) u = some b) ∧ (∀ b, tab .int = some b → PySem.W.kitOne (gOf K w).K (dU (gOf K w) .int) u = some b) ∧
   (∀ b, tab .str = some b → PySem.W.kitOne (gOf K w).K (dU (gOf K w) .str) u = some b) ∧ (∀ b, tab .lst = some b → PySem.W.kitOne (gOf K w).K (dU (gOf K w) .lst) u = some b) ∧ ∀ b, tab .tup = some b → PySem.W.kitOne (gOf K w).K (dU (gOf K w) .tup) u = some b)
  (hi : ∀ c ∈ cs, ∀ b, tab (.ins c) = some b → PySem.W.kitOne (gOf K w).K (dU (gOf K w) (.ins c)) u = some b) : ∀ t b, tab t = some b → PySem.W.kitOne (gOf K w).K (dU (gOf K w) t) u = some b := by
 obtain ⟨h1, h2, h3, h4, h5, h6⟩ := h6
 intro t b e
 cases t with
 | non => exact h1 b e
 | bl => exact h2 b e
 | int => exact h3 b e
 | str => exact h4 b e
 | lst => exact h5 b e
 | tup => exact h6 b e
 | ins c => exact hi c (hc c b e) b e
theorem fnok_cx {P : Program} {w : World} {K : PySem.W.Frag} {mg : Str → Option Value} {base : Heap} {CX CX' : CXT} {k : Nat} {f : Addr} {fd : FuncData} {ps : List Str} {sp : Sp} (F : FnOk P w K mg base CX k f fd ps sp) (h : ∀ outer H s E u s', CX outer H s E u s' → CX' outer H s E u s') : FnOk P w K mg base CX' k f fd ps sp :=
 ⟨F.len, fun A outer s H args us vs Q E hr he hb hv hs => codeAny_mono (F.run A outer s H args us vs Q E hr he hb hv hs) fun r s' hq => by
  match r, hq with
  | .error e, hq => exact h _ _ _ _ _ _ hq
  | .ok (.ret u), hq => exact hq
  | .ok .next, hq => exact hq
  | .ok .brk, hq => exact hq
  | .ok .cont, hq => exact hq⟩
def Y5 (P : Program) : CXT := fun outer H s E u s' => ∃ w, L2.CX P w outer H s E u s'
theorem cxa_no {P : Program} (H : Hp) (s : Shared) (e : Value) (s' : Shared) (h : Y5 P [] H s (fun _ _ _ => False) e s') : False := by
 obtain ⟨w, a, B, H', cls, d, _, _, _, _, _, _, _, q⟩ := h
 exact q
theorem law_end {g : G} {fn : List D → M D} {ns : List Int} (h : ∃ L1, fn [.v (.scr ns)] [] = some (.ok (.v (.bl true)), L1)) {H : Hp} {a : Addr} (hS : SqL g.K H a (ns.map V.int)) {Q : VK} {E : XK} (hQ : ∀ H', Q (.bl true) H') : gG g 1 fn [.ref a] H Q E := by
 obtain ⟨L1, h⟩ := h
 refine ⟨fun b => if b = a then H a else none, fun _ => 0, [], [.v (.scr ns)], ⟨fun b o e => ?_, fun i m e => by simp at e, fun i j m m' e => by simp at e⟩, .cons ?_ .nil, rfl, ?_⟩
 ·by_cases hb : b = a
  ·rw [hb] at e ⊢
   simpa using e
  ·simp [hb] at e
 ·show Is g _ (.ref a) (.scr ns)
  refine Is.scr ?_
  rcases hS with (hS | ⟨o, hS⟩) | hS
  ·exact .inl (.inl (by simpa using hS))
  ·exact .inl (.inr ⟨o, by simpa using hS⟩)
  ·exact .inr hS
 ·rw [h]
  exact fun F' ρ' b H' _ _ hb => by
   have := Is.inv_bl hb
   rw [this]
   exact hQ H'
end
end DN
namespace DN
open PySem
theorem aZ (n : Nat) (h : n ≤ 100000) : n ≤ sizeLine := by rw [sizeLine_eq]; omega
end DN
end
section
namespace DN
open PySem
open L2 (ixN atI)
theorem aW.refl (L : List MO) : aW L L := ⟨Nat.le_refl _, fun i m _ e => .inl e⟩
theorem uP {L : List MO} {n : Nat} {xs : List P} : aW L (L.set n (.lst xs)) := by
 refine ⟨by simp, fun i m hi e => ?_⟩
 by_cases h : n = i
 ·subst h
  rw [List.getElem?_set_self hi] at e
  cases e
  exact .inr trivial
 ·rw [List.getElem?_set_ne h] at e
  exact .inl e
theorem lZ {L L1 : List MO} (X : List MO) (h : aW L L1) : aW L (L1 ++ X) := by
 refine ⟨by rw [List.length_append]; have := h.1; omega, fun i m hi e => ?_⟩
 rw [List.getElem?_append_left (by have := h.1; omega)] at e
 exact h.2 i m hi e
theorem aW.trans {L L1 L2 : List MO} (a : aW L L1) (b : aW L1 L2) (h : L.length = L1.length) : aW L L2 := by
 refine ⟨by have := a.1; have := b.1; omega, fun i m hi e => ?_⟩
 rcases b.2 i m (by omega) e with q | q
 ·exact a.2 i m hi q
 ·exact .inr (by rw [h]; exact q)
theorem Oa {keep : Bool} {f : List D → M D} {ds : List D} {L L1 : List MO} {p : P} (h : f ds L = some (.ok (.v p), L1)) (ho : aW L L1) : bO keep f ds L = some (.ok (.v p), L1.take L.length) := by
 unfold bO
 rw [h]
 exact if_pos ho
theorem Oc {keep : Bool} {f : List D → M D} {ds : List D} {L L1 : List MO} {p : P} (h : f ds L = some (.ok (.v p), L1)) (ho : aW L L1) (hl : L1.length = L.length) : bO keep f ds L = some (.ok (.v p), L1) := by
 rw [Oa h ho, List.take_of_length_le (Nat.le_of_eq hl)]
theorem Fx {f : List D → M D} {ds : List D} {L L1 X : List MO} {n : Nat} {xs : List P} (h : f ds L = some (.ok (.r n), L1 ++ X)) (ho : aW L L1) (hl : L1.length = L.length) (hn : L.length ≤ n) (he : X[n - L.length]? = some (.lst xs)) : bO true f ds L = some (.ok (.r L.length), L1 ++ [.lst xs]) := by
 unfold bO
 rw [h]
 dsimp only
 rw [if_pos (lZ X ho), if_neg (by omega), List.getElem?_append_right (by omega), hl, he]
 dsimp only
 rw [if_pos rfl, ← hl, List.take_left']
 rfl
theorem xJ {N : Nat} {s : SX} {ds : List D} {L L1 : List MO} {d : D} (h : s (ds.map some ++ List.replicate (N - ds.length) none) L = some (.rt d, L1)) : bV N s ds L = some (.ok d, L1) := by
 unfold bV
 rw [h]
theorem Y6 {N : Nat} {s : SX} {ds : List D} {L L1 : List MO} {τ : aA} (h : s (ds.map some ++ List.replicate (N - ds.length) none) L = some (.nx τ, L1)) : bV N s ds L = some (.ok (.v .non), L1) := by
 unfold bV
 rw [h]
theorem Y7 {N : Nat} {s : SX} {ds : List D} {L L1 : List MO} {τ : aA} {c : Nat} {fs : List P} (h : s (ds.map some ++ List.replicate (N - ds.length) none) L = some (.ex τ c fs, L1)) : bV N s ds L = some (.ex c fs, L1) := by
 unfold bV
 rw [h]
theorem Fy {ok : List MO → Prop} {turn : P → aA → M (Option P)} {n : Nat} {τ : aA} {f : P → Option P} {L : List MO} (hl : L.length = n) (hok : ∀ L, ok L) : ∀ (xs : List P) (acc : List P), acc.length + xs.length ≤ sizeLine →
  (∀ p ∈ xs, ∀ acc : List P, turn p τ (L ++ [.lst acc]) = some (.ok (f p), L ++ [.lst acc])) → iV ok turn n τ xs (L ++ [.lst acc]) = some (L ++ [.lst (acc ++ xs.filterMap f)])
 | [], acc, _, _ => by unfold iV; rw [if_pos (hok _)]; simp
 | p :: ps, acc, hz, hs => by
  rw [List.length_cons] at hz
  unfold iV
  rw [if_pos (hok _), hs p List.mem_cons_self acc]
  cases e : f p with
  | none =>
   dsimp only
   rw [Fy hl hok ps acc (by omega) fun p hp => hs p (List.mem_cons_of_mem _ hp), List.filterMap_cons, e]
  | some q =>
   dsimp only
   have e3 : (L ++ [MO.lst acc])[n]? = some (.lst acc) := by rw [← hl, List.getElem?_append_right (Nat.le_refl _), Nat.sub_self]; rfl
   rw [e3]
   dsimp only
   rw [if_pos (by omega)]
   have e4 : (L ++ [MO.lst acc]).set n (.lst (acc ++ [q])) = L ++ [.lst (acc ++ [q])] := by
    rw [← hl, List.set_append_right _ _ (Nat.le_refl _), Nat.sub_self]
    rfl
   rw [e4, Fy hl hok ps (acc ++ [q]) (by rw [List.length_append, List.length_singleton]; omega) fun p hp => hs p (List.mem_cons_of_mem _ hp), List.filterMap_cons, e, List.append_assoc]
   rfl
end DN
end
section
namespace DN
open PySem
theorem xK (L : List MO) : cV [] L = some (.ok (.v (.tup [])), L) := by
 have e : aV [] = some [] := rfl
 unfold cV
 rw [e]
 exact if_pos (aZ 0 (by decide))
theorem xM (a0 : P) (L : List MO) : cV [.v a0] L = some (.ok (.v (.tup [a0])), L) := by
 have e : aV [.v a0] = some [a0] := rfl
 unfold cV
 rw [e]
 exact if_pos (aZ 1 (by decide))
theorem xO (a0 a1 : P) (L : List MO) : cV [.v a0, .v a1] L = some (.ok (.v (.tup [a0, a1])), L) := by
 have e : aV [.v a0, .v a1] = some [a0, a1] := rfl
 unfold cV
 rw [e]
 exact if_pos (aZ 2 (by decide))
theorem xP (a0 a1 a2 : P) (L : List MO) : cV [.v a0, .v a1, .v a2] L = some (.ok (.v (.tup [a0, a1, a2])), L) := by
 have e : aV [.v a0, .v a1, .v a2] = some [a0, a1, a2] := rfl
 unfold cV
 rw [e]
 exact if_pos (aZ 3 (by decide))
theorem xQ (a0 a1 a2 a3 : P) (L : List MO) : cV [.v a0, .v a1, .v a2, .v a3] L = some (.ok (.v (.tup [a0, a1, a2, a3])), L) := by
 have e : aV [.v a0, .v a1, .v a2, .v a3] = some [a0, a1, a2, a3] := rfl
 unfold cV
 rw [e]
 exact if_pos (aZ 4 (by decide))
theorem Ai (a0 a1 a2 a3 a4 : P) (L : List MO) : cV [.v a0, .v a1, .v a2, .v a3, .v a4] L = some (.ok (.v (.tup [a0, a1, a2, a3, a4])), L) := by
 have e : aV [.v a0, .v a1, .v a2, .v a3, .v a4] = some [a0, a1, a2, a3, a4] := rfl
 unfold cV
 rw [e]
 exact if_pos (aZ 5 (by decide))
theorem Aj (a0 a1 a2 a3 a4 a5 : P) (L : List MO) : cV [.v a0, .v a1, .v a2, .v a3, .v a4, .v a5] L = some (.ok (.v (.tup [a0, a1, a2, a3, a4, a5])), L) := by
 have e : aV [.v a0, .v a1, .v a2, .v a3, .v a4, .v a5] = some [a0, a1, a2, a3, a4, a5] := rfl
 unfold cV
 rw [e]
 exact if_pos (aZ 6 (by decide))
theorem xR (L : List MO) : bL [] L = some (.ok (.v (.lst [])), L) := by
 have e : aV [] = some [] := rfl
 unfold bL
 rw [e]
 exact if_pos (aZ 0 (by decide))
theorem xT (a0 : P) (L : List MO) : bL [.v a0] L = some (.ok (.v (.lst [a0])), L) := by
 have e : aV [.v a0] = some [a0] := rfl
 unfold bL
 rw [e]
 exact if_pos (aZ 1 (by decide))
theorem xU (a0 a1 : P) (L : List MO) : bL [.v a0, .v a1] L = some (.ok (.v (.lst [a0, a1])), L) := by
 have e : aV [.v a0, .v a1] = some [a0, a1] := rfl
 unfold bL
 rw [e]
 exact if_pos (aZ 2 (by decide))
theorem xV (a0 a1 a2 : P) (L : List MO) : bL [.v a0, .v a1, .v a2] L = some (.ok (.v (.lst [a0, a1, a2])), L) := by
 have e : aV [.v a0, .v a1, .v a2] = some [a0, a1, a2] := rfl
 unfold bL
 rw [e]
 exact if_pos (aZ 3 (by decide))
theorem xW (a0 a1 a2 a3 : P) (L : List MO) : bL [.v a0, .v a1, .v a2, .v a3] L = some (.ok (.v (.lst [a0, a1, a2, a3])), L) := by
 have e : aV [.v a0, .v a1, .v a2, .v a3] = some [a0, a1, a2, a3] := rfl
 unfold bL
 rw [e]
 exact if_pos (aZ 4 (by decide))
theorem xX (a0 a1 a2 a3 a4 : P) (L : List MO) : bL [.v a0, .v a1, .v a2, .v a3, .v a4] L = some (.ok (.v (.lst [a0, a1, a2, a3, a4])), L) := by
 have e : aV [.v a0, .v a1, .v a2, .v a3, .v a4] = some [a0, a1, a2, a3, a4] := rfl
 unfold bL
 rw [e]
 exact if_pos (aZ 5 (by decide))
theorem xY (a0 a1 a2 a3 a4 a5 : P) (L : List MO) : bL [.v a0, .v a1, .v a2, .v a3, .v a4, .v a5] L = some (.ok (.v (.lst [a0, a1, a2, a3, a4, a5])), L) := by
 have e : aV [.v a0, .v a1, .v a2, .v a3, .v a4, .v a5] = some [a0, a1, a2, a3, a4, a5] := rfl
 unfold bL
 rw [e]
 exact if_pos (aZ 6 (by decide))
theorem xZ (a0 a1 a2 a3 a4 a5 a6 : P) (L : List MO) : bL [.v a0, .v a1, .v a2, .v a3, .v a4, .v a5, .v a6] L = some (.ok (.v (.lst [a0, a1, a2, a3, a4, a5, a6])), L) := by
 have e : aV [.v a0, .v a1, .v a2, .v a3, .v a4, .v a5, .v a6] = some [a0, a1, a2, a3, a4, a5, a6] := rfl
 unfold bL
 rw [e]
 exact if_pos (aZ 7 (by decide))
theorem yC (a0 a1 a2 a3 a4 a5 a6 a7 : P) (L : List MO) : bL [.v a0, .v a1, .v a2, .v a3, .v a4, .v a5, .v a6, .v a7] L = some (.ok (.v (.lst [a0, a1, a2, a3, a4, a5, a6, a7])), L) := by
 have e : aV [.v a0, .v a1, .v a2, .v a3, .v a4, .v a5, .v a6, .v a7] = some [a0, a1, a2, a3, a4, a5, a6, a7] := rfl
 unfold bL
 rw [e]
 exact if_pos (aZ 8 (by decide))
theorem Ak (a0 a1 a2 a3 a4 a5 a6 a7 a8 : P) (L : List MO) : bL [.v a0, .v a1, .v a2, .v a3, .v a4, .v a5, .v a6, .v a7, .v a8] L = some (.ok (.v (.lst [a0, a1, a2, a3, a4, a5, a6, a7, a8])), L) := by
 have e : aV [.v a0, .v a1, .v a2, .v a3, .v a4, .v a5, .v a6, .v a7, .v a8] = some [a0, a1, a2, a3, a4, a5, a6, a7, a8] := rfl
 unfold bL
 rw [e]
 exact if_pos (aZ 9 (by decide))
theorem Am (a0 a1 a2 a3 a4 a5 a6 a7 a8 a9 : P) (L : List MO) : bL [.v a0, .v a1, .v a2, .v a3, .v a4, .v a5, .v a6, .v a7, .v a8, .v a9] L = some (.ok (.v (.lst [a0, a1, a2, a3, a4, a5, a6, a7, a8, a9])), L) := by
 have e : aV [.v a0, .v a1, .v a2, .v a3, .v a4, .v a5, .v a6, .v a7, .v a8, .v a9] = some [a0, a1, a2, a3, a4, a5, a6, a7, a8, a9] := rfl
 unfold bL
 rw [e]
 exact if_pos (aZ 10 (by decide))
theorem Ao (a0 a1 a2 a3 a4 a5 a6 a7 a8 a9 a10 : P) (L : List MO) : bL [.v a0, .v a1, .v a2, .v a3, .v a4, .v a5, .v a6, .v a7, .v a8, .v a9, .v a10] L = some (.ok (.v (.lst [a0, a1, a2, a3, a4, a5, a6, a7, a8, a9, a10])), L) := by
 have e : aV [.v a0, .v a1, .v a2, .v a3, .v a4, .v a5, .v a6, .v a7, .v a8, .v a9, .v a10] = some [a0, a1, a2, a3, a4, a5, a6, a7, a8, a9, a10] := rfl
 unfold bL
 rw [e]
 exact if_pos (aZ 11 (by decide))
theorem Aq (a0 a1 a2 a3 a4 a5 a6 a7 a8 a9 a10 a11 : P) (L : List MO) : bL [.v a0, .v a1, .v a2, .v a3, .v a4, .v a5, .v a6, .v a7, .v a8, .v a9, .v a10, .v a11] L = some (.ok (.v (.lst [a0, a1, a2, a3, a4, a5, a6, a7, a8, a9, a10, a11])), L) := by
 have e : aV [.v a0, .v a1, .v a2, .v a3, .v a4, .v a5, .v a6, .v a7, .v a8, .v a9, .v a10, .v a11] = some [a0, a1, a2, a3, a4, a5, a6, a7, a8, a9, a10, a11] := rfl
 unfold bL
 rw [e]
 exact if_pos (aZ 12 (by decide))
theorem yD (L : List MO) : newD [] L = some (.ok (.r L.length), L ++ [.lst []]) := by
 have e : aV [] = some [] := rfl
 unfold newD
 rw [e]
 exact if_pos (aZ 0 (by decide))
theorem Ar (a0 : P) (L : List MO) : newD [.v a0] L = some (.ok (.r L.length), L ++ [.lst [a0]]) := by
 have e : aV [.v a0] = some [a0] := rfl
 unfold newD
 rw [e]
 exact if_pos (aZ 1 (by decide))
theorem Av (a0 a1 : P) (L : List MO) : newD [.v a0, .v a1] L = some (.ok (.r L.length), L ++ [.lst [a0, a1]]) := by
 have e : aV [.v a0, .v a1] = some [a0, a1] := rfl
 unfold newD
 rw [e]
 exact if_pos (aZ 2 (by decide))
theorem rP (a0 a1 a2 : P) (L : List MO) : newD [.v a0, .v a1, .v a2] L = some (.ok (.r L.length), L ++ [.lst [a0, a1, a2]]) := by
 have e : aV [.v a0, .v a1, .v a2] = some [a0, a1, a2] := rfl
 unfold newD
 rw [e]
 exact if_pos (aZ 3 (by decide))
theorem Ax (a0 a1 a2 a3 : P) (L : List MO) : newD [.v a0, .v a1, .v a2, .v a3] L = some (.ok (.r L.length), L ++ [.lst [a0, a1, a2, a3]]) := by
 have e : aV [.v a0, .v a1, .v a2, .v a3] = some [a0, a1, a2, a3] := rfl
 unfold newD
 rw [e]
 exact if_pos (aZ 4 (by decide))
theorem Ay (a0 a1 a2 a3 a4 : P) (L : List MO) : newD [.v a0, .v a1, .v a2, .v a3, .v a4] L = some (.ok (.r L.length), L ++ [.lst [a0, a1, a2, a3, a4]]) := by
 have e : aV [.v a0, .v a1, .v a2, .v a3, .v a4] = some [a0, a1, a2, a3, a4] := rfl
 unfold newD
 rw [e]
 exact if_pos (aZ 5 (by decide))
theorem Az (a0 a1 a2 a3 a4 a5 : P) (L : List MO) : newD [.v a0, .v a1, .v a2, .v a3, .v a4, .v a5] L = some (.ok (.r L.length), L ++ [.lst [a0, a1, a2, a3, a4, a5]]) := by
 have e : aV [.v a0, .v a1, .v a2, .v a3, .v a4, .v a5] = some [a0, a1, a2, a3, a4, a5] := rfl
 unfold newD
 rw [e]
 exact if_pos (aZ 6 (by decide))
theorem Ba (fn : List D → M D) (a0 : D) : bF 1 fn [a0] = fn [a0] := if_pos rfl
theorem Bb (fn : List D → M D) (a0 a1 : D) : bF 2 fn [a0, a1] = fn [a0, a1] := if_pos rfl
theorem Bc (fn : List D → M D) (a0 a1 a2 : D) : bF 3 fn [a0, a1, a2] = fn [a0, a1, a2] := if_pos rfl
theorem Bf (fn : List D → M D) (a0 a1 a2 a3 : D) : bF 4 fn [a0, a1, a2, a3] = fn [a0, a1, a2, a3] := if_pos rfl
theorem Bg (fn : List D → M D) (a0 a1 a2 a3 a4 : D) : bF 5 fn [a0, a1, a2, a3, a4] = fn [a0, a1, a2, a3, a4] := if_pos rfl
theorem Bh (fn : List D → M D) (a0 a1 a2 a3 a4 a5 : D) : bF 6 fn [a0, a1, a2, a3, a4, a5] = fn [a0, a1, a2, a3, a4, a5] := if_pos rfl
theorem Bj (fn : List D → M D) (a0 a1 a2 a3 a4 a5 a6 : D) : bF 7 fn [a0, a1, a2, a3, a4, a5, a6] = fn [a0, a1, a2, a3, a4, a5, a6] := if_pos rfl
end DN
end
section
namespace DN
open PySem
open L2 (ixN atI)
def jE (n : Nat) (τ : aA) : Prop := ∀ (i : Nat) (d : D), τ[i]? = some (some d) → okR n d
def Ge (n : Nat) : Option D → Option D
 | some (.r k) => if k < n then some (.r k) else none
 | x => x
def mD (n : Nat) (τ : aA) : aA := τ.map (Ge n)
theorem Y8 {n : Nat} {τ : aA} : (mD n τ).length = τ.length := by simp [mD]
theorem Od {n : Nat} {τ : aA} {i : Nat} {d : D} (h : (mD n τ)[i]? = some (some d)) : τ[i]? = some (some d) ∧ okR n d := by
 unfold mD at h
 rw [List.getElem?_map] at h
 cases e : τ[i]? with
 | none => rw [e] at h; cases h
 | some x =>
  rw [e] at h
  cases x with
  | none => cases h
  | some d2 =>
   cases d2 with
   | v p => cases h; exact ⟨rfl, trivial⟩
   | r k =>
    have h : (if k < n then some (D.r k) else none) = some d := by simpa [Ge] using h
    by_cases c : k < n
    ·rw [if_pos c] at h; cases h; exact ⟨rfl, c⟩
    ·rw [if_neg c] at h; cases h
theorem Oe {n : Nat} {τ : aA} (h : jE n τ) : mD n τ = τ := by
 unfold mD
 refine List.ext_getElem? fun i => ?_
 rw [List.getElem?_map]
 cases e : τ[i]? with
 | none => rfl
 | some x =>
  cases x with
  | none => rfl
  | some d =>
   cases d with
   | v p => rfl
   | r k =>
    have : k < n := h i _ e
    simp [Ge, this]
open Classical in
noncomputable def nM (s : SX) : SX := fun τ L => match s τ L with
 | some (.nx τ1, L1) => if aW L L1 then some (.nx (mD L.length τ1), L1.take L.length) else some (.nx τ1, L1)
 | some (.ct τ1, L1) => if aW L L1 then some (.ct (mD L.length τ1), L1.take L.length) else some (.ct τ1, L1)
 | o => o
section
variable {X : L2.Cx} {g : G} {W : L2.WX} {sts : List Stmt} {s1 : SX}
theorem Sl.down {F : L2.Hp} {ρ ρ' : Nat → Addr} {n n' : Nat} {σ : L2.St} {τ : aA} (hr : ∀ i, i < n → ρ' i = ρ i) (h : Sl g F ρ' n' σ τ) : Sl g F ρ n σ (mD n τ) :=
 ⟨Y8.trans h.1, fun i d q => let ⟨v, h1, h2⟩ := h.2 i d (Od q).1; ⟨v, h1, h2.down hr (Od q).2⟩⟩
theorem tS.trim {D : L2.Ends} {σ : L2.St} {H : L2.Hp} (h : tS g W (nM s1) D σ H) : tS g W s1 D σ H := by
 obtain ⟨F, ρ, τ, L, hR, hS, hc, hp⟩ := h
 refine ⟨F, ρ, τ, L, hR, hS, hc, ?_⟩
 unfold nM at hp
 have down : ∀ {L1 : List MO} {F' : L2.Hp} {ρ' : Nat → Addr} {H' : L2.Hp}, aW L L1 → Ext F ρ L.length F' ρ' L1.length → R g F' ρ' L1 H' → R g F' ρ (L1.take L.length) H' ∧ (L1.take L.length).length = L.length := fun {L1 F' ρ' H'} ho he hR' => by
  refine ⟨hR'.trunc he.len he.rho fun i m hi e => ?_, by rw [List.length_take]; have := he.len; omega⟩
  rcases ho.2 i m hi e with q | q
  ·exact hR.okR q
  ·exact q
 match e : s1 τ L with
 | none => rw [e] at hp; exact hp
 | some (.nx τ1, L1) =>
  rw [e] at hp
  dsimp only at hp
  by_cases ho : aW L L1
  ·rw [if_pos ho] at hp
   intro F' ρ' H' σ' he hR' hs
   obtain ⟨q1, q2⟩ := down ho he hR'
   exact hp F' ρ H' σ' (by rw [q2]; exact ⟨he.sub, fun _ _ => rfl, Nat.le_refl _⟩) q1 (by rw [q2]; exact Sl.down he.rho hs)
  ·rw [if_neg ho] at hp; exact hp
 | some (.ct τ1, L1) =>
  rw [e] at hp
  dsimp only at hp
  by_cases ho : aW L L1
  ·rw [if_pos ho] at hp
   intro F' ρ' H' σ' he hR' hs
   obtain ⟨q1, q2⟩ := down ho he hR'
   exact hp F' ρ H' σ' (by rw [q2]; exact ⟨he.sub, fun _ _ => rfl, Nat.le_refl _⟩) q1 (by rw [q2]; exact Sl.down he.rho hs)
  ·rw [if_neg ho] at hp; exact hp
 | some (.rt d, L1) => rw [e] at hp; exact hp
 | some (.bk _, L1) => rw [e] at hp; exact hp
 | some (.ex _ _ _, L1) => rw [e] at hp; exact hp
theorem Bl (h : L2.PSs X sts (tS g W s1)) : L2.PSs X sts (tS g W (nM s1)) := PSs.weak h fun D σ H q => tS.trim q
end
abbrev EX := Nat → List P → List MO → Prop
def wp {α : Type} (m : M α) (L : List MO) (E : EX) (Q : α → List MO → Prop) : Prop := match m L with
 | some (.ok a, L1) => Q a L1
 | some (.ex c fs, L1) => E c fs L1
 | none => False
structure KK where
 nx : aA → List MO → Prop
 rt : D → List MO → Prop
 bk : aA → List MO → Prop
 ct : aA → List MO → Prop
 ex : aA → Nat → List P → List MO → Prop
def wps (s : SX) (τ : aA) (L : List MO) (k : KK) : Prop := match s τ L with
 | some (.nx τ1, L1) => k.nx τ1 L1
 | some (.rt d, L1) => k.rt d L1
 | some (.bk τ1, L1) => k.bk τ1 L1
 | some (.ct τ1, L1) => k.ct τ1 L1
 | some (.ex τ1 c fs, L1) => k.ex τ1 c fs L1
 | none => False
def KK.th (k : KK) (b : SX) : KK := { k with nx := fun τ L => wps b τ L k }
section
variable {α β : Type} {L : List MO} {E : EX} {τ : aA} {k : KK} {a b : SX}
theorem yE {m : M α} {f : α → M β} {Q : β → List MO → Prop} : wp (M.bnd m f) L E Q = wp m L E (fun x L1 => wp (f x) L1 E Q) := by
 unfold wp M.bnd
 cases e : m L with
 | none => rfl
 | some r =>
  obtain ⟨r, L1⟩ := r
  cases r <;> rfl
theorem wp_ret {x : α} {Q : α → List MO → Prop} : wp (M.ret x) L E Q = Q x L := rfl
theorem wp_bind {m : M α} {f : α → M β} {Q : β → List MO → Prop} : wp (m >>= f) L E Q = wp m L E (fun x L1 => wp (f x) L1 E Q) := yE
theorem wp_pure {x : α} {Q : α → List MO → Prop} : wp (pure x) L E Q = Q x L := rfl
theorem bG {m : M α} {Q : α → List MO → Prop} {x : α} {L1 : List MO} (h : m L = some (.ok x, L1)) : wp m L E Q = Q x L1 := by
 unfold wp
 rw [h]
theorem nO {m : M α} {Q : α → List MO → Prop} (h : wp m L (fun _ _ _ => False) Q) : ∃ x L1, m L = some (.ok x, L1) ∧ Q x L1 := by
 unfold wp at h
 cases e : m L with
 | none => rw [e] at h; exact h.elim
 | some r =>
  obtain ⟨r, L1⟩ := r
  rw [e] at h
  cases r with
  | ok x => exact ⟨x, L1, rfl, h⟩
  | ex c fs => exact h.elim
theorem Y9 {s : SX} {k k' : KK} (h : wps s τ L k) (h1 : ∀ τ L, k.nx τ L → k'.nx τ L) (h2 : ∀ d L, k.rt d L → k'.rt d L) (h3 : ∀ τ L, k.bk τ L → k'.bk τ L) (h4 : ∀ τ L, k.ct τ L → k'.ct τ L) (h5 : ∀ τ c fs L, k.ex τ c fs L → k'.ex τ c fs L) : wps s τ L k' := by
 unfold wps at h ⊢
 cases e : s τ L with
 | none => rw [e] at h; exact h
 | some r =>
  obtain ⟨r, L1⟩ := r
  rw [e] at h
  cases r with
  | nx => exact h1 _ _ h
  | rt => exact h2 _ _ h
  | bk => exact h3 _ _ h
  | ct => exact h4 _ _ h
  | ex => exact h5 _ _ _ _ h
theorem aH : wps (aR a b) τ L k = wps a τ L (k.th b) := by
 unfold wps aR
 cases e : a τ L with
 | none => rfl
 | some r =>
  obtain ⟨r, L1⟩ := r
  cases r <;> rfl
theorem aJ {L : List MO} : (k.th b).nx τ L = wps b τ L k := rfl
theorem th_rt : (k.th b).rt = k.rt := rfl
theorem th_bk : (k.th b).bk = k.bk := rfl
theorem th_ct : (k.th b).ct = k.ct := rfl
theorem th_ex : (k.th b).ex = k.ex := rfl
theorem eO {m : aA → M α} {f : α → SX} : wps (bW m f) τ L k = wp (m τ) L (k.ex τ) (fun x L1 => wps (f x) τ L1 k) := by
 unfold wps wp bW
 cases e : m τ L with
 | none => rfl
 | some r =>
  obtain ⟨r, L1⟩ := r
  cases r <;> rfl
theorem wps_nx : wps cA τ L k = k.nx τ L := rfl
theorem wps_bk : wps V8 τ L k = k.bk τ L := rfl
theorem wps_ct : wps V9 τ L k = k.ct τ L := rfl
theorem wps_retN : wps Wd τ L k = k.rt (.v .non) L := rfl
theorem wps_kill {is : List Nat} : wps (bD is a) τ L k = wps a (cJ is τ) L k := rfl
theorem wps_set {i : Nat} {f : aA → M D} : wps (bM i f) τ L k = wp (f τ) L (k.ex τ) (fun d L1 => k.nx (τ.set i (some d)) L1) := eO
theorem Za {f : aA → M D} : wps (gR f) τ L k = wp (f τ) L (k.ex τ) (fun _ L1 => k.nx τ L1) := eO
theorem wps_ret {f : aA → M D} : wps (retS f) τ L k = wp (f τ) L (k.ex τ) (fun d L1 => k.rt d L1) := eO
theorem wps_if {t : aA → M Bool} : wps (cC t a b) τ L k = wp (t τ) L (k.ex τ) (fun c L1 => wps (if c = true then a else b) τ L1 k) := eO
theorem wps_ift : wps (if (true : Bool) = true then a else b) τ L k = wps a τ L k := rfl
theorem wps_iff : wps (if (false : Bool) = true then a else b) τ L k = wps b τ L k := rfl
theorem wps_satt {i : Nat} {fo fv : aA → M D} : wps (wR i fo fv) τ L k = wp (fv τ) L (k.ex τ) (fun d L1 => wp (fo τ) L1 (k.ex τ) (fun x L2 => wp (oV i d x) L2 (k.ex τ) (fun _ L3 => k.nx τ L3))) := by
 unfold wR
 rw [eO, wp_bind]
 simp only [wp_bind]
 rfl
theorem Zb {m : M Unit} : wps (jV m) τ L k = wp m L (k.ex τ) (fun _ L1 => k.nx τ L1) := by
 unfold wps wp jV
 cases e : m L with
 | none => rfl
 | some r =>
  obtain ⟨r, L1⟩ := r
  cases r <;> rfl
theorem wps_setI {fo fi fv : aA → M D} : wps (nJ fo fi fv) τ L k = wp (fv τ) L (k.ex τ) (fun v L1 => wp (fo τ) L1 (k.ex τ) (fun x L2 => wp (fi τ) L2 (k.ex τ) (fun y L3 => wp (qD x y v) L3 (k.ex τ) (fun _ L4 => k.nx τ L4)))) := by
 unfold nJ
 rw [eO]
 simp only [eO, Zb]
theorem Zd {s : SX} (h : wps s τ L { k with
  nx := fun τ1 L1 => ∃ Lb X τ', L1 = Lb ++ X ∧ Lb.length = L.length ∧ aW L Lb ∧ mD L.length τ1 = τ' ∧ k.nx τ' Lb
  ct := fun τ1 L1 => ∃ Lb X τ', L1 = Lb ++ X ∧ Lb.length = L.length ∧ aW L Lb ∧ mD L.length τ1 = τ' ∧ k.ct τ' Lb }) : wps (nM s) τ L k := by
 unfold wps nM at *
 cases e : s τ L with
 | none => rw [e] at h; exact h
 | some r =>
  obtain ⟨r, L1⟩ := r
  rw [e] at h
  cases r with
  | rt => exact h
  | bk => exact h
  | ex => exact h
  | nx τ1 =>
   obtain ⟨Lb, X, τ', h1, h2, h3, rfl, h5⟩ := h
   subst h1
   dsimp only
   rw [if_pos (lZ X h3), ← h2, List.take_left']
   ·rw [h2]; exact h5
   ·rfl
  | ct τ1 =>
   obtain ⟨Lb, X, τ', h1, h2, h3, rfl, h5⟩ := h
   subst h1
   dsimp only
   rw [if_pos (lZ X h3), ← h2, List.take_left']
   ·rw [h2]; exact h5
   ·rfl
theorem Bm {s : SX} (h : wps s τ L { k with
  nx := fun τ1 L1 => ∃ Lb X, L1 = Lb ++ X ∧ Lb.length = L.length ∧ aW L Lb ∧ jE L.length τ1 ∧ k.nx τ1 Lb
  ct := fun τ1 L1 => ∃ Lb X, L1 = Lb ++ X ∧ Lb.length = L.length ∧ aW L Lb ∧ jE L.length τ1 ∧ k.ct τ1 Lb }) : wps (nM s) τ L k :=
 Zd (Y9 h (fun τ1 L1 ⟨Lb, X, h1, h2, h3, h4, h5⟩ => ⟨Lb, X, τ1, h1, h2, h3, Oe h4, h5⟩) (fun _ _ h => h) (fun _ _ h => h) (fun τ1 L1 ⟨Lb, X, h1, h2, h3, h4, h5⟩ => ⟨Lb, X, τ1, h1, h2, h3, Oe h4, h5⟩) (fun _ _ _ _ h => h))
theorem Bo {ok : List MO → Prop} {tg : dF} {body : SX} (J : Nat → aA → List MO → Prop) : ∀ (xs : List P) (i0 : Nat) {τ : aA} {L : List MO}, J i0 τ L → (∀ i τ L, J i τ L → ok L) →
  (∀ (i : Nat) (p : P) (τ : aA) (L : List MO), xs[i]? = some p → J (i0 + i) τ L → ∃ τ1, tg p τ = some τ1 ∧ wps body τ1 L { k with nx := J (i0 + i + 1), ct := J (i0 + i + 1), bk := k.nx }) →
  (∀ τ L, J (i0 + xs.length) τ L → k.nx τ L) → wps (jQ ok tg body xs) τ L k
 | [], i0, τ, L, h0, hok, _, he => by
  unfold wps jQ
  rw [if_pos (hok _ _ _ h0)]
  exact he _ _ h0
 | p :: ps, i0, τ, L, h0, hok, hs, he => by
  obtain ⟨τ1, e1, h⟩ := hs 0 p τ L rfl h0
  have ih := fun (τ2 : aA) (L2 : List MO) (h2 : J (i0 + 1) τ2 L2) => Bo (ok := ok) (tg := tg) (body := body) J ps (i0 + 1) h2 hok (fun i q τ L e hj => by
   have := hs (i + 1) q τ L e (by rw [show i0 + (i + 1) = i0 + 1 + i by omega]; exact hj)
   rw [show i0 + (i + 1) = i0 + 1 + i by omega] at this
   exact this) (fun τ L hj => he τ L (by rw [List.length_cons, show i0 + (ps.length + 1) = i0 + 1 + ps.length by omega]; exact hj))
  unfold wps jQ
  rw [if_pos (hok _ _ _ h0), e1]
  dsimp only
  unfold wps at h ih
  cases e : body τ1 L with
  | none => rw [e] at h; exact h
  | some r =>
   obtain ⟨r, L2⟩ := r
   rw [e] at h
   cases r with
   | nx τ2 => exact ih τ2 L2 h
   | ct τ2 => exact ih τ2 L2 h
   | bk τ2 => exact h
   | rt d => exact h
   | ex τ2 c fs => exact h
theorem wps_for {src : aA → M Itm} {tg : dF} {body : SX} : wps (rM src tg body) τ L k = wp (src τ) L (k.ex τ) (fun it L1 => wps (jQ it.2 tg body it.1) τ L1 k) := eO
def oX (keep : Bool) (L : List MO) (Q : D → List MO → Prop) (d : D) (L1 : List MO) : Prop := match d with
 | .v p => ∃ Lb X, L1 = Lb ++ X ∧ Lb.length = L.length ∧ aW L Lb ∧ Q (.v p) Lb
 | .r n => ∃ Lb X, L1 = Lb ++ X ∧ Lb.length = L.length ∧ aW L Lb ∧ (if n < L.length then Q (.r n) Lb else ∃ xs, X[n - L.length]? = some (.lst xs) ∧ (if keep = true then Q (.r L.length) (Lb ++ [.lst xs]) else Q (.v (.lst xs)) Lb))
theorem cQ {keep : Bool} {N : Nat} {s : SX} {ds : List D} {Q : D → List MO → Prop} (h : wps s (ds.map some ++ List.replicate (N - ds.length) none) L ⟨fun _ L1 => oX keep L Q (.v .non) L1, oX keep L Q, fun _ _ => False, fun _ _ => False, fun _ c fs L1 => ∃ Lb X, L1 = Lb ++ X ∧ Lb.length = L.length ∧ aW L Lb ∧ E c fs Lb⟩) :
  wp (bO keep (bV N s) ds) L E Q := by
 unfold wps at h
 have tk : ∀ {Lb X : List MO}, Lb.length = L.length → (Lb ++ X).take L.length = Lb := fun {Lb X} e => by rw [← e, List.take_left']; rfl
 have val : ∀ {p : P} {L1 : List MO}, bV N s ds L = some (.ok (.v p), L1) → oX keep L Q (.v p) L1 → wp (bO keep (bV N s) ds) L E Q := fun {p L1} e h => by
  obtain ⟨Lb, X, h1, h2, h3, h4⟩ := h
  subst h1
  rw [bG (Oa e (lZ X h3)), tk h2]
  exact h4
 cases e : s (ds.map some ++ List.replicate (N - ds.length) none) L with
 | none => rw [e] at h; exact h.elim
 | some r =>
  obtain ⟨r, L1⟩ := r
  rw [e] at h
  cases r with
  | nx τ1 => exact val (Y6 e) h
  | bk => exact h.elim
  | ct => exact h.elim
  | ex τ1 c fs =>
   obtain ⟨Lb, X, h1, h2, h3, h4⟩ := h
   subst h1
   have eb := Y7 e
   unfold wp bO
   rw [eb]
   dsimp only
   rw [if_pos (lZ X h3), tk h2]
   exact h4
  | rt d =>
   cases d with
   | v p => exact val (xJ e) h
   | r n =>
    obtain ⟨Lb, X, h1, h2, h3, h4⟩ := h
    subst h1
    have eb := xJ e
    unfold wp bO
    rw [eb]
    dsimp only
    rw [if_pos (lZ X h3), tk h2]
    by_cases hn : n < L.length
    ·rw [if_pos hn] at h4 ⊢
     exact h4
    ·rw [if_neg hn] at h4 ⊢
     obtain ⟨xs, h5, h6⟩ := h4
     rw [List.getElem?_append_right (by omega), h2, h5]
     dsimp only
     cases keep with
     | true => rw [if_pos rfl] at h6 ⊢; exact h6
     | false => rw [if_neg Bool.false_ne_true] at h6 ⊢; exact h6
theorem Og {N : Nat} {s : SX} {ds : List D} {Q : D → List MO → Prop} (h : wps s (ds.map some ++ List.replicate (N - ds.length) none) L ⟨fun _ L1 => Q (.v .non) L1, Q, fun _ _ => False, fun _ _ => False, fun _ c fs L1 => E c fs L1⟩) : wp (bV N s ds) L E Q := by
 unfold wps at h
 unfold wp bV
 cases e : s (ds.map some ++ List.replicate (N - ds.length) none) L with
 | none => rw [e] at h; exact h.elim
 | some r =>
  obtain ⟨r, L1⟩ := r
  rw [e] at h
  cases r <;> exact h
theorem Ze {tab : List Nat} {zs : List Clz} {sb : SX} (h : wps sb τ L { k with ex := fun τ1 c fs L1 => c ∈ tab ∧ wps (lV zs c fs) τ1 L1 k }) : wps (Ac tab zs sb) τ L k := by
 unfold wps Ac at *
 cases e : sb τ L with
 | none => rw [e] at h; exact h
 | some r =>
  obtain ⟨r, L1⟩ := r
  rw [e] at h
  cases r with
  | nx => exact h
  | rt => exact h
  | bk => exact h
  | ct => exact h
  | ex τ1 c fs =>
   obtain ⟨h1, h2⟩ := h
   dsimp only
   rw [if_pos h1]
   exact h2
theorem Zf {z : Clz} {zs : List Clz} {c : Nat} {fs : List P} (h : eX c z.c = true) : wps (lV (z :: zs) c fs) τ L k = wps (gJ z 0 0 c fs) τ L k := by
 unfold wps lV
 rw [if_pos h]
theorem Zg {z : Clz} {c i : Nat} {fs : List P} (hi : z.i = some i) (h : wps (z.su 0 0 c) (τ.set i (some (.v (.exn c (.int 0 :: .int 0 :: fs))))) L ⟨fun τ1 L1 => k.nx (τ1.set i none) L1, k.rt, fun τ1 L1 => k.bk (τ1.set i none) L1, fun τ1 L1 => k.ct (τ1.set i none) L1, fun _ _ _ _ => False⟩) : wps (gJ z 0 0 c fs) τ L k := by
 unfold wps gJ at *
 rw [hi]
 dsimp only
 have e0 : ((0 : Nat) : Int) = 0 := rfl
 cases e : z.su 0 0 c (τ.set i (some (.v (.exn c (.int 0 :: .int 0 :: fs))))) L with
 | none => rw [e] at h; exact h
 | some r =>
  obtain ⟨r, L1⟩ := r
  rw [e] at h
  unfold wU
  cases r <;> first | exact h | exact h.elim
end
end DN
end
section
namespace DN
open PySem PySem.Spec PyProof.Rows L2 He NdefX
section
variable {X : Cx} {g : G} {W : WX} {a b c e o : Expr} {fa fb fc f : aA → M D} {ta tb : aA → M Bool} {pos p apos : Pos} {es : List Expr} {fs : aA → M (List D)} {k n : Nat} {fn : List D → M D} {s1 : SX}
def yF : D → M Bool := fun d L => match d with
 | .v (.bl t) => some (.ok t, L)
 | .v .non => some (.ok false, L)
 | d => (fQ L d).map fun xs => (.ok (!xs.isEmpty), L)
def Zh (f : aA → M D) (τ : aA) : M Bool := f τ >>= yF
def Bp (acc : Str) (k : Str → M D) : D → M D := fun d L => match d with
 | .v (.str y) => if (acc ++ y).length ≤ sizeLine then k (acc ++ y) L else none
 | _ => none
def Bq : List (aA → M D) → Str → aA → M D
 | [], acc, _ => pure (.v (.str acc))
 | f :: fs, acc, τ => f τ >>= Bp acc fun y => Bq fs y τ
def Zi : List D → M D := fun ds L => match ds with
 | [.v (.int i), .v (.int j)] => some (.ok (.v (.int (if j > i then j else i))), L)
 | _ => none
def atC {α : Type} (c : Nat) (x : D) (m : M α) : M α := fun L => if clsOf L x = some c then m L else none
def Oh (c n : Nat) (z : Int) (fn : List D → M D) (f : aA → M D) (fs : aA → M (List D)) (τ : aA) : M D := do
 let x ← f τ
 atC c x do
  let ds ← fs τ
  bF (n + 1) fn (x :: (ds ++ [.v (.int z)]))
def Oi (c n : Nat) (fn : List D → M D) (f : aA → M D) (fs fk : aA → M (List D)) (τ : aA) : M D := do
 let x ← f τ
 atC c x do
  let ds ← fs τ
  let ks ← fk τ
  if (x :: ds).length = n ∧ ks.length = 1 then fn (x :: (ds ++ ks)) else M.stuck
end
end DN
end
section
namespace DN
open PySem
open L2 (ixN atI)
section
variable {α β : Type} {L : List MO} {E : EX} {τ : aA} {k : KK} {a b : SX} {fa fb fc f : aA → M D} {ta tb : aA → M Bool} {fs fk : aA → M (List D)} {Q : D → List MO → Prop} {QB : Bool → List MO → Prop} {QA : List D → List MO → Prop}
def Gf : Option (Option D) → (D → Prop) → Prop
 | some (some d), q => q d
 | _, _ => False
theorem varW_some {d : D} {q : D → Prop} : Gf (some (some d)) q = q d := rfl
theorem wp_var {i : Nat} : wp (aC i τ) L E Q = Gf τ[i]? fun d => Q d L := by
 unfold wp aC Gf
 match τ[i]? with
 | none => rfl
 | some none => rfl
 | some (some d) => rfl
theorem wp_retD {d : D} : wp (aG d τ) L E Q = Q d L := rfl
theorem wp_bin {op : D → D → M D} : wp (DN.bin op fa fb τ) L E Q = wp (fa τ) L E fun x L1 => wp (fb τ) L1 E fun y L2 => wp (op x y) L2 E Q := by
 unfold DN.bin
 rw [wp_bind]
 simp only [wp_bind]
theorem wp_un {op : D → M D} : wp (un op f τ) L E Q = wp (f τ) L E fun x L1 => wp (op x) L1 E Q := wp_bind
theorem wp_app {op : List D → M D} : wp (aO op fs τ) L E Q = wp (fs τ) L E fun x L1 => wp (op x) L1 E Q := wp_bind
theorem wp_cons : wp (aF f fs τ) L E QA = wp (f τ) L E fun d L1 => wp (fs τ) L1 E fun ds L2 => QA (d :: ds) L2 := by
 unfold aF
 rw [wp_bind]
 simp only [wp_bind, wp_pure]
theorem wp_nil : wp (aM τ) L E QA = QA [] L := rfl
theorem wp_tstD : wp (bB f τ) L E QB = wp (f τ) L E fun d L1 => wp (gM d) L1 E QB := wp_bind
theorem wp_asB {t : Bool} : wp (gM (.v (.bl t))) L E QB = QB t L := rfl
theorem wp_tstT : wp (Zh f τ) L E QB = wp (f τ) L E fun d L1 => wp (yF d) L1 E QB := wp_bind
theorem wp_truB_bl {t : Bool} : wp (yF (.v (.bl t))) L E QB = QB t L := rfl
theorem wp_truB_tup {xs : List P} : wp (yF (.v (.tup xs))) L E QB = QB (!xs.isEmpty) L := rfl
theorem wp_truB_lst {xs : List P} : wp (yF (.v (.lst xs))) L E QB = QB (!xs.isEmpty) L := rfl
theorem wp_andB : wp (jN ta tb τ) L E QB = wp (ta τ) L E fun t L1 => if t = true then wp (tb τ) L1 E QB else QB false L1 := by
 unfold jN
 rw [wp_bind]
 congr 1
 funext t L1
 cases t <;> rfl
theorem wp_orB : wp (iT ta tb τ) L E QB = wp (ta τ) L E fun t L1 => if t = true then QB true L1 else wp (tb τ) L1 E QB := by
 unfold iT
 rw [wp_bind]
 congr 1
 funext t L1
 cases t <;> rfl
theorem wp_notB : wp (gQ ta τ) L E QB = wp (ta τ) L E fun t L1 => QB (!t) L1 := by
 unfold gQ
 rw [wp_bind]
 rfl
theorem wp_valB : wp (oM ta τ) L E Q = wp (ta τ) L E fun t L1 => Q (.v (.bl t)) L1 := by
 unfold oM
 rw [wp_bind]
 rfl
theorem wp_andV : wp (mZ ta fb τ) L E Q = wp (ta τ) L E fun t L1 => if t = true then wp (fb τ) L1 E Q else Q (.v (.bl false)) L1 := by
 unfold mZ
 rw [wp_bind]
 congr 1
 funext t L1
 cases t <;> rfl
theorem wp_orV : wp (lN ta fb τ) L E Q = wp (ta τ) L E fun t L1 => if t = true then Q (.v (.bl true)) L1 else wp (fb τ) L1 E Q := by
 unfold lN
 rw [wp_bind]
 congr 1
 funext t L1
 cases t <;> rfl
theorem wp_notV : wp (tY ta τ) L E Q = wp (ta τ) L E fun t L1 => Q (.v (.bl (!t))) L1 := by
 unfold tY
 rw [wp_bind]
 rfl
theorem wp_ifE : wp (Lp ta fa fb τ) L E Q = wp (ta τ) L E fun t L1 => if t = true then wp (fa τ) L1 E Q else wp (fb τ) L1 E Q := by
 unfold Lp
 rw [wp_bind]
 congr 1
 funext t L1
 cases t <;> rfl
theorem wp_noP {QO : Option Int → List MO → Prop} : wp (nA τ) L E QO = QO none L := rfl
theorem wp_part {QO : Option Int → List MO → Prop} : wp (part f τ) L E QO = wp (f τ) L E fun d L1 => wp (Eo d) L1 E QO := wp_bind
theorem wp_asJ {QO : Option Int → List MO → Prop} {i : Int} : wp (Eo (.v (.int i))) L E QO = QO (some i) L := rfl
theorem wp_slice {fl fh : aA → M (Option Int)} : wp (slice fa fl fh τ) L E Q = wp (fa τ) L E fun x L1 => wp (fl τ) L1 E fun lo L2 => wp (fh τ) L2 E fun hi L3 => wp (tZ x lo hi) L3 E Q := by
 unfold slice
 rw [wp_bind]
 simp only [wp_bind]
theorem wp_seqI {QI : Itm → List MO → Prop} : wp (wN f τ) L E QI = wp (f τ) L E fun d L1 => wp (fU d) L1 E QI := wp_bind
theorem wp_argI {op : List D → M Itm} {QI : Itm → List MO → Prop} : wp (uE op fs τ) L E QI = wp (fs τ) L E fun d L1 => wp (op d) L1 E QI := wp_bind
theorem wp_itm_tup {xs : List P} {QI : Itm → List MO → Prop} : wp (fU (.v (.tup xs))) L E QI = QI (xs, fun _ => True) L := rfl
theorem wp_itm_lst {xs : List P} {QI : Itm → List MO → Prop} : wp (fU (.v (.lst xs))) L E QI = QI (xs, fun _ => True) L := rfl
theorem Gg {n : Nat} {QI : Itm → List MO → Prop} (h : n < 2 ^ 62 := by decide) : wp (oR [.v (.int n)]) L E QI = QI ((List.range n).map fun i : Nat => P.int (0 + i), fun _ => True) L := by
 refine bG ?_
 have : -(2 ^ 62) ≤ (n : Int) ∧ (n : Int) < 2 ^ 62 := by omega
 simp only [oR, if_pos this, Int.toNat_natCast]
theorem jF {m : M α} {x : α} {L1 : List MO} {c : Prop} [Decidable c] {Q : α → List MO → Prop} (e : m L = if c then some (.ok x, L1) else none) : wp m L E Q = (c ∧ Q x L1) := by
 unfold wp
 rw [e]
 by_cases h : c
 ·rw [if_pos h]; exact propext ⟨fun q => ⟨h, q⟩, fun q => q.2⟩
 ·rw [if_neg h]; exact propext ⟨fun q => q.elim, fun q => absurd q.1 h⟩
theorem rQ {ds : List D} : wp (newD ds) L E Q = match aV ds with
  | some ps => ps.length ≤ sizeLine ∧ Q (.r L.length) (L ++ [.lst ps])
  | none => False := by
 unfold wp newD
 match aV ds with
 | none => rfl
 | some ps =>
  dsimp only
  by_cases h : ps.length ≤ sizeLine
  ·rw [if_pos h]; simp [h]
  ·rw [if_neg h]; simp [h]
theorem wp_tup0 : wp (cV []) L E Q = Q (.v (.tup [])) L := bG (xK L)
theorem wp_tup1 {a : P} : wp (cV [.v a]) L E Q = Q (.v (.tup [a])) L := bG (xM a L)
theorem wp_tup2 {a b : P} : wp (cV [.v a, .v b]) L E Q = Q (.v (.tup [a, b])) L := bG (xO a b L)
theorem wp_tup3 {a b c : P} : wp (cV [.v a, .v b, .v c]) L E Q = Q (.v (.tup [a, b, c])) L := bG (xP a b c L)
theorem wp_tup4 {a b c d : P} : wp (cV [.v a, .v b, .v c, .v d]) L E Q = Q (.v (.tup [a, b, c, d])) L := bG (xQ a b c d L)
theorem wp_lst0 : wp (bL []) L E Q = Q (.v (.lst [])) L := bG (xR L)
theorem wp_lst1 {a : P} : wp (bL [.v a]) L E Q = Q (.v (.lst [a])) L := bG (xT a L)
theorem wp_lst2 {a b : P} : wp (bL [.v a, .v b]) L E Q = Q (.v (.lst [a, b])) L := bG (xU a b L)
theorem wp_lst3 {a b c : P} : wp (bL [.v a, .v b, .v c]) L E Q = Q (.v (.lst [a, b, c])) L := bG (xV a b c L)
theorem wp_lst4 {a b c d : P} : wp (bL [.v a, .v b, .v c, .v d]) L E Q = Q (.v (.lst [a, b, c, d])) L := bG (xW a b c d L)
theorem wp_lst5 {a b c d e : P} : wp (bL [.v a, .v b, .v c, .v d, .v e]) L E Q = Q (.v (.lst [a, b, c, d, e])) L := bG (xX a b c d e L)
theorem wp_lst6 {a b c d e f : P} : wp (bL [.v a, .v b, .v c, .v d, .v e, .v f]) L E Q = Q (.v (.lst [a, b, c, d, e, f])) L := bG (xY a b c d e f L)
theorem wp_lst7 {a b c d e f g : P} : wp (bL [.v a, .v b, .v c, .v d, .v e, .v f, .v g]) L E Q = Q (.v (.lst [a, b, c, d, e, f, g])) L := bG (xZ a b c d e f g L)
theorem wp_lst8 {a b c d e f g h : P} : wp (bL [.v a, .v b, .v c, .v d, .v e, .v f, .v g, .v h]) L E Q = Q (.v (.lst [a, b, c, d, e, f, g, h])) L := bG (yC a b c d e f g h L)
theorem wp_new0 : wp (newD []) L E Q = Q (.r L.length) (L ++ [.lst []]) := bG (yD L)
theorem wp_arN1 {fn : List D → M D} {a : D} : wp (bF 1 fn [a]) L E Q = wp (fn [a]) L E Q := rfl
theorem wp_arN2 {fn : List D → M D} {a b : D} : wp (bF 2 fn [a, b]) L E Q = wp (fn [a, b]) L E Q := rfl
theorem wp_arN3 {fn : List D → M D} {a b c : D} : wp (bF 3 fn [a, b, c]) L E Q = wp (fn [a, b, c]) L E Q := rfl
theorem wp_arN4 {fn : List D → M D} {a b c d : D} : wp (bF 4 fn [a, b, c, d]) L E Q = wp (fn [a, b, c, d]) L E Q := rfl
theorem wp_arN5 {fn : List D → M D} {a b c d e : D} : wp (bF 5 fn [a, b, c, d, e]) L E Q = wp (fn [a, b, c, d, e]) L E Q := rfl
theorem wp_arN6 {fn : List D → M D} {a b c d e e2 : D} : wp (bF 6 fn [a, b, c, d, e, e2]) L E Q = wp (fn [a, b, c, d, e, e2]) L E Q := rfl
theorem wp_arN7 {fn : List D → M D} {a b c d e e2 e3 : D} : wp (bF 7 fn [a, b, c, d, e, e2, e3]) L E Q = wp (fn [a, b, c, d, e, e2, e3]) L E Q := rfl
theorem wp_addI {x y : Int} : wp (bY (.v (.int x)) (.v (.int y))) L E Q = Q (.v (.int (x + y))) L := rfl
theorem Br {x y : Str} : wp (bY (.v (.str x)) (.v (.str y))) L E Q = (x.length + y.length ≤ sizeLine ∧ Q (.v (.str (x ++ y))) L) := by
 exact jF rfl
theorem Gh {x y : List P} : wp (bY (.v (.lst x)) (.v (.lst y))) L E Q = (x.length + y.length ≤ sizeLine ∧ Q (.v (.lst (x ++ y))) L) := by
 exact jF rfl
theorem wp_subI {x y : Int} : wp (pN (.v (.int x)) (.v (.int y))) L E Q = Q (.v (.int (x - y))) L := rfl
theorem Oj {C : Int → Int → Bool} {f : Int → Int → Int} {x y : Int} : wp (intOp C f (.v (.int x)) (.v (.int y))) L E Q = (C x y = true ∧ Q (.v (.int (f x y))) L) := by
 exact jF rfl
theorem Gi {x y : Int} : wp (gD (.v (.int x)) (.v (.int y))) L E Q = (iK x y = true ∧ Q (.v (.int (x * y))) L) := Oj
theorem Bs {x y : Int} : wp (fB (.v (.int x)) (.v (.int y))) L E Q = (0 < y ∧ Q (.v (.int (x % y))) L) := by
 unfold fB
 rw [Oj, decide_eq_true_eq]
theorem wp_negI {x : Int} : wp (xH (.v (.int x))) L E Q = Q (.v (.int (-x))) L := rfl
theorem wp_int {x : Int} : wp (intD [.v (.int x)]) L E Q = Q (.v (.int x)) L := rfl
theorem wp_max2 {x y : Int} : wp (Zi [.v (.int x), .v (.int y)]) L E Q = Q (.v (.int (if y > x then y else x))) L := rfl
theorem wp_ord {f : Int → Int → Bool} {x y : Int} : wp (dY f (.v (.int x)) (.v (.int y))) L E Q = Q (.v (.bl (f x y))) L := rfl
theorem wp_ltI {x y : Int} : wp (iQ (.v (.int x)) (.v (.int y))) L E Q = Q (.v (.bl (decide (x < y)))) L := rfl
theorem wp_chn {o1 o2 : D → D → M D} : wp (lO o1 o2 fa fb fc τ) L E Q = wp (fa τ) L E fun x L1 => wp (fb τ) L1 E fun y L2 => wp (o1 x y) L2 E fun z L3 => wp (gM z) L3 E fun t L4 => if t = true then wp (fc τ) L4 E fun u L5 => wp (o2 y u) L5 E Q else Q (.v (.bl false)) L4 := by
 unfold lO
 simp only [wp_bind]
 congr 1
 funext x L1
 congr 1
 funext y L2
 congr 1
 funext z L3
 congr 1
 funext t L4
 cases t <;> first | rfl | (simp only [wp_bind, if_true]; rfl) | simp [wp_bind, wp_pure]
theorem wp_eqI {neg : Bool} {x y : Int} : wp (bK neg (.v (.int x)) (.v (.int y))) L E Q = Q (.v (.bl (if neg = true then !decide (x = y) else decide (x = y)))) L := by
 have h1 : fP (.int x) = true := rfl
 have h2 : fP (.int y) = true := rfl
 refine bG ?_
 cases neg <;> simp [bK, cZ, toD, h1, h2, PyData.eqv] <;> (by_cases h : x = y <;> simp [h])
theorem wp_len_lst {xs : List P} : wp (jP [.v (.lst xs)]) L E Q = Q (.v (.int xs.length)) L := rfl
theorem wp_len_tup {xs : List P} : wp (jP [.v (.tup xs)]) L E Q = Q (.v (.int xs.length)) L := rfl
theorem Gj {x : Str} : wp (jP [.v (.str x)]) L E Q = (x.length ≤ sizeLine ∧ Q (.v (.int x.length)) L) := by
 exact jF rfl
theorem Bt {xs : List P} {i : Nat} {p : P} (h : xs[i]? = some p) : wp (bR (.v (.tup xs)) (.v (.int i))) L E Q = Q (.v p) L := by
 have hl : i < xs.length := (List.getElem?_eq_some_iff.mp h).1
 have hn : ixN xs.length (i : Int) = some i := by
  unfold ixN
  rw [if_pos (by omega), if_pos (by omega)]
  rfl
 refine bG ?_
 simp [bR, iG, oN, atI, hn, h]
theorem nQ {xs : List P} {i : Nat} {p : P} (h : xs[i]? = some p) : wp (bR (.v (.lst xs)) (.v (.int i))) L E Q = Q (.v p) L := by
 have hl : i < xs.length := (List.getElem?_eq_some_iff.mp h).1
 have hn : ixN xs.length (i : Int) = some i := by
  unfold ixN
  rw [if_pos (by omega), if_pos (by omega)]
  rfl
 refine bG ?_
 simp [bR, iG, oN, cR, cI, atI, hn, h]
theorem wp_ixT0 {p : P} {xs : List P} : wp (bR (.v (.tup (p :: xs))) (.v (.int 0))) L E Q = Q (.v p) L := Bt (i := 0) rfl
theorem wp_ixT1 {p q : P} {xs : List P} : wp (bR (.v (.tup (p :: q :: xs))) (.v (.int 1))) L E Q = Q (.v q) L := Bt (i := 1) rfl
theorem wp_ixT2 {p q r : P} {xs : List P} : wp (bR (.v (.tup (p :: q :: r :: xs))) (.v (.int 2))) L E Q = Q (.v r) L := Bt (i := 2) rfl
theorem wp_ixT3 {p q r s : P} {xs : List P} : wp (bR (.v (.tup (p :: q :: r :: s :: xs))) (.v (.int 3))) L E Q = Q (.v s) L := Bt (i := 3) rfl
theorem Gk {n : Nat} {xs : List P} {p : P} (h : L[n]? = some (.lst xs)) (hz : xs.length < sizeLine) : wp (jC (.r n) [.v p]) L E Q = Q (.v .non) (L.set n (.lst (xs ++ [p]))) := by
 refine bG ?_
 simp [jC, iU, h, hz, asP]
theorem wp_mth {ty : List MO → D → Bool} {op : D → List D → M D} : wp (gU ty op f fs τ) L E Q = wp (f τ) L E fun x L1 => if ty L1 x = true then wp (fs τ) L1 E fun ds L2 => wp (op x ds) L2 E Q else False := by
 unfold gU
 rw [wp_bind]
 congr 1
 funext x L1
 by_cases h : ty L1 x = true
 ·unfold wp
  simp only [h, if_true, bind, M.bnd]
  cases e : fs τ L1 with
  | none => rfl
  | some r =>
   obtain ⟨r, L2⟩ := r
   cases r <;> rfl
 ·unfold wp
  simp only [h, bind, M.bnd, if_false]
  rfl
def tabM (tab : Nat → Option (List D → M D)) (x : D) : M (List D → M D) := fun L => match (clsOf L x).bind tab with
 | some fn => some (.ok fn, L)
 | none => none
theorem wp_meth {n : Nat} {tab : Nat → Option (List D → M D)} : wp (lU n tab f fs τ) L E Q = wp (f τ) L E fun x L1 => match (clsOf L1 x).bind tab with
  | some fn => wp (fs τ) L1 E fun ds L2 => wp (bF n fn (x :: ds)) L2 E Q
  | none => False := by
 show wp (M.bnd (f τ) fun x => M.bnd (tabM tab x) fun fn => M.bnd (fs τ) fun ds => bF n fn (x :: ds)) L E Q = _
 rw [yE]
 congr 1
 funext x L1
 rw [yE]
 match e : (clsOf L1 x).bind tab with
 | none =>
  unfold wp tabM
  simp only [e]
 | some fn =>
  rw [bG (m := tabM tab x) (L := L1) (x := fn) (L1 := L1) (by simp only [tabM, e]), yE]
theorem wp_methZ {c n : Nat} {z : Int} {fn : List D → M D} : wp (Oh c n z fn f fs τ) L E Q = wp (f τ) L E fun x L1 => if clsOf L1 x = some c then wp (fs τ) L1 E fun ds L2 => wp (bF (n + 1) fn (x :: (ds ++ [.v (.int z)]))) L2 E Q else False := by
 unfold Oh
 rw [wp_bind]
 congr 1
 funext x L1
 by_cases h : clsOf L1 x = some c
 ·have : ∀ {α : Type} {m : M α} {Q : α → List MO → Prop}, wp (atC c x m) L1 E Q = wp m L1 E Q := by
   intro α m Q
   unfold wp atC
   rw [if_pos h]
  rw [this, wp_bind, if_pos h]
 ·rw [if_neg h]
  unfold wp atC
  rw [if_neg h]
theorem wp_methK {c n : Nat} {fn : List D → M D} : wp (Oi c n fn f fs fk τ) L E Q = wp (f τ) L E fun x L1 => if clsOf L1 x = some c then wp (fs τ) L1 E fun ds L2 => wp (fk τ) L2 E fun ks L3 => if (x :: ds).length = n ∧ ks.length = 1 then wp (fn (x :: (ds ++ ks))) L3 E Q else False else False := by
 unfold Oi
 rw [wp_bind]
 congr 1
 funext x L1
 by_cases h : clsOf L1 x = some c
 ·have : ∀ {α : Type} {m : M α} {Q : α → List MO → Prop}, wp (atC c x m) L1 E Q = wp m L1 E Q := by
   intro α m Q
   unfold wp atC
   rw [if_pos h]
  rw [this, wp_bind, if_pos h]
  congr 1
  funext ds L2
  rw [wp_bind]
  congr 1
  funext ks L3
  by_cases hz : (x :: ds).length = n ∧ ks.length = 1
  ·rw [if_pos hz, if_pos hz]
  ·rw [if_neg hz, if_neg hz]
   rfl
 ·rw [if_neg h]
  unfold wp atC
  rw [if_neg h]
theorem wp_js0 {acc : Str} : wp (Bq [] acc τ) L E Q = Q (.v (.str acc)) L := rfl
theorem wp_js {fl : List (aA → M D)} {acc : Str} : wp (Bq (f :: fl) acc τ) L E Q = wp (f τ) L E fun d L1 => wp (Bp acc (fun y => Bq fl y τ) d) L1 E Q := wp_bind
theorem wp_jsM {acc y : Str} {k : Str → M D} : wp (Bp acc k (.v (.str y))) L E Q = ((acc ++ y).length ≤ sizeLine ∧ wp (k (acc ++ y)) L E Q) := by
 have e : Bp acc k (.v (.str y)) L = if (acc ++ y).length ≤ sizeLine then k (acc ++ y) L else none := rfl
 unfold wp
 rw [e]
 by_cases h : (acc ++ y).length ≤ sizeLine
 ·rw [if_pos h]; exact propext ⟨fun q => ⟨h, q⟩, fun q => q.2⟩
 ·rw [if_neg h]; exact propext ⟨fun q => q.elim, fun q => absurd q.1 h⟩
theorem Zj {sep : Str} {ys : List P} {zs : List Str} (h : strsOf ys = some zs) (hz : (zs.map (·.length)).sum + zs.length * sep.length ≤ 16777216) : wp (wZ (.v (.str sep)) [.v (.lst ys)]) L E Q = Q (.v (.str (Txt.join sep zs))) L := by
 refine bG ?_
 simp [wZ, fQ, cR, cI, h, hz]
theorem tyS_str {x : Str} : wL L (.v (.str x)) = true := rfl
theorem wp_lc {mu : Bool} {src : aA → M Itm} {vs : List Nat} {tg : dF} {tt : aA → M Bool} {fe : aA → M D} : wp (uH mu src vs tg tt fe τ) L E Q = wp (src τ) L E fun it L1 => wp (oW mu (iD tg tt fe) (cJ vs τ) it) L1 E Q := wp_bind
theorem Zk {tg : dF} {tt : aA → M Bool} {fe : aA → M D} {xs : List P} {ok : List MO → Prop} (F : P → Option P) (hok : ∀ L, ok L) (hz : xs.length ≤ sizeLine)
  (hs : ∀ p ∈ xs, ∀ acc : List P, ∃ τ1, tg p τ = some τ1 ∧ wp (tt τ1) (L ++ [.lst acc]) (fun _ _ _ => False) fun t L1 => L1 = L ++ [.lst acc] ∧ (if t = true then wp (fe τ1) L1 (fun _ _ _ => False) fun d L2 => L2 = L ++ [.lst acc] ∧ ∃ q, d = .v q ∧ F p = some q else F p = none))
  (h : Q (.v (.lst (xs.filterMap F))) L) : wp (oW false (iD tg tt fe) τ (xs, ok)) L E Q := by
 have key := Fy (turn := iD tg tt fe) (τ := τ) (f := F) (L := L) rfl hok xs [] (by simpa using hz) (fun p hp acc => by
  obtain ⟨τ1, e1, w⟩ := hs p hp acc
  obtain ⟨t, L1, e2, e3, w2⟩ := nO w
  subst e3
  unfold iD
  rw [e1]
  dsimp only
  rw [e2]
  cases t with
  | false =>
   rw [if_neg Bool.false_ne_true] at w2
   rw [w2]
  | true =>
   rw [if_pos rfl] at w2
   obtain ⟨d, L2, e4, e5, q, rfl, e6⟩ := nO w2
   subst e5
   dsimp only
   rw [e4]
   dsimp only
   rw [e6])
 have : oW false (iD tg tt fe) τ (xs, ok) L = some (.ok (.v (.lst (xs.filterMap F))), L) := by
  unfold oW
  dsimp only
  rw [key]
  unfold pZ
  dsimp only
  rw [if_neg Bool.false_ne_true, List.getElem?_append_right (Nat.le_refl _), Nat.sub_self]
  dsimp only [List.getElem?_cons_zero, List.nil_append]
  rw [if_pos (lZ _ (aW.refl _)), List.take_left']
  rfl
 rw [bG this]
 exact h
theorem Zm : wp (uI τ) L E QB = QB true L := rfl
end
end DN
namespace DN
open PySem
theorem dZ {keep : Bool} {L : List MO} {Q : D → List MO → Prop} {p : P} (h : Q (.v p) L) : oX keep L Q (.v p) L := ⟨L, [], by simp, rfl, aW.refl _, h⟩
theorem uQ {keep : Bool} {L Lb X : List MO} {Q : D → List MO → Prop} {p : P} (h1 : Lb.length = L.length) (h2 : aW L Lb) (h : Q (.v p) Lb) : oX keep L Q (.v p) (Lb ++ X) := ⟨Lb, X, rfl, h1, h2, h⟩
theorem Zo {keep : Bool} {L Lb : List MO} {Q : D → List MO → Prop} {p : P} (h1 : Lb.length = L.length) (h2 : aW L Lb) (h : Q (.v p) Lb) : oX keep L Q (.v p) Lb := ⟨Lb, [], by simp, h1, h2, h⟩
theorem nR {α : Type} {m : M α} {L L1 : List MO} {a : α} (h : wp m L (fun _ _ _ => False) fun x L' => x = a ∧ L' = L1) : m L = some (.ok a, L1) := by
 obtain ⟨x, L', e, rfl, rfl⟩ := nO h
 exact e
theorem Zq {c : Nat} {fs : aA → M (List D)} {τ : aA} {L : List MO} {k : KK} : wps (uJ c fs) τ L k = wp (fs τ) L (k.ex τ) (fun ds L1 => match aV ds with
  | some ps => ps.length = (aN c).length ∧ k.ex τ c ps.reverse L1
  | none => False) := by
 unfold uJ
 rw [eO]
 congr 1
 funext ds L1
 unfold wps
 match aV ds with
 | none => rfl
 | some ps =>
  dsimp only
  by_cases h : ps.length = (aN c).length
  ·rw [if_pos h]; exact propext ⟨fun q => ⟨h, q⟩, fun q => q.2⟩
  ·rw [if_neg h]; exact propext ⟨fun q => q.elim, fun q => absurd q.1 h⟩
theorem Zr {τ : aA} {L : List MO} {E : EX} {Q : D → List MO → Prop} {c i f : Nat} {fs : List P} {p : P} (h1 : τ[i]? = some (some (.v (.exn c (.int 0 :: .int 0 :: fs))))) (h2 : fget (aN c) fs f = some p) : wp (lW 0 0 i f τ) L E Q = Q (.v p) L := by
 refine bG ?_
 unfold lW
 rw [h1]
 dsimp only
 rw [if_pos ⟨rfl, rfl⟩, h2]
theorem Gm {τ : aA} {L : List MO} {E : EX} {Q : D → List MO → Prop} {c i : Nat} {fs : List P} {b : Bool} (h1 : τ[i]? = some (some (.v (.exn c (.int 0 :: .int 0 :: fs))))) : wp (jT 0 0 i b τ) L E Q = Q (.v (.bl b)) L := by
 refine bG ?_
 unfold jT
 rw [h1]
 dsimp only
 rw [if_pos ⟨rfl, rfl⟩]
end DN
end
section
namespace DN
open PySem PySem.Spec PyProof.Rows L2
end DN
end
section
namespace DN
open PySem PySem.Spec PyProof.Rows L2
def Bu : P → Bool
 | .tup _ => true
 | _ => false
def Bv : P → Bool
 | .str _ => true
 | _ => false
def Ol (acc : List P) (q : P) : Bool := match cO q with
 | some k => decide (acc.length + 1 < 300) && decide (k.depth ≤ 8) && ((Bu q && acc.all Bu) || (Bv q && acc.all Bv))
 | none => false
def Om (acc : List P) (q : P) : List P := if acc.any (fun p => decide (cO p = cO q)) = true then acc else acc ++ [q]
def Zt (n : Nat) : Option (List MO) → Option (Res D × List MO)
 | some L1 => some (.ok (.r n), L1)
 | none => none
end DN
end
section
namespace DN
open PySem PySem.Spec PyProof.Rows L2
end DN
end
section
namespace DN
open PySem PySem.Spec PyProof.Rows L2
def rR (acc : List Str) (x : Str) : List Str := if x ∈ acc then acc else acc ++ [x]
def qJ (xs : List Str) : List Str := xs.foldl rR []
theorem Zu (xs : List Str) (x : Str) : qJ (xs ++ [x]) = rR (qJ xs) x := by unfold qJ; rw [List.foldl_append]; rfl
theorem Zv {xs : List Str} {y : Str} : NestedKey.text y ∈ xs.map NestedKey.text ↔ y ∈ xs := by
 rw [List.mem_map]
 exact ⟨fun ⟨z, hz, e⟩ => by injection e with e; rw [← e]; exact hz, fun h => ⟨y, h, rfl⟩⟩
def uR (w : World) (h : Heap) (S : Addr) (xs : List Str) : Prop := ∃ ms, dI w S ms h ∧ (∀ m ∈ ms, ∃ y tk, m = (Value.str y tk, NestedKey.text y)) ∧ (ms.map (·.2)).Perm ((qJ xs).map NestedKey.text)
section
variable {P : Program} {w : World} {A : Around} {E : Value → Shared → Prop} {s : Shared}
theorem Zw (xs : List Str) : (qJ xs).length ≤ xs.length := by
 have key : ∀ (xs acc : List Str), (xs.foldl rR acc).length ≤ acc.length + xs.length := by
  intro xs
  induction xs with
  | nil => intro acc; simp
  | cons x xs ih =>
   intro acc
   have h1 := ih (rR acc x)
   have h2 : (rR acc x).length ≤ acc.length + 1 := by unfold rR; split <;> simp
   simp only [List.foldl_cons, List.length_cons]
   omega
 have := key xs []
 unfold qJ
 simpa using this
theorem uR.step {S : Addr} {xs : List Str} {x : Str} {tk : Tok} (h : uR w s.heap S xs) (hx : xs.length + 1 < 300) {Q : Bool → Shared → Prop} (hQ : ∀ b h', Heap.SameBut S s.heap h' → uR w h' S (xs ++ [x]) → Q b { s with heap := h' }) :
  wpAny (model P w) A (setAddHashed S (.str x tk) (hashStr w x)) Q E s := by
 obtain ⟨ms, R, hm, pm⟩ := h
 have hl : ms.length ≤ xs.length := by
  have := pm.length_eq
  rw [List.length_map, List.length_map] at this
  rw [this]
  exact Zw xs
 have hin : NestedKey.text x ∈ ms.map (·.2) ↔ x ∈ qJ xs := pm.mem_iff.trans Zv
 refine dI.addS R (fun m hmm => let ⟨y, t, e⟩ := hm m hmm; ⟨y, t, by rw [e]⟩) (by omega) fun b h' ms' sb new c1 c2 _ c4 => hQ b h' sb ⟨ms', new, c4, ?_⟩
 rw [Zu]
 unfold rR
 by_cases c : x ∈ qJ xs
 ·rw [if_pos c, c1 (hin.mpr c)]
  exact pm
 ·rw [if_neg c, List.map_append]
  exact (c2 fun z => c (hin.mp z)).trans ((pm.cons _).trans (List.perm_append_singleton _ _).symm)
theorem uR.at {h h' : Heap} {S : Addr} {xs : List Str} (x : uR w h S xs) (k : ∀ o, h.get? S = some o → h'.get? S = some o) : uR w h' S xs := by
 obtain ⟨ms, R, r⟩ := x
 exact ⟨ms, R.at k, r⟩
end
end DN
end
section
namespace DN
open PySem PySem.Spec PyProof.Rows L2
end DN
end
section
namespace DN
open PySem PySem.Spec PyProof.Rows L2
end DN
end
section
namespace DN
open PySem PySem.Spec PyProof.Rows L2
end DN
end
section
namespace DN
open PySem PySem.Spec PyProof.Rows L2
section
variable {X : Cx} {g : G} {W : WX} {a b : Expr} {fa fb : aA → M D} {pos : Pos}
noncomputable def Oo : D → List D → M D := iU fun n xs ds L => match ds with
 | [.v (.int i)] => @ite _ (0 ≤ i ∧ i < 2 ^ 63) (Classical.propDecidable _) (match xs[i.toNat]? with
   | some p => some (.ok (.v p), L.set n (.lst (xs.eraseIdx i.toNat)))
   | none => none) none
 | _ => none
def Oq : D → List D → M D := iU fun n xs ds L => match ds with
 | [] => some (.ok (.v .non), L.set n (.lst []))
 | _ => none
def Gn (ok : Str → Bool) (op : Str → Str) : D → List D → M D := fun x ds L => match x, ds with
 | .v (.str a), [] => if ok a = true then some (.ok (.v (.str (op a))), L) else none
 | _, _ => none
theorem Zx {ok : Str → Bool} {op : Str → Str} {C : Str → Prop} (h : ∀ a, ok a = true → C a) : pX g (Gn ok op) (fun x xs H Q => ∃ a, x = .str a ∧ xs = [] ∧ C a ∧ Q (.str (op a)) H) := by
 intro F ρ L H x d vs ds W Q hR hx ha hp
 unfold Gn at hp
 split at hp
 ·rename_i a
  have hv := Wi ha
  subst hv
  split at hp
  ·rename_i hz
   exact ⟨a, Is.inv_str hx, rfl, h a hz, hp.val hR (Is.str _)⟩
  ·exact False.elim hp
 ·exact False.elim hp
def Gp : D → List D → M D := Gn (fun a => decide (a.length ≤ 5592405)) Txt.upper
theorem Zy : pX g Gp (fun x xs H Q => ∃ a, x = .str a ∧ xs = [] ∧ a.length ≤ 5592405 ∧ Q (.str (Txt.upper a)) H) := Zx fun _ h => of_decide_eq_true h
def uU : D → D → M D := fun x y L => match x, y with
 | .v (.str a), .v (.int n) => if 1 ≤ n ∧ n ≤ 1000 ∧ a.length ≤ 1000 then some (.ok (.v (.str (Txt.mul a n))), L) else none
 | _, _ => none
def Ot : R2 := fun x y H Q => ∃ a n, x = .str a ∧ y = .int n ∧ MulOk a n ∧ Q (.str (Txt.mul a n)) H
theorem Zz : OpR X (binaryOp .Mult) Ot := by
 intro pins s σ H x y v u Q I rx ry h
 obtain ⟨a, n, rfl, rfl, hz, q⟩ := h
 obtain ⟨t, rfl⟩ := rx
 obtain ⟨t', rfl⟩ := ry
 exact SB.mul hz fun t' tk => ⟨.str (Txt.mul a n), H, I.tok _, ⟨_, rfl⟩, q⟩
theorem mulOk_of {a : Str} {n : Int} (h1 : 1 ≤ n) (h2 : n ≤ 1000) (h3 : a.length ≤ 1000) : MulOk a n := by
 refine ⟨by simp; omega, fun _ _ => ?_, fun _ _ => ?_⟩
 ·have : (2 ^ 63 - 1 : Int) / 1000 ≤ (2 ^ 63 - 1) / n := Int.le_ediv_of_mul_le (by omega) (by
   have : (2 ^ 63 - 1 : Int) / 1000 * n ≤ (2 ^ 63 - 1 : Int) / 1000 * 1000 := Int.mul_le_mul_of_nonneg_left h2 (by decide)
   omega)
  omega
 ·have h4 : a.length * n.toNat ≤ 1000 * 1000 := Nat.mul_le_mul h3 (by omega)
  exact PyProof.Rows.short24 (by omega)
theorem Z0 : cU g uU Ot := by
 intro F ρ L H x y d e W Q hR hx hy hp
 unfold uU at hp
 split at hp
 ·rename_i a n
  split at hp
  ·rename_i hz
   exact ⟨a, n, Is.inv_str hx, Is.inv_int hy, mulOk_of hz.1 hz.2.1 hz.2.2, hp.val hR (.str _)⟩
  ·exact False.elim hp
 ·exact False.elim hp
theorem Ou (ha : PE X a (tE g W fa)) (hb : PE X b (tE g W fb)) : PE X (.BinOp a .Mult b pos) (tE g W (bin uU fa fb)) := rC Zz Z0 ha hb
end
end DN
end
section
namespace DN
open PySem PySem.Spec PyProof.Rows L2 He
section
variable {K : PySem.W.Frag}
theorem conB_ok {w : World} {c : Nat} {f x : Str} (h : conB c f x K = true) : ∃ v u, Con (gOf K w).K ((gOf K w).cl c) f v u ∧ ∀ F, Is (gOf K w) F v (.str x) := by
 unfold conB at h
 split at h
 ·rename_i y t e
  obtain ⟨h1, h⟩ := ba h
  obtain ⟨h2, h3⟩ := ba h
  have h1 := of_decide_eq_true h1
  subst h1
  exact ⟨.str y, .str y t, ⟨e, ⟨t, rfl⟩, eqO_ok h2, by simpa using h3⟩, fun F => Is.str y⟩
 ·cases h
theorem yG {c d : Str} (h : Mk K (ga K c) (ma K (ga K c) "__init__")) (e : dN c d "__init__" K = true) : Mk K (ga K c) (ma K (ga K d) "__init__") := by
 rw [← show ma K (ga K c) "__init__" = ma K (ga K d) "__init__" from of_decide_eq_true e]
 exact h
theorem iH {c d m : Str} (h : Meth K (ga K c) m (ma K (ga K c) m)) (e : dN c d m K = true) : Meth K (ga K c) m (ma K (ga K d) m) := by
 rw [← show ma K (ga K c) m = ma K (ga K d) m from of_decide_eq_true e]
 exact h
end
end DN
end
section
namespace DN
open PySem
open L2 (ixN atI)
def tW (l : List Nat) : Str := ⟨l.toArray⟩
theorem Gq (x : Str) : tW x.cps.toList = x := by unfold tW; simp
theorem jW (l : List Nat) : (tW l).cps.toList = l := by unfold tW; simp
theorem dG (l : List Nat) : (tW l).length = l.length := by unfold tW; simp [Str.length]
theorem Z4 {a b : List Nat} (h : tW a = tW b) : a = b := by rw [← jW a, h, jW]
theorem rW (a b : List Nat) : tW a ++ tW b = tW (a ++ b) := by
 have e : (tW a ++ tW b).cps.toList = (tW a).cps.toList ++ (tW b).cps.toList := TL.tl_append _ _
 rw [jW, jW] at e
 rw [← Gq (tW a ++ tW b), e]
theorem uV {l : List Nat} {k : Int} (h : 0 ≤ k) : L2.cutS (tW l) none (some k) = tW (l.take k.toNat) := by
 unfold L2.cutS
 have e : HT.sIx (tW l).length (tW l).length (some k) = min k.toNat l.length := by
  rw [dG]
  show (if k < 0 then (k + (l.length : Int)).toNat else min k.toNat l.length) = _
  rw [if_neg (by omega)]
 rw [e, HT.sIx_none, jW, List.drop_zero, Nat.sub_zero]
 unfold tW
 refine congrArg (fun z : List Nat => (⟨z.toArray⟩ : Str)) (List.take_eq_take_iff.mpr ?_)
 omega
theorem Z5 {l : List Nat} {k : Int} (h : 0 ≤ k) : L2.cutS (tW l) (some k) none = tW (l.drop k.toNat) := by
 unfold L2.cutS
 have e : HT.sIx (tW l).length 0 (some k) = min k.toNat l.length := by
  rw [dG]
  show (if k < 0 then (k + (l.length : Int)).toNat else min k.toNat l.length) = _
  rw [if_neg (by omega)]
 rw [e, HT.sIx_none, jW, dG]
 unfold tW
 congr 1
 by_cases c : k.toNat ≤ l.length
 ·rw [Nat.min_eq_left c, List.take_of_length_le (by simp)]
 ·rw [Nat.min_eq_right (by omega), List.drop_eq_nil_of_le (Nat.le_refl _), List.drop_eq_nil_of_le (by omega)]
  simp
theorem Ov {l : List Nat} {i j : Int} (hi : 0 ≤ i) (hj : 0 ≤ j) : L2.cutS (tW l) (some i) (some j) = tW ((l.drop i.toNat).take (j.toNat - i.toNat)) := by
 unfold L2.cutS
 have e : ∀ (d : Nat) (k : Int), 0 ≤ k → HT.sIx (tW l).length d (some k) = min k.toNat l.length := fun d k hk => by
  rw [dG]
  show (if k < 0 then (k + (l.length : Int)).toNat else min k.toNat l.length) = _
  rw [if_neg (by omega)]
 rw [e 0 i hi, e _ j hj, jW]
 unfold tW
 congr 1
 by_cases c : i.toNat ≤ l.length
 ·rw [Nat.min_eq_left c]
  refine congrArg List.toArray (List.take_eq_take_iff.mpr ?_)
  rw [List.length_drop]
  omega
 ·rw [Nat.min_eq_right (by omega : l.length ≤ i.toNat), List.drop_eq_nil_of_le (Nat.le_refl _), List.drop_eq_nil_of_le (by omega)]
  simp
section
variable {α β : Type} {L : List MO} {E : EX} {Q : D → List MO → Prop}
theorem uW {x : Str} {lo hi : Option Int} : wp (tZ (.v (.str x)) lo hi) L E Q = (x.length ≤ sizeLine ∧ Q (.v (.str (L2.cutS x lo hi))) L) := jF rfl
theorem Z6 {x : Str} {i : Nat} {c : Nat} (hz : x.length ≤ sizeLine) (h : x.cps.toList[i]? = some c) : wp (bR (.v (.str x)) (.v (.int i))) L E Q = Q (.v (.str (tW [c]))) L := by
 have hl : i < x.cps.toList.length := (List.getElem?_eq_some_iff.mp h).1
 have hn : ixN x.cps.toList.length (i : Int) = some i := by
  unfold ixN
  rw [if_pos (by omega), if_pos (by omega)]
  rfl
 refine bG ?_
 show (if x.length ≤ sizeLine then (atI x.cps.toList (i : Int)).map fun c => ((.ok (.v (.str ⟨#[c]⟩)), L) : Res D × List MO) else none) = _
 rw [if_pos hz]
 unfold atI
 rw [hn]
 simp only [Option.bind_some, h]
 rfl
theorem Ow {x : Str} {i : Int} {c : Nat} (hz : x.length ≤ sizeLine) (h0 : 0 ≤ i) (h : x.cps.toList[i.toNat]? = some c) : wp (bR (.v (.str x)) (.v (.int i))) L E Q = Q (.v (.str (tW [c]))) L := by
 have := Z6 (L := L) (E := E) (Q := Q) hz h
 rw [Int.toNat_of_nonneg h0] at this
 exact this
theorem Bw {xs : List P} {i : Int} {p : P} (h0 : 0 ≤ i) (h : xs[i.toNat]? = some p) : wp (bR (.v (.lst xs)) (.v (.int i))) L E Q = Q (.v p) L := by
 have := nQ (L := L) (E := E) (Q := Q) h
 rw [Int.toNat_of_nonneg h0] at this
 exact this
end
def qK : Str := "abcdefghijklmnopqrstuvwxyz"
def iI (r : Int) : Nat := 97 + (r % 26).toNat
theorem Z7 : qK.length ≤ sizeLine := aZ _ (by decide +kernel)
theorem Z8 {i : Nat} (h : i < 26) : qK.cps.toList[i]? = some (97 + i) := by
 have key : ∀ j : Fin 26, qK.cps.toList[j.val]? = some (97 + j.val) := by decide +kernel
 exact key ⟨i, h⟩
theorem Gu (r : Int) : 97 ≤ iI r ∧ iI r ≤ 122 := by
 unfold iI
 have h1 := Int.emod_nonneg r (show (26 : Int) ≠ 0 by decide)
 have h2 := Int.emod_lt_of_pos r (show (0 : Int) < 26 by decide)
 omega
theorem Z9 (cs : List Nat) : Txt.join "" (cs.map fun c => tW [c]) = tW cs := by
 have key : ∀ ys : List Str, (Txt.join "" ys).cps.toList = (ys.map fun y => y.cps.toList).flatten := fun ys => by
  show TL.tl (Txt.join "" ys) = _
  rw [TL.join_eq, TL.tl_join]
  have hj : ∀ zs : List (List Nat), TL.joinL [] zs = zs.flatten := by
   intro zs
   induction zs with
   | nil => rfl
   | cons z zs ih =>
    cases zs with
    | nil => simp [TL.joinL]
    | cons y zs =>
     show z ++ ([] ++ TL.joinL [] (y :: zs)) = _
     rw [ih]
     simp
  exact hj _
 rw [← Gq (Txt.join "" _), key, List.map_map]
 congr 1
 induction cs with
 | nil => rfl
 | cons c cs ih =>
  rw [List.map_cons, List.flatten_cons, ih]
  show (tW [c]).cps.toList ++ cs = _
  rw [jW]
  rfl
def jG (s sh st pl sz : Int) (w : List Nat) (k : Nat) : List Nat :=
 if s = 1 then w.take (1 + (k + pl) % 8).toNat
 else if s = 2 then iI (sh + st * k) :: (w.drop k).take ((k + (pl + 3 * k) % 8).toNat - k)
 else w.take (pl % sz).toNat ++ [iI (sh + st * k)] ++ (w.drop (pl % sz + 1).toNat).take (sz.toNat - (pl % sz + 1).toNat)
def yH (l : List Nat) : Prop := ∀ c ∈ l, 97 ≤ c ∧ c ≤ 122
def Nm (x : Str) : Prop := yH x.cps.toList ∧ 1 ≤ x.length ∧ x.length ≤ 8
theorem Ox {s sh st pl sz : Int} {w : List Nat} {k : Nat} (hw : w.length = 8) (hl : yH w) (h0 : 0 ≤ pl) (h1 : 0 < sz) (h2 : sz ≤ 8) (hk : k < 8) : Nm (tW (jG s sh st pl sz w k)) := by
 have t1 : ∀ n, yH (w.take n) := fun n c hc => hl c (List.mem_of_mem_take hc)
 have d1 : ∀ n m, yH ((w.drop n).take m) := fun n m c hc => hl c (List.mem_of_mem_drop (List.mem_of_mem_take hc))
 have e0 := Int.emod_nonneg pl (show sz ≠ 0 by omega)
 have e1 := Int.emod_lt_of_pos pl h1
 unfold Nm
 rw [jW, dG]
 unfold jG
 by_cases c1 : s = 1
 ·rw [if_pos c1]
  refine ⟨t1 _, ?_, ?_⟩ <;> rw [List.length_take, hw] <;> omega
 ·rw [if_neg c1]
  by_cases c2 : s = 2
  ·rw [if_pos c2]
   refine ⟨fun c hc => ?_, ?_, ?_⟩
   ·rcases List.mem_cons.mp hc with z | z
    ·rw [z]; exact Gu _
    ·exact d1 _ _ c z
   ·rw [List.length_cons]; omega
   ·rw [List.length_cons, List.length_take, List.length_drop, hw]; omega
  ·rw [if_neg c2]
   refine ⟨fun c hc => ?_, ?_, ?_⟩
   ·rcases List.mem_append.mp hc with z | z
    ·rcases List.mem_append.mp z with z | z
     ·exact t1 _ c z
     ·rw [List.mem_singleton.mp z]; exact Gu _
    ·exact d1 _ _ c z
   ·simp only [List.length_append, List.length_singleton]; omega
   ·simp only [List.length_append, List.length_singleton, List.length_take, List.length_drop, hw]; omega
theorem Oz {sh t : Int} {j k : Nat} (h0 : 0 ≤ t) (h1 : t < 6) (hj : j < 8) (hk : k < 8) (h : iI (sh + (1 + 2 * t) * j) = iI (sh + (1 + 2 * t) * k)) : j = k := by
 have key : ∀ (t : Fin 6) (j k : Fin 8), ((1 + 2 * (t.val : Int)) * (j.val : Int) - (1 + 2 * (t.val : Int)) * (k.val : Int)) % 26 = 0 → j = k := by decide +kernel
 unfold iI at h
 have a1 := Int.emod_nonneg (sh + (1 + 2 * t) * j) (show (26 : Int) ≠ 0 by decide)
 have a2 := Int.emod_nonneg (sh + (1 + 2 * t) * k) (show (26 : Int) ≠ 0 by decide)
 have e : (sh + (1 + 2 * t) * j) % 26 = (sh + (1 + 2 * t) * k) % 26 := by omega
 have e2 : ((1 + 2 * t) * (j : Int) - (1 + 2 * t) * (k : Int)) % 26 = 0 := by omega
 have := key ⟨t.toNat, by omega⟩ ⟨j, hj⟩ ⟨k, hk⟩ (by
  have et : ((t.toNat : Nat) : Int) = t := by omega
  show ((1 + 2 * ((t.toNat : Nat) : Int)) * (j : Int) - (1 + 2 * ((t.toNat : Nat) : Int)) * (k : Int)) % 26 = 0
  rw [et]
  exact e2)
 exact congrArg Fin.val this
theorem aAA {s sh t pl sz : Int} {w : List Nat} {j k : Nat} (hw : w.length = 8) (h0 : 0 ≤ pl) (t0 : 0 ≤ t) (t1 : t < 6) (h1 : 0 < sz) (h2 : sz ≤ 8) (hj : j < 8) (hk : k < 8) (h : jG s sh (1 + 2 * t) pl sz w j = jG s sh (1 + 2 * t) pl sz w k) : j = k := by
 unfold jG at h
 have e0 := Int.emod_nonneg pl (show sz ≠ 0 by omega)
 have e1 := Int.emod_lt_of_pos pl h1
 by_cases c1 : s = 1
 ·rw [if_pos c1, if_pos c1] at h
  have := congrArg List.length h
  rw [List.length_take, List.length_take, hw] at this
  omega
 ·rw [if_neg c1, if_neg c1] at h
  by_cases c2 : s = 2
  ·rw [if_pos c2, if_pos c2] at h
   injection h with h _
   exact Oz t0 t1 hj hk h
  ·rw [if_neg c2, if_neg c2, List.append_assoc, List.append_assoc] at h
   have := List.append_cancel_left h
   rw [List.singleton_append, List.singleton_append] at this
   injection this with this _
   exact Oz t0 t1 hj hk this
theorem aAB {s sh t pl sz : Int} {w : List Nat} (hw : w.length = 8) (h0 : 0 ≤ pl) (t0 : 0 ≤ t) (t1 : t < 6) (h1 : 0 < sz) (h2 : sz ≤ 8) : ((List.range 8).map fun k => tW (jG s sh (1 + 2 * t) pl sz w k)).Nodup := by
 refine List.Pairwise.map (R := fun j k : Nat => j < 8 ∧ k < 8 ∧ j ≠ k) _ (fun j k hjk e => hjk.2.2 (aAA hw h0 t0 t1 h1 h2 hjk.1 hjk.2.1 (Z4 e))) ?_
 decide +kernel
def Names (ns : List Str) : Prop := ns.length = 8 ∧ ns.Nodup ∧ ∀ x ∈ ns, Nm x
end DN
end
section
namespace DN
open PySem
open L2 (ixN atI)
section
variable {L : List MO} {E : EX} {τ : aA} {Q : D → List MO → Prop}
abbrev oY : EX := fun _ _ _ => False
theorem yI (L : List MO) (x : MO) : (L ++ [x])[L.length]? = some x := by rw [List.getElem?_append_right (Nat.le_refl _), Nat.sub_self]; rfl
theorem rY (L : List MO) (x y : MO) : (L ++ [x]).set L.length y = L ++ [y] := by rw [List.set_append_right _ _ (Nat.le_refl _), Nat.sub_self]; rfl
theorem aAC {mu : Bool} {L' : List MO} {ys : List P} (hl : L'.length = L.length) (ho : aW L L') (h : if mu = true then Q (.r L.length) (L' ++ [.lst ys]) else Q (.v (.lst ys)) L') {m : M D} (e : m L = pZ mu L (some (L' ++ [.lst ys]))) : wp m L E Q := by
 cases mu with
 | true =>
  rw [if_pos rfl] at h
  have : m L = some (.ok (.r L.length), L' ++ [.lst ys]) := e
  rw [bG this]
  exact h
 | false =>
  rw [if_neg Bool.false_ne_true] at h
  have : m L = some (.ok (.v (.lst ys)), L') := by
   rw [e]
   unfold pZ
   dsimp only
   rw [if_neg Bool.false_ne_true, ← hl, yI]
   dsimp only
   rw [if_pos (lZ _ ho), List.take_left']
   rfl
  rw [bG this]
  exact h
theorem O4 {ok : List MO → Prop} {tg : dF} {tt : aA → M Bool} {fe : aA → M D} (J : Nat → List P → List MO → Prop) (hok : ∀ i ys L', J i ys L' → ok (L' ++ [.lst ys])) {n N : Nat} (hN : N ≤ sizeLine) (ho : ∀ i ys L', J i ys L' → L'.length = n ∧ ys.length ≤ i) : ∀ (xs : List P) (i0 : Nat) (ys : List P) (L' : List MO), J i0 ys L' → i0 + xs.length ≤ N →
  (∀ i p ys L', xs[i]? = some p → J (i0 + i) ys L' → ∃ τ1, tg p τ = some τ1 ∧ wp (tt τ1) (L' ++ [.lst ys]) oY fun t L1 =>
   if t = true then wp (fe τ1) L1 oY fun d L2 => ∃ q Lb, d = .v q ∧ L2 = Lb ++ [.lst ys] ∧ J (i0 + i + 1) (ys ++ [q]) Lb else ∃ Lb, L1 = Lb ++ [.lst ys] ∧ J (i0 + i + 1) ys Lb) →
  ∃ zs Lb, iV ok (iD tg tt fe) n τ xs (L' ++ [.lst ys]) = some (Lb ++ [.lst zs]) ∧ J (i0 + xs.length) zs Lb
 | [], i0, ys, L', hj, _, _ => ⟨ys, L', by unfold iV; rw [if_pos (hok _ _ _ hj)], hj⟩
 | p :: ps, i0, ys, L', hj, hi, hs => by
  rw [List.length_cons] at hi
  obtain ⟨τ1, e1, w⟩ := hs 0 p ys L' rfl hj
  obtain ⟨t, L1, e2, w⟩ := nO w
  have rest : ∀ ys2 L2, J (i0 + 1) ys2 L2 → ∃ zs Lb, iV ok (iD tg tt fe) n τ ps (L2 ++ [.lst ys2]) = some (Lb ++ [.lst zs]) ∧ J (i0 + (ps.length + 1)) zs Lb := fun ys2 L2 h2 => by
   rw [show i0 + (ps.length + 1) = i0 + 1 + ps.length by omega]
   refine O4 J hok hN ho ps (i0 + 1) ys2 L2 h2 (by omega) fun i q ys L e hj => ?_
   have := hs (i + 1) q ys L e (by rw [show i0 + (i + 1) = i0 + 1 + i by omega]; exact hj)
   rw [show i0 + (i + 1) = i0 + 1 + i by omega] at this
   exact this
  unfold iV
  rw [if_pos (hok _ _ _ hj)]
  unfold iD
  rw [e1]
  dsimp only
  rw [e2]
  cases t with
  | false =>
   rw [if_neg Bool.false_ne_true] at w
   obtain ⟨Lb, rfl, hj2⟩ := w
   exact rest ys Lb hj2
  | true =>
   rw [if_pos rfl] at w
   obtain ⟨d, L2, e3, q, Lb, rfl, rfl, hj2⟩ := nO w
   obtain ⟨hl, hy⟩ := ho _ _ _ hj2
   rw [List.length_append, List.length_singleton] at hy
   dsimp only
   rw [e3]
   dsimp only
   rw [← hl, yI]
   dsimp only
   rw [if_pos (by omega), rY, hl]
   exact rest _ Lb hj2
theorem O5 {mu : Bool} {tg : dF} {tt : aA → M Bool} {fe : aA → M D} {xs : List P} {ok : List MO → Prop} (J : Nat → List P → List MO → Prop) (h0 : J 0 [] L) (hok : ∀ i ys L', J i ys L' → ok (L' ++ [.lst ys])) (hz : xs.length ≤ sizeLine)
  (ho : ∀ i ys L', J i ys L' → L'.length = L.length ∧ aW L L' ∧ ys.length ≤ i)
  (hs : ∀ i p ys L', xs[i]? = some p → J i ys L' → ∃ τ1, tg p τ = some τ1 ∧ wp (tt τ1) (L' ++ [.lst ys]) oY fun t L1 =>
   if t = true then wp (fe τ1) L1 oY fun d L2 => ∃ q Lb, d = .v q ∧ L2 = Lb ++ [.lst ys] ∧ J (i + 1) (ys ++ [q]) Lb else ∃ Lb, L1 = Lb ++ [.lst ys] ∧ J (i + 1) ys Lb)
  (h : ∀ ys L', J xs.length ys L' → if mu = true then Q (.r L.length) (L' ++ [.lst ys]) else Q (.v (.lst ys)) L') : wp (oW mu (iD tg tt fe) τ (xs, ok)) L E Q := by
 obtain ⟨zs, Lb, e, hj⟩ := O4 (n := L.length) (τ := τ) J hok hz (fun i ys L' h => ⟨(ho i ys L' h).1, (ho i ys L' h).2.2⟩) xs 0 [] L h0 (by omega) (fun i p ys L' e hj => by
  rw [Nat.zero_add] at hj ⊢
  exact hs i p ys L' e hj)
 rw [Nat.zero_add] at hj
 obtain ⟨h1, h2, _⟩ := ho _ _ _ hj
 refine aAC h1 h2 (h zs Lb hj) ?_
 unfold oW
 dsimp only
 rw [e]
theorem O6 {m : Int} {QI : Itm → List MO → Prop} (h0 : 0 ≤ m) (h1 : m < 2 ^ 62) : wp (oR [.v (.int m)]) L E QI = QI ((List.range m.toNat).map fun i : Nat => P.int (0 + i), fun _ => True) L := by
 have := Gg (L := L) (E := E) (QI := QI) (n := m.toNat) (by omega)
 rw [Int.toNat_of_nonneg h0] at this
 exact this
theorem Bx {n : Nat} : jE n [] := fun i d h => by simp at h
theorem qL {n : Nat} {τ : aA} (h : jE n τ) : jE n (none :: τ) := fun i d q => by
 cases i with
 | zero => cases q
 | succ i => exact h i d q
theorem lB {n : Nat} {p : P} {τ : aA} (h : jE n τ) : jE n (some (.v p) :: τ) := fun i d q => by
 cases i with
 | zero => cases q; trivial
 | succ i => exact h i d q
theorem yJ {n m : Nat} {τ : aA} (hm : m < n) (h : jE n τ) : jE n (some (.r m) :: τ) := fun i d q => by
 cases i with
 | zero => cases q; exact hm
 | succ i => exact h i d q
theorem aAD (L : List MO) (x y : List P) : aW (L ++ [.lst x]) (L ++ [.lst y]) := by
 rw [← rY L (.lst x) (.lst y)]
 exact uP
theorem aAE {α : Type} (f : α → P) (ys : List α) (G : α → Option P) {mu : Bool} {tg : dF} {tt : aA → M Bool} {fe : aA → M D} {ok : List MO → Prop} (hok : ∀ acc, ok (L ++ [.lst acc])) (hz : ys.length ≤ sizeLine)
  (hs : ∀ y ∈ ys, ∀ acc : List P, ∃ τ1, tg (f y) τ = some τ1 ∧ wp (tt τ1) (L ++ [.lst acc]) oY fun t L1 => L1 = L ++ [.lst acc] ∧
   if t = true then wp (fe τ1) (L ++ [.lst acc]) oY fun d L2 => L2 = L ++ [.lst acc] ∧ ∃ q, d = .v q ∧ G y = some q else G y = none)
  (h : if mu = true then Q (.r L.length) (L ++ [.lst (ys.filterMap G)]) else Q (.v (.lst (ys.filterMap G))) L) : wp (oW mu (iD tg tt fe) τ (ys.map f, ok)) L E Q := by
 refine O5 (fun i zs L' => L' = L ∧ zs = (ys.take i).filterMap G) ⟨rfl, by simp⟩ (fun i zs L' hj => by rw [hj.1]; exact hok _) (by rw [List.length_map]; exact hz) (fun i zs L' hj => ?_) (fun i p zs L' hp hj => ?_) (fun zs L' hj => ?_)
 ·obtain ⟨rfl, rfl⟩ := hj
  exact ⟨rfl, aW.refl _, Nat.le_trans (List.length_filterMap_le _ _) (by rw [List.length_take]; omega)⟩
 ·obtain ⟨rfl, rfl⟩ := hj
  rw [List.getElem?_map] at hp
  cases ey : ys[i]? with
  | none => rw [ey] at hp; cases hp
  | some y =>
   rw [ey] at hp
   cases hp
   have tk : (ys.take (i + 1)).filterMap G = (ys.take i).filterMap G ++ (G y).toList := by
    rw [List.take_succ, ey, Option.toList_some, List.filterMap_append]
    cases e9 : G y <;> simp [List.filterMap_cons, e9]
   obtain ⟨τ1, e1, w⟩ := hs y (List.mem_of_getElem? ey) ((ys.take i).filterMap G)
   refine ⟨τ1, e1, ?_⟩
   obtain ⟨t, L1, e2, rfl, w⟩ := nO w
   rw [bG e2]
   cases t with
   | false =>
    rw [if_neg Bool.false_ne_true] at w ⊢
    exact ⟨_, rfl, rfl, by rw [tk, w]; simp⟩
   | true =>
    rw [if_pos rfl] at w ⊢
    obtain ⟨d, L2, e3, rfl, q, rfl, e4⟩ := nO w
    rw [bG e3]
    exact ⟨q, _, rfl, rfl, rfl, by rw [tk, e4]; rfl⟩
 ·obtain ⟨rfl, rfl⟩ := hj
  rw [List.length_map, List.take_length]
  exact h
theorem aAF {α : Type} (f : α → P) (ys : List α) (G : α → P) {mu : Bool} {tg : dF} {fe : aA → M D} {ok : List MO → Prop} (hok : ∀ acc, ok (L ++ [.lst acc])) (hz : ys.length ≤ sizeLine)
  (hs : ∀ y ∈ ys, ∀ acc : List P, ∃ τ1, tg (f y) τ = some τ1 ∧ wp (fe τ1) (L ++ [.lst acc]) oY fun d L2 => L2 = L ++ [.lst acc] ∧ d = .v (G y))
  (h : if mu = true then Q (.r L.length) (L ++ [.lst (ys.map G)]) else Q (.v (.lst (ys.map G))) L) : wp (oW mu (iD tg uI fe) τ (ys.map f, ok)) L E Q := by
 refine aAE f ys (fun y => some (G y)) hok hz (fun y hy acc => ?_) ?_
 ·obtain ⟨τ1, e1, w⟩ := hs y hy acc
  refine ⟨τ1, e1, ?_⟩
  rw [Zm]
  refine ⟨rfl, ?_⟩
  rw [if_pos rfl]
  obtain ⟨d, L2, e3, rfl, rfl⟩ := nO w
  rw [bG e3]
  exact ⟨rfl, _, rfl, rfl⟩
 ·have : ys.filterMap (fun y => some (G y)) = ys.map G := by
   induction ys with
   | nil => rfl
   | cons y ys ih => simp
  rw [this]
  exact h
end
end DN
end
section
namespace DN
open PySem
open L2 (ixN atI)
section
variable {L : List MO} {E : EX} {τ : aA} {Q : D → List MO → Prop}
theorem rZ {i c : Nat} {ps : List P} {p : P} (h : fget (aN c) ps i = some p) : wp (cM i (.v (.ins c ps))) L E Q = Q (.v p) L := by
 refine bG ?_
 simp [cM, h]
theorem O7 {i n c : Nat} {fs : List (Nat × D)} {d : D} {QU : Unit → List MO → Prop} (hL : L[n]? = some (.ins c fs)) (h : i ∈ aN c) : wp (oV i d (.r n)) L E QU = QU () (L.set n (.ins c (gY i d fs))) := by
 refine bG ?_
 simp [oV, hL, h]
theorem O8 {cn n : Nat} {fn : List D → M D} {ds : List D} (hn : ds.length + 1 = n) (h : wp (fn (.r L.length :: ds)) (L ++ [.ins cn []]) (fun c fs L1 => ∃ Lb X, L1 = Lb ++ X ∧ Lb.length = L.length ∧ aW L Lb ∧ E c fs Lb)
  (fun d L1 => d = .v .non ∧ ∃ Lb X fs ps, L1 = Lb ++ .ins cn fs :: X ∧ Lb.length = L.length ∧ aW L Lb ∧ uG cn fs = some ps ∧ Q (.v (.ins cn ps)) Lb)) : wp (gH true cn n fn ds) L E Q := by
 have tk : ∀ {Lb X : List MO}, Lb.length = L.length → (Lb ++ X).take L.length = Lb := fun {Lb X} e => by rw [← e, List.take_left']; rfl
 unfold wp at h ⊢
 unfold gH
 rw [if_pos (by rw [List.length_cons]; exact hn)]
 cases e : fn (.r L.length :: ds) (L ++ [.ins cn []]) with
 | none => rw [e] at h; exact h.elim
 | some r =>
  obtain ⟨r, L1⟩ := r
  rw [e] at h
  cases r with
  | ex c fs =>
   obtain ⟨Lb, X, rfl, h2, h3, h4⟩ := h
   dsimp only
   rw [if_pos rfl, if_pos (lZ X h3), tk h2]
   exact h4
  | ok d =>
   obtain ⟨rfl, Lb, X, fs, ps, rfl, h2, h3, h4, h5⟩ := h
   dsimp only
   rw [if_pos rfl]
   have eg : (Lb ++ MO.ins cn fs :: X)[L.length]? = some (.ins cn fs) := by rw [← h2, List.getElem?_append_right (Nat.le_refl _), Nat.sub_self]; rfl
   rw [eg]
   dsimp only
   rw [if_pos ⟨rfl, lZ _ h3⟩, h4]
   dsimp only
   rw [tk h2]
   exact h5
theorem aAG {xs : List P} {bs : List Bool} (h : oO xs = some bs) : wp (zQ [.v (.lst xs)]) L E Q = Q (.v (.bl (bs.any id))) L := by
 refine bG ?_
 simp [zQ, eG, cR, cI, h]
theorem aAH {α : Type} (f : α → Bool) (xs : List α) : oO (xs.map fun x => P.bl (f x)) = some (xs.map f) := by
 induction xs with
 | nil => rfl
 | cons x xs ih => rw [List.map_cons]; unfold oO; rw [ih]; rfl
theorem aAI {neg : Bool} {c : Nat} {z : Str} : wp (uN neg (.v (.str (tW [c]))) (.v (.str z))) L E Q = Q (.v (.bl (xor neg (decide (c ∈ z.cps.toList))))) L := by
 refine bG ?_
 have e : iG L (.v (.str z)) = none := rfl
 unfold uN
 rw [e]
 have e1 : cZ L (.v (.str (tW [c]))) = some (.str ⟨#[c]⟩) := rfl
 have e2 : cZ L (.v (.str z)) = some (.str z) := rfl
 show inD neg _ _ L = _
 unfold inD
 rw [e1, e2]
 rfl
theorem aAJ {x : Str} {QI : Itm → List MO → Prop} : wp (fU (.v (.str x))) L E QI = QI (x.cps.toList.map fun c => P.str (tW [c]), fun _ => True) L := rfl
theorem aAK : ∀ c : Nat, c ∈ qK.cps.toList ↔ 97 ≤ c ∧ c ≤ 122 := by
 intro c
 have key : ∀ j : Fin 128, j.val ∈ qK.cps.toList ↔ 97 ≤ j.val ∧ j.val ≤ 122 := by decide +kernel
 by_cases h : c < 128
 ·exact key ⟨c, h⟩
 ·have all : ∀ d ∈ qK.cps.toList, d < 128 := by decide +kernel
  constructor
  ·intro hm; exact absurd (all c hm) h
  ·intro ⟨_, hm⟩; omega
end
def sE (L : List MO) (d : D) (xs : List P) : Prop := d = .v (.lst xs) ∨ ∃ n, d = .r n ∧ L[n]? = some (.lst xs)
structure Ro where
 n : Str
 g : Str
 m : Nat
def Ro.ok (r : Ro) : Prop := Nm r.n ∧ Nm r.g ∧ r.m ≤ 4
def Ro.p (r : Ro) : P := .ins (r.m + 1) [.str r.n, .str r.g]
def Ro.mk' (r : Ro) : Bool := decide (0 < r.m)
def aAL (rs : List Ro) : Prop := rs.length = 0 ∨ 6 < rs.length ∨ ¬ (rs.map Ro.n).Nodup ∨ ∀ r ∈ rs, r.m = 0
def kP (x : Str) (rs : List Ro) : P := .ins 6 [.str x, .tup (rs.map Ro.p)]
theorem fV {x : Str} (h : Nm x) : PyData.strOk x = true := by
 unfold PyData.strOk
 rw [Array.all_eq_true]
 intro i hi
 have := h.1 x.cps[i] (by simp)
 simp
 omega
def Asc (x : Str) : Prop := (∀ c ∈ x.cps.toList, c < 128) ∧ x.length ≤ 40
theorem uX {x : Str} (h : Nm x) : Asc x := ⟨fun c hc => by have := h.1 c hc; omega, by have := h.2.2; omega⟩
theorem aAM {x : Str} (h : Asc x) : PyData.strOk x = true := by
 unfold PyData.strOk
 rw [Array.all_eq_true]
 intro i hi
 have := h.1 x.cps[i] (by simp)
 simp
 omega
theorem O9 {x : Str} (h : Asc x) : x.length ≤ sizeLine := aZ _ (by have := h.2; omega)
end DN
end
section
namespace DN
open PySem
open L2 (ixN atI)
mutual
def dat : Nat → P → Bool
 | _, .non => true
 | _, .bl _ => true
 | _, .int _ => true
 | _, .str x => PyData.strOk x
 | 0, _ => false
 | k + 1, .tup xs => dH k xs
 | k + 1, .lst xs => dH k xs
 | _ + 1, _ => false
def dH : Nat → List P → Bool
 | _, [] => true
 | k, x :: xs => dat k x && dH k xs
end
mutual
def pd : P → PyData
 | .int i => .int i
 | .str x => .str x
 | .bl b => .bool b
 | .tup xs => .tuple (iW xs)
 | .lst xs => .list (iW xs)
 | _ => .none
def iW : List P → List PyData
 | [] => []
 | x :: xs => pd x :: iW xs
end
mutual
def sim : P → P → Bool
 | .bl _, .int _ => false
 | .int _, .bl _ => false
 | .tup xs, .tup ys => qM xs ys
 | .lst xs, .lst ys => qM xs ys
 | _, _ => true
def qM : List P → List P → Bool
 | x :: xs, y :: ys => sim x y && qM xs ys
 | _, _ => true
end
theorem Pa {k : Nat} : ∀ {xs : List P}, dH k xs = true ↔ ∀ x ∈ xs, dat k x = true
 | [] => by simp [dH]
 | x :: xs => by simp [dH, Pa (xs := xs)]
theorem Gv : ∀ (k : Nat) (p : P), dat k p = true → toD p = some (pd p) ∧ (pd p).canLay0 = true ∧ (pd p).depth ≤ k := by
 intro k
 induction k with
 | zero => intro p h; cases p <;> simp [dat] at h <;> simp [toD, pd, PyData.canLay0, PyData.depth, h]
 | succ k ih =>
  have lst : ∀ xs : List P, dH k xs = true → lK xs = some (iW xs) ∧ PyData.canLayAll0 (iW xs) = true ∧ PyData.depthAll (iW xs) ≤ k := by
   intro xs
   induction xs with
   | nil => intro _; simp [lK, iW, PyData.canLayAll0, PyData.depthAll]
   | cons x xs ih2 =>
    intro h
    simp only [dH, Bool.and_eq_true] at h
    obtain ⟨a1, a2, a3⟩ := ih x h.1
    obtain ⟨b1, b2, b3⟩ := ih2 h.2
    refine ⟨by simp [lK, iW, a1, b1], by simp [iW, PyData.canLayAll0, a2, b2], ?_⟩
    simp only [iW, PyData.depthAll]
    omega
  intro p h
  cases p <;> simp [dat] at h <;> first
   | (simp [toD, pd, PyData.canLay0, PyData.depth, h]; done)
   | (
     obtain ⟨a1, a2, a3⟩ := lst _ h
     refine ⟨by simp [toD, pd, a1], by simp [pd, PyData.canLay0, a2], ?_⟩
     simp only [pd, PyData.depth]
     omega)
theorem aAN : ∀ (k : Nat) (p q : P), dat k p = true → dat k q = true → sim p q = true → (PyData.eqv (pd p) (pd q) = true ↔ p = q) := by
 intro k
 induction k with
 | zero => intro p q h1 h2 h3; cases p <;> simp [dat] at h1 <;> cases q <;> simp [dat] at h2 <;> simp [sim] at h3 <;> simp [pd, PyData.eqv]
 | succ k ih =>
  have lst : ∀ xs ys : List P, dH k xs = true → dH k ys = true → qM xs ys = true → (PyData.eqvAll (iW xs) (iW ys) = true ↔ xs = ys) := by
   intro xs
   induction xs with
   | nil => intro ys _ _ _; cases ys <;> simp [iW, PyData.eqvAll]
   | cons x xs ih2 =>
    intro ys h1 h2 h3
    cases ys with
    | nil => simp [iW, PyData.eqvAll]
    | cons y ys =>
     simp only [dH, qM, Bool.and_eq_true] at h1 h2 h3
     simp [iW, PyData.eqvAll, ih x y h1.1 h2.1 h3.1, ih2 ys h1.2 h2.2 h3.2]
  intro p q h1 h2 h3
  cases p <;> simp [dat] at h1 <;> cases q <;> simp [dat] at h2 <;> simp [sim] at h3 <;> first
   | (simp [pd, PyData.eqv]; done)
   | simp [pd, PyData.eqv, lst _ _ h1 h2 h3]
section
variable {L : List MO} {E : EX} {Q : D → List MO → Prop}
theorem Pb {k : Nat} {p : P} (h : dat k p = true) (hk : k ≤ 60) : fP (pd p) = true := by
 obtain ⟨_, h2, h3⟩ := Gv k p h
 unfold fP SeqAt.shaped
 rw [h2, decide_eq_true (by omega)]
 rfl
theorem Ph {neg : Bool} {p q : P} (h1 : dat 20 p = true) (h2 : dat 20 q = true) (h3 : sim p q = true) [Decidable (p = q)] : wp (bK neg (.v p) (.v q)) L E Q = Q (.v (.bl (if neg = true then !decide (p = q) else decide (p = q)))) L := by
 have e1 : cZ L (.v p) = some (pd p) := (Gv _ p h1).1
 have e2 : cZ L (.v q) = some (pd q) := (Gv _ q h2).1
 have e3 : PyData.eqv (pd p) (pd q) = decide (p = q) := by
  have := aAN 20 p q h1 h2 h3
  by_cases c : p = q
  ·rw [decide_eq_true c]; exact this.mpr c
  ·rw [decide_eq_false c]
   cases e : PyData.eqv (pd p) (pd q) with
   | false => rfl
   | true => exact absurd (this.mp e) c
 refine bG ?_
 unfold bK
 rw [e1, e2]
 dsimp only
 rw [if_pos (by rw [Pb h1 (by decide), Pb h2 (by decide)]; rfl), e3]
theorem aAO {neg : Bool} {d e : D} {xs ys : List P} (hd : sE L d xs) (he : sE L e ys) (h1 : dat 20 (.lst xs) = true) (h2 : dat 20 (.lst ys) = true) (h3 : sim (.lst xs) (.lst ys) = true) [Decidable (xs = ys)] : wp (bK neg d e) L E Q = Q (.v (.bl (if neg = true then !decide (xs = ys) else decide (xs = ys)))) L := by
 have key : ∀ {d : D} {xs : List P}, sE L d xs → cZ L d = cZ L (.v (.lst xs)) := fun {d xs} h => by
  rcases h with rfl | ⟨n, rfl, h⟩
  ·rfl
  ·simp [cZ, h, toD]
 have : bK neg d e L = bK neg (.v (.lst xs)) (.v (.lst ys)) L := by
  unfold bK
  rw [key hd, key he]
 have e1 : wp (bK neg d e) L E Q = wp (bK neg (.v (.lst xs)) (.v (.lst ys))) L E Q := by
  unfold wp
  rw [this]
 have : Decidable (P.lst xs = P.lst ys) := decidable_of_iff (xs = ys) (by simp)
 rw [e1, Ph h1 h2 h3]
 have : decide (P.lst xs = P.lst ys) = decide (xs = ys) := by
  by_cases c : xs = ys
  ·rw [decide_eq_true c, decide_eq_true (by rw [c])]
  ·rw [decide_eq_false c, decide_eq_false (fun z => c (by injection z))]
 rw [this]
theorem Pj : ∀ (k : Nat) (p : P), dat k p = true → sim p p = true := by
 intro k
 induction k with
 | zero => intro p h; cases p <;> simp [dat] at h <;> simp [sim]
 | succ k ih =>
  have lst : ∀ xs : List P, dH k xs = true → qM xs xs = true := by
   intro xs
   induction xs with
   | nil => intro _; simp [qM]
   | cons x xs ih2 =>
    intro h
    simp only [dH, Bool.and_eq_true] at h
    simp [qM, ih x h.1, ih2 h.2]
  intro p h
  cases p <;> simp [dat] at h <;> first
   | (simp [sim]; done)
   | simp [sim, lst _ h]
theorem cH {neg : Bool} {p q : P} (h1 : dat 20 p = true) (e : p = q) : wp (bK neg (.v p) (.v q)) L E Q = Q (.v (.bl (!neg))) L := by
 subst e
 have := Classical.propDecidable (p = p)
 rw [Ph h1 h1 (Pj 20 p h1), decide_eq_true rfl]
 cases neg <;> rfl
theorem lC {neg : Bool} {d e : D} {xs ys : List P} (hd : sE L d xs) (he : sE L e ys) (h1 : dat 20 (.lst xs) = true) (h : xs = ys) : wp (bK neg d e) L E Q = Q (.v (.bl (!neg))) L := by
 subst h
 have := Classical.propDecidable (xs = xs)
 rw [aAO hd he h1 h1 (Pj 20 _ h1), decide_eq_true rfl]
 cases neg <;> rfl
theorem uY {tab : Nat → Option P} {d : D} {p : P} (h : (clsOf L d).bind tab = some p) : wp (wQ tab d) L E Q = Q (.v p) L := by
 refine bG ?_
 unfold wQ
 rw [h]
end
section
variable {L : List MO} {E : EX} {Q : D → List MO → Prop}
theorem aAP {a : Str} {n : Int} : wp (uU (.v (.str a)) (.v (.int n))) L E Q = ((1 ≤ n ∧ n ≤ 1000 ∧ a.length ≤ 1000) ∧ Q (.v (.str (Txt.mul a n))) L) := jF rfl
theorem aAQ {a : Str} : wp (Gp (.v (.str a)) []) L E Q = (decide (a.length ≤ 5592405) = true ∧ Q (.v (.str (Txt.upper a))) L) := jF rfl
end
theorem Pk (l : List Nat) {n : Int} (h : 2 ≤ n) (hl : l ≠ []) : Txt.mul (tW l) n = tW ((List.replicate n.toNat l).flatten) := by
 have key : ∀ (k : Nat) (b : Array Nat), ((List.replicate k l.toArray).foldl (· ++ ·) b).toList = b.toList ++ (List.replicate k l).flatten := by
  intro k
  induction k with
  | zero => intro b; simp
  | succ k ih =>
   intro b
   rw [List.replicate_succ, List.foldl_cons, ih, List.replicate_succ, List.flatten_cons]
   simp
 unfold Txt.mul
 rw [if_neg (by omega), if_neg (by
  rw [dG]
  have : l.length ≠ 0 := fun z => hl (List.length_eq_zero_iff.mp z)
  simp [this]
  omega)]
 have := key n.toNat #[]
 unfold tW
 refine congrArg Str.mk ?_
 apply Array.toList_inj.mp
 rw [this]
 simp
def Bad (x : Str) : Prop := Asc x ∧ ¬ Nm x
theorem qN {l : List Nat} (h1 : ∀ c ∈ l, c < 128) (h2 : l.length ≤ 40) (h3 : l.length = 0 ∨ 8 < l.length ∨ ∃ c ∈ l, ¬ (97 ≤ c ∧ c ≤ 122)) : Bad (tW l) := by
 refine ⟨⟨by rw [jW]; exact h1, by rw [dG]; exact h2⟩, fun hn => ?_⟩
 obtain ⟨n1, n2, n3⟩ := hn
 rw [jW] at n1
 rw [dG] at n2 n3
 rcases h3 with z | z | ⟨c, hc, z⟩
 ·omega
 ·omega
 ·exact z (n1 c hc)
def Vz (z : Option D) : Prop := z = none ∨ ∃ p, z = some (.v p)
theorem Vz.none : Vz none := .inl rfl
theorem Vz.v {p : P} : Vz (some (.v p)) := .inr ⟨p, rfl⟩
theorem Gx {n : Nat} {z : Option D} {τ : aA} (hz : Vz z) (h : jE n τ) : jE n (z :: τ) := by
 rcases hz with rfl | ⟨p, rfl⟩
 ·exact qL h
 ·exact lB h
theorem sE.okR {L : List MO} {d : D} {xs : List P} (h : sE L d xs) : DN.okR L.length d := by
 rcases h with rfl | ⟨n, rfl, h⟩
 ·trivial
 ·exact (List.getElem?_eq_some_iff.mp h).1
theorem Gy {n : Nat} {d : D} {τ : aA} (hd : DN.okR n d) (h : jE n τ) : jE n (some d :: τ) := by
 cases d with
 | v p => exact lB h
 | r m => exact yJ hd h
theorem bZ {k : Nat} {x : Str} (h : PyData.strOk x = true) : dat k (.str x) = true := by cases k <;> simpa [dat] using h
theorem aAR {k : Nat} {xs : List P} (h : ∀ x ∈ xs, dat k x = true) : dat (k + 1) (.lst xs) = true := by
 rw [dat]
 exact Pa.mpr h
end DN
end
section
namespace DN
section
variable {α : Type} {a b : α} {l k : List α} {i : Nat} {p : Prop}
theorem sv_kill0 {τ : aA} : cJ [] τ = τ := rfl
theorem sv_kill1 {v : Nat} {vs : List Nat} {τ : aA} : cJ (v :: vs) τ = cJ vs (τ.set v none) := rfl
theorem sv_gets : (a :: l)[i + 1]? = l[i]? := List.getElem?_cons_succ
theorem sv_get0 : (a :: l)[0]? = some a := List.getElem?_cons_zero
theorem sv_sets : (a :: l).set (i + 1) b = a :: l.set i b := List.set_cons_succ
theorem sv_set0 : (a :: l).set 0 b = b :: l := List.set_cons_zero
theorem sv_ift {h : Decidable True} : (@ite α True h a b) = a := if_pos trivial
theorem sv_iff {h : Decidable False} : (@ite α False h a b) = b := if_neg id
theorem sv_dect {h : Decidable True} : @decide True h = true := decide_eq_true trivial
theorem sv_decf {h : Decidable False} : @decide False h = false := decide_eq_false id
theorem sv_ft : (false = true) = False := by simp
theorem sv_nott : (!true) = false := rfl
theorem sv_notf : (!false) = true := rfl
theorem sv_cons_app : a :: l ++ k = a :: (l ++ k) := rfl
theorem sv_nil_app : [] ++ k = k := rfl
theorem sv_len_cons : (a :: l).length = l.length + 1 := rfl
theorem sv_len_nil : ([] : List α).length = 0 := rfl
theorem sv_and_self : (p ∧ p) = p := and_self p
theorem sv_and_true : (p ∧ True) = p := and_true p
theorem sv_true_and : (True ∧ p) = p := true_and p
end
end DN
end
section
namespace DN
open PySem PySem.Spec PyProof.Rows L2
section
variable {X : Cx} {g : G} {W : WX} {e : Expr} {f : aA → M D}
def nU : D → M D := fun d L => match d with
 | .v p => some (.ok (.v p), L)
 | .r n => match L[n]? with
  | some (.lst xs) => some (.ok (.v (.lst xs)), L.set n .dead)
  | _ => none
end
section
variable {X : Cx} {g : G} {W : WX} {a b : Expr} {fs : aA → M (List D)} {pos : Pos}
def Pn (i j : Nat) (fs : aA → M (List D)) : SX := bW fs fun ds τ L => match ds with
 | [d, e] => some (.nx ((τ.set i (some d)).set j (some e)), L)
 | _ => none
end
section
variable {L : List MO} {E : EX} {Q : D → List MO → Prop}
theorem wps_par {i j : Nat} {fs : aA → M (List D)} {τ : aA} {k : KK} : wps (Pn i j fs) τ L k = wp (fs τ) L (k.ex τ) (fun ds L1 => match ds with
  | [d, e] => k.nx ((τ.set i (some d)).set j (some e)) L1
  | _ => False) := by
 unfold Pn
 rw [eO]
 congr 1
 funext ds L1
 unfold wps
 match ds with
 | [d, e] => rfl
 | [] => rfl
 | [_] => rfl
 | _ :: _ :: _ :: _ => rfl
theorem wp_frzV {p : P} : wp (nU (.v p)) L E Q = Q (.v p) L := rfl
theorem aAS {n : Nat} {xs : List P} (h : L[n]? = some (.lst xs)) : wp (nU (.r n)) L E Q = Q (.v (.lst xs)) (L.set n .dead) := by
 refine bG ?_
 simp [nU, h]
end
end DN
end
section
namespace DN
open PySem
section
variable {α : Type} [DecidableEq α]
def Ca (lt : α → α → Bool) (zs : List α) (x : α) : Nat := (zs.takeWhile fun y => lt y x).length
def Cd (lt : α → α → Bool) (zs : List α) (x : α) : List α := if zs[Ca lt zs x]? = some x then zs else zs.take (Ca lt zs x) ++ [x] ++ zs.drop (Ca lt zs x)
def Ce (lt : α → α → Bool) (xs : List α) : List α := xs.foldl (Cd lt) []
theorem aAT {lt : α → α → Bool} {zs : List α} {x y : α} : y ∈ Cd lt zs x ↔ y ∈ zs ∨ y = x := by
 unfold Cd
 split
 ·rename_i h
  have := List.mem_of_getElem? h
  constructor
  ·exact .inl
  ·rintro (h | h)
   ·exact h
   ·rw [h]; exact this
 ·constructor
  ·intro h
   rcases List.mem_append.mp h with h | h
   ·rcases List.mem_append.mp h with h | h
    ·exact .inl (List.mem_of_mem_take h)
    ·exact .inr (List.mem_singleton.mp h)
   ·exact .inl (List.mem_of_mem_drop h)
  ·rintro (h | h)
   ·rw [← List.take_append_drop (Ca lt zs x) zs] at h
    rcases List.mem_append.mp h with h | h
    ·exact List.mem_append_left _ (List.mem_append_left _ h)
    ·exact List.mem_append_right _ h
   ·rw [h]; simp
theorem Pq {lt : α → α → Bool} {y : α} (xs : List α) : y ∈ Ce lt xs ↔ y ∈ xs := by
 have key : ∀ (xs zs : List α), y ∈ xs.foldl (Cd lt) zs ↔ y ∈ zs ∨ y ∈ xs := by
  intro xs
  induction xs with
  | nil => intro zs; simp
  | cons x xs ih =>
   intro zs
   rw [List.foldl_cons, ih, aAT, List.mem_cons, or_assoc]
 have := key xs []
 simpa [Ce] using this
end
end DN
end
section
namespace DN
open PySem
def ltS (x y : Str) : Bool := decide (x.cps.toList < y.cps.toList)
section
variable {α β : Type} [DecidableEq α] [DecidableEq β]
def ltP (la : α → α → Bool) (lb : β → β → Bool) (x y : α × β) : Bool := if x.1 = y.1 then lb x.2 y.2 else la x.1 y.1
end
abbrev Row := Str × Str × Str
def Gz (x : Row) : P := .tup [.str x.1, .str x.2.1, .str x.2.2]
def ltI (i j : Int) : Bool := decide (i < j)
abbrev Pg := Str × Int
def G3 (x : Pg) : P := .tup [.str x.1, .int x.2]
def Pr : Pg → Pg → Bool := ltP ltS ltI
end DN
end
section
namespace DN
open PySem
section
variable {α : Type} [DecidableEq α]
def Pu (acc : List α) (x : α) : List α := if x ∈ acc then acc else acc ++ [x]
structure Px (G : α → P) (ok : α → Prop) : Prop where
 key : ∀ a, ok a → ∃ k, cO (G a) = some k ∧ k.depth ≤ 8
 inj : ∀ a b, ok a → ok b → cO (G a) = cO (G b) → a = b
 kind : (∀ a, ok a → Bu (G a) = true) ∨ ∀ a, ok a → Bv (G a) = true
theorem Px.add {G : α → P} {ok : α → Prop} (h : Px G ok) {acc : List α} {x : α} (ha : ∀ a ∈ acc, ok a) (hx : ok x) (hl : acc.length + 1 < 300) : Ol (acc.map G) (G x) = true ∧ Om (acc.map G) (G x) = (Pu acc x).map G := by
 obtain ⟨k, hk, hd⟩ := h.key x hx
 constructor
 ·unfold Ol
  rw [hk]
  dsimp only
  rw [List.length_map, decide_eq_true hl, decide_eq_true hd]
  rcases h.kind with t | t
  ·have : (acc.map G).all Bu = true := by
    rw [List.all_eq_true]
    intro p hp
    obtain ⟨a, hm, rfl⟩ := List.mem_map.mp hp
    exact t a (ha a hm)
   rw [t x hx, this]
   rfl
  ·have : (acc.map G).all Bv = true := by
    rw [List.all_eq_true]
    intro p hp
    obtain ⟨a, hm, rfl⟩ := List.mem_map.mp hp
    exact t a (ha a hm)
   rw [t x hx, this]
   simp
 ·have e : (acc.map G).any (fun p => decide (cO p = cO (G x))) = decide (x ∈ acc) := by
   by_cases c : x ∈ acc
   ·rw [decide_eq_true c, List.any_eq_true]
    exact ⟨G x, List.mem_map.mpr ⟨x, c, rfl⟩, by simp⟩
   ·rw [decide_eq_false c, List.any_eq_false]
    intro p hp
    obtain ⟨a, hm, rfl⟩ := List.mem_map.mp hp
    simp only [decide_eq_true_eq]
    intro z
    rw [h.inj a x (ha a hm) hx z] at hm
    exact c hm
  unfold Om
  rw [e]
  unfold Pu
  by_cases c : x ∈ acc
  ·rw [if_pos (decide_eq_true c), if_pos c]
  ·rw [if_neg (by simpa using c), if_neg c, List.map_append]
   rfl
end
end DN
end
section
namespace DN
open PySem
end DN
end
section
namespace DN
open PySem
end DN
end
section
namespace DN
open PySem
end DN
end
section
namespace DN
open PySem
theorem G4 {α : Type} [DecidableEq α] {xs ys : List α} (nd : xs.Nodup) (h : ∀ x ∈ xs, x ∈ ys) : xs.length ≤ ys.length := by
 induction xs generalizing ys with
 | nil => simp
 | cons x xs ih =>
  obtain ⟨h1, h2⟩ := List.nodup_cons.mp nd
  have hx := h x List.mem_cons_self
  have := ih (ys := ys.erase x) h2 fun y hy => (List.mem_erase_of_ne (fun e => h1 (by rw [← e]; exact hy))).mpr (h y (List.mem_cons_of_mem _ hy))
  rw [List.length_erase_of_mem hx] at this
  have hp : 0 < ys.length := List.length_pos_of_mem hx
  rw [List.length_cons]
  omega
end DN
end
section
namespace DN
open PySem
end DN
end
section
namespace DN
open PySem PySem.Spec PyProof.Rows L2
def uZ (d : D) : M Itm := fun L => match d with
 | .v (.str _) => none
 | d => fU d L
def sG (tab : Nat → Option Nat) (d : D) : M Itm := fun L => match (clsOf L d).bind tab with
 | some i => M.bnd (cM i d) uZ L
 | none => fU d L
def aAV (tab : Nat → Option Nat) (f : aA → M D) (τ : aA) : M Itm := f τ >>= sG tab
section
variable {L : List MO} {E : EX} {τ : aA} {f : aA → M D} {QI : Itm → List MO → Prop}
theorem wp_ownI {tab : Nat → Option Nat} : wp (aAV tab f τ) L E QI = wp (f τ) L E fun d L1 => wp (sG tab d) L1 E QI := wp_bind
theorem aAW {tab : Nat → Option Nat} {d : D} {i : Nat} (h : (clsOf L d).bind tab = some i) : wp (sG tab d) L E QI = wp (cM i d) L E fun e L1 => wp (uZ e) L1 E QI := by
 rw [← yE]
 unfold wp sG
 rw [h]
theorem aAX {tab : Nat → Option Nat} {d : D} (h : (clsOf L d).bind tab = none) : wp (sG tab d) L E QI = wp (fU d) L E QI := by
 unfold wp sG
 rw [h]
end
end DN
end
section
namespace DN
open PySem
structure Ki where
 n : Str
 rs : List Ro
def Ki.ok (k : Ki) : Prop := Nm k.n ∧ (∀ r ∈ k.rs, r.ok) ∧ k.rs.length ≤ 6 ∧ ¬ aAL k.rs
def Ki.p (k : Ki) : P := kP k.n k.rs
def Cg (ks : List Ki) : P := .ins 7 [.tup (ks.map Ki.p)]
section
variable {L : List MO} {E : EX} {Q : D → List MO → Prop}
theorem aAY {ks : List Ki} : wp (cM 3 (.v (Cg ks))) L E Q = Q (.v (.tup (ks.map Ki.p))) L := rZ rfl
theorem aAZ {k : Ki} : wp (cM 0 (.v k.p)) L E Q = Q (.v (.str k.n)) L := rZ rfl
theorem aAa {k : Ki} : wp (cM 2 (.v k.p)) L E Q = Q (.v (.tup (k.rs.map Ro.p))) L := rZ rfl
end
def aAb (ks : List Ki) (x : Str) : Option Ki := ks.find? fun k => decide (k.n = x)
end DN
end
section
namespace DN
open PySem
open L2 (ixN atI)
def aAc (rs : List Ro) (y : Str) : Option Ro := rs.find? fun r => decide (r.n = y)
def G5 (rows : List Row) : P := .ins 8 [.tup (rows.map Gz)]
theorem aAd {rows : List Row} {L : List MO} {E : EX} {Q : D → List MO → Prop} : wp (cM 4 (.v (G5 rows))) L E Q = Q (.v (.tup (rows.map Gz))) L := rZ rfl
def Ed (rows : List Row) (k a b : Str) : Prop := ∃ r ∈ rows, r.1 = k ∧ r.2.1 = a ∧ r.2.2 = b
abbrev lD (rows : List Row) (k : Str) : Str → Str → Prop := Relation.TransGen (Ed rows k)
structure Py (rows : List Row) (k role : Str) (found todo : List Str) : Prop where
 nd : found.Nodup
 ld : ∀ x ∈ found, lD rows k role x
 td : ∀ x ∈ todo, x = role ∨ x ∈ found
theorem aAe {rows : List Row} {k a b : Str} (h : lD rows k a b) : ∃ r ∈ rows, r.2.2 = b := by
 cases h with
 | single h => obtain ⟨r, hr, _, _, e⟩ := h; exact ⟨r, hr, e⟩
 | tail _ h => obtain ⟨r, hr, _, _, e⟩ := h; exact ⟨r, hr, e⟩
theorem aAf {xs ys : List Str} (nd : xs.Nodup) (h : ∀ x ∈ xs, x ∈ ys) : xs.length ≤ ys.length := by
 induction xs generalizing ys with
 | nil => simp
 | cons x xs ih =>
  obtain ⟨h1, h2⟩ := List.nodup_cons.mp nd
  have hx := h x List.mem_cons_self
  have := ih (ys := ys.erase x) h2 fun y hy => (List.mem_erase_of_ne (fun e => h1 (by rw [← e]; exact hy))).mpr (h y (List.mem_cons_of_mem _ hy))
  rw [List.length_erase_of_mem hx] at this
  have hp : 0 < ys.length := List.length_pos_of_mem hx
  rw [List.length_cons]
  omega
theorem Py.len {rows : List Row} {k role : Str} {found todo : List Str} (h : Py rows k role found todo) : found.length ≤ rows.length := by
 have := aAf h.nd (ys := rows.map fun r => r.2.2) fun x hx => by
  obtain ⟨r, hr, e⟩ := aAe (h.ld x hx)
  exact List.mem_map.mpr ⟨r, hr, e⟩
 simpa using this
def Blk (rows : List Row) (k a : Str) : Prop := ∃ x, (x = a ∨ lD rows k a x) ∧ lD rows k x x
theorem aAg {rows : List Row} {k a : Str} : Blk rows k a ↔ ∃ b, Ed rows k a b ∧ Blk rows k b := by
 have first : ∀ {x y}, lD rows k x y → ∃ b, Ed rows k x b ∧ (b = y ∨ lD rows k b y) := fun {x y} h => by
  induction h with
  | single h => exact ⟨_, h, .inl rfl⟩
  | tail h1 h2 ih =>
   obtain ⟨b, e, z⟩ := ih
   refine ⟨b, e, .inr ?_⟩
   rcases z with rfl | z
   ·exact .single h2
   ·exact .tail z h2
 constructor
 ·rintro ⟨x, hx, hc⟩
  rcases hx with rfl | hx
  ·obtain ⟨b, e, z⟩ := first hc
   refine ⟨b, e, ?_⟩
   rcases z with rfl | z
   ·exact ⟨_, .inl rfl, hc⟩
   ·exact ⟨x, .inr z, hc⟩
  ·obtain ⟨b, e, z⟩ := first hx
   refine ⟨b, e, x, ?_, hc⟩
   exact z.imp Eq.symm id
 ·rintro ⟨b, e, x, hx, hc⟩
  refine ⟨x, .inr ?_, hc⟩
  rcases hx with rfl | hx
  ·exact .single e
  ·exact Relation.TransGen.trans (.single e) hx
end DN
end
section
namespace DN
open PySem
end DN
namespace DN
open PySem
end DN
end
section
namespace DN
open PySem
def fiR (ks : List Ki) (x y : Str) : Option Ro := (aAb ks x).bind fun k => aAc k.rs y
end DN
end
section
namespace DN
open PySem
theorem aAi {L Lb X : List MO} {n : Nat} {Q : D → List MO → Prop} {xs : List P} (h1 : Lb.length = L.length) (h2 : aW L Lb) (hn : X[n]? = some (.lst xs)) (h : Q (.r L.length) (Lb ++ [.lst xs])) : oX true L Q (.r (L.length + n)) (Lb ++ X) := by
 refine ⟨Lb, X, rfl, h1, h2, ?_⟩
 rw [if_neg (by omega)]
 refine ⟨xs, by rw [Nat.add_sub_cancel_left]; exact hn, ?_⟩
 rw [if_pos rfl]
 exact h
end DN
end
section
namespace DN
open PySem PySem.Spec PyProof.Rows L2
def vA : D → D → M D := fun x y L => match cI L x, cI L y with
 | some a, some b => if a.length + b.length ≤ sizeLine then some (.ok (.r L.length), L ++ [.lst (a ++ b)]) else none
 | _, _ => none
theorem aAj {g : G} : cU g vA rCat := by
 intro F ρ L H x y d e W Q hR hx hy hp
 unfold vA at hp
 match e1 : cI L d, e2 : cI L e with
 | some a, some b =>
  rw [e1, e2] at hp
  dsimp only at hp
  by_cases hz : a.length + b.length ≤ sizeLine
  ·rw [if_pos hz] at hp
   obtain ⟨p, vs, r1, h1, i1⟩ := vW hR hx e1
   obtain ⟨q, ws, r2, h2, i2⟩ := vW hR hy e2
   exact ⟨p, q, vs, ws, r1, r2, h1, h2, by rw [i1.len, i2.len]; exact hz, fun n hn => hp.newL hR (i1.append i2) hn⟩
  ·rw [if_neg hz] at hp
   exact False.elim hp
 | none, _ =>
  rw [e1] at hp
  exact False.elim hp
 | some a, none =>
  rw [e1, e2] at hp
  exact False.elim hp
end DN
end
section
namespace DN
open PySem PySem.Spec PyProof.Rows L2 He
section
variable {X : Cx} {g : G} {W : WX} {a b c e o : Expr} {fa fb fc f : aA → M D} {p pos : Pos} {k n : Nat} {fn : List D → M D} {od : D → D → M D}
noncomputable def yK (tab : Nat → Option (List D → M D)) (od : D → D → M D) : D → D → M D := fun x y L => match (clsOf L x).bind tab with
 | some fn => fn [x, y] L
 | none => od x y L
noncomputable def vB (tab : Nat → Option (List D → M D)) (x y v : D) : M D := fun L => match (clsOf L x).bind tab with
 | some fn => fn [x, y, v] L
 | none => none
noncomputable def Qc (tab : Nat → Option (List D → M D)) (fo fi fv : aA → M D) : SX := bW fv fun v => bW fo fun x => bW fi fun y => gR fun _ => vB tab x y v
end
section
variable {L : List MO} {E : EX} {Q : D → List MO → Prop}
theorem aAk {tab : Nat → Option (List D → M D)} {x y : D} {fn : List D → M D} (h : (clsOf L x).bind tab = some fn) : wp (yK tab bR x y) L E Q = wp (fn [x, y]) L E Q := by
 unfold wp yK
 rw [h]
theorem aAl {tab : Nat → Option (List D → M D)} {x y : D} (h : (clsOf L x).bind tab = none) : wp (yK tab bR x y) L E Q = wp (bR x y) L E Q := by
 unfold wp yK
 rw [h]
theorem aAm {tab : Nat → Option (List D → M D)} {x y v : D} {fn : List D → M D} (h : (clsOf L x).bind tab = some fn) : wp (vB tab x y v) L E Q = wp (fn [x, y, v]) L E Q := by
 unfold wp vB
 rw [h]
end
end DN
end
section
namespace DN
open PySem PySem.Spec PyProof.Rows L2
def Qe (b : Bool) (h : Heap) (a : Addr) (items : Array Value) : Prop := if b = true then h.IsList a items else h.IsTuple a items
def sH (b : Bool) (h : Heap) (it a : Addr) (i : Nat) : Prop := if b = true then h.IsListIter it a i else h.IsTupleIter it a i
theorem sH.at {b : Bool} {h h' : Heap} {it a : Addr} {i : Nat} (x : sH b h it a i) (e : ∀ o, h.get? it = some o → h'.get? it = some o) : sH b h' it a i := by
 cases b with
 | false => exact Heap.IsTupleIter.at x e
 | true => exact Heap.IsListIter.at x e
theorem sH.ex {b : Bool} {h : Heap} {it a : Addr} {i : Nat} (x : sH b h it a i) : ∃ o, h.get? it = some o ∧ ∀ v, o.data ≠ .cell v := by
 cases b with
 | false =>
  obtain ⟨o, ho, _, hd⟩ := (show h.IsTupleIter it a i from x)
  exact ⟨o, ho, fun v q => by rw [hd] at q; cases q⟩
 | true =>
  obtain ⟨o, ho, _, hd⟩ := (show h.IsListIter it a i from x)
  exact ⟨o, ho, fun v q => by rw [hd] at q; cases q⟩
theorem Qe.lt {b : Bool} {h : Heap} {a : Addr} {items : Array Value} (x : Qe b h a items) : a < h.objs.size := by
 cases b with
 | false =>
  obtain ⟨o, ho, _⟩ := (show h.IsTuple a items from x)
  exact Heap.lt_size ho
 | true =>
  obtain ⟨o, ho, _⟩ := (show h.IsList a items from x)
  exact Heap.lt_size ho
theorem sH.new {b : Bool} {h : Heap} {it a : Addr} (e : h.get? it = some { cls := .type (if b = true then "list_iterator" else "tuple_iterator"), data := .fields #[.ref a, .int 0 0] }) : sH b h it a 0 := by
 cases b with
 | false => exact ⟨_, e, rfl, rfl⟩
 | true => exact ⟨_, e, rfl, rfl⟩
def asQ (L : List MO) : D → Option (Bool × List P)
 | .v (.tup xs) => some (false, xs)
 | d => (cI L d).map fun xs => (true, xs)
end DN
end
section
namespace DN
open PySem PySem.W
open PySem.Sem (wp)
section
variable {prog : Program} {w : World} {A : Around} {E : Value → Shared → Prop} {s : Shared} {z TI TO i1 i2 T : Addr} {fp1 fp2 : List Addr} {n1 n2 i : Nat} {P1 P2 : Nat → Value → Prop} {St1 St2 : Nat → Heap → Prop} {a1 a2 : Value} {f : Bool} {oT : Obj}
abbrev aAo (h : Heap) (z TI TO : Addr) (f0 : Value) (f : Bool) : Prop := h.get? z = some { cls := .type "zip", dict := none, data := .fields #[f0, .bool f, .bool false, .ref TI, .ref TO], slots := #[] }
def yL (h : Heap) (z TI TO : Addr) : Prop := aAo h z TI TO .none false ∨ ∃ T f, IsZipHeld h z TI TO T f
end
end DN
end
section
namespace DN
open PySem PySem.W
open PySem.Sem (wp)
section
variable {prog : Program} {w : World} {A : Around} {E : Value → Shared → Prop} {s : Shared} {e z TI TO i1 i2 T : Addr} {fp1 fp2 : List Addr} {n1 n2 i : Nat} {P1 P2 : Nat → Value → Prop} {St1 St2 : Nat → Heap → Prop} {c : Int} {old : Value}
theorem yL.typeIs (h : yL s.heap z TI TO) : s.TypeIs (.ref z) "zip" := by
 rcases h with h | ⟨T, f, h⟩
 ·exact ⟨_, h, rfl⟩
 ·exact ⟨_, h, rfl⟩
theorem yL.at {h h' : Heap} (x : yL h z TI TO) (k : ∀ o, h.get? z = some o → h'.get? z = some o) : yL h' z TI TO := by
 rcases x with x | ⟨T, f, x⟩
 ·exact .inl (k _ x)
 ·exact .inr ⟨T, f, k _ x⟩
end
end DN
end
section
namespace DN
open PySem PySem.Spec PyProof.Rows L2
end DN
end
section
namespace DN
open PySem PySem.Spec PyProof.Rows L2
end DN
end
section
namespace DN
open PySem PySem.Spec PyProof.Rows L2
end DN
end
section
namespace DN
open PySem
def Qg (rs : List Ro) (ps : List Pg) : Prop := ps.map Prod.fst = rs.map Ro.g ∧ (∀ p ∈ ps, 0 ≤ p.2 ∧ p.2 ≤ 9999) ∧ ps.Nodup
end DN
end
section
namespace DN
open PySem
open L2 (ixN atI)
section
variable {α : Type} {L X Y : List MO} {E : EX} {Q : D → List MO → Prop} {QI : Itm → List MO → Prop} {QB : Bool → List MO → Prop}
def nW : Option MO → (List P → Prop) → Prop
 | some (.lst xs), q => q xs
 | _, _ => False
def lstB : Option MO → Bool
 | some (.lst _) => true
 | _ => false
def G6 : Option MO → (Nat → List (Nat × D) → Prop) → Prop
 | some (.ins c fs), q => q c fs
 | _, _ => False
def Qh : Option MO → Option Nat
 | some (.ins c _) => some c
 | _ => none
def sJ : Option α → (α → Prop) → Prop
 | some a, q => q a
 | none, _ => False
theorem lstW_some {xs : List P} {q : List P → Prop} : nW (some (.lst xs)) q = q xs := rfl
theorem lstB_some {xs : List P} : lstB (some (.lst xs)) = true := rfl
theorem insW_some {c : Nat} {fs : List (Nat × D)} {q : Nat → List (Nat × D) → Prop} : G6 (some (.ins c fs)) q = q c fs := rfl
theorem clsO_some {c : Nat} {fs : List (Nat × D)} : Qh (some (.ins c fs)) = some c := rfl
theorem optW_some {a : α} {q : α → Prop} : sJ (some a) q = q a := rfl
theorem obind_some {β : Type} {a : α} {f : α → Option β} : (some a).bind f = f a := rfl
theorem lg_len : (L ++ X).length = L.length + X.length := List.length_append
theorem lg_app : (L ++ X) ++ Y = L ++ (X ++ Y) := List.append_assoc ..
theorem lg_nil : L ++ [] = L := List.append_nil _
theorem qO {k : Nat} : (L ++ X)[L.length + k]? = X[k]? := by
 rw [List.getElem?_append_right (by omega), Nat.add_sub_cancel_left]
theorem lE : (L ++ X)[L.length]? = X[0]? := qO (k := 0)
theorem Qi {k : Nat} {m : MO} : (L ++ X).set (L.length + k) m = L ++ X.set k m := by
 rw [List.set_append_right _ _ (by omega), Nat.add_sub_cancel_left]
theorem lg_set0 {m : MO} : (L ++ X).set L.length m = L ++ X.set 0 m := Qi (k := 0)
theorem lg_slen {n : Nat} {m : MO} : (L.set n m).length = L.length := List.length_set
theorem aAp {k n : Nat} {m : MO} : (L.set n m ++ X)[L.length + k]? = X[k]? := by
 have := qO (L := L.set n m) (X := X) (k := k)
 rwa [List.length_set] at this
theorem lg_sget0 {n : Nat} {m : MO} : (L.set n m ++ X)[L.length]? = X[0]? := aAp (k := 0)
theorem aAq {k n : Nat} {m m' : MO} : (L.set n m ++ X).set (L.length + k) m' = L.set n m ++ X.set k m' := by
 have := Qi (L := L.set n m) (X := X) (k := k) (m := m')
 rwa [List.length_set] at this
theorem lg_sset0 {n : Nat} {m m' : MO} : (L.set n m ++ X).set L.length m' = L.set n m ++ X.set 0 m' := aAq (k := 0)
theorem lg_set2 {n : Nat} {m m' : MO} : (L.set n m).set n m' = L.set n m' := List.set_set ..
theorem aAr {n : Nat} {m : MO} (h : n < L.length) : (L.set n m)[n]? = some m := List.getElem?_set_self h
theorem G7 {n k : Nat} {m : MO} (h : n ≠ k) : (L.set n m)[k]? = L[k]? := List.getElem?_set_ne h
theorem aAs {n : Nat} {m : MO} (h : L[n]? = some m) : n < L.length := (List.getElem?_eq_some_iff.mp h).1
theorem wpz_itm {n : Nat} : wp (fU (.r n)) L E QI = nW L[n]? fun xs => QI (xs, fun L' => L'[n]? = some (.lst xs)) L := by
 unfold wp fU
 match e : L[n]? with
 | some (.lst xs) => simp only [e]; rfl
 | none => simp only [e]; rfl
 | some (.dk _) => simp only [e]; rfl
 | some (.dn _) => simp only [e]; rfl
 | some (.ins _ _) => simp only [e]; rfl
 | some (.set _) => simp only [e]; rfl
 | some .dead => simp only [e]; rfl
theorem wpz_len {n : Nat} : wp (jP [.r n]) L E Q = nW L[n]? fun xs => Q (.v (.int xs.length)) L := by
 unfold wp jP eG fQ cR cI
 match e : L[n]? with
 | some (.lst xs) => simp only [e]; rfl
 | none => simp only [e]; rfl
 | some (.dk _) => simp only [e]; rfl
 | some (.dn _) => simp only [e]; rfl
 | some (.ins _ _) => simp only [e]; rfl
 | some (.set _) => simp only [e]; rfl
 | some .dead => simp only [e]; rfl
theorem wpz_append {n : Nat} {p : P} : wp (jC (.r n) [.v p]) L E Q = nW L[n]? fun xs => xs.length < sizeLine ∧ Q (.v .non) (L.set n (.lst (xs ++ [p]))) := by
 unfold jC iU
 match e : L[n]? with
 | some (.lst xs) => exact jF (by simp only [e])
 | none => unfold wp; simp only [e]; rfl
 | some (.dk _) => unfold wp; simp only [e]; rfl
 | some (.dn _) => unfold wp; simp only [e]; rfl
 | some (.ins _ _) => unfold wp; simp only [e]; rfl
 | some (.set _) => unfold wp; simp only [e]; rfl
 | some .dead => unfold wp; simp only [e]; rfl
theorem tylz_r {n : Nat} : gW L (.r n) = lstB L[n]? := by
 unfold gW cR cI
 match e : L[n]? with
 | some (.lst xs) => simp only [e]; rfl
 | none => simp only [e]; rfl
 | some (.dk _) => simp only [e]; rfl
 | some (.dn _) => simp only [e]; rfl
 | some (.ins _ _) => simp only [e]; rfl
 | some (.set _) => simp only [e]; rfl
 | some .dead => simp only [e]; rfl
theorem tylz_v {xs : List P} : gW L (.v (.lst xs)) = true := rfl
theorem wpz_tuple {n : Nat} : wp (zR [.r n]) L E Q = nW L[n]? fun xs => Q (.v (.tup xs)) L := by
 unfold wp zR eG fQ cR cI
 match e : L[n]? with
 | some (.lst xs) => simp only [e]; rfl
 | none => simp only [e]; rfl
 | some (.dk _) => simp only [e]; rfl
 | some (.dn _) => simp only [e]; rfl
 | some (.ins _ _) => simp only [e]; rfl
 | some (.set _) => simp only [e]; rfl
 | some .dead => simp only [e]; rfl
theorem wpz_frz {n : Nat} : wp (nU (.r n)) L E Q = nW L[n]? fun xs => Q (.v (.lst xs)) (L.set n .dead) := by
 match e : L[n]? with
 | some (.lst xs) => rw [aAS e]; rfl
 | none => unfold wp nU; simp only [e]; rfl
 | some (.dk _) => unfold wp nU; simp only [e]; rfl
 | some (.dn _) => unfold wp nU; simp only [e]; rfl
 | some (.ins _ _) => unfold wp nU; simp only [e]; rfl
 | some (.set _) => unfold wp nU; simp only [e]; rfl
 | some .dead => unfold wp nU; simp only [e]; rfl
theorem wpz_tupv {xs : List P} : wp (zR [.v (.tup xs)]) L E Q = Q (.v (.tup xs)) L := rfl
theorem wpz_tupl {xs : List P} : wp (zR [.v (.lst xs)]) L E Q = Q (.v (.tup xs)) L := rfl
theorem wpz_listv {xs : List P} : wp (zU false [.v (.lst xs)]) L E Q = Q (.v (.lst xs)) L := rfl
theorem wpz_listn {xs : List P} : wp (zU true [.v (.lst xs)]) L E Q = Q (.r L.length) (L ++ [.lst xs]) := rfl
theorem wpz_listr {mu : Bool} {n : Nat} : wp (zU mu [.r n]) L E Q = nW L[n]? fun xs => if mu = true then Q (.r L.length) (L ++ [.lst xs]) else Q (.v (.lst xs)) L := by
 unfold wp zU eG fQ cR cI
 match e : L[n]? with
 | some (.lst xs) => simp only [e]; cases mu <;> rfl
 | none => simp only [e]; rfl
 | some (.dk _) => simp only [e]; rfl
 | some (.dn _) => simp only [e]; rfl
 | some (.ins _ _) => simp only [e]; rfl
 | some (.set _) => simp only [e]; rfl
 | some .dead => simp only [e]; rfl
theorem aAt {n : Nat} : clsOf L (.r n) = Qh L[n]? := by
 unfold clsOf
 match e : L[n]? with
 | some (.ins _ _) => simp only [e]; rfl
 | some (.lst xs) => simp only [e]; rfl
 | none => simp only [e]; rfl
 | some (.dk _) => simp only [e]; rfl
 | some (.dn _) => simp only [e]; rfl
 | some (.set _) => simp only [e]; rfl
 | some .dead => simp only [e]; rfl
theorem aAu {c : Nat} {ps : List P} : clsOf L (.v (.ins c ps)) = some c := rfl
theorem wpz_attr {i n : Nat} : wp (cM i (.r n)) L E Q = G6 L[n]? fun _ fs => sJ (jR fs i) fun d => Q d L := by
 unfold wp cM
 match e : L[n]? with
 | some (.ins _ fs) =>
  simp only [e]
  show _ = sJ (jR fs i) fun d => Q d L
  cases jR fs i <;> rfl
 | some (.lst xs) => simp only [e]; rfl
 | none => simp only [e]; rfl
 | some (.dk _) => simp only [e]; rfl
 | some (.dn _) => simp only [e]; rfl
 | some (.set _) => simp only [e]; rfl
 | some .dead => simp only [e]; rfl
theorem wpz_attv {i c : Nat} {ps : List P} : wp (cM i (.v (.ins c ps))) L E Q = sJ (fget (aN c) ps i) fun p => Q (.v p) L := by
 cases h : fget (aN c) ps i <;> simp [wp, cM, h, sJ]
theorem wpz_satt {i n : Nat} {d : D} {QU : Unit → List MO → Prop} : wp (oV i d (.r n)) L E QU = G6 L[n]? fun c fs => i ∈ aN c ∧ QU () (L.set n (.ins c (gY i d fs))) := by
 unfold oV
 match e : L[n]? with
 | some (.ins _ fs) => exact jF (by simp only [e])
 | some (.lst xs) => unfold wp; simp only [e]; rfl
 | none => unfold wp; simp only [e]; rfl
 | some (.dk _) => unfold wp; simp only [e]; rfl
 | some (.dn _) => unfold wp; simp only [e]; rfl
 | some (.set _) => unfold wp; simp only [e]; rfl
 | some .dead => unfold wp; simp only [e]; rfl
theorem flz_cons {i j : Nat} {d : D} {fs : List (Nat × D)} : jR ((i, d) :: fs) j = if i = j then some d else jR fs j := rfl
theorem fpz_nil {i : Nat} {d : D} : gY i d [] = [(i, d)] := rfl
theorem fpz_cons {i j : Nat} {d e : D} {fs : List (Nat × D)} : gY i d ((j, e) :: fs) = if j = i then (j, d) :: fs else (j, e) :: gY i d fs := rfl
theorem fgz_cons {i j : Nat} {p : P} {is : List Nat} {ps : List P} : fget (i :: is) (p :: ps) j = if i = j then some p else fget is ps j := rfl
theorem flT_0 : aN 0 = [0, 1] := rfl
theorem flT_6 : aN 6 = [0, 2] := rfl
theorem flT_7 : aN 7 = [3] := rfl
theorem flT_8 : aN 8 = [4] := rfl
theorem flT_9 : aN 9 = [5, 6] := rfl
theorem flT_10 : aN 10 = [7, 8, 9] := rfl
theorem flT_11 : aN 11 = [10, 11] := rfl
theorem flT_12 : aN 12 = [4] := rfl
theorem flT_13 : aN 13 = [10, 12, 13, 14] := rfl
theorem flT_14 : aN 14 = [15, 16] := rfl
theorem flT_15 : aN 15 = [17, 18] := rfl
theorem flT_16 : aN 16 = [19, 20, 21, 22, 23] := rfl
theorem lz_mem {α : Type} {a b : α} {l : List α} : (a ∈ b :: l) = (a = b ∨ a ∈ l) := propext List.mem_cons
theorem lz_eq {α : Type} {a : α} : (a = a) = True := eq_self a
theorem lz_ort {p : Prop} : (p ∨ True) = True := or_true p
theorem lz_tor {p : Prop} : (True ∨ p) = True := true_or p
theorem lz_orf {p : Prop} : (p ∨ False) = p := or_false p
theorem lz_for {p : Prop} : (False ∨ p) = p := false_or p
theorem lz_ift {α : Type} {p : Prop} {h : Decidable (true = true)} {a b : α} : @ite α (true = true) h a b = a := if_pos rfl
theorem lz_iff {α : Type} {h : Decidable (false = true)} {a b : α} : @ite α (false = true) h a b = b := if_neg Bool.false_ne_true
theorem wpz_ixL0 {p : P} {xs : List P} : wp (bR (.v (.lst (p :: xs))) (.v (.int 0))) L E Q = Q (.v p) L := nQ (i := 0) rfl
theorem wpz_ixL1 {p q : P} {xs : List P} : wp (bR (.v (.lst (p :: q :: xs))) (.v (.int 1))) L E Q = Q (.v q) L := nQ (i := 1) rfl
theorem wpz_ixL2 {p q r : P} {xs : List P} : wp (bR (.v (.lst (p :: q :: r :: xs))) (.v (.int 2))) L E Q = Q (.v r) L := nQ (i := 2) rfl
theorem wpz_isNN {neg : Bool} : wp (rG neg (.v .non) (.v .non)) L E Q = Q (.v (.bl (!neg))) L := by cases neg <;> rfl
theorem wpz_isNi {neg : Bool} {i : Int} : wp (rG neg (.v (.int i)) (.v .non)) L E Q = Q (.v (.bl neg)) L := by cases neg <;> rfl
theorem wpz_isNs {neg : Bool} {x : Str} : wp (rG neg (.v (.str x)) (.v .non)) L E Q = Q (.v (.bl neg)) L := by cases neg <;> rfl
theorem wpz_isNt {neg : Bool} {xs : List P} : wp (rG neg (.v (.tup xs)) (.v .non)) L E Q = Q (.v (.bl neg)) L := by cases neg <;> rfl
theorem wpz_isNl {neg : Bool} {xs : List P} : wp (rG neg (.v (.lst xs)) (.v .non)) L E Q = Q (.v (.bl neg)) L := by cases neg <;> rfl
theorem wpz_isNo {neg : Bool} {c : Nat} {ps : List P} : wp (rG neg (.v (.ins c ps)) (.v .non)) L E Q = Q (.v (.bl neg)) L := by cases neg <;> rfl
theorem wpz_isNr {neg : Bool} {n : Nat} : wp (rG neg (.r n) (.v .non)) L E Q = Q (.v (.bl neg)) L := by cases neg <;> rfl
def G8 : Option MO → Option Tg
 | some (.lst _) => some .lst
 | some (.ins c _) => some (.ins c)
 | _ => none
theorem tagO_lst {xs : List P} : G8 (some (.lst xs)) = some .lst := rfl
theorem tagO_ins {c : Nat} {fs : List (Nat × D)} : G8 (some (.ins c fs)) = some (.ins c) := rfl
theorem tagz_r {n : Nat} : tagOf L (.r n) = G8 L[n]? := by
 unfold tagOf
 match e : L[n]? with
 | some (.ins _ _) => simp only [e]; rfl
 | some (.lst xs) => simp only [e]; rfl
 | none => simp only [e]; rfl
 | some (.dk _) => simp only [e]; rfl
 | some (.dn _) => simp only [e]; rfl
 | some (.set _) => simp only [e]; rfl
 | some .dead => simp only [e]; rfl
theorem tagz_non : tagOf L (.v .non) = some .non := rfl
theorem tagz_bl {b : Bool} : tagOf L (.v (.bl b)) = some .bl := rfl
theorem tagz_int {i : Int} : tagOf L (.v (.int i)) = some .int := rfl
theorem tagz_str {x : Str} : tagOf L (.v (.str x)) = some .str := rfl
theorem tagz_tup {xs : List P} : tagOf L (.v (.tup xs)) = some .tup := rfl
theorem tagz_lst {xs : List P} : tagOf L (.v (.lst xs)) = some .lst := rfl
theorem tagz_ins {c : Nat} {ps : List P} : tagOf L (.v (.ins c ps)) = some (.ins c) := rfl
theorem wpz_isi {tab : Tg → Option Bool} {d : D} : wp (lA tab d) L E Q = sJ ((tagOf L d).bind tab) fun b => Q (.v (.bl b)) L := by
 unfold wp lA
 cases (tagOf L d).bind tab <;> rfl
def G9 (o : Option Nat) (a : Nat → Prop) (b : Prop) : Prop := match o with
 | some i => a i
 | none => b
theorem ownW_some {i : Nat} {a : Nat → Prop} {b : Prop} : G9 (some i) a b = a i := rfl
theorem ownW_none {a : Nat → Prop} {b : Prop} : G9 none a b = b := rfl
theorem wpz_own {tab : Nat → Option Nat} {d : D} : wp (sG tab d) L E QI = G9 ((clsOf L d).bind tab) (fun i => wp (cM i d) L E fun e L1 => wp (uZ e) L1 E QI) (wp (fU d) L E QI) := by
 cases h : (clsOf L d).bind tab with
 | none => exact aAX h
 | some i => exact aAW h
theorem wpz_itmQt {xs : List P} : wp (uZ (.v (.tup xs))) L E QI = QI (xs, fun _ => True) L := rfl
theorem wpz_itmQr {n : Nat} : wp (uZ (.r n)) L E QI = wp (fU (.r n)) L E QI := rfl
theorem wpz_itmQl {xs : List P} : wp (uZ (.v (.lst xs))) L E QI = wp (fU (.v (.lst xs))) L E QI := rfl
theorem aAv {α : Type} {f : α → P} {ys : List α} {ok : List MO → Prop} {tg : dF} {body : SX} {τ : aA} {k : KK} (J : List α → aA → List MO → Prop) (h0 : J [] τ L) (hok : ∀ zs τ L, J zs τ L → ok L)
  (hs : ∀ zs y ws τ L, ys = zs ++ y :: ws → J zs τ L → ∃ τ1, tg (f y) τ = some τ1 ∧ wps body τ1 L { k with nx := J (zs ++ [y]), ct := J (zs ++ [y]), bk := k.nx })
  (he : ∀ τ L, J ys τ L → k.nx τ L) : wps (jQ ok tg body (ys.map f)) τ L k := by
 refine Bo (fun i => J (ys.take i)) _ 0 h0 (fun i τ L h => hok _ τ L h) ?_ ?_
 ·intro i p τ L hp hj
  rw [List.getElem?_map] at hp
  cases ey : ys[i]? with
  | none => rw [ey] at hp; cases hp
  | some y =>
  rw [ey] at hp
  cases hp
  obtain ⟨hlt, e⟩ := List.getElem?_eq_some_iff.mp ey
  have e1 : ys = ys.take i ++ y :: ys.drop (i + 1) := by
   rw [← e, List.getElem_cons_drop, List.take_append_drop]
  have tk : ys.take (0 + i + 1) = ys.take i ++ [y] := by rw [Nat.zero_add, List.take_succ, ey]; rfl
  rw [Nat.zero_add] at hj
  obtain ⟨τ1, a, b⟩ := hs (ys.take i) y (ys.drop (i + 1)) τ L e1 hj
  refine ⟨τ1, a, ?_⟩
  rw [tk]
  exact b
 ·intro τ L hj
  rw [List.length_map, Nat.zero_add, List.take_length] at hj
  exact he τ L hj
theorem Ql {n : Nat} {ok : List MO → Prop} {tg : dF} {body : SX} {τ : aA} {k : KK} (J : Nat → aA → List MO → Prop) (h0 : J 0 τ L) (hok : ∀ i τ L, J i τ L → ok L)
  (hs : ∀ i τ L, i < n → J i τ L → ∃ τ1, tg (.int (i : Nat)) τ = some τ1 ∧ wps body τ1 L { k with nx := J (i + 1), ct := J (i + 1), bk := k.nx })
  (he : ∀ τ L, J n τ L → k.nx τ L) : wps (jQ ok tg body ((List.range n).map fun i : Nat => P.int (0 + i))) τ L k := by
 refine Bo J _ 0 h0 (fun i τ L h => hok _ τ L h) ?_ ?_
 ·intro i p τ L hp hj
  rw [List.getElem?_map] at hp
  cases ey : (List.range n)[i]? with
  | none => rw [ey] at hp; cases hp
  | some y =>
  rw [ey] at hp
  obtain ⟨hlt, e⟩ := List.getElem?_eq_some_iff.mp ey
  rw [List.length_range] at hlt
  rw [List.getElem_range] at e
  subst e
  have e2 : p = .int (i : Nat) := by
   have : P.int (0 + ((i : Nat) : Int)) = p := Option.some.inj hp
   rw [← this, Int.zero_add]
  subst e2
  rw [Nat.zero_add] at hj ⊢
  exact hs i τ L hlt hj
 ·intro τ L hj
  rw [List.length_map, List.length_range, Nat.zero_add] at hj
  exact he τ L hj
end
end DN
end
section
namespace DN
open PySem
structure Sp where
 k : Ki
 ps : List Pg
def Sp.ok (s : Sp) : Prop := s.k.ok ∧ Qg s.k.rs s.ps
def Sp.p (s : Sp) (n : Nat) : P := .ins 10 [.int n, s.k.p, .tup (s.ps.map G3)]
def Qm (ss : List Sp) : List P := ss.zipIdx.map fun x => x.1.p (x.2 + 1)
def Sp.mk' (s : Sp) : List Pg := (s.k.rs.zip s.ps).filterMap fun x => if 0 < x.1.m then some x.2 else none
def vers (ss : List Sp) (p : Pg) : List Nat := 0 :: ss.zipIdx.filterMap fun x => if p ∈ x.1.mk' then some (x.2 + 1) else none
def aAw (n : Nat) : P := .int n
section
variable {L : List MO} {E : EX} {Q : D → List MO → Prop} {ks : List Ki} {k : Ki} {s : Sp} {n : Nat} {rows : List Row}
theorem clsz_kat : clsOf L (.v (Cg ks)) = some 7 := rfl
theorem wpz_katK : wp (cM 3 (.v (Cg ks))) L E Q = Q (.v (.tup (ks.map Ki.p))) L := aAY
theorem wpz_kiN : wp (cM 0 (.v k.p)) L E Q = Q (.v (.str k.n)) L := aAZ
theorem wpz_kiR : wp (cM 2 (.v k.p)) L E Q = Q (.v (.tup (k.rs.map Ro.p))) L := aAa
theorem clsz_ki : clsOf L (.v k.p) = some 6 := rfl
theorem clsz_sp : clsOf L (.v (s.p n)) = some 10 := rfl
theorem wpz_spN : wp (cM 7 (.v (s.p n))) L E Q = Q (.v (.int n)) L := rZ rfl
theorem wpz_spK : wp (cM 8 (.v (s.p n))) L E Q = Q (.v s.k.p) L := rZ rfl
theorem wpz_spP : wp (cM 9 (.v (s.p n))) L E Q = Q (.v (.tup (s.ps.map G3))) L := rZ rfl
theorem clsz_wt : clsOf L (.v (G5 rows)) = some 8 := rfl
theorem wpz_wtA : wp (cM 4 (.v (G5 rows))) L E Q = Q (.v (.tup (rows.map Gz))) L := aAd
end
theorem oZ {ss : List Sp} {p : Pg} {v : Nat} : v ∈ vers ss p ↔ v = 0 ∨ ∃ i s, ss[i]? = some s ∧ p ∈ s.mk' ∧ v = i + 1 := by
 unfold vers
 rw [List.mem_cons, List.mem_filterMap]
 refine or_congr Iff.rfl ⟨?_, ?_⟩
 ·rintro ⟨⟨s, i⟩, hx, e⟩
  split at e
  ·rename_i c
   cases e
   exact ⟨i, s, List.mem_zipIdx_iff_getElem?.mp hx, c, rfl⟩
  ·cases e
 ·rintro ⟨i, s, e, c, rfl⟩
  exact ⟨(s, i), List.mem_zipIdx_iff_getElem?.mpr e, by rw [if_pos c]⟩
theorem aAx {α : Type} (xs : List α) (k : Nat) : (xs.zipIdx k).Pairwise fun a b => a.2 < b.2 := by
 rw [List.pairwise_iff_getElem]
 intro i j hi hj hij
 rw [List.getElem_zipIdx, List.getElem_zipIdx]
 dsimp only
 omega
theorem aAy (ss : List Sp) (p : Pg) : (vers ss p).Pairwise (· < ·) := by
 unfold vers
 rw [List.pairwise_cons]
 constructor
 ·intro v hv
  obtain ⟨x, _, e⟩ := List.mem_filterMap.mp hv
  split at e
  ·cases e; omega
  ·cases e
 ·rw [List.pairwise_filterMap]
  refine List.Pairwise.imp ?_ (aAx ss 0)
  intro a b hab v e w e2
  split at e
  ·split at e2
   ·cases e; cases e2; omega
   ·cases e2
  ·cases e
theorem aAz (ss : List Sp) (s : Sp) (p : Pg) : vers (ss ++ [s]) p = vers ss p ++ if p ∈ s.mk' then [ss.length + 1] else [] := by
 unfold vers
 rw [List.zipIdx_append, List.filterMap_append, List.cons_append]
 congr 2
 by_cases c : p ∈ s.mk' <;> simp [c]
theorem Qn {ss : List Sp} {p : Pg} {v : Nat} (h : v ∈ vers ss p) : v ≤ ss.length := by
 rcases oZ.mp h with e | ⟨i, s, e, _, rfl⟩
 ·omega
 ·have := (List.getElem?_eq_some_iff.mp e).1; omega
theorem aA0 {xs : List Nat} {m : Nat} (h : xs.Pairwise (· < ·)) (e : xs.getLast? = some m) : ∀ x ∈ xs, x ≤ m := by
 obtain ⟨ys, rfl⟩ := List.getLast?_eq_some_iff.mp e
 intro x hx
 rcases List.mem_append.mp hx with z | z
 ·exact Nat.le_of_lt ((List.pairwise_append.mp h).2.2 x z m List.mem_cons_self)
 ·rw [List.mem_singleton.mp z]; exact Nat.le_refl _
def Hf (ss : List Sp) : List Pg := Ce Pr (ss.flatMap Sp.ps)
theorem aA1 {ss : List Sp} {p : Pg} : p ∈ Hf ss ↔ ∃ s ∈ ss, p ∈ s.ps := by
 unfold Hf
 rw [Pq, List.mem_flatMap]
theorem zip_look {α β : Type} {xs : List α} {ys : List β} (h : xs.length = ys.length) {y : β} (hy : y ∈ ys) : ∃ x, (x, y) ∈ xs.zip ys := by
 obtain ⟨i, hi, e⟩ := List.getElem_of_mem hy
 refine ⟨xs[i]'(by omega), ?_⟩
 rw [← e]
 have : (xs.zip ys)[i]'(by rw [List.length_zip]; omega) = (xs[i]'(by omega), ys[i]) := List.getElem_zip
 rw [← this]
 exact List.getElem_mem _
theorem aA2 {rs : List Ro} {ps : List Pg} (h : Qg rs ps) : rs.length = ps.length := by
 have := congrArg List.length h.1
 rwa [List.length_map, List.length_map, eq_comm] at this
theorem aA3 {s : Sp} {p : Pg} : p ∈ s.mk' ↔ ∃ r, (r, p) ∈ s.k.rs.zip s.ps ∧ 0 < r.m := by
 unfold Sp.mk'
 rw [List.mem_filterMap]
 constructor
 ·rintro ⟨x, hx, e⟩
  split at e
  ·rename_i c; cases e; exact ⟨x.1, hx, c⟩
  ·cases e
 ·rintro ⟨r, h, c⟩
  exact ⟨_, h, by rw [if_pos c]⟩
theorem aA4 {s : Sp} {p : Pg} (h : p ∈ s.mk') : p ∈ s.ps := by
 obtain ⟨r, h, _⟩ := aA3.mp h
 exact (List.of_mem_zip h).2
structure nY (L : List MO) (n m : Nat) (ks : List Ki) (ss : List Sp) : Prop where
 o : L[n]? = some (.ins 11 [(10, .v (Cg ks)), (11, .r m)])
 s : L[m]? = some (.lst (Qm ss))
section
variable {L : List MO} {E : EX} {Q : D → List MO → Prop} {n m : Nat} {ks : List Ki} {ss : List Sp}
theorem nY.set (h : nY L n m ks ss) {j : Nat} (a : j ≠ n) (b : j ≠ m) (x : MO) : nY (L.set j x) n m ks ss := ⟨by rw [G7 a]; exact h.o, by rw [G7 b]; exact h.s⟩
theorem nY.ne (h : nY L n m ks ss) : n ≠ m := fun e => by have := h.o; rw [e, h.s] at this; cases this
theorem nY.put (h : nY L n m ks ss) (ts : List Sp) : nY (L.set m (.lst (Qm ts))) n m ks ts := ⟨by rw [G7 h.ne.symm]; exact h.o, aAr (aAs h.s)⟩
theorem nY.cls (h : nY L n m ks ss) : clsOf L (.r n) = some 11 := by rw [aAt, h.o]; rfl
end
end DN
end
section
namespace DN
open PySem PySem.Spec PyProof.Rows L2
section
variable {X : Cx} {g : G} {W : WX} {a b e : Expr} {fa fb f : aA → M D} {fs : aA → M (List D)} {pos p p2 pos2 : Pos}
def aA5 : D → D → M D := intOp (fun _ _ => true) fun a b => a + b
def aA6 : D → D → M D := fun x y L => match x, y with
 | .v (.str a), .v (.str b) => if a.length + b.length ≤ sizeLine then some (.ok (.v (.str (a ++ b))), L) else none
 | _, _ => none
end
section
variable {L : List MO} {E : EX} {Q : D → List MO → Prop} {QI : Itm → List MO → Prop}
theorem wp_augI {i j : Int} : wp (aA5 (.v (.int i)) (.v (.int j))) L E Q = Q (.v (.int (i + j))) L := rfl
theorem wp_augT {x y : Str} : wp (aA6 (.v (.str x)) (.v (.str y))) L E Q = (x.length + y.length ≤ sizeLine ∧ Q (.v (.str (x ++ y))) L) := jF rfl
end
end DN
end
section
namespace DN
open PySem
open L2 (ixN atI)
section
variable {α β : Type} {L : List MO} {E : EX} {Q : D → List MO → Prop} {QU : Unit → List MO → Prop}
def Ci (o : Option α) (a : α → Prop) (b : Prop) : Prop := match o with
 | some i => a i
 | none => b
theorem ownV_some {i : α} {a : α → Prop} {b : Prop} : Ci (some i) a b = a i := rfl
theorem ownV_none {a : α → Prop} {b : Prop} : Ci none a b = b := rfl
theorem wpz_ixO {tab : Nat → Option (List D → M D)} {x y : D} : wp (yK tab bR x y) L E Q = Ci ((clsOf L x).bind tab) (fun fn => wp (fn [x, y]) L E Q) (wp (bR x y) L E Q) := by
 cases h : (clsOf L x).bind tab with
 | none => exact aAl h
 | some fn => exact aAk h
theorem wpz_setO {tab : Nat → Option (List D → M D)} {x y v : D} : wp (vB tab x y v) L E Q = Ci ((clsOf L x).bind tab) (fun fn => wp (fn [x, y, v]) L E Q) False := by
 cases h : (clsOf L x).bind tab with
 | none =>
  unfold wp vB
  rw [h]
  rfl
 | some fn => exact aAm h
def aA7 (Q : D → List MO → Prop) : D → List MO → Prop := fun d L => match d with
 | .v (.int n) => (0 ≤ n ∧ n < 2 ^ 63) ∧ Q (.v (.int n)) L
 | _ => False
theorem lenW_int {n : Int} : aA7 Q (.v (.int n)) L = ((0 ≤ n ∧ n < 2 ^ 63) ∧ Q (.v (.int n)) L) := rfl
theorem wpz_clear {n : Nat} : wp (Oq (.r n) []) L E Q = nW L[n]? fun _ => Q (.v .non) (L.set n (.lst [])) := by
 unfold Oq iU wp
 match e : L[n]? with
 | some (.lst xs) => simp only [e]; rfl
 | none => simp only [e]; rfl
 | some (.dk _) => simp only [e]; rfl
 | some (.dn _) => simp only [e]; rfl
 | some (.ins _ _) => simp only [e]; rfl
 | some (.set _) => simp only [e]; rfl
 | some .dead => simp only [e]; rfl
end
end DN
end
section
namespace DN
open PySem PySem.Spec PyProof.Rows L2
section
variable {X : Cx} {T id : String} {name : Str} {apos cpos : Pos} {o e : Expr} {es : List Expr} {ty : V → Hp → Prop} {r : V → List V → Hp → VK → Prop} {to : TE} {t : TA}
def TyX (X : Cx) (T : String) (ty : V → Hp → Prop) : Prop := ∀ {pins : List (Addr × Obj)} {σ : L2.St} {H : Hp} {s : Shared} {x : V} {v : Value}, Inv X pins σ H s → RelV x v → ty x H → s.TypeIs v T ∧ ∀ a, v = .ref a → ∃ ob, s.heap.get? a = some ob ∧ ob.dict = none
end
end DN
end
section
namespace DN
open PySem PySem.Spec PyProof.Rows L2
def Cj (tab : Nat → Option (List D → M D)) (x : D) : M Unit := fun L => match (clsOf L x).bind tab with
 | some _ => some (.ok (), L)
 | none => none
def Qo (n : Nat) (tab : Nat → Option (List D → M D)) (x : D) (ds : List D) : M D := fun L => match (clsOf L x).bind tab with
 | some fn => bF n fn (x :: ds) L
 | none => none
def callC (n : Nat) (tab : Nat → Option (List D → M D)) (f : aA → M D) (fs : aA → M (List D)) (τ : aA) : M D := f τ >>= fun x => Cj tab x >>= fun _ => fs τ >>= fun ds => Qo n tab x ds
section
variable {L : List MO} {E : EX} {Q : D → List MO → Prop} {f : aA → M D} {fs : aA → M (List D)} {τ : aA} {n : Nat}
theorem wp_callC {tab : Nat → Option (List D → M D)} : wp (callC n tab f fs τ) L E Q = wp (f τ) L E fun x L1 => match (clsOf L1 x).bind tab with
  | some _ => wp (fs τ) L1 E fun ds L2 => match (clsOf L2 x).bind tab with
   | some fn => wp (bF n fn (x :: ds)) L2 E Q
   | none => False
  | none => False := by
 unfold callC
 rw [wp_bind]
 congr 1
 funext x L1
 rw [wp_bind]
 cases e : (clsOf L1 x).bind tab with
 | none =>
  unfold wp Cj
  simp only [e]
 | some fn0 =>
  rw [bG (m := Cj tab x) (L := L1) (x := ()) (L1 := L1) (by unfold Cj; rw [e]), wp_bind]
  dsimp only
  congr 1
  funext ds L2
  unfold Qo
  cases e2 : (clsOf L2 x).bind tab with
  | none =>
   unfold wp
   simp only [e2]
  | some fn =>
   unfold wp
   simp only [e2]
end
end DN
namespace DN
open PySem PySem.Spec PyProof.Rows L2
section
variable {X : Cx} {g : G} {W : WX} {a b e : Expr} {f : aA → M D} {fs : aA → M (List D)} {pos : Pos}
def Qp (tg : dF) (f : aA → M D) : SX := bW f fun d τ L => match d with
 | .v p => match tg p τ with
  | some τ1 => some (.nx τ1, L)
  | none => none
 | .r _ => none
end
section
variable {L : List MO} {τ : aA} {k : KK}
theorem wps_unp {tg : dF} {f : aA → M D} : wps (Qp tg f) τ L k = wp (f τ) L (k.ex τ) fun d L1 => match d with
  | .v p => match tg p τ with
   | some τ1 => k.nx τ1 L1
   | none => False
  | .r _ => False := by
 unfold Qp
 rw [eO]
 congr 1
 funext d L1
 cases d with
 | r n => rfl
 | v p =>
  dsimp only
  unfold wps
  cases e : tg p τ <;> simp only [e]
end
end DN
end
section
namespace DN
open PySem PySem.Spec PyProof.Rows L2
end DN
end
section
namespace DN
open PySem PySem.Spec PyProof.Rows L2
end DN
end
section
namespace DN
open PySem PySem.Spec PyProof PyProof.Rows L2
section
variable {g : G}
def Qq : D → List D → M D := iU fun n xs ds L => match ds with
 | [.v (.tup ys)] => if xs.length + ys.length ≤ sizeLine then some (.ok (.v .non), L.set n (.lst (xs ++ ys))) else none
 | _ => none
end
section
variable {L : List MO} {E : EX} {Q : D → List MO → Prop}
theorem wpz_extT {n : Nat} {ys : List P} : wp (Qq (.r n) [.v (.tup ys)]) L E Q = nW L[n]? fun xs => xs.length + ys.length ≤ sizeLine ∧ Q (.v .non) (L.set n (.lst (xs ++ ys))) := by
 unfold Qq iU
 match e : L[n]? with
 | some (.lst xs) => exact jF (by simp only [e])
 | none => unfold wp; simp only [e]; rfl
 | some (.dk _) => unfold wp; simp only [e]; rfl
 | some (.dn _) => unfold wp; simp only [e]; rfl
 | some (.ins _ _) => unfold wp; simp only [e]; rfl
 | some (.set _) => unfold wp; simp only [e]; rfl
 | some .dead => unfold wp; simp only [e]; rfl
theorem wpz_eqB {neg a b : Bool} : wp (bK neg (.v (.bl a)) (.v (.bl b))) L E Q = Q (.v (.bl (xor neg (decide (a = b))))) L := by
 cases neg <;> cases a <;> cases b <;> rfl
end
end DN
end
section
namespace DN
open PySem
section
variable {α : Type} {L : List MO} {E : EX} {Q : D → List MO → Prop} {f : α → P}
theorem asQ_r {n : Nat} : asQ L (.r n) = (cI L (.r n)).map fun xs => (true, xs) := rfl
end
end DN
end
section
namespace DN
open PySem PySem.Spec PyProof.Rows L2
open Builtin Builtin.Str Builtin.Int Builtin.Float
noncomputable def qP : D → D → M D := fun x y L => match x, y with
 | .v (.str a), .v (.str z) => @ite _ (a.length ≤ 700) (Classical.propDecidable _)
   (@ite _ (z = "<8") (Classical.propDecidable _) (some (.ok (.v (.str (Txt.ljust a 8))), L))
   (@ite _ (z = "<2") (Classical.propDecidable _) (some (.ok (.v (.str (Txt.ljust a 2))), L))
   (@ite _ (z = "<13") (Classical.propDecidable _) (some (.ok (.v (.str (Txt.ljust a 13))), L)) none)))
   none
 | .v (.int i), .v (.str z) => @ite _ (0 ≤ i ∧ i < 10000000 ∧ z = ">4") (Classical.propDecidable _) (some (.ok (.v (.str (Txt.rjust (Str.ofString (toString i)) 4))), L)) none
 | _, _ => none
def padM (op : Str → Int → Str) : D → List D → M D := fun x ds L => match x, ds with
 | .v (.str a), [.v (.int i)] => if 0 ≤ i ∧ i ≤ 100 then some (.ok (.v (.str (op a i))), L) else none
 | _, _ => none
def Qs : D → List D → M D := padM Txt.ljust
def Qt : D → List D → M D := padM Txt.rjust
def Qu : D → List D → M D := fun x ds L => match x, ds with
 | .v (.str a), [.v (.str b)] => if a.length ≤ 1000 then some (.ok (.v (.str (Txt.rstripChars a b))), L) else none
 | _, _ => none
end DN
end
section
namespace DN
open PySem
section
variable {L : List MO} {E : EX} {Q : D → List MO → Prop} {a : Str} {i : Int}
theorem wpz_fmt8 : wp (qP (.v (.str a)) (.v (.str "<8"))) L E Q = (a.length ≤ 700 ∧ Q (.v (.str (Txt.ljust a 8))) L) := by
 unfold wp qP
 by_cases c : a.length ≤ 700 <;> simp [c]
theorem wpz_fmt2 : wp (qP (.v (.str a)) (.v (.str "<2"))) L E Q = (a.length ≤ 700 ∧ Q (.v (.str (Txt.ljust a 2))) L) := by
 unfold wp qP
 have h : ((("<2" : String) : Str) = ("<8" : String)) = False := by simp only [eq_iff_iff, iff_false]; decide
 by_cases c : a.length ≤ 700 <;> simp only [c, h, if_true, if_false, true_and, false_and]
theorem wpz_fmt13 : wp (qP (.v (.str a)) (.v (.str "<13"))) L E Q = (a.length ≤ 700 ∧ Q (.v (.str (Txt.ljust a 13))) L) := by
 unfold wp qP
 have h : ((("<13" : String) : Str) = ("<8" : String)) = False := by simp only [eq_iff_iff, iff_false]; decide
 have h2 : ((("<13" : String) : Str) = ("<2" : String)) = False := by simp only [eq_iff_iff, iff_false]; decide
 by_cases c : a.length ≤ 700 <;> simp only [c, h, h2, if_true, if_false, true_and, false_and]
theorem wpz_fmt4 : wp (qP (.v (.int i)) (.v (.str ">4"))) L E Q = ((0 ≤ i ∧ i < 10000000) ∧ Q (.v (.str (Txt.rjust (Str.ofString (toString i)) 4))) L) := by
 unfold wp qP
 by_cases c : 0 ≤ i ∧ i < 10000000 <;> simp [c]
theorem wpz_ljust {n : Int} : wp (Qs (.v (.str a)) [.v (.int n)]) L E Q = ((0 ≤ n ∧ n ≤ 100) ∧ Q (.v (.str (Txt.ljust a n))) L) := by
 unfold Qs padM
 exact jF rfl
theorem wpz_rjust {n : Int} : wp (Qt (.v (.str a)) [.v (.int n)]) L E Q = ((0 ≤ n ∧ n ≤ 100) ∧ Q (.v (.str (Txt.rjust a n))) L) := by
 unfold Qt padM
 exact jF rfl
theorem wpz_rstripC {b : Str} : wp (Qu (.v (.str a)) [.v (.str b)]) L E Q = (a.length ≤ 1000 ∧ Q (.v (.str (Txt.rstripChars a b))) L) := by
 unfold Qu
 exact jF rfl
theorem tysz {x : Str} : wL L (.v (.str x)) = true := rfl
end
theorem aA8 {a : Str} {n : Nat} : (Txt.ljust a n).cps.toList = a.cps.toList ++ List.replicate (n - a.length) 32 := by
 unfold Txt.ljust Builtin.Str.padded
 by_cases c : (n : Int) ≤ a.length
 ·rw [if_pos c, show n - a.length = 0 by omega]
  simp
 ·rw [if_neg c]
  simp
end DN
end
section
namespace DN
open PySem
def vC (x : Str) : Prop := ∀ c ∈ x.cps.toList, c < 0x110000
theorem vC.ljust {x : Str} {n : Nat} (h : vC x) : vC (Txt.ljust x n) := fun c hc => by
 rw [aA8] at hc
 rcases List.mem_append.mp hc with z | z
 ·exact h c z
 ·rw [List.eq_of_mem_replicate z]; decide
theorem vC.rjust {x : Str} {n : Nat} (h : vC x) : vC (Txt.rjust x n) := fun c hc => by
 unfold Txt.rjust Builtin.Str.padded at hc
 split at hc
 ·exact h c hc
 ·have hc : c ∈ (Array.replicate ((n : Int).toNat - x.length) 32 ++ x.cps ++ Array.replicate 0 32).toList := hc
  simp only [Array.toList_append, Array.toList_replicate, List.replicate_zero, List.append_nil] at hc
  rcases List.mem_append.mp hc with z | z
  ·rw [List.eq_of_mem_replicate z]; decide
  ·exact h c z
end DN
end
section
namespace DN
open PySem PySem.Spec PyProof.Rows L2 He
section
variable {X : Cx} {g : G} {W : WX} {o : Expr} {fo : aA → M D} {pos tpos : Pos} {k : Nat}
def Qv (i : Nat) (k : Int) (x : D) : M Unit := fun L => match x with
 | .r n => match L[n]? with
  | some (.ins c fs) => match jR fs i with
   | some (.v (.int j)) => if i ∈ aN c then some (.ok (), L.set n (.ins c (gY i (.v (.int (j + k))) fs))) else none
   | _ => none
  | _ => none
 | _ => none
def Qw (i : Nat) (k : Int) (fo : aA → M D) : SX := bW (fun τ => fo τ >>= Qv i k) fun _ τ L => some (.nx τ, L)
end
section
variable {L : List MO} {E : EX} {Q : D → List MO → Prop} {k : KK} {τ : aA}
theorem wps_faug {i : Nat} {j : Int} {fo : aA → M D} : wps (Qw i j fo) τ L k = wp (fo τ) L (k.ex τ) (fun x L1 => wp (Qv i j x) L1 (k.ex τ) (fun _ L3 => k.nx τ L3)) := by
 unfold Qw
 rw [eO]
 exact wp_bind
end
end DN
end
section
namespace DN
open PySem
def pk (p : Pg) : NestedKey := .tup [.text p.1, .num p.2]
def Qx : Option MO → (List (P × P) → Prop) → Prop
 | some (.dn es), q => q es
 | _, _ => False
end DN
end
section
namespace DN
open PySem
section
variable {L : List MO} {E : EX} {Q : D → List MO → Prop} {k : KK} {τ : aA}
theorem wps_setOS {tab : Nat → Option (List D → M D)} {fo fi fv : aA → M D} : wps (Qc tab fo fi fv) τ L k = wp (fv τ) L (k.ex τ) (fun v L1 => wp (fo τ) L1 (k.ex τ) (fun x L2 => wp (fi τ) L2 (k.ex τ) (fun y L3 => wp (vB tab x y v) L3 (k.ex τ) (fun _ L4 => k.nx τ L4)))) := by
 unfold Qc
 rw [eO]
 congr 1
 funext v L1
 rw [eO]
 congr 1
 funext x L2
 rw [eO]
 congr 1
 funext y L3
 rw [Za]
end
end DN
end
section
namespace DN
open PySem
def fD (ss : List Sp) (p : Pg) : Nat := (vers ss p).getLast?.getD 0
theorem Qy (ss : List Sp) (p : Pg) : (vers ss p).getLast? = some (fD ss p) := by
 unfold fD
 cases e : (vers ss p).getLast? with
 | some v => rfl
 | none =>
  rw [List.getLast?_eq_none_iff] at e
  unfold vers at e
  cases e
theorem Ck (ss : List Sp) (p : Pg) : fD ss p ∈ vers ss p := List.mem_of_getLast? (Qy ss p)
theorem aA9 (ss : List Sp) (p : Pg) : fD ss p ≤ ss.length := Qn (Ck ss p)
theorem Qz {ss : List Sp} {p : Pg} {v : Nat} (h : v ∈ vers ss p) : v ≤ fD ss p := aA0 (aAy ss p) (Qy ss p) v h
def yM (ss : List Sp) (rows : List Row) (st : Pg → Nat) (p q : Pg) : Prop := ∃ i s a b, ss[i]? = some s ∧ i < fD ss p ∧ (a, p) ∈ s.k.rs.zip s.ps ∧ (b, q) ∈ s.k.rs.zip s.ps ∧ st q ≤ i ∧ (s.k.n, a.n, b.n) ∈ rows
def sO (s : Sp) (p : Pg) : Option Ro := ((s.k.rs.zip s.ps).find? fun x => decide (x.2 = p)).map (·.1)
def Hg (rows : List Row) (st : Pg → Nat) (i : Nat) (k a : Str) (x : Ro × Pg) : Option Pg := if st x.2 ≤ i ∧ (k, a, x.1.n) ∈ rows then some x.2 else none
def Hh (rows : List Row) (st : Pg → Nat) (p : Pg) (i : Nat) (s : Sp) : List Pg := match sO s p with
 | none => []
 | some a => (s.k.rs.zip s.ps).filterMap (Hg rows st i s.k.n a.n)
def Hi (ss : List Sp) (rows : List Row) (st : Pg → Nat) (p : Pg) (n : Nat) : List Pg := (ss.take n).zipIdx.flatMap fun x => Hh rows st p x.2 x.1
def Cm (ss : List Sp) (rows : List Row) (st : Pg → Nat) (p : Pg) : List Pg := Ce Pr (Hi ss rows st p (fD ss p))
theorem Hj {α β : Type} {xs : List α} {ys : List β} (nd : ys.Nodup) {a a' : α} {b : β} (h : (a, b) ∈ xs.zip ys) (h' : (a', b) ∈ xs.zip ys) : a = a' := by
 induction xs generalizing ys with
 | nil => simp at h
 | cons x xs ih =>
  cases ys with
  | nil => simp at h
  | cons y ys =>
   rw [List.nodup_cons] at nd
   rw [List.zip_cons_cons, List.mem_cons] at h h'
   rcases h with h | h <;> rcases h' with h' | h'
   ·cases h; cases h'; rfl
   ·cases h; exact absurd (List.of_mem_zip h').2 nd.1
   ·cases h'; exact absurd (List.of_mem_zip h).2 nd.1
   ·exact ih nd.2 h h'
theorem Hl {s : Sp} {p : Pg} {a : Ro} (h : sO s p = some a) : (a, p) ∈ s.k.rs.zip s.ps := by
 unfold sO at h
 obtain ⟨x, h1, h2⟩ := Option.map_eq_some_iff.mp h
 have e := List.find?_some h1
 have e := of_decide_eq_true e
 have := List.mem_of_find?_eq_some h1
 obtain ⟨x1, x2⟩ := x
 cases h2
 cases e
 exact this
theorem aBA {s : Sp} (hs : s.ok) {p : Pg} {a : Ro} : sO s p = some a ↔ (a, p) ∈ s.k.rs.zip s.ps := by
 refine ⟨Hl, fun h => ?_⟩
 cases e : sO s p with
 | none =>
  unfold sO at e
  rw [Option.map_eq_none_iff, List.find?_eq_none] at e
  exact absurd (decide_eq_true rfl) (e _ h)
 | some b => rw [Hj hs.2.2.2 h (Hl e)]
theorem aBB {ss : List Sp} (hs : ∀ s ∈ ss, s.ok) {rows : List Row} {st : Pg → Nat} {p q : Pg} {n : Nat} : q ∈ Hi ss rows st p n ↔ ∃ i s a b, ss[i]? = some s ∧ i < n ∧ (a, p) ∈ s.k.rs.zip s.ps ∧ (b, q) ∈ s.k.rs.zip s.ps ∧ st q ≤ i ∧ (s.k.n, a.n, b.n) ∈ rows := by
 unfold Hi
 rw [List.mem_flatMap]
 constructor
 ·rintro ⟨⟨s, i⟩, hx, hq⟩
  have hx := List.mem_zipIdx_iff_getElem?.mp hx
  dsimp only at hx hq
  rw [List.getElem?_take] at hx
  split at hx
  ·rename_i hi
   unfold Hh at hq
   cases e : sO s p with
   | none => rw [e] at hq; cases hq
   | some a =>
    rw [e] at hq
    obtain ⟨⟨b, q'⟩, hb, e2⟩ := List.mem_filterMap.mp hq
    unfold Hg at e2
    dsimp only at e2
    split at e2
    ·rename_i c
     cases e2
     exact ⟨i, s, a, b, hx, hi, Hl e, hb, c.1, c.2⟩
    ·cases e2
  ·cases hx
 ·rintro ⟨i, s, a, b, hx, hi, ha, hb, h1, h2⟩
  refine ⟨(s, i), List.mem_zipIdx_iff_getElem?.mpr ?_, ?_⟩
  ·dsimp only
   rw [List.getElem?_take, if_pos hi]
   exact hx
  ·unfold Hh
   rw [(aBA (hs s (List.mem_of_getElem? hx))).mpr ha]
   refine List.mem_filterMap.mpr ⟨(b, q), hb, ?_⟩
   unfold Hg
   exact if_pos ⟨h1, h2⟩
theorem aBC {ss : List Sp} (hs : ∀ s ∈ ss, s.ok) {rows : List Row} {st : Pg → Nat} {p q : Pg} : q ∈ Cm ss rows st p ↔ yM ss rows st p q := by
 unfold Cm yM
 rw [Pq, aBB hs]
structure qQ (rows : List Row) (ss : List Sp) (st : Pg → Nat) : Prop where
 ver : ∀ p, st p ∈ vers ss p
 ord : ∀ {i : Nat} {s : Sp} {a b : Ro} {p q : Pg}, ss[i]? = some s → (a, p) ∈ s.k.rs.zip s.ps → (b, q) ∈ s.k.rs.zip s.ps → (s.k.n, a.n, b.n) ∈ rows → i < st p → i < st q
 blk : ∀ {i : Nat} {s : Sp} {a : Ro} {p : Pg}, ss[i]? = some s → (a, p) ∈ s.k.rs.zip s.ps → Blk rows s.k.n a.n → ¬ i < st p
theorem qQ.nil {rows : List Row} : qQ rows [] fun _ => 0 where
 ver p := List.mem_cons_self
 ord h := by simp at h
 blk h := by simp at h
theorem aBD {ss : List Sp} {s : Sp} {p : Pg} {v : Nat} (h : v ∈ vers ss p) : v ∈ vers (ss ++ [s]) p := by
 rw [aAz]
 exact List.mem_append_left _ h
theorem qQ.step {rows : List Row} {ss : List Sp} {st : Pg → Nat} (h : qQ rows ss st) (s : Sp) : qQ rows (ss ++ [s]) st := by
 have old : ∀ {i : Nat} {t : Sp} {p : Pg}, (ss ++ [s])[i]? = some t → i < st p → ss[i]? = some t := fun {i t p} e hi => by
  have := Qn (h.ver p)
  rw [List.getElem?_append_left (by omega)] at e
  exact e
 exact ⟨fun p => aBD (h.ver p), fun e h1 h2 h3 h4 => h.ord (old e h4) h1 h2 h3 h4, fun e h1 h2 h3 => h.blk (old e h3) h1 h2 h3⟩
def aBE (rows : List Row) (ss : List Sp) : Prop := ∀ s ∈ ss, ∀ r ∈ rows, r.1 = s.k.n → ∃ b ∈ s.k.rs, b.n = r.2.2
theorem qQ.flush {rows : List Row} {ss : List Sp} {st st' : Pg → Nat} (h : qQ rows ss st) (hs : ∀ s ∈ ss, s.ok) (hf : aBE rows ss) {p : Pg} (hb : ∀ q, ¬ yM ss rows st p q) (e1 : st' p = fD ss p) (e2 : ∀ q, q ≠ p → st' q = st q) : qQ rows ss st' := by
 have up : ∀ q, st q ≤ st' q := fun q => by
  by_cases c : q = p
  ·rw [c, e1]; exact Qz (h.ver p)
  ·rw [e2 q c]; exact Nat.le_refl _
 have ord : ∀ {i : Nat} {s : Sp} {a b : Ro} {x q : Pg}, ss[i]? = some s → (a, x) ∈ s.k.rs.zip s.ps → (b, q) ∈ s.k.rs.zip s.ps → (s.k.n, a.n, b.n) ∈ rows → i < st' x → i < st q := fun {i s a b x q} h1 h2 h3 h4 h5 => by
  by_cases c : x = p
  ·subst c
   rw [e1] at h5
   refine Classical.byContradiction fun z => hb q ⟨i, s, a, b, h1, h5, h2, h3, by omega, h4⟩
  ·rw [e2 x c] at h5
   exact h.ord h1 h2 h3 h4 h5
 refine ⟨fun q => ?_, fun {i s a b x q} h1 h2 h3 h4 h5 => Nat.lt_of_lt_of_le (ord h1 h2 h3 h4 h5) (up q), fun {i s a x} h1 h2 h3 h4 => ?_⟩
 ·by_cases c : q = p
  ·rw [c, e1]; exact Ck ss p
  ·rw [e2 q c]; exact h.ver q
 ·obtain ⟨b', ⟨r, hr, r1, r2, r3⟩, hbk⟩ := aAg.mp h3
  have hsm := List.mem_of_getElem? h1
  obtain ⟨b, hbm, eb⟩ := hf s hsm r hr r1
  obtain ⟨j, hj, ej⟩ := List.getElem_of_mem hbm
  have hl := aA2 (hs s hsm).2
  have hz : (b, s.ps[j]'(by omega)) ∈ s.k.rs.zip s.ps := by
   have : (s.k.rs.zip s.ps)[j]'(by rw [List.length_zip]; omega) = (b, s.ps[j]'(by omega)) := by rw [List.getElem_zip, ej]
   rw [← this]
   exact List.getElem_mem _
  have hr' : (s.k.n, a.n, b.n) ∈ rows := by
   have : r = (s.k.n, a.n, b.n) := by rw [eb, ← r1, ← r2]
   rw [← this]
   exact hr
  have := ord h1 h2 hz hr' h4
  exact h.blk h1 hz (by rw [eb, r3]; exact hbk) this
end DN
end
section
namespace DN
open PySem
open L2 (ixN atI)
end DN
end
section
namespace DN
open PySem
end DN
end
section
namespace DN
open PySem PySem.Spec PyProof.Rows L2
def aBF (_ : aA) : M D := fun L => some (.ok (.r L.length), L ++ [.dk []])
def Q5 (fk fv : aA → M D) (τ : aA) : M D := fun L => match fk τ (L ++ [.dk []]) with
 | some (.ok (.v (.str k)), L1) => match fv τ L1 with
  | some (.ok (.v p), L2) => match L2[L.length]? with
   | some (.dk []) => some (.ok (.r L.length), L2.set L.length (.dk [(.inr k, p)]))
   | _ => none
  | _ => none
 | _ => none
def Ho : List P → Option (List (Key × P))
 | [] => some []
 | .str k :: p :: r => (Ho r).map ((.inr k, p) :: ·)
 | .int k :: p :: r => (Ho r).map ((.inl k, p) :: ·)
 | _ => none
def nZ (L : List MO) : D → Option (List (Key × P))
 | .r n => match L[n]? with
  | some (.dk es) => some es
  | _ => none
 | .v (.dk (.non :: fl)) => Ho fl
 | _ => none
def qR (es : List (Key × P)) (k : Str) : Option P := (es.find? fun e => decide (e.1 = .inr k)).map (·.2)
def Q6 : D → D → D → M D := fun x k d L => match nZ L x, k with
 | some es, .v (.str k) => match qR es k with
  | some p => some (.ok (.v p), L)
  | none => some (.ok d, L)
 | _, _ => none
def sS {α : Type} (x : D) (m : M α) : M α := fun L => if (nZ L x).isSome = true then m L else none
def Q7 (fo fk fd : aA → M D) (τ : aA) : M D := do
 let x ← fo τ
 sS x do
  let k ← fk τ
  let d ← fd τ
  Q6 x k d
end DN
end
section
namespace DN
open PySem PySem.Spec PyProof.Rows L2
section
variable {X : Cx} {g : G} {W : WX} {a b c e o : Expr} {es : List Expr} {f : aA → M D} {fs : aA → M (List D)} {pos apos : Pos} {sts : List Stmt}
def Q8 (i j l : Nat) (fs : aA → M (List D)) : SX := bW fs fun ds τ L => match ds with
 | [d, e, f] => some (.nx (((τ.set i (some d)).set j (some e)).set l (some f)), L)
 | _ => none
def Q9 (f : aA → M D) (τ : aA) : M (Option Int) := f τ >>= zK
end
end DN
end
section
namespace DN
open PySem PySem.Spec PyProof.Rows L2 He NdefX
section
variable {X : Cx} {g : G} {W : WX} {o e : Expr} {es : List Expr} {f : aA → M D} {fs : aA → M (List D)} {pos apos : Pos} {k : Nat} {fn : List D → M D} {n : Nat}
def Ra (c n : Nat) (fn : List D → M D) (f : aA → M D) (fs : aA → M (List D)) (τ : aA) : M D := do
 let x ← f τ
 atC c x do
  let ds ← fs τ
  bF (n + 1) fn (x :: (ds ++ [.v .non]))
end
end DN
end
section
namespace DN
open PySem
open L2 (ixN atI Key)
section
variable {L : List MO} {E : EX} {Q : D → List MO → Prop} {τ : aA} {f fo fk fd fv : aA → M D} {fs : aA → M (List D)} {k : KK}
theorem wpz_dkNew : wp (aBF τ) L E Q = Q (.r L.length) (L ++ [.dk []]) := rfl
theorem wpz_getKD : wp (Q7 fo fk fd τ) L E Q = wp (fo τ) L E fun x L1 => if (nZ L1 x).isSome = true then wp (fk τ) L1 E fun y L2 => wp (fd τ) L2 E fun d L3 => wp (Q6 x y d) L3 E Q else False := by
 unfold Q7
 rw [wp_bind]
 congr 1
 funext x L1
 by_cases h : (nZ L1 x).isSome = true
 ·have : ∀ {α : Type} {m : M α} {Q : α → List MO → Prop}, wp (sS x m) L1 E Q = wp m L1 E Q := by
   intro α m Q
   unfold wp sS
   rw [if_pos h]
  rw [this, wp_bind, if_pos h]
  congr 1
  funext y L2
  rw [wp_bind]
 ·rw [if_neg h]
  unfold wp sS
  rw [if_neg h]
theorem wps_par3 {i j l : Nat} : wps (Q8 i j l fs) τ L k = wp (fs τ) L (k.ex τ) (fun ds L1 => match ds with
  | [d, e, f] => k.nx (((τ.set i (some d)).set j (some e)).set l (some f)) L1
  | _ => False) := by
 unfold Q8
 rw [eO]
 congr 1
 funext ds L1
 unfold wps
 match ds with
 | [d, e, f] => rfl
 | [] => rfl
 | [_] => rfl
 | [_, _] => rfl
 | _ :: _ :: _ :: _ :: _ => rfl
theorem wpz_methN {c n : Nat} {fn : List D → M D} : wp (Ra c n fn f fs τ) L E Q = wp (f τ) L E fun x L1 => if clsOf L1 x = some c then wp (fs τ) L1 E fun ds L2 => wp (bF (n + 1) fn (x :: (ds ++ [.v .non]))) L2 E Q else False := by
 unfold Ra
 rw [wp_bind]
 congr 1
 funext x L1
 by_cases h : clsOf L1 x = some c
 ·have : ∀ {α : Type} {m : M α} {Q : α → List MO → Prop}, wp (atC c x m) L1 E Q = wp m L1 E Q := by
   intro α m Q
   unfold wp atC
   rw [if_pos h]
  rw [this, wp_bind, if_pos h]
 ·rw [if_neg h]
  unfold wp atC
  rw [if_neg h]
theorem wpz_partN {QO : Option Int → List MO → Prop} : wp (Q9 f τ) L E QO = wp (f τ) L E fun d L1 => wp (zK d) L1 E QO := by
 unfold Q9
 rw [wp_bind]
theorem wpz_asIN {QO : Option Int → List MO → Prop} : wp (zK (.v .non)) L E QO = QO none L := rfl
theorem wpz_asII {i : Int} {QO : Option Int → List MO → Prop} : wp (zK (.v (.int i))) L E QO = QO (some i) L := rfl
end
end DN
end
section
namespace DN
open PySem PySem.Spec PyProof.Rows L2 RZ
end DN
end
section
namespace DN
open PySem PySem.Spec PyProof.Rows L2 He NdefX
end DN
end
section
namespace DN
open PySem
def Cp (ss : List Sp) (st : Pg → Nat) : List Pg := (Hf ss).filter fun p => decide (st p < fD ss p)
theorem aBG {ss : List Sp} {st : Pg → Nat} {p : Pg} : p ∈ Cp ss st ↔ (∃ s ∈ ss, p ∈ s.ps) ∧ st p < fD ss p := by
 unfold Cp
 rw [List.mem_filter, aA1, decide_eq_true_iff]
theorem Rb {α : Type} {f g : α → Bool} : ∀ {xs : List α}, (∀ x ∈ xs, g x = true → f x = true) → (∃ x ∈ xs, f x = true ∧ g x = false) → (xs.filter g).length < (xs.filter f).length
 | [], _, ⟨_, h, _⟩ => by cases h
 | x :: xs, h, ⟨y, hy, h1, h2⟩ => by
  have hx := h x List.mem_cons_self
  have ht : ∀ x ∈ xs, g x = true → f x = true := fun z hz => h z (List.mem_cons_of_mem _ hz)
  have le : (xs.filter g).length ≤ (xs.filter f).length := by
   clear hy h hx
   induction xs with
   | nil => exact Nat.le_refl _
   | cons z zs ih =>
    have hz := ht z List.mem_cons_self
    have ih := ih fun z hz => ht z (List.mem_cons_of_mem _ hz)
    rw [List.filter_cons, List.filter_cons]
    cases c : g z with
    | true =>
     rw [hz c, if_pos rfl, if_pos rfl, List.length_cons, List.length_cons]
     omega
    | false =>
     rw [if_neg Bool.false_ne_true]
     split
     ·rw [List.length_cons]; omega
     ·exact ih
  rw [List.filter_cons, List.filter_cons]
  rcases List.mem_cons.mp hy with e | hy
  ·subst e
   rw [h1, h2, if_pos rfl, if_neg Bool.false_ne_true, List.length_cons]
   omega
  ·have ih := Rb ht ⟨y, hy, h1, h2⟩
   cases c : g x with
   | true =>
    rw [hx c, if_pos rfl, if_pos rfl, List.length_cons, List.length_cons]
    omega
   | false =>
    rw [if_neg Bool.false_ne_true]
    split
    ·rw [List.length_cons]; omega
    ·exact ih
structure MvO (rows : List Row) (ss : List Sp) (p : Pg) : Prop where
 ok : ∀ s ∈ ss, s.ok
 nb : ∀ {i : Nat} {s : Sp} {x : Ro}, ss[i]? = some s → (x, p) ∈ s.k.rs.zip s.ps → ¬ Blk rows s.k.n x.n
 one : ∀ {q : Pg}, q ≠ p → ∀ {i j : Nat} {s t : Sp}, ss[i]? = some s → ss[j]? = some t → q ∈ s.ps → q ∈ t.ps → i = j
open Classical in
noncomputable def Cq (rows : List Row) (k a b : Str) : Bool := decide (lD rows k a b)
theorem Cr {rows : List Row} {k a b : Str} : Cq rows k a b = true ↔ lD rows k a b := @decide_eq_true_iff _ (Classical.propDecidable _)
noncomputable def cnt (rows : List Row) (s : Sp) (x : Ro) : Nat := (s.k.rs.filter fun y => Cq rows s.k.n x.n y.n).length
def Hq (rows : List Row) (ss : List Sp) (p : Pg) (m : Nat) (q : Pg) : Prop := (q = p ∧ m = 7) ∨ ∃ (i : Nat) (s : Sp) (xp x : Ro), ss[i]? = some s ∧ (xp, p) ∈ s.k.rs.zip s.ps ∧ (x, q) ∈ s.k.rs.zip s.ps ∧ lD rows s.k.n xp.n x.n ∧ m = cnt rows s x
theorem aBI {rows : List Row} {k a b c : Str} (e : Ed rows k a b) (h : lD rows k b c) : lD rows k a c := by
 induction h with
 | single e2 => exact .tail (.single e) e2
 | tail _ e2 ih => exact .tail ih e2
theorem Hq.step {rows : List Row} {ss : List Sp} {p q q' : Pg} {m : Nat} {st : Pg → Nat} (hM : MvO rows ss p) (h : Hq rows ss p m q) (hb : yM ss rows st q q') : ∃ m', m' < m ∧ Hq rows ss p m' q' := by
 obtain ⟨j, t, a, b, e1, _, e3, e4, _, e6⟩ := hb
 have hto := hM.ok t (List.mem_of_getElem? e1)
 have ed : Ed rows t.k.n a.n b.n := ⟨_, e6, rfl, rfl, rfl⟩
 rcases h with ⟨rfl, rfl⟩ | ⟨i, s, xp, x, h1, h2, h3, h4, rfl⟩
 ·refine ⟨cnt rows t b, ?_, .inr ⟨j, t, a, b, e1, e3, e4, .single ed, rfl⟩⟩
  have := List.length_filter_le (fun y => Cq rows t.k.n b.n y.n) t.k.rs
  have := hto.1.2.2.1
  unfold cnt
  omega
 ·have hso := hM.ok s (List.mem_of_getElem? h1)
  have nb := hM.nb h1 h2
  have hne : q ≠ p := fun e => by
   subst e
   have := Hj hso.2.2.2 h2 h3
   subst this
   exact nb ⟨_, .inl rfl, h4⟩
  have eij := hM.one hne h1 e1 (List.of_mem_zip h3).2 (List.of_mem_zip e3).2
  subst eij
  rw [h1] at e1
  cases e1
  have := Hj hso.2.2.2 h3 e3
  subst this
  have h5 : lD rows t.k.n xp.n b.n := .tail h4 ed
  refine ⟨cnt rows t b, ?_, .inr ⟨i, t, xp, b, h1, h2, e4, h5, rfl⟩⟩
  unfold cnt
  refine Rb (fun y _ h => Cr.mpr ?_) ⟨b, (List.of_mem_zip e4).1, Cr.mpr (.single ed), ?_⟩
  ·exact aBI ed (Cr.mp h)
  ·cases c : Cq rows t.k.n b.n b.n with
   | false => rfl
   | true => exact absurd ⟨b.n, .inr h5, Cr.mp c⟩ nb
end DN
end
section
namespace DN
open PySem PySem.Spec PyProof.Rows L2
section
variable {X : Cx} {g : G} {W : WX} {a : Expr} {tg : Expr} {fs : aA → M (List D)} {f : aA → M D} {pos pos2 p2 p : Pos}
noncomputable def Rc : D → M Itm := fun d L => match d with
 | .v (.int j) => @ite _ (-(2 ^ 62) ≤ j ∧ j < 2 ^ 62) (Classical.propDecidable _) (some (.ok ((List.range (j - 0).toNat).map (fun i : Nat => P.int ((0 : Int) + (((j - 0).toNat : Nat) : Int) - 1 + (i : Nat) * (-1))), fun _ => True), L)) none
 | _ => none
noncomputable def aBJ (f : aA → M D) (τ : aA) : M Itm := f τ >>= Rc
end
section
variable {L : List MO} {E : EX} {QI : Itm → List MO → Prop} {τ : aA} {f : aA → M D}
theorem wpz_revI : wp (aBJ f τ) L E QI = wp (f τ) L E fun d L1 => wp (Rc d) L1 E QI := wp_bind
end
end DN
end
section
namespace DN
open PySem PySem.Spec PyProof.Rows L2
def pA : D → M D := fun d L => match d with
 | .v p => some (.ok (.v p), L)
 | .r n => match L[n]? with
  | some (.dn es) => some (.ok (.v (.dn (uM es))), L.set n .dead)
  | _ => none
section
variable {L : List MO} {E : EX} {Q : D → List MO → Prop}
theorem wpz_frzNv {p : P} : wp (pA (.v p)) L E Q = Q (.v p) L := rfl
theorem wpz_frzN {n : Nat} : wp (pA (.r n)) L E Q = Qx L[n]? fun es => Q (.v (.dn (uM es))) (L.set n .dead) := by
 match e : L[n]? with
 | some (.dn es) => unfold wp pA; simp only [e]; rfl
 | none => unfold wp pA; simp only [e]; rfl
 | some (.dk _) => unfold wp pA; simp only [e]; rfl
 | some (.lst _) => unfold wp pA; simp only [e]; rfl
 | some (.ins _ _) => unfold wp pA; simp only [e]; rfl
 | some (.set _) => unfold wp pA; simp only [e]; rfl
 | some .dead => unfold wp pA; simp only [e]; rfl
theorem dnW_some {es : List (P × P)} {q : List (P × P) → Prop} : Qx (some (.dn es)) q = q es := rfl
end
abbrev Mp (κ α : Type) := List (κ × α)
section
variable {κ α : Type} [DecidableEq κ]
variable {kf : κ → P} {vf : α → P} {nk : κ → NestedKey}
def Hr (kf : κ → P) (vf : α → P) (rs : Mp κ α) : List (P × P) := rs.map fun x => (kf x.1, vf x.2)
def vD (kf : κ → P) (vf : α → P) (L : List MO) (d : D) (rs : Mp κ α) : Prop := iG L d = some (Hr kf vf rs)
variable {L : List MO} {E : EX} {Q : D → List MO → Prop} {QU : Unit → List MO → Prop} {n : Nat} {d e : D} {rs : Mp κ α} {p : κ}
theorem vD.r (h : L[n]? = some (.dn (Hr kf vf rs))) : vD kf vf L (.r n) rs := by simp [vD, iG, h]
theorem vD.v : vD kf vf L (.v (.dn (uM (Hr kf vf rs)))) rs := by simp [vD, iG, Nt]
end
end DN
end
section
namespace DN
open PySem
def Cu (st : Pg → Nat) (q : Pg) (v : Nat) : Pg → Nat := fun x => if x = q then v else st x
end DN
end
section
namespace DN
open PySem PySem.Spec PyProof.Rows L2
end DN
end
section
namespace DN
open PySem PySem.Spec PyProof.Rows L2 He NdefX
abbrev Rf (c : Nat) (ps : List P) : P := .dk (.int c :: ps)
def Rg (c : Nat) (ds : List D) : M D := fun L => match aV ds with
 | some ps => if ps.length = (aN c).length then some (.ok (.v (Rf c ps.reverse)), L) else none
 | none => none
def Rh (c : Nat) (fs : aA → M (List D)) (τ : aA) : M D := fs τ >>= Rg c
def Ht : Option (Option D) → Option Nat
 | some (some (.v (.dk (.int c :: _)))) => some c.toNat
 | _ => none
def Ri (c i c2 : Nat) (fs : aA → M (List D)) : SX := bW fs fun ds τ L => match aV ds with
 | some ps => if ps.length = (aN c).length ∧ Ht τ[i]? = some c2 then some (.ex τ c ps.reverse, L) else none
 | none => none
section
variable {L : List MO} {E : EX} {Q : D → List MO → Prop} {τ : aA}
theorem wp_excV {c : Nat} {fs : aA → M (List D)} : wp (Rh c fs τ) L E Q = wp (fs τ) L E (fun ds L1 => match aV ds with
  | some ps => ps.length = (aN c).length ∧ Q (.v (Rf c ps.reverse)) L1
  | none => False) := by
 unfold Rh
 rw [wp_bind]
 congr 1
 funext ds L1
 unfold wp Rg
 match aV ds with
 | none => rfl
 | some ps =>
  dsimp only
  by_cases h : ps.length = (aN c).length
  ·rw [if_pos h]; exact (propext (and_iff_right h)).symm
  ·rw [if_neg h]; exact (propext ⟨False.elim, fun z => h z.1⟩)
theorem wps_raiseF {c i c2 : Nat} {fs : aA → M (List D)} {k : KK} : wps (Ri c i c2 fs) τ L k = wp (fs τ) L (k.ex τ) (fun ds L1 => match aV ds with
  | some ps => (ps.length = (aN c).length ∧ Ht τ[i]? = some c2) ∧ k.ex τ c ps.reverse L1
  | none => False) := by
 unfold Ri
 rw [eO]
 congr 1
 funext ds L1
 unfold wps
 dsimp only
 match aV ds with
 | none => rfl
 | some ps =>
  dsimp only
  by_cases h : ps.length = (aN c).length ∧ Ht τ[i]? = some c2
  ·rw [if_pos h]; exact (propext (and_iff_right h)).symm
  ·rw [if_neg h]; exact (propext ⟨False.elim, fun z => h z.1⟩)
end
end DN
end
section
namespace DN
open PySem
inductive Sf where
 | start (p : Pg)
 | fresh (n : Nat) (r : Str)
 | der (n : Nat) (r : Str) (xs : List Nat)
 deriving DecidableEq
inductive Tr where
 | start (p : Pg)
 | fresh (n : Nat) (r : Str)
 | der (n : Nat) (r : Str) (xs : List Tr)
def Sf.p : Sf → P
 | .start p => .tup [.str "start", G3 p]
 | .fresh n r => .tup [.str "fresh", .int n, .str r]
 | .der n r xs => .tup [.str "derived", .int n, .str r, .tup (xs.map aAw)]
def Sf.k : Sf → NestedKey
 | .start p => .tup [.text "start", pk p]
 | .fresh n r => .tup [.text "fresh", .num n, .text r]
 | .der n r xs => .tup [.text "derived", .num n, .text r, .tup (xs.map fun x => NestedKey.num (x : Nat))]
def pB (tab : List Tr) : List Nat → List Tr → Prop
 | [], [] => True
 | j :: js, t :: ts => tab[j]? = some t ∧ pB tab js ts
 | _, _ => False
def lF (tab : List Tr) : Sf → Tr → Prop
 | .start p, .start q => p = q
 | .fresh n r, .fresh m s => n = m ∧ r = s
 | .der n r js, .der m s ts => n = m ∧ r = s ∧ pB tab js ts
 | _, _ => False
theorem Rj {tab ts' : List Tr} : ∀ {js : List Nat} {ts : List Tr}, pB tab js ts → pB (tab ++ ts') js ts
 | [], [], _ => trivial
 | j :: js, t :: ts, h => ⟨by rw [List.getElem?_append_left (List.getElem?_eq_some_iff.mp h.1).1]; exact h.1, Rj h.2⟩
 | [], _ :: _, h => h.elim
 | _ :: _, [], h => h.elim
theorem Rk {tab ts' : List Tr} {f : Sf} {t : Tr} (h : lF tab f t) : lF (tab ++ ts') f t := by
 cases f <;> cases t <;> first | exact h | exact h.elim | exact ⟨h.1, h.2.1, Rj h.2.2⟩
theorem Rm {tab : List Tr} : ∀ {js : List Nat} {ts : List Tr}, pB tab js ts → ∀ j ∈ js, j < tab.length
 | [], [], _, j, hj => by cases hj
 | j :: js, t :: ts, h, i, hi => by
  rcases List.mem_cons.mp hi with z | z
  ·rw [z]; exact (List.getElem?_eq_some_iff.mp h.1).1
  ·exact Rm h.2 i z
 | [], _ :: _, h, _, _ => h.elim
 | _ :: _, [], h, _, _ => h.elim
theorem Rp {tab : List Tr} : ∀ {js : List Nat} {ts us : List Tr}, pB tab js ts → pB tab js us → ts = us
 | [], [], [], _, _ => rfl
 | j :: js, t :: ts, u :: us, h, k => by
  rw [Rp h.2 k.2, Option.some.inj (h.1.symm.trans k.1)]
 | [], _ :: _, _, h, _ => h.elim
 | [], [], _ :: _, _, h => h.elim
 | _ :: _, [], _, h, _ => h.elim
 | _ :: _, _ :: _, [], _, h => h.elim
theorem numL_inj {tab : List Tr} (nd : tab.Nodup) : ∀ {js ks : List Nat} {ts : List Tr}, pB tab js ts → pB tab ks ts → js = ks
 | [], [], [], _, _ => rfl
 | j :: js, k :: ks, t :: ts, h, g => by
  obtain ⟨h1, e1⟩ := List.getElem?_eq_some_iff.mp h.1
  obtain ⟨h2, e2⟩ := List.getElem?_eq_some_iff.mp g.1
  rw [numL_inj nd h.2 g.2, (List.getElem_inj (h₀ := h1) (h₁ := h2) nd).mp (e1.trans e2.symm)]
 | [], _, _ :: _, h, _ => h.elim
 | [], _ :: _, [], _, h => h.elim
 | _ :: _, _, [], h, _ => h.elim
 | _ :: _, [], _ :: _, _, h => h.elim
theorem Rq {tab : List Tr} {f : Sf} {t u : Tr} (h : lF tab f t) (k : lF tab f u) : t = u := by
 cases f <;> cases t <;> cases u <;> simp only [lF] at h k
 ·rw [← h, ← k]
 ·rw [← h.1, ← h.2, ← k.1, ← k.2]
 ·rw [← h.1, ← h.2.1, ← k.1, ← k.2.1, Rp h.2.2 k.2.2]
theorem Rr {tab : List Tr} (nd : tab.Nodup) {f g : Sf} {t : Tr} (h : lF tab f t) (k : lF tab g t) : f = g := by
 cases f <;> cases g <;> cases t <;> simp only [lF] at h k
 ·rw [h, k]
 ·rw [h.1, h.2, k.1, k.2]
 ·rw [h.1, h.2.1, k.1, k.2.1, numL_inj nd h.2.2 k.2.2]
def Sf.parts : Sf → List Nat
 | .der _ _ xs => xs
 | _ => []
structure TabOk (fs : List Sf) (tab : List Tr) : Prop where
 len : fs.length = tab.length
 nd : tab.Nodup
 rel : ∀ (i : Nat) (f : Sf) (t : Tr), fs[i]? = some f → tab[i]? = some t → lF tab f t
 ear : ∀ (i : Nat) (f : Sf), fs[i]? = some f → ∀ j ∈ f.parts, j < i
 wid : ∀ f ∈ fs, f.parts.length ≤ 1800
theorem TabOk.nil : TabOk [] [] := ⟨rfl, List.nodup_nil, fun i f t e => by simp at e, fun i f e => by simp at e, fun f h => by cases h⟩
theorem TabOk.mem {fs : List Sf} {tab : List Tr} (h : TabOk fs tab) {f : Sf} {t : Tr} (r : lF tab f t) : f ∈ fs ↔ t ∈ tab := by
 constructor
 ·intro hf
  obtain ⟨i, hi, e⟩ := List.getElem_of_mem hf
  have e1 : fs[i]? = some f := by rw [List.getElem?_eq_getElem hi, e]
  have hi2 : i < tab.length := by rw [← h.len]; exact hi
  have e2 : tab[i]? = some tab[i] := List.getElem?_eq_getElem hi2
  rw [Rq r (h.rel i f _ e1 e2)]
  exact List.getElem_mem _
 ·intro ht
  obtain ⟨i, hi, e⟩ := List.getElem_of_mem ht
  have e1 : tab[i]? = some t := by rw [List.getElem?_eq_getElem hi, e]
  have hi2 : i < fs.length := by rw [h.len]; exact hi
  have e2 : fs[i]? = some fs[i] := List.getElem?_eq_getElem hi2
  rw [Rr h.nd r (h.rel i _ t e2 e1)]
  exact List.getElem_mem _
theorem TabOk.at {fs : List Sf} {tab : List Tr} (h : TabOk fs tab) {f : Sf} {t : Tr} (r : lF tab f t) {i : Nat} : fs[i]? = some f ↔ tab[i]? = some t := by
 constructor
 ·intro e1
  have hi := (List.getElem?_eq_some_iff.mp e1).1
  have hi2 : i < tab.length := by rw [← h.len]; exact hi
  have e2 : tab[i]? = some tab[i] := List.getElem?_eq_getElem hi2
  rw [Rq r (h.rel i f _ e1 e2)]
  exact e2
 ·intro e1
  have hi := (List.getElem?_eq_some_iff.mp e1).1
  have hi2 : i < fs.length := by rw [h.len]; exact hi
  have e2 : fs[i]? = some fs[i] := List.getElem?_eq_getElem hi2
  rw [Rr h.nd r (h.rel i _ t e2 e1)]
  exact e2
theorem TabOk.add {fs : List Sf} {tab : List Tr} (h : TabOk fs tab) {f : Sf} {t : Tr} (r : lF tab f t) (hn : t ∉ tab) (hw : f.parts.length ≤ 1800) : TabOk (fs ++ [f]) (tab ++ [t]) := by
 refine ⟨by rw [List.length_append, List.length_append, h.len]; rfl, ?_, fun i g u e1 e2 => ?_, fun i g e1 j hj => ?_, fun g hg => ?_⟩
 ·rw [List.nodup_append]
  exact ⟨h.nd, by simp, fun a ha b hb e => hn (by rw [← List.mem_singleton.mp hb, ← e]; exact ha)⟩
 ·by_cases c : i < fs.length
  ·rw [List.getElem?_append_left c] at e1
   rw [List.getElem?_append_left (by rw [← h.len]; exact c)] at e2
   exact Rk (h.rel i g u e1 e2)
  ·rw [List.getElem?_append_right (by omega)] at e1
   rw [List.getElem?_append_right (by rw [← h.len]; omega), ← h.len] at e2
   obtain ⟨hi, e1⟩ := List.getElem?_eq_some_iff.mp e1
   obtain ⟨hj, e2⟩ := List.getElem?_eq_some_iff.mp e2
   simp only [List.length_singleton] at hi
   have : i - fs.length = 0 := by omega
   simp only [this, List.getElem_cons_zero] at e1 e2
   subst e1 e2
   exact Rk r
 ·by_cases c : i < fs.length
  ·rw [List.getElem?_append_left c] at e1
   exact h.ear i g e1 j hj
  ·rw [List.getElem?_append_right (by omega)] at e1
   obtain ⟨hi, e1⟩ := List.getElem?_eq_some_iff.mp e1
   simp only [List.length_singleton] at hi
   have : i - fs.length = 0 := by omega
   simp only [this, List.getElem_cons_zero] at e1
   subst e1
   have l := h.len
   cases f with
   | start p => cases hj
   | fresh n x => cases hj
   | der n x xs =>
    cases t with
    | start p => exact r.elim
    | fresh n x => exact r.elim
    | der n' x' ts =>
     have := Rm r.2.2 j hj
     omega
 ·rcases List.mem_append.mp hg with z | z
  ·exact h.wid g z
  ·rw [List.mem_singleton.mp z]; exact hw
end DN
end
section
namespace DN
open PySem PySem.Spec PyProof.Rows L2
def kyV : D → P
 | .v p => p
 | .r _ => .non
def Ru (tg : dF) (tt : aA → M Bool) (fk fv : aA → M D) (p : P) (τ : aA) : M (Option (D × P)) := fun L => match tg p τ with
 | none => none
 | some τ1 => match tt τ1 L with
  | some (.ok false, L1) => some (.ok none, L1)
  | some (.ok true, L1) => match fk τ1 L1 with
   | some (.ok dk, L2) => match fv τ1 L2 with
    | some (.ok (.v q), L3) => some (.ok (some (dk, q)), L3)
    | _ => none
   | _ => none
  | _ => none
open Classical in
noncomputable def Hu (ok : List MO → Prop) (turn : P → aA → M (Option (D × P))) (n : Nat) (τ : aA) : List P → List MO → Option (List MO)
 | [], L => if ok L then some L else none
 | p :: ps, L => if ok L then (match turn p τ L with
  | some (.ok none, L1) => Hu ok turn n τ ps L1
  | some (.ok (some (dk, v)), L1) => (match L1[n]?, keyD dk with
   | some (.dn es), some k => if es.length < sizeLine then Hu ok turn n τ ps (L1.set n (.dn (wX es k (kyV dk) v))) else none
   | _, _ => none)
  | _ => none) else none
noncomputable def Rv (turn : P → aA → M (Option (D × P))) (τ : aA) (it : Itm) : M D := fun L => Zt L.length (Hu it.2 turn L.length τ it.1 (L ++ [.dn []]))
noncomputable def dcS (src : aA → M Itm) (vs : List Nat) (tg : dF) (tt : aA → M Bool) (fk fv : aA → M D) (τ : aA) : M D := do
 let it ← src τ
 Rv (Ru tg tt fk fv) (cJ vs τ) it
section
variable {κ α : Type} [DecidableEq κ] {kf : κ → P} {vf : α → P} {nk : κ → NestedKey} {L : List MO} {E : EX} {Q : D → List MO → Prop} {τ : aA}
theorem wp_dc {src : aA → M Itm} {vs : List Nat} {tg : dF} {tt : aA → M Bool} {fk fv : aA → M D} : wp (dcS src vs tg tt fk fv τ) L E Q = wp (src τ) L E fun it L1 => wp (Rv (Ru tg tt fk fv) (cJ vs τ) it) L1 E Q := wp_bind
end
end DN
end
section
namespace DN
open PySem PySem.Spec PyProof.Rows L2
def vG (c a dx : Nat) (fs : List P) : Option D := some (.v (.exn c (.int a :: .int dx :: fs)))
def iY (i c : Nat) (fs : List P) (a dx : Nat) (t1 t2 : aA) : Prop := (∃ t : aA, i < t.length ∧ t1 = t.set i (vG c a dx fs) ∧ t2 = t.set i (vG c 0 0 fs)) ∨ (t1 = t2 ∧ ∀ c' xs, t1[i]? ≠ some (some (.v (.exn c' xs))))
def cD {α : Type} (i c : Nat) (fs : List P) (f : Nat → Nat → aA → M α) : Prop := ∀ a dx t1 t2, iY i c fs a dx t1 t2 → f a dx t1 = f 0 0 t2
def PO (i c : Nat) (fs : List P) (a dx : Nat) : Option (Out × List MO) → Option (Out × List MO) → Prop
 | none, none => True
 | some (.nx t1, L1), some (.nx t2, L2) => iY i c fs a dx t1 t2 ∧ L1 = L2
 | some (.bk t1, L1), some (.bk t2, L2) => iY i c fs a dx t1 t2 ∧ L1 = L2
 | some (.ct t1, L1), some (.ct t2, L2) => iY i c fs a dx t1 t2 ∧ L1 = L2
 | some (.rt d1, L1), some (.rt d2, L2) => d1 = d2 ∧ L1 = L2
 | some (.ex _ _ _, _), some (.ex _ _ _, _) => True
 | _, _ => False
def iZ (i c : Nat) (fs : List P) (S : Nat → Nat → SX) : Prop := ∀ a dx t1 t2 L, iY i c fs a dx t1 t2 → PO i c fs a dx (S a dx t1 L) (S 0 0 t2 L)
section
variable {i c a dx j : Nat} {fs : List P} {t1 t2 : aA}
theorem iY.get (h : iY i c fs a dx t1 t2) (hj : j ≠ i) : t1[j]? = t2[j]? := by
 rcases h with ⟨t, _, rfl, rfl⟩ | ⟨rfl, _⟩
 ·rw [List.getElem?_set_ne (Ne.symm hj), List.getElem?_set_ne (Ne.symm hj)]
 ·rfl
theorem iY.set {d : Option D} (h : iY i c fs a dx t1 t2) (hd : j ≠ i ∨ ∀ c' xs, d ≠ some (.v (.exn c' xs))) : iY i c fs a dx (t1.set j d) (t2.set j d) := by
 rcases h with ⟨t, hl, rfl, rfl⟩ | ⟨rfl, h⟩
 ·by_cases hj : j = i
  ·subst hj
   refine .inr ⟨by rw [List.set_set, List.set_set], fun c' xs e => ?_⟩
   rw [List.set_set, List.getElem?_set_self hl] at e
   rcases hd with z | z
   ·exact z rfl
   ·exact z c' xs (Option.some.inj e)
  ·exact .inl ⟨t.set j d, by rw [List.length_set]; exact hl, List.set_comm _ _ (Ne.symm hj), List.set_comm _ _ (Ne.symm hj)⟩
 ·refine .inr ⟨rfl, fun c' xs e => ?_⟩
  by_cases hj : j = i
  ·subst hj
   by_cases hl : j < t1.length
   ·rw [List.getElem?_set_self hl] at e
    rcases hd with z | z
    ·exact z rfl
    ·exact z c' xs (Option.some.inj e)
   ·rw [List.getElem?_eq_none (by rw [List.length_set]; omega)] at e
    cases e
  ·rw [List.getElem?_set_ne hj] at e
   exact h c' xs e
theorem iY.kill (h : iY i c fs a dx t1 t2) : ∀ vs : List Nat, iY i c fs a dx (cJ vs t1) (cJ vs t2) := by
 intro vs
 induction vs generalizing t1 t2 with
 | nil => exact h
 | cons v vs ih => exact ih (h.set (.inr fun _ _ e => by cases e))
variable {α β : Type} {f g : Nat → Nat → aA → M D} {fa : Nat → Nat → aA → M (List D)} {ta tb : Nat → Nat → aA → M Bool} {S T : Nat → Nat → SX}
theorem aBM (hj : j ≠ i) : cD i c fs fun _ _ => aC j := fun a dx t1 t2 h => by
 show aC j t1 = aC j t2
 funext L
 unfold aC
 rw [h.get hj]
theorem aBN {d : D} : cD i c fs fun _ _ => aG d := fun _ _ _ _ _ => rfl
theorem aBO {x : Nat} : cD i c fs fun a dx => lW a dx i x := fun a dx t1 t2 h => by
 show lW a dx i x t1 = lW 0 0 i x t2
 funext L
 rcases h with ⟨t, hl, rfl, rfl⟩ | ⟨rfl, h⟩
 ·unfold lW
  rw [List.getElem?_set_self hl, List.getElem?_set_self hl]
  unfold vG
  dsimp only
  rw [if_pos ⟨rfl, rfl⟩, if_pos ⟨rfl, rfl⟩]
 ·have none_ : ∀ a dx : Nat, lW a dx i x t1 L = none := fun a dx => by
   unfold lW
   split
   ·rename_i e
    exact absurd e (h _ _)
   ·rfl
  rw [none_, none_]
theorem aBP {b : Bool} : cD i c fs fun a dx => jT a dx i b := fun a dx t1 t2 h => by
 show jT a dx i b t1 = jT 0 0 i b t2
 funext L
 rcases h with ⟨t, hl, rfl, rfl⟩ | ⟨rfl, h⟩
 ·unfold jT
  rw [List.getElem?_set_self hl, List.getElem?_set_self hl]
  unfold vG
  dsimp only
  rw [if_pos ⟨rfl, rfl⟩, if_pos ⟨rfl, rfl⟩]
 ·have none_ : ∀ a dx : Nat, jT a dx i b t1 L = none := fun a dx => by
   unfold jT
   split
   ·rename_i e
    exact absurd e (h _ _)
   ·rfl
  rw [none_, none_]
theorem aBQ {op : D → D → M D} (hf : cD i c fs f) (hg : cD i c fs g) : cD i c fs fun a dx => bin op (f a dx) (g a dx) := fun a dx t1 t2 h => by
 dsimp only
 unfold bin
 rw [hf a dx t1 t2 h, hg a dx t1 t2 h]
theorem aBR {op : D → M D} (hf : cD i c fs f) : cD i c fs fun a dx => un op (f a dx) := fun a dx t1 t2 h => by
 dsimp only
 unfold un
 rw [hf a dx t1 t2 h]
theorem aBS {op : List D → M D} (hf : cD i c fs fa) : cD i c fs fun a dx => aO op (fa a dx) := fun a dx t1 t2 h => by
 dsimp only
 unfold aO
 rw [hf a dx t1 t2 h]
theorem aBT (hf : cD i c fs f) (hg : cD i c fs fa) : cD i c fs fun a dx => aF (f a dx) (fa a dx) := fun a dx t1 t2 h => by
 dsimp only
 unfold aF
 rw [hf a dx t1 t2 h, hg a dx t1 t2 h]
theorem aBU : cD i c fs fun _ _ => aM := fun _ _ _ _ _ => rfl
theorem aBV (hf : cD i c fs f) : cD i c fs fun a dx => bB (f a dx) := fun a dx t1 t2 h => by
 dsimp only
 unfold bB
 rw [hf a dx t1 t2 h]
theorem aBW (hf : cD i c fs ta) (hg : cD i c fs tb) : cD i c fs fun a dx => jN (ta a dx) (tb a dx) := fun a dx t1 t2 h => by
 dsimp only
 unfold jN
 rw [hf a dx t1 t2 h, hg a dx t1 t2 h]
theorem aBX (hf : cD i c fs ta) (hg : cD i c fs f) : cD i c fs fun a dx => mZ (ta a dx) (f a dx) := fun a dx t1 t2 h => by
 dsimp only
 unfold mZ
 rw [hf a dx t1 t2 h, hg a dx t1 t2 h]
theorem aBY (hf : cD i c fs ta) (hg : cD i c fs tb) : cD i c fs fun a dx => iT (ta a dx) (tb a dx) := fun a dx t1 t2 h => by
 dsimp only
 unfold iT
 rw [hf a dx t1 t2 h, hg a dx t1 t2 h]
theorem aBZ (hf : cD i c fs ta) : cD i c fs fun a dx => gQ (ta a dx) := fun a dx t1 t2 h => by
 dsimp only
 unfold gQ
 rw [hf a dx t1 t2 h]
theorem aBa {n : Nat} {tab : Nat → Option (List D → M D)} (hf : cD i c fs f) (hg : cD i c fs fa) : cD i c fs fun a dx => lU n tab (f a dx) (fa a dx) := fun a dx t1 t2 h => by
 dsimp only
 unfold lU
 rw [hf a dx t1 t2 h, hg a dx t1 t2 h]
theorem Cv {m : Nat → Nat → aA → M α} {k : Nat → Nat → α → SX} (hm : cD i c fs m) (hk : ∀ x, iZ i c fs fun a dx => k a dx x) : iZ i c fs fun a dx => bW (m a dx) (k a dx) := fun a dx t1 t2 L h => by
 dsimp only
 unfold bW
 rw [hm a dx t1 t2 h]
 cases m 0 0 t2 L with
 | none => trivial
 | some r =>
  obtain ⟨r, L1⟩ := r
  cases r with
  | ok x => exact hk x a dx t1 t2 L1 h
  | ex c' xs => trivial
theorem aBb (hj : j ≠ i) (hf : cD i c fs f) : iZ i c fs fun a dx => bM j (f a dx) := Cv hf fun d a dx t1 t2 L h => ⟨h.set (.inl hj), rfl⟩
theorem aBd (hf : cD i c fs f) : iZ i c fs fun a dx => gR (f a dx) := Cv hf fun d a dx t1 t2 L h => ⟨h, rfl⟩
theorem aBe (hf : cD i c fs f) : iZ i c fs fun a dx => retS (f a dx) := Cv hf fun d a dx t1 t2 L h => ⟨rfl, rfl⟩
theorem aBf : iZ i c fs fun _ _ => cA := fun a dx t1 t2 L h => ⟨h, rfl⟩
theorem aBg (ht : cD i c fs ta) (hs : iZ i c fs S) (hT : iZ i c fs T) : iZ i c fs fun a dx => cC (ta a dx) (S a dx) (T a dx) := Cv ht fun b => by
 cases b with
 | true => exact hs
 | false => exact hT
theorem aBh {vs : List Nat} (hs : iZ i c fs S) : iZ i c fs fun a dx => bD vs (S a dx) := fun a dx t1 t2 L h => hs a dx _ _ L (h.kill vs)
theorem aBi (hs : iZ i c fs S) (hT : iZ i c fs T) : iZ i c fs fun a dx => aR (S a dx) (T a dx) := fun a dx t1 t2 L h => by
 have q := hs a dx t1 t2 L h
 dsimp only
 unfold aR
 revert q
 match S a dx t1 L, S 0 0 t2 L with
 | none, none => exact fun _ => trivial
 | some (.nx t1, L1), some (.nx t2, L2) => intro q; obtain ⟨q, rfl⟩ := q; exact hT a dx t1 t2 L1 q
 | some (.bk t1, L1), some (.bk t2, L2) => exact fun q => q
 | some (.ct t1, L1), some (.ct t2, L2) => exact fun q => q
 | some (.rt d1, L1), some (.rt d2, L2) => exact fun q => q
 | some (.ex _ _ _, _), some (.ex _ _ _, _) => exact fun _ => trivial
 | none, some _ => exact fun q => q.elim
 | some (.nx _, _), none => exact fun q => q.elim
 | some (.bk _, _), none => exact fun q => q.elim
 | some (.ct _, _), none => exact fun q => q.elim
 | some (.rt _, _), none => exact fun q => q.elim
 | some (.ex _ _ _, _), none => exact fun q => q.elim
 | some (.nx _, _), some (.bk _, _) => exact fun q => q.elim
 | some (.nx _, _), some (.ct _, _) => exact fun q => q.elim
 | some (.nx _, _), some (.rt _, _) => exact fun q => q.elim
 | some (.nx _, _), some (.ex _ _ _, _) => exact fun q => q.elim
 | some (.bk _, _), some (.nx _, _) => exact fun q => q.elim
 | some (.bk _, _), some (.ct _, _) => exact fun q => q.elim
 | some (.bk _, _), some (.rt _, _) => exact fun q => q.elim
 | some (.bk _, _), some (.ex _ _ _, _) => exact fun q => q.elim
 | some (.ct _, _), some (.nx _, _) => exact fun q => q.elim
 | some (.ct _, _), some (.bk _, _) => exact fun q => q.elim
 | some (.ct _, _), some (.rt _, _) => exact fun q => q.elim
 | some (.ct _, _), some (.ex _ _ _, _) => exact fun q => q.elim
 | some (.rt _, _), some (.nx _, _) => exact fun q => q.elim
 | some (.rt _, _), some (.bk _, _) => exact fun q => q.elim
 | some (.rt _, _), some (.ct _, _) => exact fun q => q.elim
 | some (.rt _, _), some (.ex _ _ _, _) => exact fun q => q.elim
 | some (.ex _ _ _, _), some (.nx _, _) => exact fun q => q.elim
 | some (.ex _ _ _, _), some (.bk _, _) => exact fun q => q.elim
 | some (.ex _ _ _, _), some (.ct _, _) => exact fun q => q.elim
 | some (.ex _ _ _, _), some (.rt _, _) => exact fun q => q.elim
end
theorem aBj {i c a dx : Nat} {fs : List P} {o1 o2 : Option (Out × List MO)} : PO i c fs a dx o1 o2 → wU i o1 = wU i o2 := by
 have same : ∀ {t1 t2 : aA}, iY i c fs a dx t1 t2 → t1.set i none = t2.set i none := fun {t1 t2} q => by
  rcases q with ⟨t, _, rfl, rfl⟩ | ⟨rfl, _⟩
  ·rw [List.set_set, List.set_set]
  ·rfl
 match o1, o2 with
 | none, none => exact fun _ => rfl
 | some (.nx t1, L1), some (.nx t2, L2) => intro q; obtain ⟨q, rfl⟩ := q; show some (Out.nx _, _) = some (Out.nx _, _); rw [same q]
 | some (.bk t1, L1), some (.bk t2, L2) => intro q; obtain ⟨q, rfl⟩ := q; show some (Out.bk _, _) = some (Out.bk _, _); rw [same q]
 | some (.ct t1, L1), some (.ct t2, L2) => intro q; obtain ⟨q, rfl⟩ := q; show some (Out.ct _, _) = some (Out.ct _, _); rw [same q]
 | some (.rt d1, L1), some (.rt d2, L2) => intro q; obtain ⟨rfl, rfl⟩ := q; rfl
 | some (.ex _ _ _, _), some (.ex _ _ _, _) => exact fun _ => rfl
 | none, some _ => exact fun q => q.elim
 | some (.nx _, _), none => exact fun q => q.elim
 | some (.bk _, _), none => exact fun q => q.elim
 | some (.ct _, _), none => exact fun q => q.elim
 | some (.rt _, _), none => exact fun q => q.elim
 | some (.ex _ _ _, _), none => exact fun q => q.elim
 | some (.nx _, _), some (.bk _, _) => exact fun q => q.elim
 | some (.nx _, _), some (.ct _, _) => exact fun q => q.elim
 | some (.nx _, _), some (.rt _, _) => exact fun q => q.elim
 | some (.nx _, _), some (.ex _ _ _, _) => exact fun q => q.elim
 | some (.bk _, _), some (.nx _, _) => exact fun q => q.elim
 | some (.bk _, _), some (.ct _, _) => exact fun q => q.elim
 | some (.bk _, _), some (.rt _, _) => exact fun q => q.elim
 | some (.bk _, _), some (.ex _ _ _, _) => exact fun q => q.elim
 | some (.ct _, _), some (.nx _, _) => exact fun q => q.elim
 | some (.ct _, _), some (.bk _, _) => exact fun q => q.elim
 | some (.ct _, _), some (.rt _, _) => exact fun q => q.elim
 | some (.ct _, _), some (.ex _ _ _, _) => exact fun q => q.elim
 | some (.rt _, _), some (.nx _, _) => exact fun q => q.elim
 | some (.rt _, _), some (.bk _, _) => exact fun q => q.elim
 | some (.rt _, _), some (.ct _, _) => exact fun q => q.elim
 | some (.rt _, _), some (.ex _ _ _, _) => exact fun q => q.elim
 | some (.ex _ _ _, _), some (.nx _, _) => exact fun q => q.elim
 | some (.ex _ _ _, _), some (.bk _, _) => exact fun q => q.elim
 | some (.ex _ _ _, _), some (.ct _, _) => exact fun q => q.elim
 | some (.ex _ _ _, _), some (.rt _, _) => exact fun q => q.elim
theorem aBk {z : Clz} {i : Nat} (hi : z.i = some i) (h : ∀ c fs, iZ i c fs fun a dx => z.su a dx c) (a dx c : Nat) (fs : List P) (τ : aA) (L : List MO) : gJ z a dx c fs τ L = gJ z 0 0 c fs τ L := by
 unfold gJ
 rw [hi]
 dsimp only
 have pt : iY i c fs a dx (τ.set i (vG c a dx fs)) (τ.set i (vG c 0 0 fs)) := by
  by_cases hl : i < τ.length
  ·exact .inl ⟨τ, hl, rfl, rfl⟩
  ·refine .inr ⟨by rw [List.set_eq_of_length_le (by omega), List.set_eq_of_length_le (by omega)], fun c' xs e => ?_⟩
   rw [List.getElem?_eq_none (by rw [List.length_set]; omega)] at e
   cases e
 exact aBj (h c fs a dx _ _ L pt)
end DN
end
section
namespace DN
open PySem PySem.Spec PyProof.Rows L2
end DN
end
section
namespace GQ
open PySem PySem.Spec PyProof.Rows GenW L2
def pC (o : Obj) : Prop := ∃ es ep, o.data = .dict es ep ∧ StrKeys es
theorem pC.nocell {o : Obj} (h : pC o) : ∀ v, o.data ≠ .cell v := fun v q => by
 obtain ⟨es, ep, e, _⟩ := h
 rw [e] at q; cases q
theorem pC.ns {o : Obj} {h : Heap} {a : Addr} (q : pC o) (e : h.get? a = some o) : ∃ m, h.Ns a m := by
 obtain ⟨es, ep, d, k⟩ := q
 exact ⟨_, o, es, ep, e, d, k, fun _ => rfl⟩
structure Rest (S : Addr) (As : List Addr) (v : Value) (s s' : Shared) : Prop where
 sys : s'.os = s.os
 tab : AllBare s'.gens
 same : ∀ b o, b ∉ S :: As → s.heap.get? b = some o → s'.heap.get? b = some o
 list : ∀ acc c, s.heap.get? S = some (lstObj acc c) → ∃ c', s'.heap.get? S = some (lstObj (acc.push v) c')
 solid : ∀ a ∈ As, ∃ o, s'.heap.get? a = some o ∧ pC o
def GJ (X : Cx) (S : Addr) (As : List Addr) (ip : List (Addr × Obj)) (ys : List V) (σ : L2.St) (H : Hp) (s : Shared) : Prop :=
 ∃ (acc : Array Value) (c : Nat) (os : List (Addr × Obj)), (os.map (·.1) = As ∧ ∀ p ∈ os, pC p.2) ∧ Vals ys acc.toList ∧ Inv X ((S, lstObj acc c) :: (os ++ ip)) σ H s
variable {X : Cx} {S : Addr} {As : List Addr} {ip : List (Addr × Obj)} {ys : List V} {σ : L2.St} {H : Hp} {s s' : Shared}
theorem GJ.plain (h : GJ X S As ip ys σ H s) : Inv X ip σ H s := by
 obtain ⟨_, _, os, _, _, I⟩ := h
 exact I.pins_of fun p hp => I.pin p (List.mem_append_right _ (List.mem_cons_of_mem _ (List.mem_append_right _ hp)))
structure GE where
 nx : List V → L2.St → Hp → Prop
 rt : List V → VK
 bk : List V → L2.St → Hp → Prop := fun _ _ _ => False
 ct : List V → L2.St → Hp → Prop := fun _ _ _ => False
end GQ
end
section
namespace GQ
open PySem PySem.Spec PyProof.Rows GenW L2
end GQ
end
section
namespace GQ
open PySem PySem.Spec PyProof.Rows GenW L2
abbrev NoX : XK := fun _ _ _ => False
def aBm (P : Program) (w : World) (outer : List Env) (H : Hp) (s : Shared) (S : Addr) (As : List Addr) (Q : List V → Hp → Prop) : GenEnd := fun _ _ r s1 =>
 (r = .ok (.ret .none) ∨ r = .ok .next) ∧ ∃ H' ys acc c, (s1.os = s.os ∧ AllBare s1.gens) ∧ (Un (frs outer) [] H H' s.heap s1.heap ∧ HOk P w H' s1.heap) ∧ (∀ b ∈ S :: As, H' b = none) ∧ (∀ b ∈ As, ∃ o, s1.heap.get? b = some o ∧ pC o) ∧
  s1.heap.get? S = some (lstObj acc c) ∧ Vals ys acc.toList ∧ ys.length ≤ sizeLine ∧ Q ys H'
def aBn (s : Shared) (S : Addr) (As : List Addr) (a : Addr) (g : Nat) : Protocol := fun n _ _v s1 kap =>
 (s1.os = s.os ∧ AllBare s1.gens ∧ s1.heap.NoLimit ∧ s1.heap.IsGen a g) ∧ (∀ b ∈ As, ∃ o, s1.heap.get? b = some o ∧ pC o) ∧ (∃ (acc : Array Value) (c : Nat), s1.heap.get? S = some (lstObj acc c) ∧ n + 1 + acc.size = sizeLine) ∧ ∀ t, Rest S As _v s1 t → kap (.send .none) t
def Hv (P : Program) (w : World) (k : Nat) (outer : List Env) (H : Hp) (s : Shared) (Q : List V → Hp → Prop) (u : Value) (s' : Shared) : Prop :=
 ∃ (a : Addr) (g : Nat) (c : Code), u = .ref a ∧ (s.heap.objs.size ≤ a ∧ a < s'.heap.objs.size) ∧ (s'.heap.IsGen a g ∧ s'.gens[g]? = some (.fresh c)) ∧ (s'.os = s.os ∧ AllBare s'.gens ∧ s'.heap.NoLimit) ∧ (∀ b o, s.heap.get? b = some o → s'.heap.get? b = some o) ∧
  ∀ (A : Around) (S : Addr) (As : List Addr) (s2 : Shared), Room k A → A.frames = some outer → (∀ b ∈ S :: As, s'.heap.objs.size ≤ b) → S ∉ As → (∀ b o, s'.heap.get? b = some o → s2.heap.get? b = some o) → (∃ c, s2.heap.get? S = some (lstObj #[] c)) → (∀ b ∈ As, ∃ o, s2.heap.get? b = some o ∧ pC o) →
   s2.os = s.os → AllBare s2.gens → Seg (model P w) A (aBm P w outer H s S As Q) (aBn s S As a g) sizeLine s2 c ((model P w).den c) [] s2
abbrev Hw := List V → Hp → (List V → Hp → Prop) → Prop
structure Hz (P : Program) (w : World) (K : PySem.W.Frag) (mg : Str → Option Value) (base : Heap) (k : Nat) (f : Addr) (fd : FuncData) (ps : List Str) (sp : Hw) : Prop where
 len : ∀ vs H Q, sp vs H Q → vs.length = ps.length
 run : ∀ (A : Around) (outer : List Env) (s : Shared) (H : Hp) (args : Args) (us : List Value) (vs : List V) (Q : List V → Hp → Prop), Room k A → Env0 P w K mg base A outer s H → BindsTo s fd args (ps.zip us) → Vals vs us → sp vs H Q →
  codeAny (model P w) A (.call (.ref f) args) (fun r s' => match r with | .ok (.ret u) => Hv P w k outer H s Q u s' | _ => False) s
end GQ
end
section
namespace GQ
open PySem PySem.Spec PyProof.Rows GenW L2
section
variable {X : Cx} {k : Nat} {f C : Addr} {fd : FuncData} {ps : List Str} {sp : Hw} {x m : Str} {p pos pos' apos : Pos} {o : Expr} {ta : TE} {pins : List (Addr × Obj)} {σ : L2.St} {H : Hp} {s : Shared}
theorem Hv.made {P : Program} {w : World} {outer : List Env} {Q : List V → Hp → Prop} {u : Value} {s' : Shared} (h : Hv P w k outer H s Q u s') : GMade P w k outer H s [] Q NoX u s' := by
 obtain ⟨a, g, c, rfl, ⟨h1, h2⟩, ⟨h3, h4⟩, ⟨h5, h6, h7⟩, h8, wake⟩ := h
 refine ⟨a, g, c, rfl, h1, h2, h3, h4, h5, h6, h7, h8, fun A S s2 hr hf hS hk hl hos hb => ?_⟩
 refine seg_imp (fun n s0 r s1 q => ?_) (fun n s0 v s1 kap kap' hkk q => ?_) _ (wake A S [] s2 hr hf (fun b hb => by rw [List.mem_singleton.mp hb]; exact hS) (by simp) hk hl (fun b hb => by simp at hb) hos hb)
 ·obtain ⟨hr1, H', ys, acc, c1, ⟨q1, q2⟩, ⟨q3, q4⟩, q5, _, q6, q7, q8, q9⟩ := q
  exact .inl ⟨hr1, H', ys, acc, c1, q1, q2, q3, q4, q5 S List.mem_cons_self, q6, q7, q8, q9⟩
 ·obtain ⟨⟨q1, q2, q3, q4⟩, _, q5, q6⟩ := q
  exact ⟨q1, q2, q3, q4, q5, fun t z => hkk _ _ (q6 t ⟨z.os, z.bare, fun b o nb => z.keep b o fun e => nb (by rw [e]; exact List.mem_cons_self), z.own, fun b hb => by simp at hb⟩)⟩
end
end GQ
end
section
namespace GQ
open PySem PySem.Spec PyProof.Rows GenW L2
end GQ
end
section
namespace DN
open PySem L2 GQ
def mF (τ : aA) : Option D := τ.getLast?.join
def upD {α : Type} (f : aA → M α) : aA → M α := fun τ => f τ.dropLast
abbrev Ib (ps : List P) : Option D := some (.v (.lst ps))
def Ie (g : G) (F : Hp) (ρ : Nat → Addr) (n : Nat) (D : GE) : Option (Out × List MO) → Prop
 | some (.nx τ', L) => ∃ τ ps, τ' = τ ++ [Ib ps] ∧ ∀ F' ρ' H' σ' ys, Ext F ρ n F' ρ' L.length → R g F' ρ' L H' → Sl g F' ρ' L.length σ' τ → aP g F' ys ps → D.nx ys σ' H'
 | some (.bk τ', L) => ∃ τ ps, τ' = τ ++ [Ib ps] ∧ ∀ F' ρ' H' σ' ys, Ext F ρ n F' ρ' L.length → R g F' ρ' L H' → Sl g F' ρ' L.length σ' τ → aP g F' ys ps → D.bk ys σ' H'
 | some (.ct τ', L) => ∃ τ ps, τ' = τ ++ [Ib ps] ∧ ∀ F' ρ' H' σ' ys, Ext F ρ n F' ρ' L.length → R g F' ρ' L H' → Sl g F' ρ' L.length σ' τ → aP g F' ys ps → D.ct ys σ' H'
 | _ => False
theorem Ie.ext {g : G} {F F1 : Hp} {ρ ρ1 : Nat → Addr} {n n1 : Nat} {D : GE} {o : Option (Out × List MO)} (e : Ext F ρ n F1 ρ1 n1) (h : Ie g F ρ n D o) : Ie g F1 ρ1 n1 D o := by
 match o, h with
 | some (.nx τ, L), ⟨t, ps, h1, h2⟩ => exact ⟨t, ps, h1, fun F' ρ' H' σ' ys x => h2 F' ρ' H' σ' ys (e.trans x)⟩
 | some (.bk τ, L), ⟨t, ps, h1, h2⟩ => exact ⟨t, ps, h1, fun F' ρ' H' σ' ys x => h2 F' ρ' H' σ' ys (e.trans x)⟩
 | some (.ct τ, L), ⟨t, ps, h1, h2⟩ => exact ⟨t, ps, h1, fun F' ρ' H' σ' ys x => h2 F' ρ' H' σ' ys (e.trans x)⟩
end DN
end
section
namespace DN
open PySem PySem.Spec PyProof.Rows L2 GQ
abbrev GD := List D → List MO → Option (List P × List MO)
def Ig (g : G) (F : Hp) (ρ : Nat → Addr) (n : Nat) (Q : List V → Hp → Prop) : Option (List P × List MO) → Prop
 | none => False
 | some (ps, L) => ∀ F' ρ' H' ys, Ext F ρ n F' ρ' L.length → R g F' ρ' L H' → aP g F' ys ps → Q ys H'
theorem Ig.ext {g : G} {F F1 : Hp} {ρ ρ1 : Nat → Addr} {n n1 : Nat} {Q : List V → Hp → Prop} {o : Option (List P × List MO)} (e : Ext F ρ n F1 ρ1 n1) (h : Ig g F ρ n Q o) : Ig g F1 ρ1 n1 Q o := by
 match o, h with
 | some (ps, L), h => exact fun F' ρ' H' ys x => h F' ρ' H' ys (e.trans x)
section
variable {P0 : Program} {w : World} {K : PySem.W.Frag} {mg : Str → Option Value} {base : Heap} {g : G}
theorem Hz.imp {f : Addr} {fd : FuncData} {ps : List Str} {k : Nat} {sp sp' : Hw} (h : Hz P0 w K mg base k f fd ps sp) (i : ∀ vs H Q, sp' vs H Q → sp vs H Q) : Hz P0 w K mg base k f fd ps sp' :=
 ⟨fun vs H Q q => h.len vs H Q (i vs H Q q), fun A outer s H args us vs Q hr e0 hb r q => h.run A outer s H args us vs Q hr e0 hb r (i vs H Q q)⟩
end
end DN
end
section
namespace DN
open PySem PySem.Spec PyProof.Rows L2 GQ
def Rw (c : Nat) (fn : GD) (f : aA → M D) : aA → M (List P) := fun τ L => match f τ L with
 | some (.ok x, L1) => if clsOf L1 x = some c then (match fn [x] L1 with
  | some (ps, L2) => some (.ok ps, L2)
  | none => none) else none
 | some (.ex k fs, L1) => some (.ex k fs, L1)
 | none => none
def Rx (n : Nat) (fn : GD) (fs : aA → M (List D)) : aA → M (List P) := fun τ L => match fs τ L with
 | some (.ok ds, L1) => if ds.length = n then (match fn ds L1 with
  | some (ps, L2) => some (.ok ps, L2)
  | none => none) else none
 | some (.ex k fs, L1) => some (.ex k fs, L1)
 | none => none
def Cy (mu : Bool) (q : aA → M (List P)) : aA → M D := fun τ L => match q τ L with
 | some (.ok ps, L1) => if mu = true then some (.ok (.r L1.length), L1 ++ [.lst ps]) else some (.ok (.v (.lst ps)), L1)
 | some (.ex c fs, L1) => some (.ex c fs, L1)
 | none => none
end DN
end
section
namespace DN
open PySem
section
variable {α : Type} {L : List MO} {E : EX} {τ : aA} {k : KK} {s : SX}
theorem dlz1 {a0 : Option D} : List.dropLast [a0] = ([] : List (Option D)) := rfl
theorem ldz1 {a0 : Option D} : mF [a0] = a0 := by cases a0 <;> rfl
theorem dlz2 {a0 a1 : Option D} : List.dropLast [a0, a1] = ([a0] : List (Option D)) := rfl
theorem ldz2 {a0 a1 : Option D} : mF [a0, a1] = a1 := by cases a1 <;> rfl
theorem dlz3 {a0 a1 a2 : Option D} : List.dropLast [a0, a1, a2] = ([a0, a1] : List (Option D)) := rfl
theorem ldz3 {a0 a1 a2 : Option D} : mF [a0, a1, a2] = a2 := by cases a2 <;> rfl
theorem dlz4 {a0 a1 a2 a3 : Option D} : List.dropLast [a0, a1, a2, a3] = ([a0, a1, a2] : List (Option D)) := rfl
theorem ldz4 {a0 a1 a2 a3 : Option D} : mF [a0, a1, a2, a3] = a3 := by cases a3 <;> rfl
theorem dlz5 {a0 a1 a2 a3 a4 : Option D} : List.dropLast [a0, a1, a2, a3, a4] = ([a0, a1, a2, a3] : List (Option D)) := rfl
theorem ldz5 {a0 a1 a2 a3 a4 : Option D} : mF [a0, a1, a2, a3, a4] = a4 := by cases a4 <;> rfl
theorem dlz6 {a0 a1 a2 a3 a4 a5 : Option D} : List.dropLast [a0, a1, a2, a3, a4, a5] = ([a0, a1, a2, a3, a4] : List (Option D)) := rfl
theorem ldz6 {a0 a1 a2 a3 a4 a5 : Option D} : mF [a0, a1, a2, a3, a4, a5] = a5 := by cases a5 <;> rfl
theorem dlz7 {a0 a1 a2 a3 a4 a5 a6 : Option D} : List.dropLast [a0, a1, a2, a3, a4, a5, a6] = ([a0, a1, a2, a3, a4, a5] : List (Option D)) := rfl
theorem ldz7 {a0 a1 a2 a3 a4 a5 a6 : Option D} : mF [a0, a1, a2, a3, a4, a5, a6] = a6 := by cases a6 <;> rfl
theorem dlz8 {a0 a1 a2 a3 a4 a5 a6 a7 : Option D} : List.dropLast [a0, a1, a2, a3, a4, a5, a6, a7] = ([a0, a1, a2, a3, a4, a5, a6] : List (Option D)) := rfl
theorem ldz8 {a0 a1 a2 a3 a4 a5 a6 a7 : Option D} : mF [a0, a1, a2, a3, a4, a5, a6, a7] = a7 := by cases a7 <;> rfl
theorem dlz9 {a0 a1 a2 a3 a4 a5 a6 a7 a8 : Option D} : List.dropLast [a0, a1, a2, a3, a4, a5, a6, a7, a8] = ([a0, a1, a2, a3, a4, a5, a6, a7] : List (Option D)) := rfl
theorem ldz9 {a0 a1 a2 a3 a4 a5 a6 a7 a8 : Option D} : mF [a0, a1, a2, a3, a4, a5, a6, a7, a8] = a8 := by cases a8 <;> rfl
theorem dlz10 {a0 a1 a2 a3 a4 a5 a6 a7 a8 a9 : Option D} : List.dropLast [a0, a1, a2, a3, a4, a5, a6, a7, a8, a9] = ([a0, a1, a2, a3, a4, a5, a6, a7, a8] : List (Option D)) := rfl
theorem ldz10 {a0 a1 a2 a3 a4 a5 a6 a7 a8 a9 : Option D} : mF [a0, a1, a2, a3, a4, a5, a6, a7, a8, a9] = a9 := by cases a9 <;> rfl
theorem dlz11 {a0 a1 a2 a3 a4 a5 a6 a7 a8 a9 a10 : Option D} : List.dropLast [a0, a1, a2, a3, a4, a5, a6, a7, a8, a9, a10] = ([a0, a1, a2, a3, a4, a5, a6, a7, a8, a9] : List (Option D)) := rfl
theorem ldz11 {a0 a1 a2 a3 a4 a5 a6 a7 a8 a9 a10 : Option D} : mF [a0, a1, a2, a3, a4, a5, a6, a7, a8, a9, a10] = a10 := by cases a10 <;> rfl
def Cz (r : Option (List P × List MO)) (Q : List P → List MO → Prop) : Prop := match r with
 | some (ps, L1) => Q ps L1
 | none => False
theorem wpz_upD {f : aA → M α} {Q : α → List MO → Prop} : wp (upD f τ) L E Q = wp (f τ.dropLast) L E Q := rfl
theorem wpz_listO {c : Nat} {fn : GD} {mu : Bool} {f : aA → M D} {Q : D → List MO → Prop} : wp (Cy mu (Rw c fn f) τ) L E Q = wp (f τ) L E (fun x L1 => clsOf L1 x = some c ∧ Cz (fn [x] L1) fun ps L2 => if mu = true then Q (.r L2.length) (L2 ++ [.lst ps]) else Q (.v (.lst ps)) L2) := by
 unfold wp Cy Rw Cz
 cases e : f τ L with
 | none => rfl
 | some r =>
  obtain ⟨r, L1⟩ := r
  cases r with
  | ex c fs => rfl
  | ok x =>
   dsimp only
   by_cases hc : clsOf L1 x = some c
   ·rw [if_pos hc]
    cases e2 : fn [x] L1 with
    | none => simp
    | some q =>
     obtain ⟨ps, L2⟩ := q
     cases mu <;> simp [hc]
   ·rw [if_neg hc]
    simp [hc]
theorem wpz_listA {n : Nat} {fn : GD} {mu : Bool} {f : aA → M (List D)} {Q : D → List MO → Prop} : wp (Cy mu (Rx n fn f) τ) L E Q = wp (f τ) L E (fun ds L1 => ds.length = n ∧ Cz (fn ds L1) fun ps L2 => if mu = true then Q (.r L2.length) (L2 ++ [.lst ps]) else Q (.v (.lst ps)) L2) := by
 unfold wp Cy Rx Cz
 cases e : f τ L with
 | none => rfl
 | some r =>
  obtain ⟨r, L1⟩ := r
  cases r with
  | ex c fs => rfl
  | ok ds =>
   dsimp only
   by_cases hc : ds.length = n
   ·rw [if_pos hc]
    cases e2 : fn ds L1 with
    | none => simp
    | some q =>
     obtain ⟨ps, L2⟩ := q
     cases mu <;> simp [hc]
   ·rw [if_neg hc]
    simp [hc]
end
end DN
end
section
namespace DN
section
variable {ps : List Pg} {B : Pg → List Pg}
inductive Fr (ps : List Pg) (B : Pg → List Pg) : Pg → Prop where
 | mk {p : Pg} : p ∈ ps → (∀ q ∈ B p, Fr ps B q) → Fr ps B p
theorem Fr.mem {p : Pg} (h : Fr ps B p) : p ∈ ps := by cases h with | mk h _ => exact h
structure Good (ps : List Pg) (B : Pg → List Pg) (o : List Pg) : Prop where
 nd : o.Nodup
 fr : ∀ p ∈ o, Fr ps B p
theorem Good.sub {o : List Pg} (h : Good ps B o) : ∀ p ∈ o, p ∈ ps := fun p hp => (h.fr p hp).mem
theorem Good.nil : Good ps B [] := ⟨List.nodup_nil, fun p hp => by cases hp⟩
theorem full {o : List Pg} (h : Good ps B o) (hl : ps.length ≤ o.length) : ∀ p ∈ ps, p ∈ o := fun p hp => by
 refine Classical.byContradiction fun hn => ?_
 have := G4 (xs := p :: o) (ys := ps) (List.nodup_cons.mpr ⟨hn, h.nd⟩) fun x hx => by
  rcases List.mem_cons.mp hx with z | z
  ·rw [z]; exact hp
  ·exact h.sub x z
 rw [List.length_cons] at this
 omega
end
end DN
end
section
namespace DN
open PySem PySem.Spec PyProof.Rows L2
section
variable {P0 : Program} {w : World} {K : PySem.W.Frag} {mg : Str → Option Value} {base : Heap} {g : G}
structure vH (P0 : Program) (w : World) (K : PySem.W.Frag) (mg : Str → Option Value) (base : Heap) (k : Nat) (f : Addr) (fd : FuncData) (ps : List Str) (sp : L2.Sp) : Prop where
 len : ∀ vs H Q E, sp vs H Q E → vs.length = ps.length
 run : ∀ (A : Around) (outer : List Env) (s : Shared) (H : Hp) (args : Args) (us : List Value) (vs : List V) (Q : VK) (E : XK) (p : Addr × Obj), L2H.RoomH k A → L2H.PinOk outer H s p → Env0 P0 w K mg base A outer s H → BindsTo s fd args (ps.zip us) → Vals vs us → sp vs H Q E →
  codeAny (model P0 w) A (.call (.ref f) args) (CR (L2.CX P0 w) outer P0 w H s Q E) s
theorem vH.imp {k : Nat} {f : Addr} {fd : FuncData} {ps : List Str} {sp sp' : L2.Sp} (F : vH P0 w K mg base k f fd ps sp) (h : ∀ vs H Q E, sp' vs H Q E → sp vs H Q E) : vH P0 w K mg base k f fd ps sp' :=
 ⟨fun vs H Q E q => F.len vs H Q E (h _ _ _ _ q), fun A outer s H args us vs Q E p hr hp he hb hv hs => F.run A outer s H args us vs Q E p hr hp he hb hv (h _ _ _ _ hs)⟩
end
section
variable {P0 : Program} {w : World} {K : PySem.W.Frag} {mg : Str → Option Value} {base : Heap} {g : G}
theorem vH.mono {j k : Nat} {f : Addr} {fd : FuncData} {ps : List Str} {sp : L2.Sp} (F : vH P0 w K mg base j f fd ps sp) (h : j ≤ k) : vH P0 w K mg base k f fd ps sp :=
 ⟨F.len, fun A outer s H args us vs Q E p hr => F.run A outer s H args us vs Q E p ⟨by have := hr.dp; omega, by have := hr.un; omega⟩⟩
end
end DN
end
section
namespace DN
open Classical in
noncomputable def mG (ss : List Sp) (rows : List Row) (tg st : Pg → Nat) : Pg → Nat := fun q => if Fr ((Cp ss st).filter fun p => decide (fD ss p ≤ tg p)) (Cm ss rows st) q then fD ss q else st q
noncomputable def jH (ss : List Sp) (rows : List Row) (tg : Pg → Nat) : Nat → Pg → Nat
 | 0 => fun _ => 0
 | i + 1 => mG (ss.take (i + 1)) rows tg (jH ss rows tg i)
section
variable {ss : List Sp} {rows : List Row} {tg : Pg → Nat}
theorem take_at {i j : Nat} {s : Sp} (h : (ss.take i)[j]? = some s) : ss[j]? = some s ∧ j < i := by
 have hl := (List.getElem?_eq_some_iff.mp h).1
 rw [List.length_take] at hl
 rw [List.getElem?_take_of_lt (by omega)] at h
 exact ⟨h, by omega⟩
theorem Ry (i : Nat) : ∀ q, jH ss rows tg i q ∈ vers (ss.take i) q := by
 induction i with
 | zero => exact fun q => oZ.mpr (.inl rfl)
 | succ i ih =>
  intro q
  show mG _ _ _ _ q ∈ _
  unfold mG
  split
  ·exact Ck _ _
  ·rcases oZ.mp (ih q) with z | ⟨j, s, e, hm, z⟩
   ·exact oZ.mpr (.inl z)
   ·obtain ⟨e1, hj⟩ := take_at e
    exact oZ.mpr (.inr ⟨j, s, by rw [List.getElem?_take_of_lt (by omega)]; exact e1, hm, z⟩)
theorem aBp {i : Nat} {q : Pg} {v : Nat} (h : v ∈ vers (ss.take i) q) : v ∈ vers (ss.take (i + 1)) q := by
 rcases oZ.mp h with z | ⟨j, s, e, hm, z⟩
 ·exact oZ.mpr (.inl z)
 ·obtain ⟨e1, hj⟩ := take_at e
  exact oZ.mpr (.inr ⟨j, s, by rw [List.getElem?_take_of_lt (by omega)]; exact e1, hm, z⟩)
theorem Rz (i : Nat) (q : Pg) : jH ss rows tg i q ≤ jH ss rows tg (i + 1) q := by
 show _ ≤ mG _ _ _ _ q
 unfold mG
 split
 ·exact Qz (aBp (Ry i q))
 ·exact Nat.le_refl _
end
end DN
end
section
namespace DN
open PySem PySem.Spec PyProof.Rows L2
end DN
end
section
namespace DN
end DN
end
section
namespace DN
open PySem PySem.Spec PyProof.Rows L2
def R3 (neg : Bool) : D → D → M D := fun x y L => match nZ L y, x with
 | some es, .v (.str k) => some (.ok (.v (.bl (xor neg (qR es k).isSome))), L)
 | _, _ => none
def R4 : D → D → M D := fun x y L => match nZ L x, y with
 | some es, .v (.str k) => match qR es k with
  | some p => some (.ok (.v p), L)
  | none => none
 | _, _ => none
def putS (es : List (Key × P)) (k : Str) (p : P) : List (Key × P) := match qR es k with
 | some _ => es.map fun e => if e.1 = .inr k then (e.1, p) else e
 | none => es ++ [(.inr k, p)]
def Dd : D → D → D → M Unit := fun o i v L => match o, i, v with
 | .r n, .v (.str k), .v p => match L[n]? with
  | some (.dk es) => if es.length < sizeLine then some (.ok (), L.set n (.dk (putS es k p))) else none
  | _ => none
 | _, _, _ => none
section
variable {g : G} {X : Cx} {W : WX} {o e a b : Expr} {fo fk fv fa fb : aA → M D} {pos p2 : Pos}
def R5 (fo fi fv : aA → M D) : SX := bW fv fun v => bW fo fun x => bW fi fun y => jV (Dd x y v)
end
end DN
namespace DN
open PySem PySem.Spec PyProof.Rows L2
def yN (n k v k2 v2 : D) : M D := fun L => match n, k, v, k2, v2 with
 | .r n, .v (.str a), .v p, .v (.str b), .v q => match L[n]? with
  | some (.dk []) => some (.ok (.r n), L.set n (.dk (putS (putS [] a p) b q)))
  | _ => none
 | _, _, _, _, _ => none
def aBq (fk fv fk2 fv2 : aA → M D) (τ : aA) : M D := fun L => (fk τ >>= fun k => fv τ >>= fun v => fk2 τ >>= fun k2 => fv2 τ >>= fun v2 => yN (.r L.length) k v k2 v2) (L ++ [.dk []])
end DN
end
section
namespace DN
open PySem PySem.Spec PyProof.Rows L2
def Df : Option MO → (List (Key × P) → Prop) → Prop
 | some (.dk es), q => q es
 | _, _ => False
def Ih : Option MO → Prop → Prop
 | some (.dk []), q => q
 | _, _ => False
def R6 : D → (Str → Prop) → Prop
 | .v (.str x), q => q x
 | _, _ => False
def R7 : D → (P → Prop) → Prop
 | .v p, q => q p
 | _, _ => False
def R8 : List P → (P → List P → Prop) → Prop
 | x :: xs, q => q x xs
 | [], _ => False
section
variable {L : List MO} {E : EX} {Q : D → List MO → Prop} {τ : aA} {fk fv fk2 fv2 fo fi : aA → M D} {k : KK}
theorem aBr {es : List (Key × P)} {q : List (Key × P) → Prop} : Df (some (.dk es)) q = q es := rfl
theorem dk0W_some {q : Prop} : Ih (some (.dk [])) q = q := rfl
theorem aBs {x : Str} {q : Str → Prop} : R6 (.v (.str x)) q = q x := rfl
theorem aBt {p : P} {q : P → Prop} : R7 (.v p) q = q p := rfl
theorem popW_cons {x : P} {xs : List P} {q : P → List P → Prop} : R8 (x :: xs) q = q x xs := rfl
abbrev R9 : EX := fun _ _ _ => False
theorem wpz_dkOne : wp (Q5 fk fv τ) L E Q = wp (fk τ) (L ++ [.dk []]) R9 fun d L1 => R6 d fun x => wp (fv τ) L1 R9 fun e L2 => R7 e fun p => Ih L2[L.length]? (Q (.r L.length) (L2.set L.length (.dk [(.inr x, p)]))) := by
 unfold wp Q5
 match e1 : fk τ (L ++ [.dk []]) with
 | none => simp only [e1]
 | some (.ex c fs, L1) => simp only [e1]
 | some (.ok (.r n), L1) => simp only [e1]; rfl
 | some (.ok (.v pk), L1) =>
  simp only [e1]
  cases pk with
  | str x =>
   simp only [aBs]
   match e2 : fv τ L1 with
   | none => simp only [e2]
   | some (.ex c fs, L2) => simp only [e2]
   | some (.ok (.r n), L2) => simp only [e2]; rfl
   | some (.ok (.v pv), L2) =>
    simp only [e2, aBt]
    match e3 : L2[L.length]? with
    | some (.dk []) => simp only [e3]; rfl
    | some (.dk (_ :: _)) => simp only [e3]; rfl
    | none => simp only [e3]; rfl
    | some (.lst _) => simp only [e3]; rfl
    | some (.dn _) => simp only [e3]; rfl
    | some (.ins _ _) => simp only [e3]; rfl
    | some (.set _) => simp only [e3]; rfl
    | some .dead => simp only [e3]; rfl
  | _ => rfl
theorem wpz_dkTwo : wp (aBq fk fv fk2 fv2 τ) L E Q = wp (fk τ) (L ++ [.dk []]) E fun d L1 => wp (fv τ) L1 E fun e L2 => wp (fk2 τ) L2 E fun d2 L3 => wp (fv2 τ) L3 E fun e2 L4 => wp (yN (.r L.length) d e d2 e2) L4 E Q := by
 show wp (fk τ >>= fun k => fv τ >>= fun v => fk2 τ >>= fun k2 => fv2 τ >>= fun v2 => yN (.r L.length) k v k2 v2) (L ++ [.dk []]) E Q = _
 rw [wp_bind]
 congr 1
 funext d L1
 rw [wp_bind]
 congr 1
 funext e L2
 rw [wp_bind]
 congr 1
 funext d2 L3
 rw [wp_bind]
theorem wpz_putTwo {n : Nat} {a b : Str} {p q : P} : wp (yN (.r n) (.v (.str a)) (.v p) (.v (.str b)) (.v q)) L E Q = Ih L[n]? (Q (.r n) (L.set n (.dk (putS (putS [] a p) b q)))) := by
 unfold wp yN
 match e3 : L[n]? with
 | some (.dk []) => simp only [e3]; rfl
 | some (.dk (_ :: _)) => simp only [e3]; rfl
 | none => simp only [e3]; rfl
 | some (.lst _) => simp only [e3]; rfl
 | some (.dn _) => simp only [e3]; rfl
 | some (.ins _ _) => simp only [e3]; rfl
 | some (.set _) => simp only [e3]; rfl
 | some .dead => simp only [e3]; rfl
theorem wpz_inK {n : Nat} {neg : Bool} {y : Str} : wp (R3 neg (.v (.str y)) (.r n)) L E Q = Df L[n]? fun es => Q (.v (.bl (xor neg (qR es y).isSome))) L := by
 unfold wp R3 nZ
 match e3 : L[n]? with
 | some (.dk _) => simp only [e3]; rfl
 | none => simp only [e3]; rfl
 | some (.lst _) => simp only [e3]; rfl
 | some (.dn _) => simp only [e3]; rfl
 | some (.ins _ _) => simp only [e3]; rfl
 | some (.set _) => simp only [e3]; rfl
 | some .dead => simp only [e3]; rfl
theorem wpz_ixK {n : Nat} {y : Str} : wp (R4 (.r n) (.v (.str y))) L E Q = Df L[n]? fun es => sJ (qR es y) fun p => Q (.v p) L := by
 unfold wp R4 nZ
 match e3 : L[n]? with
 | some (.dk es) =>
  simp only [e3, aBr]
  cases e4 : qR es y <;> simp only [e4] <;> rfl
 | none => simp only [e3]; rfl
 | some (.lst _) => simp only [e3]; rfl
 | some (.dn _) => simp only [e3]; rfl
 | some (.ins _ _) => simp only [e3]; rfl
 | some (.set _) => simp only [e3]; rfl
 | some .dead => simp only [e3]; rfl
theorem wps_setKS : wps (R5 fo fi fv) τ L k = wp (fv τ) L (k.ex τ) (fun v L1 => wp (fo τ) L1 (k.ex τ) (fun x L2 => wp (fi τ) L2 (k.ex τ) (fun y L3 => wps (jV (Dd x y v)) τ L3 k))) := by
 unfold R5
 rw [eO]
 congr 1
 funext v L1
 rw [eO]
 congr 1
 funext x L2
 rw [eO]
theorem wps_setKu {n : Nat} {y : Str} {p : P} : wps (jV (Dd (.r n) (.v (.str y)) (.v p))) τ L k = Df L[n]? fun es => es.length < sizeLine ∧ k.nx τ (L.set n (.dk (putS es y p))) := by
 unfold wps jV Dd
 match e3 : L[n]? with
 | some (.dk es) =>
  simp only [e3]
  by_cases c : es.length < sizeLine
  ·rw [if_pos c]; exact propext ⟨fun h => ⟨c, h⟩, fun h => h.2⟩
  ·rw [if_neg c]; exact propext ⟨fun h => h.elim, fun h => c h.1⟩
 | none => simp only [e3]; rfl
 | some (.lst _) => simp only [e3]; rfl
 | some (.dn _) => simp only [e3]; rfl
 | some (.ins _ _) => simp only [e3]; rfl
 | some (.set _) => simp only [e3]; rfl
 | some .dead => simp only [e3]; rfl
theorem wpz_popAt0 {n : Nat} : wp (Oo (.r n) [.v (.int 0)]) L E Q = nW L[n]? fun xs => R8 xs fun x ys => Q (.v x) (L.set n (.lst ys)) := by
 unfold wp Oo iU
 match e3 : L[n]? with
 | some (.lst xs) =>
  simp only [e3]
  rw [if_pos (by decide)]
  cases xs <;> rfl
 | some (.dk _) => simp only [e3]; rfl
 | none => simp only [e3]; rfl
 | some (.dn _) => simp only [e3]; rfl
 | some (.ins _ _) => simp only [e3]; rfl
 | some (.set _) => simp only [e3]; rfl
 | some .dead => simp only [e3]; rfl
end
end DN
end
section
namespace DN
open PySem
def Sd (ks : List Ki) (k a : Str) : Str := match fiR ks k a with
 | some r => r.g
 | none => ""
def dW (ks : List Ki) (r : Row) : Str × Str := (Sd ks r.1 r.2.1, Sd ks r.1 r.2.2)
def GE (ks : List Ki) (rows : List Row) (x y : Str) : Prop := ∃ r ∈ rows, dW ks r = (x, y)
abbrev GT (ks : List Ki) (rows : List Row) : Str → Str → Prop := Relation.TransGen (GE ks rows)
def GR (ks : List Ki) (rows : List Row) (x y : Str) : Prop := x = y ∨ GT ks rows x y
section
variable {ks : List Ki} {rows : List Row} {x y z : Str}
theorem GR.step (h : GR ks rows x y) (e : GE ks rows y z) : GR ks rows x z := by
 rcases h with rfl | h
 ·exact .inr (.single e)
 ·exact .inr (.tail h e)
inductive sU (ks : List Ki) (rows : List Row) (x : Str) : List Row → Str → Prop where
 | nil : sU ks rows x [] x
 | snoc {p : List Row} {y z : Str} {r : Row} : sU ks rows x p y → r ∈ rows → dW ks r = (y, z) → sU ks rows x (p ++ [r]) z
theorem sU.mem {p : List Row} (h : sU ks rows x p y) : ∀ r ∈ p, r ∈ rows := by
 induction h with
 | nil => intro r hr; cases hr
 | snoc _ hr _ ih => intro r h; rcases List.mem_append.mp h with z | z; exact ih r z; rw [List.mem_singleton.mp z]; exact hr
structure Dg (ks : List Ki) (rows : List Row) (x : Str) (p : List Row) (y : Str) : Prop where
 pt : sU ks rows x p y
 nd : (x :: p.map fun r => (dW ks r).2).Nodup
end
structure sV (ks : List Ki) (rows : List Row) (x : Str) (es : List (Str × List Row)) (todo : List Str) : Prop where
 nd : (es.map (·.1)).Nodup
 pth : ∀ e ∈ es, Dg ks rows x e.2 e.1 ∧ ∀ r ∈ e.2, (dW ks r).2 ∈ es.map (·.1)
 td : ∀ y ∈ todo, y ∈ es.map (·.1)
 st : x ∈ es.map (·.1)
section
variable {ks : List Ki} {rows : List Row} {x y z : Str} {es : List (Str × List Row)} {todo : List Str}
theorem sV.len (h : sV ks rows x es todo) : es.length ≤ rows.length + 1 := by
 have : (es.map (·.1)).length ≤ (x :: rows.map fun r => (dW ks r).2).length := G4 h.nd fun y hy => by
  obtain ⟨e, he, rfl⟩ := List.mem_map.mp hy
  have := (h.pth e he).1.pt
  generalize e.2 = p at this
  generalize e.1 = w at this
  cases this with
  | nil => exact List.mem_cons_self
  | snoc _ hr e => exact List.mem_cons_of_mem _ (List.mem_map.mpr ⟨_, hr, by rw [e]⟩)
 rw [List.length_map, List.length_cons, List.length_map] at this
 exact this
theorem Dg.len {p : List Row} (h : Dg ks rows x p y) : p.length ≤ rows.length := by
 have h1 : (p.map fun r => (dW ks r).2).length ≤ (rows.map fun r => (dW ks r).2).length := G4 (List.nodup_cons.mp h.nd).2 fun y hy => by
  obtain ⟨r, hr, rfl⟩ := List.mem_map.mp hy
  exact List.mem_map.mpr ⟨r, h.pt.mem r hr, rfl⟩
 rw [List.length_map, List.length_map] at h1
 exact h1
theorem sV.new : sV ks rows x [(x, [])] [x] := ⟨by simp, fun e he => by rw [List.mem_singleton.mp he]; exact ⟨⟨.nil, by simp⟩, fun r hr => by cases hr⟩, by simp, by simp⟩
theorem sV.add (h : sV ks rows x es todo) {p : List Row} {r : Row} (hp : (y, p) ∈ es) (hr : r ∈ rows) (e : dW ks r = (y, z)) (hn : z ∉ es.map (·.1)) : sV ks rows x (es ++ [(z, p ++ [r])]) (todo ++ [z]) := by
 obtain ⟨hp1, hp2⟩ := h.pth _ hp
 have hm : ∀ w, w ∈ (es ++ [(z, p ++ [r])]).map (·.1) ↔ w ∈ es.map (·.1) ∨ w = z := fun w => by simp
 refine ⟨?_, fun q hq => ?_, fun w hw => (hm w).mpr ?_, (hm x).mpr (.inl h.st)⟩
 ·rw [List.map_append, List.nodup_append]
  exact ⟨h.nd, by simp, fun a ha b hb e => hn ((show a = z from e.trans (List.mem_singleton.mp hb)) ▸ ha)⟩
 ·rcases List.mem_append.mp hq with c | c
  ·exact ⟨(h.pth q c).1, fun r hr => (hm _).mpr (.inl ((h.pth q c).2 r hr))⟩
  ·rw [List.mem_singleton.mp c]
   refine ⟨⟨hp1.pt.snoc hr e, ?_⟩, fun r2 hr2 => (hm _).mpr ?_⟩
   ·have e2 : (x :: (p ++ [r]).map fun r => (dW ks r).2) = (x :: p.map fun r => (dW ks r).2) ++ [z] := by
     rw [List.map_append, List.map_singleton, e]; rfl
    dsimp only
    rw [e2, List.nodup_append]
    refine ⟨hp1.nd, by simp, fun a ha b hb e => hn ?_⟩
    rw [List.mem_singleton.mp hb] at e
    subst e
    rcases List.mem_cons.mp ha with q | q
    ·rw [q]; exact h.st
    ·obtain ⟨r3, h3, e4⟩ := List.mem_map.mp q
     rw [← e4]
     exact hp2 r3 h3
   ·dsimp only at hr2
    rcases List.mem_append.mp hr2 with q | q
    ·exact .inl (hp2 r2 q)
    ·rw [List.mem_singleton.mp q]
     exact .inr (congrArg Prod.snd e)
 ·rcases List.mem_append.mp hw with q | q
  ·exact .inl (h.td w q)
  ·exact .inr (List.mem_singleton.mp q)
end
end DN
end
section
namespace DN
open PySem
def oA (c : List Row) (i : Nat) : Row := c.getD i ("", "", "")
structure aBu (ks : List Ki) (rows c : List Row) : Prop where
 l2 : 2 ≤ c.length
 l8 : c.length ≤ 800
 mem : ∀ r ∈ c, r ∈ rows
 ch : ∀ i, i < c.length → (dW ks (oA c i)).2 = (dW ks (oA c ((i + 1) % c.length))).1
structure Ii (ks : List Ki) (rows : List Row) (c : List Row) : Prop where
 ex : ∃ r p, c = r :: p ∧ r ∈ rows ∧ Dg ks rows (dW ks r).2 p (dW ks r).1
section
variable {ks : List Ki} {rows c : List Row} {x y z : Str}
theorem Ij {i : Nat} {r : Row} (h : c[i]? = some r) : oA c i = r := by
 unfold oA
 rw [List.getD_eq_getElem?_getD, h]
 rfl
theorem aBv {p : List Row} (h : sU ks rows x p y) : (p = [] → x = y) ∧ (∀ r, p[0]? = some r → (dW ks r).1 = x) ∧ (∀ r, p[p.length - 1]? = some r → (dW ks r).2 = y) ∧ ∀ i r s, p[i]? = some r → p[i + 1]? = some s → (dW ks r).2 = (dW ks s).1 := by
 induction h with
 | nil => exact ⟨fun _ => rfl, fun r e => by simp at e, fun r e => by simp at e, fun i r s e => by simp at e⟩
 | @snoc p y z r hp hr e ih =>
  obtain ⟨i1, i2, i3, i4⟩ := ih
  refine ⟨fun z => by simp at z, fun q hq => ?_, fun q hq => ?_, fun i q s hq hs => ?_⟩
  ·cases p with
   | nil =>
    cases hq
    rw [e, i1 rfl]
   | cons a p => exact i2 q hq
  ·rw [List.length_append, List.length_singleton, Nat.add_sub_cancel, List.getElem?_append_right (Nat.le_refl _), Nat.sub_self] at hq
   cases hq
   rw [e]
  ·have hi1 : i + 1 < (p ++ [r]).length := (List.getElem?_eq_some_iff.mp hs).1
   rw [List.length_append, List.length_singleton] at hi1
   rw [List.getElem?_append_left (by omega)] at hq
   by_cases c : i + 1 < p.length
   ·rw [List.getElem?_append_left c] at hs
    exact i4 i q s hq hs
   ·have : i + 1 = p.length := by omega
    rw [List.getElem?_append_right (by omega), this, Nat.sub_self] at hs
    cases hs
    have : i = p.length - 1 := by omega
    rw [this] at hq
    rw [i3 q hq, e]
theorem aBw (h : Ii ks rows c) : ∀ i, i < c.length → (dW ks (oA c i)).2 = (dW ks (oA c ((i + 1) % c.length))).1 := by
 obtain ⟨r, p, rfl, hr, hp⟩ := h.ex
 obtain ⟨i1, i2, i3, i4⟩ := aBv hp.pt
 intro i hi
 rw [List.length_cons] at hi ⊢
 have at0 : oA (r :: p) 0 = r := rfl
 by_cases c1 : i + 1 < p.length + 1
 ·rw [Nat.mod_eq_of_lt c1]
  have e1 : p[i]? = some p[i] := List.getElem?_eq_getElem (by omega)
  rw [Ij (show (r :: p)[i + 1]? = some p[i] from e1)]
  cases i with
  | zero => rw [at0]; exact (i2 _ e1).symm
  | succ i =>
   have e2 : p[i]? = some p[i] := List.getElem?_eq_getElem (by omega)
   rw [Ij (show (r :: p)[i + 1]? = some p[i] from e2)]
   exact i4 i _ _ e2 e1
 ·have : i = p.length := by omega
  subst this
  rw [Nat.mod_self, at0]
  cases p with
  | nil => rw [show oA [r] ([] : List Row).length = r from rfl]; exact i1 rfl
  | cons a p =>
   have e1 : (a :: p)[p.length]? = some ((a :: p)[p.length]) := List.getElem?_eq_getElem (by simp)
   rw [Ij (show (r :: a :: p)[(a :: p).length]? = some ((a :: p)[p.length]) from e1)]
   exact i3 _ e1
theorem Ii.ok (h : Ii ks rows c) (hz : rows.length ≤ 300) : aBu ks rows (if c.length = 1 then c ++ c else c) := by
 have ch := aBw h
 obtain ⟨r, p, rfl, hr, hp⟩ := h.ex
 have hl := hp.len
 have hm : ∀ s ∈ r :: p, s ∈ rows := fun s hs => by
  rcases List.mem_cons.mp hs with rfl | hs
  ·exact hr
  ·exact hp.pt.mem s hs
 split
 ·rename_i e
  have : p = [] := by simpa using e
  subst this
  refine ⟨by simp, by simp, fun s hs => hm s (by simpa using hs), fun i hi => ?_⟩
  have h0 : (dW ks r).2 = (dW ks r).1 := by simpa [oA] using ch 0 (by simp)
  have : ∀ j, j < 2 → oA ([r] ++ [r]) j = r := fun j hj => by
   rcases j with _ | _ | j
   ·rfl
   ·rfl
   ·omega
  have i2 : (i + 1) % ([r] ++ [r]).length < 2 := Nat.mod_lt _ (by simp)
  rw [this i (by simpa using hi), this _ i2]
  exact h0
 ·rename_i e
  rw [List.length_cons] at e
  exact ⟨by rw [List.length_cons]; omega, by rw [List.length_cons]; omega, hm, ch⟩
variable (hk : ∀ k ∈ ks, k.ok) (nd : (ks.map Ki.n).Nodup) (hv : ∀ r ∈ rows, ∃ k ∈ ks, ∃ a ∈ k.rs, ∃ b ∈ k.rs, r = (k.n, a.n, b.n) ∧ 0 < b.m ∧ b.n ≠ a.n)
include hk nd hv
end
end DN
end
section
namespace DN
open PySem
end DN
end
section
namespace DN
open PySem
inductive iJ (ss : List Sp) (rows : List Row) : Nat → (Pg → Nat) → Prop where
 | zero : iJ ss rows 0 fun _ => 0
 | step {i : Nat} {st : Pg → Nat} : iJ ss rows i st → i < ss.length → iJ ss rows (i + 1) st
 | flush {i : Nat} {st : Pg → Nat} {q : Pg} : iJ ss rows i st → (∀ x, ¬ yM (ss.take i) rows st q x) → st q < fD (ss.take i) q → iJ ss rows i (Cu st q (fD (ss.take i) q))
section
variable {ss : List Sp} {rows : List Row} {tg : Pg → Nat}
theorem aBx (i : Nat) (q : Pg) : jH ss rows tg i q ≤ tg q := by
 induction i with
 | zero => exact Nat.zero_le _
 | succ i ih =>
  show mG _ _ _ _ q ≤ _
  unfold mG
  split
  ·rename_i h
   have := h.mem
   rw [List.mem_filter, decide_eq_true_iff] at this
   exact this.2
  ·exact ih
theorem iJ.le (hs : ∀ s ∈ ss, s.ok) {i : Nat} {st : Pg → Nat} (h : iJ ss rows i st) : ∀ {tg : Pg → Nat}, (∀ q, st q ≤ tg q) → ∀ q, st q ≤ jH ss rows tg i q := by
 induction h with
 | zero => intro tg _ q; exact Nat.zero_le _
 | step _ _ ih => intro tg ht q; exact Nat.le_trans (ih ht q) (Rz _ q)
 | @flush i st q hr hb hlt ih =>
  intro tg ht
  have ht0 : ∀ x, st x ≤ tg x := fun x => by
   have := ht x
   unfold Cu at this
   split at this
   ·rename_i e; rw [e] at this ⊢; omega
   ·exact this
  have hg := ih ht0
  have hc : fD (ss.take i) q ≤ tg q := by
   have := ht q
   unfold Cu at this
   rw [if_pos rfl] at this
   exact this
  intro x
  unfold Cu
  split
  ·rename_i e
   subst e
   cases i with
   | zero =>
    have := aA9 (ss.take 0) x
    rw [List.length_take] at this
    omega
   | succ j =>
    refine Classical.byContradiction fun hn => ?_
    have hso2 : ∀ s ∈ ss.take (j + 1), s.ok := fun s h => hs s (List.mem_of_mem_take h)
    have hgx : jH ss rows tg (j + 1) x < fD (ss.take (j + 1)) x := by omega
    have h0 : jH ss rows tg j x < fD (ss.take (j + 1)) x := Nat.lt_of_le_of_lt (Rz j x) hgx
    have hps : ∃ s ∈ ss.take (j + 1), x ∈ s.ps := by
     rcases oZ.mp (Ck (ss.take (j + 1)) x) with z | ⟨k, s, e, hm, _⟩
     ·omega
     ·exact ⟨s, List.mem_of_getElem? e, aA4 hm⟩
    have hfr : Fr ((Cp (ss.take (j + 1)) (jH ss rows tg j)).filter fun p => decide (fD (ss.take (j + 1)) p ≤ tg p)) (Cm (ss.take (j + 1)) rows (jH ss rows tg j)) x := by
     refine .mk ?_ fun y hy => ?_
     ·rw [List.mem_filter, decide_eq_true_iff, aBG]
      exact ⟨⟨hps, h0⟩, hc⟩
     ·obtain ⟨k, s, a, b, e, hk, ha, hb2, hst, hrow⟩ := (aBC hso2).mp hy
      have h1 : ¬ st y ≤ k := fun z => hb y ⟨k, s, a, b, e, hk, ha, hb2, z, hrow⟩
      have h2 := hg y
      refine Classical.byContradiction fun hny => ?_
      have : jH ss rows tg (j + 1) y = jH ss rows tg j y := by
       show mG _ _ _ _ y = _
       unfold mG
       rw [if_neg hny]
      omega
    have : jH ss rows tg (j + 1) x = fD (ss.take (j + 1)) x := by
     show mG _ _ _ _ x = _
     unfold mG
     rw [if_pos hfr]
    omega
  ·exact hg x
theorem iJ.fix (hs : ∀ s ∈ ss, s.ok) {i : Nat} {st : Pg → Nat} (h : iJ ss rows i st) : jH ss rows st i = st := funext fun q => Nat.le_antisymm (aBx i q) (h.le hs (fun _ => Nat.le_refl _) q)
theorem iJ.vers (hs : ∀ s ∈ ss, s.ok) {i : Nat} {st : Pg → Nat} (h : iJ ss rows i st) (q : Pg) : st q ∈ vers (ss.take i) q := by
 have := Ry (ss := ss) (rows := rows) (tg := st) i q
 rw [h.fix hs] at this
 exact this
theorem iJ.all (hs : ∀ s ∈ ss, s.ok) {st : Pg → Nat} : iJ ss rows ss.length st → ∀ q, st q ∈ DN.vers ss q := fun h q => by
 have := h.vers hs q
 rw [List.take_length] at this
 exact this
end
theorem iJ.congr {ss : List Sp} {r1 r2 : List Row} (h : ∀ x, x ∈ r2 → x ∈ r1) {i : Nat} {st : Pg → Nat} (a : iJ ss r1 i st) : iJ ss r2 i st := by
 induction a with
 | zero => exact .zero
 | step _ hi ih => exact .step ih hi
 | flush _ hb hlt ih =>
  refine .flush ih (fun x hx => hb x ?_) hlt
  obtain ⟨i, s, a, b, h1, h2, h3, h4, h5, h6⟩ := hx
  exact ⟨i, s, a, b, h1, h2, h3, h4, h5, h _ h6⟩
end DN
end
section
namespace DN
open PySem
end DN
end
section
namespace DN
open PySem
def Wt (dv : Nat → Str → Bool) : Nat → Tr → Prop
 | _, .start p => Nm p.1 ∧ 0 ≤ p.2 ∧ p.2 ≤ 9999
 | _, .fresh n r => Nm r ∧ n < 1000 ∧ dv n r = false
 | 0, .der n r xs => Nm r ∧ n < 1000 ∧ dv n r = true ∧ xs = []
 | d + 1, .der n r xs => Nm r ∧ n < 1000 ∧ dv n r = true ∧ xs.length ≤ 6 ∧ ∀ t ∈ xs, Wt dv d t
theorem Wt.mono {dv : Nat → Str → Bool} : ∀ {d : Nat} {t : Tr}, Wt dv d t → Wt dv (d + 1) t
 | d, .start p, h => by cases d <;> exact h
 | d, .fresh n r, h => by cases d <;> exact h
 | 0, .der n r xs, h => ⟨h.1, h.2.1, h.2.2.1, by rw [h.2.2.2]; simp, fun t ht => by rw [h.2.2.2] at ht; cases ht⟩
 | d + 1, .der n r xs, h => ⟨h.1, h.2.1, h.2.2.1, h.2.2.2.1, fun t ht => (h.2.2.2.2 t ht).mono⟩
theorem Wt.le {dv : Nat → Str → Bool} {d e : Nat} {t : Tr} (h : Wt dv d t) (hl : d ≤ e) : Wt dv e t := by
 induction hl with
 | refl => exact h
 | step _ ih => exact ih.mono
end DN
end
section
namespace DN
open PySem PySem.Spec PyProof.Rows L2 RZ
def Ik : List P → List P
 | k :: _ :: es => k :: Ik es
 | _ => []
def Il : D → M Itm := fun d L => match d with
 | .v (.dn es) => some (.ok (Ik es, fun _ => True), L)
 | _ => none
def aBy (f : aA → M D) (τ : aA) : M Itm := f τ >>= Il
section
variable {L : List MO} {E : EX} {QI : Itm → List MO → Prop}
theorem wpz_keyQ {es : List P} : wp (Il (.v (.dn es))) L E QI = QI (Ik es, fun _ => True) L := rfl
theorem wpz_keyI {f : aA → M D} {τ : aA} : wp (aBy f τ) L E QI = wp (f τ) L E fun d L1 => wp (Il d) L1 E QI := wp_bind
end
end DN
end
section
namespace DN
open PySem L2
end DN
end
section
namespace DN
open PySem PySem.Spec PyProof.Rows L2 He
section
variable {X : Cx} {g : G} {W : WX} {k : Nat} {a b : Expr} {fa fb : aA → M D} {pos : Pos}
noncomputable def aBz (tab : Nat → Option (List D → M D)) : D → D → M D := fun x y L => match (clsOf L x).bind tab with
 | some fn => match y with
  | .v (.int i) => fn [x, .v (.int i)] L
  | _ => none
 | none => gD x y L
end
section
variable {L : List MO} {E : EX} {Q : D → List MO → Prop}
theorem wpz_mulON {i : Int} {tab : Nat → Option (List D → M D)} {y : D} : wp (aBz tab (.v (.int i)) y) L E Q = wp (gD (.v (.int i)) y) L E Q := rfl
end
end DN
end
section
namespace DN
open PySem PySem.Spec PyProof.Rows L2 He
end DN
end
section
namespace DN
open PySem PySem.Spec PyProof.Rows L2 He
end DN
end
section
namespace DN
open PySem PySem.Spec PyProof.Rows L2 He
end DN
end
section
namespace DN
open PySem
end DN
end
section
namespace DN
open PySem PySem.Spec PyProof.Rows L2 He
def aB0 (es : List (Key × P)) (k : Str) : List (Key × P) := es.filter fun e => decide (e.1 ≠ .inr k)
def Im : D → D → M D := fun x k L => match x, k with
 | .r n, .v (.str k) => match L[n]? with
  | some (.dk es) => match qR es k with
   | some p => some (.ok (.v p), L.set n (.dk (aB0 es k)))
   | none => none
  | _ => none
 | _, _ => none
def aB1 (fo fk : aA → M D) (τ : aA) : M D := do
 let x ← fo τ
 sS x do
  let k ← fk τ
  Im x k
section
variable {L : List MO} {E : EX} {Q : D → List MO → Prop} {τ : aA} {fo fk : aA → M D}
theorem wpz_popKD : wp (aB1 fo fk τ) L E Q = wp (fo τ) L E fun x L1 => if (nZ L1 x).isSome = true then wp (fk τ) L1 E fun k L2 => wp (Im x k) L2 E Q else False := by
 show wp (fo τ >>= fun x => sS x (fk τ >>= fun k => Im x k)) L E Q = _
 rw [wp_bind]
 congr 1
 funext x L1
 unfold sS
 by_cases h : (nZ L1 x).isSome = true
 ·rw [if_pos h, ← wp_bind]
  unfold wp
  dsimp only
  rw [if_pos h]
 ·rw [if_neg h]
  unfold wp
  dsimp only
  rw [if_neg h]
end
end DN
end
section
namespace PySem.W
open PySem PySem.Calls PyProof.Rows
end PySem.W
end
section
namespace DN
open PySem PySem.Spec PyProof.Rows L2 He
end DN
end
section
namespace DN
open PySem PySem.Spec PyProof.Rows L2
def pD (acc : List Mem) (x : Mem) : List Mem := if x.2 ∈ acc.map (·.2) then acc else acc ++ [x]
def pF (xs : List Mem) : List Mem := xs.foldl pD []
theorem aB2 (xs : List Mem) (x : Mem) : pF (xs ++ [x]) = pD (pF xs) x := by unfold pF; rw [List.foldl_append]; rfl
def vI (w : World) (h : Heap) (S : Addr) (xs : List Mem) : Prop := ∃ ms, dI w S ms h ∧ ms.Perm ((pF xs).map fun x => (Value.ref x.1, x.2))
section
variable {P : Program} {w : World} {A : Around} {E : Value → Shared → Prop} {s : Shared}
theorem Sh : ∀ (xs acc : List Mem), (xs.foldl pD acc).length ≤ acc.length + xs.length ∧ ∀ y ∈ xs.foldl pD acc, y ∈ acc ∨ y ∈ xs := by
 intro xs
 induction xs with
 | nil => intro acc; exact ⟨by simp, fun y hy => .inl hy⟩
 | cons x xs ih =>
  intro acc
  obtain ⟨h1, h3⟩ := ih (pD acc x)
  have h2 : (pD acc x).length ≤ acc.length + 1 := by unfold pD; split <;> simp
  refine ⟨by simp only [List.foldl_cons, List.length_cons]; omega, fun y hy => ?_⟩
  rcases h3 y hy with z | z
  ·unfold pD at z
   split at z
   ·exact .inl z
   ·rcases List.mem_append.mp z with z | z
    ·exact .inl z
    ·exact .inr (by rw [List.mem_singleton.mp z]; exact List.mem_cons_self)
  ·exact .inr (List.mem_cons_of_mem _ z)
theorem aB3 (xs : List Mem) : (pF xs).length ≤ xs.length := by
 have := (Sh xs []).1
 simpa [pF] using this
theorem aB4 {xs : List Mem} {y : Mem} (h : y ∈ pF xs) : y ∈ xs := ((Sh xs []).2 y h).resolve_left (by simp)
theorem vI.step {S : Addr} {xs : List Mem} {x : Mem} (h : vI w s.heap S xs) (hk : ∀ y ∈ xs, eE s.heap y.2 y.1) (hx : eE s.heap x.2 x.1) (hl : xs.length + 1 < 300) (hu : A.units + 8 < cLine) {Q : Bool → Shared → Prop} (hQ : ∀ b h', Heap.SameBut S s.heap h' → vI w h' S (xs ++ [x]) → Q b { s with heap := h' }) :
  wpAny (model P w) A (setAddHashed S (.ref x.1) (x.2.hash w)) Q E s := by
 obtain ⟨ms, R, pm⟩ := h
 have hlen : ms.length ≤ xs.length := by
  have := pm.length_eq
  rw [List.length_map] at this
  rw [this]
  exact aB3 xs
 have hmm : ∀ m ∈ ms, ∃ y ∈ xs, m = (Value.ref y.1, y.2) := fun m hm => by
  obtain ⟨y, hy, e⟩ := List.mem_map.mp (pm.subset hm)
  exact ⟨y, aB4 hy, e.symm⟩
 have hin : x.2 ∈ ms.map (·.2) ↔ x.2 ∈ (pF xs).map (·.2) := by
  rw [(pm.map (·.2)).mem_iff, List.map_map]
  exact Iff.rfl
 refine dI.addT R (fun m hm => let ⟨y, _, e⟩ := hmm m hm; ⟨y.1, by rw [e]⟩) (fun m hm => by obtain ⟨y, hy, rfl⟩ := hmm m hm; exact hk y hy) hx hu (by omega) fun b h' ms' sb new c1 c2 => hQ b h' sb ⟨ms', new, ?_⟩
 rw [aB2]
 unfold pD
 by_cases c : x.2 ∈ (pF xs).map (·.2)
 ·rw [if_pos c, c1 (hin.mpr c)]
  exact pm
 ·rw [if_neg c, List.map_append]
  exact (c2 fun z => c (hin.mp z)).trans ((pm.cons _).trans (List.perm_append_singleton _ _).symm)
theorem vI.at {h h' : Heap} {S : Addr} {xs : List Mem} (x : vI w h S xs) (k : ∀ o, h.get? S = some o → h'.get? S = some o) : vI w h' S xs := by
 obtain ⟨ms, R, r⟩ := x
 exact ⟨ms, R.at k, r⟩
end
end DN
end
section
namespace DN
open PySem PySem.Spec PyProof.Rows L2
end DN
end
section
namespace DN
open PySem
end DN
end
section
namespace DN
open PySem PySem.Spec PyProof.Rows PySem.W PySem.Calls L2 He NdefX
def jA (tab : Nat → Option (List D → M D)) (wd : Str) (ds : List D) : M D := fun L => match ds with
 | [x] => (match (clsOf L x).bind tab with
  | some fn => (match fn [x] L with
   | some (.ok r, L1) => vA r (.v (.lst [.str wd])) L1
   | _ => none)
  | none => none)
 | _ => none
structure Io (P0 : Program) (w : World) (K : PySem.W.Frag) (mg : Str → Option Value) (base : Heap) (g : G) (Dc : Addr) (m : Str) (k c : Nat) (fn : List D → M D) : Prop where
 ex : ∃ (f2 : Addr) (fd2 : FuncData) (ps : List Str), ks_superIn K (g.cl c) Dc m = some (some (.ref f2)) ∧ typeIn K (.ref f2) = some (.type "function") ∧ fnIn K f2 = true ∧ FnOk P0 w K mg base (L2.CX P0 w) k f2 fd2 ps (gG g 1 fn) ∧ Binds K fd2 ps []
 sub : mroIn K (g.cl c) (.ref Dc) = some true
structure Sq (K : PySem.W.Frag) (D cc cda : Addr) (prog : Program) (params : Arguments) (scope : Scope) : Prop where
 sc : NScope [("self" : Str), "__class__"] [("self" : Str)] [("__class__" : Str)] scope
 sup : scope.names.lookup ("super" : Str) = some .globalImplicit
 hcell : ∃ cl cld csl, K.lookup cc = some ⟨cl, cld, .cell (some (.ref D)), csl⟩
 hcode : ∃ (ccl : Value) (cdd : Option Addr) (vs : Array Value) (ccs : Array (Option Value)) (file : Str) (tf : Tok), K.lookup cda = some ⟨ccl, cdd, .fields vs, ccs⟩ ∧ vs[2]? = some (.str file tf) ∧ ((prog.main.file : Str) == file) = true
 htop : (prog.main.scope.names.lookup ("super" : Str)).isSome = false
 hps : (params.posonlyargs ++ params.args).head?.map (·.arg) = some "self"
 hany : nsIn K cStatics "thirdparty.any" = some none
 hD : (clsIn K D).isSome = true
theorem aB5 {env : Env} {m : Str} {p1 p2 p3 p5 : Pos} (hln : (p3.endLine == p5.line) = true) : eval (.Call (.Attribute (.Call (.Name "super" p1) [] [] p2) m p3) [] [] p5) env = (do
   let ov ← attributeBase (.Call (.Name "super" p1) [] [] p2) m env (eval (.Call (.Name "super" p1) [] [] p2) env)
   standAt p3.atName
   let (f, first) ← holding [ov] (getMethod ov m (do return (← importBound (.Call (.Name "super" p1) [] [] p2) env).getD true))
   callWith p5 f first (backTo p5 (starEach [] env)) []) := by
 have e2 : methodCallPos true (.Call (.Name "super" p1) [] [] p2) env p3 p5 = pure p5 := by unfold methodCallPos; simp [hln]
 show (do
  let ov ← attributeBase (.Call (.Name "super" p1) [] [] p2) m env (eval (.Call (.Name "super" p1) [] [] p2) env)
  standAt p3.atName
  let (f, first) ← holding [ov] (getMethod ov m (do return (← importBound (.Call (.Name "super" p1) [] [] p2) env).getD true))
  let callPos ← methodCallPos true (.Call (.Name "super" p1) [] [] p2) env p3 p5
  callWith callPos f first (backTo p5 (starEach [] env)) []) = _
 rw [e2]
 rfl
section
variable {P : Program} {w : World} {K : PySem.W.Frag} {mg : Str → Option Value} {base : Heap} {g : G} {k : Nat} {Dc fW cc cda : Addr} {nm qual m wd : Str} {params : Arguments} {body : List Stmt} {scope : Scope} {dV kV doc pm ct oc : Value} {an od : Option Addr} {osl : Array (Option Value)} {tab : Nat → Option (List D → M D)}
 {j : Nat} {p1 p2 p3 p4 p5 p6 p7 p8 : Pos}
theorem aB6 (hK : K = g.K) (SF : Sq K Dc cc cda P params scope) (lk : K.lookup fW = some ⟨oc, od, .func (ksFn nm qual params body scope dV kV doc pm an (.ref cda) ct cc), osl⟩) (hcd : codeIn K (.ref cda) qual = true)
  (hb : body = [.Return (some (.BinOp (.Call (.Attribute (.Call (.Name "super" p1) [] [] p2) m p3) [] [] p4) .Add (.List [.Constant (.str wd) j p5] p6) p7)) p8]) (hln : (p3.endLine == p4.line) = true) (hms : mg "super" = none) (hbt : bootBuiltins "super" = some (.type "super")) (hm : (m == ("__class__" : Str)) = false)
  (hT : ∀ c fn, tab c = some fn → Io P w K mg base g Dc m k c fn) :
  FnOk P w K mg base (L2.CX P w) (k + 1) fW (ksFn nm qual params body scope dV kV doc pm an (.ref cda) ct cc) [("self" : Str)] (gG g 1 (jA tab wd)) := by
 subst hb
 have len : ∀ {vs : List V} {H : Hp} {Q : VK} {E : XK}, gG g 1 (jA tab wd) vs H Q E → vs.length = [("self" : Str)].length := fun {vs H Q E} ⟨_, _, _, ds, _, ha, hl, _⟩ => by rw [rD ha, hl]; rfl
 refine ⟨fun vs H Q E h => len h, fun A outer s H args us vs Q E hr e0 hbd r hsp => ?_⟩
 have KX : K.In s.heap := e0.mod.kin.keeps fun b o e => (e0.bs b o e).1
 have lim : s.heap.NoLimit := e0.mod.nolimit.keeps fun b o e => (e0.bs b o e).1
 have hl := len hsp
 have S := SF.sc
 obtain ⟨cl, cld, csl, hcell⟩ := SF.hcell
 obtain ⟨ccl, cdd, cvs, ccs, file, tf, hcode, hvs, hfile⟩ := SF.hcode
 obtain ⟨F0, ρ0, L0, ds, hR, ha, hdl, hp⟩ := hsp
 obtain ⟨x, hds⟩ : ∃ x, ds = [x] := by
  match ds, hdl with
  | [x], _ => exact ⟨x, rfl⟩
 subst hds
 obtain ⟨v, hv, hxv⟩ : ∃ v, vs = [v] ∧ IsD g F0 ρ0 L0.length v x := by
  cases ha with
  | cons h t => cases t; exact ⟨_, rfl, h⟩
 subst hv
 unfold jA at hp
 dsimp only at hp
 match ec : clsOf L0 x with
 | none => rw [ec] at hp; exact False.elim hp
 | some c =>
 rw [ec] at hp
 dsimp only [Option.bind] at hp
 match et : tab c with
 | none => rw [et] at hp; exact False.elim hp
 | some fn =>
 rw [et] at hp
 dsimp only at hp
 obtain ⟨a, dx, fl, ev, ea, cf, hfl⟩ := wO hR hxv ec
 subst ev
 obtain ⟨⟨f2, fd2, ps2, hal, htf, hfn, FO, hB⟩, hsub⟩ := hT c fn et
 let NFv : NF := ⟨nm, qual, params, [.Return (some (.BinOp (.Call (.Attribute (.Call (.Name "super" p1) [] [] p2) m p3) [] [] p4) .Add (.List [.Constant (.str wd) j p5] p6) p7)) p8], scope, [("__class__", cc)], cda⟩
 refine codeAny_call_function hr.depth (KX _ _ lk) rfl S.co S.gen rfl (codeRec_of KX hcd) (hbd _ _ _ _ ?_)
 refine wpAny_newFunctionEnv S.nocell (fun ⟨n, _⟩ hy => S.par n (List.of_mem_zip hy).1) (fun h₁ hns hsb => ⟨lim.fresh _ hsb, ?_⟩) S.kind
 have kp : ∀ b o, s.heap.get? b = some o → h₁.get? b = some o := fun b o e => hsb.extBut b o (Nat.ne_of_lt (Heap.lt_size e)) (Heap.get?_push_of_some _ e)
 have clk : ∀ y c, ([(("__class__" : Str), cc)] : List (Str × Addr)).lookup y = some c → y = "__class__" ∧ c = cc := fun y c e => by
  by_cases hy : y = "__class__"
  ·subst hy
   rw [List.lookup_cons, beq_self_eq_true] at e
   exact ⟨rfl, (Option.some.inj e).symm⟩
  ·rw [List.lookup_cons, beq_eq_false_iff_ne.mpr hy] at e
   cases e
 have cbase : base.get? cc = some ⟨cl, cld, .cell (some (.ref Dc)), csl⟩ := e0.mod.kin _ _ hcell
 have CA : CellsAt [(("__class__" : Str), cc)] [("__class__" : Str)] [some (.ref Dc)] s.heap H := by
  refine ⟨rfl, fun y c e => ?_, fun x y c e1 e2 => (clk x c e1).1.trans (clk y c e2).1.symm, fun i y e => ?_⟩
  ·obtain ⟨_, rfl⟩ := clk y c e
   exact ⟨(e0.bs _ _ cbase).2, _, _, KX _ _ hcell, rfl⟩
  ·cases i with
   | zero =>
    cases e
    refine ⟨cc, by rw [List.lookup_cons, beq_self_eq_true], fun v ev => ?_⟩
    cases ev
    exact ⟨.ref Dc, rfl, _, KX _ _ hcell, rfl⟩
   | succ i => simp at e
 let X : Cx := ncx (L2.CX P w) P w K mg base [("self" : Str), "__class__"] NFv fW A outer s H E
 have I : Inv X [] (startF X.N [.ref a] [some (.ref Dc)]) H { s with heap := h₁, toks := s.toks + (([("self" : Str)].zip us).length) } := inv_startN (F := NFv) S hr.hd e0 hl r CA hns kp
 have tk : Takes X (fun cls d _ H => E cls d H) := takes_of rfl rfl rfl rfl
 have KX1 : K.In h₁ := I.kIn
 obtain ⟨mA, O, _, _, _, _⟩ := ins_get I.hok ea
 obtain ⟨ox, J, _⟩ := O.look
 obtain ⟨u0, eu, eu0⟩ : ∃ u0, us = [u0] ∧ u0 = .ref a := by
  cases r with
  | cons h t => cases t; exact ⟨_, rfl, h⟩
 subst eu0
 subst eu
 obtain ⟨ar, har, hself⟩ : ∃ ar, (params.posonlyargs ++ params.args).head? = some ar ∧ ar.arg = "self" := by
  have := SF.hps
  cases e : (params.posonlyargs ++ params.args).head? with
  | none => rw [e] at this; cases this
  | some ar => rw [e] at this; exact ⟨ar, rfl, Option.some.inj this⟩
 have kself : scope.names.lookup ("self" : Str) = some .local := S.par _ List.mem_cons_self
 have kcls : scope.names.lookup ("__class__" : Str) = some .free := S.frk _ List.mem_cons_self
 refine ks_codeAny_funcAt ?_
 show PySem.wpAt (model X.prog X.w) X.A (.func [_] X.env) (execs [_] X.env) _ _ _
 refine ks_wpAt_execs_cons (ks_wpAt_Return_some (ks_wpAt_BinOp (ks_wpAt_MethodCall (pl := do return (← importBound (.Call (.Name "super" p1) [] [] p2) X.env).getD true) (ks_wpAt_super_base (env := X.env) (fd := ksFn nm qual params [.Return (some (.BinOp (.Call (.Attribute (.Call (.Name "super" p1) [] [] p2) m p3) [] [] p4) .Add (.List [.Constant (.str wd) j p5] p6) p7)) p8] scope dV kV doc pm an (.ref cda) ct cc) SF.sup kcls hm rfl (KX1 _ _ lk) rfl har rfl (KX1 _ _ hcode) rfl hvs hfile SF.htop ?_) (aB5 hln))))
 obtain ⟨mb, hb1, hb2⟩ := I.mod.blt
 obtain ⟨cdD, hcdD⟩ : ∃ cd, clsIn K Dc = some cd := Option.isSome_iff_exists.mp SF.hD
 obtain ⟨oD, hD1, hD2⟩ : ∃ oD, h₁.get? Dc = some oD ∧ oD.data = .cls cdD := by
  have h := hcdD
  unfold clsIn at h
  split at h
  ·rename_i c d cd' sl ho
   cases h
   exact ⟨_, KX1 _ _ ho, rfl⟩
  ·cases h
 obtain ⟨cd, hcd2⟩ : ∃ cd, clsIn K (g.cl c) = some cd := by
  have h := hsub
  unfold mroIn at h
  cases e : clsIn K (g.cl c) with
  | none => rw [e] at h; cases h
  | some cd => exact ⟨cd, rfl⟩
 refine ks_loadName_global I.ok.kind SF.sup (Calls.loadGlobal_builtin (by rw [I.ok.glob]; exact I.mod.glob.keeps I.bk) hms (by rw [I.ok.blt]; exact hb1.keeps I.bk) ((hb2 _ (by decide)).trans hbt) ⟨rfl, ?_⟩)
 refine wpAny_loadName_free I.ok.kind kcls rfl ⟨_, KX1 _ _ hcell, rfl⟩ ?_
 refine wpAny_loadName_local I.ok.kind (by rw [hself]; exact kself) hns (by rw [hself]; rfl) ?_
 refine ks_wpAny_isType_cls hD1 hD2 ⟨rfl, ?_⟩
 refine ks_wpAny_call_super hD1 hD2 J.at_ J.cls (fun c e => ?_) (looks_mroIn KX1 hsub) (fun h2 hso k2 => ?_)
 ·have := J.no
  unfold notCls at this
  rw [e] at this
  exact Bool.noConfusion this
 have J2 := I.kept (t' := s.toks + (([("self" : Str)].zip [Value.ref a]).length)) k2
 have KX2 : K.In h2 := J2.kIn
 obtain ⟨mA2, O2, _, _, _, _⟩ := ins_get J2.hok ea
 obtain ⟨ox2, IA2, _⟩ := O2.look
 obtain ⟨of, hof, hofc⟩ : ∃ of, h2.get? f2 = some of ∧ of.cls = .type "function" := by
  have ht' : (K.lookup f2).map (·.cls) = some (.type "function") := htf
  cases z : K.lookup f2 with
  | none => rw [z] at ht'; cases ht'
  | some of => rw [z] at ht'; exact ⟨of, KX2 _ _ z, Option.some.inj ht'⟩
 refine ks_wpAny_getMethod_super hso (looks_opaque KX2 SF.hany) (l₀ := cd.mro) (fun A Q E s k q => wpAny_bind ((looks_clsIn KX2 hcd2) A _ E s k (wpAny_pure q))) rfl KX2 (by have h := hal; unfold ks_superIn at h; rw [hcd2] at h; exact h) hof hofc (ks_ne KX2 IA2 hcd2) hm ?_
 have J3 := J2.kept (h' := h2.push { cls := .type "method", data := .fields #[.ref f2, .ref a] }) (t' := s.toks + (([("self" : Str)].zip [Value.ref a]).length) + 1) (fun b o e => Heap.get?_push_of_some _ e)
 refine callWith_M0 (K := K) (g := f2) (self := .ref a) ⟨Heap.get?_push_at rfl rfl, J3.kIn⟩ hfn ?_
 refine wpAny_call (method_call (f := .ref f2) (self := .ref a) (Heap.get?_push_at rfl rfl) ?_)
 have hspec : gG g 1 fn [.ref a] H (fun v H1 => ∃ F1 ρ1 L1 r, R g F1 ρ1 L1 H1 ∧ IsD g F1 ρ1 L1.length v r ∧ Post g (bT g) F1 ρ1 L1.length E Q (vA r (.v (.lst [.str wd])) L1)) E := by
  refine ⟨F0, ρ0, L0, [x], hR, .cons hxv .nil, rfl, ?_⟩
  match ef : fn [x] L0 with
  | none => rw [ef] at hp; exact hp
  | some (.ex _ _, _) => rw [ef] at hp; exact False.elim hp
  | some (.ok r, L1) =>
   rw [ef] at hp
   exact fun F' ρ' b H' x1 x2 x3 => ⟨F', ρ', L1, r, x2, x3, hp.ext x1⟩
 have hpl : ([Value.ref a] : List Value).length = ps2.length := FO.len _ _ _ _ hspec
 have hb2 := hB ⟨h2.push { cls := .type "method", data := .fields #[.ref f2, .ref a] }, s.gens, s.drawn, s.toks + (([("self" : Str)].zip [Value.ref a]).length) + 1, s.os⟩ [Value.ref a] J3.kIn (by rw [List.append_nil]; exact hpl)
 rw [List.append_nil] at hb2
 refine codeAny_mono (FO.run X.A X.stack _ H ⟨[Value.ref a], []⟩ [Value.ref a] [.ref a] _ E (hr.deeper _) J3.env0 hb2 (.cons rfl .nil) hspec) fun r s' hq => ?_
 have PL : PE X (.List [.Constant (.str wd) j p5] p6) (tE g (fun cls d _ H => E cls d H) (aO bL (aF (aG (.v (.str wd))) aM))) := jO (aU fO wC)
 cases r with
 | error e => exact passAt tk _ [] H _ e s' J3 hq
 | ok fl =>
  cases fl with
  | next => exact False.elim hq
  | brk => exact False.elim hq
  | cont => exact False.elim hq
  | ret u =>
   obtain ⟨v, H1, J4, rv, F1, ρ1, L1, r, hR1, hv1, hp1⟩ := J3.after hq
   have hsat : Sat g (bT g) (fun cls d _ H => E cls d H) [(v, r)] (fun τ => (aO bL (aF (aG (.v (.str wd))) aM)) τ >>= fun b => vA r b) (startF X.N [.ref a] [some (.ref Dc)]) H1 Q :=
    ⟨F1, ρ1, List.replicate (startF X.N [.ref a] [some (.ref Dc)]).length none, L1, hR1, ⟨List.length_replicate, fun i d q => by rw [List.getElem?_replicate] at q; split at q <;> cases q⟩, fun y hy => by rw [List.mem_singleton.mp hy]; exact hv1, hp1⟩
   refine thn (PL.run [] s' _ H1 _ J4 (Sat.bindV hsat)) fun b s2 hb => ?_
   obtain ⟨y, H2, J5, ry, e, F2, ρ2, τ2, L2, hR2, _, hc2, hp2⟩ := hb
   refine wpAny_mono (op_cat [] s2 _ H2 v y u b Q J5 rv ry (aAj F2 ρ2 L2 H2 v y r e _ Q hR2 (hc2 (v, r) (by simp)) (hc2 (y, e) (by simp)) hp2)) (fun u' s3 h3 => ?_) fun e s' hs' => hs'
   obtain ⟨z, H3, J6, rz, q⟩ := h3
   exact ⟨z, H3, J6.os, J6.bare, J6.base, J6.hok, rz, q⟩
end
section
variable {K : PySem.W.Frag} {w : World}
theorem sW {P0 : Program} {mg : Str → Option Value} {base : Heap} {d e m : Str} {j k c : Nat} {fn : List D → M D} (h : pH c d e m K = true) (FO : FnD P0 w K mg base (gOf K w) (ma K (ga K e) m) j 1 fn) (hj : j ≤ k) : Io P0 w K mg base (gOf K w) (ga K d) m k c fn := by
 obtain ⟨h1, h⟩ := ba h
 obtain ⟨h2, h⟩ := ba h
 obtain ⟨h3, h4⟩ := ba h
 obtain ⟨⟨fd, ps, FO1, hb⟩, kp⟩ := FO
 exact ⟨⟨_, fd, ps, eqO_ok h1, of_decide_eq_true h3, h4, FO1.mono hj, hb⟩, of_decide_eq_true h2⟩
theorem Ip {P0 : Program} {mg : Str → Option Value} {base : Heap} {dn m wd : Str} {k : Nat} {fa : List dX} {fn : List DX} {d : DX} {jc : Nat} {p1 p2 p3 p4 p5 p6 p7 p8 : Pos} {tab : Nat → Option (List D → M D)} (keep : Bool) (sy : SaysX fa fn K) (i j : Nat) (hi : fa[i]? = some (zE dn m P0.main.file)) (hj : fn[j]? = some d) (hcl : d.cl = [("__class__" : Str)])
  (hat : d.at_ = (dn, some m)) (hpr : d.pr = false) (hsc : nscB [("self" : Str), "__class__"] [("self" : Str)] [("__class__" : Str)] (defScope d.st) = true) (hsup : (defScope d.st).names.lookup ("super" : Str) = some .globalImplicit) (htop : (P0.main.scope.names.lookup ("super" : Str)).isSome = false)
  (hps : ((defArgs d.st).posonlyargs ++ (defArgs d.st).args).head?.map (·.arg) = some ("self" : Str)) (hms : mg "super" = none)
  (hb : defBody d.st = [.Return (some (.BinOp (.Call (.Attribute (.Call (.Name "super" p1) [] [] p2) m p3) [] [] p4) .Add (.List [.Constant (.str wd) jc p5] p6) p7)) p8]) (hln : (p3.endLine == p4.line) = true) (hbt : bootBuiltins "super" = some (.type "super")) (hm : (m == ("__class__" : Str)) = false)
  (hT : ∀ c fn, tab c = some fn → Io P0 w K mg base (gOf K w) (ga K dn) m k c fn)
  (hbd : ∀ (nm qual : Str) (body : List Stmt) (kV doc pm : Value) (an : Option Addr) (cdv ct : Value) (cc : Addr) (us : List Value), us.length = 1 → bindArgs (PySem.W.ksFn nm qual (defArgs d.st) body (defScope d.st) .none kV doc pm an cdv ct cc) ⟨us, []⟩ = pure ([("self" : Str)].zip us)) :
  FnD P0 w K mg base (gOf K w) (fAd K d.at_) (k + 1) 1 (bO keep (jA tab wd)) := by
 have h := sy.fact i hi
 obtain ⟨h1, h⟩ := ba h
 obtain ⟨h2, h3⟩ := ba h
 obtain ⟨e, ok⟩ := sy.val_ j hj
 obtain ⟨oc, od, osl, cc, kV, doc, pm, an, cdv, ct, lk, hcd, kp⟩ := dx_cls e ok hcl
 have hf : d.ad K = ma K (ga K dn) m := by unfold DX.ad; rw [hpr, hat]; rfl
 have hf2 : fAd K d.at_ = ma K (ga K dn) m := by rw [hat]; rfl
 rw [hf] at lk kp
 rw [hf2]
 have hcel : rA (ga K dn) (ma K (ga K dn) m) P0.main.file K = true := h1
 unfold rA at hcel
 rw [lk] at hcel
 dsimp only at hcel
 cases cdv with
 | ref cda =>
  dsimp only at hcel
  split at hcel
  ·rename_i cl cld D csl ccl cdd vs ccs q1 q2
   obtain ⟨z1, z2⟩ := ba hcel
   have eD := beq_iff_eq.mp z1
   subst eD
   unfold Dy at z2
   split at z2
   ·rename_i f tf q3
    have SF : Sq K (ga K dn) cc cda P0 (defArgs d.st) (defScope d.st) := ⟨nscope_by hsc, hsup, ⟨cl, cld, csl, q1⟩, ⟨ccl, cdd, vs, ccs, f, tf, q2, q3, z2⟩, htop, hps, eqO_ok h2, h3⟩
    exact ⟨⟨_, [("self" : Str)], cW keep (aB6 rfl SF lk hcd hb hln hms hbt hm hT), .all (hbd _ _ _ _ _ _ _ _ _ _)⟩, kp⟩
   ·cases z2
  ·cases hcel
 | _ => cases hcel
end
end DN
end
section
namespace DN
open PySem
theorem kd00 : decide (((0 : Nat) : Int) = 0) = true := rfl
theorem kd01 : decide (((0 : Nat) : Int) = 1) = false := rfl
theorem kd02 : decide (((0 : Nat) : Int) = 2) = false := rfl
theorem kd03 : decide (((0 : Nat) : Int) = 3) = false := rfl
theorem kd04 : decide (((0 : Nat) : Int) = 4) = false := rfl
theorem kd05 : decide (((0 : Nat) : Int) = 5) = false := rfl
theorem kl0 : decide (((0 : Nat) : Int) < 5) = true := rfl
theorem kg0 : decide ((0 : Int) < ((0 : Nat) : Int)) = false := rfl
theorem kh0 : decide ((3 : Int) ≤ ((0 : Nat) : Int)) = false := rfl
theorem kd10 : decide (((1 : Nat) : Int) = 0) = false := rfl
theorem kd11 : decide (((1 : Nat) : Int) = 1) = true := rfl
theorem kd12 : decide (((1 : Nat) : Int) = 2) = false := rfl
theorem kd13 : decide (((1 : Nat) : Int) = 3) = false := rfl
theorem kd14 : decide (((1 : Nat) : Int) = 4) = false := rfl
theorem kd15 : decide (((1 : Nat) : Int) = 5) = false := rfl
theorem kl1 : decide (((1 : Nat) : Int) < 5) = true := rfl
theorem kg1 : decide ((0 : Int) < ((1 : Nat) : Int)) = true := rfl
theorem kh1 : decide ((3 : Int) ≤ ((1 : Nat) : Int)) = false := rfl
theorem kd20 : decide (((2 : Nat) : Int) = 0) = false := rfl
theorem kd21 : decide (((2 : Nat) : Int) = 1) = false := rfl
theorem kd22 : decide (((2 : Nat) : Int) = 2) = true := rfl
theorem kd23 : decide (((2 : Nat) : Int) = 3) = false := rfl
theorem kd24 : decide (((2 : Nat) : Int) = 4) = false := rfl
theorem kd25 : decide (((2 : Nat) : Int) = 5) = false := rfl
theorem kl2 : decide (((2 : Nat) : Int) < 5) = true := rfl
theorem kg2 : decide ((0 : Int) < ((2 : Nat) : Int)) = true := rfl
theorem kh2 : decide ((3 : Int) ≤ ((2 : Nat) : Int)) = false := rfl
theorem kd30 : decide (((3 : Nat) : Int) = 0) = false := rfl
theorem kd31 : decide (((3 : Nat) : Int) = 1) = false := rfl
theorem kd32 : decide (((3 : Nat) : Int) = 2) = false := rfl
theorem kd33 : decide (((3 : Nat) : Int) = 3) = true := rfl
theorem kd34 : decide (((3 : Nat) : Int) = 4) = false := rfl
theorem kd35 : decide (((3 : Nat) : Int) = 5) = false := rfl
theorem kl3 : decide (((3 : Nat) : Int) < 5) = true := rfl
theorem kg3 : decide ((0 : Int) < ((3 : Nat) : Int)) = true := rfl
theorem kh3 : decide ((3 : Int) ≤ ((3 : Nat) : Int)) = true := rfl
theorem kd40 : decide (((4 : Nat) : Int) = 0) = false := rfl
theorem kd41 : decide (((4 : Nat) : Int) = 1) = false := rfl
theorem kd42 : decide (((4 : Nat) : Int) = 2) = false := rfl
theorem kd43 : decide (((4 : Nat) : Int) = 3) = false := rfl
theorem kd44 : decide (((4 : Nat) : Int) = 4) = true := rfl
theorem kd45 : decide (((4 : Nat) : Int) = 5) = false := rfl
theorem kl4 : decide (((4 : Nat) : Int) < 5) = true := rfl
theorem kg4 : decide ((0 : Int) < ((4 : Nat) : Int)) = true := rfl
theorem kh4 : decide ((3 : Int) ≤ ((4 : Nat) : Int)) = true := rfl
theorem kd50 : decide (((5 : Nat) : Int) = 0) = false := rfl
theorem kd51 : decide (((5 : Nat) : Int) = 1) = false := rfl
theorem kd52 : decide (((5 : Nat) : Int) = 2) = false := rfl
theorem kd53 : decide (((5 : Nat) : Int) = 3) = false := rfl
theorem kd54 : decide (((5 : Nat) : Int) = 4) = false := rfl
theorem kd55 : decide (((5 : Nat) : Int) = 5) = true := rfl
theorem kl5 : decide (((5 : Nat) : Int) < 5) = false := rfl
theorem kg5 : decide ((0 : Int) < ((5 : Nat) : Int)) = true := rfl
theorem kh5 : decide ((3 : Int) ≤ ((5 : Nat) : Int)) = true := rfl
end DN
end
section
set_option maxHeartbeats 8000000
namespace LK01
local macro_rules
 | `(tactic| trivial) => `(tactic| first | exact .inl rfl | exact .inr (.inl rfl) | exact .inr (.inr rfl) | exact .inr rfl)
open PySem PySem.Spec PyProof.Rows L2 He NdefX DN
section
variable {X : Cx} {g : G} {W : WX}
theorem VR (i : Nat) {x : Str} {pos : Pos} (hN : X.N[i]? = some x := by rfl) (hv : Vis X.env.scope x := by first | exact .inl rfl | exact .inr (.inl rfl) | exact .inr (.inr rfl) | exact .inr rfl) (hd : (x == ("__debug__" : Str)) = false := by decide) (hcd : (x == ("__classdict__" : Str)) = false := by decide) : PE X (.Name x pos) (tE g W (aC i)) := Vd hN hv hd hcd
theorem PN (i : Nat) {x : Str} {pos : Pos} (hN : X.N.Nodup) (hi : X.N[i]? = some x := by rfl) (hx : Loc X.env.scope x := by first | exact .inl rfl | exact .inr (.inl rfl) | exact .inr (.inr rfl) | exact .inr rfl) (hf : X.fn x = true ∨ X.env.scope.names.lookup x = some .local := by first | exact .inl rfl | exact .inr rfl) : L2.PG X (.Name x pos) (gName i) := pg_name hN hi hx hf
theorem ST (i : Nat) {x : Str} {pos pos' : Pos} {e : Expr} {f : aA → M D} (hN : X.N.Nodup) (he : PE X e (tE g W f)) (hi : X.N[i]? = some x := by rfl) (hx : Loc X.env.scope x := by first | exact .inl rfl | exact .inr (.inl rfl) | exact .inr (.inr rfl) | exact .inr rfl) (hs : swapsWith e (some (.Name x pos')) pos.line X.env = pure false := by rfl) (hf : X.fn x = true ∨ X.env.scope.names.lookup x = some .local := by first | exact .inl rfl | exact .inr rfl | assumption) : PS X (.Assign [.Name x pos'] e pos) (tS g W (bM i f)) := Wc hN hi hx he hs hf
theorem IX {a b : Expr} {fa fb : aA → M D} {pos : Pos} (hu : X.A.units + 65 < cLine) (ha : PE X a (tE g W fa)) (hb : PE X b (tE g W fb)) (hK : X.K = g.K := by rfl) (hw : X.w = g.w := by rfl) (hs : PlainIx b := by exact fun _ _ => rfl) : PE X (.Subscript a b pos) (tE g W (bin bR fa fb)) := Yg hK hw hu ha hb hs
theorem D1 {e : Expr} {f : aA → M D} (ha : PE X e (tE g W f)) (hs : starEach [e] X.env = (false, eval e X.env) :: starEach [] X.env := by rfl) : PA X [e] (tA g W (aF f aM)) := aU ha wC hs
end
def fG : Tg → Option Bool
 | .non => some false
 | .bl => some false
 | .int => some false
 | .str => some false
 | .lst => some false
 | .tup => some false
 | .ins 0 => some false
 | .ins 1 => some false
 | .ins 2 => some false
 | .ins 3 => some false
 | .ins 4 => some false
 | .ins 5 => some true
 | .ins _ => none
theorem tiz_Renewed_0 : fG (.non) = some false := rfl
theorem tiz_Renewed_1 : fG (.bl) = some false := rfl
theorem tiz_Renewed_2 : fG (.int) = some false := rfl
theorem tiz_Renewed_3 : fG (.str) = some false := rfl
theorem tiz_Renewed_4 : fG (.lst) = some false := rfl
theorem tiz_Renewed_5 : fG (.tup) = some false := rfl
theorem tiz_Renewed_6 : fG (.ins 0) = some false := rfl
theorem tiz_Renewed_7 : fG (.ins 1) = some false := rfl
theorem tiz_Renewed_8 : fG (.ins 2) = some false := rfl
theorem tiz_Renewed_9 : fG (.ins 3) = some false := rfl
theorem tiz_Renewed_10 : fG (.ins 4) = some false := rfl
theorem tiz_Renewed_11 : fG (.ins 5) = some true := rfl
def fH : Tg → Option Bool
 | .non => some false
 | .bl => some false
 | .int => some false
 | .str => some false
 | .lst => some false
 | .tup => some false
 | .ins 0 => some false
 | .ins 1 => some false
 | .ins 2 => some false
 | .ins 3 => some false
 | .ins 4 => some true
 | .ins 5 => some false
 | .ins _ => none
theorem tiz_Both_0 : fH (.non) = some false := rfl
theorem tiz_Both_1 : fH (.bl) = some false := rfl
theorem tiz_Both_2 : fH (.int) = some false := rfl
theorem tiz_Both_3 : fH (.str) = some false := rfl
theorem tiz_Both_4 : fH (.lst) = some false := rfl
theorem tiz_Both_5 : fH (.tup) = some false := rfl
theorem tiz_Both_6 : fH (.ins 0) = some false := rfl
theorem tiz_Both_7 : fH (.ins 1) = some false := rfl
theorem tiz_Both_8 : fH (.ins 2) = some false := rfl
theorem tiz_Both_9 : fH (.ins 3) = some false := rfl
theorem tiz_Both_10 : fH (.ins 4) = some true := rfl
theorem tiz_Both_11 : fH (.ins 5) = some false := rfl
def fJ : Tg → Option Bool
 | .non => some false
 | .bl => some false
 | .int => some false
 | .str => some false
 | .lst => some false
 | .tup => some false
 | .ins 0 => some false
 | .ins 1 => some false
 | .ins 2 => some false
 | .ins 3 => some true
 | .ins 4 => some false
 | .ins 5 => some true
 | .ins _ => none
theorem tiz_Fresh_0 : fJ (.non) = some false := rfl
theorem tiz_Fresh_1 : fJ (.bl) = some false := rfl
theorem tiz_Fresh_2 : fJ (.int) = some false := rfl
theorem tiz_Fresh_3 : fJ (.str) = some false := rfl
theorem tiz_Fresh_4 : fJ (.lst) = some false := rfl
theorem tiz_Fresh_5 : fJ (.tup) = some false := rfl
theorem tiz_Fresh_6 : fJ (.ins 0) = some false := rfl
theorem tiz_Fresh_7 : fJ (.ins 1) = some false := rfl
theorem tiz_Fresh_8 : fJ (.ins 2) = some false := rfl
theorem tiz_Fresh_9 : fJ (.ins 3) = some true := rfl
theorem tiz_Fresh_10 : fJ (.ins 4) = some false := rfl
theorem tiz_Fresh_11 : fJ (.ins 5) = some true := rfl
def fK : Tg → Option Bool
 | .non => some false
 | .bl => some false
 | .int => some false
 | .str => some false
 | .lst => some false
 | .tup => some false
 | .ins 0 => some false
 | .ins 1 => some false
 | .ins 2 => some true
 | .ins 3 => some false
 | .ins 4 => some true
 | .ins 5 => some false
 | .ins _ => none
theorem tiz_Made_0 : fK (.non) = some false := rfl
theorem tiz_Made_1 : fK (.bl) = some false := rfl
theorem tiz_Made_2 : fK (.int) = some false := rfl
theorem tiz_Made_3 : fK (.str) = some false := rfl
theorem tiz_Made_4 : fK (.lst) = some false := rfl
theorem tiz_Made_5 : fK (.tup) = some false := rfl
theorem tiz_Made_6 : fK (.ins 0) = some false := rfl
theorem tiz_Made_7 : fK (.ins 1) = some false := rfl
theorem tiz_Made_8 : fK (.ins 2) = some true := rfl
theorem tiz_Made_9 : fK (.ins 3) = some false := rfl
theorem tiz_Made_10 : fK (.ins 4) = some true := rfl
theorem tiz_Made_11 : fK (.ins 5) = some false := rfl
def fL : Tg → Option Bool
 | .non => some false
 | .bl => some false
 | .int => some false
 | .str => some false
 | .lst => some false
 | .tup => some false
 | .ins 0 => some false
 | .ins 1 => some true
 | .ins 2 => some false
 | .ins 3 => some false
 | .ins 4 => some true
 | .ins 5 => some true
 | .ins _ => none
theorem tiz_Read_0 : fL (.non) = some false := rfl
theorem tiz_Read_1 : fL (.bl) = some false := rfl
theorem tiz_Read_2 : fL (.int) = some false := rfl
theorem tiz_Read_3 : fL (.str) = some false := rfl
theorem tiz_Read_4 : fL (.lst) = some false := rfl
theorem tiz_Read_5 : fL (.tup) = some false := rfl
theorem tiz_Read_6 : fL (.ins 0) = some false := rfl
theorem tiz_Read_7 : fL (.ins 1) = some true := rfl
theorem tiz_Read_8 : fL (.ins 2) = some false := rfl
theorem tiz_Read_9 : fL (.ins 3) = some false := rfl
theorem tiz_Read_10 : fL (.ins 4) = some true := rfl
theorem tiz_Read_11 : fL (.ins 5) = some true := rfl
def fM : Tg → Option Bool
 | .non => some false
 | .bl => some false
 | .int => some false
 | .str => some false
 | .lst => some false
 | .tup => some false
 | .ins 0 => some true
 | .ins 1 => some true
 | .ins 2 => some true
 | .ins 3 => some true
 | .ins 4 => some true
 | .ins 5 => some true
 | .ins _ => none
theorem tiz_Role_0 : fM (.non) = some false := rfl
theorem tiz_Role_1 : fM (.bl) = some false := rfl
theorem tiz_Role_2 : fM (.int) = some false := rfl
theorem tiz_Role_3 : fM (.str) = some false := rfl
theorem tiz_Role_4 : fM (.lst) = some false := rfl
theorem tiz_Role_5 : fM (.tup) = some false := rfl
theorem tiz_Role_6 : fM (.ins 0) = some true := rfl
theorem tiz_Role_7 : fM (.ins 1) = some true := rfl
theorem tiz_Role_8 : fM (.ins 2) = some true := rfl
theorem tiz_Role_9 : fM (.ins 3) = some true := rfl
theorem tiz_Role_10 : fM (.ins 4) = some true := rfl
theorem tiz_Role_11 : fM (.ins 5) = some true := rfl
def fX : Tg → Option Bool
 | .non => some false
 | .bl => some true
 | .int => some false
 | .str => some false
 | .lst => some false
 | .tup => some false
 | .ins 0 => some false
 | .ins 1 => some false
 | .ins 2 => some false
 | .ins 3 => some false
 | .ins 4 => some false
 | .ins 5 => some false
 | .ins _ => none
theorem tiz_bool_0 : fX (.non) = some false := rfl
theorem tiz_bool_1 : fX (.bl) = some true := rfl
theorem tiz_bool_2 : fX (.int) = some false := rfl
theorem tiz_bool_3 : fX (.str) = some false := rfl
theorem tiz_bool_4 : fX (.lst) = some false := rfl
theorem tiz_bool_5 : fX (.tup) = some false := rfl
theorem tiz_bool_6 : fX (.ins 0) = some false := rfl
theorem tiz_bool_7 : fX (.ins 1) = some false := rfl
theorem tiz_bool_8 : fX (.ins 2) = some false := rfl
theorem tiz_bool_9 : fX (.ins 3) = some false := rfl
theorem tiz_bool_10 : fX (.ins 4) = some false := rfl
theorem tiz_bool_11 : fX (.ins 5) = some false := rfl
def fY : Tg → Option Bool
 | .non => some false
 | .bl => some false
 | .int => some false
 | .str => some false
 | .lst => some true
 | .tup => some false
 | .ins 0 => some false
 | .ins 1 => some false
 | .ins 2 => some false
 | .ins 3 => some false
 | .ins 4 => some false
 | .ins 5 => some false
 | .ins _ => none
theorem tiz_list_0 : fY (.non) = some false := rfl
theorem tiz_list_1 : fY (.bl) = some false := rfl
theorem tiz_list_2 : fY (.int) = some false := rfl
theorem tiz_list_3 : fY (.str) = some false := rfl
theorem tiz_list_4 : fY (.lst) = some true := rfl
theorem tiz_list_5 : fY (.tup) = some false := rfl
theorem tiz_list_6 : fY (.ins 0) = some false := rfl
theorem tiz_list_7 : fY (.ins 1) = some false := rfl
theorem tiz_list_8 : fY (.ins 2) = some false := rfl
theorem tiz_list_9 : fY (.ins 3) = some false := rfl
theorem tiz_list_10 : fY (.ins 4) = some false := rfl
theorem tiz_list_11 : fY (.ins 5) = some false := rfl
def Ir : Nat → Option P
 | 0 => some (.str "")
 | 1 => some (.str "r")
 | 2 => some (.str "m")
 | 3 => some (.str "f")
 | 4 => some (.str "rm")
 | 5 => some (.str "rf")
 | _ => none
noncomputable def Iu : SX := (cC (iT (gQ (bB (lO (dY fun i j => decide (i ≤ j)) (dY fun i j => decide (i ≤ j)) (aG (.v (.int 1))) (aO jP (aF (aC 0) aM)) (aG (.v (.int 8)))))) (bB (aO zQ (aF (uH false (wN (aC 0)) [1] (oU 1) uI (bin (uN true) (aC 1) (aG (.v (.str "abcdefghijklmnopqrstuvwxyz"))))) aM)))) (uJ 21 (aF (aC 0) aM)) cA)
noncomputable def Dh : List D → M D := bO false (bV 2 Iu)
noncomputable def yO : SX := (aR (gR (aO (bF 1 Dh) (aF (aC 1) aM))) (aR (gR (aO (bF 1 Dh) (aF (aC 2) aM))) (aR (wR 0 (aC 0) (aC 1)) (bD [1] (wR 1 (aC 0) (aC 2))))))
noncomputable def jJ : List D → M D := bV 3 yO
noncomputable def Iv : SX := (aR (cC (bB (bin (bK false) (aC 2) (aG (.v (.int 0))))) (bD [2] (retS (aO (gH true 1 3 jJ) (aF (aC 0) (aF (aC 1) aM))))) cA) (aR (cC (bB (bin (bK false) (aC 2) (aG (.v (.int 1))))) (bD [2] (retS (aO (gH true 2 3 jJ) (aF (aC 0) (aF (aC 1) aM))))) cA) (aR (cC (bB (bin (bK false) (aC 2) (aG (.v (.int 2))))) (bD [2] (retS (aO (gH true 3 3 jJ) (aF (aC 0) (aF (aC 1) aM))))) cA) (aR (cC (bB (bin (bK false) (aC 2) (aG (.v (.int 3))))) (bD [2] (retS (aO (gH true 4 3 jJ) (aF (aC 0) (aF (aC 1) aM))))) cA) (bD [2] (retS (aO (gH true 5 3 jJ) (aF (aC 0) (aF (aC 1) aM)))))))))
noncomputable def Iw : List D → M D := bO false (bV 3 Iv)
noncomputable def Iz : SX := (aR (cC (bB (bin (bK false) (aC 2) (aG (.v (.int 5))))) (bD [2] (retS (aO (gH true 0 3 jJ) (aF (aC 0) (aF (aC 1) aM))))) cA) (retS (aO (bF 3 Iw) (aF (aC 0) (aF (aC 1) (aF (aC 2) aM))))))
noncomputable def Di : List D → M D := bO false (bV 3 Iz)
def Ja : List Nat := [21, 22]
noncomputable def sX : List Clz := [⟨21, some 3, fun a dx c => (bD [0, 1, 2] (cC (jN (bB (jT a dx 3 (eX c 20))) (jN (bB (jT a dx 3 true)) (gQ (bB (jT a dx 3 (eX c 22)))))) (retS (aO cV (aF (lW a dx 3 0) aM))) cA))⟩]
noncomputable def Jb : SX := (aR (Ac Ja sX (gR (aO (bF 3 Di) (aF (aC 0) (aF (aC 1) (aF (aC 2) aM)))))) (bD [0, 1, 2] (retS (aO cV aM))))
noncomputable def yP : List D → M D := bO false (bV 4 Jb)
noncomputable def Dj : SX := (aR (cC (jN (bB (bin (dY fun i j => decide (j < i)) (bin bR (aC 0) (aG (.v (.int 0)))) (aG (.v (.int 0))))) (bB (bin (dY fun i j => decide (j < i)) (bin bR (aC 0) (aG (.v (.int 2)))) (aG (.v (.int 0)))))) (aR (bM 2 (bin fB (aO intD (aF (bin bR (aC 0) (aG (.v (.int 0)))) aM)) (aC 1))) (aR (nJ (aC 0) (aG (.v (.int 0))) (bin tV (bin bR (aC 0) (aG (.v (.int 0)))) (aC 1))) (bD [1] (aR (nJ (aC 0) (aG (.v (.int 2))) (bin pN (bin bR (aC 0) (aG (.v (.int 2)))) (aG (.v (.int 1))))) (bD [0] (retS (aC 2))))))) cA) (bD [2] (aR (nJ (aC 0) (aG (.v (.int 1))) (bin fB (aO intD (aF (bin bY (bin gD (bin bR (aC 0) (aG (.v (.int 1)))) (aG (.v (.int 10)))) (aG (.v (.int 3)))) aM)) (aG (.v (.int 10007))))) (retS (bin fB (aO intD (aF (bin bR (aC 0) (aG (.v (.int 1)))) aM)) (aC 1))))))
noncomputable def eU : List D → M D := bO false (bV 3 Dj)
noncomputable def Jc : SX := (aR (bM 2 (aG (.v (.str " !\"#$&'()*+,-./0123456789:;<=>?@ABCDEFGHIJKLMNOPQRSTUVWXYZ[\\]^_`{|}~")))) (aR (bM 3 (aO (bF 2 eU) (aF (aC 0) (aF (aO jP (aF (aC 1) aM)) aM)))) (aR (bM 4 (bin bR (aC 2) (aO (bF 2 eU) (aF (aC 0) (aF (aO jP (aF (aC 2) aM)) aM))))) (bD [2] (aR (bM 5 (bin bY (bin bY (slice (aC 1) nA (part (aC 3))) (aC 4)) (slice (aC 1) (part (bin bY (aC 3) (aG (.v (.int 1))))) nA))) (bD [3, 4] (aR (bM 6 (aO bL (aF (aG (.v (.str ""))) (aF (aG (.v (.str "aaaaaaaaa"))) (aF (aC 5) (aF (aC 5) (aF (gU wL Gp (aC 1) aM) aM))))))) (bD [5] (aR (bM 6 (bin bY (aC 6) (aO bL (aF (slice (bin uU (aC 1) (aG (.v (.int 9)))) nA (part (aG (.v (.int 9))))) (aF (slice (bin uU (aC 1) (aG (.v (.int 20)))) nA (part (aG (.v (.int 20))))) aM))))) (aR (bM 6 (bin bY (aC 6) (aO bL (aF (bin bY (aG (.v (.str " "))) (slice (aC 1) nA (part (aG (.v (.int 7)))))) (aF (bin bY (slice (aC 1) nA (part (aG (.v (.int 7))))) (aG (.v (.str " ")))) aM))))) (bD [1] (retS (bin bR (aC 6) (aO (bF 2 eU) (aF (aC 0) (aF (aO jP (aF (aC 6) aM)) aM))))))))))))))))
noncomputable def yQ : List D → M D := bO false (bV 7 Jc)
noncomputable def Jd : SX := (aR (bM 1 (aO bL (aF (un (lA fM) (aC 0)) (aF (un (lA fL) (aC 0)) (aF (un (lA fK) (aC 0)) aM))))) (retS (bin bY (aC 1) (aO bL (aF (un (lA fJ) (aC 0)) (aF (un (lA fH) (aC 0)) (aF (un (lA fG) (aC 0)) aM)))))))
noncomputable def Je : List D → M D := bO false (bV 2 Jd)
noncomputable def Jf : SX := (bD [0] (retS (aG (.v (.bl false)))))
noncomputable def oE : List D → M D := bO false (bV 1 Jf)
noncomputable def Jg : SX := (bD [0] (retS (aG (.v (.bl true)))))
noncomputable def vJ : List D → M D := bO false (bV 1 Jg)
noncomputable def mH : Nat → Option (List D → M D)
 | 0 => some oE
 | 1 => some oE
 | 2 => some vJ
 | 3 => some oE
 | 4 => some vJ
 | 5 => some oE
 | _ => none
theorem tmz_derived_0 : mH 0 = some oE := rfl
theorem tmz_derived_1 : mH 1 = some oE := rfl
theorem tmz_derived_2 : mH 2 = some vJ := rfl
theorem tmz_derived_3 : mH 3 = some oE := rfl
theorem tmz_derived_4 : mH 4 = some vJ := rfl
theorem tmz_derived_5 : mH 5 = some oE := rfl
noncomputable def Jh : SX := (bD [0] (retS (aG (.v (.bl false)))))
noncomputable def vK : List D → M D := bO false (bV 1 Jh)
noncomputable def Ji : SX := (bD [0] (retS (aG (.v (.bl true)))))
noncomputable def vL : List D → M D := bO false (bV 1 Ji)
noncomputable def Jj : SX := (bD [0] (retS (aG (.v (.bl true)))))
noncomputable def vM : List D → M D := bO false (bV 1 Jj)
noncomputable def mJ : Nat → Option (List D → M D)
 | 0 => some vK
 | 1 => some vK
 | 2 => some vL
 | 3 => some vM
 | 4 => some vL
 | 5 => some vM
 | _ => none
theorem tmz_makes_0 : mJ 0 = some vK := rfl
theorem tmz_makes_1 : mJ 1 = some vK := rfl
theorem tmz_makes_2 : mJ 2 = some vL := rfl
theorem tmz_makes_3 : mJ 3 = some vM := rfl
theorem tmz_makes_4 : mJ 4 = some vL := rfl
theorem tmz_makes_5 : mJ 5 = some vM := rfl
noncomputable def Jk : SX := (bD [0] (retS (aG (.v (.bl false)))))
noncomputable def qT : List D → M D := bO false (bV 1 Jk)
noncomputable def Jl : SX := (bD [0] (retS (aG (.v (.bl true)))))
noncomputable def qU : List D → M D := bO false (bV 1 Jl)
noncomputable def mK : Nat → Option (List D → M D)
 | 0 => some qT
 | 1 => some qU
 | 2 => some qT
 | 3 => some qT
 | 4 => some qU
 | 5 => some qU
 | _ => none
theorem tmz_reads_0 : mK 0 = some qT := rfl
theorem tmz_reads_1 : mK 1 = some qU := rfl
theorem tmz_reads_2 : mK 2 = some qT := rfl
theorem tmz_reads_3 : mK 3 = some qT := rfl
theorem tmz_reads_4 : mK 4 = some qU := rfl
theorem tmz_reads_5 : mK 5 = some qU := rfl
noncomputable def Jm : SX := (aR (bM 1 (aO bL (aF (lU 1 mK (aC 0) aM) (aF (lU 1 mJ (aC 0) aM) (aF (lU 1 mH (aC 0) aM) aM))))) (bD [0] (aR (rM (wN (aC 1)) (oU 2) (nM (cC (gQ (bB (un (lA fX) (aC 2)))) (bD [1, 2] (retS (aO bL aM))) cA))) (bD [2] (retS (aC 1))))))
noncomputable def Jo : List D → M D := bO false (bV 3 Jm)
noncomputable def Jp : SX := (retS (lN (bB (bin (bK false) (aC 0) (aG (.v (.int 1))))) (bin (bK false) (aC 0) (aG (.v (.int 3))))))
noncomputable def Jq : List D → M D := bO false (bV 1 Jp)
noncomputable def Jr : SX := (retS (lN (bB (bin (bK false) (aC 0) (aG (.v (.int 0))))) (bin (dY fun i j => decide (j ≤ i)) (aC 0) (aG (.v (.int 3))))))
noncomputable def Dk : List D → M D := bO false (bV 1 Jr)
noncomputable def Jt : SX := (retS (aO newD (aF (un (cM 1) (aC 0)) aM)))
noncomputable def jB : List D → M D := bO true (bV 1 Jt)
noncomputable def sY : Nat → Option (List D → M D)
 | 3 => some jB
 | 5 => some jB
 | _ => none
theorem tuz_Fresh_words_3 : sY 3 = some jB := rfl
theorem tuz_Fresh_words_5 : sY 5 = some jB := rfl
noncomputable def yR : List D → M D := bO true (jA sY "fresh")
noncomputable def tD : Nat → Option (List D → M D)
 | 2 => some jB
 | 4 => some jB
 | _ => none
theorem tuz_Made_words_2 : tD 2 = some jB := rfl
theorem tuz_Made_words_4 : tD 4 = some jB := rfl
noncomputable def yS : List D → M D := bO true (jA tD "made")
noncomputable def mO : Nat → Option (List D → M D)
 | 1 => some jB
 | 4 => some yS
 | 5 => some yR
 | _ => none
theorem tuz_Read_words_1 : mO 1 = some jB := rfl
theorem tuz_Read_words_4 : mO 4 = some yS := rfl
theorem tuz_Read_words_5 : mO 5 = some yR := rfl
noncomputable def tG : List D → M D := bO true (jA mO "read")
noncomputable def lG : Nat → Option (List D → M D)
 | 0 => some jB
 | 1 => some tG
 | 2 => some yS
 | 3 => some yR
 | 4 => some tG
 | 5 => some tG
 | _ => none
theorem tmz_words_0 : lG 0 = some jB := rfl
theorem tmz_words_1 : lG 1 = some tG := rfl
theorem tmz_words_2 : lG 2 = some yS := rfl
theorem tmz_words_3 : lG 3 = some yR := rfl
theorem tmz_words_4 : lG 4 = some tG := rfl
theorem tmz_words_5 : lG 5 = some tG := rfl
noncomputable def jX : SX := (aR (bM 4 (aO newD (aF (aC 2) aM))) (aR (cC (iT (bB (bin (bK false) (aC 3) (aG (.v (.int 1))))) (bB (bin (bK false) (aC 3) (aG (.v (.int 3)))))) (gR (gU gW jC (aC 4) (aF (aG (.v (.str "made"))) aM))) cA) (aR (cC (iT (bB (bin (bK false) (aC 3) (aG (.v (.int 2))))) (bB (bin (bK false) (aC 3) (aG (.v (.int 4)))))) (gR (gU gW jC (aC 4) (aF (aG (.v (.str "fresh"))) aM))) cA) (aR (cC (jN (bB (bin iQ (aC 3) (aG (.v (.int 5))))) (bB (aO (bF 1 Dk) (aF (aC 3) aM)))) (gR (gU gW jC (aC 4) (aF (aG (.v (.str "read"))) aM))) cA) (aR (bM 5 (lU 1 lG (aC 0) aM)) (aR (cC (iT (gQ (bB (un (lA fY) (aC 5)))) (bB (bin (bK true) (aC 5) (aC 4)))) (bD [0, 1, 2, 3, 4, 5] (retS (aG (.v (.bl false))))) cA) (aR (gR (gU gW jC (aC 5) (aF (aG (.v (.str "more"))) aM))) (bD [5] (aR (cC (iT (bB (bin (bK true) (lU 1 lG (aC 0) aM) (aC 4))) (iT (bB (bin (bK true) (un (cM 0) (aC 0)) (aC 1))) (bB (bin (bK true) (un (cM 1) (aC 0)) (aC 2))))) (bD [0, 1, 2, 3, 4] (retS (aG (.v (.bl false))))) cA) (bD [1, 2, 4] (aR (cC (bB (bin (bK true) (un (wQ Ir) (aC 0)) (bin bR (aO bL (aF (aG (.v (.str "r"))) (aF (aG (.v (.str "m"))) (aF (aG (.v (.str "f"))) (aF (aG (.v (.str "rm"))) (aF (aG (.v (.str "rf"))) (aF (aG (.v (.str ""))) aM))))))) (aC 3)))) (bD [0, 3] (retS (aG (.v (.bl false))))) cA) (aR (bM 6 (mZ (bB (bin iQ (aC 3) (aG (.v (.int 5))))) (aO (bF 1 Dk) (aF (aC 3) aM)))) (aR (cC (bB (bin (bK true) (aO (bF 1 Jo) (aF (aC 0) aM)) (aO bL (aF (aC 6) (aF (lO (dY fun i j => decide (i < j)) (dY fun i j => decide (i < j)) (aG (.v (.int 0))) (aC 3) (aG (.v (.int 5)))) (aF (aO (bF 1 Jq) (aF (aC 3) aM)) aM)))))) (bD [0, 3, 6] (retS (aG (.v (.bl false))))) cA) (aR (bM 7 (lN (bB (bin (bK false) (aC 3) (aG (.v (.int 1))))) (bin (bK false) (aC 3) (aG (.v (.int 3)))))) (aR (bM 8 (lN (bB (bin (bK false) (aC 3) (aG (.v (.int 2))))) (bin (bK false) (aC 3) (aG (.v (.int 4)))))) (retS (bin (bK false) (aO (bF 1 Je) (aF (aC 0) aM)) (aO bL (aF (aG (.v (.bl true))) (aF (aC 6) (aF (aC 7) (aF (aC 8) (aF (bin (bK false) (aC 3) (aG (.v (.int 3)))) (aF (bin (bK false) (aC 3) (aG (.v (.int 4)))) aM))))))))))))))))))))))))
noncomputable def mQ : List D → M D := bO false (bV 9 jX)
noncomputable def Ju : SX := (retS (aC 0))
noncomputable def oF : List D → M D := bO false (bV 1 Ju)
noncomputable def Jv : SX := (retS (aO (gH true 3 3 jJ) (aF (un (cM 0) (aC 0)) (aF (un (cM 1) (aC 0)) aM))))
noncomputable def Jw : List D → M D := bO false (bV 1 Jv)
noncomputable def Jx : SX := (retS (aO (gH true 5 3 jJ) (aF (un (cM 0) (aC 0)) (aF (un (cM 1) (aC 0)) aM))))
noncomputable def Jy : List D → M D := bO false (bV 1 Jx)
noncomputable def jY : Nat → Option (List D → M D)
 | 0 => some oF
 | 1 => some oF
 | 2 => some Jw
 | 3 => some oF
 | 4 => some Jy
 | 5 => some oF
 | _ => none
theorem tmz_imaged_0 : jY 0 = some oF := rfl
theorem tmz_imaged_1 : jY 1 = some oF := rfl
theorem tmz_imaged_2 : jY 2 = some Jw := rfl
theorem tmz_imaged_3 : jY 3 = some oF := rfl
theorem tmz_imaged_4 : jY 4 = some Jy := rfl
theorem tmz_imaged_5 : jY 5 = some oF := rfl
noncomputable def Jz : SX := (aR (bM 1 (aG (.v (.str "abcdefghijklmnopqrstuvwxyz")))) (retS (gU wL wZ (aG (.v (.str ""))) (aF (uH false (wN (aC 0)) [2] (oU 2) uI (bin bR (aC 1) (bin fB (aO intD (aF (aC 2) aM)) (aG (.v (.int 26)))))) aM))))
noncomputable def Dm : List D → M D := bO false (bV 3 Jz)
noncomputable def J8 : SX := (aR (bM 1 (aO (bF 2 eU) (aF (aC 0) (aF (aG (.v (.int 3))) aM)))) (aR (bM 2 (aO (bF 2 eU) (aF (aC 0) (aF (aG (.v (.int 26))) aM)))) (aR (bM 3 (bin bY (aG (.v (.int 1))) (bin gD (aG (.v (.int 2))) (aO (bF 2 eU) (aF (aC 0) (aF (aG (.v (.int 6))) aM)))))) (aR (bM 4 (aO (bF 2 eU) (aF (aC 0) (aF (aG (.v (.int 8))) aM)))) (aR (bM 5 (bin bY (aG (.v (.int 1))) (aO (bF 2 eU) (aF (aC 0) (aF (aG (.v (.int 8))) aM))))) (aR (bM 6 (aO (bF 1 Dm) (aF (uH false (uE oR (aF (aG (.v (.int 8))) aM)) [8] (oU 8) uI (aO (bF 2 eU) (aF (aC 0) (aF (aG (.v (.int 26))) aM)))) aM))) (bD [0] (aR (bM 7 (aO newD aM)) (aR (rM (uE oR (aF (aG (.v (.int 8))) aM)) (oU 8) (nM (bD [9, 10, 11] (aR (bM 9 (aO (bF 1 Dm) (aF (aO bL (aF (bin bY (aC 2) (bin gD (aC 3) (aC 8))) aM)) aM))) (aR (bM 10 (bin fB (aO intD (aF (aC 4) aM)) (aC 5))) (aR (bM 11 (bin bY (bin bY (slice (aC 6) nA (part (aC 10))) (aC 9)) (slice (aC 6) (part (bin bY (aC 10) (aG (.v (.int 1))))) (part (aC 5))))) (bD [10] (aR (cC (bB (bin (bK false) (aC 1) (aG (.v (.int 1))))) (bD [11] (bM 11 (slice (aC 6) nA (part (bin bY (aG (.v (.int 1))) (bin fB (aO intD (aF (bin bY (aC 8) (aC 4)) aM)) (aG (.v (.int 8))))))))) cA) (aR (cC (bB (bin (bK false) (aC 1) (aG (.v (.int 2))))) (bD [11] (bM 11 (bin bY (aC 9) (slice (aC 6) (part (aC 8)) (part (bin bY (aC 8) (bin fB (aO intD (aF (bin bY (aC 4) (bin gD (aG (.v (.int 3))) (aC 8))) aM)) (aG (.v (.int 8)))))))))) cA) (bD [8, 9] (gR (gU gW jC (aC 7) (aF (aC 11) aM))))))))))))) (bD [1, 2, 3, 4, 5, 6, 8, 9, 10, 11] (retS (aC 7))))))))))))
noncomputable def yU : List D → M D := bO false (bV 12 J8)
noncomputable def Dq : SX := (aR (bM 2 (bin bY (bin bY (bin gD (aG (.v (.int 17))) (aC 1)) (aG (.v (.int 5)))) (bin gD (aG (.v (.int 101))) (aO zP (aF (aC 0) aM))))) (aR (bM 3 (aG (.v (.int 0)))) (aR (cC (bB (bin iQ (aC 1) (aO jP (aF (aC 0) aM)))) (aR (bM 2 (bin bY (aC 2) (bin bR (aC 0) (aC 1)))) (cC (bB (bin (dY fun i j => decide (j ≤ i)) (bin bR (aC 0) (aC 1)) (bin mW (aG (.v (.int 10))) (aG (.v (.int 18)))))) (bD [3] (bM 3 (bin bR (aC 0) (aC 1)))) cA)) cA) (bD [0, 1] (retS (aO newD (aF (aC 3) (aF (bin fB (aO intD (aF (aC 2) aM)) (aG (.v (.int 10007)))) (aF (aG (.v (.int 60))) aM)))))))))
noncomputable def yV : List D → M D := bO true (bV 4 Dq)
noncomputable def J9 : SX := (aR (bM 1 (aO (bF 2 yV) (aF (aC 0) (aF (aG (.v (.int 0))) aM)))) (bD [0] (aR (bM 2 (aO (bF 1 yU) (aF (aC 1) aM))) (aR (bM 3 (bin bR (aC 2) (aO (bF 2 eU) (aF (aC 1) (aF (aG (.v (.int 8))) aM))))) (aR (bM 4 (bin bR (aC 2) (aO (bF 2 eU) (aF (aC 1) (aF (aG (.v (.int 8))) aM))))) (bD [2] (aR (rM (uE oR (aF (aG (.v (.int 6))) aM)) (oU 5) (nM (bD [6] (aR (bM 6 (aO (bF 3 Di) (aF (aC 3) (aF (aC 4) (aF (aC 5) aM))))) (aR (cC (gQ (bB (aO (bF 4 mQ) (aF (aC 6) (aF (aC 3) (aF (aC 4) (aF (aC 5) aM))))))) (bD [1, 3, 4, 5, 6] (retS (aG (.v (.bl false))))) cA) (aR (cC (gQ (bB (aO (bF 4 mQ) (aF (lU 1 jY (aC 6) aM) (aF (aC 3) (aF (aC 4) (aF (bin bR (aO bL (aF (aG (.v (.int 0))) (aF (aG (.v (.int 2))) (aF (aG (.v (.int 2))) (aF (aG (.v (.int 4))) (aF (aG (.v (.int 4))) (aF (aG (.v (.int 5))) aM))))))) (aC 5)) aM))))))) (bD [1, 3, 4, 5, 6] (retS (aG (.v (.bl false))))) cA) (cC (gQ (bB (aO (bF 4 mQ) (aF (aC 6) (aF (aC 3) (aF (aC 4) (aF (aC 5) aM))))))) (bD [1, 3, 4, 5, 6] (retS (aG (.v (.bl false))))) cA))))))) (bD [5, 6] (aR (bM 7 (aO (bF 2 yQ) (aF (aC 1) (aF (aC 3) aM)))) (aR (bM 8 (aO (bF 2 yQ) (aF (aC 1) (aF (aC 4) aM)))) (bD [1] (aR (rM (uE oR (aF (aG (.v (.int 6))) aM)) (oU 5) (nM (aR (cC (bB (bin (bK true) (aO (bF 3 yP) (aF (aC 7) (aF (aC 4) (aF (aC 5) aM)))) (aO cV (aF (aC 7) aM)))) (bD [3, 4, 5, 7, 8] (retS (aG (.v (.bl false))))) cA) (aR (cC (bB (bin (bK true) (aO (bF 3 yP) (aF (aC 3) (aF (aC 8) (aF (aC 5) aM)))) (aO cV (aF (aC 8) aM)))) (bD [3, 4, 5, 7, 8] (retS (aG (.v (.bl false))))) cA) (cC (bB (bin (bK true) (aO (bF 3 yP) (aF (aC 7) (aF (aC 8) (aF (aC 5) aM)))) (aO cV (aF (aC 7) aM)))) (bD [3, 4, 5, 7, 8] (retS (aG (.v (.bl false))))) cA))))) (bD [3, 4, 5, 7, 8] (retS (aG (.v (.bl true)))))))))))))))))
noncomputable def Ka : List D → M D := bO false (bV 9 J9)
theorem ob_eq (s : PySem.W.SharedT) : ob s = hk.obs s.abs := Yo (HandSHeadRun.getT_eq s)
structure aD (w : World) (K : PySem.W.Frag) (mg : Str → Option Value) (h base : Heap) : Prop where
 sy : SaysX fa fn K
 kin : K.In h
 ns : h.Ns mainGlobals mg
section
variable {w : World} {K : PySem.W.Frag} {mg : Str → Option Value} {h base : Heap}
theorem aD.free_len (T : aD w K mg h base) : mg "len" = none := free_ok T.kin T.ns (T.sy.fact 0)
theorem aD.int_LONGEST_NAME (T : aD w K mg h base) : ∃ t, mg "LONGEST_NAME" = some (.int 8 t) := int_ok T.kin T.ns (T.sy.fact 1)
theorem aD.free_any (T : aD w K mg h base) : mg "any" = none := free_ok T.kin T.ns (T.sy.fact 2)
theorem aD.str_LETTERS (T : aD w K mg h base) : ∃ t, mg "LETTERS" = some (.str "abcdefghijklmnopqrstuvwxyz" t) := str_ok T.kin T.ns (T.sy.fact 3)
theorem aD.glo_BadName (T : aD w K mg h base) : mg "BadName" = some (.ref (ga K "BadName")) := glo_ok T.kin T.ns (T.sy.fact 4)
theorem aD.glo_check_name (T : aD w K mg h base) : mg "check_name" = some (.ref (ga K "check_name")) := glo_ok T.kin T.ns (T.sy.fact 6)
theorem aD.glo_Fresh (T : aD w K mg h base) : mg "Fresh" = some (.ref (ga K "Fresh")) := glo_ok T.kin T.ns (T.sy.fact 7)
theorem aD.cls_3 (T : aD w K mg h base) : jM (gOf K w) 3 := uO (T.sy.fact 8)
theorem aD.mkr_Fresh (T : aD w K mg h base) : Mk K (ga K "Fresh") (ma K (ga K "Role") "__init__") := yG (mkr_ok (T.sy.fact 9)) (T.sy.fact 65)
theorem aD.glo_Renewed (T : aD w K mg h base) : mg "Renewed" = some (.ref (ga K "Renewed")) := glo_ok T.kin T.ns (T.sy.fact 10)
theorem aD.cls_5 (T : aD w K mg h base) : jM (gOf K w) 5 := uO (T.sy.fact 11)
theorem aD.mkr_Renewed (T : aD w K mg h base) : Mk K (ga K "Renewed") (ma K (ga K "Role") "__init__") := yG (mkr_ok (T.sy.fact 12)) (T.sy.fact 66)
theorem aD.glo_Both (T : aD w K mg h base) : mg "Both" = some (.ref (ga K "Both")) := glo_ok T.kin T.ns (T.sy.fact 13)
theorem aD.cls_4 (T : aD w K mg h base) : jM (gOf K w) 4 := uO (T.sy.fact 14)
theorem aD.mkr_Both (T : aD w K mg h base) : Mk K (ga K "Both") (ma K (ga K "Role") "__init__") := yG (mkr_ok (T.sy.fact 15)) (T.sy.fact 67)
theorem aD.glo_Made (T : aD w K mg h base) : mg "Made" = some (.ref (ga K "Made")) := glo_ok T.kin T.ns (T.sy.fact 16)
theorem aD.cls_2 (T : aD w K mg h base) : jM (gOf K w) 2 := uO (T.sy.fact 17)
theorem aD.mkr_Made (T : aD w K mg h base) : Mk K (ga K "Made") (ma K (ga K "Role") "__init__") := yG (mkr_ok (T.sy.fact 18)) (T.sy.fact 68)
theorem aD.glo_Read (T : aD w K mg h base) : mg "Read" = some (.ref (ga K "Read")) := glo_ok T.kin T.ns (T.sy.fact 19)
theorem aD.cls_1 (T : aD w K mg h base) : jM (gOf K w) 1 := uO (T.sy.fact 20)
theorem aD.mkr_Read (T : aD w K mg h base) : Mk K (ga K "Read") (ma K (ga K "Role") "__init__") := yG (mkr_ok (T.sy.fact 21)) (T.sy.fact 69)
theorem aD.free_int (T : aD w K mg h base) : mg "int" = none := free_ok T.kin T.ns (T.sy.fact 22)
theorem aD.free_sum (T : aD w K mg h base) : mg "sum" = none := free_ok T.kin T.ns (T.sy.fact 23)
theorem aD.free_range (T : aD w K mg h base) : mg "range" = none := free_ok T.kin T.ns (T.sy.fact 24)
theorem aD.glo__law_word (T : aD w K mg h base) : mg "_law_word" = some (.ref (ga K "_law_word")) := glo_ok T.kin T.ns (T.sy.fact 25)
theorem aD.glo__law_draw (T : aD w K mg h base) : mg "_law_draw" = some (.ref (ga K "_law_draw")) := glo_ok T.kin T.ns (T.sy.fact 26)
theorem aD.glo__law_role (T : aD w K mg h base) : mg "_law_role" = some (.ref (ga K "_law_role")) := glo_ok T.kin T.ns (T.sy.fact 27)
theorem aD.glo_Role (T : aD w K mg h base) : mg "Role" = some (.ref (ga K "Role")) := glo_ok T.kin T.ns (T.sy.fact 28)
theorem aD.cls_0 (T : aD w K mg h base) : jM (gOf K w) 0 := uO (T.sy.fact 29)
theorem aD.mkr_Role (T : aD w K mg h base) : Mk K (ga K "Role") (ma K (ga K "Role") "__init__") := mkr_ok (T.sy.fact 30)
theorem aD.glo__law_any_role (T : aD w K mg h base) : mg "_law_any_role" = some (.ref (ga K "_law_any_role")) := glo_ok T.kin T.ns (T.sy.fact 31)
theorem aD.free_isinstance (T : aD w K mg h base) : mg "isinstance" = none := free_ok T.kin T.ns (T.sy.fact 32)
theorem aD.glo_RedoError (T : aD w K mg h base) : mg "RedoError" = some (.ref (ga K "RedoError")) := glo_ok T.kin T.ns (T.sy.fact 33)
theorem aD.free_ValueError (T : aD w K mg h base) : mg "ValueError" = none := free_ok T.kin T.ns (T.sy.fact 34)
theorem aD.glo_BadKind (T : aD w K mg h base) : mg "BadKind" = some (.ref (ga K "BadKind")) := glo_ok T.kin T.ns (T.sy.fact 35)
theorem aD.free_bool (T : aD w K mg h base) : mg "bool" = none := free_ok T.kin T.ns (T.sy.fact 36)
theorem aD.glo__law_classes (T : aD w K mg h base) : mg "_law_classes" = some (.ref (ga K "_law_classes")) := glo_ok T.kin T.ns (T.sy.fact 37)
theorem aD.glo__law_flags (T : aD w K mg h base) : mg "_law_flags" = some (.ref (ga K "_law_flags")) := glo_ok T.kin T.ns (T.sy.fact 38)
theorem aD.glo__law_derived (T : aD w K mg h base) : mg "_law_derived" = some (.ref (ga K "_law_derived")) := glo_ok T.kin T.ns (T.sy.fact 39)
theorem aD.glo__law_reads (T : aD w K mg h base) : mg "_law_reads" = some (.ref (ga K "_law_reads")) := glo_ok T.kin T.ns (T.sy.fact 40)
theorem aD.free_list (T : aD w K mg h base) : mg "list" = none := free_ok T.kin T.ns (T.sy.fact 41)
theorem aD.glo__law_error (T : aD w K mg h base) : mg "_law_error" = some (.ref (ga K "_law_error")) := glo_ok T.kin T.ns (T.sy.fact 42)
theorem aD.glo__law_bad_name (T : aD w K mg h base) : mg "_law_bad_name" = some (.ref (ga K "_law_bad_name")) := glo_ok T.kin T.ns (T.sy.fact 43)
theorem aD.glo__law_is (T : aD w K mg h base) : mg "_law_is" = some (.ref (ga K "_law_is")) := glo_ok T.kin T.ns (T.sy.fact 44)
theorem aD.glo__law_names (T : aD w K mg h base) : mg "_law_names" = some (.ref (ga K "_law_names")) := glo_ok T.kin T.ns (T.sy.fact 45)
theorem aD.glo__law_pool (T : aD w K mg h base) : mg "_law_pool" = some (.ref (ga K "_law_pool")) := glo_ok T.kin T.ns (T.sy.fact 46)
theorem aD.glo_law (T : aD w K mg h base) : mg "law" = some (.ref (ga K "law")) := glo_ok T.kin T.ns (T.sy.fact 47)
theorem aD.free_super (T : aD w K mg h base) : mg "super" = none := free_ok T.kin T.ns (T.sy.fact 48)
theorem aD.err_21 (T : aD w K mg h base) : Fw PG w K mg base 1 21 := by
 refine Ys (d := dx30) (sto := [(0, ⟨8, 8, 8, 12⟩, ⟨8, 8, 8, 17⟩, ⟨8, 20, 8, 24⟩, ⟨8, 8, 8, 24⟩)]) (k := 0) T.sy 5 30 rfl rfl rfl rfl rfl (by decide +kernel) (by decide +kernel) (by decide +kernel) (by decide +kernel) T.free_super rfl rfl (by decide) (by decide) (by decide) Ah ?_
 intro nm qual body kV doc pm an cdv ct cc us hl
 exact match us, hl with | [_, _], _ => rfl
theorem aD.no_name (T : aD w K mg h base) : ∀ c ∈ [21, 22], PySem.W.findIn K (.ref (ga K (bA c))) "name" = some none := by
 intro c hc
 simp only [List.mem_cons, List.mem_nil_iff, or_false] at hc
 rcases hc with rfl | rfl
 ·exact noat_ok (T.sy.fact 227)
 ·exact noat_ok (T.sy.fact 228)
theorem aD.xf (T : aD w K mg h base) : ∀ c ∈ [21, 22], XfC K (ga K (bA c)) := by
 intro c hc
 simp only [List.mem_cons, List.mem_nil_iff, or_false] at hc
 rcases hc with rfl | rfl
 ·exact N6 (T.sy.fact 5)
 ·exact N6 (T.sy.fact 226)
theorem aD.xi (T : aD w K mg h base) : ∀ c ∈ [21, 22], Ad K (ga K (bA c)) := by
 intro c hc
 simp only [List.mem_cons, List.mem_nil_iff, or_false] at hc
 rcases hc with rfl | rfl
 ·exact N7 (T.sy.fact 5)
 ·exact N7 (T.sy.fact 226)
theorem aD.exk_BadKind (T : aD w K mg h base) : ∀ c ∈ [21, 22], PySem.W.kitOne K (.ref (ga K (bA c))) (.ref (ga K "BadKind")) = some (eX c 22) := by
 intro c hc
 simp only [List.mem_cons, List.mem_nil_iff, or_false] at hc
 rcases hc with rfl | rfl
 ·exact of_decide_eq_true (T.sy.fact 221)
 ·exact of_decide_eq_true (T.sy.fact 225)
theorem aD.exk_RedoError (T : aD w K mg h base) : ∀ c ∈ [21, 22], PySem.W.kitOne K (.ref (ga K (bA c))) (.ref (ga K "RedoError")) = some (eX c 20) := by
 intro c hc
 simp only [List.mem_cons, List.mem_nil_iff, or_false] at hc
 rcases hc with rfl | rfl
 ·exact of_decide_eq_true (T.sy.fact 219)
 ·exact of_decide_eq_true (T.sy.fact 223)
theorem aD.exk_ValueError (T : aD w K mg h base) : ∀ c ∈ [21, 22], PySem.W.kitOne K (.ref (ga K (bA c))) (.type "ValueError") = some true := by
 intro c hc
 simp only [List.mem_cons, List.mem_nil_iff, or_false] at hc
 rcases hc with rfl | rfl
 ·exact of_decide_eq_true (T.sy.fact 220)
 ·exact of_decide_eq_true (T.sy.fact 224)
theorem aD.isi_Renewed (T : aD w K mg h base) : ∀ t b, fG t = some b → PySem.W.kitOne (gOf K w).K (dU (gOf K w) t) (.ref (ga K "Renewed")) = some b := qI (tab := fG) (u := (.ref (ga K "Renewed"))) [0, 1, 2, 3, 4, 5] (fun c b e => by unfold fG at e; split at e <;> simp_all) ⟨fun _ e => by cases e; exact DN.kitB_ok (T.sy.fact 116), fun _ e => by cases e; exact DN.kitB_ok (T.sy.fact 117), fun _ e => by cases e; exact DN.kitB_ok (T.sy.fact 118), fun _ e => by cases e; exact DN.kitB_ok (T.sy.fact 119), fun _ e => by cases e; exact DN.kitB_ok (T.sy.fact 120), fun _ e => by cases e; exact DN.kitB_ok (T.sy.fact 121)⟩ (by
 intro c hc b e
 simp only [List.mem_cons, List.mem_nil_iff, or_false] at hc
 rcases hc with rfl | rfl | rfl | rfl | rfl | rfl
 ·cases e; exact DN.kitB_ok (T.sy.fact 122)
 ·cases e; exact DN.kitB_ok (T.sy.fact 123)
 ·cases e; exact DN.kitB_ok (T.sy.fact 124)
 ·cases e; exact DN.kitB_ok (T.sy.fact 125)
 ·cases e; exact DN.kitB_ok (T.sy.fact 126)
 ·cases e; exact DN.kitB_ok (T.sy.fact 127))
theorem aD.isc_Renewed (T : aD w K mg h base) : ∀ c b, fG (.ins c) = some b → lX (gOf K w).K ((gOf K w).cl c) := by
 intro c b e
 have hc : c ∈ ([0, 1, 2, 3, 4, 5] : List Nat) := by unfold fG at e; split at e <;> simp_all
 simp only [List.mem_cons, List.mem_nil_iff, or_false] at hc
 rcases hc with rfl | rfl | rfl | rfl | rfl | rfl
 ·exact bQ (T.sy.fact 212)
 ·exact bQ (T.sy.fact 213)
 ·exact bQ (T.sy.fact 214)
 ·exact bQ (T.sy.fact 215)
 ·exact bQ (T.sy.fact 216)
 ·exact bQ (T.sy.fact 217)
theorem aD.isi_Both (T : aD w K mg h base) : ∀ t b, fH t = some b → PySem.W.kitOne (gOf K w).K (dU (gOf K w) t) (.ref (ga K "Both")) = some b := qI (tab := fH) (u := (.ref (ga K "Both"))) [0, 1, 2, 3, 4, 5] (fun c b e => by unfold fH at e; split at e <;> simp_all) ⟨fun _ e => by cases e; exact DN.kitB_ok (T.sy.fact 128), fun _ e => by cases e; exact DN.kitB_ok (T.sy.fact 129), fun _ e => by cases e; exact DN.kitB_ok (T.sy.fact 130), fun _ e => by cases e; exact DN.kitB_ok (T.sy.fact 131), fun _ e => by cases e; exact DN.kitB_ok (T.sy.fact 132), fun _ e => by cases e; exact DN.kitB_ok (T.sy.fact 133)⟩ (by
 intro c hc b e
 simp only [List.mem_cons, List.mem_nil_iff, or_false] at hc
 rcases hc with rfl | rfl | rfl | rfl | rfl | rfl
 ·cases e; exact DN.kitB_ok (T.sy.fact 134)
 ·cases e; exact DN.kitB_ok (T.sy.fact 135)
 ·cases e; exact DN.kitB_ok (T.sy.fact 136)
 ·cases e; exact DN.kitB_ok (T.sy.fact 137)
 ·cases e; exact DN.kitB_ok (T.sy.fact 138)
 ·cases e; exact DN.kitB_ok (T.sy.fact 139))
theorem aD.isc_Both (T : aD w K mg h base) : ∀ c b, fH (.ins c) = some b → lX (gOf K w).K ((gOf K w).cl c) := by
 intro c b e
 have hc : c ∈ ([0, 1, 2, 3, 4, 5] : List Nat) := by unfold fH at e; split at e <;> simp_all
 simp only [List.mem_cons, List.mem_nil_iff, or_false] at hc
 rcases hc with rfl | rfl | rfl | rfl | rfl | rfl
 ·exact bQ (T.sy.fact 212)
 ·exact bQ (T.sy.fact 213)
 ·exact bQ (T.sy.fact 214)
 ·exact bQ (T.sy.fact 215)
 ·exact bQ (T.sy.fact 216)
 ·exact bQ (T.sy.fact 217)
theorem aD.isi_Fresh (T : aD w K mg h base) : ∀ t b, fJ t = some b → PySem.W.kitOne (gOf K w).K (dU (gOf K w) t) (.ref (ga K "Fresh")) = some b := qI (tab := fJ) (u := (.ref (ga K "Fresh"))) [0, 1, 2, 3, 4, 5] (fun c b e => by unfold fJ at e; split at e <;> simp_all) ⟨fun _ e => by cases e; exact DN.kitB_ok (T.sy.fact 140), fun _ e => by cases e; exact DN.kitB_ok (T.sy.fact 141), fun _ e => by cases e; exact DN.kitB_ok (T.sy.fact 142), fun _ e => by cases e; exact DN.kitB_ok (T.sy.fact 143), fun _ e => by cases e; exact DN.kitB_ok (T.sy.fact 144), fun _ e => by cases e; exact DN.kitB_ok (T.sy.fact 145)⟩ (by
 intro c hc b e
 simp only [List.mem_cons, List.mem_nil_iff, or_false] at hc
 rcases hc with rfl | rfl | rfl | rfl | rfl | rfl
 ·cases e; exact DN.kitB_ok (T.sy.fact 146)
 ·cases e; exact DN.kitB_ok (T.sy.fact 147)
 ·cases e; exact DN.kitB_ok (T.sy.fact 148)
 ·cases e; exact DN.kitB_ok (T.sy.fact 149)
 ·cases e; exact DN.kitB_ok (T.sy.fact 150)
 ·cases e; exact DN.kitB_ok (T.sy.fact 151))
theorem aD.isc_Fresh (T : aD w K mg h base) : ∀ c b, fJ (.ins c) = some b → lX (gOf K w).K ((gOf K w).cl c) := by
 intro c b e
 have hc : c ∈ ([0, 1, 2, 3, 4, 5] : List Nat) := by unfold fJ at e; split at e <;> simp_all
 simp only [List.mem_cons, List.mem_nil_iff, or_false] at hc
 rcases hc with rfl | rfl | rfl | rfl | rfl | rfl
 ·exact bQ (T.sy.fact 212)
 ·exact bQ (T.sy.fact 213)
 ·exact bQ (T.sy.fact 214)
 ·exact bQ (T.sy.fact 215)
 ·exact bQ (T.sy.fact 216)
 ·exact bQ (T.sy.fact 217)
theorem aD.isi_Made (T : aD w K mg h base) : ∀ t b, fK t = some b → PySem.W.kitOne (gOf K w).K (dU (gOf K w) t) (.ref (ga K "Made")) = some b := qI (tab := fK) (u := (.ref (ga K "Made"))) [0, 1, 2, 3, 4, 5] (fun c b e => by unfold fK at e; split at e <;> simp_all) ⟨fun _ e => by cases e; exact DN.kitB_ok (T.sy.fact 152), fun _ e => by cases e; exact DN.kitB_ok (T.sy.fact 153), fun _ e => by cases e; exact DN.kitB_ok (T.sy.fact 154), fun _ e => by cases e; exact DN.kitB_ok (T.sy.fact 155), fun _ e => by cases e; exact DN.kitB_ok (T.sy.fact 156), fun _ e => by cases e; exact DN.kitB_ok (T.sy.fact 157)⟩ (by
 intro c hc b e
 simp only [List.mem_cons, List.mem_nil_iff, or_false] at hc
 rcases hc with rfl | rfl | rfl | rfl | rfl | rfl
 ·cases e; exact DN.kitB_ok (T.sy.fact 158)
 ·cases e; exact DN.kitB_ok (T.sy.fact 159)
 ·cases e; exact DN.kitB_ok (T.sy.fact 160)
 ·cases e; exact DN.kitB_ok (T.sy.fact 161)
 ·cases e; exact DN.kitB_ok (T.sy.fact 162)
 ·cases e; exact DN.kitB_ok (T.sy.fact 163))
theorem aD.isc_Made (T : aD w K mg h base) : ∀ c b, fK (.ins c) = some b → lX (gOf K w).K ((gOf K w).cl c) := by
 intro c b e
 have hc : c ∈ ([0, 1, 2, 3, 4, 5] : List Nat) := by unfold fK at e; split at e <;> simp_all
 simp only [List.mem_cons, List.mem_nil_iff, or_false] at hc
 rcases hc with rfl | rfl | rfl | rfl | rfl | rfl
 ·exact bQ (T.sy.fact 212)
 ·exact bQ (T.sy.fact 213)
 ·exact bQ (T.sy.fact 214)
 ·exact bQ (T.sy.fact 215)
 ·exact bQ (T.sy.fact 216)
 ·exact bQ (T.sy.fact 217)
theorem aD.isi_Read (T : aD w K mg h base) : ∀ t b, fL t = some b → PySem.W.kitOne (gOf K w).K (dU (gOf K w) t) (.ref (ga K "Read")) = some b := qI (tab := fL) (u := (.ref (ga K "Read"))) [0, 1, 2, 3, 4, 5] (fun c b e => by unfold fL at e; split at e <;> simp_all) ⟨fun _ e => by cases e; exact DN.kitB_ok (T.sy.fact 164), fun _ e => by cases e; exact DN.kitB_ok (T.sy.fact 165), fun _ e => by cases e; exact DN.kitB_ok (T.sy.fact 166), fun _ e => by cases e; exact DN.kitB_ok (T.sy.fact 167), fun _ e => by cases e; exact DN.kitB_ok (T.sy.fact 168), fun _ e => by cases e; exact DN.kitB_ok (T.sy.fact 169)⟩ (by
 intro c hc b e
 simp only [List.mem_cons, List.mem_nil_iff, or_false] at hc
 rcases hc with rfl | rfl | rfl | rfl | rfl | rfl
 ·cases e; exact DN.kitB_ok (T.sy.fact 170)
 ·cases e; exact DN.kitB_ok (T.sy.fact 171)
 ·cases e; exact DN.kitB_ok (T.sy.fact 172)
 ·cases e; exact DN.kitB_ok (T.sy.fact 173)
 ·cases e; exact DN.kitB_ok (T.sy.fact 174)
 ·cases e; exact DN.kitB_ok (T.sy.fact 175))
theorem aD.isc_Read (T : aD w K mg h base) : ∀ c b, fL (.ins c) = some b → lX (gOf K w).K ((gOf K w).cl c) := by
 intro c b e
 have hc : c ∈ ([0, 1, 2, 3, 4, 5] : List Nat) := by unfold fL at e; split at e <;> simp_all
 simp only [List.mem_cons, List.mem_nil_iff, or_false] at hc
 rcases hc with rfl | rfl | rfl | rfl | rfl | rfl
 ·exact bQ (T.sy.fact 212)
 ·exact bQ (T.sy.fact 213)
 ·exact bQ (T.sy.fact 214)
 ·exact bQ (T.sy.fact 215)
 ·exact bQ (T.sy.fact 216)
 ·exact bQ (T.sy.fact 217)
theorem aD.isi_Role (T : aD w K mg h base) : ∀ t b, fM t = some b → PySem.W.kitOne (gOf K w).K (dU (gOf K w) t) (.ref (ga K "Role")) = some b := qI (tab := fM) (u := (.ref (ga K "Role"))) [0, 1, 2, 3, 4, 5] (fun c b e => by unfold fM at e; split at e <;> simp_all) ⟨fun _ e => by cases e; exact DN.kitB_ok (T.sy.fact 176), fun _ e => by cases e; exact DN.kitB_ok (T.sy.fact 177), fun _ e => by cases e; exact DN.kitB_ok (T.sy.fact 178), fun _ e => by cases e; exact DN.kitB_ok (T.sy.fact 179), fun _ e => by cases e; exact DN.kitB_ok (T.sy.fact 180), fun _ e => by cases e; exact DN.kitB_ok (T.sy.fact 181)⟩ (by
 intro c hc b e
 simp only [List.mem_cons, List.mem_nil_iff, or_false] at hc
 rcases hc with rfl | rfl | rfl | rfl | rfl | rfl
 ·cases e; exact DN.kitB_ok (T.sy.fact 182)
 ·cases e; exact DN.kitB_ok (T.sy.fact 183)
 ·cases e; exact DN.kitB_ok (T.sy.fact 184)
 ·cases e; exact DN.kitB_ok (T.sy.fact 185)
 ·cases e; exact DN.kitB_ok (T.sy.fact 186)
 ·cases e; exact DN.kitB_ok (T.sy.fact 187))
theorem aD.isc_Role (T : aD w K mg h base) : ∀ c b, fM (.ins c) = some b → lX (gOf K w).K ((gOf K w).cl c) := by
 intro c b e
 have hc : c ∈ ([0, 1, 2, 3, 4, 5] : List Nat) := by unfold fM at e; split at e <;> simp_all
 simp only [List.mem_cons, List.mem_nil_iff, or_false] at hc
 rcases hc with rfl | rfl | rfl | rfl | rfl | rfl
 ·exact bQ (T.sy.fact 212)
 ·exact bQ (T.sy.fact 213)
 ·exact bQ (T.sy.fact 214)
 ·exact bQ (T.sy.fact 215)
 ·exact bQ (T.sy.fact 216)
 ·exact bQ (T.sy.fact 217)
theorem aD.isi_bool (T : aD w K mg h base) : ∀ t b, fX t = some b → PySem.W.kitOne (gOf K w).K (dU (gOf K w) t) (.type "bool") = some b := qI (tab := fX) (u := (.type "bool")) [0, 1, 2, 3, 4, 5] (fun c b e => by unfold fX at e; split at e <;> simp_all) ⟨fun _ e => by cases e; exact DN.kitB_ok (T.sy.fact 188), fun _ e => by cases e; exact DN.kitB_ok (T.sy.fact 189), fun _ e => by cases e; exact DN.kitB_ok (T.sy.fact 190), fun _ e => by cases e; exact DN.kitB_ok (T.sy.fact 191), fun _ e => by cases e; exact DN.kitB_ok (T.sy.fact 192), fun _ e => by cases e; exact DN.kitB_ok (T.sy.fact 193)⟩ (by
 intro c hc b e
 simp only [List.mem_cons, List.mem_nil_iff, or_false] at hc
 rcases hc with rfl | rfl | rfl | rfl | rfl | rfl
 ·cases e; exact DN.kitB_ok (T.sy.fact 194)
 ·cases e; exact DN.kitB_ok (T.sy.fact 195)
 ·cases e; exact DN.kitB_ok (T.sy.fact 196)
 ·cases e; exact DN.kitB_ok (T.sy.fact 197)
 ·cases e; exact DN.kitB_ok (T.sy.fact 198)
 ·cases e; exact DN.kitB_ok (T.sy.fact 199))
theorem aD.isc_bool (T : aD w K mg h base) : ∀ c b, fX (.ins c) = some b → lX (gOf K w).K ((gOf K w).cl c) := by
 intro c b e
 have hc : c ∈ ([0, 1, 2, 3, 4, 5] : List Nat) := by unfold fX at e; split at e <;> simp_all
 simp only [List.mem_cons, List.mem_nil_iff, or_false] at hc
 rcases hc with rfl | rfl | rfl | rfl | rfl | rfl
 ·exact bQ (T.sy.fact 212)
 ·exact bQ (T.sy.fact 213)
 ·exact bQ (T.sy.fact 214)
 ·exact bQ (T.sy.fact 215)
 ·exact bQ (T.sy.fact 216)
 ·exact bQ (T.sy.fact 217)
theorem aD.isi_list (T : aD w K mg h base) : ∀ t b, fY t = some b → PySem.W.kitOne (gOf K w).K (dU (gOf K w) t) (.type "list") = some b := qI (tab := fY) (u := (.type "list")) [0, 1, 2, 3, 4, 5] (fun c b e => by unfold fY at e; split at e <;> simp_all) ⟨fun _ e => by cases e; exact DN.kitB_ok (T.sy.fact 200), fun _ e => by cases e; exact DN.kitB_ok (T.sy.fact 201), fun _ e => by cases e; exact DN.kitB_ok (T.sy.fact 202), fun _ e => by cases e; exact DN.kitB_ok (T.sy.fact 203), fun _ e => by cases e; exact DN.kitB_ok (T.sy.fact 204), fun _ e => by cases e; exact DN.kitB_ok (T.sy.fact 205)⟩ (by
 intro c hc b e
 simp only [List.mem_cons, List.mem_nil_iff, or_false] at hc
 rcases hc with rfl | rfl | rfl | rfl | rfl | rfl
 ·cases e; exact DN.kitB_ok (T.sy.fact 206)
 ·cases e; exact DN.kitB_ok (T.sy.fact 207)
 ·cases e; exact DN.kitB_ok (T.sy.fact 208)
 ·cases e; exact DN.kitB_ok (T.sy.fact 209)
 ·cases e; exact DN.kitB_ok (T.sy.fact 210)
 ·cases e; exact DN.kitB_ok (T.sy.fact 211))
theorem aD.isc_list (T : aD w K mg h base) : ∀ c b, fY (.ins c) = some b → lX (gOf K w).K ((gOf K w).cl c) := by
 intro c b e
 have hc : c ∈ ([0, 1, 2, 3, 4, 5] : List Nat) := by unfold fY at e; split at e <;> simp_all
 simp only [List.mem_cons, List.mem_nil_iff, or_false] at hc
 rcases hc with rfl | rfl | rfl | rfl | rfl | rfl
 ·exact bQ (T.sy.fact 212)
 ·exact bQ (T.sy.fact 213)
 ·exact bQ (T.sy.fact 214)
 ·exact bQ (T.sy.fact 215)
 ·exact bQ (T.sy.fact 216)
 ·exact bQ (T.sy.fact 217)
theorem aD.con_MARK (T : aD w K mg h base) : ∀ c p, Ir c = some p → (∃ v u, Con (gOf K w).K ((gOf K w).cl c) "MARK" v u ∧ ∀ F, Is (gOf K w) F v p) ∧ ∀ i ∈ aN c, aK i ≠ "MARK" := by
 intro c p e
 have hc : c ∈ ([0, 1, 2, 3, 4, 5] : List Nat) := by unfold Ir at e; split at e <;> simp_all
 simp only [List.mem_cons, List.mem_nil_iff, or_false] at hc
 rcases hc with rfl | rfl | rfl | rfl | rfl | rfl
 ·cases e; exact ⟨conB_ok (T.sy.fact 59), by decide⟩
 ·cases e; exact ⟨conB_ok (T.sy.fact 60), by decide⟩
 ·cases e; exact ⟨conB_ok (T.sy.fact 61), by decide⟩
 ·cases e; exact ⟨conB_ok (T.sy.fact 62), by decide⟩
 ·cases e; exact ⟨conB_ok (T.sy.fact 63), by decide⟩
 ·cases e; exact ⟨conB_ok (T.sy.fact 64), by decide⟩
end
theorem aB7 : ∀ z ∈ sX, ∀ a dx c fs τ L, gJ z a dx c fs τ L = gJ z 0 0 c fs τ L := by
 intro z hz a dx c fs τ L
 unfold sX at hz
 simp only [List.mem_cons, List.mem_nil_iff, or_false] at hz
 subst hz
 all_goals first
  | rfl
  | (
    refine aBk rfl (fun c fs => ?_) a dx c fs τ L
    dsimp only
    repeat' first
     | exact aBf
     | exact aBU
     | exact aBN
     | exact aBO
     | exact aBP
     | exact aBM (by decide)
     | refine aBX ?_ ?_
     | refine aBi ?_ ?_
     | refine aBh ?_
     | refine aBg ?_ ?_ ?_
     | refine aBb (by decide) ?_
     | refine aBe ?_
     | refine aBd ?_
     | refine aBY ?_ ?_
     | refine aBW ?_ ?_
     | refine aBZ ?_
     | refine aBV ?_
     | refine aBS ?_
     | refine aBT ?_ ?_
     | refine aBR ?_
     | refine aBQ ?_ ?_
     | refine aBa ?_ ?_)
section
variable {w : World} {K : PySem.W.Frag} {mg : Str → Option Value} {h base : Heap}
theorem Ss : FnScope [("text" : Str), ("letter" : Str)] [("text" : Str)] (defScope s_check_name) := ⟨rfl, rfl, rfl, by decide +kernel, rfl, by decide +kernel, by decide +kernel⟩
theorem aD.ok_check_name (T : aD w K mg h base) : FnD PG w K mg base (gOf K w) (fAd K dx0.at_) 3 1 Dh := by
 obtain ⟨fd, q⟩ := T.sy.def_ 0 (d := dx0) (ps := [("text" : Str)]) rfl rfl fun _ _ _ _ _ _ us hl => match us, hl with | [_], _ => rfl
 refine ⟨⟨fd, [("text" : Str)], cW false (fn_ok (k := 2) q.F Ss rfl rfl fun cdv A outer s0 H E hr tk po => ?_), q.B⟩, q.F.kp⟩
 have scN := (Ss).nd
 have hu := cX hr
 have hu4 := cY hr
 exact (bH (dD (PW.pt (tX (rH (V2 op_le op_le rF rF aQ (rK call_len (wH rfl) rfl (T.free_len) xG (D1 (VR 0))) (Y0 rfl (T.int_LONGEST_NAME)))) (wA (mY (rK (cr_any rfl) (Wk rfl) rfl (T.free_any) Yu (D1 (Fd (own := [("letter", 1)]) (mu := false) rfl scN (Es rfl (VR 0)) (blkOk_by rfl) (fun _ _ _ _ _ => (PN 1 scN)) (Ez 1 (by decide)) (fun sB HB CB clB fpB => Fb) (fun sB HB CB clB fpB => (Ye rfl rfl hu rfl (VR 1) (Yz rfl (T.str_LETTERS))))))))))) (bH (Y4 (T.err_21) rfl rfl tk (hr.mono (by decide)) rfl T.glo_BadName (D1 (VR 0)))) dB))
theorem Sv : FnScope [("self" : Str), ("name" : Str), ("group" : Str)] [("self" : Str), ("name" : Str), ("group" : Str)] (defScope s_Role_zinitz) := ⟨rfl, rfl, rfl, by decide +kernel, rfl, by decide +kernel, by decide +kernel⟩
theorem aD.ok_Role_zinitz (T : aD w K mg h base) : FnD PG w K mg base (gOf K w) (fAd K dx1.at_) 5 3 jJ := by
 obtain ⟨fd, q⟩ := T.sy.def_ 1 (d := dx1) (ps := [("self" : Str), ("name" : Str), ("group" : Str)]) rfl rfl fun _ _ _ _ _ _ us hl => match us, hl with | [_, _, _], _ => rfl
 refine ⟨⟨fd, [("self" : Str), ("name" : Str), ("group" : Str)], (fn_ok (k := 4) q.F Sv rfl rfl fun cdv A outer s0 H E hr tk po => ?_), q.B⟩, q.F.kp⟩
 have scN := (Sv).nd
 have hu := cX hr
 have hu4 := cY hr
 exact (aY (pQ (cG (T.ok_check_name) (hr.mono (by decide)) rfl T.glo_check_name tk (D1 (VR 1)))) (aY (pQ (cG (T.ok_check_name) (hr.mono (by decide)) rfl T.glo_check_name tk (D1 (VR 2)))) (aY (Mw 0 rfl rfl (VR 0) (VR 1)) (bJ [1] (bH (Mw 1 rfl rfl (VR 0) (VR 2)))))))
theorem Sw : FnScope [("_law_name" : Str), ("_law_group" : Str), ("_law_mode" : Str)] [("_law_name" : Str), ("_law_group" : Str), ("_law_mode" : Str)] (defScope s_q_role) := ⟨rfl, rfl, rfl, by decide +kernel, rfl, by decide +kernel, by decide +kernel⟩
theorem aD.ok_q_role (T : aD w K mg h base) : FnD PG w K mg base (gOf K w) (fAd K dx2.at_) 7 3 Iw := by
 obtain ⟨fd, q⟩ := T.sy.def_ 2 (d := dx2) (ps := [("_law_name" : Str), ("_law_group" : Str), ("_law_mode" : Str)]) rfl rfl fun _ _ _ _ _ _ us hl => match us, hl with | [_, _, _], _ => rfl
 refine ⟨⟨fd, [("_law_name" : Str), ("_law_group" : Str), ("_law_mode" : Str)], cW false (fn_ok (k := 6) q.F Sw rfl rfl fun cdv A outer s0 H E hr tk po => ?_), q.B⟩, q.F.kp⟩
 have scN := (Sw).nd
 have hu := cX hr
 have hu4 := cY hr
 exact (aY (dD (lM rfl hu4 (VR 2) aQ) (bJ [2] (bH (bU (qH (frz := true) rfl T.cls_1 T.mkr_Read (T.ok_Role_zinitz) (hr.mono (by decide)) rfl T.glo_Read tk (aU (VR 0) (D1 (VR 1))))))) dB) (aY (dD (lM rfl hu4 (VR 2) aQ) (bJ [2] (bH (bU (qH (frz := true) rfl T.cls_2 T.mkr_Made (T.ok_Role_zinitz) (hr.mono (by decide)) rfl T.glo_Made tk (aU (VR 0) (D1 (VR 1))))))) dB) (aY (dD (lM rfl hu4 (VR 2) aQ) (bJ [2] (bH (bU (qH (frz := true) rfl T.cls_3 T.mkr_Fresh (T.ok_Role_zinitz) (hr.mono (by decide)) rfl T.glo_Fresh tk (aU (VR 0) (D1 (VR 1))))))) dB) (aY (dD (lM rfl hu4 (VR 2) aQ) (bJ [2] (bH (bU (qH (frz := true) rfl T.cls_4 T.mkr_Both (T.ok_Role_zinitz) (hr.mono (by decide)) rfl T.glo_Both tk (aU (VR 0) (D1 (VR 1))))))) dB) (bJ [2] (bH (bU (qH (frz := true) rfl T.cls_5 T.mkr_Renewed (T.ok_Role_zinitz) (hr.mono (by decide)) rfl T.glo_Renewed tk (aU (VR 0) (D1 (VR 1)))))))))))
theorem Sy : FnScope [("_law_name" : Str), ("_law_group" : Str), ("_law_mode" : Str)] [("_law_name" : Str), ("_law_group" : Str), ("_law_mode" : Str)] (defScope s_q_any_role) := ⟨rfl, rfl, rfl, by decide +kernel, rfl, by decide +kernel, by decide +kernel⟩
theorem aD.ok_q_any_role (T : aD w K mg h base) : FnD PG w K mg base (gOf K w) (fAd K dx3.at_) 9 3 Di := by
 obtain ⟨fd, q⟩ := T.sy.def_ 3 (d := dx3) (ps := [("_law_name" : Str), ("_law_group" : Str), ("_law_mode" : Str)]) rfl rfl fun _ _ _ _ _ _ us hl => match us, hl with | [_, _, _], _ => rfl
 refine ⟨⟨fd, [("_law_name" : Str), ("_law_group" : Str), ("_law_mode" : Str)], cW false (fn_ok (k := 8) q.F Sy rfl rfl fun cdv A outer s0 H E hr tk po => ?_), q.B⟩, q.F.kp⟩
 have scN := (Sy).nd
 have hu := cX hr
 have hu4 := cY hr
 exact (aY (dD (lM rfl hu4 (VR 2) aQ) (bJ [2] (bH (bU (qH (frz := true) rfl T.cls_0 T.mkr_Role (T.ok_Role_zinitz) (hr.mono (by decide)) rfl T.glo_Role tk (aU (VR 0) (D1 (VR 1))))))) dB) (bH (bU (cG (T.ok_q_role) (hr.mono (by decide)) rfl T.glo__law_role tk (aU (VR 0) (aU (VR 1) (D1 (VR 2))))))))
theorem aD.exm_q_error0 (T : aD w K mg h base) : ∀ c ∈ Ja, ∀ z ∈ sX, PySem.W.exmOne K (.ref ((gOf K w).cl c)) (.ref ((gOf K w).cl z.c)) = some (eX c z.c) := by
 intro c hc z hz
 unfold Ja at hc
 unfold sX at hz
 simp only [List.mem_cons, List.mem_nil_iff, or_false] at hc hz
 rcases hc with rfl | rfl <;>
 subst hz <;>
 first
 | exact of_decide_eq_true (T.sy.fact 218)
 | exact of_decide_eq_true (T.sy.fact 222)
theorem S7 : FnScope [("_law_name" : Str), ("_law_group" : Str), ("_law_mode" : Str), ("e" : Str)] [("_law_name" : Str), ("_law_group" : Str), ("_law_mode" : Str)] (defScope s_q_error) := ⟨rfl, rfl, rfl, by decide +kernel, rfl, by decide +kernel, by decide +kernel⟩
theorem aD.ok_q_error (T : aD w K mg h base) : FnD PG w K mg base (gOf K w) (fAd K dx4.at_) 11 3 yP := by
 obtain ⟨fd, q⟩ := T.sy.def_ 4 (d := dx4) (ps := [("_law_name" : Str), ("_law_group" : Str), ("_law_mode" : Str)]) rfl rfl fun _ _ _ _ _ _ us hl => match us, hl with | [_, _, _], _ => rfl
 refine ⟨⟨fd, [("_law_name" : Str), ("_law_group" : Str), ("_law_mode" : Str)], cW false (fn_ok (k := 10) q.F S7 rfl rfl fun cdv A outer s0 H E hr tk po => ?_), q.B⟩, q.F.kp⟩
 have scN := (S7).nd
 have hu := cX hr
 have hu4 := cY hr
 exact (aY (Xr rfl rfl scN tk (fun pn xe W tk po => (bH (pQ (cG (T.ok_q_any_role) (hr.mono (by decide)) rfl T.glo__law_any_role tk (aU (VR 0) (aU (VR 1) (D1 (VR 2)))))))) (.named (i := 3) rfl rfl rfl ⟨rfl, rfl, .inl T.glo_BadName⟩ (fun a oe dx c pn hc hz hf => (bJ [0, 1, 2] (bH (dD (PW.pt (zH (mY (Fg (T.xi c hc) hz hf rfl (by trivial) (.own _) (T.exk_RedoError c hc) (by exact pe_glob rfl T.glo_RedoError rfl) (by exact rfl) (T.free_isinstance) lY)) (zH (mY (Fg (T.xi c hc) hz hf rfl (by trivial) (.ty _) (T.exk_ValueError c hc) (by exact pe_bltn rfl T.free_ValueError Yx rfl) (by exact rfl) (T.free_isinstance) lY)) (Em (rH (mY (Fg (T.xi c hc) hz hf rfl (by trivial) (.own _) (T.exk_BadKind c hc) (by exact pe_glob rfl T.glo_BadKind rfl) (by exact rfl) (T.free_isinstance) lY))))))) (bH (bU (wG (D1 (Xv 0 rfl (T.xf c hc) (T.no_name c hc) N5 hz hf rfl (by trivial)))))) dB)))) .nil) (T.exm_q_error0) aB7) (bJ [0, 1, 2] (bH (bU (wG wC)))))
theorem S8 : FnScope [("_law_pool_here" : Str), ("_law_many" : Str), ("_law_digit" : Str)] [("_law_pool_here" : Str), ("_law_many" : Str)] (defScope s_q_draw) := ⟨rfl, rfl, rfl, by decide +kernel, rfl, by decide +kernel, by decide +kernel⟩
theorem aD.ok_q_draw (T : aD w K mg h base) : FnD PG w K mg base (gOf K w) (fAd K dx5.at_) 2 2 eU := by
 obtain ⟨fd, q⟩ := T.sy.def_ 5 (d := dx5) (ps := [("_law_pool_here" : Str), ("_law_many" : Str)]) rfl rfl fun _ _ _ _ _ _ us hl => match us, hl with | [_, _], _ => rfl
 refine ⟨⟨fd, [("_law_pool_here" : Str), ("_law_many" : Str)], cW false (fn_ok (k := 1) q.F S8 rfl rfl fun cdv A outer s0 H E hr tk po => ?_), q.B⟩, q.F.kp⟩
 have scN := (S8).nd
 have hu := cX hr
 have hu4 := cY hr
 exact (aY (dD (PW.pt (zH (Le (IX hu (VR 0) aQ) aQ) (Em (Le (IX hu (VR 0) aQ) aQ)))) (aY (ST 2 scN (pO (pU call_int1 pW rfl (T.free_int) qG (D1 (IX hu (VR 0) aQ))) (VR 1))) (aY (Ft rfl rfl hu (VR 0) aQ (Vm (IX hu (VR 0) aQ) (VR 1))) (bJ [1] (aY (Ft rfl rfl hu (VR 0) aQ (Vj (IX hu (VR 0) aQ) aQ)) (bJ [0] (bH (bU (VR 2)))))))) dB) (bJ [2] (aY (Ft rfl rfl hu (VR 0) aQ (pO (pU call_int1 pW rfl (T.free_int) qG (D1 (dO rfl (tU (IX hu (VR 0) aQ) aQ) aQ))) aQ)) (bH (bU (pO (pU call_int1 pW rfl (T.free_int) qG (D1 (IX hu (VR 0) aQ))) (VR 1)))))))
theorem S9 : FnScope [("_law_pool_here" : Str), ("_law_name" : Str), ("_law_odd" : Str), ("_law_at" : Str), ("_law_sign" : Str), ("_law_spoilt" : Str), ("_law_texts" : Str)] [("_law_pool_here" : Str), ("_law_name" : Str)] (defScope s_q_bad_name) := ⟨rfl, rfl, rfl, by decide +kernel, rfl, by decide +kernel, by decide +kernel⟩
theorem aD.ok_q_bad_name (T : aD w K mg h base) : FnD PG w K mg base (gOf K w) (fAd K dx6.at_) 4 2 yQ := by
 obtain ⟨fd, q⟩ := T.sy.def_ 6 (d := dx6) (ps := [("_law_pool_here" : Str), ("_law_name" : Str)]) rfl rfl fun _ _ _ _ _ _ us hl => match us, hl with | [_, _], _ => rfl
 refine ⟨⟨fd, [("_law_pool_here" : Str), ("_law_name" : Str)], cW false (fn_ok (k := 3) q.F S9 rfl rfl fun cdv A outer s0 H E hr tk po => ?_), q.B⟩, q.F.kp⟩
 have scN := (S9).nd
 have hu := cX hr
 have hu4 := cY hr
 exact (aY (ST 2 scN fO) (aY (ST 3 scN (cG (T.ok_q_draw) (hr.mono (by decide)) rfl T.glo__law_draw tk (aU (VR 0) (D1 (rK call_len (wH rfl) rfl (T.free_len) xG (D1 (VR 1))))))) (aY (ST 4 scN (IX hu (VR 2) (cG (T.ok_q_draw) (hr.mono (by decide)) rfl T.glo__law_draw tk (aU (VR 0) (D1 (rK call_len (wH rfl) rfl (T.free_len) xG (D1 (VR 2)))))))) (bJ [2] (aY (ST 5 scN (dO rfl (dO rfl (nD rfl (VR 1) pP (kZ (VR 3))) (VR 4)) (nD rfl (VR 1) (kZ (dO rfl (VR 3) aQ)) pP))) (bJ [3, 4] (aY (ST 6 scN (jO (aU fO (aU fO (aU (VR 5) (aU (VR 5) (D1 (Wm rfl PySem.F.plainAttrs_str PySem.F.slot_str_upper PySem.F.type_str_upper mt_upper Mf Zy (VR 1))))))))) (bJ [5] (aY (ST 6 scN (dO rfl (VR 6) (jO (aU (nD rfl (Ou (VR 1) aQ) pP (kZ aQ)) (D1 (nD rfl (Ou (VR 1) aQ) pP (kZ aQ))))))) (aY (ST 6 scN (dO rfl (VR 6) (jO (aU (dO rfl fO (nD rfl (VR 1) pP (kZ aQ))) (D1 (dO rfl (nD rfl (VR 1) pP (kZ aQ)) fO)))))) (bJ [1] (bH (bU (IX hu (VR 6) (cG (T.ok_q_draw) (hr.mono (by decide)) rfl T.glo__law_draw tk (aU (VR 0) (D1 (rK call_len (wH rfl) rfl (T.free_len) xG (D1 (VR 6))))))))))))))))))))
theorem Tc : FnScope [("_law_role_here" : Str), ("_law_found" : Str)] [("_law_role_here" : Str)] (defScope s_q_classes) := ⟨rfl, rfl, rfl, by decide +kernel, rfl, by decide +kernel, by decide +kernel⟩
theorem aD.ok_q_classes (T : aD w K mg h base) : FnD PG w K mg base (gOf K w) (fAd K dx7.at_) 2 1 Je := by
 obtain ⟨fd, q⟩ := T.sy.def_ 7 (d := dx7) (ps := [("_law_role_here" : Str)]) rfl rfl fun _ _ _ _ _ _ us hl => match us, hl with | [_], _ => rfl
 refine ⟨⟨fd, [("_law_role_here" : Str)], cW false (fn_ok (k := 1) q.F Tc rfl rfl fun cdv A outer s0 H E hr tk po => ?_), q.B⟩, q.F.kp⟩
 have scN := (Tc).nd
 have hu := cX hr
 have hu4 := cY hr
 exact (aY (ST 1 scN (jO (aU (qF rfl T.isi_Role T.isc_Role (.own _) (VR 0) (by exact pe_glob rfl T.glo_Role rfl) (by rfl) (T.free_isinstance) lY) (aU (qF rfl T.isi_Read T.isc_Read (.own _) (VR 0) (by exact pe_glob rfl T.glo_Read rfl) (by rfl) (T.free_isinstance) lY) (D1 (qF rfl T.isi_Made T.isc_Made (.own _) (VR 0) (by exact pe_glob rfl T.glo_Made rfl) (by rfl) (T.free_isinstance) lY)))))) (bH (bU (dO rfl (VR 1) (jO (aU (qF rfl T.isi_Fresh T.isc_Fresh (.own _) (VR 0) (by exact pe_glob rfl T.glo_Fresh rfl) (by rfl) (T.free_isinstance) lY) (aU (qF rfl T.isi_Both T.isc_Both (.own _) (VR 0) (by exact pe_glob rfl T.glo_Both rfl) (by rfl) (T.free_isinstance) lY) (D1 (qF rfl T.isi_Renewed T.isc_Renewed (.own _) (VR 0) (by exact pe_glob rfl T.glo_Renewed rfl) (by rfl) (T.free_isinstance) lY)))))))))
theorem Td : FnScope [("self" : Str)] [("self" : Str)] (defScope s_Role_derived) := ⟨rfl, rfl, rfl, by decide +kernel, rfl, by decide +kernel, by decide +kernel⟩
theorem aD.ok_Role_derived (T : aD w K mg h base) : FnD PG w K mg base (gOf K w) (fAd K dx8.at_) 2 1 oE := by
 obtain ⟨fd, q⟩ := T.sy.def_ 8 (d := dx8) (ps := [("self" : Str)]) rfl rfl fun _ _ _ _ _ _ us hl => match us, hl with | [_], _ => rfl
 refine ⟨⟨fd, [("self" : Str)], cW false (fn_ok (k := 1) q.F Td rfl rfl fun cdv A outer s0 H E hr tk po => ?_), q.B⟩, q.F.kp⟩
 have scN := (Td).nd
 have hu := cX hr
 have hu4 := cY hr
 exact (bJ [0] (bH (bU eZ)))
theorem Tf : FnScope [("self" : Str)] [("self" : Str)] (defScope s_Made_derived) := ⟨rfl, rfl, rfl, by decide +kernel, rfl, by decide +kernel, by decide +kernel⟩
theorem aD.ok_Made_derived (T : aD w K mg h base) : FnD PG w K mg base (gOf K w) (fAd K dx9.at_) 2 1 vJ := by
 obtain ⟨fd, q⟩ := T.sy.def_ 9 (d := dx9) (ps := [("self" : Str)]) rfl rfl fun _ _ _ _ _ _ us hl => match us, hl with | [_], _ => rfl
 refine ⟨⟨fd, [("self" : Str)], cW false (fn_ok (k := 1) q.F Tf rfl rfl fun cdv A outer s0 H E hr tk po => ?_), q.B⟩, q.F.kp⟩
 have scN := (Tf).nd
 have hu := cX hr
 have hu4 := cY hr
 exact (bJ [0] (bH (bU eZ)))
theorem aD.mt_derived (T : aD w K mg h base) : ∀ c fn, mH c = some fn → pY PG w K mg base (gOf K w) "derived" 2 c 1 fn := by
 intro c fn e
 have hc : c ∈ ([0, 1, 2, 3, 4, 5] : List Nat) := by unfold mH at e; split at e <;> simp_all
 simp only [List.mem_cons, List.mem_nil_iff, or_false] at hc
 rcases hc with rfl | rfl | rfl | rfl | rfl | rfl
 ·cases e; exact cP (meth_ok (T.sy.fact 86)) (T.ok_Role_derived) (by decide) (by decide)
 ·cases e; exact cP (iH (meth_ok (T.sy.fact 87)) (T.sy.fact 70)) (T.ok_Role_derived) (by decide) (by decide)
 ·cases e; exact cP (meth_ok (T.sy.fact 88)) (T.ok_Made_derived) (by decide) (by decide)
 ·cases e; exact cP (iH (meth_ok (T.sy.fact 89)) (T.sy.fact 71)) (T.ok_Role_derived) (by decide) (by decide)
 ·cases e; exact cP (iH (meth_ok (T.sy.fact 90)) (T.sy.fact 72)) (T.ok_Made_derived) (by decide) (by decide)
 ·cases e; exact cP (iH (meth_ok (T.sy.fact 91)) (T.sy.fact 73)) (T.ok_Role_derived) (by decide) (by decide)
theorem aD.ms_derived (T : aD w K mg h base) : ∃ c fn, mH c = some fn := ⟨0, _, rfl⟩
theorem Tj : FnScope [("self" : Str)] [("self" : Str)] (defScope s_Role_makes) := ⟨rfl, rfl, rfl, by decide +kernel, rfl, by decide +kernel, by decide +kernel⟩
theorem aD.ok_Role_makes (T : aD w K mg h base) : FnD PG w K mg base (gOf K w) (fAd K dx10.at_) 2 1 vK := by
 obtain ⟨fd, q⟩ := T.sy.def_ 10 (d := dx10) (ps := [("self" : Str)]) rfl rfl fun _ _ _ _ _ _ us hl => match us, hl with | [_], _ => rfl
 refine ⟨⟨fd, [("self" : Str)], cW false (fn_ok (k := 1) q.F Tj rfl rfl fun cdv A outer s0 H E hr tk po => ?_), q.B⟩, q.F.kp⟩
 have scN := (Tj).nd
 have hu := cX hr
 have hu4 := cY hr
 exact (bJ [0] (bH (bU eZ)))
theorem Tn : FnScope [("self" : Str)] [("self" : Str)] (defScope s_Made_makes) := ⟨rfl, rfl, rfl, by decide +kernel, rfl, by decide +kernel, by decide +kernel⟩
theorem aD.ok_Made_makes (T : aD w K mg h base) : FnD PG w K mg base (gOf K w) (fAd K dx11.at_) 2 1 vL := by
 obtain ⟨fd, q⟩ := T.sy.def_ 11 (d := dx11) (ps := [("self" : Str)]) rfl rfl fun _ _ _ _ _ _ us hl => match us, hl with | [_], _ => rfl
 refine ⟨⟨fd, [("self" : Str)], cW false (fn_ok (k := 1) q.F Tn rfl rfl fun cdv A outer s0 H E hr tk po => ?_), q.B⟩, q.F.kp⟩
 have scN := (Tn).nd
 have hu := cX hr
 have hu4 := cY hr
 exact (bJ [0] (bH (bU eZ)))
theorem Tp : FnScope [("self" : Str)] [("self" : Str)] (defScope s_Fresh_makes) := ⟨rfl, rfl, rfl, by decide +kernel, rfl, by decide +kernel, by decide +kernel⟩
theorem aD.ok_Fresh_makes (T : aD w K mg h base) : FnD PG w K mg base (gOf K w) (fAd K dx12.at_) 2 1 vM := by
 obtain ⟨fd, q⟩ := T.sy.def_ 12 (d := dx12) (ps := [("self" : Str)]) rfl rfl fun _ _ _ _ _ _ us hl => match us, hl with | [_], _ => rfl
 refine ⟨⟨fd, [("self" : Str)], cW false (fn_ok (k := 1) q.F Tp rfl rfl fun cdv A outer s0 H E hr tk po => ?_), q.B⟩, q.F.kp⟩
 have scN := (Tp).nd
 have hu := cX hr
 have hu4 := cY hr
 exact (bJ [0] (bH (bU eZ)))
theorem aD.mt_makes (T : aD w K mg h base) : ∀ c fn, mJ c = some fn → pY PG w K mg base (gOf K w) "makes" 2 c 1 fn := by
 intro c fn e
 have hc : c ∈ ([0, 1, 2, 3, 4, 5] : List Nat) := by unfold mJ at e; split at e <;> simp_all
 simp only [List.mem_cons, List.mem_nil_iff, or_false] at hc
 rcases hc with rfl | rfl | rfl | rfl | rfl | rfl
 ·cases e; exact cP (meth_ok (T.sy.fact 92)) (T.ok_Role_makes) (by decide) (by decide)
 ·cases e; exact cP (iH (meth_ok (T.sy.fact 93)) (T.sy.fact 74)) (T.ok_Role_makes) (by decide) (by decide)
 ·cases e; exact cP (meth_ok (T.sy.fact 94)) (T.ok_Made_makes) (by decide) (by decide)
 ·cases e; exact cP (meth_ok (T.sy.fact 95)) (T.ok_Fresh_makes) (by decide) (by decide)
 ·cases e; exact cP (iH (meth_ok (T.sy.fact 96)) (T.sy.fact 75)) (T.ok_Made_makes) (by decide) (by decide)
 ·cases e; exact cP (iH (meth_ok (T.sy.fact 97)) (T.sy.fact 76)) (T.ok_Fresh_makes) (by decide) (by decide)
theorem aD.ms_makes (T : aD w K mg h base) : ∃ c fn, mJ c = some fn := ⟨0, _, rfl⟩
theorem Tq : FnScope [("self" : Str)] [("self" : Str)] (defScope s_Role_reads) := ⟨rfl, rfl, rfl, by decide +kernel, rfl, by decide +kernel, by decide +kernel⟩
theorem aD.ok_Role_reads (T : aD w K mg h base) : FnD PG w K mg base (gOf K w) (fAd K dx13.at_) 2 1 qT := by
 obtain ⟨fd, q⟩ := T.sy.def_ 13 (d := dx13) (ps := [("self" : Str)]) rfl rfl fun _ _ _ _ _ _ us hl => match us, hl with | [_], _ => rfl
 refine ⟨⟨fd, [("self" : Str)], cW false (fn_ok (k := 1) q.F Tq rfl rfl fun cdv A outer s0 H E hr tk po => ?_), q.B⟩, q.F.kp⟩
 have scN := (Tq).nd
 have hu := cX hr
 have hu4 := cY hr
 exact (bJ [0] (bH (bU eZ)))
theorem Tt : FnScope [("self" : Str)] [("self" : Str)] (defScope s_Read_reads) := ⟨rfl, rfl, rfl, by decide +kernel, rfl, by decide +kernel, by decide +kernel⟩
theorem aD.ok_Read_reads (T : aD w K mg h base) : FnD PG w K mg base (gOf K w) (fAd K dx14.at_) 2 1 qU := by
 obtain ⟨fd, q⟩ := T.sy.def_ 14 (d := dx14) (ps := [("self" : Str)]) rfl rfl fun _ _ _ _ _ _ us hl => match us, hl with | [_], _ => rfl
 refine ⟨⟨fd, [("self" : Str)], cW false (fn_ok (k := 1) q.F Tt rfl rfl fun cdv A outer s0 H E hr tk po => ?_), q.B⟩, q.F.kp⟩
 have scN := (Tt).nd
 have hu := cX hr
 have hu4 := cY hr
 exact (bJ [0] (bH (bU eZ)))
theorem aD.mt_reads (T : aD w K mg h base) : ∀ c fn, mK c = some fn → pY PG w K mg base (gOf K w) "reads" 2 c 1 fn := by
 intro c fn e
 have hc : c ∈ ([0, 1, 2, 3, 4, 5] : List Nat) := by unfold mK at e; split at e <;> simp_all
 simp only [List.mem_cons, List.mem_nil_iff, or_false] at hc
 rcases hc with rfl | rfl | rfl | rfl | rfl | rfl
 ·cases e; exact cP (meth_ok (T.sy.fact 98)) (T.ok_Role_reads) (by decide) (by decide)
 ·cases e; exact cP (meth_ok (T.sy.fact 99)) (T.ok_Read_reads) (by decide) (by decide)
 ·cases e; exact cP (iH (meth_ok (T.sy.fact 100)) (T.sy.fact 77)) (T.ok_Role_reads) (by decide) (by decide)
 ·cases e; exact cP (iH (meth_ok (T.sy.fact 101)) (T.sy.fact 78)) (T.ok_Role_reads) (by decide) (by decide)
 ·cases e; exact cP (iH (meth_ok (T.sy.fact 102)) (T.sy.fact 79)) (T.ok_Read_reads) (by decide) (by decide)
 ·cases e; exact cP (iH (meth_ok (T.sy.fact 103)) (T.sy.fact 80)) (T.ok_Read_reads) (by decide) (by decide)
theorem aD.ms_reads (T : aD w K mg h base) : ∃ c fn, mK c = some fn := ⟨0, _, rfl⟩
theorem Tv : FnScope [("_law_role_here" : Str), ("_law_flags_here" : Str), ("_law_flag" : Str)] [("_law_role_here" : Str)] (defScope s_q_flags) := ⟨rfl, rfl, rfl, by decide +kernel, rfl, by decide +kernel, by decide +kernel⟩
theorem aD.ok_q_flags (T : aD w K mg h base) : FnD PG w K mg base (gOf K w) (fAd K dx15.at_) 4 1 Jo := by
 obtain ⟨fd, q⟩ := T.sy.def_ 15 (d := dx15) (ps := [("_law_role_here" : Str)]) rfl rfl fun _ _ _ _ _ _ us hl => match us, hl with | [_], _ => rfl
 refine ⟨⟨fd, [("_law_role_here" : Str)], cW false (fn_ok (k := 3) q.F Tv rfl rfl fun cdv A outer s0 H E hr tk po => ?_), q.B⟩, q.F.kp⟩
 have scN := (Tv).nd
 have hu := cX hr
 have hu4 := cY hr
 exact (aY (ST 1 scN (jO (aU (uF rfl T.mt_reads T.ms_reads (hr.mono (by decide)) tk (VR 0)) (aU (uF rfl T.mt_makes T.ms_makes (hr.mono (by decide)) tk (VR 0)) (D1 (uF rfl T.mt_derived T.ms_derived (hr.mono (by decide)) tk (VR 0))))))) (bJ [0] (aY (zX po rfl (Es rfl (VR 1)) (PN 2 scN) (zW 2) (Bl (bH (dD (rH (mY (qF rfl T.isi_bool T.isc_bool (.ty _) (VR 2) (by exact pe_bltn rfl T.free_bool Yv rfl) rfl (T.free_isinstance) lY))) (bJ [1, 2] (bH (bU (jO wC)))) dB)))) (bJ [2] (bH (bU (VR 1)))))))
theorem Tw : FnScope [("_law_mode" : Str)] [("_law_mode" : Str)] (defScope s_q_derived) := ⟨rfl, rfl, rfl, by decide +kernel, rfl, by decide +kernel, by decide +kernel⟩
theorem aD.ok_q_derived (T : aD w K mg h base) : FnD PG w K mg base (gOf K w) (fAd K dx16.at_) 2 1 Jq := by
 obtain ⟨fd, q⟩ := T.sy.def_ 16 (d := dx16) (ps := [("_law_mode" : Str)]) rfl rfl fun _ _ _ _ _ _ us hl => match us, hl with | [_], _ => rfl
 refine ⟨⟨fd, [("_law_mode" : Str)], cW false (fn_ok (k := 1) q.F Tw rfl rfl fun cdv A outer s0 H E hr tk po => ?_), q.B⟩, q.F.kp⟩
 have scN := (Tw).nd
 have hu := cX hr
 have hu4 := cY hr
 exact (bH (bU (zJ (mX rfl hu4 (VR 0) aQ) (wB (mX rfl hu4 (VR 0) aQ)))))
theorem Tz : FnScope [("_law_mode" : Str)] [("_law_mode" : Str)] (defScope s_q_reads) := ⟨rfl, rfl, rfl, by decide +kernel, rfl, by decide +kernel, by decide +kernel⟩
theorem aD.ok_q_reads (T : aD w K mg h base) : FnD PG w K mg base (gOf K w) (fAd K dx17.at_) 2 1 Dk := by
 obtain ⟨fd, q⟩ := T.sy.def_ 17 (d := dx17) (ps := [("_law_mode" : Str)]) rfl rfl fun _ _ _ _ _ _ us hl => match us, hl with | [_], _ => rfl
 refine ⟨⟨fd, [("_law_mode" : Str)], cW false (fn_ok (k := 1) q.F Tz rfl rfl fun cdv A outer s0 H E hr tk po => ?_), q.B⟩, q.F.kp⟩
 have scN := (Tz).nd
 have hu := cX hr
 have hu4 := cY hr
 exact (bH (bU (zJ (mX rfl hu4 (VR 0) aQ) (wB (Vq (VR 0) aQ)))))
theorem T5 : FnScope [("self" : Str)] [("self" : Str)] (defScope s_Role_words) := ⟨rfl, rfl, rfl, by decide +kernel, rfl, by decide +kernel, by decide +kernel⟩
theorem aD.ok_Role_words (T : aD w K mg h base) : FnD PG w K mg base (gOf K w) (fAd K dx18.at_) 2 1 jB := by
 obtain ⟨fd, q⟩ := T.sy.def_ 18 (d := dx18) (ps := [("self" : Str)]) rfl rfl fun _ _ _ _ _ _ us hl => match us, hl with | [_], _ => rfl
 refine ⟨⟨fd, [("self" : Str)], cW true (fn_ok (k := 1) q.F T5 rfl rfl fun cdv A outer s0 H E hr tk po => ?_), q.B⟩, q.F.kp⟩
 have scN := (T5).nd
 have hu := cX hr
 have hu4 := cY hr
 exact (bH (bU (zL (D1 (rN 1 rfl rfl (VR 0))))))
theorem aD.ok_Fresh_words (T : aD w K mg h base) : FnD PG w K mg base (gOf K w) (fAd K dx19.at_) 4 1 yR := by
 refine Ip (d := dx19) (k := 3) true T.sy 49 19 rfl rfl rfl rfl rfl (by decide +kernel) (by decide +kernel) (by decide +kernel) (by decide +kernel) T.free_super rfl rfl Ah (by decide) ?_ ?_
 ·intro c fn e
  have hc : c ∈ ([3, 5] : List Nat) := by unfold sY at e; split at e <;> simp_all
  simp only [List.mem_cons, List.mem_nil_iff, or_false] at hc
  rcases hc with rfl | rfl
  ·cases e; exact sW (T.sy.fact 50) T.ok_Role_words (by decide)
  ·cases e; exact sW (T.sy.fact 51) T.ok_Role_words (by decide)
 ·intro nm qual body kV doc pm an cdv ct cc us hl
  exact match us, hl with | [_], _ => rfl
theorem aD.ok_Made_words (T : aD w K mg h base) : FnD PG w K mg base (gOf K w) (fAd K dx20.at_) 4 1 yS := by
 refine Ip (d := dx20) (k := 3) true T.sy 52 20 rfl rfl rfl rfl rfl (by decide +kernel) (by decide +kernel) (by decide +kernel) (by decide +kernel) T.free_super rfl rfl Ah (by decide) ?_ ?_
 ·intro c fn e
  have hc : c ∈ ([2, 4] : List Nat) := by unfold tD at e; split at e <;> simp_all
  simp only [List.mem_cons, List.mem_nil_iff, or_false] at hc
  rcases hc with rfl | rfl
  ·cases e; exact sW (T.sy.fact 53) T.ok_Role_words (by decide)
  ·cases e; exact sW (T.sy.fact 54) T.ok_Role_words (by decide)
 ·intro nm qual body kV doc pm an cdv ct cc us hl
  exact match us, hl with | [_], _ => rfl
theorem aD.ok_Read_words (T : aD w K mg h base) : FnD PG w K mg base (gOf K w) (fAd K dx21.at_) 6 1 tG := by
 refine Ip (d := dx21) (k := 5) true T.sy 55 21 rfl rfl rfl rfl rfl (by decide +kernel) (by decide +kernel) (by decide +kernel) (by decide +kernel) T.free_super rfl rfl Ah (by decide) ?_ ?_
 ·intro c fn e
  have hc : c ∈ ([1, 4, 5] : List Nat) := by unfold mO at e; split at e <;> simp_all
  simp only [List.mem_cons, List.mem_nil_iff, or_false] at hc
  rcases hc with rfl | rfl | rfl
  ·cases e; exact sW (T.sy.fact 56) T.ok_Role_words (by decide)
  ·cases e; exact sW (T.sy.fact 57) T.ok_Made_words (by decide)
  ·cases e; exact sW (T.sy.fact 58) T.ok_Fresh_words (by decide)
 ·intro nm qual body kV doc pm an cdv ct cc us hl
  exact match us, hl with | [_], _ => rfl
theorem aD.mt_words (T : aD w K mg h base) : ∀ c fn, lG c = some fn → pY PG w K mg base (gOf K w) "words" 6 c 1 fn := by
 intro c fn e
 have hc : c ∈ ([0, 1, 2, 3, 4, 5] : List Nat) := by unfold lG at e; split at e <;> simp_all
 simp only [List.mem_cons, List.mem_nil_iff, or_false] at hc
 rcases hc with rfl | rfl | rfl | rfl | rfl | rfl
 ·cases e; exact cP (meth_ok (T.sy.fact 104)) (T.ok_Role_words) (by decide) (by decide)
 ·cases e; exact cP (meth_ok (T.sy.fact 105)) (T.ok_Read_words) (by decide) (by decide)
 ·cases e; exact cP (meth_ok (T.sy.fact 106)) (T.ok_Made_words) (by decide) (by decide)
 ·cases e; exact cP (meth_ok (T.sy.fact 107)) (T.ok_Fresh_words) (by decide) (by decide)
 ·cases e; exact cP (iH (meth_ok (T.sy.fact 108)) (T.sy.fact 81)) (T.ok_Read_words) (by decide) (by decide)
 ·cases e; exact cP (iH (meth_ok (T.sy.fact 109)) (T.sy.fact 82)) (T.ok_Read_words) (by decide) (by decide)
theorem aD.ms_words (T : aD w K mg h base) : ∃ c fn, lG c = some fn := ⟨0, _, rfl⟩
theorem T6 : FnScope [("_law_role_here" : Str), ("_law_name" : Str), ("_law_group" : Str), ("_law_mode" : Str), ("_law_words" : Str), ("_law_told" : Str), ("_law_reads_here" : Str), ("_law_made" : Str), ("_law_fresh" : Str)] [("_law_role_here" : Str), ("_law_name" : Str), ("_law_group" : Str), ("_law_mode" : Str)] (defScope s_q_is) := ⟨rfl, rfl, rfl, by decide +kernel, rfl, by decide +kernel, by decide +kernel⟩
theorem aD.ok_q_is (T : aD w K mg h base) : FnD PG w K mg base (gOf K w) (fAd K dx22.at_) 8 4 mQ := by
 obtain ⟨fd, q⟩ := T.sy.def_ 22 (d := dx22) (ps := [("_law_role_here" : Str), ("_law_name" : Str), ("_law_group" : Str), ("_law_mode" : Str)]) rfl rfl fun _ _ _ _ _ _ us hl => match us, hl with | [_, _, _, _], _ => rfl
 refine ⟨⟨fd, [("_law_role_here" : Str), ("_law_name" : Str), ("_law_group" : Str), ("_law_mode" : Str)], cW false (fn_ok (k := 7) q.F T6 rfl rfl fun cdv A outer s0 H E hr tk po => ?_), q.B⟩, q.F.kp⟩
 have scN := (T6).nd
 have hu := cX hr
 have hu4 := cY hr
 exact (aY (ST 4 scN (zL (D1 (VR 2)))) (aY (dD (PW.pt (tX (lM rfl hu4 (VR 3) aQ) (wA (lM rfl hu4 (VR 3) aQ)))) (bH (pQ (uD rfl PySem.F.plainAttrs_list PySem.F.slot_list_append PySem.F.type_list_append mt_append wJ wM (VR 4) (D1 fO)))) dB) (aY (dD (PW.pt (tX (lM rfl hu4 (VR 3) aQ) (wA (lM rfl hu4 (VR 3) aQ)))) (bH (pQ (uD rfl PySem.F.plainAttrs_list PySem.F.slot_list_append PySem.F.type_list_append mt_append wJ wM (VR 4) (D1 fO)))) dB) (aY (dD (PW.pt (zH (Lh rfl hu4 (VR 3) aQ) (Em (mY (cG (T.ok_q_reads) (hr.mono (by decide)) rfl T.glo__law_reads tk (D1 (VR 3))))))) (bH (pQ (uD rfl PySem.F.plainAttrs_list PySem.F.slot_list_append PySem.F.type_list_append mt_append wJ wM (VR 4) (D1 fO)))) dB) (aY (ST 5 scN (uF rfl T.mt_words T.ms_words (hr.mono (by decide)) tk (VR 0))) (aY (dD (PW.pt (tX (rH (mY (qF rfl T.isi_list T.isc_list (.ty _) (VR 5) (by exact pe_bltn rfl T.free_list Yw rfl) rfl (T.free_isinstance) lY))) (wA (oK rfl hu4 (VR 5) (VR 4))))) (bJ [0, 1, 2, 3, 4, 5] (bH (bU eZ))) dB) (aY (pQ (uD rfl PySem.F.plainAttrs_list PySem.F.slot_list_append PySem.F.type_list_append mt_append wJ wM (VR 5) (D1 fO))) (bJ [5] (aY (dD (PW.pt (tX (oK rfl hu4 (uF rfl T.mt_words T.ms_words (hr.mono (by decide)) tk (VR 0)) (VR 4)) (tX (oK rfl hu4 (rN 0 rfl rfl (VR 0)) (VR 1)) (wA (oK rfl hu4 (rN 1 rfl rfl (VR 0)) (VR 2)))))) (bJ [0, 1, 2, 3, 4] (bH (bU eZ))) dB) (bJ [1, 2, 4] (aY (dD (oK rfl hu4 (Xc rfl (T.con_MARK) (VR 0)) (IX hu (jO (aU fO (aU fO (aU fO (aU fO (aU fO (D1 fO))))))) (VR 3))) (bJ [0, 3] (bH (bU eZ))) dB) (aY (ST 6 scN (Vy (Vt rfl hu4 (VR 3) aQ) (wB (cG (T.ok_q_reads) (hr.mono (by decide)) rfl T.glo__law_reads tk (D1 (VR 3)))))) (aY (dD (oK rfl hu4 (cG (T.ok_q_flags) (hr.mono (by decide)) rfl T.glo__law_flags tk (D1 (VR 0))) (jO (aU (VR 6) (aU (V1 op_lt op_lt rF rF aQ (VR 3) aQ) (D1 (cG (T.ok_q_derived) (hr.mono (by decide)) rfl T.glo__law_derived tk (D1 (VR 3)))))))) (bJ [0, 3, 6] (bH (bU eZ))) dB) (aY (ST 7 scN (zJ (mX rfl hu4 (VR 3) aQ) (wB (mX rfl hu4 (VR 3) aQ)))) (aY (ST 8 scN (zJ (mX rfl hu4 (VR 3) aQ) (wB (mX rfl hu4 (VR 3) aQ)))) (bH (bU (mX rfl hu4 (cG (T.ok_q_classes) (hr.mono (by decide)) rfl T.glo__law_classes tk (D1 (VR 0))) (jO (aU eZ (aU (VR 6) (aU (VR 7) (aU (VR 8) (aU (mX rfl hu4 (VR 3) aQ) (D1 (mX rfl hu4 (VR 3) aQ))))))))))))))))))))))))))
theorem T7 : FnScope [("self" : Str)] [("self" : Str)] (defScope s_Role_imaged) := ⟨rfl, rfl, rfl, by decide +kernel, rfl, by decide +kernel, by decide +kernel⟩
theorem aD.ok_Role_imaged (T : aD w K mg h base) : FnD PG w K mg base (gOf K w) (fAd K dx23.at_) 2 1 oF := by
 obtain ⟨fd, q⟩ := T.sy.def_ 23 (d := dx23) (ps := [("self" : Str)]) rfl rfl fun _ _ _ _ _ _ us hl => match us, hl with | [_], _ => rfl
 refine ⟨⟨fd, [("self" : Str)], cW false (fn_ok (k := 1) q.F T7 rfl rfl fun cdv A outer s0 H E hr tk po => ?_), q.B⟩, q.F.kp⟩
 have scN := (T7).nd
 have hu := cX hr
 have hu4 := cY hr
 exact (bH (bU (VR 0)))
theorem T8 : FnScope [("self" : Str)] [("self" : Str)] (defScope s_Made_imaged) := ⟨rfl, rfl, rfl, by decide +kernel, rfl, by decide +kernel, by decide +kernel⟩
theorem aD.ok_Made_imaged (T : aD w K mg h base) : FnD PG w K mg base (gOf K w) (fAd K dx24.at_) 7 1 Jw := by
 obtain ⟨fd, q⟩ := T.sy.def_ 24 (d := dx24) (ps := [("self" : Str)]) rfl rfl fun _ _ _ _ _ _ us hl => match us, hl with | [_], _ => rfl
 refine ⟨⟨fd, [("self" : Str)], cW false (fn_ok (k := 6) q.F T8 rfl rfl fun cdv A outer s0 H E hr tk po => ?_), q.B⟩, q.F.kp⟩
 have scN := (T8).nd
 have hu := cX hr
 have hu4 := cY hr
 exact (bH (bU (qH (frz := true) rfl T.cls_3 T.mkr_Fresh (T.ok_Role_zinitz) (hr.mono (by decide)) rfl T.glo_Fresh tk (aU (rN 0 rfl rfl (VR 0)) (D1 (rN 1 rfl rfl (VR 0)))))))
theorem T9 : FnScope [("self" : Str)] [("self" : Str)] (defScope s_Both_imaged) := ⟨rfl, rfl, rfl, by decide +kernel, rfl, by decide +kernel, by decide +kernel⟩
theorem aD.ok_Both_imaged (T : aD w K mg h base) : FnD PG w K mg base (gOf K w) (fAd K dx25.at_) 7 1 Jy := by
 obtain ⟨fd, q⟩ := T.sy.def_ 25 (d := dx25) (ps := [("self" : Str)]) rfl rfl fun _ _ _ _ _ _ us hl => match us, hl with | [_], _ => rfl
 refine ⟨⟨fd, [("self" : Str)], cW false (fn_ok (k := 6) q.F T9 rfl rfl fun cdv A outer s0 H E hr tk po => ?_), q.B⟩, q.F.kp⟩
 have scN := (T9).nd
 have hu := cX hr
 have hu4 := cY hr
 exact (bH (bU (qH (frz := true) rfl T.cls_5 T.mkr_Renewed (T.ok_Role_zinitz) (hr.mono (by decide)) rfl T.glo_Renewed tk (aU (rN 0 rfl rfl (VR 0)) (D1 (rN 1 rfl rfl (VR 0)))))))
theorem aD.mt_imaged (T : aD w K mg h base) : ∀ c fn, jY c = some fn → pY PG w K mg base (gOf K w) "imaged" 7 c 1 fn := by
 intro c fn e
 have hc : c ∈ ([0, 1, 2, 3, 4, 5] : List Nat) := by unfold jY at e; split at e <;> simp_all
 simp only [List.mem_cons, List.mem_nil_iff, or_false] at hc
 rcases hc with rfl | rfl | rfl | rfl | rfl | rfl
 ·cases e; exact cP (meth_ok (T.sy.fact 110)) (T.ok_Role_imaged) (by decide) (by decide)
 ·cases e; exact cP (iH (meth_ok (T.sy.fact 111)) (T.sy.fact 83)) (T.ok_Role_imaged) (by decide) (by decide)
 ·cases e; exact cP (meth_ok (T.sy.fact 112)) (T.ok_Made_imaged) (by decide) (by decide)
 ·cases e; exact cP (iH (meth_ok (T.sy.fact 113)) (T.sy.fact 84)) (T.ok_Role_imaged) (by decide) (by decide)
 ·cases e; exact cP (meth_ok (T.sy.fact 114)) (T.ok_Both_imaged) (by decide) (by decide)
 ·cases e; exact cP (iH (meth_ok (T.sy.fact 115)) (T.sy.fact 85)) (T.ok_Role_imaged) (by decide) (by decide)
theorem aD.ms_imaged (T : aD w K mg h base) : ∃ c fn, jY c = some fn := ⟨0, _, rfl⟩
theorem Ua : FnScope [("_law_numbers" : Str), ("_law_letters" : Str), ("_law_number" : Str)] [("_law_numbers" : Str)] (defScope s_q_word) := ⟨rfl, rfl, rfl, by decide +kernel, rfl, by decide +kernel, by decide +kernel⟩
theorem aD.ok_q_word (T : aD w K mg h base) : FnD PG w K mg base (gOf K w) (fAd K dx26.at_) 2 1 Dm := by
 obtain ⟨fd, q⟩ := T.sy.def_ 26 (d := dx26) (ps := [("_law_numbers" : Str)]) rfl rfl fun _ _ _ _ _ _ us hl => match us, hl with | [_], _ => rfl
 refine ⟨⟨fd, [("_law_numbers" : Str)], cW false (fn_ok (k := 1) q.F Ua rfl rfl fun cdv A outer s0 H E hr tk po => ?_), q.B⟩, q.F.kp⟩
 have scN := (Ua).nd
 have hu := cX hr
 have hu4 := cY hr
 exact (aY (ST 1 scN fO) (bH (bU (uD rfl PySem.F.plainAttrs_str PySem.F.slot_str_join PySem.F.type_str_join mt_join Mf (Yn rfl) fO (D1 (Fd (own := [("_law_number", 2)]) (mu := false) rfl scN (Es rfl (VR 0)) (blkOk_by rfl) (fun _ _ _ _ _ => (PN 2 scN)) (Ez 2 (by decide)) (fun sB HB CB clB fpB => Fb) (fun sB HB CB clB fpB => (IX hu (VR 1) (pO (pU call_int1 pW rfl (T.free_int) qG (D1 (VR 2))) aQ)))))))))
theorem Ub : FnScope [("_law_pool_here" : Str), ("_law_style" : Str), ("_law_shift" : Str), ("_law_stride" : Str), ("_law_place" : Str), ("_law_size" : Str), ("_law_word_here" : Str), ("_law_names_here" : Str), ("_law_k" : Str), ("_law_letter" : Str), ("_law_at" : Str), ("_law_name" : Str)] [("_law_pool_here" : Str)] (defScope s_q_names) := ⟨rfl, rfl, rfl, by decide +kernel, rfl, by decide +kernel, by decide +kernel⟩
theorem aD.ok_q_names (T : aD w K mg h base) : FnD PG w K mg base (gOf K w) (fAd K dx27.at_) 4 1 yU := by
 obtain ⟨fd, q⟩ := T.sy.def_ 27 (d := dx27) (ps := [("_law_pool_here" : Str)]) rfl rfl fun _ _ _ _ _ _ us hl => match us, hl with | [_], _ => rfl
 refine ⟨⟨fd, [("_law_pool_here" : Str)], cW false (fn_ok (k := 3) q.F Ub rfl rfl fun cdv A outer s0 H E hr tk po => ?_), q.B⟩, q.F.kp⟩
 have scN := (Ub).nd
 have hu := cX hr
 have hu4 := cY hr
 exact (aY (ST 1 scN (cG (T.ok_q_draw) (hr.mono (by decide)) rfl T.glo__law_draw tk (aU (VR 0) (D1 aQ)))) (aY (ST 2 scN (cG (T.ok_q_draw) (hr.mono (by decide)) rfl T.glo__law_draw tk (aU (VR 0) (D1 aQ)))) (aY (ST 3 scN (dO rfl aQ (tU aQ (cG (T.ok_q_draw) (hr.mono (by decide)) rfl T.glo__law_draw tk (aU (VR 0) (D1 aQ)))))) (aY (ST 4 scN (cG (T.ok_q_draw) (hr.mono (by decide)) rfl T.glo__law_draw tk (aU (VR 0) (D1 aQ)))) (aY (ST 5 scN (dO rfl aQ (cG (T.ok_q_draw) (hr.mono (by decide)) rfl T.glo__law_draw tk (aU (VR 0) (D1 aQ))))) (aY (ST 6 scN (cG (T.ok_q_word) (hr.mono (by decide)) rfl T.glo__law_word tk (D1 (Fd (own := [("_law_k", 8)]) (mu := false) rfl scN (zV rfl (T.free_range) (D1 aQ)) (blkOk_by rfl) (fun _ _ _ _ _ => (PN 8 scN)) (Ez 8 (by decide)) (fun sB HB CB clB fpB => Fb) (fun sB HB CB clB fpB => (cG (T.ok_q_draw) (hr.mono (by decide)) rfl T.glo__law_draw Yy (aU (VR 0) (D1 aQ)))))))) (bJ [0] (aY (ST 7 scN (zL wC)) (aY (zX po rfl (zV rfl (T.free_range) (D1 aQ)) (PN 8 scN) (zW 8) (Bl (bJ [9, 10, 11] (aY (ST 9 scN (cG (T.ok_q_word) (hr.mono (by decide)) rfl T.glo__law_word tk (D1 (jO (D1 (dO rfl (VR 2) (tU (VR 3) (VR 8)))))))) (aY (ST 10 scN (pO (pU call_int1 pW rfl (T.free_int) qG (D1 (VR 4))) (VR 5))) (aY (ST 11 scN (dO rfl (dO rfl (nD rfl (VR 6) pP (kZ (VR 10))) (VR 9)) (nD rfl (VR 6) (kZ (dO rfl (VR 10) aQ)) (kZ (VR 5))))) (bJ [10] (aY (dD (lM rfl hu4 (VR 1) aQ) (bJ [11] (bH (ST 11 scN (nD rfl (VR 6) pP (kZ (dO rfl aQ (pO (pU call_int1 pW rfl (T.free_int) qG (D1 (dO rfl (VR 8) (VR 4)))) aQ))))))) dB) (aY (dD (lM rfl hu4 (VR 1) aQ) (bJ [11] (bH (ST 11 scN (dO rfl (VR 9) (nD rfl (VR 6) (kZ (VR 8)) (kZ (dO rfl (VR 8) (pO (pU call_int1 pW rfl (T.free_int) qG (D1 (dO rfl (VR 4) (tU aQ (VR 8))))) aQ)))))))) dB) (bJ [8, 9] (bH (pQ (uD rfl PySem.F.plainAttrs_list PySem.F.slot_list_append PySem.F.type_list_append mt_append wJ wM (VR 7) (D1 (VR 11))))))))))))))) (bJ [1, 2, 3, 4, 5, 6, 8, 9, 10, 11] (bH (bU (VR 7)))))))))))))
theorem Uc : FnScope [("_law_script" : Str), ("_law_k" : Str), ("_law_seed" : Str), ("_law_digits" : Str)] [("_law_script" : Str), ("_law_k" : Str)] (defScope s_q_pool) := ⟨rfl, rfl, rfl, by decide +kernel, rfl, by decide +kernel, by decide +kernel⟩
theorem aD.ok_q_pool (T : aD w K mg h base) : FnD PG w K mg base (gOf K w) (fAd K dx28.at_) 2 2 yV := by
 obtain ⟨fd, q⟩ := T.sy.def_ 28 (d := dx28) (ps := [("_law_script" : Str), ("_law_k" : Str)]) rfl rfl fun _ _ _ _ _ _ us hl => match us, hl with | [_, _], _ => rfl
 refine ⟨⟨fd, [("_law_script" : Str), ("_law_k" : Str)], cW true (fn_ok (k := 1) q.F Uc rfl rfl fun cdv A outer s0 H E hr tk po => ?_), q.B⟩, q.F.kp⟩
 have scN := (Uc).nd
 have hu := cX hr
 have hu4 := cY hr
 exact (aY (ST 2 scN (dO rfl (dO rfl (tU aQ (VR 1)) aQ) (tU aQ (rK (cr_sum rfl) (Wj rfl) rfl (T.free_sum) Yt (D1 (VR 0)))))) (aY (ST 3 scN aQ) (aY (dD (Lh rfl hu4 (VR 1) (rK call_len (wH rfl) rfl (T.free_len) xG (D1 (VR 0)))) (aY (ST 2 scN (dO rfl (VR 2) (IX hu (VR 0) (VR 1)))) (bH (dD (Vs (IX hu (VR 0) (VR 1)) (Vk aQ aQ)) (bJ [3] (bH (ST 3 scN (IX hu (VR 0) (VR 1))))) dB))) dB) (bJ [0, 1] (bH (bU (zL (aU (VR 3) (aU (pO (pU call_int1 pW rfl (T.free_int) qG (D1 (VR 2))) aQ) (D1 aQ))))))))))
theorem Ud : FnScope [("_law_script" : Str), ("_law_pool_here" : Str), ("_law_names_here" : Str), ("_law_name" : Str), ("_law_group" : Str), ("_law_mode" : Str), ("_law_role_here" : Str), ("_law_bad" : Str), ("_law_other" : Str)] [("_law_script" : Str)] (defScope s_law) := ⟨rfl, rfl, rfl, by decide +kernel, rfl, by decide +kernel, by decide +kernel⟩
theorem aD.fk_law (T : aD w K mg h base) : ∀ {fd : FuncData}, Nz K dx29 [("_law_script" : Str)] (fAd K dx29.at_) fd → FnOk PG w K mg base (L2.CX PG w) 13 (fAd K dx29.at_) fd [("_law_script" : Str)] (gG (gOf K w) 1 Ka) := by
 intro fd q
 refine cW false (fn_ok (k := 12) q.F Ud rfl rfl fun cdv A outer s0 H E hr tk po => ?_)
 have scN := (Ud).nd
 have hu := cX hr
 have hu4 := cY hr
 exact (aY (ST 1 scN (cG (T.ok_q_pool) (hr.mono (by decide)) rfl T.glo__law_pool tk (aU (VR 0) (D1 aQ)))) (bJ [0] (aY (ST 2 scN (cG (T.ok_q_names) (hr.mono (by decide)) rfl T.glo__law_names tk (D1 (VR 1)))) (aY (ST 3 scN (IX hu (VR 2) (cG (T.ok_q_draw) (hr.mono (by decide)) rfl T.glo__law_draw tk (aU (VR 1) (D1 aQ))))) (aY (ST 4 scN (IX hu (VR 2) (cG (T.ok_q_draw) (hr.mono (by decide)) rfl T.glo__law_draw tk (aU (VR 1) (D1 aQ))))) (bJ [2] (aY (zX po rfl (zV rfl (T.free_range) (D1 aQ)) (PN 5 scN) (zW 5) (Bl (bJ [6] (aY (ST 6 scN (cG (T.ok_q_any_role) (hr.mono (by decide)) rfl T.glo__law_any_role tk (aU (VR 3) (aU (VR 4) (D1 (VR 5)))))) (aY (dD (rH (mY (cG (T.ok_q_is) (hr.mono (by decide)) rfl T.glo__law_is tk (aU (VR 6) (aU (VR 3) (aU (VR 4) (D1 (VR 5)))))))) (bJ [1, 3, 4, 5, 6] (bH (bU eZ))) dB) (aY (dD (rH (mY (cG (T.ok_q_is) (hr.mono (by decide)) rfl T.glo__law_is tk (aU (uF rfl T.mt_imaged T.ms_imaged (hr.mono (by decide)) tk (VR 6)) (aU (VR 3) (aU (VR 4) (D1 (IX hu (jO (aU aQ (aU aQ (aU aQ (aU aQ (aU aQ (D1 aQ))))))) (VR 5))))))))) (bJ [1, 3, 4, 5, 6] (bH (bU eZ))) dB) (bH (dD (rH (mY (cG (T.ok_q_is) (hr.mono (by decide)) rfl T.glo__law_is tk (aU (VR 6) (aU (VR 3) (aU (VR 4) (D1 (VR 5)))))))) (bJ [1, 3, 4, 5, 6] (bH (bU eZ))) dB)))))))) (bJ [5, 6] (aY (ST 7 scN (cG (T.ok_q_bad_name) (hr.mono (by decide)) rfl T.glo__law_bad_name tk (aU (VR 1) (D1 (VR 3))))) (aY (ST 8 scN (cG (T.ok_q_bad_name) (hr.mono (by decide)) rfl T.glo__law_bad_name tk (aU (VR 1) (D1 (VR 4))))) (bJ [1] (aY (zX po rfl (zV rfl (T.free_range) (D1 aQ)) (PN 5 scN) (zW 5) (Bl (aY (dD (oK rfl hu4 (cG (T.ok_q_error) (hr.mono (by decide)) rfl T.glo__law_error tk (aU (VR 7) (aU (VR 4) (D1 (VR 5))))) (wG (D1 (VR 7)))) (bJ [3, 4, 5, 7, 8] (bH (bU eZ))) dB) (aY (dD (oK rfl hu4 (cG (T.ok_q_error) (hr.mono (by decide)) rfl T.glo__law_error tk (aU (VR 3) (aU (VR 8) (D1 (VR 5))))) (wG (D1 (VR 8)))) (bJ [3, 4, 5, 7, 8] (bH (bU eZ))) dB) (bH (dD (oK rfl hu4 (cG (T.ok_q_error) (hr.mono (by decide)) rfl T.glo__law_error tk (aU (VR 7) (aU (VR 8) (D1 (VR 5))))) (wG (D1 (VR 7)))) (bJ [3, 4, 5, 7, 8] (bH (bU eZ))) dB)))))) (bJ [3, 4, 5, 7, 8] (bH (bU eZ)))))))))))))))
end
end LK01
open PySem PySem.W PySem.Calls PyProof.Rows
theorem PySem.Challenge.cw_redopages_k01_roles_and_their_words_of (eqn : ∀ ns : List Int, ns.length ≤ 63 → ∃ L1, LK01.Ka [.v (.scr ns)] [] = some (.ok (.v (.bl true)), L1)) : PySem.Challenge.rw_redopages_k01_roles_and_their_words.Holds := by
 w_on; o_law
 refine HandSHeadRun.head_any (r := OpenLaw.row PySem.Challenge.rw_redopages_k01_roles_and_their_words) (q := LK01.QV) (H := LK01.hk) (ob := LK01.ob) (M := 9000) (loose := LK01.nms) (d := HandSHeadRun.topDef (OpenLaw.row PySem.Challenge.rw_redopages_k01_roles_and_their_words).prog 28) (kwd := []) LK01.ob_eq
  (by kernel_rfl) (fun s => by kernel_rfl) LK01.run (by kernel_rfl) (by kernel_rfl) (by kernel_rfl) (by rfl) (by first | assumption | decide +kernel) (by decide +kernel) ⟨rfl, rfl, rfl, rfl, rfl, by decide +kernel⟩ ?hw ?hc
 case hw => w_witness2
 case hc =>
  refine L2.walk_ofE (l := PySem.Challenge.rw_redopages_k01_roles_and_their_words) (n := 63) (k := 13) (x := "_law_script") (CX := DN.Y5 LK01.PG) rfl (by decide) (by kernel_rfl) ⟨rfl, by decide, by decide⟩ ?F DN.cxa_no
  intro w mg fa h Y G hmg0
  obtain ⟨K, KX, c⟩ := Y
  have hmg : mg ("law" : PySem.Str) = some (.ref fa) := by
   have e : (HandSHeadRun.topDef (OpenLaw.row PySem.Challenge.rw_redopages_k01_roles_and_their_words).prog 28).name = ("law" : PySem.Str) := by kernel_rfl
   rw [← e]
   exact hmg0
  obtain ⟨fd, q⟩ := DN.SaysX.def_ c 29 (d := LK01.dx29) (ps := ["_law_script"]) rfl rfl fun _ _ _ _ _ _ us hl => match us, hl with | [_], _ => rfl
  have e : fa = He.fAd K LK01.dx29.at_ := by
   have T : LK01.aD w K mg h h := ⟨c, KX, G⟩
   have z := hmg.symm.trans T.glo_law
   cases z
   rfl
  subst e
  obtain ⟨oc, od, kV, doc, pm, an, cdv, ct, osl, efd, lk, hcd⟩ := q.F.ex
  refine ⟨K, fd, DN.gG (DN.gOf K w) 1 LK01.Ka, KX, fun s u => by subst efd; exact .of_eq rfl, fun H a ns hl _ hS => DN.law_end (g := DN.gOf K w) (eqn ns hl) hS fun _ => rfl, fun base kb nb => ?_⟩
  have T : LK01.aD w K mg h base := ⟨c, KX, G⟩
  exact DN.fnok_cx (T.fk_law q) fun outer H s E u s' z => ⟨w, z⟩
end
section
local macro_rules
 | `(tactic| simp_arith! [$as,*] $[$l:location]?) => `(tactic| simp only [DN.wp_ret, DN.wp_pure, DN.th_rt, DN.th_bk, DN.th_ct, DN.th_ex, DN.wps_nx, DN.wps_bk, DN.wps_ct, DN.wps_retN, DN.wps_kill, DN.wps_set, DN.Za, DN.wps_ret, DN.wps_if, DN.wps_ift, DN.wps_iff, DN.wps_satt, DN.Zb, DN.wps_setI, DN.wps_for, DN.varW_some, DN.wp_var, DN.wp_retD, DN.wp_bin, DN.wp_un, DN.wp_app, DN.wp_cons, DN.wp_nil, DN.wp_tstD, DN.wp_asB, DN.wp_tstT, DN.wp_truB_bl, DN.wp_truB_tup, DN.wp_truB_lst, DN.wp_andB, DN.wp_orB, DN.wp_notB, DN.wp_valB, DN.wp_andV, DN.wp_orV, DN.wp_notV, DN.wp_ifE, DN.wp_noP, DN.wp_part, DN.wp_asJ, DN.wp_slice, DN.wp_seqI, DN.wp_argI, DN.wp_itm_tup, DN.wp_itm_lst, DN.wp_tup0, DN.wp_tup1, DN.wp_tup2, DN.wp_tup3, DN.wp_tup4, DN.wp_lst0, DN.wp_lst1, DN.wp_lst2, DN.wp_lst3, DN.wp_lst4, DN.wp_lst5, DN.wp_lst6, DN.wp_lst7, DN.wp_lst8, DN.wp_new0, DN.wp_arN1, DN.wp_arN2, DN.wp_arN3, DN.wp_arN4, DN.wp_arN5, DN.wp_arN6, DN.wp_arN7, DN.wp_addI, DN.wp_subI, DN.wp_negI, DN.wp_int, DN.wp_max2, DN.wp_ord, DN.wp_ltI, DN.wp_chn, DN.wp_eqI, DN.wp_len_lst, DN.wp_len_tup, DN.wp_ixT0, DN.wp_ixT1, DN.wp_ixT2, DN.wp_ixT3, DN.wp_mth, DN.wp_meth, DN.wp_methZ, DN.wp_methK, DN.wp_js0, DN.wp_js, DN.wp_jsM, DN.tyS_str, DN.wp_lc, DN.Zm, DN.sv_kill0, DN.sv_kill1, DN.sv_gets, DN.sv_get0, DN.sv_sets, DN.sv_set0, DN.sv_ift, DN.sv_iff, DN.sv_dect, DN.sv_decf, DN.sv_ft, DN.sv_nott, DN.sv_notf, DN.sv_cons_app, DN.sv_nil_app, DN.sv_len_cons, DN.sv_len_nil, DN.sv_and_self, DN.sv_and_true, DN.sv_true_and, DN.wps_par, DN.wp_frzV, DN.wp_ownI, DN.wp_augI, DN.wp_augT, DN.wp_callC, DN.wps_unp, DN.wp_dc, DN.lstW_some, DN.lstB_some, DN.insW_some, DN.clsO_some, DN.optW_some, DN.obind_some, DN.lg_len, DN.lg_app, DN.lg_nil, DN.qO, DN.lE, DN.Qi, DN.lg_set0, DN.lg_slen, DN.aAp, DN.lg_sget0, DN.aAq, DN.lg_sset0, DN.lg_set2, DN.wpz_itm, DN.wpz_len, DN.wpz_append, DN.tylz_r, DN.tylz_v, DN.wpz_tuple, DN.wpz_frz, DN.wpz_tupv, DN.wpz_tupl, DN.wpz_listv, DN.wpz_listn, DN.wpz_listr, DN.aAt, DN.aAu, DN.wpz_attr, DN.wpz_attv, DN.wpz_satt, DN.flz_cons, DN.fpz_nil, DN.fpz_cons, DN.fgz_cons, DN.flT_0, DN.flT_6, DN.flT_7, DN.flT_8, DN.flT_9, DN.flT_10, DN.flT_11, DN.flT_12, DN.flT_13, DN.flT_14, DN.flT_15, DN.flT_16, DN.lz_mem, DN.lz_eq, DN.lz_ort, DN.lz_tor, DN.lz_orf, DN.lz_for, DN.lz_ift, DN.lz_iff, DN.wpz_ixL0, DN.wpz_ixL1, DN.wpz_ixL2, DN.wpz_isNN, DN.wpz_isNi, DN.wpz_isNs, DN.wpz_isNt, DN.wpz_isNl, DN.wpz_isNo, DN.wpz_isNr, DN.tagO_lst, DN.tagO_ins, DN.tagz_r, DN.tagz_non, DN.tagz_bl, DN.tagz_int, DN.tagz_str, DN.tagz_tup, DN.tagz_lst, DN.tagz_ins, DN.wpz_isi, DN.ownW_some, DN.ownW_none, DN.wpz_own, DN.wpz_itmQt, DN.wpz_itmQr, DN.wpz_itmQl, DN.clsz_kat, DN.wpz_katK, DN.wpz_kiN, DN.wpz_kiR, DN.clsz_ki, DN.clsz_sp, DN.wpz_spN, DN.wpz_spK, DN.wpz_spP, DN.clsz_wt, DN.wpz_wtA, DN.ownV_some, DN.ownV_none, DN.wpz_ixO, DN.wpz_setO, DN.lenW_int, DN.wpz_clear, DN.wpz_extT, DN.wpz_eqB, DN.asQ_r, DN.wpz_fmt8, DN.wpz_fmt2, DN.wpz_fmt13, DN.wpz_fmt4, DN.wpz_ljust, DN.wpz_rjust, DN.wpz_rstripC, DN.tysz, DN.wps_faug, DN.wps_setOS, DN.wpz_dkNew, DN.wpz_getKD, DN.wps_par3, DN.wpz_methN, DN.wpz_partN, DN.wpz_asIN, DN.wpz_asII, DN.wpz_revI, DN.wpz_frzNv, DN.wpz_frzN, DN.dnW_some, DN.wp_excV, DN.wps_raiseF, DN.dlz1, DN.ldz1, DN.dlz2, DN.ldz2, DN.dlz3, DN.ldz3, DN.dlz4, DN.ldz4, DN.dlz5, DN.ldz5, DN.dlz6, DN.ldz6, DN.dlz7, DN.ldz7, DN.dlz8, DN.ldz8, DN.dlz9, DN.ldz9, DN.dlz10, DN.ldz10, DN.dlz11, DN.ldz11, DN.wpz_upD, DN.wpz_listO, DN.wpz_listA, DN.aBr, DN.dk0W_some, DN.aBs, DN.aBt, DN.popW_cons, DN.wpz_dkOne, DN.wpz_dkTwo, DN.wpz_putTwo, DN.wpz_inK, DN.wpz_ixK, DN.wps_setKS, DN.wps_setKu, DN.wpz_popAt0, DN.wpz_keyQ, DN.wpz_keyI, DN.wpz_mulON, DN.wpz_popKD, DN.kd00, DN.kd01, DN.kd02, DN.kd03, DN.kd04, DN.kd05, DN.kl0, DN.kg0, DN.kh0, DN.kd10, DN.kd11, DN.kd12, DN.kd13, DN.kd14, DN.kd15, DN.kl1, DN.kg1, DN.kh1, DN.kd20, DN.kd21, DN.kd22, DN.kd23, DN.kd24, DN.kd25, DN.kl2, DN.kg2, DN.kh2, DN.kd30, DN.kd31, DN.kd32, DN.kd33, DN.kd34, DN.kd35, DN.kl3, DN.kg3, DN.kh3, DN.kd40, DN.kd41, DN.kd42, DN.kd43, DN.kd44, DN.kd45, DN.kl4, DN.kg4, DN.kh4, DN.kd50, DN.kd51, DN.kd52, DN.kd53, DN.kd54, DN.kd55, DN.kl5, DN.kg5, DN.kh5, LK01.tiz_Renewed_0, LK01.tiz_Renewed_1, LK01.tiz_Renewed_2, LK01.tiz_Renewed_3, LK01.tiz_Renewed_4, LK01.tiz_Renewed_5, LK01.tiz_Renewed_6, LK01.tiz_Renewed_7, LK01.tiz_Renewed_8, LK01.tiz_Renewed_9, LK01.tiz_Renewed_10, LK01.tiz_Renewed_11, LK01.tiz_Both_0, LK01.tiz_Both_1, LK01.tiz_Both_2, LK01.tiz_Both_3, LK01.tiz_Both_4, LK01.tiz_Both_5, LK01.tiz_Both_6, LK01.tiz_Both_7, LK01.tiz_Both_8, LK01.tiz_Both_9, LK01.tiz_Both_10, LK01.tiz_Both_11, LK01.tiz_Fresh_0, LK01.tiz_Fresh_1, LK01.tiz_Fresh_2, LK01.tiz_Fresh_3, LK01.tiz_Fresh_4, LK01.tiz_Fresh_5, LK01.tiz_Fresh_6, LK01.tiz_Fresh_7, LK01.tiz_Fresh_8, LK01.tiz_Fresh_9, LK01.tiz_Fresh_10, LK01.tiz_Fresh_11, LK01.tiz_Made_0, LK01.tiz_Made_1, LK01.tiz_Made_2, LK01.tiz_Made_3, LK01.tiz_Made_4, LK01.tiz_Made_5, LK01.tiz_Made_6, LK01.tiz_Made_7, LK01.tiz_Made_8, LK01.tiz_Made_9, LK01.tiz_Made_10, LK01.tiz_Made_11, LK01.tiz_Read_0, LK01.tiz_Read_1, LK01.tiz_Read_2, LK01.tiz_Read_3, LK01.tiz_Read_4, LK01.tiz_Read_5, LK01.tiz_Read_6, LK01.tiz_Read_7, LK01.tiz_Read_8, LK01.tiz_Read_9, LK01.tiz_Read_10, LK01.tiz_Read_11, LK01.tiz_Role_0, LK01.tiz_Role_1, LK01.tiz_Role_2, LK01.tiz_Role_3, LK01.tiz_Role_4, LK01.tiz_Role_5, LK01.tiz_Role_6, LK01.tiz_Role_7, LK01.tiz_Role_8, LK01.tiz_Role_9, LK01.tiz_Role_10, LK01.tiz_Role_11, LK01.tiz_bool_0, LK01.tiz_bool_1, LK01.tiz_bool_2, LK01.tiz_bool_3, LK01.tiz_bool_4, LK01.tiz_bool_5, LK01.tiz_bool_6, LK01.tiz_bool_7, LK01.tiz_bool_8, LK01.tiz_bool_9, LK01.tiz_bool_10, LK01.tiz_bool_11, LK01.tiz_list_0, LK01.tiz_list_1, LK01.tiz_list_2, LK01.tiz_list_3, LK01.tiz_list_4, LK01.tiz_list_5, LK01.tiz_list_6, LK01.tiz_list_7, LK01.tiz_list_8, LK01.tiz_list_9, LK01.tiz_list_10, LK01.tiz_list_11, LK01.tmz_derived_0, LK01.tmz_derived_1, LK01.tmz_derived_2, LK01.tmz_derived_3, LK01.tmz_derived_4, LK01.tmz_derived_5, LK01.tmz_makes_0, LK01.tmz_makes_1, LK01.tmz_makes_2, LK01.tmz_makes_3, LK01.tmz_makes_4, LK01.tmz_makes_5, LK01.tmz_reads_0, LK01.tmz_reads_1, LK01.tmz_reads_2, LK01.tmz_reads_3, LK01.tmz_reads_4, LK01.tmz_reads_5, LK01.tuz_Fresh_words_3, LK01.tuz_Fresh_words_5, LK01.tuz_Made_words_2, LK01.tuz_Made_words_4, LK01.tuz_Read_words_1, LK01.tuz_Read_words_4, LK01.tuz_Read_words_5, LK01.tmz_words_0, LK01.tmz_words_1, LK01.tmz_words_2, LK01.tmz_words_3, LK01.tmz_words_4, LK01.tmz_words_5, LK01.tmz_imaged_0, LK01.tmz_imaged_1, LK01.tmz_imaged_2, LK01.tmz_imaged_3, LK01.tmz_imaged_4, LK01.tmz_imaged_5, reduceIte, Nat.reduceAdd, Nat.reduceEqDiff, $as,*] $[$l]?)
 | `(tactic| simp_arith! $[$l:location]?) => `(tactic| simp only [DN.wp_ret, DN.wp_pure, DN.th_rt, DN.th_bk, DN.th_ct, DN.th_ex, DN.wps_nx, DN.wps_bk, DN.wps_ct, DN.wps_retN, DN.wps_kill, DN.wps_set, DN.Za, DN.wps_ret, DN.wps_if, DN.wps_ift, DN.wps_iff, DN.wps_satt, DN.Zb, DN.wps_setI, DN.wps_for, DN.varW_some, DN.wp_var, DN.wp_retD, DN.wp_bin, DN.wp_un, DN.wp_app, DN.wp_cons, DN.wp_nil, DN.wp_tstD, DN.wp_asB, DN.wp_tstT, DN.wp_truB_bl, DN.wp_truB_tup, DN.wp_truB_lst, DN.wp_andB, DN.wp_orB, DN.wp_notB, DN.wp_valB, DN.wp_andV, DN.wp_orV, DN.wp_notV, DN.wp_ifE, DN.wp_noP, DN.wp_part, DN.wp_asJ, DN.wp_slice, DN.wp_seqI, DN.wp_argI, DN.wp_itm_tup, DN.wp_itm_lst, DN.wp_tup0, DN.wp_tup1, DN.wp_tup2, DN.wp_tup3, DN.wp_tup4, DN.wp_lst0, DN.wp_lst1, DN.wp_lst2, DN.wp_lst3, DN.wp_lst4, DN.wp_lst5, DN.wp_lst6, DN.wp_lst7, DN.wp_lst8, DN.wp_new0, DN.wp_arN1, DN.wp_arN2, DN.wp_arN3, DN.wp_arN4, DN.wp_arN5, DN.wp_arN6, DN.wp_arN7, DN.wp_addI, DN.wp_subI, DN.wp_negI, DN.wp_int, DN.wp_max2, DN.wp_ord, DN.wp_ltI, DN.wp_chn, DN.wp_eqI, DN.wp_len_lst, DN.wp_len_tup, DN.wp_ixT0, DN.wp_ixT1, DN.wp_ixT2, DN.wp_ixT3, DN.wp_mth, DN.wp_meth, DN.wp_methZ, DN.wp_methK, DN.wp_js0, DN.wp_js, DN.wp_jsM, DN.tyS_str, DN.wp_lc, DN.Zm, DN.sv_kill0, DN.sv_kill1, DN.sv_gets, DN.sv_get0, DN.sv_sets, DN.sv_set0, DN.sv_ift, DN.sv_iff, DN.sv_dect, DN.sv_decf, DN.sv_ft, DN.sv_nott, DN.sv_notf, DN.sv_cons_app, DN.sv_nil_app, DN.sv_len_cons, DN.sv_len_nil, DN.sv_and_self, DN.sv_and_true, DN.sv_true_and, DN.wps_par, DN.wp_frzV, DN.wp_ownI, DN.wp_augI, DN.wp_augT, DN.wp_callC, DN.wps_unp, DN.wp_dc, DN.lstW_some, DN.lstB_some, DN.insW_some, DN.clsO_some, DN.optW_some, DN.obind_some, DN.lg_len, DN.lg_app, DN.lg_nil, DN.qO, DN.lE, DN.Qi, DN.lg_set0, DN.lg_slen, DN.aAp, DN.lg_sget0, DN.aAq, DN.lg_sset0, DN.lg_set2, DN.wpz_itm, DN.wpz_len, DN.wpz_append, DN.tylz_r, DN.tylz_v, DN.wpz_tuple, DN.wpz_frz, DN.wpz_tupv, DN.wpz_tupl, DN.wpz_listv, DN.wpz_listn, DN.wpz_listr, DN.aAt, DN.aAu, DN.wpz_attr, DN.wpz_attv, DN.wpz_satt, DN.flz_cons, DN.fpz_nil, DN.fpz_cons, DN.fgz_cons, DN.flT_0, DN.flT_6, DN.flT_7, DN.flT_8, DN.flT_9, DN.flT_10, DN.flT_11, DN.flT_12, DN.flT_13, DN.flT_14, DN.flT_15, DN.flT_16, DN.lz_mem, DN.lz_eq, DN.lz_ort, DN.lz_tor, DN.lz_orf, DN.lz_for, DN.lz_ift, DN.lz_iff, DN.wpz_ixL0, DN.wpz_ixL1, DN.wpz_ixL2, DN.wpz_isNN, DN.wpz_isNi, DN.wpz_isNs, DN.wpz_isNt, DN.wpz_isNl, DN.wpz_isNo, DN.wpz_isNr, DN.tagO_lst, DN.tagO_ins, DN.tagz_r, DN.tagz_non, DN.tagz_bl, DN.tagz_int, DN.tagz_str, DN.tagz_tup, DN.tagz_lst, DN.tagz_ins, DN.wpz_isi, DN.ownW_some, DN.ownW_none, DN.wpz_own, DN.wpz_itmQt, DN.wpz_itmQr, DN.wpz_itmQl, DN.clsz_kat, DN.wpz_katK, DN.wpz_kiN, DN.wpz_kiR, DN.clsz_ki, DN.clsz_sp, DN.wpz_spN, DN.wpz_spK, DN.wpz_spP, DN.clsz_wt, DN.wpz_wtA, DN.ownV_some, DN.ownV_none, DN.wpz_ixO, DN.wpz_setO, DN.lenW_int, DN.wpz_clear, DN.wpz_extT, DN.wpz_eqB, DN.asQ_r, DN.wpz_fmt8, DN.wpz_fmt2, DN.wpz_fmt13, DN.wpz_fmt4, DN.wpz_ljust, DN.wpz_rjust, DN.wpz_rstripC, DN.tysz, DN.wps_faug, DN.wps_setOS, DN.wpz_dkNew, DN.wpz_getKD, DN.wps_par3, DN.wpz_methN, DN.wpz_partN, DN.wpz_asIN, DN.wpz_asII, DN.wpz_revI, DN.wpz_frzNv, DN.wpz_frzN, DN.dnW_some, DN.wp_excV, DN.wps_raiseF, DN.dlz1, DN.ldz1, DN.dlz2, DN.ldz2, DN.dlz3, DN.ldz3, DN.dlz4, DN.ldz4, DN.dlz5, DN.ldz5, DN.dlz6, DN.ldz6, DN.dlz7, DN.ldz7, DN.dlz8, DN.ldz8, DN.dlz9, DN.ldz9, DN.dlz10, DN.ldz10, DN.dlz11, DN.ldz11, DN.wpz_upD, DN.wpz_listO, DN.wpz_listA, DN.aBr, DN.dk0W_some, DN.aBs, DN.aBt, DN.popW_cons, DN.wpz_dkOne, DN.wpz_dkTwo, DN.wpz_putTwo, DN.wpz_inK, DN.wpz_ixK, DN.wps_setKS, DN.wps_setKu, DN.wpz_popAt0, DN.wpz_keyQ, DN.wpz_keyI, DN.wpz_mulON, DN.wpz_popKD, DN.kd00, DN.kd01, DN.kd02, DN.kd03, DN.kd04, DN.kd05, DN.kl0, DN.kg0, DN.kh0, DN.kd10, DN.kd11, DN.kd12, DN.kd13, DN.kd14, DN.kd15, DN.kl1, DN.kg1, DN.kh1, DN.kd20, DN.kd21, DN.kd22, DN.kd23, DN.kd24, DN.kd25, DN.kl2, DN.kg2, DN.kh2, DN.kd30, DN.kd31, DN.kd32, DN.kd33, DN.kd34, DN.kd35, DN.kl3, DN.kg3, DN.kh3, DN.kd40, DN.kd41, DN.kd42, DN.kd43, DN.kd44, DN.kd45, DN.kl4, DN.kg4, DN.kh4, DN.kd50, DN.kd51, DN.kd52, DN.kd53, DN.kd54, DN.kd55, DN.kl5, DN.kg5, DN.kh5, LK01.tiz_Renewed_0, LK01.tiz_Renewed_1, LK01.tiz_Renewed_2, LK01.tiz_Renewed_3, LK01.tiz_Renewed_4, LK01.tiz_Renewed_5, LK01.tiz_Renewed_6, LK01.tiz_Renewed_7, LK01.tiz_Renewed_8, LK01.tiz_Renewed_9, LK01.tiz_Renewed_10, LK01.tiz_Renewed_11, LK01.tiz_Both_0, LK01.tiz_Both_1, LK01.tiz_Both_2, LK01.tiz_Both_3, LK01.tiz_Both_4, LK01.tiz_Both_5, LK01.tiz_Both_6, LK01.tiz_Both_7, LK01.tiz_Both_8, LK01.tiz_Both_9, LK01.tiz_Both_10, LK01.tiz_Both_11, LK01.tiz_Fresh_0, LK01.tiz_Fresh_1, LK01.tiz_Fresh_2, LK01.tiz_Fresh_3, LK01.tiz_Fresh_4, LK01.tiz_Fresh_5, LK01.tiz_Fresh_6, LK01.tiz_Fresh_7, LK01.tiz_Fresh_8, LK01.tiz_Fresh_9, LK01.tiz_Fresh_10, LK01.tiz_Fresh_11, LK01.tiz_Made_0, LK01.tiz_Made_1, LK01.tiz_Made_2, LK01.tiz_Made_3, LK01.tiz_Made_4, LK01.tiz_Made_5, LK01.tiz_Made_6, LK01.tiz_Made_7, LK01.tiz_Made_8, LK01.tiz_Made_9, LK01.tiz_Made_10, LK01.tiz_Made_11, LK01.tiz_Read_0, LK01.tiz_Read_1, LK01.tiz_Read_2, LK01.tiz_Read_3, LK01.tiz_Read_4, LK01.tiz_Read_5, LK01.tiz_Read_6, LK01.tiz_Read_7, LK01.tiz_Read_8, LK01.tiz_Read_9, LK01.tiz_Read_10, LK01.tiz_Read_11, LK01.tiz_Role_0, LK01.tiz_Role_1, LK01.tiz_Role_2, LK01.tiz_Role_3, LK01.tiz_Role_4, LK01.tiz_Role_5, LK01.tiz_Role_6, LK01.tiz_Role_7, LK01.tiz_Role_8, LK01.tiz_Role_9, LK01.tiz_Role_10, LK01.tiz_Role_11, LK01.tiz_bool_0, LK01.tiz_bool_1, LK01.tiz_bool_2, LK01.tiz_bool_3, LK01.tiz_bool_4, LK01.tiz_bool_5, LK01.tiz_bool_6, LK01.tiz_bool_7, LK01.tiz_bool_8, LK01.tiz_bool_9, LK01.tiz_bool_10, LK01.tiz_bool_11, LK01.tiz_list_0, LK01.tiz_list_1, LK01.tiz_list_2, LK01.tiz_list_3, LK01.tiz_list_4, LK01.tiz_list_5, LK01.tiz_list_6, LK01.tiz_list_7, LK01.tiz_list_8, LK01.tiz_list_9, LK01.tiz_list_10, LK01.tiz_list_11, LK01.tmz_derived_0, LK01.tmz_derived_1, LK01.tmz_derived_2, LK01.tmz_derived_3, LK01.tmz_derived_4, LK01.tmz_derived_5, LK01.tmz_makes_0, LK01.tmz_makes_1, LK01.tmz_makes_2, LK01.tmz_makes_3, LK01.tmz_makes_4, LK01.tmz_makes_5, LK01.tmz_reads_0, LK01.tmz_reads_1, LK01.tmz_reads_2, LK01.tmz_reads_3, LK01.tmz_reads_4, LK01.tmz_reads_5, LK01.tuz_Fresh_words_3, LK01.tuz_Fresh_words_5, LK01.tuz_Made_words_2, LK01.tuz_Made_words_4, LK01.tuz_Read_words_1, LK01.tuz_Read_words_4, LK01.tuz_Read_words_5, LK01.tmz_words_0, LK01.tmz_words_1, LK01.tmz_words_2, LK01.tmz_words_3, LK01.tmz_words_4, LK01.tmz_words_5, LK01.tmz_imaged_0, LK01.tmz_imaged_1, LK01.tmz_imaged_2, LK01.tmz_imaged_3, LK01.tmz_imaged_4, LK01.tmz_imaged_5, reduceIte, Nat.reduceAdd, Nat.reduceEqDiff] $[$l]?)
local macro_rules
 | `(tactic| simp! [$as,*] $[$l:location]?) => `(tactic| simp only [DN.wp_ret, DN.wp_pure, DN.th_rt, DN.th_bk, DN.th_ct, DN.th_ex, DN.wps_nx, DN.wps_bk, DN.wps_ct, DN.wps_retN, DN.wps_kill, DN.wps_set, DN.Za, DN.wps_ret, DN.wps_if, DN.wps_ift, DN.wps_iff, DN.wps_satt, DN.Zb, DN.wps_setI, DN.wps_for, DN.varW_some, DN.wp_var, DN.wp_retD, DN.wp_bin, DN.wp_un, DN.wp_app, DN.wp_cons, DN.wp_nil, DN.wp_tstD, DN.wp_asB, DN.wp_tstT, DN.wp_truB_bl, DN.wp_truB_tup, DN.wp_truB_lst, DN.wp_andB, DN.wp_orB, DN.wp_notB, DN.wp_valB, DN.wp_andV, DN.wp_orV, DN.wp_notV, DN.wp_ifE, DN.wp_noP, DN.wp_part, DN.wp_asJ, DN.wp_slice, DN.wp_seqI, DN.wp_argI, DN.wp_itm_tup, DN.wp_itm_lst, DN.wp_tup0, DN.wp_tup1, DN.wp_tup2, DN.wp_tup3, DN.wp_tup4, DN.wp_lst0, DN.wp_lst1, DN.wp_lst2, DN.wp_lst3, DN.wp_lst4, DN.wp_lst5, DN.wp_lst6, DN.wp_lst7, DN.wp_lst8, DN.wp_new0, DN.wp_arN1, DN.wp_arN2, DN.wp_arN3, DN.wp_arN4, DN.wp_arN5, DN.wp_arN6, DN.wp_arN7, DN.wp_addI, DN.wp_subI, DN.wp_negI, DN.wp_int, DN.wp_max2, DN.wp_ord, DN.wp_ltI, DN.wp_chn, DN.wp_eqI, DN.wp_len_lst, DN.wp_len_tup, DN.wp_ixT0, DN.wp_ixT1, DN.wp_ixT2, DN.wp_ixT3, DN.wp_mth, DN.wp_meth, DN.wp_methZ, DN.wp_methK, DN.wp_js0, DN.wp_js, DN.wp_jsM, DN.tyS_str, DN.wp_lc, DN.Zm, DN.sv_kill0, DN.sv_kill1, DN.sv_gets, DN.sv_get0, DN.sv_sets, DN.sv_set0, DN.sv_ift, DN.sv_iff, DN.sv_dect, DN.sv_decf, DN.sv_ft, DN.sv_nott, DN.sv_notf, DN.sv_cons_app, DN.sv_nil_app, DN.sv_len_cons, DN.sv_len_nil, DN.sv_and_self, DN.sv_and_true, DN.sv_true_and, DN.wps_par, DN.wp_frzV, DN.wp_ownI, DN.wp_augI, DN.wp_augT, DN.wp_callC, DN.wps_unp, DN.wp_dc, reduceIte, Nat.reduceAdd, $as,*] $[$l]?)
 | `(tactic| simp! $[$l:location]?) => `(tactic| simp only [DN.wp_ret, DN.wp_pure, DN.th_rt, DN.th_bk, DN.th_ct, DN.th_ex, DN.wps_nx, DN.wps_bk, DN.wps_ct, DN.wps_retN, DN.wps_kill, DN.wps_set, DN.Za, DN.wps_ret, DN.wps_if, DN.wps_ift, DN.wps_iff, DN.wps_satt, DN.Zb, DN.wps_setI, DN.wps_for, DN.varW_some, DN.wp_var, DN.wp_retD, DN.wp_bin, DN.wp_un, DN.wp_app, DN.wp_cons, DN.wp_nil, DN.wp_tstD, DN.wp_asB, DN.wp_tstT, DN.wp_truB_bl, DN.wp_truB_tup, DN.wp_truB_lst, DN.wp_andB, DN.wp_orB, DN.wp_notB, DN.wp_valB, DN.wp_andV, DN.wp_orV, DN.wp_notV, DN.wp_ifE, DN.wp_noP, DN.wp_part, DN.wp_asJ, DN.wp_slice, DN.wp_seqI, DN.wp_argI, DN.wp_itm_tup, DN.wp_itm_lst, DN.wp_tup0, DN.wp_tup1, DN.wp_tup2, DN.wp_tup3, DN.wp_tup4, DN.wp_lst0, DN.wp_lst1, DN.wp_lst2, DN.wp_lst3, DN.wp_lst4, DN.wp_lst5, DN.wp_lst6, DN.wp_lst7, DN.wp_lst8, DN.wp_new0, DN.wp_arN1, DN.wp_arN2, DN.wp_arN3, DN.wp_arN4, DN.wp_arN5, DN.wp_arN6, DN.wp_arN7, DN.wp_addI, DN.wp_subI, DN.wp_negI, DN.wp_int, DN.wp_max2, DN.wp_ord, DN.wp_ltI, DN.wp_chn, DN.wp_eqI, DN.wp_len_lst, DN.wp_len_tup, DN.wp_ixT0, DN.wp_ixT1, DN.wp_ixT2, DN.wp_ixT3, DN.wp_mth, DN.wp_meth, DN.wp_methZ, DN.wp_methK, DN.wp_js0, DN.wp_js, DN.wp_jsM, DN.tyS_str, DN.wp_lc, DN.Zm, DN.sv_kill0, DN.sv_kill1, DN.sv_gets, DN.sv_get0, DN.sv_sets, DN.sv_set0, DN.sv_ift, DN.sv_iff, DN.sv_dect, DN.sv_decf, DN.sv_ft, DN.sv_nott, DN.sv_notf, DN.sv_cons_app, DN.sv_nil_app, DN.sv_len_cons, DN.sv_len_nil, DN.sv_and_self, DN.sv_and_true, DN.sv_true_and, DN.wps_par, DN.wp_frzV, DN.wp_ownI, DN.wp_augI, DN.wp_augT, DN.wp_callC, DN.wps_unp, DN.wp_dc, reduceIte, Nat.reduceAdd] $[$l]?)
namespace LK01
open PySem DN
open L2 (ixN atI)
def jZ (xs : List P) : Prop := ∃ a b c : Int, xs = [.int a, .int b, .int c] ∧ 0 ≤ b ∧ b < 10007
theorem Ue {L : List MO} {n : Nat} {xs : List P} (h : L[n]? = some (.lst xs)) (hp : jZ xs) {m : Int} (h0 : 0 < m) (h1 : m < 1073741824) :
  ∃ (r : Int) (ys : List P), 0 ≤ r ∧ r < m ∧ jZ ys ∧ eU [.r n, .v (.int m)] L = some (.ok (.v (.int r)), L.set n (.lst ys)) := by
 obtain ⟨a, b, c, rfl, hb, hb2⟩ := hp
 obtain ⟨hn, hg⟩ := List.getElem?_eq_some_iff.mp h
 have hm0 : ¬ m ≤ 0 := by omega
 by_cases hc : 0 < a ∧ 0 < c
 ·refine ⟨a % m, [.int (a / m), .int b, .int (c - 1)], Int.emod_nonneg _ (by omega), Int.emod_lt_of_pos _ h0, ⟨_, _, _, rfl, hb, hb2⟩, ?_⟩
  unfold eU
  refine Oc ?_ uP (by simp)
  ·simp [bV, Dj, xK, xM, xO, xP, xQ, Ai, Aj, xR, xT, xU, xV, xW, xX, xY, xZ, yC, Ak, Am, Ao, Aq, yD, Ar, Av, rP, Ax, Ay, Az, bind, M.bnd, pure, M.ret, M.stuck, aC, aG, DN.bin, un, aO, aF, aM, Ba, Bb, Bc, Bf, Bg, Bh, Bj, asP, bM, bW, aR, cC, cA, bD, cJ, retS, gR, jV, nJ, qD, bB, gM, jN, iT, gQ, mZ, lN, tY, oM, intOp, bY, pN, fB, mW, tV, xH, dY, iQ, lO, cI, cR, fQ, eG, intD, bR, oN, iG, DN.keyD, atI, ixN, gU, gW, iU, jC, gD, hg, hc.1, hc.2, h0, h1, hn, List.getElem?_set]
 ·refine ⟨((b * 10 + 3) % 10007) % m, [.int a, .int ((b * 10 + 3) % 10007), .int c], Int.emod_nonneg _ (by omega), Int.emod_lt_of_pos _ h0, ⟨_, _, _, rfl, by omega, by omega⟩, ?_⟩
  unfold eU
  refine Oc ?_ uP (by simp)
  ·have hk : iK b 10 = true := by unfold iK; simp
   by_cases ha : 0 < a
   ·have hc' : ¬ 0 < c := fun z => hc ⟨ha, z⟩
    simp [bV, Dj, xK, xM, xO, xP, xQ, Ai, Aj, xR, xT, xU, xV, xW, xX, xY, xZ, yC, Ak, Am, Ao, Aq, yD, Ar, Av, rP, Ax, Ay, Az, bind, M.bnd, pure, M.ret, M.stuck, aC, aG, DN.bin, un, aO, aF, aM, Ba, Bb, Bc, Bf, Bg, Bh, Bj, asP, bM, bW, aR, cC, cA, bD, cJ, retS, gR, jV, nJ, qD, bB, gM, jN, iT, gQ, mZ, lN, tY, oM, intOp, bY, pN, fB, mW, tV, xH, dY, iQ, lO, cI, cR, fQ, eG, intD, bR, oN, iG, DN.keyD, atI, ixN, gU, gW, iU, jC, gD, hg, ha, hc', h0, h1, hn, hk, List.getElem?_set]
   ·simp [bV, Dj, xK, xM, xO, xP, xQ, Ai, Aj, xR, xT, xU, xV, xW, xX, xY, xZ, yC, Ak, Am, Ao, Aq, yD, Ar, Av, rP, Ax, Ay, Az, bind, M.bnd, pure, M.ret, M.stuck, aC, aG, DN.bin, un, aO, aF, aM, Ba, Bb, Bc, Bf, Bg, Bh, Bj, asP, bM, bW, aR, cC, cA, bD, cJ, retS, gR, jV, nJ, qD, bB, gM, jN, iT, gQ, mZ, lN, tY, oM, intOp, bY, pN, fB, mW, tV, xH, dY, iQ, lO, cI, cR, fQ, eG, intD, bR, oN, iG, DN.keyD, atI, ixN, gU, gW, iU, jC, gD, hg, ha, h0, h1, hn, hk, List.getElem?_set]
theorem ints_of (ns : List Int) : intsOf (ns.map P.int) = some ns := by
 induction ns with
 | nil => rfl
 | cons n ns ih => unfold intsOf; rw [List.map_cons]; simp [ih]
theorem aB8 {L : List MO} {ns : List Int} (hl : ns.length ≤ 63) {k : Nat} (hk : k < 1000) : ∃ ys, jZ ys ∧ yV [.v (.scr ns), .v (.int k)] L = some (.ok (.r L.length), L ++ [.lst ys]) := by
 have e1 : zP [.v (.scr ns)] L = some (.ok (.v (.int ns.sum)), L) := by
  unfold zP eG cR
  simp [ints_of]
 have e2 : jP [.v (.scr ns)] L = some (.ok (.v (.int ns.length)), L) := by
  unfold jP eG fQ cR
  simp
 have k1 : iK 17 k = true := by unfold iK; simp
 have k2 : iK 101 ns.sum = true := by unfold iK; simp
 have kz : (3 : Nat) ≤ sizeLine := aZ 3 (by omega)
 unfold yV
 by_cases hlt : k < ns.length
 ·have e3 : ∀ L, bR (.v (.scr ns)) (.v (.int k)) L = some (.ok (.v (.int ns[k])), L) := fun L => by
   simp [xK, xM, xO, xP, xQ, Ai, Aj, xR, xT, xU, xV, xW, xX, xY, xZ, yC, Ak, Am, Ao, Aq, yD, Ar, Av, rP, Ax, Ay, Az, bind, M.bnd, pure, M.ret, M.stuck, aC, aG, DN.bin, un, aO, aF, aM, Ba, Bb, Bc, Bf, Bg, Bh, Bj, asP, bM, bW, aR, cC, cA, bD, cJ, retS, gR, jV, nJ, qD, bB, gM, jN, iT, gQ, mZ, lN, tY, oM, intOp, bY, pN, fB, mW, tV, xH, dY, iQ, lO, cI, cR, fQ, eG, intD, bR, oN, iG, DN.keyD, atI, ixN, gU, gW, iU, jC, hlt]
  by_cases hb : (1000000000000000000 : Int) ≤ ns[k]
  ·refine ⟨[.int ns[k], .int ((17 * k + 5 + 101 * ns.sum + ns[k]) % 10007), .int 60], ⟨_, _, _, rfl, by omega, by omega⟩, ?_⟩
   refine Fx (L1 := L) (X := [.lst [.int ns[k], .int ((17 * k + 5 + 101 * ns.sum + ns[k]) % 10007), .int 60]]) (n := L.length) ?_ (aW.refl _) rfl (Nat.le_refl _) (by simp)
   refine xJ ?_
   simp [Dq, e1, e2, e3, k1, k2, hlt, hb, bind, M.bnd, pure, M.ret, aC, aG, DN.bin, aO, aF, aM, bM, bW, aR, cC, cA, bD, cJ, retS, bB, gM, intOp, bY, gD, fB, mW, dY, iQ, eG, intD, rP]
  ·refine ⟨[.int 0, .int ((17 * k + 5 + 101 * ns.sum + ns[k]) % 10007), .int 60], ⟨_, _, _, rfl, by omega, by omega⟩, ?_⟩
   refine Fx (L1 := L) (X := [.lst [.int 0, .int ((17 * k + 5 + 101 * ns.sum + ns[k]) % 10007), .int 60]]) (n := L.length) ?_ (aW.refl _) rfl (Nat.le_refl _) (by simp)
   refine xJ ?_
   simp [Dq, e1, e2, e3, k1, k2, hlt, hb, bind, M.bnd, pure, M.ret, aC, aG, DN.bin, aO, aF, aM, bM, bW, aR, cC, cA, bD, cJ, retS, bB, gM, intOp, bY, gD, fB, mW, dY, iQ, eG, intD, rP]
 ·refine ⟨[.int 0, .int ((17 * k + 5 + 101 * ns.sum) % 10007), .int 60], ⟨_, _, _, rfl, by omega, by omega⟩, ?_⟩
  refine Fx (L1 := L) (X := [.lst [.int 0, .int ((17 * k + 5 + 101 * ns.sum) % 10007), .int 60]]) (n := L.length) ?_ (aW.refl _) rfl (Nat.le_refl _) (by simp)
  refine xJ ?_
  simp [Dq, e1, e2, k1, k2, hlt, bind, M.bnd, pure, M.ret, aC, aG, DN.bin, aO, aF, aM, bM, bW, aR, cC, cA, bD, cJ, retS, bB, gM, intOp, bY, gD, fB, mW, dY, iQ, eG, intD, rP]
def dM (n : Nat) (L L1 : List MO) : Prop := ∃ ys, jZ ys ∧ L1 = L.set n (.lst ys)
theorem dM.of {n : Nat} {L : List MO} {xs : List P} (h : L[n]? = some (.lst xs)) (hp : jZ xs) : dM n L L := ⟨xs, hp, by
 obtain ⟨hn, e⟩ := List.getElem?_eq_some_iff.mp h
 rw [← e, List.set_getElem_self]⟩
theorem dM.len {n : Nat} {L L1 : List MO} (h : dM n L L1) : L1.length = L.length := by
 obtain ⟨ys, _, rfl⟩ := h
 simp
theorem dM.trans {n : Nat} {L L1 Lb : List MO} (h : dM n L L1) (k : dM n L1 Lb) : dM n L Lb := by
 obtain ⟨ys, _, rfl⟩ := h
 obtain ⟨zs, hz, rfl⟩ := k
 exact ⟨zs, hz, by rw [List.set_set]⟩
theorem Ug {n : Nat} {L L1 : List MO} (hn : n < L.length) (h : dM n L L1) (X : List MO) {m : Int} (h0 : 0 < m) (h1 : m < 1073741824) : ∃ (r : Int) (Lb : List MO), 0 ≤ r ∧ r < m ∧ dM n L Lb ∧ eU [.r n, .v (.int m)] (L1 ++ X) = some (.ok (.v (.int r)), Lb ++ X) := by
 obtain ⟨ys, hy, rfl⟩ := h
 have hl : n < (L.set n (.lst ys)).length := by simpa using hn
 obtain ⟨r, zs, a1, a2, a3, e⟩ := Ue (L := L.set n (.lst ys) ++ X) (n := n) (xs := ys) (by rw [List.getElem?_append_left hl, List.getElem?_set_self hn]) hy h0 h1
 refine ⟨r, L.set n (.lst zs), a1, a2, ⟨zs, a3, rfl⟩, ?_⟩
 rw [e, List.set_append_left _ _ hl, List.set_set]
theorem qW {n : Nat} {L L1 : List MO} (hn : n < L.length) (h : dM n L L1) {m : Int} (h0 : 0 < m) (h1 : m < 1073741824) : ∃ (r : Int) (Lb : List MO), 0 ≤ r ∧ r < m ∧ dM n L Lb ∧ eU [.r n, .v (.int m)] L1 = some (.ok (.v (.int r)), Lb) := by
 have := Ug hn h [] h0 h1
 simpa using this
theorem dM.get {n : Nat} {L L1 : List MO} (hn : n < L.length) (h : dM n L L1) : ∃ ys, jZ ys ∧ L1[n]? = some (.lst ys) := by
 obtain ⟨ys, hy, rfl⟩ := h
 exact ⟨ys, hy, List.getElem?_set_self hn⟩
theorem dM.ne {n m : Nat} {L L1 : List MO} (h : dM n L L1) (hm : n ≠ m) : L1[m]? = L[m]? := by
 obtain ⟨ys, hy, rfl⟩ := h
 exact List.getElem?_set_ne hm
theorem aB9 {n i : Nat} {p : P} (h : ((List.range n).map fun i : Nat => P.int (0 + i))[i]? = some p) : i < n ∧ p = .int i := by
 rw [List.getElem?_map] at h
 cases e : (List.range n)[i]? with
 | none => rw [e] at h; cases h
 | some k =>
  rw [e] at h
  obtain ⟨hk, ek⟩ := List.getElem?_eq_some_iff.mp e
  simp at hk ek
  refine ⟨hk, ?_⟩
  have := Option.some.inj h
  rw [← this, ← ek]
  simp
theorem Uh {L : List MO} {rs : List Int} (hz : rs.length ≤ 100) : Dm [.v (.lst (rs.map P.int))] L = some (.ok (.v (.str (tW (rs.map iI)))), L) := by
 refine nR (cQ ?_)
 show wps Jz [some (.v (.lst (rs.map P.int))), none, none] L _
 unfold Jz
 rw [aH]
 simp!
 rw [aJ]
 simp!
 refine Zk (fun p => match p with
  | .int r => some (.str (tW [iI r]))
  | _ => none) (fun _ => trivial) (aZ _ (by rw [List.length_map]; omega)) (fun p hp acc => ?_) ?_
 ·obtain ⟨r, _, rfl⟩ := List.mem_map.mp hp
  refine ⟨_, rfl, ?_⟩
  have h1 := Int.emod_nonneg r (show (26 : Int) ≠ 0 by decide)
  have h2 := Int.emod_lt_of_pos r (show (0 : Int) < 26 by decide)
  simp! [Bs]
  refine ⟨by decide, ?_⟩
  rw [show (Str.ofString "abcdefghijklmnopqrstuvwxyz") = qK from rfl, Ow Z7 h1 (Z8 (by omega))]
  exact ⟨rfl, _, rfl, rfl⟩
 ·have e : (rs.map P.int).filterMap (fun p => match p with
   | .int r => some (P.str (tW [iI r]))
   | _ => none) = ((rs.map iI).map fun c => tW [c]).map P.str := by
   clear hz
   induction rs with
   | nil => rfl
   | cons r rs ih => simp only [List.map_cons, List.filterMap_cons, ih]
  rw [e, Zj (zs := (rs.map iI).map fun c => tW [c]) (by
   generalize (rs.map iI).map (fun c => tW [c]) = ys
   induction ys with
   | nil => rfl
   | cons y ys ih => rw [List.map_cons]; unfold strsOf; rw [ih]; rfl) (by
   have e0 : ("" : Str).length = 0 := by decide +kernel
   rw [e0, Nat.mul_zero, Nat.add_zero, List.map_map]
   have : (((rs.map iI).map ((fun x : Str => x.length) ∘ fun c => tW [c])).sum) ≤ rs.length := by
    clear e hz
    induction rs with
    | nil => simp
    | cons r rs ih =>
     simp only [List.map_cons, List.sum_cons, List.length_cons, Function.comp, dG, List.length_nil] at ih ⊢
     omega
   omega), Z9]
  refine dZ ⟨rfl, rfl⟩
theorem aCA {L L1 : List MO} {n : Nat} (hn : n < L.length) (h : dM n L L1) : ∃ (ns : List Str) (Lb : List MO), Names ns ∧ dM n L Lb ∧ yU [.r n] L1 = some (.ok (.v (.lst (ns.map P.str))), Lb) := by
 obtain ⟨s, Lb, s0, s1, p2, e2⟩ := qW hn h (m := 3) (by decide) (by decide)
 obtain ⟨sh, L3, sh0, sh1, p3, e3⟩ := qW hn p2 (m := 26) (by decide) (by decide)
 obtain ⟨st, L4, st0, st1, p4, e4⟩ := qW hn p3 (m := 6) (by decide) (by decide)
 obtain ⟨pl, L5, pl0, pl1, p5, e5⟩ := qW hn p4 (m := 8) (by decide) (by decide)
 obtain ⟨sz, L6, sz0, sz1, p6, e6⟩ := qW hn p5 (m := 8) (by decide) (by decide)
 have k2 : iK 2 st = true := by unfold iK; simp
 have wf := fun {L1 L2 : List MO} {d : D} {ds : List D} {E : EX} {Q : D → List MO → Prop} (e : eU ds L1 = some (.ok d, L2)) => bG (E := E) (Q := Q) e
 have w : wp (yU [.r n]) L1 oY fun d Lb => ∃ ns : List Str, Names ns ∧ dM n L Lb ∧ d = .v (.lst (ns.map P.str)) := by
  refine cQ ?_
  show wps J8 [some (.r n), none, none, none, none, none, none, none, none, none, none, none] L1 _
  generalize hK : (KK.mk _ _ _ _ _ : KK) = K
  unfold J8
  rw [aH]
  simp! [wf e2]
  rw [aJ, aH]
  simp! [wf e3]
  rw [aJ, aH]
  simp! [wf e4, Gi, k2]
  rw [aJ, aH]
  simp! [wf e5]
  rw [aJ, aH]
  simp! [wf e6]
  rw [aJ, aH]
  simp!
  rw [O6 (by decide) (by decide), show (8 : Int).toNat = 8 from rfl]
  refine O5 (fun i ys L' => ∃ rs : List Int, ys = rs.map P.int ∧ rs.length = i ∧ dM n L L') ⟨[], rfl, rfl, p6⟩ (fun _ _ _ _ => trivial) (aZ _ (by simp)) (fun i ys L' hj => ?_) (fun i p ys L' hp hj => ?_) (fun ys L7 hj => ?_)
  ·obtain ⟨rs, rfl, hl, pj⟩ := hj
   refine ⟨pj.len.trans p6.len.symm, ?_, by rw [List.length_map, hl]; exact Nat.le_refl _⟩
   obtain ⟨a, _, rfl⟩ := pj
   obtain ⟨b, _, rfl⟩ := p6
   have : L.set n (.lst a) = (L.set n (.lst b)).set n (.lst a) := by rw [List.set_set]
   rw [this]
   exact uP
  ·obtain ⟨rs, rfl, hl, pj⟩ := hj
   refine ⟨_, rfl, ?_⟩
   obtain ⟨r, L', r0, r1, pj2, e⟩ := Ug hn pj [.lst (rs.map P.int)] (m := 26) (by decide) (by decide)
   simp! [wf e]
   exact ⟨.int r, L', rfl, rfl, rs ++ [r], by simp, by simp [hl], pj2⟩
  ·obtain ⟨rs, rfl, hl, p7⟩ := hj
   have hl : rs.length = 8 := by rw [hl]; simp
   rw [if_neg Bool.false_ne_true, bG (Uh (by rw [hl]; decide))]
   generalize hw : rs.map iI = w
   have hwl : w.length = 8 := by rw [← hw, List.length_map, hl]
   have hwlow : yH w := fun c hc => by
    rw [← hw] at hc
    obtain ⟨r, _, rfl⟩ := List.mem_map.mp hc
    exact Gu r
   rw [aJ]
   simp!
   rw [aH]
   simp!
   rw [aJ, aH]
   simp!
   rw [O6 (by decide) (by decide), show (8 : Int).toNat = 8 from rfl]
   have nlen : ∀ k, k < 8 → (jG s sh (1 + 2 * st) pl (1 + sz) w k).length ≤ 8 := fun k hk => by
    have := (Ox (s := s) (sh := sh) (st := 1 + 2 * st) (k := k) hwl hwlow pl0 (show 0 < 1 + sz by omega) (show 1 + sz ≤ 8 by omega) hk).2.2
    rw [dG] at this
    exact this
   refine Bo (fun i τ L' => (∃ z, τ = [none, some (.v (.int s)), some (.v (.int sh)), some (.v (.int (1 + 2 * st))), some (.v (.int pl)), some (.v (.int (1 + sz))), some (.v (.str (tW w))), some (.r L7.length), none, none, none, z]) ∧ i ≤ 8 ∧ L' = L7 ++ [.lst (((List.range i).map fun k => tW (jG s sh (1 + 2 * st) pl (1 + sz) w k)).map P.str)]) _ 0
    ⟨⟨none, rfl⟩, by decide, rfl⟩ (fun _ _ _ _ => trivial) ?_ ?_
   ·rintro i p τ L' hp ⟨⟨z, rfl⟩, hi8, rfl⟩
    obtain ⟨hi, rfl⟩ := aB9 hp
    simp only [Nat.zero_add] at hi8 ⊢
    generalize hacc : ((List.range i).map fun k => tW (jG s sh (1 + 2 * st) pl (1 + sz) w k)).map P.str = acc
    have hal : acc.length = i := by rw [← hacc]; simp
    have km : iK (1 + 2 * st) i = true := by unfold iK; simp; omega
    have km3 : iK 3 i = true := by unfold iK; simp
    have hdiv : (0 : Int) < 1 + sz := by omega
    have m0 := Int.emod_nonneg pl (show (1 + sz) ≠ 0 by omega)
    have m1 := Int.emod_lt_of_pos pl hdiv
    have z40 : (40 : Nat) ≤ sizeLine := aZ 40 (by decide)
    have ew := Uh (L := L7 ++ [.lst acc]) (rs := [sh + (1 + 2 * st) * i]) (by simp)
    rw [List.map_cons, List.map_nil, List.map_cons, List.map_nil] at ew
    have wl : (tW w).length ≤ sizeLine := by rw [dG, hwl]; omega
    refine ⟨_, rfl, ?_⟩
    refine Bm ?_
    generalize hK2 : (KK.mk _ _ _ _ _ : KK) = K2
    show wps _ [none, some (.v (.int s)), some (.v (.int sh)), some (.v (.int (1 + 2 * st))), some (.v (.int pl)), some (.v (.int (1 + sz))), some (.v (.str (tW w))), some (.r L7.length), some (.v (.int i)), none, none, z] _ _
    have app : ∀ nm : List Nat, nm.length ≤ 30 → nm = jG s sh (1 + 2 * st) pl (1 + sz) w i → K2.nx [none, some (.v (.int s)), some (.v (.int sh)), some (.v (.int (1 + 2 * st))), some (.v (.int pl)), some (.v (.int (1 + sz))), some (.v (.str (tW w))), some (.r L7.length), none, none, none, some (.v (.str (tW nm)))] (L7 ++ [.lst (acc ++ [.str (tW nm)])]) := fun nm _ e => by
     rw [← hK2, e]
     refine ⟨_, [], (List.append_nil _).symm, ?_, ?_, ?_, ⟨_, rfl⟩, by omega, ?_⟩
     ·simp
     ·exact aAD _ _ _
     ·exact qL (lB (lB (lB (lB (lB (lB (yJ (by simp) (qL (qL (qL (lB Bx)))))))))))
     ·rw [← hacc, List.range_succ]
      simp
    have hK7 : (L7 ++ [MO.lst acc])[L7.length]? = some (.lst acc) := yI _ _
    have al : acc.length < sizeLine := by omega
    have tyr : gW (L7 ++ [.lst acc]) (.r L7.length) = true := by simp [gW, cR, cI]
    simp!
    rw [aH]
    simp! [Gi, km, bG ew]
    rw [aJ, aH]
    simp! [Bs]
    refine ⟨hdiv, ?_⟩
    rw [aJ, aH]
    simp! [uW, Br, uV m0, rW]
    rw [Ov (by omega) (by omega), rW]
    refine ⟨wl, ?_, wl, ?_, ?_⟩
    ·rw [dG, dG, List.length_take]; simp; omega
    ·simp only [dG, List.length_append, List.length_take, List.length_drop, List.length_singleton, List.length_cons, List.length_nil]; omega
    rw [aJ]
    simp!
    rw [aH]
    simp!
    have a0 : (0 : Int) ≤ (i + pl) % 8 := Int.emod_nonneg _ (by decide)
    have a1 : (0 : Int) ≤ (pl + 3 * i) % 8 := Int.emod_nonneg _ (by decide)
    by_cases c1 : s = 1
    ·have c2 : ¬ s = 2 := by omega
     simp! [decide_eq_true c1, uW, Bs]
     refine ⟨by decide, wl, ?_⟩
     rw [uV (by omega), aJ, aH]
     simp! [decide_eq_false c2]
     rw [aJ]
     simp! [tyr]
     rw [Gk hK7 al, rY]
     refine app _ ?_ ?_
     ·rw [List.length_take]; omega
     ·unfold jG; rw [if_pos c1]
    ·simp! [decide_eq_false c1]
     rw [aJ, aH]
     by_cases c2 : s = 2
     ·simp! [decide_eq_true c2, uW, Bs, Gi, km3]
      refine ⟨by decide, wl, ?_⟩
      rw [Ov (by omega) (by omega), Br, rW]
      refine ⟨?_, ?_⟩
      ·simp only [dG, List.length_take, List.length_drop, List.length_singleton, List.length_cons, List.length_nil]; omega
      rw [aJ]
      simp! [tyr]
      rw [Gk hK7 al, rY]
      refine app _ ?_ ?_
      ·simp only [List.length_append, List.length_take, List.length_drop, List.length_singleton, List.length_cons, List.length_nil]; omega
      ·unfold jG; rw [if_neg c1, if_pos c2]; rfl
     ·simp! [decide_eq_false c2]
      rw [aJ]
      simp! [tyr]
      rw [Gk hK7 al, rY]
      refine app _ ?_ ?_
      ·simp only [List.length_append, List.length_take, List.length_drop, List.length_singleton, List.length_cons, List.length_nil]; omega
      ·unfold jG; rw [if_neg c1, if_neg c2]
   ·rintro τ L' ⟨⟨z, rfl⟩, _, rfl⟩
    rw [aJ]
    simp!
    rw [← hK]
    have e8 : 0 + ((List.range 8).map fun i : Nat => P.int (0 + i)).length = 8 := by simp
    rw [e8]
    refine ⟨L7, [.lst (((List.range 8).map fun k => tW (jG s sh (1 + 2 * st) pl (1 + sz) w k)).map P.str)], rfl, ?_, ?_, ?_⟩
    ·rw [p7.len, h.len]
    ·obtain ⟨a, _, rfl⟩ := p7
     obtain ⟨b, _, rfl⟩ := h
     have : L.set n (.lst a) = (L.set n (.lst b)).set n (.lst a) := by rw [List.set_set]
     rw [this]
     exact uP
    ·rw [if_neg (by rw [p7.len, h.len]; exact Nat.lt_irrefl _)]
     refine ⟨_, by rw [p7.len, h.len, Nat.sub_self]; rfl, ?_⟩
     rw [if_neg Bool.false_ne_true]
     refine ⟨_, ⟨by simp, aAB hwl pl0 st0 st1 (by omega) (by omega), fun x hx => ?_⟩, p7, rfl⟩
     obtain ⟨k, hk, rfl⟩ := List.mem_map.mp hx
     exact Ox hwl hwlow pl0 (by omega) (by omega) (List.mem_range.mp hk)
 obtain ⟨d, Lb, e, ns, h1, h2, rfl⟩ := nO w
 exact ⟨ns, Lb, h1, h2, e⟩
theorem Ui {L : List MO} {E : EX} {Q : D → List MO → Prop} {n : Nat} {xs : List P} {m : Int} (hL : L[n]? = some (.lst xs)) (hp : jZ xs) (h0 : 0 < m) (h1 : m < 1073741824)
  (h : ∀ r ys, 0 ≤ r → r < m → jZ ys → Q (.v (.int r)) (L.set n (.lst ys))) : wp (eU [.r n, .v (.int m)]) L E Q := by
 obtain ⟨r, ys, a, b, c, e⟩ := Ue hL hp h0 h1
 rw [bG e]
 exact h r ys a b c
theorem aCB {L : List MO} {E : EX} {Q : D → List MO → Prop} {ns : List Int} (hl : ns.length ≤ 63) (k : Nat) (hk : k < 1000)
  (h : ∀ ys, jZ ys → Q (.r L.length) (L ++ [.lst ys])) : wp (yV [.v (.scr ns), .v (.int k)]) L E Q := by
 obtain ⟨ys, a, e⟩ := aB8 (L := L) hl hk
 rw [bG e]
 exact h ys a
theorem aCC {L : List MO} {E : EX} {Q : D → List MO → Prop} {n : Nat} {xs : List P} (hL : L[n]? = some (.lst xs)) (hp : jZ xs)
  (h : ∀ ns ys, Names ns → jZ ys → Q (.v (.lst (ns.map P.str))) (L.set n (.lst ys))) : wp (yU [.r n]) L E Q := by
 obtain ⟨ns, Lb, a, ⟨ys, b, rfl⟩, e⟩ := aCA (List.getElem?_eq_some_iff.mp hL).1 (dM.of hL hp)
 rw [bG e]
 exact h ns ys a b
theorem Dr {x : Str} {L : List MO} {E : EX} {Q : D → List MO → Prop} (h : Asc x) (hN : Nm x → Q (.v .non) L) (hB : ¬ Nm x → E 21 [.str x] L) : wp (Dh [.v (.str x)]) L E Q := by
 refine cQ ?_
 show wps Iu [some (.v (.str x)), none] L _
 unfold Iu
 simp! [Gj]
 refine ⟨O9 h, ?_⟩
 have fin : ¬ Nm x → wps (uJ 21 (aF (aC 0) aM)) [some (.v (.str x)), none] L ⟨fun _ L1 => oX false L Q (.v .non) L1, oX false L Q, fun _ _ => False, fun _ _ => False, fun _ c fs L1 => ∃ Lb X, L1 = Lb ++ X ∧ Lb.length = L.length ∧ aW L Lb ∧ E c fs Lb⟩ := fun hb => by
  rw [Zq]
  simp!
  exact ⟨rfl, L, [], by simp, rfl, aW.refl _, hB hb⟩
 by_cases c1 : (1 : Int) ≤ x.length
 ·by_cases c2 : (x.length : Int) ≤ 8
  ·simp! [decide_eq_true c1, decide_eq_true c2, aAJ]
   refine aAF (fun c => .str (tW [c])) _ (fun c => .bl (!decide (97 ≤ c ∧ c ≤ 122))) (fun _ => trivial) (O9 h) (fun c _ acc => ?_) ?_
   ·refine ⟨_, rfl, ?_⟩
    simp!
    rw [show (Str.ofString "abcdefghijklmnopqrstuvwxyz") = qK from rfl, aAI]
    refine ⟨rfl, ?_⟩
    rw [decide_eq_decide.mpr (aAK c), Bool.true_xor]
   ·rw [if_neg Bool.false_ne_true]
    rw [aAG (aAH (fun c : Nat => !decide (97 ≤ c ∧ c ≤ 122)) _)]
    simp!
    by_cases c3 : ∀ c ∈ x.cps.toList, 97 ≤ c ∧ c ≤ 122
    ·have e3 : ((x.cps.toList.map fun c => !decide (97 ≤ c ∧ c ≤ 122)).any id) = false := by
      rw [List.any_eq_false]
      intro b hb
      obtain ⟨c, hc, rfl⟩ := List.mem_map.mp hb
      simp [c3 c hc]
     rw [e3]
     simp!
     refine dZ (hN ⟨c3, ?_, ?_⟩) <;> omega
    ·have e3 : ((x.cps.toList.map fun c => !decide (97 ≤ c ∧ c ≤ 122)).any id) = true := by
      rw [List.any_eq_true]
      obtain ⟨c, hc⟩ := Classical.not_forall.mp c3
      obtain ⟨hc1, hc2⟩ := Classical.not_imp.mp hc
      exact ⟨_, List.mem_map.mpr ⟨c, hc1, rfl⟩, by simp only [id]; rw [decide_eq_false hc2]; rfl⟩
     rw [e3]
     simp!
     exact fin fun hn => c3 hn.1
  ·simp! [decide_eq_true c1, decide_eq_false c2]
   exact fin fun hn => c2 (by have := hn.2.2; omega)
 ·simp! [decide_eq_false c1]
  exact fin fun hn => c1 (by have := hn.2.1; omega)
theorem Uj {c : Nat} {n g : Str} {L : List MO} {E : EX} {Q : D → List MO → Prop} (hc : aN c = [0, 1]) (h1 : Nm n) (h2 : Nm g) (h : Q (.v (.ins c [.str n, .str g])) L) : wp (gH true c 3 jJ [.v (.str n), .v (.str g)]) L E Q := by
 refine O8 rfl ?_
 unfold jJ
 refine Og ?_
 show wps yO [some (.r L.length), some (.v (.str n)), some (.v (.str g))] _ _
 unfold yO
 rw [aH]
 simp!
 refine Dr (uX h1) (fun _ => ?_) fun z => absurd h1 z
 rw [aJ, aH]
 simp!
 refine Dr (uX h2) (fun _ => ?_) fun z => absurd h2 z
 rw [aJ, aH]
 simp!
 rw [O7 (yI L _) (by rw [hc]; decide), rY, aJ]
 simp!
 rw [O7 (yI L _) (by rw [hc]; decide), rY]
 exact ⟨L, [], [(0, D.v (.str n)), (1, D.v (.str g))], _, rfl, rfl, aW.refl _, by unfold uG; rw [hc]; rfl, h⟩
def yW : Str := " !\"#$&'()*+,-./0123456789:;<=>?@ABCDEFGHIJKLMNOPQRSTUVWXYZ[\\]^_`{|}~"
theorem Uk : yW.length = 68 := by decide +kernel
theorem aCD {i : Nat} (h : i < 68) : ∃ c, yW.cps.toList[i]? = some c ∧ c < 128 ∧ ¬ (97 ≤ c ∧ c ≤ 122) := by
 have key : ∀ j : Fin 68, (yW.cps.toList[j.val]?.any fun c => decide (c < 128) && !decide (97 ≤ c ∧ c ≤ 122)) = true := by decide +kernel
 have := key ⟨i, h⟩
 dsimp only at this
 cases e : yW.cps.toList[i]? with
 | none => rw [e] at this; cases this
 | some c =>
  rw [e] at this
  refine ⟨c, rfl, ?_⟩
  simp only [Option.any_some, Bool.and_eq_true, decide_eq_true_eq, Bool.not_eq_true', decide_eq_false_iff_not] at this
  exact this
theorem aCE {L L1 : List MO} {n : Nat} {x : Str} (hn : n < L.length) (h : dM n L L1) (hx : Nm x) : ∃ (y : Str) (Lb : List MO), Bad y ∧ dM n L Lb ∧ yQ [.r n, .v (.str x)] L1 = some (.ok (.v (.str y)), Lb) := by
 obtain ⟨l, rfl⟩ : ∃ l, x = tW l := ⟨_, (Gq x).symm⟩
 obtain ⟨hl, h1, h8⟩ := hx
 rw [jW] at hl
 rw [dG] at h1 h8
 have z : (600 : Nat) ≤ sizeLine := aZ 600 (by decide)
 obtain ⟨at_, L2, a0, a1, p2, e2⟩ := qW hn h (m := (l.length : Int)) (by omega) (by omega)
 obtain ⟨si, L3, s0, s1, p3, e3⟩ := qW hn p2 (m := (68 : Nat)) (by decide) (by decide)
 obtain ⟨k, L4, k0, k1, p4, e4⟩ := qW hn p3 (m := (9 : Nat)) (by decide) (by decide)
 obtain ⟨c, ec, c1, c2⟩ := aCD (i := si.toNat) (by omega)
 have wf := fun {L1 L2 : List MO} {d : D} {ds : List D} {E : EX} {Q : D → List MO → Prop} (e : eU ds L1 = some (.ok d, L2)) => bG (E := E) (Q := Q) e
 have l7 : Nat := 0
 have hl128 : ∀ d ∈ l, d < 128 := fun d hd => by have := hl d hd; omega
 have hne : l ≠ [] := fun z => by rw [z] at h1; exact absurd h1 (by decide)
 let texts : List Str := [tW [], tW [97, 97, 97, 97, 97, 97, 97, 97, 97], tW (l.take at_.toNat ++ [c] ++ l.drop (at_ + 1).toNat), tW (l.take at_.toNat ++ [c] ++ l.drop (at_ + 1).toNat), Txt.upper (tW l),
  tW ((List.replicate (9 : Int).toNat l).flatten.take 9), tW ((List.replicate (20 : Int).toNat l).flatten.take 20), tW ([32] ++ l.take 7), tW (l.take 7 ++ [32])]
 have rl : ∀ k : Nat, ((List.replicate k l).flatten).length = k * l.length := fun k => by
  induction k with
  | zero => simp
  | succ k ih => rw [List.replicate_succ, List.flatten_cons, List.length_append, ih, Nat.add_mul, Nat.one_mul, Nat.add_comm]
 have rm : ∀ k : Nat, ∀ d ∈ (List.replicate k l).flatten, d < 128 := fun k d hd => by
  obtain ⟨m, hm, hd⟩ := List.mem_flatten.mp hd
  rw [List.eq_of_mem_replicate hm] at hd
  exact hl128 d hd
 have up : Txt.upper (tW l) = tW (l.map PyProof.Rows.up1) := by
  rw [PyProof.Rows.upper_ascii (by rw [jW]; exact hl128)]
  unfold tW
  simp
 have hbad : ∀ t ∈ texts, Bad t := by
  intro t ht
  have cut : ∀ d ∈ l.take at_.toNat ++ [c] ++ l.drop (at_ + 1).toNat, d < 128 := fun d hd => by
   rcases List.mem_append.mp hd with z | z
   ·rcases List.mem_append.mp z with z | z
    ·exact hl128 d (List.mem_of_mem_take z)
    ·rw [List.mem_singleton.mp z]; exact c1
   ·exact hl128 d (List.mem_of_mem_drop z)
  have sp : Bad (tW (l.take at_.toNat ++ [c] ++ l.drop (at_ + 1).toNat)) := qN cut (by simp only [List.length_append, List.length_take, List.length_drop, List.length_singleton]; omega) (.inr (.inr ⟨c, by simp, c2⟩))
  have t7 : ∀ d ∈ l.take 7, d < 128 := fun d hd => hl128 d (List.mem_of_mem_take hd)
  simp only [texts, List.mem_cons, List.mem_nil_iff, or_false] at ht
  rcases ht with rfl | rfl | rfl | rfl | rfl | rfl | rfl | rfl | rfl
  ·exact qN (by simp) (by simp) (.inl rfl)
  ·exact qN (by decide) (by decide) (.inr (.inl (by decide)))
  ·exact sp
  ·exact sp
  ·rw [up]
   refine qN (fun d hd => ?_) (by rw [List.length_map]; omega) (.inr (.inr ?_))
   ·obtain ⟨e, he, rfl⟩ := List.mem_map.mp hd
    have := hl e he
    unfold PyProof.Rows.up1
    split <;> omega
   ·obtain ⟨a, t, rfl⟩ := List.exists_cons_of_ne_nil hne
    refine ⟨PyProof.Rows.up1 a, by simp, ?_⟩
    have := hl a List.mem_cons_self
    unfold PyProof.Rows.up1
    rw [if_pos this]
    omega
  ·refine qN (fun d hd => rm _ d (List.mem_of_mem_take hd)) (by rw [List.length_take]; omega) (.inr (.inl ?_))
   rw [List.length_take, rl, show (9 : Int).toNat = 9 from rfl]
   omega
  ·refine qN (fun d hd => rm _ d (List.mem_of_mem_take hd)) (by rw [List.length_take]; omega) (.inr (.inl ?_))
   rw [List.length_take, rl, show (20 : Int).toNat = 20 from rfl]
   omega
  ·refine qN (fun d hd => ?_) (by simp only [List.length_append, List.length_take, List.length_singleton]; omega) (.inr (.inr ⟨32, by simp, by decide⟩))
   rcases List.mem_append.mp hd with z | z
   ·rw [List.mem_singleton.mp z]; decide
   ·exact t7 d z
  ·refine qN (fun d hd => ?_) (by simp only [List.length_append, List.length_take, List.length_singleton]; omega) (.inr (.inr ⟨32, by simp, by decide⟩))
   rcases List.mem_append.mp hd with z | z
   ·exact t7 d z
   ·rw [List.mem_singleton.mp z]; decide
 have hk : k.toNat < texts.length := by show k.toNat < 9; omega
 refine ⟨texts[k.toNat], L4, hbad _ (List.getElem_mem hk), p4, ?_⟩
 have hx : (texts.map P.str)[k.toNat]? = some (P.str texts[k.toNat]) := by rw [List.getElem?_map, List.getElem?_eq_getElem hk]; rfl
 refine nR (cQ ?_)
 show wps Jc [some (.r n), some (.v (.str (tW l))), none, none, none, none, none] L1 _
 generalize hK : (KK.mk _ _ _ _ _ : KK) = K
 have zl : (tW l).length ≤ sizeLine := by rw [dG]; omega
 unfold Jc
 rw [aH]
 simp!
 rw [aJ, aH]
 simp! [Gj, dG]
 refine ⟨by omega, ?_⟩
 rw [wf e2, aJ, aH]
 simp! [Gj]
 rw [show (Str.ofString " !\"#$&'()*+,-./0123456789:;<=>?@ABCDEFGHIJKLMNOPQRSTUVWXYZ[\\]^_`{|}~") = yW from rfl, Uk]
 refine ⟨by omega, ?_⟩
 rw [wf e3, Ow (by rw [Uk]; omega) s0 ec, aJ]
 simp!
 rw [aH]
 simp! [uW, Br]
 rw [uV a0, Z5 (by omega), rW, rW]
 refine ⟨zl, ?_, zl, ?_, ?_⟩
 ·simp only [dG, List.length_take, List.length_singleton]; omega
 ·simp only [dG, List.length_append, List.length_take, List.length_drop, List.length_singleton]; omega
 rw [aJ]
 simp!
 rw [aH]
 simp! [aAQ, dG]
 refine ⟨by simp; omega, ?_⟩
 rw [aJ]
 simp!
 rw [aH]
 simp! [aAP, uW, dG]
 refine ⟨⟨by decide, by decide, by omega⟩, ?_⟩
 rw [Pk l (by decide) hne, uV (by decide)]
 refine ⟨by rw [dG, rl, show (9 : Int).toNat = 9 from rfl]; omega, ⟨by decide, by decide, by omega⟩, ?_⟩
 rw [Pk l (by decide) hne, uV (by decide)]
 refine ⟨by rw [dG, rl, show (20 : Int).toNat = 20 from rfl]; omega, ?_⟩
 rw [Gh]
 refine ⟨by simp only [List.length_cons, List.length_nil]; omega, ?_⟩
 rw [aJ, aH]
 simp! [uW, Br]
 rw [uV (by decide), show (Str.ofString " ") = tW [32] from by decide +kernel, rW, rW]
 refine ⟨zl, ?_, zl, ?_, ?_⟩
 ·simp only [dG, List.length_take, List.length_cons, List.length_nil]; omega
 ·simp only [dG, List.length_take, List.length_cons, List.length_nil]; omega
 rw [Gh]
 refine ⟨by simp only [List.length_append, List.length_cons, List.length_nil]; omega, ?_⟩
 rw [aJ]
 simp!
 rw [wf e4]
 have hx' : ([P.str "", .str "aaaaaaaaa", .str (tW (l.take at_.toNat ++ [c] ++ l.drop (at_ + 1).toNat)), .str (tW (l.take at_.toNat ++ [c] ++ l.drop (at_ + 1).toNat)), .str (Txt.upper (tW l)),
  .str (tW ((List.replicate (9 : Int).toNat l).flatten.take (9 : Int).toNat)), .str (tW ((List.replicate (20 : Int).toNat l).flatten.take (20 : Int).toNat)), 
  .str (tW (32 :: l.take (7 : Int).toNat)), .str (tW (l.take (7 : Int).toNat ++ [32]))] : List P)[k.toNat]? = some (P.str texts[k.toNat]) := by
  rw [← hx]
  have e1 : ("" : Str) = tW [] := by decide +kernel
  have e2 : ("aaaaaaaaa" : Str) = tW [97, 97, 97, 97, 97, 97, 97, 97, 97] := by decide +kernel
  rw [e1, e2]
  rfl
 rw [Bw k0 hx', ← hK]
 refine Zo (keep := false) (Q := fun x L' => x = .v (.str texts[k.toNat]) ∧ L' = L4) (p4.len.trans h.len.symm) ?_ ⟨rfl, rfl⟩
 obtain ⟨a, _, rfl⟩ := p4
 obtain ⟨b, _, rfl⟩ := h
 have : L.set n (.lst a) = (L.set n (.lst b)).set n (.lst a) := by rw [List.set_set]
 rw [this]
 exact uP
def yX : Nat → Nat
 | 0 => 1 | 1 => 2 | 2 => 3 | 3 => 4 | 4 => 5 | _ => 0
def Kc : Nat → Nat
 | 0 => 0 | 1 => 2 | 2 => 2 | 3 => 4 | 4 => 4 | _ => 5
def jK (m : Nat) (n g : Str) : P := .ins (yX m) [.str n, .str g]
theorem Ul {c : Nat} {n g : Str} {L : List MO} {E : EX} {Q : D → List MO → Prop} (hc : aN c = [0, 1]) (a1 : Asc n) (a2 : Asc g) (h1 : ¬ Nm n → E 21 [.str n] L) (h2 : Nm n → ¬ Nm g → E 21 [.str g] L) (h : Nm n → Nm g → Q (.v (.ins c [.str n, .str g])) L) : wp (gH true c 3 jJ [.v (.str n), .v (.str g)]) L E Q := by
 refine O8 rfl ?_
 unfold jJ
 refine Og ?_
 show wps yO [some (.r L.length), some (.v (.str n)), some (.v (.str g))] _ _
 generalize hK : (KK.mk _ _ _ _ _ : KK) = K
 unfold yO
 rw [aH]
 simp_arith!
 refine Dr a1 (fun n1 => ?_) fun z => ?_
 ·rw [aJ, aH]
  simp_arith!
  refine Dr a2 (fun n2 => ?_) fun z => ?_
  ·rw [aJ, aH]
   simp_arith!
   refine ⟨by rw [hc]; decide, ?_⟩
   rw [aJ]
   simp_arith!
   refine ⟨by rw [hc]; decide, ?_⟩
   rw [← hK]
   exact ⟨rfl, L, [], [(0, D.v (.str n)), (1, D.v (.str g))], _, rfl, rfl, aW.refl _, by unfold uG; rw [hc]; rfl, h n1 n2⟩
  ·rw [← hK]
   exact ⟨L, [_], rfl, rfl, aW.refl _, h2 n1 z⟩
 ·rw [← hK]
  exact ⟨L, [_], rfl, rfl, aW.refl _, h1 z⟩
theorem aCF {n g : Str} {m : Nat} {L : List MO} {E : EX} {Q : D → List MO → Prop} (hm : m < 5) (a1 : Asc n) (a2 : Asc g) (h1 : ¬ Nm n → E 21 [.str n] L) (h2 : Nm n → ¬ Nm g → E 21 [.str g] L) (h : Nm n → Nm g → Q (.v (jK m n g)) L) : wp (Iw [.v (.str n), .v (.str g), .v (.int (m : Nat))]) L E Q := by
 refine cQ ?_
 show wps Iv [some (.v (.str n)), some (.v (.str g)), some (.v (.int (m : Nat)))] L _
 generalize hK : (KK.mk _ _ _ _ _ : KK) = K
 have z9 : (1800 : Nat) ≤ sizeLine := aZ 1800 (by decide)
 unfold Iv
 have step : ∀ c, aN c = [0, 1] → yX m = c → wp (gH true c 3 jJ [.v (.str n), .v (.str g)]) L (K.ex [some (.v (.str n)), some (.v (.str g)), none]) K.rt := fun c hc e => by
  rw [← hK]
  refine Ul hc a1 a2 (fun z => ⟨L, [], (List.append_nil _).symm, rfl, aW.refl _, h1 z⟩) (fun z1 z => ⟨L, [], (List.append_nil _).symm, rfl, aW.refl _, h2 z1 z⟩) fun n1 n2 => dZ (keep := false) ?_
  have := h n1 n2
  unfold jK at this
  rw [e] at this
  exact this
 match m, hm with
 | 0, _ =>
  rw [aH]
  simp_arith!
  exact step 1 rfl rfl
 | 1, _ =>
  rw [aH]
  simp_arith!
  rw [aJ, aH]
  simp_arith!
  exact step 2 rfl rfl
 | 2, _ =>
  rw [aH]
  simp_arith!
  rw [aJ, aH]
  simp_arith!
  rw [aJ, aH]
  simp_arith!
  exact step 3 rfl rfl
 | 3, _ =>
  rw [aH]
  simp_arith!
  rw [aJ, aH]
  simp_arith!
  rw [aJ, aH]
  simp_arith!
  rw [aJ, aH]
  simp_arith!
  exact step 4 rfl rfl
 | 4, _ =>
  rw [aH]
  simp_arith!
  rw [aJ, aH]
  simp_arith!
  rw [aJ, aH]
  simp_arith!
  rw [aJ, aH]
  simp_arith!
  rw [aJ]
  simp_arith!
  exact step 5 rfl rfl
theorem Um {n g : Str} {m : Nat} {L : List MO} {E : EX} {Q : D → List MO → Prop} (hm : m < 6) (a1 : Asc n) (a2 : Asc g) (h1 : ¬ Nm n → E 21 [.str n] L) (h2 : Nm n → ¬ Nm g → E 21 [.str g] L) (h : Nm n → Nm g → Q (.v (jK m n g)) L) : wp (Di [.v (.str n), .v (.str g), .v (.int (m : Nat))]) L E Q := by
 refine cQ ?_
 show wps Iz [some (.v (.str n)), some (.v (.str g)), some (.v (.int (m : Nat)))] L _
 generalize hK : (KK.mk _ _ _ _ _ : KK) = K
 have z9 : (1800 : Nat) ≤ sizeLine := aZ 1800 (by decide)
 unfold Iz
 by_cases hm5 : m = 5
 ·subst hm5
  rw [aH]
  simp_arith!
  rw [← hK]
  exact Ul rfl a1 a2 (fun z => ⟨L, [], (List.append_nil _).symm, rfl, aW.refl _, h1 z⟩) (fun z1 z => ⟨L, [], (List.append_nil _).symm, rfl, aW.refl _, h2 z1 z⟩) fun n1 n2 => dZ (keep := false) (h n1 n2)
 ·have e5 : decide (((m : Nat) : Int) = 5) = false := decide_eq_false (by omega)
  rw [aH]
  simp_arith! [e5]
  rw [aJ]
  simp_arith!
  rw [← hK]
  exact aCF (by omega) a1 a2 (fun z => ⟨L, [], (List.append_nil _).symm, rfl, aW.refl _, h1 z⟩) (fun z1 z => ⟨L, [], (List.append_nil _).symm, rfl, aW.refl _, h2 z1 z⟩) fun n1 n2 => dZ (keep := false) (h n1 n2)
theorem Kd {n g : Str} {m : Nat} {L : List MO} {E : EX} {Q : D → List MO → Prop} (hm : m < 6) (a1 : Asc n) (a2 : Asc g) (h1 : ¬ Nm n → Q (.v (.tup [.str n])) L) (h2 : Nm n → ¬ Nm g → Q (.v (.tup [.str g])) L) (h : ¬ (Nm n ∧ Nm g)) : wp (yP [.v (.str n), .v (.str g), .v (.int (m : Nat))]) L E Q := by
 refine cQ ?_
 show wps Jb [some (.v (.str n)), some (.v (.str g)), some (.v (.int (m : Nat))), none] L _
 generalize hK : (KK.mk _ _ _ _ _ : KK) = K
 have z9 : (1800 : Nat) ≤ sizeLine := aZ 1800 (by decide)
 unfold Jb
 rw [aH]
 refine Ze ?_
 have eS : ∀ (a b c e : Option D) x (k : KK), k.rt (.v (.tup [.str x])) L → wps (lV sX 21 [.str x]) [a, b, c, e] L k := fun a b c e x k hr => by
  unfold sX
  rw [Zf (by decide)]
  refine Zg rfl ?_
  (try simp_arith!)
  rw [Gm rfl]
  (try simp_arith! [aV, asP, show eX 21 20 = true by decide])
  rw [Gm rfl]
  (try simp_arith! [aV, asP])
  rw [Gm rfl]
  (try simp_arith! [aV, asP, show eX 21 22 = false by decide])
  rw [Zr rfl (p := .str x) rfl]
  (try simp_arith! [aV, asP])
  exact hr
 (try simp_arith!)
 refine Um hm a1 a2 (fun z => ?_) (fun z1 z => ?_) fun z1 z2 => absurd ⟨z1, z2⟩ h
 ·refine ⟨by decide, eS _ _ _ _ _ _ ?_⟩
  rw [← hK]
  exact dZ (keep := false) (h1 z)
 ·refine ⟨by decide, eS _ _ _ _ _ _ ?_⟩
  rw [← hK]
  exact dZ (keep := false) (h2 z1 z)
theorem tH {tab : Nat → Option (List D → M D)} {wd : Str} {c : Nat} {qs a : List P} {fn : List D → M D} {L : List MO} (ht : tab c = some fn) (e : fn [.v (.ins c qs)] L = some (.ok (.r L.length), L ++ [.lst a])) (hz : a.length ≤ 10) : bO true (jA tab wd) [.v (.ins c qs)] L = some (.ok (.r L.length), L ++ [.lst (a ++ [.str wd])]) := by
 have z9 : (900 : Nat) ≤ sizeLine := aZ 900 (by decide)
 have e1 : jA tab wd [.v (.ins c qs)] L = some (.ok (.r (L.length + 1)), L ++ [.lst a, .lst (a ++ [.str wd])]) := by
  unfold jA
  simp only [aAu, Option.bind, ht, e]
  unfold vA
  have l1 : cI (L ++ [MO.lst a]) (.r L.length) = some a := by simp [cI]
  have l2 : cI (L ++ [MO.lst a]) (.v (.lst [.str wd])) = some [.str wd] := rfl
  rw [l1, l2]
  dsimp only
  rw [if_pos (by simp only [List.length_cons, List.length_nil]; omega)]
  simp
 have ho : aW L (L ++ [.lst a, .lst (a ++ [.str wd])]) := lZ _ (aW.refl _)
 unfold bO
 rw [e1]
 dsimp only
 rw [if_pos ho, if_neg (by omega)]
 have e2 : (L ++ [MO.lst a, .lst (a ++ [.str wd])])[L.length + 1]? = some (.lst (a ++ [.str wd])) := by simp
 rw [e2]
 dsimp only
 rw [if_pos rfl, List.take_left']
 rfl
theorem vN {c : Nat} {n g : Str} {L : List MO} (hc : aN c = [0, 1]) : jB [.v (.ins c [.str n, .str g])] L = some (.ok (.r L.length), L ++ [.lst [.str g]]) := by
 refine nR ?_
 refine cQ ?_
 show wps Jt [some (.v (.ins c [.str n, .str g]))] L _
 generalize hK : (KK.mk _ _ _ _ _ : KK) = K
 have z9 : (1800 : Nat) ≤ sizeLine := aZ 1800 (by decide)
 unfold Jt
 (try simp_arith! [hc])
 rw [rQ]
 (try simp_arith! [aV, asP])
 have q := aAi (L := L) (n := 0) (Lb := L) (X := [.lst [.str g]]) (xs := [.str g]) (Q := fun x L' => x = D.r L.length ∧ L' = L ++ [MO.lst [P.str g]]) rfl (aW.refl _) rfl ⟨rfl, rfl⟩
 rw [Nat.add_zero] at q
 rw [← hK]
 exact ⟨aZ 1 (by decide), q⟩
def jL (m : Nat) (g : Str) : List P := match m with
 | 0 => [.str g, .str "read"]
 | 1 => [.str g, .str "made"]
 | 2 => [.str g, .str "fresh"]
 | 3 => [.str g, .str "made", .str "read"]
 | 4 => [.str g, .str "fresh", .str "read"]
 | _ => [.str g]
theorem lH {m : Nat} {n g : Str} {L : List MO} {E : EX} {Q : D → List MO → Prop} (hm : m < 6) (h : Q (.r L.length) (L ++ [.lst (jL m g)])) : ∀ fn, lG (yX m) = some fn → wp (fn [.v (jK m n g)]) L E Q := by
 intro fn e
 match m, hm with
 | 0, _ => cases e; show wp (bO true (jA mO "read") [.v (.ins 1 [.str n, .str g])]) L E Q; rw [bG (tH (tab := mO) (c := 1) rfl (vN rfl) (by simp))]; exact h
 | 1, _ => cases e; show wp (bO true (jA tD "made") [.v (.ins 2 [.str n, .str g])]) L E Q; rw [bG (tH (tab := tD) (c := 2) rfl (vN rfl) (by simp))]; exact h
 | 2, _ => cases e; show wp (bO true (jA sY "fresh") [.v (.ins 3 [.str n, .str g])]) L E Q; rw [bG (tH (tab := sY) (c := 3) rfl (vN rfl) (by simp))]; exact h
 | 3, _ => cases e; show wp (bO true (jA mO "read") [.v (.ins 4 [.str n, .str g])]) L E Q; rw [bG (tH (tab := mO) (c := 4) rfl (tH (tab := tD) (c := 4) rfl (vN rfl) (by simp)) (by simp))]; exact h
 | 4, _ => cases e; show wp (bO true (jA mO "read") [.v (.ins 5 [.str n, .str g])]) L E Q; rw [bG (tH (tab := mO) (c := 5) rfl (tH (tab := sY) (c := 5) rfl (vN rfl) (by simp)) (by simp))]; exact h
 | 5, _ => cases e; show wp (jB [.v (.ins 0 [.str n, .str g])]) L E Q; rw [bG (vN (c := 0) rfl)]; exact h
theorem aCG {m : Nat} {n g : Str} {L : List MO} {E : EX} {Q : D → List MO → Prop} (hm : m < 6) (n1 : Nm n) (n2 : Nm g) (h : Q (.v (jK (Kc m) n g)) L) : ∀ fn, jY (yX m) = some fn → wp (fn [.v (jK m n g)]) L E Q := by
 have same : ∀ c, Q (.v (.ins c [.str n, .str g])) L → wp (oF [.v (.ins c [.str n, .str g])]) L E Q := fun c h => by
  refine cQ ?_
  show wps Ju [some (.v (.ins c [.str n, .str g]))] L _
  generalize hK : (KK.mk _ _ _ _ _ : KK) = K
  have z9 : (1800 : Nat) ≤ sizeLine := aZ 1800 (by decide)
  unfold Ju
  (try simp_arith!)
  rw [← hK]
  exact dZ (keep := false) h
 intro fn e
 match m, hm with
 | 0, _ => cases e; exact same 1 h
 | 1, _ =>
  cases e
  refine cQ ?_
  show wps Jv [some (.v (.ins 2 [.str n, .str g]))] L _
  generalize hK : (KK.mk _ _ _ _ _ : KK) = K
  have z9 : (1800 : Nat) ≤ sizeLine := aZ 1800 (by decide)
  unfold Jv
  (try simp_arith!)
  refine Uj rfl n1 n2 ?_
  rw [← hK]
  exact dZ (keep := false) h
 | 2, _ => cases e; exact same 3 h
 | 3, _ =>
  cases e
  refine cQ ?_
  show wps Jx [some (.v (.ins 4 [.str n, .str g]))] L _
  generalize hK : (KK.mk _ _ _ _ _ : KK) = K
  have z9 : (1800 : Nat) ≤ sizeLine := aZ 1800 (by decide)
  unfold Jx
  (try simp_arith!)
  refine Uj rfl n1 n2 ?_
  rw [← hK]
  exact dZ (keep := false) h
 | 4, _ => cases e; exact same 5 h
 | 5, _ => cases e; exact same 0 h
theorem oG {b : Bool} {m : Nat} {L : List MO} {E : EX} {Q : D → List MO → Prop} (hm : m < 6) (eb : decide (m = 0 ∨ 3 ≤ m) = b) (h : Q (.v (.bl b)) L) : wp (Dk [.v (.int (m : Nat))]) L E Q := by
 refine cQ ?_
 show wps Jr [some (.v (.int (m : Nat)))] L _
 generalize hK : (KK.mk _ _ _ _ _ : KK) = K
 have z9 : (1800 : Nat) ≤ sizeLine := aZ 1800 (by decide)
 unfold Jr
 have fin : ∀ b, b = decide (m = 0 ∨ 3 ≤ m) → K.rt (.v (.bl b)) L := fun b e => by
  rw [← hK, e, eb]
  exact dZ (keep := false) h
 (try simp_arith!)
 match m, hm with
 | 0, _ => exact fin _ rfl
 | 1, _ => exact fin _ rfl
 | 2, _ => exact fin _ rfl
 | 3, _ => exact fin _ rfl
 | 4, _ => exact fin _ rfl
 | 5, _ => exact fin _ rfl
theorem vO {b : Bool} {m : Nat} {L : List MO} {E : EX} {Q : D → List MO → Prop} (hm : m < 6) (eb : decide (m = 1 ∨ m = 3) = b) (h : Q (.v (.bl b)) L) : wp (Jq [.v (.int (m : Nat))]) L E Q := by
 refine cQ ?_
 show wps Jp [some (.v (.int (m : Nat)))] L _
 generalize hK : (KK.mk _ _ _ _ _ : KK) = K
 have z9 : (1800 : Nat) ≤ sizeLine := aZ 1800 (by decide)
 unfold Jp
 have fin : ∀ b, b = decide (m = 1 ∨ m = 3) → K.rt (.v (.bl b)) L := fun b e => by
  rw [← hK, e, eb]
  exact dZ (keep := false) h
 (try simp_arith!)
 match m, hm with
 | 0, _ => exact fin _ rfl
 | 1, _ => exact fin _ rfl
 | 2, _ => exact fin _ rfl
 | 3, _ => exact fin _ rfl
 | 4, _ => exact fin _ rfl
 | 5, _ => exact fin _ rfl
theorem lJ {m : Nat} {g : Str} (hm : m < 6) (n2 : Nm g) : dat 20 (.lst (jL m g)) = true := by
 have e1 : PyData.strOk "made" = true := by decide +kernel
 have e2 : PyData.strOk "read" = true := by decide +kernel
 have e3 : PyData.strOk "fresh" = true := by decide +kernel
 refine aAR fun x hx => ?_
 match m, hm with
 | 0, _ => simp only [jL, List.mem_cons, List.not_mem_nil, or_false] at hx; rcases hx with rfl | rfl <;> first | exact bZ (fV n2) | exact bZ e1 | exact bZ e2 | exact bZ e3
 | 1, _ => simp only [jL, List.mem_cons, List.not_mem_nil, or_false] at hx; rcases hx with rfl | rfl <;> first | exact bZ (fV n2) | exact bZ e1 | exact bZ e2 | exact bZ e3
 | 2, _ => simp only [jL, List.mem_cons, List.not_mem_nil, or_false] at hx; rcases hx with rfl | rfl <;> first | exact bZ (fV n2) | exact bZ e1 | exact bZ e2 | exact bZ e3
 | 3, _ => simp only [jL, List.mem_cons, List.not_mem_nil, or_false] at hx; rcases hx with rfl | rfl | rfl <;> first | exact bZ (fV n2) | exact bZ e1 | exact bZ e2 | exact bZ e3
 | 4, _ => simp only [jL, List.mem_cons, List.not_mem_nil, or_false] at hx; rcases hx with rfl | rfl | rfl <;> first | exact bZ (fV n2) | exact bZ e1 | exact bZ e2 | exact bZ e3
 | 5, _ => simp only [jL, List.mem_cons, List.not_mem_nil, or_false] at hx; rcases hx with rfl <;> first | exact bZ (fV n2)
theorem Ds {x : D} {L : List MO} {E : EX} {Q : D → List MO → Prop} : wp (oE [x]) L E Q = Q (.v (.bl false)) L := by
 refine bG (nR ?_)
 refine cQ ?_
 show wps Jf [some x] L _
 generalize hK : (KK.mk _ _ _ _ _ : KK) = K
 have z9 : (1800 : Nat) ≤ sizeLine := aZ 1800 (by decide)
 unfold Jf
 (try simp_arith!)
 rw [← hK]
 exact dZ (keep := false) (Q := fun x L' => x = D.v (P.bl false) ∧ L' = L) ⟨rfl, rfl⟩
theorem Uo {x : D} {L : List MO} {E : EX} {Q : D → List MO → Prop} : wp (vJ [x]) L E Q = Q (.v (.bl true)) L := by
 refine bG (nR ?_)
 refine cQ ?_
 show wps Jg [some x] L _
 generalize hK : (KK.mk _ _ _ _ _ : KK) = K
 have z9 : (1800 : Nat) ≤ sizeLine := aZ 1800 (by decide)
 unfold Jg
 (try simp_arith!)
 rw [← hK]
 exact dZ (keep := false) (Q := fun x L' => x = D.v (P.bl true) ∧ L' = L) ⟨rfl, rfl⟩
theorem Uq {x : D} {L : List MO} {E : EX} {Q : D → List MO → Prop} : wp (vK [x]) L E Q = Q (.v (.bl false)) L := by
 refine bG (nR ?_)
 refine cQ ?_
 show wps Jh [some x] L _
 generalize hK : (KK.mk _ _ _ _ _ : KK) = K
 have z9 : (1800 : Nat) ≤ sizeLine := aZ 1800 (by decide)
 unfold Jh
 (try simp_arith!)
 rw [← hK]
 exact dZ (keep := false) (Q := fun x L' => x = D.v (P.bl false) ∧ L' = L) ⟨rfl, rfl⟩
theorem Ur {x : D} {L : List MO} {E : EX} {Q : D → List MO → Prop} : wp (vL [x]) L E Q = Q (.v (.bl true)) L := by
 refine bG (nR ?_)
 refine cQ ?_
 show wps Ji [some x] L _
 generalize hK : (KK.mk _ _ _ _ _ : KK) = K
 have z9 : (1800 : Nat) ≤ sizeLine := aZ 1800 (by decide)
 unfold Ji
 (try simp_arith!)
 rw [← hK]
 exact dZ (keep := false) (Q := fun x L' => x = D.v (P.bl true) ∧ L' = L) ⟨rfl, rfl⟩
theorem Us {x : D} {L : List MO} {E : EX} {Q : D → List MO → Prop} : wp (vM [x]) L E Q = Q (.v (.bl true)) L := by
 refine bG (nR ?_)
 refine cQ ?_
 show wps Jj [some x] L _
 generalize hK : (KK.mk _ _ _ _ _ : KK) = K
 have z9 : (1800 : Nat) ≤ sizeLine := aZ 1800 (by decide)
 unfold Jj
 (try simp_arith!)
 rw [← hK]
 exact dZ (keep := false) (Q := fun x L' => x = D.v (P.bl true) ∧ L' = L) ⟨rfl, rfl⟩
theorem Ke {x : D} {L : List MO} {E : EX} {Q : D → List MO → Prop} : wp (qT [x]) L E Q = Q (.v (.bl false)) L := by
 refine bG (nR ?_)
 refine cQ ?_
 show wps Jk [some x] L _
 generalize hK : (KK.mk _ _ _ _ _ : KK) = K
 have z9 : (1800 : Nat) ≤ sizeLine := aZ 1800 (by decide)
 unfold Jk
 (try simp_arith!)
 rw [← hK]
 exact dZ (keep := false) (Q := fun x L' => x = D.v (P.bl false) ∧ L' = L) ⟨rfl, rfl⟩
theorem Kf {x : D} {L : List MO} {E : EX} {Q : D → List MO → Prop} : wp (qU [x]) L E Q = Q (.v (.bl true)) L := by
 refine bG (nR ?_)
 refine cQ ?_
 show wps Jl [some x] L _
 generalize hK : (KK.mk _ _ _ _ _ : KK) = K
 have z9 : (1800 : Nat) ≤ sizeLine := aZ 1800 (by decide)
 unfold Jl
 (try simp_arith!)
 rw [← hK]
 exact dZ (keep := false) (Q := fun x L' => x = D.v (P.bl true) ∧ L' = L) ⟨rfl, rfl⟩
theorem vP {p : P} {r k d : Bool} {L : List MO} {E : EX} {Q : D → List MO → Prop} {fr fk fd : List D → M D} (hr : (clsOf L (.v p)).bind mK = some fr) (er : ∀ {L : List MO} {E : EX} {Q : D → List MO → Prop}, wp (fr [.v p]) L E Q = Q (.v (.bl r)) L) (hk : (clsOf L (.v p)).bind mJ = some fk) (ek : ∀ {L : List MO} {E : EX} {Q : D → List MO → Prop}, wp (fk [.v p]) L E Q = Q (.v (.bl k)) L) (hd : (clsOf L (.v p)).bind mH = some fd) (ed : ∀ {L : List MO} {E : EX} {Q : D → List MO → Prop}, wp (fd [.v p]) L E Q = Q (.v (.bl d)) L) (h : Q (.v (.lst [.bl r, .bl k, .bl d])) L) : wp (Jo [.v p]) L E Q := by
 refine cQ ?_
 show wps Jm [some (.v p), none, none] L _
 generalize hK : (KK.mk _ _ _ _ _ : KK) = K
 have z9 : (1800 : Nat) ≤ sizeLine := aZ 1800 (by decide)
 unfold Jm
 rw [aH]
 simp_arith! [hr, er, hk, ek, hd, ed]
 (try simp_arith! [aV, asP])
 rw [aJ]
 simp_arith!
 rw [aH]
 simp_arith!
 refine aAv (f := P.bl) (ys := [r, k, d]) (fun zs τ M => ∃ z2, M = L ∧ Vz z2 ∧ τ = [none, some (.v (.lst [.bl r, .bl k, .bl d])), z2]) ⟨none, rfl, .none, rfl⟩ (fun _ _ _ _ => trivial) ?_ ?_
 ·rintro zs b ws τ M e ⟨z2, rfl, v2, rfl⟩
  refine ⟨_, rfl, Bm ?_⟩
  generalize hK2 : (KK.mk _ _ _ _ _ : KK) = K2
  (try simp_arith!)
  rw [← hK2]
  exact ⟨_, [], (List.append_nil _).symm, rfl, aW.refl _, by (repeat' first | exact Bx | refine qL ?_ | refine lB ?_ | refine yJ (by first | assumption | (simp; done) | (simp; omega) | omega) ?_ | refine Gx (by assumption) ?_ | refine Gy (by assumption) ?_), _, rfl, .v, rfl⟩
 ·rintro τ M ⟨z2, rfl, v2, rfl⟩
  rw [aJ]
  simp_arith!
  (try simp_arith!)
  rw [← hK]
  exact dZ (keep := false) h
theorem vQ {c : Nat} {n g : Str} {a1 a2 a3 a4 a5 a6 : Bool} {L : List MO} {E : EX} {Q : D → List MO → Prop} (h1 : fM (.ins c) = some a1) (h2 : fL (.ins c) = some a2) (h3 : fK (.ins c) = some a3) (h4 : fJ (.ins c) = some a4) (h5 : fH (.ins c) = some a5) (h6 : fG (.ins c) = some a6) (h : Q (.v (.lst [.bl a1, .bl a2, .bl a3, .bl a4, .bl a5, .bl a6])) L) : wp (Je [.v (.ins c [.str n, .str g])]) L E Q := by
 refine cQ ?_
 show wps Jd [some (.v (.ins c [.str n, .str g])), none] L _
 generalize hK : (KK.mk _ _ _ _ _ : KK) = K
 have z9 : (1800 : Nat) ≤ sizeLine := aZ 1800 (by decide)
 unfold Jd
 rw [aH]
 simp_arith! [h1, h2, h3, h4, h5, h6]
 (try simp_arith! [aV, asP])
 rw [aJ]
 simp_arith!
 (try simp_arith! [h1, h2, h3, h4, h5, h6, aV, asP])
 rw [Gh]
 refine ⟨by show 3 + 3 ≤ _; omega, ?_⟩
 rw [← hK]
 exact dZ (keep := false) h
theorem aCH {n g : Str} {L : List MO} {E : EX} {Q : D → List MO → Prop} (n1 : Nm n) (n2 : Nm g) (h : Q (.v (.bl true)) L) : wp (mQ [.v (jK 0 n g), .v (.str n), .v (.str g), .v (.int (0 : Nat))]) L E Q := by
 refine cQ ?_
 show wps jX [some (.v (.ins 1 [.str n, .str g])), some (.v (.str n)), some (.v (.str g)), some (.v (.int ((0 : Nat) : Int))), none, none, none, none, none] L _
 generalize hK : (KK.mk _ _ _ _ _ : KK) = K
 have z9 : (1800 : Nat) ≤ sizeLine := aZ 1800 (by decide)
 unfold jX
 have z1 : (1 : Nat) ≤ sizeLine := aZ 1 (by decide)
 rw [aH]
 simp_arith!
 rw [rQ]
 (try simp_arith! [aV, asP])
 refine ⟨z1, ?_⟩
 rw [aJ, aH]
 simp_arith!
 rw [aJ, aH]
 simp_arith!
 rw [aJ, aH]
 simp_arith!
 refine oG (b := true) (by decide) rfl ?_
 (try simp_arith!)
 refine ⟨by omega, ?_⟩
 rw [aJ, aH]
 simp_arith!
 refine lH (m := 0) (by decide) ?_ _ rfl
 rw [aJ, aH]
 simp_arith!
 rw [lC (.inr ⟨_, rfl, qO⟩) (.inr ⟨_, rfl, lE⟩) (lJ (m := 0) (by decide) n2) rfl]
 (try simp_arith!)
 rw [aJ, aH]
 simp_arith!
 refine ⟨by show 2 < _; omega, ?_⟩
 rw [aJ]
 simp_arith!
 rw [aH]
 simp_arith!
 refine lH (m := 0) (by decide) ?_ _ rfl
 (try simp_arith!)
 rw [lC (.inr ⟨_, rfl, by simp⟩) (ys := jL 0 g) (.inr ⟨_, rfl, lE⟩) (lJ (m := 0) (by decide) n2) rfl]
 have f4 : aN 1 = [0, 1] := rfl
 (try simp_arith! [f4])
 rw [cH (bZ (fV n1)) rfl]
 (try simp_arith!)
 rw [cH (bZ (fV n2)) rfl]
 (try simp_arith!)
 rw [aJ]
 simp_arith!
 rw [aH]
 simp_arith!
 rw [uY (p := .str "r") rfl, nQ (i := 0) rfl, cH (bZ (by decide +kernel)) rfl]
 (try simp_arith!)
 rw [aJ, aH]
 simp_arith!
 refine oG (b := true) (by decide) rfl ?_
 rw [aJ, aH]
 simp_arith!
 refine vP (r := true) (k := false) (d := false) rfl (by intros; exact Kf) rfl (by intros; exact Uq) rfl (by intros; exact Ds) ?_
 (try simp_arith!)
 refine vO (b := false) (by decide) rfl ?_
 (try simp_arith! [aV, asP])
 rw [cH (by simp [dat, dH]) rfl]
 (try simp_arith!)
 rw [aJ, aH]
 simp_arith!
 rw [aJ, aH]
 simp_arith!
 rw [aJ]
 simp_arith!
 refine vQ (a1 := true) (a2 := true) (a3 := false) (a4 := false) (a5 := false) (a6 := false) rfl rfl rfl rfl rfl rfl ?_
 rw [cH (by simp [dat, dH]) rfl]
 rw [← hK]
 exact uQ (keep := false) rfl (aW.refl _) h
theorem aCI {n g : Str} {L : List MO} {E : EX} {Q : D → List MO → Prop} (n1 : Nm n) (n2 : Nm g) (h : Q (.v (.bl true)) L) : wp (mQ [.v (jK 1 n g), .v (.str n), .v (.str g), .v (.int (1 : Nat))]) L E Q := by
 refine cQ ?_
 show wps jX [some (.v (.ins 2 [.str n, .str g])), some (.v (.str n)), some (.v (.str g)), some (.v (.int ((1 : Nat) : Int))), none, none, none, none, none] L _
 generalize hK : (KK.mk _ _ _ _ _ : KK) = K
 have z9 : (1800 : Nat) ≤ sizeLine := aZ 1800 (by decide)
 unfold jX
 have z1 : (1 : Nat) ≤ sizeLine := aZ 1 (by decide)
 rw [aH]
 simp_arith!
 rw [rQ]
 (try simp_arith! [aV, asP])
 refine ⟨z1, ?_⟩
 rw [aJ, aH]
 simp_arith!
 refine ⟨by omega, ?_⟩
 rw [aJ, aH]
 simp_arith!
 rw [aJ, aH]
 simp_arith!
 refine oG (b := false) (by decide) rfl ?_
 (try simp_arith!)
 rw [aJ, aH]
 simp_arith!
 refine lH (m := 1) (by decide) ?_ _ rfl
 rw [aJ, aH]
 simp_arith!
 rw [lC (.inr ⟨_, rfl, qO⟩) (.inr ⟨_, rfl, lE⟩) (lJ (m := 1) (by decide) n2) rfl]
 (try simp_arith!)
 rw [aJ, aH]
 simp_arith!
 refine ⟨by show 2 < _; omega, ?_⟩
 rw [aJ]
 simp_arith!
 rw [aH]
 simp_arith!
 refine lH (m := 1) (by decide) ?_ _ rfl
 (try simp_arith!)
 rw [lC (.inr ⟨_, rfl, by simp⟩) (ys := jL 1 g) (.inr ⟨_, rfl, lE⟩) (lJ (m := 1) (by decide) n2) rfl]
 have f4 : aN 2 = [0, 1] := rfl
 (try simp_arith! [f4])
 rw [cH (bZ (fV n1)) rfl]
 (try simp_arith!)
 rw [cH (bZ (fV n2)) rfl]
 (try simp_arith!)
 rw [aJ]
 simp_arith!
 rw [aH]
 simp_arith!
 rw [uY (p := .str "m") rfl, nQ (i := 1) rfl, cH (bZ (by decide +kernel)) rfl]
 (try simp_arith!)
 rw [aJ, aH]
 simp_arith!
 refine oG (b := false) (by decide) rfl ?_
 rw [aJ, aH]
 simp_arith!
 refine vP (r := false) (k := true) (d := true) rfl (by intros; exact Ke) rfl (by intros; exact Ur) rfl (by intros; exact Uo) ?_
 (try simp_arith!)
 refine vO (b := true) (by decide) rfl ?_
 (try simp_arith! [aV, asP])
 rw [cH (by simp [dat, dH]) rfl]
 (try simp_arith!)
 rw [aJ, aH]
 simp_arith!
 rw [aJ, aH]
 simp_arith!
 rw [aJ]
 simp_arith!
 refine vQ (a1 := true) (a2 := false) (a3 := true) (a4 := false) (a5 := false) (a6 := false) rfl rfl rfl rfl rfl rfl ?_
 rw [cH (by simp [dat, dH]) rfl]
 rw [← hK]
 exact uQ (keep := false) rfl (aW.refl _) h
theorem aCJ {n g : Str} {L : List MO} {E : EX} {Q : D → List MO → Prop} (n1 : Nm n) (n2 : Nm g) (h : Q (.v (.bl true)) L) : wp (mQ [.v (jK 2 n g), .v (.str n), .v (.str g), .v (.int (2 : Nat))]) L E Q := by
 refine cQ ?_
 show wps jX [some (.v (.ins 3 [.str n, .str g])), some (.v (.str n)), some (.v (.str g)), some (.v (.int ((2 : Nat) : Int))), none, none, none, none, none] L _
 generalize hK : (KK.mk _ _ _ _ _ : KK) = K
 have z9 : (1800 : Nat) ≤ sizeLine := aZ 1800 (by decide)
 unfold jX
 have z1 : (1 : Nat) ≤ sizeLine := aZ 1 (by decide)
 rw [aH]
 simp_arith!
 rw [rQ]
 (try simp_arith! [aV, asP])
 refine ⟨z1, ?_⟩
 rw [aJ, aH]
 simp_arith!
 rw [aJ, aH]
 simp_arith!
 refine ⟨by omega, ?_⟩
 rw [aJ, aH]
 simp_arith!
 refine oG (b := false) (by decide) rfl ?_
 (try simp_arith!)
 rw [aJ, aH]
 simp_arith!
 refine lH (m := 2) (by decide) ?_ _ rfl
 rw [aJ, aH]
 simp_arith!
 rw [lC (.inr ⟨_, rfl, qO⟩) (.inr ⟨_, rfl, lE⟩) (lJ (m := 2) (by decide) n2) rfl]
 (try simp_arith!)
 rw [aJ, aH]
 simp_arith!
 refine ⟨by show 2 < _; omega, ?_⟩
 rw [aJ]
 simp_arith!
 rw [aH]
 simp_arith!
 refine lH (m := 2) (by decide) ?_ _ rfl
 (try simp_arith!)
 rw [lC (.inr ⟨_, rfl, by simp⟩) (ys := jL 2 g) (.inr ⟨_, rfl, lE⟩) (lJ (m := 2) (by decide) n2) rfl]
 have f4 : aN 3 = [0, 1] := rfl
 (try simp_arith! [f4])
 rw [cH (bZ (fV n1)) rfl]
 (try simp_arith!)
 rw [cH (bZ (fV n2)) rfl]
 (try simp_arith!)
 rw [aJ]
 simp_arith!
 rw [aH]
 simp_arith!
 rw [uY (p := .str "f") rfl, nQ (i := 2) rfl, cH (bZ (by decide +kernel)) rfl]
 (try simp_arith!)
 rw [aJ, aH]
 simp_arith!
 refine oG (b := false) (by decide) rfl ?_
 rw [aJ, aH]
 simp_arith!
 refine vP (r := false) (k := true) (d := false) rfl (by intros; exact Ke) rfl (by intros; exact Us) rfl (by intros; exact Ds) ?_
 (try simp_arith!)
 refine vO (b := false) (by decide) rfl ?_
 (try simp_arith! [aV, asP])
 rw [cH (by simp [dat, dH]) rfl]
 (try simp_arith!)
 rw [aJ, aH]
 simp_arith!
 rw [aJ, aH]
 simp_arith!
 rw [aJ]
 simp_arith!
 refine vQ (a1 := true) (a2 := false) (a3 := false) (a4 := true) (a5 := false) (a6 := false) rfl rfl rfl rfl rfl rfl ?_
 rw [cH (by simp [dat, dH]) rfl]
 rw [← hK]
 exact uQ (keep := false) rfl (aW.refl _) h
theorem aCK {n g : Str} {L : List MO} {E : EX} {Q : D → List MO → Prop} (n1 : Nm n) (n2 : Nm g) (h : Q (.v (.bl true)) L) : wp (mQ [.v (jK 3 n g), .v (.str n), .v (.str g), .v (.int (3 : Nat))]) L E Q := by
 refine cQ ?_
 show wps jX [some (.v (.ins 4 [.str n, .str g])), some (.v (.str n)), some (.v (.str g)), some (.v (.int ((3 : Nat) : Int))), none, none, none, none, none] L _
 generalize hK : (KK.mk _ _ _ _ _ : KK) = K
 have z9 : (1800 : Nat) ≤ sizeLine := aZ 1800 (by decide)
 unfold jX
 have z1 : (1 : Nat) ≤ sizeLine := aZ 1 (by decide)
 rw [aH]
 simp_arith!
 rw [rQ]
 (try simp_arith! [aV, asP])
 refine ⟨z1, ?_⟩
 rw [aJ, aH]
 simp_arith!
 refine ⟨by omega, ?_⟩
 rw [aJ, aH]
 simp_arith!
 rw [aJ, aH]
 simp_arith!
 refine oG (b := true) (by decide) rfl ?_
 (try simp_arith!)
 refine ⟨by omega, ?_⟩
 rw [aJ, aH]
 simp_arith!
 refine lH (m := 3) (by decide) ?_ _ rfl
 rw [aJ, aH]
 simp_arith!
 rw [lC (.inr ⟨_, rfl, qO⟩) (.inr ⟨_, rfl, lE⟩) (lJ (m := 3) (by decide) n2) rfl]
 (try simp_arith!)
 rw [aJ, aH]
 simp_arith!
 refine ⟨by show 3 < _; omega, ?_⟩
 rw [aJ]
 simp_arith!
 rw [aH]
 simp_arith!
 refine lH (m := 3) (by decide) ?_ _ rfl
 (try simp_arith!)
 rw [lC (.inr ⟨_, rfl, by simp⟩) (ys := jL 3 g) (.inr ⟨_, rfl, lE⟩) (lJ (m := 3) (by decide) n2) rfl]
 have f4 : aN 4 = [0, 1] := rfl
 (try simp_arith! [f4])
 rw [cH (bZ (fV n1)) rfl]
 (try simp_arith!)
 rw [cH (bZ (fV n2)) rfl]
 (try simp_arith!)
 rw [aJ]
 simp_arith!
 rw [aH]
 simp_arith!
 rw [uY (p := .str "rm") rfl, nQ (i := 3) rfl, cH (bZ (by decide +kernel)) rfl]
 (try simp_arith!)
 rw [aJ, aH]
 simp_arith!
 refine oG (b := true) (by decide) rfl ?_
 rw [aJ, aH]
 simp_arith!
 refine vP (r := true) (k := true) (d := true) rfl (by intros; exact Kf) rfl (by intros; exact Ur) rfl (by intros; exact Uo) ?_
 (try simp_arith!)
 refine vO (b := true) (by decide) rfl ?_
 (try simp_arith! [aV, asP])
 rw [cH (by simp [dat, dH]) rfl]
 (try simp_arith!)
 rw [aJ, aH]
 simp_arith!
 rw [aJ, aH]
 simp_arith!
 rw [aJ]
 simp_arith!
 refine vQ (a1 := true) (a2 := true) (a3 := true) (a4 := false) (a5 := true) (a6 := false) rfl rfl rfl rfl rfl rfl ?_
 rw [cH (by simp [dat, dH]) rfl]
 rw [← hK]
 exact uQ (keep := false) rfl (aW.refl _) h
theorem aCL {n g : Str} {L : List MO} {E : EX} {Q : D → List MO → Prop} (n1 : Nm n) (n2 : Nm g) (h : Q (.v (.bl true)) L) : wp (mQ [.v (jK 4 n g), .v (.str n), .v (.str g), .v (.int (4 : Nat))]) L E Q := by
 refine cQ ?_
 show wps jX [some (.v (.ins 5 [.str n, .str g])), some (.v (.str n)), some (.v (.str g)), some (.v (.int ((4 : Nat) : Int))), none, none, none, none, none] L _
 generalize hK : (KK.mk _ _ _ _ _ : KK) = K
 have z9 : (1800 : Nat) ≤ sizeLine := aZ 1800 (by decide)
 unfold jX
 have z1 : (1 : Nat) ≤ sizeLine := aZ 1 (by decide)
 rw [aH]
 simp_arith!
 rw [rQ]
 (try simp_arith! [aV, asP])
 refine ⟨z1, ?_⟩
 rw [aJ, aH]
 simp_arith!
 rw [aJ, aH]
 simp_arith!
 refine ⟨by omega, ?_⟩
 rw [aJ, aH]
 simp_arith!
 refine oG (b := true) (by decide) rfl ?_
 (try simp_arith!)
 refine ⟨by omega, ?_⟩
 rw [aJ, aH]
 simp_arith!
 refine lH (m := 4) (by decide) ?_ _ rfl
 rw [aJ, aH]
 simp_arith!
 rw [lC (.inr ⟨_, rfl, qO⟩) (.inr ⟨_, rfl, lE⟩) (lJ (m := 4) (by decide) n2) rfl]
 (try simp_arith!)
 rw [aJ, aH]
 simp_arith!
 refine ⟨by show 3 < _; omega, ?_⟩
 rw [aJ]
 simp_arith!
 rw [aH]
 simp_arith!
 refine lH (m := 4) (by decide) ?_ _ rfl
 (try simp_arith!)
 rw [lC (.inr ⟨_, rfl, by simp⟩) (ys := jL 4 g) (.inr ⟨_, rfl, lE⟩) (lJ (m := 4) (by decide) n2) rfl]
 have f4 : aN 5 = [0, 1] := rfl
 (try simp_arith! [f4])
 rw [cH (bZ (fV n1)) rfl]
 (try simp_arith!)
 rw [cH (bZ (fV n2)) rfl]
 (try simp_arith!)
 rw [aJ]
 simp_arith!
 rw [aH]
 simp_arith!
 rw [uY (p := .str "rf") rfl, nQ (i := 4) rfl, cH (bZ (by decide +kernel)) rfl]
 (try simp_arith!)
 rw [aJ, aH]
 simp_arith!
 refine oG (b := true) (by decide) rfl ?_
 rw [aJ, aH]
 simp_arith!
 refine vP (r := true) (k := true) (d := false) rfl (by intros; exact Kf) rfl (by intros; exact Us) rfl (by intros; exact Ds) ?_
 (try simp_arith!)
 refine vO (b := false) (by decide) rfl ?_
 (try simp_arith! [aV, asP])
 rw [cH (by simp [dat, dH]) rfl]
 (try simp_arith!)
 rw [aJ, aH]
 simp_arith!
 rw [aJ, aH]
 simp_arith!
 rw [aJ]
 simp_arith!
 refine vQ (a1 := true) (a2 := true) (a3 := false) (a4 := true) (a5 := false) (a6 := true) rfl rfl rfl rfl rfl rfl ?_
 rw [cH (by simp [dat, dH]) rfl]
 rw [← hK]
 exact uQ (keep := false) rfl (aW.refl _) h
theorem aCM {n g : Str} {L : List MO} {E : EX} {Q : D → List MO → Prop} (n1 : Nm n) (n2 : Nm g) (h : Q (.v (.bl true)) L) : wp (mQ [.v (jK 5 n g), .v (.str n), .v (.str g), .v (.int (5 : Nat))]) L E Q := by
 refine cQ ?_
 show wps jX [some (.v (.ins 0 [.str n, .str g])), some (.v (.str n)), some (.v (.str g)), some (.v (.int ((5 : Nat) : Int))), none, none, none, none, none] L _
 generalize hK : (KK.mk _ _ _ _ _ : KK) = K
 have z9 : (1800 : Nat) ≤ sizeLine := aZ 1800 (by decide)
 unfold jX
 have z1 : (1 : Nat) ≤ sizeLine := aZ 1 (by decide)
 rw [aH]
 simp_arith!
 rw [rQ]
 (try simp_arith! [aV, asP])
 refine ⟨z1, ?_⟩
 rw [aJ, aH]
 simp_arith!
 rw [aJ, aH]
 simp_arith!
 rw [aJ, aH]
 simp_arith!
 rw [aJ, aH]
 simp_arith!
 refine lH (m := 5) (by decide) ?_ _ rfl
 rw [aJ, aH]
 simp_arith!
 rw [lC (.inr ⟨_, rfl, qO⟩) (.inr ⟨_, rfl, lE⟩) (lJ (m := 5) (by decide) n2) rfl]
 (try simp_arith!)
 rw [aJ, aH]
 simp_arith!
 refine ⟨by show 1 < _; omega, ?_⟩
 rw [aJ]
 simp_arith!
 rw [aH]
 simp_arith!
 refine lH (m := 5) (by decide) ?_ _ rfl
 (try simp_arith!)
 rw [lC (.inr ⟨_, rfl, by simp⟩) (ys := jL 5 g) (.inr ⟨_, rfl, lE⟩) (lJ (m := 5) (by decide) n2) rfl]
 have f4 : aN 0 = [0, 1] := rfl
 (try simp_arith! [f4])
 rw [cH (bZ (fV n1)) rfl]
 (try simp_arith!)
 rw [cH (bZ (fV n2)) rfl]
 (try simp_arith!)
 rw [aJ]
 simp_arith!
 rw [aH]
 simp_arith!
 rw [uY (p := .str "") rfl, nQ (i := 5) rfl, cH (bZ (by decide +kernel)) rfl]
 (try simp_arith!)
 rw [aJ, aH]
 simp_arith!
 rw [aJ, aH]
 simp_arith!
 refine vP (r := false) (k := false) (d := false) rfl (by intros; exact Ke) rfl (by intros; exact Uq) rfl (by intros; exact Ds) ?_
 (try simp_arith!)
 refine vO (b := false) (by decide) rfl ?_
 (try simp_arith! [aV, asP])
 rw [cH (by simp [dat, dH]) rfl]
 (try simp_arith!)
 rw [aJ, aH]
 simp_arith!
 rw [aJ, aH]
 simp_arith!
 rw [aJ]
 simp_arith!
 refine vQ (a1 := true) (a2 := false) (a3 := false) (a4 := false) (a5 := false) (a6 := false) rfl rfl rfl rfl rfl rfl ?_
 rw [cH (by simp [dat, dH]) rfl]
 rw [← hK]
 exact uQ (keep := false) rfl (aW.refl _) h
theorem Kg {m : Nat} {n g : Str} {L : List MO} {E : EX} {Q : D → List MO → Prop} (hm : m < 6) (n1 : Nm n) (n2 : Nm g) (h : Q (.v (.bl true)) L) : wp (mQ [.v (jK m n g), .v (.str n), .v (.str g), .v (.int (m : Nat))]) L E Q := by
 match m, hm with
 | 0, _ => exact aCH n1 n2 h
 | 1, _ => exact aCI n1 n2 h
 | 2, _ => exact aCJ n1 n2 h
 | 3, _ => exact aCK n1 n2 h
 | 4, _ => exact aCL n1 n2 h
 | 5, _ => exact aCM n1 n2 h
theorem aCN : ∀ m, m < 6 → Kc m < 6 := by
 intro m hm
 match m, hm with
 | 0, _ => decide
 | 1, _ => decide
 | 2, _ => decide
 | 3, _ => decide
 | 4, _ => decide
 | 5, _ => decide
theorem aCO (scr : List Int) (hl : scr.length ≤ 63) : wp (Ka [.v (.scr scr)]) [] oY fun d _ => d = .v (.bl true) := by
 refine cQ ?_
 show wps J9 [some (.v (.scr scr)), none, none, none, none, none, none, none, none] [] _
 generalize hK : (KK.mk _ _ _ _ _ : KK) = K
 have done : ∀ L', K.rt (.v (.bl true)) L' := fun L' => by
  rw [← hK]
  exact ⟨[], L', rfl, rfl, aW.refl _, rfl⟩
 have z9 : (1800 : Nat) ≤ sizeLine := aZ 1800 (by decide)
 unfold J9
 rw [aH]
 simp_arith!
 refine aCB hl 0 (by decide) fun y hy => ?_
 rw [aJ]
 simp_arith!
 rw [aH]
 simp_arith!
 refine aCC (n := 0) (xs := y) rfl hy fun ns y hns hy => ?_
 rw [aJ, aH]
 simp_arith!
 refine Ui (n := 0) (xs := y) rfl hy (by decide) (by decide) fun d y d0 d1 hy => ?_
 have gat : ∀ d : Int, 0 ≤ d → d < 8 → ∃ g, Nm g ∧ (ns.map P.str)[d.toNat]? = some (.str g) := fun d d0 d1 => by
  have lt : d.toNat < ns.length := by rw [hns.1]; omega
  exact ⟨ns[d.toNat], hns.2.2 _ (List.getElem_mem lt), by rw [List.getElem?_map, List.getElem?_eq_getElem lt]; rfl⟩
 obtain ⟨n, hn, en⟩ := gat d d0 d1
 rw [Bw d0 en]
 rw [aJ, aH]
 simp_arith!
 refine Ui (n := 0) (xs := y) rfl hy (by decide) (by decide) fun d y d0 d1 hy => ?_
 obtain ⟨g, hg, eg⟩ := gat d d0 d1
 rw [Bw d0 eg]
 rw [aJ]
 simp_arith!
 rw [aH]
 simp_arith!
 have bad : ∀ {x : Str} {y : List P} {E : EX} {Q : D → List MO → Prop}, Nm x → jZ y → (∀ z y', Bad z → jZ y' → Q (.v (.str z)) [.lst y']) → wp (yQ [.r 0, .v (.str x)]) [.lst y] E Q := fun {x y E Q} hx hy h => by
  obtain ⟨z, Lb, hz, ⟨y', hy', rfl⟩, e⟩ := aCE (L := [.lst y]) (L1 := [.lst y]) (n := 0) (by simp) (dM.of rfl hy) hx
  rw [bG e]
  exact h z y' hz hy'
 rw [show (P.int 6) = .int ((6 : Nat) : Int) from rfl, Gg (by decide)]
 refine Ql (fun i τ M => ∃ z5 z6, M = [.lst y] ∧ Vz z5 ∧ Vz z6 ∧ τ = [none, some (.r 0), none, some (.v (.str n)), some (.v (.str g)), z5, z6, none, none]) ⟨none, none, rfl, .none, .none, rfl⟩ (fun _ _ _ _ => trivial) ?_ ?_
 ·rintro i τ M hi ⟨z5, z6, rfl, v5, v6, rfl⟩
  refine ⟨_, rfl, Bm ?_⟩
  generalize hK2 : (KK.mk _ _ _ _ _ : KK) = K2
  (try simp_arith!)
  rw [aH]
  simp_arith!
  refine Um hi (uX hn) (uX hg) (fun z => absurd hn z) (fun _ z => absurd hg z) fun _ _ => ?_
  rw [aJ, aH]
  simp_arith!
  refine Kg hi hn hg ?_
  (try simp_arith!)
  rw [aJ, aH]
  simp_arith!
  obtain ⟨fn, ef⟩ : ∃ fn, jY (yX i) = some fn := by
   match i, hi with
   | 0, _ => exact ⟨_, rfl⟩
   | 1, _ => exact ⟨_, rfl⟩
   | 2, _ => exact ⟨_, rfl⟩
   | 3, _ => exact ⟨_, rfl⟩
   | 4, _ => exact ⟨_, rfl⟩
   | 5, _ => exact ⟨_, rfl⟩
  have em : ([P.int 0, .int 2, .int 2, .int 4, .int 4, .int 5])[((i : Nat) : Int).toNat]? = some (.int (Kc i : Nat)) := by
   match i, hi with
   | 0, _ => rfl
   | 1, _ => rfl
   | 2, _ => rfl
   | 3, _ => rfl
   | 4, _ => rfl
   | 5, _ => rfl
  rw [show (clsOf [MO.lst y] (D.v (jK i n g))).bind jY = some fn from ef]
  refine aCG hi hn hg ?_ fn ef
  rw [Bw (by omega) em]
  refine Kg (aCN i hi) hn hg ?_
  (try simp_arith!)
  rw [aJ]
  simp_arith!
  refine Kg hi hn hg ?_
  (try simp_arith!)
  rw [← hK2]
  exact ⟨_, [], (List.append_nil _).symm, rfl, aW.refl _, by (repeat' first | exact Bx | refine qL ?_ | refine lB ?_ | refine yJ (by first | assumption | (simp; done) | (simp; omega) | omega) ?_ | refine Gx (by assumption) ?_ | refine Gy (by assumption) ?_), _, _, rfl, .v, .v, rfl⟩
 ·rintro τ M ⟨z5, z6, rfl, v5, v6, rfl⟩
  rw [aJ]
  simp_arith!
  rw [aH]
  simp_arith!
  refine bad hn hy fun bn y hbn hy => ?_
  rw [aJ, aH]
  simp_arith!
  refine bad hg hy fun bg y hbg hy => ?_
  rw [aJ]
  simp_arith!
  rw [aH]
  simp_arith!
  rw [Gg (by decide)]
  refine Ql (fun i τ M => ∃ z5, M = [.lst y] ∧ Vz z5 ∧ τ = [none, none, none, some (.v (.str n)), some (.v (.str g)), z5, none, some (.v (.str bn)), some (.v (.str bg))]) ⟨none, rfl, .none, rfl⟩ (fun _ _ _ _ => trivial) ?_ ?_
  ·rintro i τ M hi ⟨z5, rfl, v5, rfl⟩
   refine ⟨_, rfl, Bm ?_⟩
   generalize hK2 : (KK.mk _ _ _ _ _ : KK) = K2
   have low : ∀ {x : Str}, Asc x → dat 20 (.tup [.str x]) = true := fun {x} h => by
    have e := aAM h
    simp [dat, dH, e]
   rw [aH]
   simp_arith!
   refine Kd hi hbn.1 (uX hg) (fun _ => ?_) (fun z => absurd z hbn.2) fun z => hbn.2 z.1
   (try simp_arith! [aV, asP])
   rw [cH (low hbn.1) rfl]
   (try simp_arith!)
   rw [aJ, aH]
   simp_arith!
   refine Kd hi (uX hn) hbg.1 (fun z => absurd hn z) (fun _ _ => ?_) fun z => hbg.2 z.2
   (try simp_arith! [aV, asP])
   rw [cH (low hbg.1) rfl]
   (try simp_arith!)
   rw [aJ]
   simp_arith!
   refine Kd hi hbn.1 hbg.1 (fun _ => ?_) (fun z => absurd z hbn.2) fun z => hbn.2 z.1
   (try simp_arith! [aV, asP])
   rw [cH (low hbn.1) rfl]
   (try simp_arith!)
   rw [← hK2]
   exact ⟨_, [], (List.append_nil _).symm, rfl, aW.refl _, by (repeat' first | exact Bx | refine qL ?_ | refine lB ?_ | refine yJ (by first | assumption | (simp; done) | (simp; omega) | omega) ?_ | refine Gx (by assumption) ?_ | refine Gy (by assumption) ?_), _, rfl, .v, rfl⟩
  ·rintro τ M ⟨z5, rfl, v5, rfl⟩
   rw [aJ]
   simp_arith!
   (try simp_arith!)
   exact done _
theorem law_ok (ns : List Int) (h : ns.length ≤ 63) : ∃ L1, Ka [.v (.scr ns)] [] = some (.ok (.v (.bl true)), L1) := by
 obtain ⟨d, L', e, rfl⟩ := nO (aCO ns h)
 exact ⟨L', e⟩
end LK01
end
theorem PySem.Challenge.cw_redopages_k01_roles_and_their_words_holds : PySem.Challenge.rw_redopages_k01_roles_and_their_words.Holds :=
 PySem.Challenge.cw_redopages_k01_roles_and_their_words_of LK01.law_ok
