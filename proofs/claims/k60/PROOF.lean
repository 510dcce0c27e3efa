import PyProof.Rows.All
import Wide.All
import OpenK.AllK
import Wide.FinOn
import KE.KStateDown
import KE.DataCmp
import PyProof.ReprRoads
import HandS.ForMost
import HandS.ExcCtx
import HandS.HotCalls
import HandS.TupAny
import HandS.TupMul
import HandS.Style
import HandS.DictComp
import HandS.DictEq
import HandS.Deep
import HandS.Conv
import HandS.Flow
import HandS.Star
import HandS.Small
import HandS.More
import HandS.Evl
import HandS.Defaults
import HandS.HeadHook1
import HandS.HeadHook2
import KE.SortData
import HandS.ListEq
import HandS.TupLen
import HandS.Walk
import HandS.Zip
import HandS.WideBits
import HandS.Words
import HandS.Strs
import KE.KDictZip
import HandS.ExcIs
import PyProof.SumWalk
import HandS.Head0
import HandS.Head1
import HandS.Head2
import HandS.HeadEnd
import PyProof.ExcBaseAll.ValueError
import PyProof.Rows.RegFStrParts
import KE.DatumOrd
import PySem.Challenge.RW_sayagainst_k60_standards_and_least_grant
set_option Elab.async false
set_option linter.all false
set_option maxRecDepth 100000
set_option maxHeartbeats 0
/-! DA: plain data D, how a value holds it, the store of a frame -/
namespace DL
open PySem PySem.Spec PyProof.Rows L2

/-- plain data -/
inductive D where
  | non | bl (b : Bool) | int (i : Int) | str (x : Str)
  | tup (l : List D) | lst (l : List D)
  | dic (l : List (Key × D)) | dit (l : List (List Key × D))
  | obj (c : Str) (l : List (Str × D))
  | fn (f : Str) | st | scr (l : List Int) | kt (l : List D)

abbrev AP := Addr → Prop
/-- the drawing state: a list of the stream and a counter -/
def StO (a s : Addr) (n : Nat) : HO := .ext fun h => ∃ (t : Tok) (m : Nat), h.get? a = some { cls := .type "list", data := .seq #[.ref s, .int (n : Int) t] m }
theorem sto_inj {a a' s s' : Addr} {n n' : Nat} (h : StO a s n = StO a' s' n') (ha : a = a') : n = n' ∧ s = s' := by
  subst ha
  have e : (fun h : Heap => ∃ (t : Tok) (m : Nat), h.get? a = some { cls := .type "list", data := .seq #[.ref s, .int (n : Int) t] m }) = fun h : Heap => ∃ (t : Tok) (m : Nat), h.get? a = some { cls := .type "list", data := .seq #[.ref s', .int (n' : Int) t] m } := by
    unfold StO at h
    injection h
  obtain ⟨hp, hh⟩ : ∃ hp : Heap, hp.get? a = some { cls := .type "list", data := .seq #[.ref s, .int (n : Int) 0] 0 } := by
    refine ⟨⟨Array.replicate (a + 1) { cls := .type "list", data := .seq #[.ref s, .int (n : Int) 0] 0 }, default⟩, ?_⟩
    rw [Heap.get?_some_iff]
    exact ⟨by simp, rfl⟩
  have q : ∃ (t : Tok) (m : Nat), hp.get? a = some { cls := .type "list", data := .seq #[.ref s', .int (n' : Int) t] m } := by
    rw [← congrFun e hp]
    exact ⟨0, 0, hh⟩
  obtain ⟨t, m, q⟩ := q
  rw [hh] at q
  injection q with q
  injection q with _ _ q _
  injection q with q _
  have l := congrArg Array.toList q
  simp at l
  exact ⟨by omega, l.1⟩
/-- a state object moved on -/
def Std (b : Addr) (o : HO) (r : Option HO) : Prop := ∃ s n n', o = StO b s n ∧ r = some (StO b s n')
def isX : HO → Bool
  | .ext _ => true
  | _ => false
theorem Std.not {b : Addr} {o : HO} {r : Option HO} (h : Std b o r) (n : isX o = false) : False := by
  obtain ⟨s, k, k', rfl, _⟩ := h
  cases n
def RepSt (A : AP) (H : Hp) (v : V) : Prop :=
  ∃ (a s : Addr) (n : Nat) (ns : List Int), v = .ref a ∧ ¬ A a ∧ ¬ A s ∧ H a = some (StO a s n) ∧ H s = some (.lst (ns.map V.int)) ∧ ns ≠ [] ∧ (∀ n ∈ ns, 0 ≤ n ∧ n < 1009) ∧ ns.length ≤ 4000

section
variable (K : PySem.W.Frag)
mutual
def Rep (A : AP) (H : Hp) : D → V → Prop
  | .non, v => v = .non
  | .bl b, v => v = .bl b
  | .int i, v => v = .int i
  | .str x, v => v = .str x
  | .tup l, v => ∃ a vs, v = .ref a ∧ H a = some (.tup vs) ∧ RepL A H l vs
  | .lst l, v => ∃ a vs, v = .ref a ∧ ¬ A a ∧ H a = some (.lst vs) ∧ RepL A H l vs
  | .dic l, v => ∃ a kvs, v = .ref a ∧ ¬ A a ∧ Rd H a (.dK kvs) ∧ RepK A H l kvs
  | .dit l, v => ∃ a kvs, v = .ref a ∧ ¬ A a ∧ Rd H a (.dT kvs) ∧ RepT A H l kvs
  | .obj c l, v => ∃ a dx fs, v = .ref a ∧ ¬ A a ∧ H a = some (.ins (He.ga K c) dx fs) ∧ RepF A H l fs
  | .fn f, v => v = .ref (He.ga K f)
  | .st, v => RepSt A H v
  | .scr l, v => ∃ a, v = .ref a ∧ ((∃ o, ¬ A a ∧ H a = some (.frz o (.lst (l.map V.int)))) ∨ ∀ G, SqL K G a (l.map V.int))
  | .kt l, v => ∃ a vs, v = .ref a ∧ (∀ G, SqT K G a vs) ∧ RepL A H l vs
def RepL (A : AP) (H : Hp) : List D → List V → Prop
  | [], vs => vs = []
  | d :: l, vs => ∃ v r, vs = v :: r ∧ Rep A H d v ∧ RepL A H l r
def RepK (A : AP) (H : Hp) : List (Key × D) → List (Key × V) → Prop
  | [], vs => vs = []
  | (k, d) :: l, vs => ∃ v r, vs = (k, v) :: r ∧ Rep A H d v ∧ RepK A H l r
def RepT (A : AP) (H : Hp) : List (List Key × D) → List (List Key × V) → Prop
  | [], vs => vs = []
  | (k, d) :: l, vs => ∃ v r, vs = (k, v) :: r ∧ Rep A H d v ∧ RepT A H l r
def RepF (A : AP) (H : Hp) : List (Str × D) → List (Str × V) → Prop
  | [], vs => vs = []
  | (k, d) :: l, vs => ∃ v r, vs = (k, v) :: r ∧ Rep A H d v ∧ RepF A H l r
end
end

def isDc : HO → Bool
  | .dK _ => true
  | .dT _ => true
  | _ => false
def nfz : HO → Bool
  | .frz _ u => !isDc u
  | _ => true
/-- what may change -/
def isMt : HO → Bool
  | .lst _ => true
  | .dK _ => true
  | .dT _ => true
  | .set _ _ => true
  | .ins _ _ _ => true
  | .ext _ => true
  | .frz _ (.dK _) => true
  | .frz _ (.dT _) => true
  | _ => false
/-- a dict locked, or unlocked again -/
def Lkd (o : HO) (r : Option HO) : Prop := (∃ u od, isDc u = true ∧ o = u ∧ r = some (.frz od u)) ∨ ∃ u od, isDc u = true ∧ o = .frz od u ∧ r = some u
def Keeps (A : AP) (H H' : Hp) : Prop := ∀ b o, H b = some o → (A b → isMt o = false) → H' b = some o ∨ Lkd o (H' b) ∨ Std b o (H' b)
def Grows (H : Hp) (A A' : AP) : Prop := ∀ b o, H b = some o → ¬ A b → ¬ A' b

theorem Keeps.at {A : AP} {H H' : Hp} (k : Keeps A H H') {b : Addr} {o : HO} (h : H b = some o) (n : A b → isMt o = false) (h1 : isDc o = false) (h2 : nfz o = true) (h3 : isX o = false) : H' b = some o := by
  rcases k b o h n with z | (⟨u, od, d, rfl, _⟩ | ⟨u, od, d, rfl, _⟩) | z
  · exact z
  · rw [h1] at d
    cases d
  · have h3 : (!isDc u) = true := h2
    rw [d] at h3
    cases h3
  · exact (z.not h3).elim
theorem Keeps.rd {A : AP} {H H' : Hp} (k : Keeps A H H') {a : Addr} {u : HO} (h2 : nfz u = true) (h4 : isX u = false) (na : ¬ A a) (h : Rd H a u) : Rd H' a u := by
  rcases h with h | ⟨o, h⟩
  · rcases k a _ h (fun z => absurd z na) with z | (⟨u', od, d, e, z⟩ | ⟨u', od, d, e, z⟩) | z
    · exact .inl z
    · exact .inr ⟨od, by rw [z, e]⟩
    · rw [e] at h2
      have h3 : (!isDc u') = true := h2
      rw [d] at h3
      cases h3
    · exact (z.not h4).elim
  · rcases k a _ h (fun z => absurd z na) with z | (⟨u', od, d, e, z⟩ | ⟨u', od, d, e, z⟩) | z
    · exact .inr ⟨o, z⟩
    · rw [← e] at d
      cases d
    · cases e
      exact .inl z
    · exact (z.not rfl).elim
theorem Keeps.tup {K : PySem.W.Frag} {A : AP} {H H' : Hp} (k : Keeps A H H') {a : Addr} {vs : List V} (h : SqT K H a vs) : SqT K H' a vs := by
  rcases h with h | h
  · rcases h with h | ⟨o, h⟩
    · exact .inl (.inl (k.at h (fun _ => rfl) rfl rfl rfl))
    · exact .inl (.inr ⟨o, k.at h (fun _ => rfl) rfl rfl rfl⟩)
  · exact .inr h
theorem Grows.rd {A A' : AP} {H : Hp} (g : Grows H A A') {a : Addr} {u : HO} (na : ¬ A a) (h : Rd H a u) : ¬ A' a := by
  rcases h with h | ⟨o, h⟩
  · exact g a _ h na
  · exact g a _ h na

section
variable {K : PySem.W.Frag} {A A' : AP} {H H' : Hp}
mutual
theorem Rep.keep (k : Keeps A H H') (g : Grows H A A') : ∀ (d : D) (v : V), Rep K A H d v → Rep K A' H' d v
  | .non, v, h => h
  | .bl b, v, h => h
  | .int i, v, h => h
  | .str x, v, h => h
  | .tup l, v, h => by
    obtain ⟨a, vs, e, s, r⟩ := h
    exact ⟨a, vs, e, k.at s (fun _ => rfl) rfl rfl rfl, RepL.keep k g l vs r⟩
  | .lst l, v, h => by
    obtain ⟨a, vs, e, na, s, r⟩ := h
    exact ⟨a, vs, e, g a _ s na, k.at s (fun z => absurd z na) rfl rfl rfl, RepL.keep k g l vs r⟩
  | .dic l, v, h => by
    obtain ⟨a, vs, e, na, s, r⟩ := h
    exact ⟨a, vs, e, g.rd na s, k.rd rfl rfl na s, RepK.keep k g l vs r⟩
  | .dit l, v, h => by
    obtain ⟨a, vs, e, na, s, r⟩ := h
    exact ⟨a, vs, e, g.rd na s, k.rd rfl rfl na s, RepT.keep k g l vs r⟩
  | .obj c l, v, h => by
    obtain ⟨a, dx, vs, e, na, s, r⟩ := h
    exact ⟨a, dx, vs, e, g a _ s na, k.at s (fun z => absurd z na) rfl rfl rfl, RepF.keep k g l vs r⟩
  | .fn f, v, h => h
  | .st, v, h => by
    obtain ⟨a, s, n, ns, e, na, nb, ha, hs, hn, hb, hl⟩ := h
    have q : ∃ n', H' a = some (StO a s n') := by
      rcases k a _ ha (fun z => absurd z na) with z | (⟨u', od, d, e, z⟩ | ⟨u', od, d, e, z⟩) | ⟨s', m, m', e, z⟩
      · exact ⟨n, z⟩
      · rw [← e] at d
        cases d
      · cases e
      · obtain ⟨rfl, rfl⟩ := sto_inj e rfl
        exact ⟨m', z⟩
    obtain ⟨n', q⟩ := q
    exact ⟨a, s, n', ns, e, g a _ ha na, g s _ hs nb, q, k.at hs (fun z => absurd z nb) rfl rfl rfl, hn, hb, hl⟩
  | .scr l, v, h => by
    obtain ⟨a, e, h⟩ := h
    refine ⟨a, e, h.imp (fun q => ?_) id⟩
    obtain ⟨o, na, ha⟩ := q
    exact ⟨o, g a _ ha na, k.at ha (fun z => absurd z na) rfl rfl rfl⟩
  | .kt l, v, h => by
    obtain ⟨a, vs, e, s, r⟩ := h
    exact ⟨a, vs, e, s, RepL.keep k g l vs r⟩
theorem RepL.keep (k : Keeps A H H') (g : Grows H A A') : ∀ (l : List D) (vs : List V), RepL K A H l vs → RepL K A' H' l vs
  | [], vs, h => h
  | d :: l, vs, h => by
    obtain ⟨v, r, e, h1, h2⟩ := h
    exact ⟨v, r, e, Rep.keep k g d v h1, RepL.keep k g l r h2⟩
theorem RepK.keep (k : Keeps A H H') (g : Grows H A A') : ∀ (l : List (Key × D)) (vs : List (Key × V)), RepK K A H l vs → RepK K A' H' l vs
  | [], vs, h => h
  | (x, d) :: l, vs, h => by
    obtain ⟨v, r, e, h1, h2⟩ := h
    exact ⟨v, r, e, Rep.keep k g d v h1, RepK.keep k g l r h2⟩
theorem RepT.keep (k : Keeps A H H') (g : Grows H A A') : ∀ (l : List (List Key × D)) (vs : List (List Key × V)), RepT K A H l vs → RepT K A' H' l vs
  | [], vs, h => h
  | (x, d) :: l, vs, h => by
    obtain ⟨v, r, e, h1, h2⟩ := h
    exact ⟨v, r, e, Rep.keep k g d v h1, RepT.keep k g l r h2⟩
theorem RepF.keep (k : Keeps A H H') (g : Grows H A A') : ∀ (l : List (Str × D)) (vs : List (Str × V)), RepF K A H l vs → RepF K A' H' l vs
  | [], vs, h => h
  | (x, d) :: l, vs, h => by
    obtain ⟨v, r, e, h1, h2⟩ := h
    exact ⟨v, r, e, Rep.keep k g d v h1, RepF.keep k g l r h2⟩
end
end
end DL

/-! DB: a small language with slots, and what its pieces want (wp), over plain data -/
namespace DL
open PySem PySem.Spec PyProof.Rows L2

/-- an exception: its class, its line (of those that bear one) -/
structure Exn where
  cls : Str
  line : Option Int := none
abbrev DK := D → Prop
abbrev EK := Exn → Prop
/-- what a def does: its arguments, what is wanted of its value, of its exception -/
abbrev DSp := List D → DK → EK → Prop
structure Ent where
  k : Nat
  n : Nat
  c : Nat
  m : DSp
structure Tb where
  fn : Str → Option Ent
  meth : Str → Str → Option Ent
  new : Str → Option Ent
  glob : Str → Option D
  exc : Str → Bool
  err : Bool := false
abbrev DE := List (Option D)

inductive Pt where
  | one (i : Nat) | many (is : List Nat)
inductive BF where
  | len | all | any | sum | max | min | max2 | min2 | abs | int | str | repr | sorted | list | tuple
  deriving DecidableEq
inductive BM where
  | index | count | values | split | join | bitlen
  deriving DecidableEq
inductive E where
  | var (i : Nat) | own (i : Nat) | con (d : D) | glob (x : Str)
  | tup (es : List E) | lst (es : List E) | star (e : E)
  | bin (op : Operator) (a b : E) | binN (op : Operator) (a b : E) | lenset (a : E) | dictzip (a b : E) | neg (a : E) | inv (a : E)
  | cmp (op : CmpOp) (a b : E) | chain (o1 o2 : CmpOp) (a b c : E)
  | inn (neg : Bool) (a b : E) | din (neg : Bool) (a b : E)
  | isn (neg : Bool) (a : E)
  | and (es : List E) | or (es : List E) | not (a : E) | ite (c a b : E)
  | sub (a i : E) | dget (a i : E) | dgetd (a i d : E)
  | slice (a : E) (lo hi : Option E) | rev (a : E)
  | blt (f : BF) (es : List E)
  | call (f : Str) (es : List E)
  | pick (c : E) (es : List E)
  | bm (m : BM) (o : E) (es : List E)
  | meth (c m : Str) (o : E) (es : List E)
  | attr (c f : Str) (o : E)
  | mk (c : Str) (es : List E)
  | lc (own : List (Str × Nat)) (tg : Pt) (it : E) (ifs : List E) (e : E)
  | lck (own : List (Str × Nat)) (tg : Pt) (it : E) (ifs : List E) (e : E)
  | lc2 (own : List (Str × Nat)) (tg : Pt) (it : E) (ifs : List E) (own2 : List Nat) (tg2 : Pt) (it2 : E) (ifs2 : List E) (e : E)
  | dc (own : List (Str × Nat)) (tg : Pt) (it : E) (ifs : List E) (k v : E)
  | dnew (t : Bool)
  | rng (a : E) | rng2 (a b : E) | enum (e : E) | zip (a b : E) | items (e : E) | vals (e : E) | keys (e : E)
  | newst (e : E)

/-! ### the operations -/
def cutL {α : Type} (xs : List α) (lo hi : Option Int) : List α := (xs.drop (HT.sIx xs.length 0 lo)).take (HT.sIx xs.length xs.length hi - HT.sIx xs.length 0 lo)
def toPy : D → Option PyData
  | .non => some .none
  | .bl b => some (.bool b)
  | .int i => some (.int i)
  | .str x => some (.str x)
  | .tup l => (toPyL l).map .tuple
  | .lst l => (toPyL l).map .list
  | .kt l => (toPyL l).map .tuple
  | _ => none
where toPyL : List D → Option (List PyData)
  | [] => some []
  | d :: l => match toPy d, toPyL l with
    | some p, some q => some (p :: q)
    | _, _ => none
def binD (op : Operator) (x y : D) (Q : DK) : Prop := match op, x, y with
  | .Add, .int i, .int j => Q (.int (i + j))
  | .Sub, .int i, .int j => Q (.int (i - j))
  | .Mult, .int i, .int j => CMul i j ∧ Q (.int (i * j))
  | .FloorDiv, .int i, .int j => CDiv i j ∧ Q (.int (i / j))
  | .Mod, .int i, .int j => 0 < j ∧ Q (.int (i % j))
  | .Pow, .int i, .int j => CPow i j ∧ Q (.int (i ^ j.toNat))
  | .LShift, .int i, .int j => CPow i j ∧ Q (.int (i * 2 ^ j.toNat))
  | .RShift, .int i, .int j => 0 ≤ j ∧ Q (.int (i / 2 ^ j.toNat))
  | .BitAnd, .int i, .int j => Q (.int (Builtin.bitAnd i j))
  | .BitOr, .int i, .int j => Q (.int (Builtin.bitOr i j))
  | .BitXor, .int i, .int j => Q (.int (Builtin.bitXor i j))
  | .Add, .str a, .str b => a.length + b.length ≤ sizeLine ∧ Q (.str (a ++ b))
  | .Add, .tup a, .tup b => a.length + b.length ≤ sizeLine ∧ Q (.tup (a ++ b))
  | .Add, .lst a, .lst b => a.length + b.length ≤ sizeLine ∧ Q (.lst (a ++ b))
  | .Mult, .lst a, .int k => -(2 ^ 63) ≤ k ∧ k < 2 ^ 63 ∧ a.length * k.toNat ≤ sizeLine ∧ Q (.lst (List.replicate k.toNat a).flatten)
  | .Mult, .tup a, .int k => a ≠ [] ∧ 2 ≤ k ∧ k ≤ 1000 ∧ a.length ≤ 1000 ∧ Q (.tup (List.replicate k.toNat a).flatten)
  | _, _, _ => False
/-- p can be compared to q: two texts always can -/
def shEq : PyData → PyData → Bool
  | .str _, .str _ => true
  | p, _ => SeqAt.shaped p
/-- dicts of truth values -/
def dicB (l : List (Key × Bool)) : List (Key × D) := l.map fun kv => (kv.1, .bl kv.2)
def valB (l : List (Key × Bool)) (k : Key) : Option Bool := (l.find? fun kv => decide (kv.1 = k)).map (·.2)
def eqDic (l m : List (Key × Bool)) : Bool := l.length == m.length && l.all fun kv => decide (valB m kv.1 = some kv.2)
/-- what can be sorted, and how it then stands -/
def encD (d : D) : PyData := (toPy d).getD .none
def SortXD (ds : List PyData) : Prop := PySem.W.Sortable ds ∨ ((∀ d ∈ ds, ∃ xs, d = .tuple xs) ∧ ∃ r, ds = .tuple [] :: r)
def SortC (l : List D) : Prop := (∃ ps, toPy.toPyL l = some ps) ∧ PySem.W.AllAlike (l.map encD) ∧ SortXD (l.map encD) ∧ ∀ d ∈ l, (encD d).depth ≤ 60
def sortD (l : List D) : List D := l.mergeSort (PySem.W.dataLe false encD)
def cmpD (op : CmpOp) (x y : D) (Q : DK) : Prop := match op, x, y with
  | .Lt, .int i, .int j => Q (.bl (decide (i < j)))
  | .LtE, .int i, .int j => Q (.bl (decide (i ≤ j)))
  | .Gt, .int i, .int j => Q (.bl (decide (j < i)))
  | .GtE, .int i, .int j => Q (.bl (decide (j ≤ i)))
  | .Lt, .str a, .str b => Q (.bl (decide (a.cps.toList < b.cps.toList)))
  | .Lt, .tup a, .tup b => ∃ p q, toPy.toPyL a = some p ∧ toPy.toPyL b = some q ∧ PySem.W.alikeAll p q = true ∧ (PyData.tuple p).depth ≤ 60 ∧ Q (.bl (PySem.W.dataLt (.tuple p) (.tuple q)))
  | .Eq, .dic l, .dic m => ∃ l' m' : List (Key × Bool), l = dicB l' ∧ m = dicB m' ∧ Q (.bl (eqDic l' m'))
  | .Eq, x, y => ∃ p q, toPy x = some p ∧ toPy y = some q ∧ shEq p q = true ∧ shEq q p = true ∧ Q (.bl (PyData.eqv p q))
  | .NotEq, x, y => ∃ p q, toPy x = some p ∧ toPy y = some q ∧ shEq p q = true ∧ shEq q p = true ∧ Q (.bl (!PyData.eqv p q))
  | _, _, _ => False
/-- what makes a new list -/
def binND (op : Operator) (x y : D) (Q : DK) : Prop := match op, x, y with
  | .Add, .lst a, .lst b => a.length + b.length ≤ sizeLine ∧ Q (.lst (a ++ b))
  | .Mult, .lst a, .int k => -(2 ^ 63) ≤ k ∧ k < 2 ^ 63 ∧ a.length * k.toNat ≤ sizeLine ∧ Q (.lst (List.replicate k.toNat a).flatten)
  | _, _, _ => False
def distS (l : List Str) : List Str := l.foldl (fun acc x => if x ∈ acc then acc else acc ++ [x]) []
def negB (neg b : Bool) : Bool := if neg then !b else b
def innD (neg : Bool) (x y : D) (Q : DK) : Prop := match x, y with
  | .str a, .str b => ∃ c, a = ⟨#[c]⟩ ∧ Q (.bl (negB neg (decide (c ∈ b.cps.toList))))
  | x, .lst l => ∃ p ps, toPy x = some p ∧ toPy.toPyL l = some ps ∧ SeqAt.shaped p = true ∧ SeqAt.shaped (.list ps) = true ∧ Q (.bl (negB neg (ps.any fun z => PyData.eqv z p)))
  | x, .kt l => ∃ p ps, toPy x = some p ∧ toPy.toPyL l = some ps ∧ SeqAt.shaped p = true ∧ SeqAt.shaped (.list ps) = true ∧ Q (.bl (negB neg (ps.any fun z => PyData.eqv z p)))
  | x, .tup l => ∃ p ps, toPy x = some p ∧ toPy.toPyL l = some ps ∧ SeqAt.shaped p = true ∧ SeqAt.shaped (.list ps) = true ∧ Q (.bl (negB neg (ps.any fun z => PyData.eqv z p)))
  | _, _ => False
/-- a key of a dict -/
def keyK : D → Option Key
  | .int i => some (.inl i)
  | .str x => some (.inr x)
  | _ => none
def keyKs : List D → Option (List Key)
  | [] => some []
  | d :: l => match keyK d, keyKs l with
    | some p, some q => some (p :: q)
    | _, _ => none
def keyT : D → Option (List Key)
  | .tup l => keyKs l
  | _ => none
def dK : Key → D
  | .inl i => .int i
  | .inr x => .str x
def valD {κ : Type} [DecidableEq κ] (kvs : List (κ × D)) (k : κ) : Option D := (kvs.find? fun kv => decide (kv.1 = k)).map (·.2)
def putD {κ : Type} [DecidableEq κ] (kvs : List (κ × D)) (k : κ) (v : D) : List (κ × D) :=
  if (kvs.any fun kv => decide (kv.1 = k)) = true then kvs.map (fun kv => if kv.1 = k then (kv.1, v) else kv) else kvs ++ [(k, v)]
def dinD (neg : Bool) (x y : D) (Q : DK) : Prop := match y with
  | .dic l => ∃ k, keyK x = some k ∧ Q (.bl (negB neg (valD l k).isSome))
  | .dit l => ∃ k, keyT x = some k ∧ Q (.bl (negB neg (valD l k).isSome))
  | _ => False
def dgetD (y x : D) (Q : DK) : Prop := match y with
  | .dic l => ∃ k d, keyK x = some k ∧ valD l k = some d ∧ Q d
  | .dit l => ∃ k d, keyT x = some k ∧ valD l k = some d ∧ Q d
  | _ => False
def dgetdD (y x z : D) (Q : DK) : Prop := match y with
  | .dic l => ∃ k, keyK x = some k ∧ Q ((valD l k).getD z)
  | .dit l => ∃ k, keyT x = some k ∧ Q ((valD l k).getD z)
  | _ => False
def subD (x y : D) (Q : DK) : Prop := match x, y with
  | .lst l, .int i => ∃ d, atI l i = some d ∧ Q d
  | .tup l, .int i => ∃ d, atI l i = some d ∧ Q d
  | .kt l, .int i => ∃ d, atI l i = some d ∧ Q d
  | .str z, .int i => ∃ c, z.length ≤ sizeLine ∧ atI z.cps.toList i = some c ∧ Q (.str ⟨#[c]⟩)
  | _, _ => False
def sliceD (x : D) (lo hi : Option Int) (Q : DK) : Prop := match x with
  | .lst l => Q (.lst (cutL l lo hi))
  | .tup l => Q (.tup (cutL l lo hi))
  | .str z => z.length ≤ sizeLine ∧ Q (.str (cutS z lo hi))
  | .scr l => Q (.lst ((cutL l lo hi).map .int))
  | _ => False
def revD (x : D) (Q : DK) : Prop := match x with
  | .lst l => Q (.lst l.reverse)
  | .tup l => Q (.tup l.reverse)
  | _ => False
def bfD (f : BF) (ds : List D) (Q : DK) : Prop := match f, ds with
  | .len, [.lst l] => Q (.int l.length)
  | .len, [.tup l] => Q (.int l.length)
  | .len, [.kt l] => Q (.int l.length)
  | .len, [.str z] => z.length ≤ sizeLine ∧ Q (.int z.length)
  | .len, [.dic l] => Q (.int l.length)
  | .all, [.lst l] => ∃ bs : List Bool, l = bs.map .bl ∧ Q (.bl (bs.all id))
  | .any, [.lst l] => ∃ bs : List Bool, l = bs.map .bl ∧ Q (.bl (bs.any id))
  | .sum, [.lst l] => ∃ ns : List Int, l = ns.map .int ∧ Q (.int ns.sum)
  | .max, [.lst l] => ∃ ns : List Int, l = ns.map .int ∧ 0 < ns.length ∧ ∀ m, m ∈ ns → (∀ y, y ∈ ns → y ≤ m) → Q (.int m)
  | .min, [.lst l] => ∃ ns : List Int, l = ns.map .int ∧ 0 < ns.length ∧ ∀ m, m ∈ ns → (∀ y, y ∈ ns → m ≤ y) → Q (.int m)
  | .max2, [.int i, .int j] => Q (.int (if j > i then j else i))
  | .min2, [.int i, .int j] => Q (.int (if j < i then j else i))
  | .abs, [.int i] => Q (.int (if i < 0 then -i else i))
  | .int, [.int i] => Q (.int i)
  | .int, [.bl b] => Q (.int (b2i b))
  | .repr, [.tup l] => ∃ p, toPy.toPyL l = some p ∧ (PyData.tuple p).showable = true ∧ (PyData.tuple p).hasDict = false ∧ (PyData.tuple p).depth ≤ 60 ∧ (PyData.tuple p).shown.length ≤ sizeLine ∧ Q (.str (PyData.tuple p).shown)
  | .repr, [.lst l] => ∃ p, toPy.toPyL l = some p ∧ (PyData.list p).showable = true ∧ (PyData.list p).hasDict = false ∧ (PyData.list p).depth ≤ 60 ∧ (PyData.list p).shown.length ≤ sizeLine ∧ Q (.str (PyData.list p).shown)
  | .str, [.int i] => i.natAbs.log2 < 1920 ∧ Q (.str (toString i))
  | .list, [.lst l] => Q (.lst l)
  | .list, [.tup l] => Q (.lst l)
  | .list, [.kt l] => Q (.lst l)
  | .list, [.dic l] => Q (.lst (l.map fun kv => dK kv.1))
  | .tuple, [.lst l] => Q (.tup l)
  | .tuple, [.tup l] => Q (.tup l)
  | .sorted, [.lst l] => SortC l ∧ Q (.lst (sortD l))
  | .sorted, [.tup l] => SortC l ∧ Q (.lst (sortD l))
  | _, _ => False
def bmD (m : BM) (o : D) (ds : List D) (Q : DK) : Prop := match m, o, ds with
  | .index, .lst l, [x] => ∃ p ps j z, toPy x = some p ∧ toPy.toPyL l = some ps ∧ SeqAt.shaped (.list ps) = true ∧ SeqAt.shaped p = true ∧ ps[j]? = some z ∧ PyData.eqv z p = true ∧ (∀ (m : Nat) z', m < j → ps[m]? = some z' → PyData.eqv z' p = false) ∧ Q (.int (j : Nat))
  | _, _, _ => False
/-- what the receiver is -/
def bmTy (m : BM) (o : D) : Prop := match m, o with
  | .index, .lst _ => True
  | _, _ => False
def attrD (c f : Str) (o : D) (Q : DK) : Prop := match o with
  | .obj c' l => c' = c ∧ ∃ d, l.lookup f = some d ∧ Q d
  | _ => False
/-- what is walked -/
def walkD : D → Option (List D)
  | .lst l => some l
  | .tup l => some l
  | .kt l => some l
  | .str z => some (z.cps.toList.map fun c => .str ⟨#[c]⟩)
  | _ => none
def setPt (tg : Pt) (d : D) (ρ : DE) (Q : DE → Prop) : Prop := match tg with
  | .one i => Q (ρ.set i (some d))
  | .many is => ∃ ds, (d = .tup ds) ∧ ds.length = is.length ∧ Q ((is.zip ds).foldl (fun r p => r.set p.1 (some p.2)) ρ)
def wipeD (ρ : DE) : List Nat → DE
  | [] => ρ
  | v :: vs => (wipeD ρ vs).set v none
/-- a walk that gives a list -/
def lcW (step : D → (Option D → Prop) → Prop) : List D → List D → (List D → Prop) → Prop
  | [], acc, Q => Q acc
  | d :: l, acc, Q => acc.length < sizeLine ∧ step d fun r => match r with
    | some x => lcW step l (acc ++ [x]) Q
    | none => lcW step l acc Q
def dcW (step : D → (Option (D × D) → Prop) → Prop) : List D → List (Key × D) → (List (Key × D) → Prop) → Prop
  | [], acc, Q => Q acc
  | d :: l, acc, Q => acc.length < sizeLine ∧ step d fun r => match r with
    | some (x, y) => ∃ k, keyK x = some k ∧ dcW step l (putD acc k y) Q
    | none => dcW step l acc Q

def ownB : E → Bool
  | .own _ => true
  | _ => false
/-- holds no list, no dict, no object -/
def flatD : D → Bool
  | .non => true
  | .bl _ => true
  | .int _ => true
  | .str _ => true
  | .tup l => flatL l
  | .fn _ => true
  | _ => false
where flatL : List D → Bool
  | [] => true
  | d :: l => flatD d && flatL l
/-! ### the cost in draws, at most -/
def wkL : Nat := 2 ^ 32
section
variable (T : Tb)
mutual
def dcE : E → Nat
  | .tup es => dcEs es
  | .lst es => dcEs es
  | .star e => dcE e
  | .bin _ a b => dcE a + dcE b
  | .binN _ a b => dcE a + dcE b
  | .lenset a => dcE a
  | .dictzip a b => dcE a + dcE b
  | .neg a => dcE a
  | .inv a => dcE a
  | .cmp _ a b => dcE a + dcE b
  | .chain _ _ a b c => dcE a + (dcE b + dcE c)
  | .inn _ a b => dcE a + dcE b
  | .din _ a b => dcE a + dcE b
  | .isn _ a => dcE a
  | .and es => dcEs es
  | .or es => dcEs es
  | .not a => dcE a
  | .ite c a b => dcE c + (dcE a + dcE b)
  | .sub a i => dcE a + dcE i
  | .dget a i => dcE a + dcE i
  | .dgetd a i d => dcE a + (dcE i + dcE d)
  | .slice a lo hi => dcE a + (dcO lo + dcO hi)
  | .rev a => dcE a
  | .blt _ es => dcEs es
  | .call f es => dcEs es + (match T.fn f with
    | some e => e.c
    | none => 0)
  | .pick c es => dcE c + dcEs es
  | .bm _ o es => dcE o + dcEs es
  | .meth _ _ o es => dcE o + dcEs es
  | .attr _ _ o => dcE o
  | .mk _ es => dcEs es
  | .lc _ _ it ifs e => dcE it + wkL * (dcEs ifs + dcE e)
  | .lck _ _ it ifs e => dcE it + wkL * (dcEs ifs + dcE e)
  | .lc2 _ _ it ifs _ _ it2 ifs2 e => dcE it + wkL * (dcEs ifs + (dcE it2 + wkL * (dcEs ifs2 + dcE e)))
  | .dc _ _ it ifs k v => dcE it + wkL * (dcEs ifs + (dcE k + dcE v))
  | .rng a => dcE a
  | .rng2 a b => dcE a + dcE b
  | .enum e => dcE e
  | .zip a b => dcE a + dcE b
  | .items e => dcE e
  | .vals e => dcE e
  | .keys e => dcE e
  | .newst e => dcE e
  | _ => 0
def dcEs : List E → Nat
  | [] => 0
  | e :: es => dcE e + dcEs es
def dcO : Option E → Nat
  | none => 0
  | some e => dcE e
end
end
/-! ### expressions -/
section
variable (T : Tb)
mutual
def wpE (X : EK) : E → DE → DK → Prop
  | .var i, ρ, Q => ∃ d, ρ[i]? = some (some d) ∧ Q d
  | .own i, ρ, Q => ∃ d, ρ[i]? = some (some d) ∧ Q d
  | .con d, _, Q => Q d
  | .glob x, _, Q => ∃ d, T.glob x = some d ∧ Q d
  | .tup es, ρ, Q => wpEs X es ρ fun ds => ds.length ≤ sizeLine ∧ Q (.tup ds)
  | .lst es, ρ, Q => wpEs X es ρ fun ds => ds.length ≤ sizeLine ∧ Q (.lst ds)
  | .star _, _, _ => False
  | .bin op a b, ρ, Q => wpE X a ρ fun x => wpE X b ρ fun y => binD op x y Q
  | .binN op a b, ρ, Q => wpE X a ρ fun x => wpE X b ρ fun y => binND op x y Q
  | .lenset a, ρ, Q => wpE X a ρ fun x => ∃ ss : List Str, x = .lst (ss.map .str) ∧ ss.length ≤ 4000 ∧ Q (.int (distS ss).length)
  | .dictzip a b, ρ, Q => wpE X a ρ fun x => wpE X b ρ fun y => ∃ l m ks, x = .tup l ∧ y = .tup m ∧ keyKs l = some ks ∧ l.length ≤ 4000 ∧ Q (.dic ((ks.zip m).foldl (fun acc p => putD acc p.1 p.2) []))
  | .neg a, ρ, Q => wpE X a ρ fun x => ∃ i, x = .int i ∧ Q (.int (-i))
  | .inv a, ρ, Q => wpE X a ρ fun x => ∃ i, x = .int i ∧ Q (.int (Builtin.bitNot i))
  | .cmp op a b, ρ, Q => wpE X a ρ fun x => wpE X b ρ fun y => cmpD op x y Q
  | .chain o1 o2 a b c, ρ, Q => wpE X a ρ fun x => wpE X b ρ fun y => cmpD o1 x y fun r => ∃ k, r = .bl k ∧ if k = true then wpE X c ρ fun z => cmpD o2 y z Q else Q (.bl false)
  | .inn neg a b, ρ, Q => wpE X a ρ fun x => wpE X b ρ fun y => innD neg x y Q
  | .din neg a b, ρ, Q => wpE X a ρ fun x => wpE X b ρ fun y => dinD neg x y Q
  | .isn neg a, ρ, Q => wpE X a ρ fun x => Q (.bl (negB neg (match x with
      | .non => true
      | _ => false)))
  | .and es, ρ, Q => wpAnd X es ρ Q
  | .or es, ρ, Q => wpOr X es ρ Q
  | .not a, ρ, Q => wpE X a ρ fun x => ∃ c, x = .bl c ∧ Q (.bl (!c))
  | .ite c a b, ρ, Q => wpE X c ρ fun x => ∃ k, x = .bl k ∧ if k = true then wpE X a ρ Q else wpE X b ρ Q
  | .sub a i, ρ, Q => wpE X a ρ fun x => wpE X i ρ fun y => subD x y Q
  | .dget a i, ρ, Q => wpE X a ρ fun x => wpE X i ρ fun y => dgetD x y Q
  | .dgetd a i d, ρ, Q => wpE X a ρ fun x => wpE X i ρ fun y => wpE X d ρ fun z => dgetdD x y z Q
  | .slice a lo hi, ρ, Q => wpE X a ρ fun x => wpO X lo ρ fun l => wpO X hi ρ fun h => sliceD x l h Q
  | .rev a, ρ, Q => wpE X a ρ fun x => revD x Q
  | .blt f es, ρ, Q => wpEs X es ρ fun ds => bfD f ds Q
  | .call f es, ρ, Q => wpEs X es ρ fun ds => ∃ e, T.fn f = some e ∧ ds.length = e.n ∧ e.m ds (fun d => (es.any ownB = true → flatD d = true) ∧ Q d) X
  | .pick c es, ρ, Q => wpE X c ρ fun x => ∃ f, x = .fn f ∧ (T.glob f).isSome = true ∧ (match T.glob f with
      | some (.fn g) => g = f
      | _ => False) ∧ (∃ e, T.fn f = some e ∧ e.c = 0) ∧ wpEs X es ρ fun ds => ∃ e, T.fn f = some e ∧ ds.length = e.n ∧ e.m ds (fun d => (es.any ownB = true → flatD d = true) ∧ Q d) X
  | .bm m o es, ρ, Q => wpE X o ρ fun x => bmTy m x ∧ wpEs X es ρ fun ds => bmD m x ds Q
  | .meth c m o es, ρ, Q => wpE X o ρ fun x => wpEs X es ρ fun ds => ∃ e, T.meth c m = some e ∧ e.m (x :: ds) Q X
  | .attr c f o, ρ, Q => wpE X o ρ fun x => attrD c f x Q
  | .mk c es, ρ, Q => wpEs X es ρ fun ds => ∃ e, T.new c = some e ∧ e.m ds Q X
  | .lc own tg it ifs e, ρ, Q => wpE X it ρ fun w => ∃ l, walkD w = some l ∧ (dcEs T ifs + dcE T e = 0 ∨ l.length ≤ wkL) ∧ lcW (fun d R => setPt tg d (wipeD ρ (own.map (·.2))) fun ρ' => wpT (fun _ => False) ifs ρ' fun b => if b = true then wpE (fun _ => False) e ρ' fun x => R (some x) else R none) l [] fun r => Q (.lst r)
  | .lck own tg it ifs e, ρ, Q => wpE X it ρ fun w => ∃ l, w = .dic l ∧ (dcEs T ifs + dcE T e = 0 ∨ (l.map fun kv => dK kv.1).length ≤ wkL) ∧ lcW (fun d R => setPt tg d (wipeD ρ (own.map (·.2))) fun ρ' => wpT (fun _ => False) ifs ρ' fun b => if b = true then wpE (fun _ => False) e ρ' fun x => R (some x) else R none) (l.map fun kv => dK kv.1) [] fun r => Q (.lst r)
  | .lc2 own tg it ifs own2 tg2 it2 ifs2 e, ρ, Q => False
  | .dc own tg it ifs k v, ρ, Q => wpE X it ρ fun w => ∃ l, walkD w = some l ∧ (dcEs T ifs + (dcE T k + dcE T v) = 0 ∨ l.length ≤ wkL) ∧ dcW (fun d R => setPt tg d (wipeD ρ (own.map (·.2))) fun ρ' => wpT (fun _ => False) ifs ρ' fun b => if b = true then wpE (fun _ => False) k ρ' fun x => wpE (fun _ => False) v ρ' fun y => R (some (x, y)) else R none) l [] fun r => Q (.dic r)
  | .dnew t, _, Q => if t = true then Q (.dit []) else Q (.dic [])
  | .rng a, ρ, Q => wpE X a ρ fun x => ∃ n, x = .int n ∧ -(2 ^ 62) ≤ n ∧ n < 2 ^ 62 ∧ Q (.lst ((List.range n.toNat).map fun (k : Nat) => .int (0 + (k : Int))))
  | .rng2 a b, ρ, Q => wpE X a ρ fun x => wpE X b ρ fun y => ∃ i j, x = .int i ∧ y = .int j ∧ (-(2 ^ 62) ≤ i ∧ i < 2 ^ 62 ∧ -(2 ^ 62) ≤ j ∧ j < 2 ^ 62) ∧ Q (.lst ((List.range (j - i).toNat).map fun (k : Nat) => .int (i + (k : Int))))
  | .enum e, ρ, Q => wpE X e ρ fun d => match d with
    | .lst l => Q (.lst (l.zipIdx.map fun p => .tup [.int (p.2 : Int), p.1]))
    | _ => False
  | .zip a b, ρ, Q => wpE X a ρ fun x => wpE X b ρ fun y => match x, y with
    | .lst l, .lst m => Q (.lst ((l.zip m).map fun p => .tup [p.1, p.2]))
    | .tup l, .tup m => Q (.lst ((l.zip m).map fun p => .tup [p.1, p.2]))
    | _, _ => False
  | .items _, _, _ => False
  | .keys e, ρ, Q => wpE X e ρ fun d => match d with
    | .dic l => Q (.lst (l.map fun kv => dK kv.1))
    | _ => False
  | .vals _, _, _ => False
  | .newst e, ρ, Q => wpE X e ρ fun d => ∃ ns : List Int, d = .lst (ns.map .int) ∧ ns ≠ [] ∧ (∀ n ∈ ns, 0 ≤ n ∧ n < 1009) ∧ ns.length ≤ 4000 ∧ Q .st
def wpO (X : EK) : Option E → DE → (Option Int → Prop) → Prop
  | none, _, Q => Q none
  | some e, ρ, Q => wpE X e ρ fun d => ∃ i, d = .int i ∧ Q (some i)
def wpEs (X : EK) : List E → DE → (List D → Prop) → Prop
  | [], _, Q => Q []
  | .star e :: es, ρ, Q => wpE X e ρ fun d => ∃ l, (d = .tup l ∨ d = .lst l) ∧ wpEs X es ρ fun ds => Q (l ++ ds)
  | e :: es, ρ, Q => wpE X e ρ fun d => wpEs X es ρ fun ds => Q (d :: ds)
def wpAnd (X : EK) : List E → DE → DK → Prop
  | [], _, _ => False
  | [e], ρ, Q => wpE X e ρ Q
  | e :: es, ρ, Q => wpE X e ρ fun x => ∃ c, x = .bl c ∧ if c = true then wpAnd X es ρ Q else Q (.bl false)
def wpOr (X : EK) : List E → DE → DK → Prop
  | [], _, _ => False
  | [e], ρ, Q => wpE X e ρ Q
  | e :: es, ρ, Q => wpE X e ρ fun x => ∃ c, x = .bl c ∧ if c = true then Q (.bl true) else wpOr X es ρ Q
def wpT (X : EK) : List E → DE → (Bool → Prop) → Prop
  | [], _, Q => Q true
  | e :: es, ρ, Q => wpE X e ρ fun d => ∃ b, d = .bl b ∧ if b = true then wpT X es ρ Q else Q false
end
end
end DL

/-! DS: statements, and what they want -/
namespace DL
open PySem PySem.Spec PyProof.Rows L2

inductive S where
  | asg (i : Nat) (e : E)
  | own (i : Nat) (e : E)
  | move (i j : Nat)
  | asgT (tg : Pt) (e : E)
  | setL (i : Nat) (ix e : E)
  | setD (i : Nat) (k e : E)
  | app (i : Nat) (e : E)
  | ext (i : Nat) (e : E)
  | upd (i : Nat) (e : E)
  | iff (c : E) (a b : List S)
  | for (tg : Pt) (it : E) (b : List S)
  | while (c : E) (b : List S)
  | ret (e : E) | retn
  | raise (c : Str)
  | try (b : List S) (i : Nat)
  | expr (e : E) | brk | cont | pass

structure KD where
  nx : DE → Prop
  rt : DK
  bk : DE → Prop
  ct : DE → Prop
  xc : EK

def lend (it : E) (ρ : DE) : DE := match it with
  | .own i => ρ.set i none
  | _ => ρ
def forL (step : D → DE → KD → Prop) (K : KD) : List D → DE → Prop
  | [], ρ => K.nx ρ
  | d :: l, ρ => step d ρ { nx := forL step K l, rt := K.rt, bk := K.nx, ct := forL step K l, xc := K.xc }
def whileL (test : DE → (Bool → Prop) → Prop) (body : DE → KD → Prop) (K : KD) : Nat → DE → Prop
  | 0, _ => False
  | n + 1, ρ => test ρ fun b => if b = true then body ρ { nx := whileL test body K n, rt := K.rt, bk := K.nx, ct := whileL test body K n, xc := K.xc } else K.nx ρ
/-- what _law_error says -/
def errT (c : Str) : Option Str :=
  if c = "NotAllowed" then some "refused" else if c = "TooLarge" then some "large" else if c = "Missing" then some "missing" else if c = "BadPaper" then some "paper" else none
def mergeD {κ : Type} [DecidableEq κ] (l : List (κ × D)) : List (κ × D) → List (κ × D)
  | [] => l
  | (k, v) :: r => mergeD (putD l k v) r

section
variable (T : Tb)
mutual
/-- the cost in draws of a statement, at most -/
def dcS : S → Nat
  | .asg _ e => dcE T e
  | .own _ e => dcE T e
  | .asgT _ e => dcE T e
  | .setL _ ix e => dcE T e + dcE T ix
  | .setD _ k e => dcE T e + dcE T k
  | .app _ e => dcE T e
  | .ext _ e => dcE T e
  | .upd _ e => dcE T e
  | .iff c a b => dcE T c + (dcSs a + dcSs b)
  | .for _ it b => dcE T it + wkL * dcSs b
  | .while c b => 0
  | .ret e => dcE T e
  | .try b _ => dcSs b
  | .expr e => dcE T e
  | _ => 0
def dcSs : List S → Nat
  | [] => 0
  | s :: r => dcS s + dcSs r
end
end
/-- a dict's item put -/
def putX (x y d : D) (Q : DK) : Prop := match x with
  | .dic l => ∃ k, keyK y = some k ∧ l.length < sizeLine ∧ Q (.dic (putD l k d))
  | .dit l => ∃ k, keyT y = some k ∧ l.length < sizeLine ∧ Q (.dit (putD l k d))
  | _ => False
section
variable (T : Tb)
mutual
def wpS : S → DE → KD → Prop
  | .asg i e, ρ, K => wpE T K.xc e ρ fun d => K.nx (ρ.set i (some d))
  | .own i e, ρ, K => wpE T K.xc e ρ fun d => K.nx (ρ.set i (some d))
  | .move i j, ρ, K => ∃ d, ρ[j]? = some (some d) ∧ K.nx ((ρ.set j none).set i (some d))
  | .asgT tg e, ρ, K => wpE T K.xc e ρ fun d => setPt tg d ρ K.nx
  | .setL i ix e, ρ, K => ∃ l, ρ[i]? = some (some (.lst l)) ∧ wpE T K.xc e ρ fun d => wpE T K.xc ix ρ fun y => ∃ k j, y = .int k ∧ ixN l.length k = some j ∧ K.nx (ρ.set i (some (.lst (l.set j d))))
  | .setD i k e, ρ, K => ∃ x, ρ[i]? = some (some x) ∧ wpE T K.xc e ρ fun d => wpE T K.xc k ρ fun y => putX x y d fun x' => K.nx (ρ.set i (some x'))
  | .app i e, ρ, K => ∃ l, ρ[i]? = some (some (.lst l)) ∧ wpE T K.xc e ρ fun d => l.length < sizeLine ∧ K.nx (ρ.set i (some (.lst (l ++ [d]))))
  | .ext i e, ρ, K => ∃ l, ρ[i]? = some (some (.lst l)) ∧ wpE T K.xc e ρ fun d => ∃ m, d = .lst m ∧ l.length + m.length ≤ sizeLine ∧ K.nx (ρ.set i (some (.lst (l ++ m))))
  | .upd i e, ρ, K => ∃ l, ρ[i]? = some (some (.dic l)) ∧ wpE T K.xc e ρ fun d => ∃ m, d = .dic m ∧ l.length + m.length ≤ 4000 ∧ K.nx (ρ.set i (some (.dic (mergeD l m))))
  | .iff c a b, ρ, K => wpE T K.xc c ρ fun d => ∃ k, d = .bl k ∧ if k = true then wpSs a ρ K else wpSs b ρ K
  | .for tg it b, ρ, K => wpE T K.xc it ρ fun w => ∃ l, walkD w = some l ∧ (dcSs T b = 0 ∨ l.length ≤ wkL) ∧ forL (fun d ρ K => setPt tg d ρ fun ρ' => wpSs b ρ' K) K l (lend it ρ)
  | .while c b, ρ, K => ∃ n, whileL (fun ρ Q => wpE T K.xc c ρ fun d => ∃ k, d = .bl k ∧ Q k) (fun ρ K => wpSs b ρ K) K n ρ
  | .ret e, ρ, K => wpE T K.xc e ρ K.rt
  | .retn, _, K => K.rt .non
  | .raise c, _, K => K.xc ⟨c, none⟩
  | .try b _, ρ, K => wpSs b ρ { K with xc := fun x => x.line = none ∧ ∃ t, errT x.cls = some t ∧ K.rt (.str t) }
  | .expr e, ρ, K => wpE T K.xc e ρ fun _ => K.nx ρ
  | .brk, ρ, K => K.bk ρ
  | .cont, ρ, K => K.ct ρ
  | .pass, ρ, K => K.nx ρ
def wpSs : List S → DE → KD → Prop
  | [], ρ, K => K.nx ρ
  | s :: r, ρ, K => wpS s ρ { K with nx := fun ρ' => wpSs r ρ' K }
end
/-- a def's body, from its arguments -/
def wpF (n : Nat) (b : List S) (ds : List D) (Q : DK) (X : EK) : Prop :=
  wpSs T b (ds.map some ++ List.replicate (n - ds.length) none) { nx := fun _ => Q .non, rt := Q, bk := fun _ => False, ct := fun _ => False, xc := X }
end
end DL

/-! DC: the checker (does the text match?), the frame, the readings -/
namespace DL
open PySem PySem.Spec PyProof.Rows L2

/-! ### the checker -/
def visB (sc : Scope) (x : Str) : Bool := match sc.names.lookup x with
  | some .local => true
  | some .cell => true
  | some .free => true
  | _ => false
def locB (sc : Scope) (x : Str) : Bool := match sc.names.lookup x with
  | some .local => true
  | some .cell => true
  | _ => false
def okNm (x : Str) : Bool := (!(x == ("__debug__" : Str))) && !(x == ("__classdict__" : Str))
def glB (sc : Scope) (x : Str) : Bool := decide (sc.names.lookup x = some .globalImplicit) && (decide (x ≠ "__debug__") && decide (x ≠ "__name__"))
def conB : D → Const → Bool
  | .non, .none => true
  | .bl b, .bool c => b == c
  | .int i, .int j => decide (i = j)
  | .str x, .str y => decide (x = y)
  | _, _ => false
def bfName : BF → Str
  | .len => "len" | .all => "all" | .any => "any" | .sum => "sum" | .max => "max" | .min => "min" | .max2 => "max" | .min2 => "min"
  | .abs => "abs" | .int => "int" | .str => "str" | .repr => "repr" | .sorted => "sorted" | .list => "list" | .tuple => "tuple"
def bfOk (_ : BF) : Bool := true
/-- what comes in a subscript -/
def noSlice : Expr → Bool
  | .Slice _ _ _ _ => false
  | .Tuple _ _ _ => true
  | .Constant _ _ _ => true
  | _ => true
def noSet : Expr → Bool
  | .Set _ _ _ => false
  | _ => true
def noCall : Expr → Bool
  | .Call _ _ _ _ => false
  | _ => true
def noStar : Expr → Bool
  | .Starred _ _ => false
  | _ => true
def newB : E → Bool
  | .lst _ => true
  | .binN _ _ _ => true
  | .lc _ _ _ _ _ => true
  | .dc _ _ _ _ _ _ => true
  | .lck _ _ _ _ _ => true
  | .dnew _ => true
  | _ => false
def isLck : E → Bool
  | .lck _ _ _ _ _ => true
  | _ => false
/-- a name that is stored: slot i, not an own one, of those that vs allows -/
def mNm (N : List Str) (ow : List Nat) (vs : Option (Scope × List Nat)) (sc : Scope) (i : Nat) (x : Str) : Bool := decide (N[i]? = some x) && (locB sc x && (!ow.contains i && (match vs with
  | none => true
  | some (s0, l) => l.contains i && (decide (s0.names.lookup x = some .cell) || decide (sc.names.lookup x = some .local)))))
def mPts (N : List Str) (ow : List Nat) (vs : Option (Scope × List Nat)) (sc : Scope) : List Nat → List Expr → Bool
  | [], [] => true
  | i :: is, .Name x _ :: es => mNm N ow vs sc i x && mPts N ow vs sc is es
  | _, _ => false
def mPt (N : List Str) (ow : List Nat) (vs : Option (Scope × List Nat)) (sc : Scope) : Pt → Expr → Bool
  | .one i, .Name x _ => mNm N ow vs sc i x
  | .many is, .Tuple es _ _ => mPts N ow vs sc is es
  | _, _ => false
/-- how a piece is read: as a value, as a test, as what is walked -/
inductive Md where
  | val | tst | itr
  deriving DecidableEq
def tupT : E → Expr → Bool
  | .enum _, .Tuple _ _ _ => true
  | .zip _ _, .Tuple _ _ _ => true
  | .items _, .Tuple _ _ _ => true
  | .enum _, _ => false
  | .zip _ _, _ => false
  | .items _, _ => false
  | _, _ => true
section
variable (T : Tb) (N : List Str) (ow : List Nat)
mutual
def mE : Md → Scope → E → Expr → Bool
  | _, sc, .var i, .Name x _ => decide (N[i]? = some x) && (visB sc x && (okNm x && !ow.contains i))
  | _, sc, .own i, .Name x _ => decide (N[i]? = some x) && (visB sc x && (okNm x && ow.contains i))
  | _, _, .con d, .Constant c _ _ => conB d c
  | _, sc, .glob x, .Name y _ => decide (x = y) && glB sc x
  | _, sc, .tup es, .Tuple xs _ _ => es.all (fun e => !ownB e) && mEs .val sc es xs
  | _, sc, .lst es, .List xs _ => es.all (fun e => !ownB e) && mEs .val sc es xs
  | _, sc, .newst e, .List [x, .Constant (.int 0) _ _] _ => !ownB e && (noStar x && mE .val sc e x)
  | _, sc, .lenset a, .Call (.Name x _) [.Call (.Name y _) [z] [] _] [] _ => decide (x = "len") && (decide (y = "set") && (glB sc x && (glB sc y && (noStar z && mE .val sc a z))))
  | _, sc, .dictzip a b, .Call (.Name x _) [.Call (.Name y _) [z, u] [] _] [] _ => decide (x = "dict") && (decide (y = "zip") && (glB sc x && (glB sc y && (noStar z && (noStar u && (mE .val sc a z && mE .val sc b u))))))
  | _, sc, .bin op a b, .BinOp x op' y _ => decide (op = op') && (mE .val sc a x && mE .val sc b y)
  | _, sc, .binN op a b, .BinOp x op' y _ => decide (op = op') && (mE .val sc a x && mE .val sc b y)
  | _, sc, .neg a, .UnaryOp .USub x _ => mE .val sc a x
  | _, sc, .bm .index o es, .Call (.Attribute x m ap) [y] [] cp => decide (m = "index") && ((ap.endLine == cp.line) && (noStar y && (noCall x && (mE .val sc o x && mEs .val sc es [y]))))
  | _, sc, .pick c es, .Call (.Subscript o i p) xs [] _ => decide (1 ≤ xs.length) && (xs.all noStar && (mE .val sc c (.Subscript o i p) && mEs .val sc es xs))
  | _, sc, .rev a, .Subscript x (.Slice none none (some (.UnaryOp .USub (.Constant (.int 1) _ _) _)) _) _ => mE .val sc a x
  | _, sc, .cmp op a b, .Compare x [op'] [y] _ => decide (op = op') && (decide (op ≠ .In) && (decide (op ≠ .NotIn) && (mE .val sc a x && mE .val sc b y)))
  | _, sc, .chain o1 o2 a b c, .Compare x [p1, p2] [y, z] _ => decide (o1 = p1) && (decide (o2 = p2) && (decide (o2 ≠ .In) && (decide (o2 ≠ .NotIn) && (mE .val sc a x && (mE .val sc b y && mE .val sc c z)))))
  | _, sc, .inn neg a b, .Compare x [op] [y] _ => decide (op = if neg then .NotIn else .In) && (!behindInMarks op y && (mE .val sc a x && mE .val sc b y))
  | _, sc, .din neg a b, .Compare x [op] [y] _ => decide (op = if neg then .NotIn else .In) && (!behindInMarks op y && (mE .val sc a x && mE .val sc b y))
  | _, sc, .isn neg a, .Compare x [op] [.Constant .none _ _] _ => decide (op = if neg then .IsNot else .Is) && mE .val sc a x
  | md, sc, .and es, .BoolOp .And xs _ => decide (md ≠ .itr) && (es.all (fun e => !ownB e) && (xs.all noStar && (mEs md sc es xs && decide (1 ≤ xs.length))))
  | md, sc, .or es, .BoolOp .Or xs _ => decide (md ≠ .itr) && (es.all (fun e => !ownB e) && (xs.all noStar && (mEs md sc es xs && decide (1 ≤ xs.length))))
  | md, sc, .not a, .UnaryOp .Not x _ => decide (md ≠ .itr) && mE md sc a x
  | md, sc, .ite c a b, .IfExp z x y _ => decide (md = .val) && (!ownB a && (!ownB b && (mE .tst sc c z && (mE .val sc a x && mE .val sc b y))))
  | _, sc, .sub a i, .Subscript x y _ => noSlice y && (mE .val sc a x && mE .val sc i y)
  | _, sc, .dget a i, .Subscript x y _ => noSlice y && (mE .val sc a x && mE .val sc i y)
  | _, sc, .slice a lo hi, .Subscript x (.Slice l h none _) _ => mE .val sc a x && (mO sc lo l && mO sc hi h)
  | _, sc, .blt f es, .Call (.Name x _) xs [] _ => bfOk f && (decide (x = bfName f) && (glB sc x && (decide (1 ≤ xs.length) && (xs.all noStar && mEs .val sc es xs))))
  | _, sc, .call f es, .Call (.Name x _) xs [] _ => decide (x = f) && (glB sc x && (decide (1 ≤ xs.length) && (xs.all noStar && ((T.fn f).isSome && mEs .val sc es xs))))
  | _, sc, .lc own tg it ifs e, .ListComp x [⟨t, i, cs, 0⟩] scope _ => !ownB e && (noSet i && (tupT it t && (blkC N sc scope own && (own.all (fun p => !ow.contains p.2) && (mE .itr sc it i && (mPt N ow (some (scope, own.map (·.2))) (relS scope sc) tg t && (decide (cs.length ≤ 1) && (cs.all noStar && (mEs .tst (relS scope sc) ifs cs && mE .val (relS scope sc) e x)))))))))
  | _, sc, .lck own tg it ifs e, .ListComp x [⟨t, i, cs, 0⟩] scope _ => !ownB e && (noSet i && (!ownB it && (blkC N sc scope own && (own.all (fun p => !ow.contains p.2) && (mE .val sc it i && (mPt N ow (some (scope, own.map (·.2))) (relS scope sc) tg t && (decide (cs.length ≤ 1) && (cs.all noStar && (mEs .tst (relS scope sc) ifs cs && mE .val (relS scope sc) e x)))))))))
  | _, sc, .dc own tg it ifs k v, .DictComp y x [⟨t, i, cs, 0⟩] scope _ => !ownB k && (!ownB v && (noSet i && (tupT it t && (blkC N sc scope own && (own.all (fun p => !ow.contains p.2) && (mE .itr sc it i && (mPt N ow (some (scope, own.map (·.2))) (relS scope sc) tg t && (decide (cs.length ≤ 1) && (cs.all noStar && (mEs .tst (relS scope sc) ifs cs && (mE .val (relS scope sc) k y && mE .val (relS scope sc) v x)))))))))))
  | _, _, .dnew _, .Dict [] [] _ => true
  | md, sc, .rng a, .Call (.Name x _) [y] [] _ => decide (md = .itr) && (decide (x = "range") && (glB sc x && (noStar y && mE .val sc a y)))
  | md, sc, .rng2 a b, .Call (.Name x _) [y, z] [] _ => decide (md = .itr) && (decide (x = "range") && (glB sc x && (noStar y && (noStar z && (mE .val sc a y && mE .val sc b z)))))
  | md, sc, .enum a, .Call (.Name x _) [y] [] _ => decide (md = .itr) && (decide (x = "enumerate") && (glB sc x && (noStar y && (!ownB a && mE .val sc a y))))
  | md, sc, .zip a b, .Call (.Name x _) [y, z] [] _ => decide (md = .itr) && (decide (x = "zip") && (glB sc x && (noStar y && (noStar z && (!ownB a && (!ownB b && (mE .val sc a y && mE .val sc b z)))))))
  | _, _, _, _ => false
def mEs : Md → Scope → List E → List Expr → Bool
  | _, _, [], [] => true
  | md, sc, .star e :: es, .Starred x _ :: xs => mE md sc e x && mEs md sc es xs
  | md, sc, e :: es, x :: xs => noStar x && (mE md sc e x && mEs md sc es xs)
  | _, _, _, _ => false
def mO : Scope → Option E → Option Expr → Bool
  | _, none, none => true
  | sc, some e, some x => mE .val sc e x
  | _, _, _ => false
end
end
end DL

/-! DG: what a def promises where no repr is under way; its call; the law's own call -/
namespace DL
open PySem PySem.Spec PyProof.Rows L2 Evl

/-- as FnOk, where no repr is under way -/
structure FnG (P : Program) (w : World) (K : PySem.W.Frag) (mg : Str → Option Value) (base : Heap) (k : Nat) (f : Addr) (fd : FuncData) (ps : List Str) (sp : Sp) : Prop where
  len : ∀ vs H Q E, sp vs H Q E → vs.length = ps.length
  run : ∀ (A : Around) (outer : List PySem.Env) (s : Shared) (H : Hp) (args : Args) (us : List Value) (vs : List V) (Q : VK) (E : XK), Room k A → A.guards = some [] → Env0 P w K mg base A outer s H →
    BindsTo s fd args (ps.zip us) → Vals vs us → sp vs H Q E → codeAny (model P w) A (.call (.ref f) args) (CR (L2N.CX P w) outer P w H s Q E) s
section
variable {P : Program} {w : World} {K : PySem.W.Frag} {mg : Str → Option Value} {base : Heap} {j k : Nat} {f : Addr} {fd : FuncData} {ps : List Str} {sp sp' : Sp}
theorem FnG.of (F : FnOk P w K mg base (L2N.CX P w) k f fd ps sp) : FnG P w K mg base k f fd ps sp := ⟨F.len, fun A outer s H args us vs Q E hr _ e0 => F.run A outer s H args us vs Q E hr e0⟩
theorem FnG.mono (F : FnG P w K mg base j f fd ps sp) (h : j ≤ k) : FnG P w K mg base k f fd ps sp := ⟨F.len, fun A outer s H args us vs Q E hr => F.run A outer s H args us vs Q E (hr.mono h)⟩
theorem FnG.imp (F : FnG P w K mg base k f fd ps sp) (h : ∀ vs H Q E, sp' vs H Q E → sp vs H Q E) : FnG P w K mg base k f fd ps sp' :=
  ⟨fun vs H Q E q => F.len vs H Q E (h _ _ _ _ q), fun A outer s H args us vs Q E hr hg he hb hv hs => F.run A outer s H args us vs Q E hr hg he hb hv (h _ _ _ _ hs)⟩
/-- by its body -/
theorem FnG.body {x qual : Str} {params : Arguments} {body : List Stmt} {scope : Scope} {kws : List (Str × V)} {N : List Str} (F : FunD K x qual params body scope [] kws f fd) (S : FnScope N ps scope) (len : ∀ vs H Q E, sp vs H Q E → vs.length = ps.length)
    (hbody : ∀ (cdv : Value) (A : Around) (outer : List PySem.Env) (s : Shared) (H : Hp) (vs : List V) (Q : VK) (E : XK), Room k (A.deeper (envOfC qual scope s.heap.objs.size f cdv)) → A.guards = some [] → sp vs H Q E →
      ∃ t, PSs (cxOf (L2N.CX P w) P w K mg base N qual scope f cdv A outer s H E) body t ∧ t { nx := fun _ H' => Q .non H', rt := Q } (start N vs) H) : FnG P w K mg base (k + 1) f fd ps sp := by
  obtain ⟨oc, od, dV, kV, doc, pm, an, cdv, ct, osl, rfl, lk, hcd, _, _⟩ := F.ex
  refine ⟨len, fun A outer s H args us vs Q E hr hg e0 hb rv hs => ?_⟩
  have hk := e0.mod.kin.keeps fun b o e => (e0.bs b o e).1
  have hp : ∀ y ∈ ps.zip us, scope.names.lookup y.1 = some .local ∨ (scope.names.lookup y.1 = some .cell ∧ ((cellsFrom (s.heap.objs.size + 1) scope.names []).lookup y.1).isSome = true) := by
    intro y hy
    obtain ⟨z, u⟩ := y
    have hz := S.par z (List.of_mem_zip hy).1
    exact hz.imp id fun q => ⟨q, PySem.W.cellsFrom_some _ _ _ (.inl q)⟩
  refine codeAny_call_function hr.depth (hk _ _ lk) rfl S.co S.gen rfl (PySem.W.codeRec_of hk hcd) (hb _ _ _ _ (wpAny_newFunctionEnv_cells S.kind hp fun env he s1 ic => ?_))
  subst he
  obtain ⟨t, ht, hq⟩ := hbody cdv A outer s H vs Q E (hr.deeper _) hg hs
  have I := inv_start (CX := L2N.CX P w) (E := E) S hr.hd e0 (len _ _ _ _ hs) rv ic
  refine ⟨(e0.mod.nolimit.keeps fun b o e => (e0.bs b o e).1).keeps ic.toInCall.keep, codeAny_func (wpAny_mono (ht.run [] s1 (start N vs) H _ I hq) (fun fl s' hf => ?_) fun _ _ z => z)⟩
  cases fl with
  | next =>
    obtain ⟨σ', H', J, q⟩ := hf
    exact ⟨.non, H', J.os, J.bare, J.base, J.hok, rfl, q⟩
  | brk =>
    obtain ⟨_, _, _, q⟩ := hf
    exact q.elim
  | cont =>
    obtain ⟨_, _, _, q⟩ := hf
    exact q.elim
  | ret u =>
    obtain ⟨v, σ', H', J, r, q⟩ := hf
    exact ⟨v, H', J.os, J.bare, J.base, J.hok, r, q⟩
end

section
variable {X : Cx} {k : Nat} {f : Addr} {fd : FuncData} {ps : List Str} {sp : Sp} {E : L2.St → XK} {x : Str} {p pos : Pos} {e : Expr} {es : List Expr} {t : TA}
theorem runG {pins : List (Addr × Obj)} {σ : L2.St} {H : Hp} {s : Shared} {Q : VK} {us : List Value} {vs : List V} (F : FnG X.prog X.w X.K X.mg X.base k f fd ps sp) (hr : Room k X.A) (hg : X.A.guards = some []) (hb : Binds X.K fd ps [])
    (hx : PassesAt (L2N.CX X.prog X.w) X σ (E σ)) (I : Inv X pins σ H s) (r : Vals vs us) (h : sp vs H Q (E σ)) : wpAny (model X.prog X.w) X.A (call (.ref f) us) (EP X pins σ Q) X.xe s := by
  have hl : (us ++ ([] : List Value)).length = ps.length := by
    rw [List.append_nil, ← r.length]
    exact F.len _ _ _ _ h
  have b := hb s us I.kIn hl
  rw [List.append_nil] at b
  refine wpAny_call (codeAny_mono (F.run X.A X.stack s H ⟨us, []⟩ us vs Q (E σ) hr hg I.env0 b r h) fun q s' hq => ?_)
  match q, hq with
  | .error e, hq => exact hx pins H s e s' I hq
  | .ok (.ret u), hq => exact I.after hq
theorem pe_callG (F : FnG X.prog X.w X.K X.mg X.base k f fd ps sp) (hr : Room k X.A) (hgu : X.A.guards = some []) (hg : Gl X x) (hm : X.mg x = some (.ref f)) (hk : PySem.W.keepIn X.K (.ref f) = true) (hb : Binds X.K fd ps [])
    (hx : ∀ σ, PassesAt (L2N.CX X.prog X.w) X σ (E σ)) (ha : PA X (e :: es) t) (hdb : (x == ("__debug__" : Str)) = false) (he : starEach (e :: es) X.env = (false, eval e X.env) :: starEach es X.env)
    (hpl : (backTo pos (starEach es X.env)).any (·.1) = false) : PE X (.Call (.Name x p) (e :: es) [] pos) (tCallS sp E t) :=
  ⟨fun pins s σ H Q I h => wpAny_Call_Name_kw (ld_glob I hg hm (PySem.W.callWith_K (h₀ := X.base) I.ok.mod.kin hk (thn (ha.run pos pins s σ H _ I h) fun us s1 ⟨vs, H1, I1, r, q⟩ =>
    ⟨I1.kIn, runG F hr hgu hb (hx σ) I1 r q⟩) he hpl) hdb)⟩
end

/-! ### the law's own call -/
/-- the script at a: told and locked, or an object of the module's own -/
def ScrAt (K : PySem.W.Frag) (H : Hp) (a : Addr) (ns : List Int) : Prop := (∃ o, H a = some (.frz o (.lst (ns.map V.int)))) ∨ ∀ G, SqL K G a (ns.map V.int)
theorem callLaw {P : Program} {w : World} {K : PySem.W.Frag} {mg mb : Str → Option Value} {k : Nat} {fa a : Addr} {fd : FuncData} {x : Str} {sp : Sp} {s₁ : Shared} {vs : List Value} {ns : List Int}
    (KX : K.In s₁.heap) (hns : s₁.heap.Ns mainGlobals mg) (hb : s₁.heap.Ns builtinsNs mb) (hbb : ∀ x : Str, x ≠ "__name__" → mb x = bootBuiltins x) (hlim : s₁.heap.NoLimit) (hg : s₁.gens = #[])
    (ha : s₁.heap.get? a = some { cls := .type "list", data := .seq vs.toArray }) (hi : IntsAre vs ns) (hl : ns.length ≤ sizeLine) (hr : Room k callerA)
    (F : ∀ base : Heap, K.In base → base.Ns mainGlobals mg → FnG P w K mg base k fa fd [x] sp) (hbind : ∀ (s : Shared) (u : Value), BindsTo s fd ⟨[u], []⟩ [(x, u)])
    (hsp : ∀ H : Hp, (∀ b u, H b = some u → isX u = false) → ScrAt K H a ns → sp [.ref a] H (fun v _ => v = .bl true) fun _ _ _ => False)
    (hCX : ∀ H e s', L2N.CX P w [] H s₁ (fun _ _ _ => False) e s' → False) :
    codeAny (model P w) callerA (.call (.ref fa) ⟨[.ref a], []⟩) (fun r s' => r = .ok (.ret (.bool true)) ∧ OldK s₁.heap s'.heap ∧ s'.os = s₁.os ∧ AllBare s'.gens) s₁ := by
  obtain ⟨H, hHb, hHk, hHa, hsc, hok⟩ : ∃ H : Hp, (∀ b, b ≠ a → H b = none) ∧ (H a ≠ none → K.lookup a = none) ∧ (H a = none ∨ ∃ xs, H a = some (.frz { cls := .type "list", data := .seq vs.toArray } xs)) ∧ ScrAt K H a ns ∧ HOk P w H s₁.heap := by
    cases hk : K.lookup a with
    | some o =>
      have e := KX a o hk
      rw [ha] at e
      cases e
      refine ⟨fun _ => none, fun _ _ => rfl, fun z => absurd rfl z, .inl rfl, .inr fun G => .inr ⟨_, vs.toArray, _, hk, rfl, rfl, rfl, ?_, ?_⟩, fun b u z => by cases z⟩
      · rw [List.size_toArray, hi.length]
        exact hl
      · simpa using vals_ints hi
    | none =>
      refine ⟨fun b => if b = a then some (.frz { cls := .type "list", data := .seq vs.toArray } (.lst (ns.map V.int))) else none, fun b h => if_neg h, fun _ => rfl, .inr ⟨_, if_pos rfl⟩, .inl ⟨_, if_pos rfl⟩, fun b u z => ?_⟩
      by_cases eb : b = a
      · subst eb
        have z' := (if_pos rfl).symm.trans z
        cases z'
        exact ⟨ha, by rw [List.length_map]; exact hl, vs, _, vals_ints hi, ha⟩
      · have z' := (if_neg eb).symm.trans z
        cases z'
  have off : ∀ {b : Addr} {o : Obj}, s₁.heap.get? b = some o → H b = none → (hidT s₁.heap H).get? b = some o := fun e n => hidT_get e n
  have nd : ∀ {b : Addr} {m : Str → Option Value}, s₁.heap.Ns b m → (hidT s₁.heap H).Ns b m := fun {b m} h => by
    obtain ⟨o, es, ep, e, d, r⟩ := h
    refine ⟨o, es, ep, off e (hHb b fun z => ?_), d, r⟩
    rw [z, ha] at e
    cases e
    cases d
  have kb : K.In (hidT s₁.heap H) := fun b o e => off (KX b o e) (by
    by_cases eb : b = a
    · subst eb
      refine Classical.byContradiction fun n => ?_
      rw [hHk n] at e
      cases e
    · exact hHb b eb)
  have nl : (hidT s₁.heap H).NoLimit := by
    obtain ⟨mc, h1, h2⟩ := hlim
    exact ⟨mc, nd h1, h2⟩
  have noF : ∀ b : Addr, b ∉ frs ([] : List PySem.Env) := fun b z => absurd (show b ∈ ([] : List Addr) from z) List.not_mem_nil
  have e0 : Env0 P w K mg (hidT s₁.heap H) callerA [] s₁ H := ⟨rfl, ⟨kb, nd hns, ⟨mb, nd hb, hbb⟩, nl⟩, fun b o e => of_hidT e, Nat.le_of_eq (hidT_size _ _), trivial, fun b z => absurd z (noF b), hok, .of_eq hg⟩
  refine codeAny_mono ((F _ kb (nd hns)).run callerA [] s₁ H ⟨[.ref a], []⟩ [.ref a] [.ref a] _ _ hr rfl e0 (hbind s₁ (.ref a)) (.cons rfl .nil) (hsp H (fun b u e => ?_) hsc)) fun r s' h => ?_
  · by_cases eb : b = a
    · subst eb
      rcases hHa with z | ⟨xs, z⟩ <;> rw [z] at e <;> cases e
      rfl
    · rw [hHb b eb] at e
      cases e
  match r, h with
  | .error e, h => exact (hCX H e s' h).elim
  | .ok (.ret u), h =>
    obtain ⟨v, H', os, bare, un, hok', rv, q⟩ := h
    cases (show v = .bl true from q)
    cases (show u = Value.bool true from rv)
    refine ⟨rfl, OldK.of_keep fun b o e => ?_, os, bare⟩
    cases hb : H b with
    | none => exact un.keep b o e hb (noF b) List.not_mem_nil
    | some z =>
      have eb : b = a := Classical.byContradiction fun n => by
        rw [hHb b n] at hb
        cases hb
      subst eb
      rcases hHa with n | ⟨xs, n⟩
      · rw [n] at hb
        cases hb
      · have q := (hok' b _ (un.frzs b _ _ n)).1
        rw [ha] at e
        cases e
        exact q
end DL

/-! DD: the frame, the readings, the promise of a def -/
namespace DL
open PySem PySem.Spec PyProof.Rows L2 Evl

/-- the counters of the drawing states are at most c -/
def Cnt (H : Hp) (c : Nat) : Prop := ∀ a s n, H a = some (StO a s n) → n ≤ c
def big : Nat := 2 ^ 1000
/-- room for δ draws -/
def Rm (H : Hp) (δ : Nat) : Prop := ∃ c, Cnt H c ∧ c + δ ≤ big
/-- old things stay, at most δ draws -/
structure Ex (δ : Nat) (H H' : Hp) : Prop where
  kp : ∀ b o, H b = some o → H' b = some o ∨ Std b o (H' b)
  ct : ∀ c, Cnt H c → Cnt H' (c + δ)
theorem Ex.refl (H : Hp) : Ex 0 H H := ⟨fun _ _ h => .inl h, fun _ h => h⟩
theorem Ex.trans {H H1 H2 : Hp} {i j : Nat} (a : Ex i H H1) (b : Ex j H1 H2) : Ex (i + j) H H2 := by
  refine ⟨fun x o h => ?_, fun c h => ?_⟩
  · rcases a.kp x o h with q | ⟨s, n, n', rfl, q⟩
    · exact b.kp x o q
    · rcases b.kp x _ q with q' | ⟨s', m, m', e, q'⟩
      · exact .inr ⟨s, n, n', rfl, q'⟩
      · obtain ⟨rfl, rfl⟩ := sto_inj e rfl
        exact .inr ⟨s, n, m', rfl, q'⟩
  · rw [← Nat.add_assoc]
    exact b.ct _ (a.ct c h)
theorem Ex.le {H H1 : Hp} {i j : Nat} (a : Ex i H H1) (h : i ≤ j) : Ex j H H1 := ⟨a.kp, fun c q x s n e => Nat.le_trans (a.ct c q x s n e) (Nat.add_le_add_left h c)⟩
theorem Ex.any {H H1 : Hp} {j : Nat} (a : Ex 0 H H1) : Ex j H H1 := a.le (Nat.zero_le j)
theorem Ex.new {H : Hp} {p : Addr} {o : HO} (h : H p = none) (hx : isX o = false := by rfl) : Ex 0 H (upd H p o) := by
  refine ⟨fun b u e => .inl ?_, fun c q a s n e => ?_⟩
  · rw [upd_ne (ne_of_none e h)]
    exact e
  · by_cases z : a = p
    · subst z
      rw [upd_same] at e
      cases e
      cases hx
    · rw [upd_ne z] at e
      exact q a s n e
theorem Ex.at {H H1 : Hp} {i : Nat} (a : Ex i H H1) {b : Addr} {o : HO} (h : H b = some o) (hx : isX o = false) : H1 b = some o := (a.kp b o h).resolve_right fun z => z.not hx
theorem Ex.mt {H H1 : Hp} {i : Nat} (a : Ex i H H1) {b : Addr} {o : HO} (h : H b = some o) : ∃ o', H1 b = some o' ∧ (o' = o ∨ isX o' = true) := by
  rcases a.kp b o h with q | ⟨s, n, n', rfl, q⟩
  · exact ⟨o, q, .inl rfl⟩
  · exact ⟨_, q, .inr rfl⟩
theorem Ex.none {H H1 : Hp} {i : Nat} (a : Ex i H H1) {p : Addr} (h : H1 p = none) : H p = none := by
  cases q : H p with
  | none => rfl
  | some o =>
    obtain ⟨o', z, _⟩ := a.mt q
    rw [z] at h
    cases h
theorem Rm.le {H : Hp} {i j : Nat} (r : Rm H j) (h : i ≤ j) : Rm H i := let ⟨c, q, l⟩ := r; ⟨c, q, by omega⟩
theorem Rm.l {H : Hp} {i j : Nat} (r : Rm H (i + j)) : Rm H i := r.le (Nat.le_add_right i j)
theorem Rm.ex {H H1 : Hp} {i j : Nat} (r : Rm H (i + j)) (e : Ex i H H1) : Rm H1 j := let ⟨c, q, l⟩ := r; ⟨c + i, e.ct c q, by omega⟩
theorem Rm.ex0 {H H1 : Hp} {j : Nat} (r : Rm H j) (e : Ex 0 H H1) : Rm H1 j := let ⟨c, q, l⟩ := r; ⟨c, e.ct c q, l⟩
abbrev U (B O : AP) : AP := fun a => B a ∨ O a
def noA : AP := fun _ => False
section
variable (K : PySem.W.Frag)
/-- an object of one's own: what it holds does not lean on what may change -/
def OwnAt (A : AP) (H : Hp) (a : Addr) : D → Prop
  | .lst l => ∃ vs, H a = some (.lst vs) ∧ RepL K A H l vs
  | .dic l => ∃ vs, H a = some (.dK vs) ∧ RepK K A H l vs
  | .dit l => ∃ vs, H a = some (.dT vs) ∧ RepT K A H l vs
  | .obj c l => ∃ dx fs, H a = some (.ins (He.ga K c) dx fs) ∧ RepF K A H l fs
  | _ => False
def RepB (A : AP) (H : Hp) (d : D) (v : V) : Prop := Rep K A H d v ∨ ∃ a, v = .ref a ∧ OwnAt K A H a d
def RepBL (A : AP) (H : Hp) : List D → List V → Prop
  | [], vs => vs = []
  | d :: l, vs => ∃ v r, vs = v :: r ∧ RepB K A H d v ∧ RepBL A H l r
def NewAt (A : AP) (H H' : Hp) (d : D) (v : V) : Prop := ∃ a, v = .ref a ∧ H a = none ∧ OwnAt K (U A (· = a)) H' a d
/-- what a value of e is known to be; H the heap ahead of it -/
def Res (e : E) (A : AP) (H H' : Hp) (d : D) (v : V) : Prop :=
  RepB K A H' d v ∧ (ownB e = false → Rep K A H' d v) ∧ (newB e = true → NewAt K A H H' d v)
def XIs (x : Exn) (cls : Value) (d : Option Addr) (H : Hp) : Prop :=
  cls = .ref (He.ga K x.cls) ∧ (match x.line with
    | none => d = none
    | some n => ∃ a, d = some a ∧ H a = some (.xd [("line", .int n)]))
structure Fr (own : Nat → Bool) (B O : AP) (H : Hp) (σ : L2.St) (ρ : DE) : Prop where
  len : σ.length = ρ.length
  fz : ∀ i d, own i = false → ρ[i]? = some (some d) → ∃ v, σ[i]? = some (some v) ∧ Rep K (U B O) H d v
  ow : ∀ i d, own i = true → ρ[i]? = some (some d) → ∃ a, σ[i]? = some (some (.ref a)) ∧ O a ∧ OwnAt K (U B O) H a d
  dj : ∀ i j a, own i = true → own j = true → (∃ d, ρ[i]? = some (some d)) → (∃ d, ρ[j]? = some (some d)) → σ[i]? = some (some (.ref a)) → σ[j]? = some (some (.ref a)) → i = j
  mt : ∀ a, U B O a → ∃ o, H a = some o ∧ isMt o = true
end

/-! ### facts -/
section
variable {K : PySem.W.Frag} {A A' : AP} {H H' H1 : Hp} {δ δ' : Nat}
theorem keeps_ex (e : Ex δ H H') : Keeps A H H' := fun b o h _ => (e.kp b o h).imp id .inr
theorem grows_refl : Grows H A A := fun _ _ _ h => h
theorem Rep.ex (e : Ex δ H H') {d : D} {v : V} (h : Rep K A H d v) : Rep K A H' d v := Rep.keep (keeps_ex e) grows_refl d v h
theorem RepL.ex (e : Ex δ H H') {d : List D} {v : List V} (h : RepL K A H d v) : RepL K A H' d v := RepL.keep (keeps_ex e) grows_refl d v h
theorem OwnAt.keep (k : Keeps A H H') (g : Grows H A A') {a : Addr} (ha : ∀ o, H a = some o → isX o = false → H' a = some o) {d : D} (h : OwnAt K A H a d) : OwnAt K A' H' a d := by
  cases d with
  | lst l =>
    obtain ⟨vs, e, r⟩ := h
    exact ⟨vs, ha _ e rfl, RepL.keep k g _ _ r⟩
  | dic l =>
    obtain ⟨vs, e, r⟩ := h
    exact ⟨vs, ha _ e rfl, RepK.keep k g _ _ r⟩
  | dit l =>
    obtain ⟨vs, e, r⟩ := h
    exact ⟨vs, ha _ e rfl, RepT.keep k g _ _ r⟩
  | obj c l =>
    obtain ⟨dx, vs, e, r⟩ := h
    exact ⟨dx, vs, ha _ e rfl, RepF.keep k g _ _ r⟩
  | _ => exact h.elim
theorem OwnAt.ex (e : Ex δ H H') {a : Addr} {d : D} (h : OwnAt K A H a d) : OwnAt K A H' a d := OwnAt.keep (keeps_ex e) grows_refl (fun o q z => e.at q z) h
theorem RepB.ex (e : Ex δ H H') {d : D} {v : V} (h : RepB K A H d v) : RepB K A H' d v := by
  rcases h with h | ⟨a, ea, h⟩
  · exact .inl (h.ex e)
  · exact .inr ⟨a, ea, h.ex e⟩
theorem RepBL.ex (e : Ex δ H H') : ∀ {d : List D} {v : List V}, RepBL K A H d v → RepBL K A H' d v
  | [], _, h => h
  | _ :: _, _, h => by
    obtain ⟨v, r, ev, h1, h2⟩ := h
    exact ⟨v, r, ev, h1.ex e, h2.ex e⟩
theorem RepBL.length : ∀ {d : List D} {v : List V}, RepBL K A H d v → v.length = d.length
  | [], _, h => by rw [show _ = [] from h]; rfl
  | _ :: _, _, h => by
    obtain ⟨v, r, ev, _, h2⟩ := h
    rw [ev, List.length_cons, List.length_cons, h2.length]
theorem RepL.length : ∀ {d : List D} {v : List V}, RepL K A H d v → v.length = d.length
  | [], _, h => by rw [show _ = [] from h]; rfl
  | _ :: _, _, h => by
    obtain ⟨v, r, ev, _, h2⟩ := h
    rw [ev, List.length_cons, List.length_cons, RepL.length h2]
theorem RepL.toB : ∀ {d : List D} {v : List V}, RepL K A H d v → RepBL K A H d v
  | [], _, h => h
  | _ :: _, _, h => by
    obtain ⟨v, r, ev, h1, h2⟩ := h
    exact ⟨v, r, ev, .inl h1, RepL.toB h2⟩
theorem RepL.append : ∀ {d e : List D} {v u : List V}, RepL K A H d v → RepL K A H e u → RepL K A H (d ++ e) (v ++ u)
  | [], _, v, u, h, h2 => by
    rw [show v = [] from h]
    exact h2
  | _ :: _, _, _, u, h, h3 => by
    obtain ⟨v, r, ev, h1, h2⟩ := h
    rw [ev]
    exact ⟨v, r ++ u, rfl, h1, RepL.append h2 h3⟩
theorem RepBL.append : ∀ {d e : List D} {v u : List V}, RepBL K A H d v → RepBL K A H e u → RepBL K A H (d ++ e) (v ++ u)
  | [], _, v, u, h, h2 => by
    rw [show v = [] from h]
    exact h2
  | _ :: _, _, _, u, h, h3 => by
    obtain ⟨v, r, ev, h1, h2⟩ := h
    rw [ev]
    exact ⟨v, r ++ u, rfl, h1, RepBL.append h2 h3⟩
theorem RepL.get : ∀ {l : List D} {vs : List V} {i : Nat} {d : D}, RepL K A H l vs → l[i]? = some d → ∃ v, vs[i]? = some v ∧ Rep K A H d v
  | [], _, i, d, _, e => by simp at e
  | x :: l, vs, i, d, h, e => by
    obtain ⟨v, r, rfl, h1, h2⟩ := h
    cases i with
    | zero =>
      rw [List.getElem?_cons_zero] at e
      cases e
      exact ⟨v, rfl, h1⟩
    | succ i =>
      rw [List.getElem?_cons_succ] at e
      obtain ⟨u, hu, ru⟩ := RepL.get h2 e
      exact ⟨u, by rw [List.getElem?_cons_succ]; exact hu, ru⟩
theorem RepL.get' : ∀ {l : List D} {vs : List V} {i : Nat} {v : V}, RepL K A H l vs → vs[i]? = some v → ∃ d, l[i]? = some d ∧ Rep K A H d v := fun {l vs i v} h e => by
  have hl := RepL.length h
  have hi : i < l.length := by
    rw [← hl]
    exact (List.getElem?_eq_some_iff.mp e).1
  obtain ⟨u, hu, ru⟩ := RepL.get h (List.getElem?_eq_getElem hi)
  rw [e] at hu
  cases hu
  exact ⟨_, List.getElem?_eq_getElem hi, ru⟩
theorem RepL.drop : ∀ {l : List D} {vs : List V} (n : Nat), RepL K A H l vs → RepL K A H (l.drop n) (vs.drop n)
  | _, _, 0, h => h
  | [], vs, n + 1, h => by
    rw [show vs = [] from h]
    rfl
  | x :: l, vs, n + 1, h => by
    obtain ⟨v, r, rfl, h1, h2⟩ := h
    exact RepL.drop n h2
theorem RepL.take : ∀ {l : List D} {vs : List V} (n : Nat), RepL K A H l vs → RepL K A H (l.take n) (vs.take n)
  | _, _, 0, _ => rfl
  | [], vs, n + 1, h => by
    rw [show vs = [] from h]
    rfl
  | x :: l, vs, n + 1, h => by
    obtain ⟨v, r, rfl, h1, h2⟩ := h
    exact ⟨v, r.take n, rfl, h1, RepL.take n h2⟩
theorem RepL.reverse : ∀ {l : List D} {vs : List V}, RepL K A H l vs → RepL K A H l.reverse vs.reverse
  | [], vs, h => by
    rw [show vs = [] from h]
    rfl
  | x :: l, vs, h => by
    obtain ⟨v, r, rfl, h1, h2⟩ := h
    rw [List.reverse_cons, List.reverse_cons]
    exact RepL.append (RepL.reverse h2) ⟨v, [], rfl, h1, rfl⟩
theorem RepL.set : ∀ {l : List D} {vs : List V} {d : D} {v : V} (i : Nat), RepL K A H l vs → Rep K A H d v → RepL K A H (l.set i d) (vs.set i v)
  | [], vs, d, v, i, h, _ => by
    rw [show vs = [] from h]
    rfl
  | x :: l, vs, d, v, 0, h, hd => by
    obtain ⟨u, r, rfl, h1, h2⟩ := h
    exact ⟨v, r, rfl, hd, h2⟩
  | x :: l, vs, d, v, i + 1, h, hd => by
    obtain ⟨u, r, rfl, h1, h2⟩ := h
    exact ⟨u, r.set i v, rfl, h1, RepL.set i h2 hd⟩
theorem repL_rep : ∀ {l : List D} {vs : List V} (n : Nat), RepL K A H l vs → RepL K A H (List.replicate n l).flatten (List.replicate n vs).flatten
  | l, vs, 0, _ => rfl
  | l, vs, n + 1, h => by
    rw [List.replicate_succ, List.flatten_cons, List.replicate_succ, List.flatten_cons]
    exact RepL.append h (repL_rep n h)
theorem repL_nil : RepL K A H [] [] := rfl
theorem repL_one {d : D} {v : V} (h : Rep K A H d v) : RepL K A H [d] [v] := ⟨v, [], rfl, h, rfl⟩
/-- ints, bools, texts -/
theorem repL_map {α : Type} {f : α → D} {g : α → V} (h : ∀ x, Rep K A H (f x) (g x)) : ∀ l : List α, RepL K A H (l.map f) (l.map g)
  | [] => rfl
  | x :: l => ⟨g x, l.map g, rfl, h x, repL_map h l⟩
theorem repL_of_map {α : Type} {f : α → D} {g : α → V} (h : ∀ x v, Rep K A H (f x) v → v = g x) : ∀ {l : List α} {vs : List V}, RepL K A H (l.map f) vs → vs = l.map g
  | [], _, r => r
  | x :: l, _, r => by
    obtain ⟨v, w, rfl, h1, h2⟩ := r
    rw [h x v h1, repL_of_map h h2]
    rfl
/-- a new address -/
theorem grows_new {p : Addr} (hp : H p = none) : Grows H A (U A (· = p)) := fun b o e na z => by
  rcases z with z | z
  · exact na z
  · rw [z, hp] at e
    cases e
theorem grows_less (h : ∀ a, A' a → A a) : Grows H A A' := fun _ _ _ na z => na (h _ z)
theorem keeps_refl : Keeps A H H := fun _ _ e _ => .inl e
theorem keeps_new {p : Addr} {o : HO} (hp : H p = none) : Keeps A H (upd H p o) := fun b u e _ => .inl (by rw [upd_ne (ne_of_none e hp)]; exact e)
/-- a fresh list, from its items -/
theorem newLst {l : List D} {vs : List V} {p : Addr} (r : RepL K A H l vs) (hp : H p = none) : OwnAt K (U A (· = p)) (upd H p (.lst vs)) p (.lst l) :=
  ⟨vs, upd_same, RepL.keep (keeps_new hp) (grows_new hp) _ _ r⟩
theorem own_rep {a : Addr} {d : D} (na : ¬ A a) (h : OwnAt K (U A (· = a)) H a d) : Rep K A H d (.ref a) := by
  have less : ∀ b, A b → U A (· = a) b := fun b z => .inl z
  cases d with
  | lst l =>
    obtain ⟨vs, e, r⟩ := h
    exact ⟨a, vs, rfl, na, e, RepL.keep keeps_refl (grows_less less) _ _ r⟩
  | dic l =>
    obtain ⟨vs, e, r⟩ := h
    exact ⟨a, vs, rfl, na, .inl e, RepK.keep keeps_refl (grows_less less) _ _ r⟩
  | dit l =>
    obtain ⟨vs, e, r⟩ := h
    exact ⟨a, vs, rfl, na, .inl e, RepT.keep keeps_refl (grows_less less) _ _ r⟩
  | obj c l =>
    obtain ⟨dx, vs, e, r⟩ := h
    exact ⟨a, dx, vs, rfl, na, e, RepF.keep keeps_refl (grows_less less) _ _ r⟩
  | _ => exact h.elim
end
section
variable {K : PySem.W.Frag} {own : Nat → Bool} {B O : AP} {H H' : Hp} {σ : L2.St} {ρ : DE} {δ : Nat}
theorem mt_ex (e : Ex δ H H') {a : Addr} (h : ∃ o, H a = some o ∧ isMt o = true) : ∃ o, H' a = some o ∧ isMt o = true := by
  obtain ⟨o, h1, h2⟩ := h
  obtain ⟨o', q, z⟩ := e.mt h1
  refine ⟨o', q, ?_⟩
  rcases z with rfl | z
  · exact h2
  · cases o' <;> first | rfl | cases z
theorem Fr.ex (f : Fr K own B O H σ ρ) (e : Ex δ H H') : Fr K own B O H' σ ρ :=
  ⟨f.len, fun i d h1 h2 => by
    obtain ⟨v, h3, h4⟩ := f.fz i d h1 h2
    exact ⟨v, h3, h4.ex e⟩, fun i d h1 h2 => by
    obtain ⟨a, h3, h4, h5⟩ := f.ow i d h1 h2
    exact ⟨a, h3, h4, h5.ex e⟩, f.dj, fun a h => mt_ex e (f.mt a h)⟩
theorem Fr.fresh (f : Fr K own B O H σ ρ) {p : Addr} (hp : H p = none) : ¬ U B O p := fun z => by
  obtain ⟨o, h, _⟩ := f.mt p z
  rw [hp] at h
  cases h
end

/-! ### readings -/
section
variable (T : Tb) (K : PySem.W.Frag) (own : Nat → Bool) (W : WX)
def XOk (xk : EK) (σ : L2.St) (δ : Nat) (H : Hp) : Prop := ∀ x, xk x → ∀ cls d H', Ex δ H H' → XIs K x cls d H' → W cls d σ H'
/-- the frame, with room for δ draws, and what its exceptions come to -/
structure FX (xk : EK) (B O : AP) (δ : Nat) (H : Hp) (σ : L2.St) (ρ : DE) : Prop where
  fr : Fr K own B O H σ ρ
  rm : Rm H δ
  xo : XOk K W xk σ δ H
def rdE (e : E) : TE := fun σ H Q => ∃ B O ρ xk Qd, FX K own W xk B O (dcE T e) H σ ρ ∧ wpE T xk e ρ Qd ∧ (∀ d, Qd d → ∀ v H', Ex (dcE T e) H H' → Res K e (U B O) H H' d v → Q v H')
def rdEs (es : List E) : TA := fun σ H Q => ∃ B O ρ xk Qd, FX K own W xk B O (dcEs T es) H σ ρ ∧ wpEs T xk es ρ Qd ∧
  (∀ ds, Qd ds → ∀ vs H', Ex (dcEs T es) H H' → RepBL K (U B O) H' ds vs → (es.all (fun e => !ownB e) = true → RepL K (U B O) H' ds vs) → Q vs H')
def rdT (e : E) : TT := fun σ H Q => ∃ B O ρ xk Qd, FX K own W xk B O (dcE T e) H σ ρ ∧ wpE T xk e ρ Qd ∧ (∀ d, Qd d → ∃ b, d = .bl b ∧ ∀ H', Ex (dcE T e) H H' → Q b H')
end
section
variable {K : PySem.W.Frag} {own : Nat → Bool} {W : WX} {xk : EK} {B O : AP} {i j : Nat} {H H' : Hp} {σ : L2.St} {ρ : DE}
/-- the first part -/
theorem FX.l (f : FX K own W xk B O (i + j) H σ ρ) : FX K own W xk B O i H σ ρ := ⟨f.fr, f.rm.l, fun x hx cls d H' e q => f.xo x hx cls d H' (e.le (Nat.le_add_right i j)) q⟩
/-- what is left behind the first part -/
theorem FX.ex (f : FX K own W xk B O (i + j) H σ ρ) (e : Ex i H H') : FX K own W xk B O j H' σ ρ := ⟨f.fr.ex e, f.rm.ex e, fun x hx cls d H2 e2 q => f.xo x hx cls d H2 (e.trans e2) q⟩
theorem FX.ex0 (f : FX K own W xk B O j H σ ρ) (e : Ex 0 H H') : FX K own W xk B O j H' σ ρ := ⟨f.fr.ex e, f.rm.ex0 e, fun x hx cls d H2 e2 q => f.xo x hx cls d H2 (by have := e.trans e2; rwa [Nat.zero_add] at this) q⟩
theorem FX.le (f : FX K own W xk B O j H σ ρ) (h : i ≤ j) : FX K own W xk B O i H σ ρ := ⟨f.fr, f.rm.le h, fun x hx cls d H' e q => f.xo x hx cls d H' (e.le h) q⟩
end

/-- a def's promise: B what the callers may still change; c draws at most -/
def spOf (K : PySem.W.Frag) (n c : Nat) (m : DSp) : Sp := fun vs H Q E => ∃ B ds Qd Xd, vs.length = n ∧ Rm H c ∧ (∀ a, B a → ∃ o, H a = some o ∧ isMt o = true) ∧ RepL K B H ds vs ∧ m ds Qd Xd ∧
  (∀ d, Qd d → ∀ v H', Ex c H H' → Rep K B H' d v → Q v H') ∧ (∀ x, Xd x → ∀ cls d H', Ex c H H' → XIs K x cls d H' → E cls d H')

/-- an exception class of the module's own -/
structure ExcD (K : PySem.W.Frag) (mg : Str → Option Value) (c : Str) : Prop where
  ex : ∃ B newId initId bmB, ExcBaseFacts B newId initId bmB ∧ PySem.W.excIn K (He.ga K c) bmB newId = true
  gl : mg c = some (.ref (He.ga K c))
  kp : PySem.W.keepIn K (.ref (He.ga K c)) = true
  sub : PySem.W.subIn K (.ref (He.ga K c)) (.type "BaseException") = some true
  ty : PySem.W.typeIn K (.ref (He.ga K c)) = some (.type "type")
/-- what _law_error tells of an exception that is handled -/
def ErrOk (P : Program) (w : World) (K : PySem.W.Frag) (mg : Str → Option Value) (base : Heap) : Prop := ∃ (fa : Addr) (fd : FuncData), mg "_law_error" = some (.ref fa) ∧ PySem.W.keepIn K (.ref fa) = true ∧ Binds K fd (["e"] : List Str) [] ∧
  ∀ (A : Around) (outer : List PySem.Env) (s : Shared) (H : Hp) (args : Args) (pr : Addr × Obj) (c t : Str) (Q : VK), L2H.RoomH 1 A → L2H.Hot1 A pr → L2H.PinOk outer H s pr → Env0 P w K mg base A outer s H → BindsTo s fd args [("e", .ref pr.1)] → errT c = some t → Zc (.ref (He.ga K c)) none pr.2 →
    (∀ H', Ex 0 H H' → Q (.str t) H') → codeAny (model P w) A (.call (.ref fa) args) (CR (L2N.CX P w) outer P w H s Q fun _ _ _ => False) s
/-- the table is kept by the module -/
structure TOk (P : Program) (w : World) (K : PySem.W.Frag) (mg : Str → Option Value) (base : Heap) (T : Tb) (L : Nat) : Prop where
  fn : ∀ f e, T.fn f = some e → ∃ fa fd ps, ps.length = e.n ∧ e.k ≤ L ∧ FnG P w K mg base e.k fa fd ps (spOf K e.n e.c e.m) ∧ mg f = some (.ref fa) ∧ PySem.W.keepIn K (.ref fa) = true ∧ Binds K fd ps []
  glob : ∀ x d, T.glob x = some d → ∃ u v, mg x = some u ∧ RelV v u ∧ ∀ A H, Rep K A H d v
  exc : ∀ c, T.exc c = true → ExcD K mg c
  free : ∀ f : BF, mg (bfName f) = none
  set : mg "set" = none
  range : mg "range" = none
  enum : mg "enumerate" = none
  zip : mg "zip" = none
  dict : mg "dict" = none
  err : T.err = true → 1 ≤ L ∧ ErrOk P w K mg base ∧ mg "SayError" = some (.ref (He.ga K "SayError")) ∧ ∀ c t, errT c = some t → PySem.W.exmOne K (.ref (He.ga K c)) (.ref (He.ga K "SayError")) = some true
/-- a context of a def's body -/
structure Good (T : Tb) (L : Nat) (W : WX) (X : Cx) : Prop where
  nd : X.N.Nodup
  calm : X.calm = true
  room : Room L X.A
  guards : X.A.guards = some []
  tk : L2N.Takes X W
  tab : TOk X.prog X.w X.K X.mg X.base T L
end DL

/-! DE: == of dicts of truth values -/
namespace DL
open PySem PySem.Spec PyProof.Rows L2 Evl

theorem vb_val {K : PySem.W.Frag} {A : AP} {H : Hp} : ∀ {m : List (Key × Bool)} {ws : List (Key × V)}, RepK K A H (dicB m) ws → ∀ k, valV ws k = (valB m k).map V.bl
  | [], ws, h, k => by
    rw [show ws = [] from h]
    rfl
  | (k', b) :: m, ws, h, k => by
    obtain ⟨v, r, rfl, h1, h2⟩ := (show ∃ v r, ws = (k', v) :: r ∧ Rep K A H (.bl b) v ∧ RepK K A H (dicB m) r from h)
    obtain rfl : v = .bl b := h1
    by_cases e : k' = k
    · subst e
      rw [valV_pos rfl]
      unfold valB
      rw [List.find?_cons_of_pos (by simp)]
      rfl
    · have q := vb_val h2 k
      unfold valV at q ⊢
      unfold valB at q ⊢
      rw [List.find?_cons_of_neg (by simpa using e), List.find?_cons_of_neg (by simpa using e)]
      exact q
theorem vb_at {ws : List (Key × V)} {vs : List (Key × Value)} {m : List (Key × Bool)} {k : Key} (r : KV ws vs) (h : valV ws k = (valB m k).map V.bl) : PySem.valueAt vs k = (valB m k).map Value.bool := by
  have q := r.val k
  rw [h] at q
  cases e : valB m k with
  | none =>
    rw [e] at q
    cases e2 : PySem.valueAt vs k with
    | none => rfl
    | some u => rw [e2] at q; exact q.elim
  | some b =>
    rw [e] at q
    cases e2 : PySem.valueAt vs k with
    | none => rw [e2] at q; exact q.elim
    | some u =>
      rw [e2] at q
      exact congrArg some (show u = Value.bool b from q)
theorem keq_of {prog : Program} {w : World} {A : Around} {s : Shared} {K : PySem.W.Frag} {B : AP} {H : Hp} {m : List (Key × Bool)} {kb : List (Key × Value)} (hv : ∀ k, PySem.valueAt kb k = (valB m k).map Value.bool) :
    ∀ {l : List (Key × Bool)} {ws : List (Key × V)} {ka : List (Key × Value)}, RepK K B H (dicB l) ws → KV ws ka → PySem.W.KeqHitsP prog w A s kb ka (l.all fun kv => decide (valB m kv.1 = some kv.2))
  | [], ws, ka, h, r => by
    rw [show ws = [] from h] at r
    cases r
    exact .nil
  | (k, b) :: l, ws, ka, h, r => by
    obtain ⟨v, rest, rfl, h1, h2⟩ := (show ∃ v r, ws = (k, v) :: r ∧ Rep K B H (.bl b) v ∧ RepK K B H (dicB l) r from h)
    obtain rfl : v = .bl b := h1
    cases r with
    | cons r1 r2 =>
      rename_i q ka'
      obtain ⟨k2, u⟩ := q
      obtain ⟨e1, e2⟩ := r1
      obtain rfl : k = k2 := e1
      obtain rfl : u = Value.bool b := e2
      have ih := keq_of hv h2 r2 (prog := prog) (w := w) (A := A) (s := s)
      rw [List.all_cons]
      cases e : valB m k with
      | none =>
        have : (decide ((none : Option Bool) = some b) && l.all fun kv => decide (valB m kv.1 = some kv.2)) = false := by simp
        show PySem.W.KeqHitsP prog w A s kb _ (decide ((none : Option Bool) = some b) && _)
        rw [this]
        exact .miss (by rw [hv, e]; rfl)
      | some b' =>
        have z : decide (some b' = some b) = (b == b') := by cases b <;> cases b' <;> rfl
        show PySem.W.KeqHitsP prog w A s kb _ (decide (some b' = some b) && _)
        rw [z]
        exact .hit (by rw [hv, e]; rfl) (SeqAt.EqAt.eqP (SeqAt.EqAt.bool_bool b b')) ih
end DL

/-! DV: the operations by values -/
namespace DL
open PySem PySem.Spec PyProof.Rows L2 Evl

section
variable {K : PySem.W.Frag} {A : AP} {H : Hp} {v : V}
theorem rb_non (h : RepB K A H .non v) : v = .non := by
  rcases h with h | ⟨_, _, h⟩
  · exact h
  · exact h.elim
theorem rb_bl {b : Bool} (h : RepB K A H (.bl b) v) : v = .bl b := by
  rcases h with h | ⟨_, _, h⟩
  · exact h
  · exact h.elim
theorem rb_int {i : Int} (h : RepB K A H (.int i) v) : v = .int i := by
  rcases h with h | ⟨_, _, h⟩
  · exact h
  · exact h.elim
theorem rb_str {x : Str} (h : RepB K A H (.str x) v) : v = .str x := by
  rcases h with h | ⟨_, _, h⟩
  · exact h
  · exact h.elim
theorem rb_tup0 {l : List D} (h : RepB K A H (.tup l) v) : ∃ a vs, v = .ref a ∧ H a = some (.tup vs) ∧ RepL K A H l vs := by
  rcases h with h | ⟨_, _, h⟩
  · exact h
  · exact h.elim
theorem rb_tup {l : List D} (h : RepB K A H (.tup l) v) : ∃ a vs, v = .ref a ∧ SqT K H a vs ∧ RepL K A H l vs := by
  obtain ⟨a, vs, e, h1, h2⟩ := rb_tup0 h
  exact ⟨a, vs, e, .inl (.inl h1), h2⟩
theorem rb_kt {l : List D} (h : RepB K A H (.kt l) v) : ∃ a vs, v = .ref a ∧ SqT K H a vs ∧ RepL K A H l vs := by
  rcases h with h | ⟨_, _, h⟩
  · obtain ⟨a, vs, e, h1, h2⟩ := h
    exact ⟨a, vs, e, h1 H, h2⟩
  · exact h.elim
theorem rb_lst {l : List D} (h : RepB K A H (.lst l) v) : ∃ a vs, v = .ref a ∧ H a = some (.lst vs) ∧ RepL K A H l vs := by
  rcases h with h | ⟨a, e, h⟩
  · obtain ⟨a, vs, e, _, h1, h2⟩ := h
    exact ⟨a, vs, e, h1, h2⟩
  · obtain ⟨vs, h1, h2⟩ := h
    exact ⟨a, vs, e, h1, h2⟩
theorem rb_dic {l : List (Key × D)} (h : RepB K A H (.dic l) v) : ∃ a vs, v = .ref a ∧ Rd H a (.dK vs) ∧ RepK K A H l vs := by
  rcases h with h | ⟨a, e, h⟩
  · obtain ⟨a, vs, e, _, h1, h2⟩ := h
    exact ⟨a, vs, e, h1, h2⟩
  · obtain ⟨vs, h1, h2⟩ := h
    exact ⟨a, vs, e, .inl h1, h2⟩
theorem rb_dit {l : List (List Key × D)} (h : RepB K A H (.dit l) v) : ∃ a vs, v = .ref a ∧ Rd H a (.dT vs) ∧ RepT K A H l vs := by
  rcases h with h | ⟨a, e, h⟩
  · obtain ⟨a, vs, e, _, h1, h2⟩ := h
    exact ⟨a, vs, e, h1, h2⟩
  · obtain ⟨vs, h1, h2⟩ := h
    exact ⟨a, vs, e, .inl h1, h2⟩
theorem rb_scr {l : List Int} (h : RepB K A H (.scr l) v) : ∃ a, v = .ref a ∧ SqL K H a (l.map V.int) := by
  rcases h with h | ⟨a, e, h⟩
  · obtain ⟨a, e, h1⟩ := h
    refine ⟨a, e, ?_⟩
    rcases h1 with ⟨o, _, h1⟩ | h1
    · exact .inl (.inr ⟨o, h1⟩)
    · exact h1 H
  · exact h.elim
theorem rep_tup {l : List D} {vs : List V} {p : Addr} (r : RepL K A H l vs) (hp : H p = none) : Rep K A (upd H p (.tup vs)) (.tup l) (.ref p) :=
  ⟨p, vs, rfl, upd_same, r.ex (Ex.new hp)⟩
theorem rep_lst {l : List D} {vs : List V} {p : Addr} (na : ¬ A p) (r : RepL K A H l vs) (hp : H p = none) : Rep K A (upd H p (.lst vs)) (.lst l) (.ref p) :=
  ⟨p, vs, rfl, na, upd_same, r.ex (Ex.new hp)⟩
end
/-- what follows a value that is held -/
abbrev Fin (K : PySem.W.Frag) (A : AP) (H : Hp) (Qd : DK) (Q : VK) : Prop := ∀ d, Qd d → ∀ v H', Ex 0 H H' → Rep K A H' d v → Q v H'
def AOk (A : AP) (H : Hp) : Prop := ∀ a, A a → ∃ o, H a = some o ∧ isMt o = true
theorem AOk.fresh {A : AP} {H : Hp} (h : AOk A H) {p : Addr} (hp : H p = none) : ¬ A p := fun z => by
  obtain ⟨o, e, _⟩ := h p z
  rw [hp] at e
  cases e
def r2D (K : PySem.W.Frag) (f : D → D → DK → Prop) : R2 := fun x y H Q => ∃ A dx dy Qd, AOk A H ∧ RepB K A H dx x ∧ RepB K A H dy y ∧ f dx dy Qd ∧ Fin K A H Qd Q

section
variable {X : Cx}
theorem op_binD (op : Operator) : OpR X (binaryOp op) (r2D X.K (binD op)) := by
  intro pins s σ H x y v u Q I rx ry h
  obtain ⟨A, dx, dy, Qd, hA, hx, hy, hb, hq⟩ := h
  unfold binD at hb
  split at hb
  · obtain rfl := rb_int hx
    obtain rfl := rb_int hy
    exact op_add pins s σ H _ _ v u Q I rx ry ⟨_, _, rfl, rfl, hq _ hb _ _ (Ex.refl _) rfl⟩
  · obtain rfl := rb_int hx
    obtain rfl := rb_int hy
    exact op_sub pins s σ H _ _ v u Q I rx ry ⟨_, _, rfl, rfl, hq _ hb _ _ (Ex.refl _) rfl⟩
  · obtain rfl := rb_int hx
    obtain rfl := rb_int hy
    exact op_mul pins s σ H _ _ v u Q I rx ry ⟨_, _, rfl, rfl, hb.1, hq _ hb.2 _ _ (Ex.refl _) rfl⟩
  · obtain rfl := rb_int hx
    obtain rfl := rb_int hy
    exact op_fdiv pins s σ H _ _ v u Q I rx ry ⟨_, _, rfl, rfl, hb.1, hq _ hb.2 _ _ (Ex.refl _) rfl⟩
  · obtain rfl := rb_int hx
    obtain rfl := rb_int hy
    exact op_mod pins s σ H _ _ v u Q I rx ry ⟨_, _, rfl, rfl, hb.1, hq _ hb.2 _ _ (Ex.refl _) rfl⟩
  · obtain rfl := rb_int hx
    obtain rfl := rb_int hy
    exact op_pow pins s σ H _ _ v u Q I rx ry ⟨_, _, rfl, rfl, hb.1, hq _ hb.2 _ _ (Ex.refl _) rfl⟩
  · obtain rfl := rb_int hx
    obtain rfl := rb_int hy
    exact op_shl pins s σ H _ _ v u Q I rx ry ⟨_, _, rfl, rfl, hb.1, hq _ hb.2 _ _ (Ex.refl _) rfl⟩
  · obtain rfl := rb_int hx
    obtain rfl := rb_int hy
    exact op_shr pins s σ H _ _ v u Q I rx ry ⟨_, _, rfl, rfl, hb.1, hq _ hb.2 _ _ (Ex.refl _) rfl⟩
  · obtain rfl := rb_int hx
    obtain rfl := rb_int hy
    exact op_and pins s σ H _ _ v u Q I rx ry ⟨_, _, rfl, rfl, hq _ hb _ _ (Ex.refl _) rfl⟩
  · obtain rfl := rb_int hx
    obtain rfl := rb_int hy
    exact op_or pins s σ H _ _ v u Q I rx ry ⟨_, _, rfl, rfl, hq _ hb _ _ (Ex.refl _) rfl⟩
  · obtain rfl := rb_int hx
    obtain rfl := rb_int hy
    exact op_xor pins s σ H _ _ v u Q I rx ry ⟨_, _, rfl, rfl, hq _ hb _ _ (Ex.refl _) rfl⟩
  · obtain rfl := rb_str hx
    obtain rfl := rb_str hy
    exact op_add_str pins s σ H _ _ v u Q I rx ry ⟨_, _, rfl, rfl, hb.1, hq _ hb.2 _ _ (Ex.refl _) rfl⟩
  · obtain ⟨a, xs, rfl, ha0, hl⟩ := rb_tup0 hx
    obtain ⟨b, ys, rfl, hb0, hm⟩ := rb_tup0 hy
    have ha : SqT X.K H a xs := .inl (.inl ha0)
    have hb' : SqT X.K H b ys := .inl (.inl hb0)
    have e1 := RepL.length hl
    have e2 := RepL.length hm
    refine op_catA pins s σ H _ _ v u Q I rx ry ⟨a, b, xs, ys, rfl, rfl, ha, hb', by rw [e1, e2]; exact hb.1, fun e => ?_, fun _ e => ?_, fun _ _ p hp => ?_⟩
    · subst e
      refine hq _ hb.2 _ _ (Ex.refl _) ⟨b, ys, rfl, hb0, ?_⟩
      have := RepL.append hl hm
      simpa using this
    · subst e
      refine hq _ hb.2 _ _ (Ex.refl _) ⟨a, xs, rfl, ha0, ?_⟩
      have := RepL.append hl hm
      simpa using this
    · exact hq _ hb.2 _ _ (Ex.new hp) (rep_tup (RepL.append hl hm) hp)
  · obtain ⟨a, xs, rfl, ha, hl⟩ := rb_lst hx
    obtain ⟨b, ys, rfl, hb', hm⟩ := rb_lst hy
    have e1 := RepL.length hl
    have e2 := RepL.length hm
    exact op_cat pins s σ H _ _ v u Q I rx ry ⟨a, b, xs, ys, rfl, rfl, ha, hb', by rw [e1, e2]; exact hb.1, fun p hp => hq _ hb.2 _ _ (Ex.new hp) (rep_lst (hA.fresh hp) (RepL.append hl hm) hp)⟩
  · obtain ⟨a, xs, rfl, ha, hl⟩ := rb_lst hx
    obtain rfl := rb_int hy
    have e1 := RepL.length hl
    exact op_rep pins s σ H _ _ v u Q I rx ry ⟨a, _, xs, rfl, rfl, ha, hb.1, hb.2.1, by rw [e1]; exact hb.2.2.1, fun p hp => hq _ hb.2.2.2 _ _ (Ex.new hp) (rep_lst (hA.fresh hp) (repL_rep _ hl) hp)⟩
  · obtain ⟨a, xs, rfl, ha, hl⟩ := rb_tup hx
    obtain rfl := rb_int hy
    have e1 := RepL.length hl
    refine op_repT pins s σ H _ _ v u Q I rx ry ⟨a, _, xs, rfl, rfl, ha, fun e => ?_, hb.2.1, hb.2.2.1, by rw [e1]; exact hb.2.2.2.1, fun p hp => hq _ hb.2.2.2.2 _ _ (Ex.new hp) (rep_tup (repL_rep _ hl) hp)⟩
    rw [e] at e1
    exact hb.1 (List.eq_nil_of_length_eq_zero e1.symm)
  · exact hb.elim

/-! data as the library has it -/
mutual
theorem toPy_dp {A : AP} {H : Hp} {K : PySem.W.Frag} : ∀ (d : D) (p : PyData) (v : V), toPy d = some p → RepB K A H d v → Dp K H v p
  | .non, p, v, e, h => by
    cases e
    rw [rb_non h]
    exact .non
  | .bl b, p, v, e, h => by
    cases e
    rw [rb_bl h]
    exact .bl b
  | .int i, p, v, e, h => by
    cases e
    rw [rb_int h]
    exact .int i
  | .str x, p, v, e, h => by
    cases e
    rw [rb_str h]
    exact .str x
  | .tup l, p, v, e, h => by
    obtain ⟨ps, e1, rfl⟩ := Option.map_eq_some_iff.mp (show (toPy.toPyL l).map PyData.tuple = some p from e)
    obtain ⟨a, vs, rfl, hs, hl⟩ := rb_tup h
    exact .tup hs (toPyL_dp l ps vs e1 hl)
  | .lst l, p, v, e, h => by
    obtain ⟨ps, e1, rfl⟩ := Option.map_eq_some_iff.mp (show (toPy.toPyL l).map PyData.list = some p from e)
    obtain ⟨a, vs, rfl, hs, hl⟩ := rb_lst h
    exact .lst (.inl (.inl hs)) (toPyL_dp l ps vs e1 hl)
  | .dic _, p, v, e, h => by cases e
  | .dit _, p, v, e, h => by cases e
  | .obj _ _, p, v, e, h => by cases e
  | .fn _, p, v, e, h => by cases e
  | .st, p, v, e, h => by cases e
  | .scr _, p, v, e, h => by cases e
  | .kt l, p, v, e, h => by
    obtain ⟨ps, e1, rfl⟩ := Option.map_eq_some_iff.mp (show (toPy.toPyL l).map PyData.tuple = some p from e)
    obtain ⟨a, vs, rfl, hs, hl⟩ := rb_kt h
    exact .tup hs (toPyL_dp l ps vs e1 hl)
theorem toPyL_dp {A : AP} {H : Hp} {K : PySem.W.Frag} : ∀ (l : List D) (ps : List PyData) (vs : List V), toPy.toPyL l = some ps → RepL K A H l vs → DpAll K H vs ps
  | [], ps, vs, e, h => by
    cases e
    rw [show vs = [] from h]
    exact .nil
  | d :: l, ps, vs, e, h => by
    obtain ⟨v, r, rfl, h1, h2⟩ := h
    have e' : (match toPy d, toPy.toPyL l with
      | some p, some q => some (p :: q)
      | _, _ => none) = some ps := e
    cases hp : toPy d with
    | none =>
      rw [hp] at e'
      cases e'
    | some p =>
      cases hq : toPy.toPyL l with
      | none =>
        rw [hp, hq] at e'
        cases e'
      | some q =>
        rw [hp, hq] at e'
        cases e'
        exact .cons (toPy_dp d p v hp (.inl h1)) (toPyL_dp l q r hq h2)
end
theorem toPy_str {d : D} {a : Str} (h : toPy d = some (.str a)) : d = .str a := by
  cases d with
  | str x => cases h; rfl
  | tup l =>
    have h : (toPy.toPyL l).map PyData.tuple = some (.str a) := h
    cases e : toPy.toPyL l <;> rw [e] at h <;> cases h
  | lst l =>
    have h : (toPy.toPyL l).map PyData.list = some (.str a) := h
    cases e : toPy.toPyL l <;> rw [e] at h <;> cases h
  | kt l =>
    have h : (toPy.toPyL l).map PyData.tuple = some (.str a) := h
    cases e : toPy.toPyL l <;> rw [e] at h <;> cases h
  | _ => cases h
/-- two texts, or what is shaped -/
theorem shEq_or {p q : PyData} (h1 : shEq p q = true) (h2 : shEq q p = true) : (∃ a b, p = .str a ∧ q = .str b) ∨ (SeqAt.shaped p = true ∧ SeqAt.shaped q = true) := by
  cases p <;> cases q <;> first | exact .inl ⟨_, _, rfl, rfl⟩ | exact .inr ⟨h1, h2⟩
theorem eqv_strs (a b : Str) : PyData.eqv (.str a) (.str b) = decide (V.str a = V.str b) := by
  rw [dec_str]
  simp only [PyData.eqv]
theorem repK_lenV {K : PySem.W.Frag} {A : AP} {H : Hp} : ∀ {l : List (Key × D)} {vs : List (Key × V)}, RepK K A H l vs → vs.length = l.length
  | [], _, h => by rw [show _ = [] from h]; rfl
  | (k, d) :: l, _, h => by
    obtain ⟨v, r, rfl, _, h2⟩ := h
    rw [List.length_cons, List.length_cons, repK_lenV h2]
theorem op_cmpD (hu : X.A.units + 64 < cLine) (op : CmpOp) : OpR X (compareOp op) (r2D X.K (cmpD op)) := by
  intro pins s σ H x y v u Q I rx ry h
  obtain ⟨A, dx, dy, Qd, hA, hx, hy, hb, hq⟩ := h
  unfold cmpD at hb
  split at hb
  · obtain rfl := rb_int hx
    obtain rfl := rb_int hy
    exact op_lt pins s σ H _ _ v u Q I rx ry ⟨_, _, rfl, rfl, hq _ hb _ _ (Ex.refl _) rfl⟩
  · obtain rfl := rb_int hx
    obtain rfl := rb_int hy
    exact op_le pins s σ H _ _ v u Q I rx ry ⟨_, _, rfl, rfl, hq _ hb _ _ (Ex.refl _) rfl⟩
  · obtain rfl := rb_int hx
    obtain rfl := rb_int hy
    exact op_gt pins s σ H _ _ v u Q I rx ry ⟨_, _, rfl, rfl, hq _ hb _ _ (Ex.refl _) rfl⟩
  · obtain rfl := rb_int hx
    obtain rfl := rb_int hy
    exact op_ge pins s σ H _ _ v u Q I rx ry ⟨_, _, rfl, rfl, hq _ hb _ _ (Ex.refl _) rfl⟩
  · obtain rfl := rb_str hx
    obtain rfl := rb_str hy
    exact op_lt_str pins s σ H _ _ v u Q I rx ry ⟨_, _, rfl, rfl, hq _ hb _ _ (Ex.refl _) rfl⟩
  · obtain ⟨p, q, h1, h2, h3, h4, h5⟩ := hb
    have d1 := toPy_dp _ (.tuple p) x (by show (toPy.toPyL _).map PyData.tuple = _; rw [h1]; rfl) hx
    have d2 := toPy_dp _ (.tuple q) y (by show (toPy.toPyL _).map PyData.tuple = _; rw [h2]; rfl) hy
    obtain ⟨as, r1⟩ := Dp.reads I _ x v d1 rx
    obtain ⟨bs, r2⟩ := Dp.reads I _ y u d2 ry
    have m := Nat.min_le_left (PyData.tuple p).depth (PyData.tuple q).depth
    exact PySem.W.lt_data r1 r2 (by rw [PySem.W.alike]; exact h3) (fun z => by cases z) (by omega) ⟨.bl _, H, I, rfl, hq _ h5 _ _ (Ex.refl _) rfl⟩
  · obtain ⟨l', m', rfl, rfl, q⟩ := hb
    obtain ⟨a, vs, rfl, ha, hl⟩ := rb_dic hx
    obtain ⟨b, ws, rfl, hb', hm⟩ := rb_dic hy
    cases rx
    cases ry
    obtain ⟨z1, sm1, va, kv1, do1⟩ := dk_rd I.hok ha
    obtain ⟨z2, sm2, vb, kv2, do2⟩ := dk_rd I.hok hb'
    have len : ∀ {l : List (Key × Bool)} {vs : List (Key × V)} {va : List (Key × Value)}, RepK X.K A H (dicB l) vs → KV vs va → va.length = l.length := fun h r => by
      rw [← Paired.length r, repK_lenV h]
      exact List.length_map _
    refine PySem.W.rcP_dicts sm1 sm2 do1 do2 (by omega) (fun _ => keq_of (fun k => vb_at kv2 (vb_val hm k)) hl kv1) _ _ ⟨.bl _, H, I, rfl, hq _ q _ _ (Ex.refl _) ?_⟩
    rw [len hl kv1, len hm kv2]
    rfl
  · obtain ⟨p, q, h1, h2, s1, s2, h3⟩ := hb
    rcases shEq_or s1 s2 with ⟨a, b, rfl, rfl⟩ | ⟨s1, s2⟩
    · obtain rfl := toPy_str h1
      obtain rfl := toPy_str h2
      obtain rfl := rb_str hx
      obtain rfl := rb_str hy
      rw [eqv_strs] at h3
      exact op_eq pins s σ H _ _ v u Q I rx ry ⟨rfl, hq _ h3 _ _ (Ex.refl _) rfl⟩
    exact op_eqD hu pins s σ H _ _ v u Q I rx ry ⟨p, q, toPy_dp _ _ _ h1 hx, toPy_dp _ _ _ h2 hy, s1, s2, hq _ h3 _ _ (Ex.refl _) rfl⟩
  · obtain ⟨p, q, h1, h2, s1, s2, h3⟩ := hb
    rcases shEq_or s1 s2 with ⟨a, b, rfl, rfl⟩ | ⟨s1, s2⟩
    · obtain rfl := toPy_str h1
      obtain rfl := toPy_str h2
      obtain rfl := rb_str hx
      obtain rfl := rb_str hy
      rw [eqv_strs] at h3
      exact op_ne pins s σ H _ _ v u Q I rx ry ⟨rfl, hq _ h3 _ _ (Ex.refl _) rfl⟩
    exact op_neD hu pins s σ H _ _ v u Q I rx ry ⟨p, q, toPy_dp _ _ _ h1 hx, toPy_dp _ _ _ h2 hy, s1, s2, hq _ h3 _ _ (Ex.refl _) rfl⟩
  · exact hb.elim
end
end DL

/-! DF: sorted, of a list or a tuple that reads as data -/
namespace PySem.W
open PySem PySem.Calls PyProof.Rows
section
variable {prog : Program} {w : World} {A : Around} {E : Value → Shared → Prop} {s : Shared}
theorem collect_tupT {l : Addr} {vs : List Value} {Q : List Value → Shared → Prop} (hl : IsTup s.heap l vs.toArray)
    (h : Q vs { s with heap := (s.heap.push (seqObj "list" #[] 0)).update s.heap.objs.size (Obj.mapSeq (· ++ vs.toArray)) }) (hsz : vs.length ≤ sizeLine) : wpAny (model prog w) A (collect (.ref l)) Q E s := by
  obtain ⟨o, ho, hc, n, hd⟩ := id hl
  unfold collect
  refine wpAny_bind (wpAny_runValue (codeAny_builtin PySem.F.entry_proto_collect ?_))
  rw [Around.under_plainId PySem.F.plain_proto_collect _]
  show wpAny _ A.in1 (do again (.builtin "list.__iadd__" ⟨[← newList [], .ref l], []⟩)) _ _ s
  refine wpAny_bind (wpAny_newList (wpAny_pure ⟨Code.quiet_builtin _ (by decide +kernel), codeAny_builtin PySem.F.entry_list_iadd ?_⟩) (Nat.zero_le _))
  rw [Around.under_plainId PySem.F.plain_list_iadd _]
  show wpAny _ A.in1 (Builtin.List.listExtendWith (.ref s.heap.objs.size) (.ref l) (.ref s.heap.objs.size)) _ _ { s with heap := s.heap.push (seqObj "list" #[] 0) }
  unfold Builtin.List.listExtendWith
  have hol : (s.heap.push (seqObj "list" #[] 0)).get? l = some o := Heap.get?_push_of_some _ ho
  refine wpAny_bind (wpAny_typeOf (T := "tuple") ⟨o, hol, hc⟩ ?_)
  have isT : (Value.type "tuple" == Value.type "tuple") = true := by rfl
  rw [if_pos (by rw [isT]; simp)]
  refine wpAny_bind (listItems_at hol hd ?_)
  refine wpAny_bind (listItems_at (xs := #[]) (n := 0) (Heap.get?_push_size _ rfl) rfl ?_)
  rw [if_neg (by simp)]
  refine wpAny_bind (listUpdate_at (xs := #[]) (n := 0) (Heap.get?_push_size _ rfl) rfl ?_ (Nat.zero_le _) (by show (#[] ++ vs.toArray).size ≤ sizeLine + 1; simp only [Array.size_append, List.size_toArray, List.length_nil]; omega))
  refine wpAny_pure ?_
  show wpAny (model prog w) A (do
      let o ← load s.heap.objs.size
      match o.data with
      | .seq xs _ => pure xs.toList
      | _ => unsupported "internal:collect") Q E { s with heap := (s.heap.push (seqObj "list" #[] 0)).update s.heap.objs.size (Obj.mapSeq (· ++ vs.toArray)) }
  refine wpAny_bind (wpAny_load (get?_update_seq (Heap.get?_push_size _ rfl) _) ?_)
  show wpAny _ _ (pure ((#[] : Array Value) ++ vs.toArray).toList) Q E _
  rw [show ((#[] : Array Value) ++ vs.toArray).toList = vs by simp]
  exact wpAny_pure h
theorem sorted_of_tup {κ : PyProof.Rows.KeyKind} {l : Addr} {vs : List Value} {Q : Value → Shared → Prop} (hl : IsTup s.heap l vs.toArray) (hL : vs.length ≤ sizeLine) (S : SortsAt prog w A.in1.in1 { s with heap := sortingHeap (copyHeap s.heap vs) (s.heap.objs.size + 1) vs } κ vs)
    (h : Q (.ref (s.heap.objs.size + 1)) { s with heap := sortedAll s.heap vs (sortVals κ false vs vs).toArray }) : wpAny (model prog w) A (call (.builtin "sorted") [.ref l]) Q E s := by
  refine call_function_entry_kw kind_sorted plain_sorted entry_sorted (args_sorted1 _) ?_
  unfold Builtin.«sorted»
  refine wpAny_bind (m := checkCount "sorted" 1 1 _) (wpAny_pure ?_)
  refine wpAny_bind (collect_tupT hl ?_ hL)
  refine wpAny_bind (wpAny_newList ?_ hL)
  have hsz : ((s.heap.push (seqObj "list" #[] 0)).update s.heap.objs.size (Obj.mapSeq (· ++ vs.toArray))).objs.size = s.heap.objs.size + 1 := by
    rw [Heap.size_update, size_push']
  show wpAny _ _ _ _ _ { s with heap := copyHeap s.heap vs }
  rw [hsz]
  refine wpAny_bind (wpAny_holding (wpAny_call_entry_kw slot_list_sort ⟨_, copyHeap_at s.heap vs, rfl⟩ entry_list_sort ?body (args_list_sort _)))
  case body =>
    show wpAny (model prog w) A.in1.in1 (Builtin.«list.sort» ⟨[.ref (s.heap.objs.size + 1)], []⟩) _ _ _
    exact list_sort_vals (s := { s with heap := copyHeap s.heap vs }) (copyHeap_at s.heap vs) S hL ⟨_, rfl, wpAny_pure ⟨_, rfl, h⟩⟩
/-- the call of tuple's own __lt__, as a sort makes it -/
theorem call_tup_lt {Q : Value → Shared → Prop} {l b : Addr} {items items2 : Array Value} {e r : Nat → Bool} (hl : s.heap.IsTuple l items) (hb : s.heap.IsTuple b items2)
    (he : ∀ j (h1 : j < items.size) (h2 : j < items2.size), SeqAt.EqAt A.in1 s items[j] items2[j] (e j)) (hr : ∀ j (h1 : j < items.size) (h2 : j < items2.size), e j = false → SeqAt.RcLt A.in1 s items[j] items2[j] (r j))
    (h : Q (.bool (SeqAt.firstLt e r (decide (items.size < items2.size)) (List.range (min items.size items2.size)))) s) : wpAny (model prog w) A (call (.builtin "tuple.__lt__") [.ref l, .ref b]) Q E s := by
  obtain ⟨⟨c1, dd, data, sl⟩, ho, hc, n, hd⟩ := id hl
  obtain ⟨⟨c2, dd2, data2, sl2⟩, ho2, hc2, n2, hd2⟩ := id hb
  simp only at hc hd hc2 hd2
  subst hc hd hc2 hd2
  exact call_meets PySem.F.slot_tuple_lt ⟨_, ho, rfl⟩ PySem.F.entry_tuple_lt (PySem.F.args_tuple_lt_2 _ _) (SeqAt.tuple_ltAt l b items items2 n n2 dd dd2 sl sl2 e r) ⟨ho, ho2, he, hr, h⟩
/-- one tuple against another, where the kind is: one type -/
theorem oneLt_tup {xs ys : List PyData} {a b : Value} {as bs : List Addr} {Q : Bool → Shared → Prop} (ra : Reads s.heap a (.tuple xs) as) (rb : Reads s.heap b (.tuple ys) bs) (hal : alikeAll xs ys = true)
    (hu : A.units + min (PyData.tuple xs).depth (PyData.tuple ys).depth < cLine) (hq : Q (dataLt (.tuple xs) (.tuple ys)) s) : wpAny (model prog w) A (oneLt' true a b) Q E s := by
  cases ra with
  | @tuple l o vs n _ as₁ h1 h2 h3 h4 =>
    cases rb with
    | @tuple l' o' vs' n' _ bs₁ k1 k2 k3 k4 =>
      have n1 : vs.size = xs.length := by simpa using SeqAt.ReadsAll.length _ _ _ h4
      have n2 : vs'.size = ys.length := by simpa using SeqAt.ReadsAll.length _ _ _ k4
      rw [dataLt_tuple, ← firstLt_toks xs ys hal, ← n1, ← n2] at hq
      rw [oneLt'_eq]
      simp only [if_true]
      refine wpAny_bind (wpAny_cRoomFor (SeqAt.room_here hu) ?_)
      refine wpAny_bind (wpAny_callSpecialIfBound?_slot (T := "tuple") ⟨_, h1, h2⟩ PySem.F.slot_tuple_lt (call_tup_lt (e := SeqAt.pairEq xs ys) (r := fun j => dataLt (xs.getD j .none) (ys.getD j .none)) ⟨_, h1, h2, _, h3⟩ ⟨_, k1, k2, _, k3⟩ (fun j j1 j2 => ?_) (fun j j1 j2 hj => ?_) ?_))
      · have z := eqAt_alikeAll xs ys A.in1 s vs.toList vs'.toList _ _ h4 k4 hal (SeqAt.room_in hu) j (by simpa using j1) (by simpa using j2)
        simpa using z
      · have z := rcLt_alikeAll xs ys A.in1 s vs.toList vs'.toList _ _ h4 k4 hal (SeqAt.room_in hu) j (by simpa using j1) (by simpa using j2) hj
        simpa using z
      · exact wpAny_truthy_bool hq
theorem firsts_any : ∀ (vs : List Value), (∀ v ∈ vs, ∃ a its, v = .ref a ∧ IsTup s.heap a its) → ∀ {Q : List (Option Value) → Shared → Prop}, (∀ fs, fs.length = vs.length → Q fs s) → wpAny (model prog w) A (vs.mapM firstOfTuple') Q E s
  | [], _, Q, h => by rw [List.mapM_nil]; exact wpAny_pure (h [] rfl)
  | v :: vs, ht, Q, h => by
    obtain ⟨a, its, rfl, o, ho, hc, n, hd⟩ := ht v List.mem_cons_self
    rw [List.mapM_cons]
    refine wpAny_bind ?_
    rw [kas_first_eq]
    refine wpAny_bind (wpAny_typeOf (T := "tuple") ⟨o, ho, hc⟩ ?_)
    rw [if_neg (by decide)]
    refine wpAny_bind (listItems_at ho hd (wpAny_pure ?_))
    exact wpAny_bind (firsts_any vs (fun u hu => ht u (List.mem_cons_of_mem _ hu)) fun fs hf => wpAny_pure (h _ (by rw [List.length_cons, List.length_cons, hf])))
/-- all are tuples, the first is empty: their kind is one type -/
theorem kind_tups {a : Addr} {v2 : Value} {rest : List Value} {Q : SortKind → Shared → Prop} (h0 : IsTup s.heap a #[]) (ht : ∀ v ∈ v2 :: rest, ∃ a its, v = .ref a ∧ IsTup s.heap a its) (h : Q oneType' s) : wpAny (model prog w) A (keyKind' (.ref a :: v2 :: rest).toArray) Q E s := by
  have hall : ∀ v ∈ .ref a :: v2 :: rest, ∃ a its, v = .ref a ∧ IsTup s.heap a its := fun v hv => by
    rcases List.mem_cons.mp hv with rfl | hv
    · exact ⟨a, _, rfl, h0⟩
    · exact ht v hv
  rw [keyKind'_eq, List.mapM_toArray, map_eq_pure_bind, List.mapM_cons]
  refine wpAny_bind (wpAny_bind (wpAny_bind ?_))
  obtain ⟨o, ho, hc, n, hd⟩ := h0
  rw [kas_first_eq]
  refine wpAny_bind (wpAny_typeOf (T := "tuple") ⟨o, ho, hc⟩ ?_)
  rw [if_neg (by decide)]
  refine wpAny_bind (listItems_at ho hd (wpAny_pure ?_))
  refine wpAny_bind (firsts_any _ ht fun fs _ => wpAny_pure (wpAny_pure ?_))
  have e0 : ((#[] : Array Value)[0]?) = none := rfl
  rw [if_neg (by simp), if_neg (by simp)]
  rw [oneTypeOnly'_eq, List.mapM_toArray, map_eq_pure_bind]
  refine wpAny_bind (wpAny_bind (wpAny_bind (kas_mapM (r := Value.type "tuple") _ (fun v hv Q' hq => ?_) (wpAny_pure ?_))))
  · obtain ⟨b, its, rfl, o', ho', hc', _⟩ := hall v hv
    exact wpAny_typeOf (T := "tuple") ⟨o', ho', hc'⟩ hq
  have ha : ((List.map (fun _ => Value.type "tuple") (.ref a :: v2 :: rest)).toArray.all fun x => x == Value.type "tuple") = true := by
    simp only [List.all_toArray, List.all_map, List.all_eq_true]
    intro _ _
    rfl
  have hz : (List.map (fun _ => Value.type "tuple") (.ref a :: v2 :: rest)).toArray[0]? = some (Value.type "tuple") := by simp
  rw [hz]
  simp only [ha, if_true]
  exact wpAny_pure (wpAny_pure h)
def SortX (ds : List PyData) : Prop := Sortable ds ∨ ((∀ d ∈ ds, ∃ xs, d = .tuple xs) ∧ ∃ r, ds = .tuple [] :: r)
theorem sortsX {vs : List Value} {ds : List PyData} (e : EachIs (fun v d => ∃ as, Reads s.heap v d as) vs ds) (hal : AllAlike ds) (hk : SortX ds) (hu : ∀ d, d ∈ ds → A.units + d.depth < cLine) : SortsAt prog w A s (dataKind s.heap ds) vs := by
  rcases hk with hk | ⟨ht, r, rfl⟩
  · exact SortsAt.data e hal hk hu
  refine ⟨fun v hv => ?_, oneType', ?_, fun h2 E Q hq => ?_⟩
  · obtain ⟨d, hd, as, r⟩ := e.left v hv
    exact ⟨_, dataKind_some hal hd r⟩
  · intro E x y a b Q ha hb hq
    obtain ⟨d, as, hd, ra, rfl⟩ := dataKind_inv ha
    obtain ⟨d', as', hd', rb, rfl⟩ := dataKind_inv hb
    rw [keyLt'_oneType]
    obtain ⟨xs, rfl⟩ := ht d hd
    obtain ⟨ys, rfl⟩ := ht d' hd'
    have q := hal _ hd _ hd'
    rw [alike] at q
    exact oneLt_tup ra rb q (Nat.lt_of_le_of_lt (Nat.add_le_add_left (Nat.min_le_left _ _) _) (hu _ hd)) hq
  · have isT : ∀ v d, (∃ xs, d = PyData.tuple xs) → (∃ as, Reads s.heap v d as) → ∃ a its, v = .ref a ∧ IsTup s.heap a its := fun v d ⟨xs, e⟩ ⟨as, r⟩ => by
      subst e
      cases r with
      | tuple h1 h2 h3 h4 => exact ⟨_, _, rfl, _, h1, h2, _, h3⟩
    cases e with
    | cons r0 t =>
      rename_i v0 vs'
      obtain ⟨as, r0⟩ := r0
      cases r0 with
      | @tuple l o its n _ as₁ h1 h2 h3 h4 =>
        have hz : its = #[] := by
          have := SeqAt.ReadsAll.length _ _ _ h4
          apply Array.eq_empty_of_size_eq_zero
          simpa using this
        subst hz
        match vs', t, h2 with
        | [], _, _ => exact absurd (show 2 ≤ 1 from by assumption) (by decide)
        | v2 :: rest, t, _ =>
          exact kind_tups ⟨_, h1, by assumption, _, h3⟩ (fun v hv => by
            obtain ⟨d, hd, as, r⟩ := t.left v hv
            exact isT v d (ht d (List.mem_cons_of_mem _ hd)) ⟨as, r⟩) hq
theorem sorted_ldata {β : Type} {R : Value → β → Prop} {enc : β → PyData} {bs : List β} {vs : List Value} {l : Addr} {Q : Value → Shared → Prop} (hl : s.heap.IsList l vs.toArray) (e : EachIs R vs bs) (er : EachIs (fun v b => ∃ as, Reads s.heap v (enc b) as) vs bs) (hal : AllAlike (bs.map enc)) (hk : SortX (bs.map enc)) (hL : bs.length ≤ sizeLine)
    (hu : ∀ b, b ∈ bs → A.units + 2 + (enc b).depth < cLine) (h : ∀ out, out.length = bs.length → EachIs R out (bs.mergeSort (dataLe false enc)) → Q (.ref (s.heap.objs.size + 1)) { s with heap := sortedAll s.heap vs (List.toArray out) }) :
    wpAny (model prog w) A (call (.builtin "sorted") [.ref l]) Q E s := by
  have er2 : EachIs (fun v b => ∃ as, Reads (sortingHeap (copyHeap s.heap vs) (s.heap.objs.size + 1) vs) v (enc b) as) vs bs := er.mono fun _ _ ⟨as, r⟩ => ⟨as, PyProof.Rows.Reads.keeps (fun _ _ => sorting_copy_old) r⟩
  exact sorted_vals hl (sortsX (s := { s with heap := sortingHeap (copyHeap s.heap vs) (s.heap.objs.size + 1) vs }) (each_map (R := fun v d => ∃ as, Reads (sortingHeap (copyHeap s.heap vs) (s.heap.objs.size + 1) vs) v d as) enc er2) hal hk (bound_map hu)) (by rw [e.length]; exact hL)
    (h _ (by rw [sortVals_length false rfl]; exact e.length) (sortVals_data false e er2 hal))
theorem sorted_tdata {β : Type} {R : Value → β → Prop} {enc : β → PyData} {bs : List β} {vs : List Value} {l : Addr} {Q : Value → Shared → Prop} (hl : IsTup s.heap l vs.toArray) (e : EachIs R vs bs) (er : EachIs (fun v b => ∃ as, Reads s.heap v (enc b) as) vs bs) (hal : AllAlike (bs.map enc)) (hk : SortX (bs.map enc)) (hL : bs.length ≤ sizeLine)
    (hu : ∀ b, b ∈ bs → A.units + 2 + (enc b).depth < cLine) (h : ∀ out, out.length = bs.length → EachIs R out (bs.mergeSort (dataLe false enc)) → Q (.ref (s.heap.objs.size + 1)) { s with heap := sortedAll s.heap vs (List.toArray out) }) :
    wpAny (model prog w) A (call (.builtin "sorted") [.ref l]) Q E s := by
  have er2 : EachIs (fun v b => ∃ as, Reads (sortingHeap (copyHeap s.heap vs) (s.heap.objs.size + 1) vs) v (enc b) as) vs bs := er.mono fun _ _ ⟨as, r⟩ => ⟨as, PyProof.Rows.Reads.keeps (fun _ _ => sorting_copy_old) r⟩
  exact sorted_of_tup hl (by rw [e.length]; exact hL) (sortsX (s := { s with heap := sortingHeap (copyHeap s.heap vs) (s.heap.objs.size + 1) vs }) (each_map (R := fun v d => ∃ as, Reads (sortingHeap (copyHeap s.heap vs) (s.heap.objs.size + 1) vs) v d as) enc er2) hal hk (bound_map hu))
    (h _ (by rw [sortVals_length false rfl]; exact e.length) (sortVals_data false e er2 hal))
end
end PySem.W
namespace DL
open PySem PySem.Spec PyProof.Rows L2 Evl
theorem toPyL_each {l : List D} {ps : List PyData} (h : toPy.toPyL l = some ps) : ∀ d ∈ l, toPy d = some (encD d) := by
  induction l generalizing ps with
  | nil => exact fun d hd => absurd hd List.not_mem_nil
  | cons x l ih =>
    have h' : (match toPy x, toPy.toPyL l with
      | some p, some q => some (p :: q)
      | _, _ => none) = some ps := h
    cases hp : toPy x with
    | none => rw [hp] at h'; cases h'
    | some p =>
      cases hq : toPy.toPyL l with
      | none => rw [hp, hq] at h'; cases h'
      | some q =>
        intro d hd
        rcases List.mem_cons.mp hd with rfl | hd
        · unfold encD
          rw [hp]
          rfl
        · exact ih hq d hd
section
variable {K : PySem.W.Frag} {A : AP} {H : Hp}
theorem each_zip : ∀ {l : List D} {vs : List V} {its : List Value}, vs.length = l.length → Vals vs its → PySem.W.EachIs (fun u (b : D × V) => RelV b.2 u) its (l.zip vs)
  | [], [], its, _, r => by cases r; exact .nil
  | d :: l, v :: vs, its, h, r => by
    cases r with
    | cons r1 r2 => exact .cons r1 (each_zip (Nat.succ.inj h) r2)
  | [], _ :: _, _, h, _ => by cases h
  | _ :: _, [], _, h, _ => by cases h
theorem vals_of_each : ∀ {out : List Value} {S : List (D × V)}, PySem.W.EachIs (fun u (b : D × V) => RelV b.2 u) out S → Vals (S.map (·.2)) out
  | _, _, .nil => .nil
  | _, _, .cons r t => .cons r (vals_of_each t)
theorem rep_zip : ∀ {l : List D} {vs : List V}, RepL K A H l vs → ∀ b ∈ l.zip vs, Rep K A H b.1 b.2
  | [], _, h, b, hb => by rw [List.zip_nil_left] at hb; exact absurd hb List.not_mem_nil
  | d :: l, _, h, b, hb => by
    obtain ⟨v, r, rfl, h1, h2⟩ := h
    rw [List.zip_cons_cons] at hb
    rcases List.mem_cons.mp hb with rfl | hb
    · exact h1
    · exact rep_zip h2 b hb
theorem repL_pairs : ∀ {S : List (D × V)}, (∀ b ∈ S, Rep K A H b.1 b.2) → RepL K A H (S.map (·.1)) (S.map (·.2))
  | [], _ => rfl
  | b :: S, h => ⟨b.2, S.map (·.2), rfl, h b List.mem_cons_self, repL_pairs fun x hx => h x (List.mem_cons_of_mem _ hx)⟩
theorem zip_fst : ∀ {l : List D} {vs : List V}, vs.length = l.length → (l.zip vs).map (·.1) = l
  | [], [], _ => rfl
  | d :: l, v :: vs, h => by rw [List.zip_cons_cons, List.map_cons, zip_fst (Nat.succ.inj h)]
  | [], _ :: _, h => by cases h
  | _ :: _, [], h => by cases h
end
section
variable {X : Cx} {pins : List (Addr × Obj)} {σ : L2.St} {H : Hp} {s : Shared} {A : AP}
theorem each_reads (I : Inv X pins σ H s) : ∀ {l : List D} {vs : List V} {its : List Value}, (∀ d ∈ l, toPy d = some (encD d)) → RepL X.K A H l vs → Vals vs its → PySem.W.EachIs (fun u (b : D × V) => ∃ as, Reads s.heap u (encD b.1) as) its (l.zip vs)
  | [], vs, its, _, h, r => by
    rw [show vs = [] from h] at r
    cases r
    exact .nil
  | d :: l, vs, its, ht, h, r => by
    obtain ⟨v, rest, rfl, h1, h2⟩ := h
    cases r with
    | cons r1 r2 => exact .cons (Dp.reads I _ _ _ (toPy_dp d _ v (ht d List.mem_cons_self) (.inl h1)) r1) (each_reads I (fun d hd => ht d (List.mem_cons_of_mem _ hd)) h2 r2)
theorem sort_run (hu : X.A.units + 65 < cLine) (I : Inv X pins σ H s) {a : Addr} {l : List D} {vs : List V} (hs : SqL X.K H a vs ∨ SqT X.K H a vs) (hl : RepL X.K A H l vs) (hC : SortC l) {Q : Value → Shared → Prop} {E : Value → Shared → Prop}
    (q : ∀ (us : List V) (p : Addr) (h' : Heap), RepL X.K A H (sortD l) us → H p = none → Inv X pins σ (upd H p (.lst us)) { s with heap := h' } → Q (.ref p) { s with heap := h' }) :
    wpAny (model X.prog X.w) X.A (call (.builtin "sorted") [.ref a]) Q E s := by
  obtain ⟨⟨ps, hp⟩, hal, hk, hd⟩ := hC
  have ht := toPyL_each hp
  have hlen := RepL.length hl
  have e1 : (l.zip vs).map (fun b : D × V => encD b.1) = l.map encD := by
    have : (l.zip vs).map (fun b : D × V => encD b.1) = ((l.zip vs).map (·.1)).map encD := by rw [List.map_map]; rfl
    rw [this, zip_fst hlen]
  have zl : (l.zip vs).length = vs.length := by rw [List.length_zip]; omega
  have srt : ((l.zip vs).mergeSort (PySem.W.dataLe false fun b : D × V => encD b.1)).map (·.1) = sortD l := by
    unfold sortD
    have e := List.map_mergeSort (r := PySem.W.dataLe false fun b : D × V => encD b.1) (s := PySem.W.dataLe false encD) (f := fun b : D × V => b.1) (l := l.zip vs) fun x _ y _ => rfl
    rw [zip_fst hlen] at e
    exact e
  have fin : ∀ (its : List Value), Vals vs its → vs.length ≤ sizeLine → ∀ out : List Value, out.length = (l.zip vs).length → PySem.W.EachIs (fun u (b : D × V) => RelV b.2 u) out ((l.zip vs).mergeSort (PySem.W.dataLe false fun b : D × V => encD b.1)) →
      Q (.ref (s.heap.objs.size + 1)) { s with heap := PyProof.Rows.sortedAll s.heap its (List.toArray out) } := by
    intro its rv hz out ho eo
    obtain ⟨ep, he⟩ := PyProof.Rows.sortedAll_at s.heap its out.toArray
    have rr := repL_pairs (K := X.K) (A := A) (H := H) (S := (l.zip vs).mergeSort (PySem.W.dataLe false fun b : D × V => encD b.1)) fun b hb => rep_zip hl b (List.mem_mergeSort.mp hb)
    rw [srt] at rr
    have hv := vals_of_each eo
    refine q _ _ _ rr (I.hok.fresh (Nat.le_succ _)) (I.laid (t' := s.toks) (fun _ _ => PyProof.Rows.sortedAll_old) (Nat.le_succ _) ⟨?_, out, ep, hv, he⟩)
    rw [List.length_map, List.length_mergeSort, zl]
    exact hz
  have hub : ∀ b, b ∈ l.zip vs → X.A.units + 2 + (encD b.1).depth < cLine := fun b hb => by
    have := hd b.1 (List.of_mem_zip hb).1
    omega
  rcases hs with hs | hs
  · obtain ⟨its, rv, hL, hz⟩ := I.list hs
    exact PySem.W.sorted_ldata (enc := fun b : D × V => encD b.1) hL.isList (each_zip hlen rv) (each_reads I ht hl rv) (by rw [e1]; exact hal) (by rw [e1]; exact hk) (by rw [zl]; exact hz) hub (fin its rv hz)
  · obtain ⟨its, rv, hL, hz⟩ := I.tuple hs
    exact PySem.W.sorted_tdata (enc := fun b : D × V => encD b.1) hL (each_zip hlen rv) (each_reads I ht hl rv) (by rw [e1]; exact hal) (by rw [e1]; exact hk) (by rw [zl]; exact hz) hub (fin its rv hz)
end
end DL

/-! DW: more operations by values -/
namespace DL
open PySem PySem.Spec PyProof.Rows L2 Evl

section
variable {X : Cx}
theorem op_innD (hu : X.A.units + 65 < cLine) (neg : Bool) : OpR X (compareOp (if neg then .NotIn else .In)) (r2D X.K (innD neg)) := by
  intro pins s σ H x y v u Q I rx ry h
  obtain ⟨A, dx, dy, Qd, hA, hx, hy, hb, hq⟩ := h
  unfold innD at hb
  split at hb
  · obtain ⟨c, rfl, q⟩ := hb
    obtain rfl := rb_str hx
    obtain rfl := rb_str hy
    cases neg with
    | true => exact op_notIn_sign pins s σ H _ _ v u Q I rx ry ⟨c, _, rfl, rfl, hq _ q _ _ (Ex.refl _) rfl⟩
    | false => exact op_in_sign pins s σ H _ _ v u Q I rx ry ⟨c, _, rfl, rfl, hq _ q _ _ (Ex.refl _) rfl⟩
  · obtain ⟨p, ps, h1, h2, s1, s2, q⟩ := hb
    have d1 := toPy_dp _ _ _ h1 hx
    have d2 : Dp X.K H y (.list ps) := toPy_dp _ _ _ (by show (toPy.toPyL _).map PyData.list = _; rw [h2]; rfl) hy
    cases neg with
    | true => exact op_notInD hu pins s σ H _ _ v u Q I rx ry ⟨p, ps, d1, d2, s1, s2, hq _ q _ _ (Ex.refl _) rfl⟩
    | false => exact op_inD hu pins s σ H _ _ v u Q I rx ry ⟨p, ps, d1, d2, s1, s2, hq _ q _ _ (Ex.refl _) rfl⟩
  · obtain ⟨p, ps, h1, h2, s1, s2, q⟩ := hb
    have d1 := toPy_dp _ _ _ h1 hx
    have d2 : Dp X.K H y (.tuple ps) := toPy_dp _ _ _ (by show (toPy.toPyL _).map PyData.tuple = _; rw [h2]; rfl) hy
    obtain ⟨as, r1⟩ := Dp.reads I p x v d1 rx
    obtain ⟨bs, r2⟩ := Dp.reads I _ y u d2 ry
    cases neg with
    | true => exact SeqAt.notIn_tuple_reads r2 r1 (SeqAt.canLay_of_shaped s2) (SeqAt.canLay_of_shaped s1) (room_in_shaped s1 hu) ⟨.bl _, H, I, rfl, hq _ q _ _ (Ex.refl _) rfl⟩
    | false => exact SeqAt.in_tuple_reads r2 r1 (SeqAt.canLay_of_shaped s2) (SeqAt.canLay_of_shaped s1) (room_in_shaped s1 hu) ⟨.bl _, H, I, rfl, hq _ q _ _ (Ex.refl _) rfl⟩
  · obtain ⟨p, ps, h1, h2, s1, s2, q⟩ := hb
    have d1 := toPy_dp _ _ _ h1 hx
    have d2 : Dp X.K H y (.tuple ps) := toPy_dp _ _ _ (by show (toPy.toPyL _).map PyData.tuple = _; rw [h2]; rfl) hy
    obtain ⟨as, r1⟩ := Dp.reads I p x v d1 rx
    obtain ⟨bs, r2⟩ := Dp.reads I _ y u d2 ry
    cases neg with
    | true => exact SeqAt.notIn_tuple_reads r2 r1 (SeqAt.canLay_of_shaped s2) (SeqAt.canLay_of_shaped s1) (room_in_shaped s1 hu) ⟨.bl _, H, I, rfl, hq _ q _ _ (Ex.refl _) rfl⟩
    | false => exact SeqAt.in_tuple_reads r2 r1 (SeqAt.canLay_of_shaped s2) (SeqAt.canLay_of_shaped s1) (room_in_shaped s1 hu) ⟨.bl _, H, I, rfl, hq _ q _ _ (Ex.refl _) rfl⟩
  · exact hb.elim

theorem atI_rep {K : PySem.W.Frag} {A : AP} {H : Hp} {l : List D} {vs : List V} (r : RepL K A H l vs) {i : Int} {d : D} (h : atI l i = some d) : ∃ v, atI vs i = some v ∧ Rep K A H d v := by
  unfold atI at h ⊢
  rw [RepL.length r]
  cases e : ixN l.length i with
  | none =>
    rw [e] at h
    cases h
  | some j =>
    rw [e] at h
    exact RepL.get r h
theorem ix_subD : IxR X (r2D X.K subD) := by
  intro value slice pins s σ H x y v u Q I rx ry h hs
  obtain ⟨A, dx, dy, Qd, hA, hx, hy, hb, hq⟩ := h
  unfold subD at hb
  split at hb
  · obtain ⟨d, h1, q⟩ := hb
    obtain ⟨a, vs, rfl, ha, hl⟩ := rb_lst hx
    obtain rfl := rb_int hy
    obtain ⟨z, h2, rz⟩ := atI_rep hl h1
    exact ix_list value slice pins s σ H _ _ v u Q I rx ry ⟨a, vs, _, z, rfl, rfl, .inl (.inl ha), h2, hq _ q _ _ (Ex.refl _) rz⟩ hs
  · obtain ⟨d, h1, q⟩ := hb
    obtain ⟨a, vs, rfl, ha, hl⟩ := rb_tup hx
    obtain rfl := rb_int hy
    obtain ⟨z, h2, rz⟩ := atI_rep hl h1
    exact ix_tup value slice pins s σ H _ _ v u Q I rx ry ⟨a, vs, _, z, rfl, rfl, ha, h2, hq _ q _ _ (Ex.refl _) rz⟩ hs
  · obtain ⟨d, h1, q⟩ := hb
    obtain ⟨a, vs, rfl, ha, hl⟩ := rb_kt hx
    obtain rfl := rb_int hy
    obtain ⟨z, h2, rz⟩ := atI_rep hl h1
    exact ix_tup value slice pins s σ H _ _ v u Q I rx ry ⟨a, vs, _, z, rfl, rfl, ha, h2, hq _ q _ _ (Ex.refl _) rz⟩ hs
  · obtain ⟨c, hz, h1, q⟩ := hb
    obtain rfl := rb_str hx
    obtain rfl := rb_int hy
    exact ix_str value slice pins s σ H _ _ v u Q I rx ry ⟨_, _, c, rfl, rfl, hz, h1, hq _ q _ _ (Ex.refl _) rfl⟩ hs
  · exact hb.elim
theorem cut_rep {K : PySem.W.Frag} {A : AP} {H : Hp} {l : List D} {vs : List V} (r : RepL K A H l vs) (lo hi : Option Int) : RepL K A H (cutL l lo hi) (cutV vs lo hi) := by
  unfold cutL cutV
  rw [RepL.length r]
  exact RepL.take _ (RepL.drop _ r)
theorem cut_whole {α : Type} (l : List α) (lo hi : Option Int) (h : HT.sIx l.length 0 lo = 0 ∧ HT.sIx l.length l.length hi = l.length) : cutL l lo hi = l := by
  unfold cutL
  rw [h.1, h.2]
  simp
theorem cut_map (f : Int → V) (l : List Int) (lo hi : Option Int) : cutV (l.map f) lo hi = (cutL l lo hi).map f := by
  unfold cutL cutV
  simp [List.map_take, List.map_drop]
def rSlD (K : PySem.W.Frag) : V → Option Int → Option Int → Hp → VK → Prop := fun x lo hi H Q => ∃ A d Qd, AOk A H ∧ RepB K A H d x ∧ sliceD d lo hi Qd ∧ Fin K A H Qd Q
theorem sl_D : SlR X (rSlD X.K) := by
  intro pins s σ H x v vl vu lo hi sl Q I rx hs pl pu h
  obtain ⟨A, d, Qd, hA, hx, hb, hq⟩ := h
  unfold sliceD at hb
  split at hb
  · obtain ⟨a, vs, rfl, ha, hl⟩ := rb_lst hx
    exact sl_list pins s σ H _ v vl vu lo hi sl Q I rx hs pl pu ⟨a, vs, rfl, .inl (.inl ha), fun p hp => hq _ hb _ _ (Ex.new hp) (rep_lst (hA.fresh hp) (cut_rep hl lo hi) hp)⟩
  · obtain ⟨a, vs, rfl, ha0, hl⟩ := rb_tup0 hx
    have ha : SqT X.K H a vs := .inl (.inl ha0)
    refine sl_tupA pins s σ H _ v vl vu lo hi sl Q I rx hs pl pu ⟨a, vs, rfl, ha, fun hw => ?_, fun _ p hp => hq _ hb _ _ (Ex.new hp) (rep_tup (cut_rep hl lo hi) hp)⟩
    rw [RepL.length hl] at hw
    rw [cut_whole _ lo hi hw] at hb
    exact hq _ hb _ _ (Ex.refl _) ⟨a, vs, rfl, ha0, hl⟩
  · obtain rfl := rb_str hx
    exact sl_str pins s σ H _ v vl vu lo hi sl Q I rx hs pl pu ⟨_, rfl, hb.1, hq _ hb.2 _ _ (Ex.refl _) rfl⟩
  · obtain ⟨a, rfl, ha⟩ := rb_scr hx
    refine sl_list pins s σ H _ v vl vu lo hi sl Q I rx hs pl pu ⟨a, _, rfl, ha, fun p hp => ?_⟩
    rw [cut_map]
    exact hq _ hb _ _ (Ex.new hp) (rep_lst (hA.fresh hp) (repL_map (f := D.int) (g := V.int) (fun _ => rfl) _) hp)
  · exact hb.elim

/-! built-in functions -/
def bfVal : BF → Value
  | .int => .type "int" | .str => .type "str" | .list => .type "list" | .tuple => .type "tuple"
  | f => .builtin (match f with
    | .len => "len" | .all => "all" | .any => "any" | .sum => "sum" | .max => "max" | .min => "min" | .max2 => "max" | .min2 => "min" | .abs => "abs" | .repr => "repr" | .sorted => "sorted" | _ => "")
def rBf (K : PySem.W.Frag) (f : BF) : List V → Hp → VK → Prop := fun xs H Q => ∃ A ds Qd, AOk A H ∧ RepBL K A H ds xs ∧ bfD f ds Qd ∧ Fin K A H Qd Q
theorem rbl_one {K : PySem.W.Frag} {A : AP} {H : Hp} {d : D} {vs : List V} (h : RepBL K A H [d] vs) : ∃ v, vs = [v] ∧ RepB K A H d v := by
  obtain ⟨v, r, rfl, h1, h2⟩ := h
  rw [show r = [] from h2]
  exact ⟨v, rfl, h1⟩
theorem rbl_two {K : PySem.W.Frag} {A : AP} {H : Hp} {d e : D} {vs : List V} (h : RepBL K A H [d, e] vs) : ∃ v u, vs = [v, u] ∧ RepB K A H d v ∧ RepB K A H e u := by
  obtain ⟨v, r, rfl, h1, h2⟩ := h
  obtain ⟨u, rfl, h3⟩ := rbl_one h2
  exact ⟨v, u, rfl, h1, h3⟩
theorem repK_len {K : PySem.W.Frag} {A : AP} {H : Hp} : ∀ {l : List (Key × D)} {vs : List (Key × V)}, RepK K A H l vs → vs.length = l.length ∧ vs.map (·.1) = l.map (·.1)
  | [], _, h => by rw [show _ = [] from h]; exact ⟨rfl, rfl⟩
  | (k, d) :: l, _, h => by
    obtain ⟨v, r, rfl, _, h2⟩ := h
    obtain ⟨e1, e2⟩ := repK_len h2
    exact ⟨by rw [List.length_cons, List.length_cons, e1], by rw [List.map_cons, List.map_cons, e2]⟩
theorem repT_len {K : PySem.W.Frag} {A : AP} {H : Hp} : ∀ {l : List (List Key × D)} {vs : List (List Key × V)}, RepT K A H l vs → vs.length = l.length ∧ vs.map (·.1) = l.map (·.1)
  | [], _, h => by rw [show _ = [] from h]; exact ⟨rfl, rfl⟩
  | (k, d) :: l, _, h => by
    obtain ⟨v, r, rfl, _, h2⟩ := h
    obtain ⟨e1, e2⟩ := repT_len h2
    exact ⟨by rw [List.length_cons, List.length_cons, e1], by rw [List.map_cons, List.map_cons, e2]⟩
theorem rep_key {K : PySem.W.Frag} {A : AP} {H : Hp} : ∀ k : Key, Rep K A H (dK k) (kV k)
  | .inl _ => rfl
  | .inr _ => rfl
theorem Rd.cases {H : Hp} {a : Addr} {u : HO} (h : Rd H a u) : (H a = some u) ∨ ∃ o, H a = some (.frz o u) := h
theorem bfRule (hc : X.calm = true) (hu : X.A.units + 65 < cLine) (hgu : X.A.guards = some []) (f : BF) : CallR X (bfVal f) (rBf X.K f) := by
  intro pins s σ H xs us Q I r h
  obtain ⟨A, ds, Qd, hA, hx, hb, hq⟩ := h
  unfold bfD at hb
  split at hb
  · obtain ⟨v, rfl, h1⟩ := rbl_one hx
    obtain ⟨a, vs, rfl, ha, hl⟩ := rb_lst h1
    rw [← RepL.length hl] at hb
    exact call_len_seq pins s σ H _ us Q I r ⟨a, vs, rfl, .inl (.inl (.inl ha)), hq _ hb _ _ (Ex.refl _) rfl⟩
  · obtain ⟨v, rfl, h1⟩ := rbl_one hx
    obtain ⟨a, vs, rfl, ha, hl⟩ := rb_tup h1
    rw [← RepL.length hl] at hb
    exact call_len_seq pins s σ H _ us Q I r ⟨a, vs, rfl, .inr ha, hq _ hb _ _ (Ex.refl _) rfl⟩
  · obtain ⟨v, rfl, h1⟩ := rbl_one hx
    obtain ⟨a, vs, rfl, ha, hl⟩ := rb_kt h1
    rw [← RepL.length hl] at hb
    exact call_len_seq pins s σ H _ us Q I r ⟨a, vs, rfl, .inr ha, hq _ hb _ _ (Ex.refl _) rfl⟩
  · obtain ⟨v, rfl, h1⟩ := rbl_one hx
    obtain rfl := rb_str h1
    exact call_len_str pins s σ H _ us Q I r ⟨_, rfl, hb.1, hq _ hb.2 _ _ (Ex.refl _) rfl⟩
  · obtain ⟨v, rfl, h1⟩ := rbl_one hx
    obtain ⟨a, vs, rfl, ha, hl⟩ := rb_dic h1
    rw [← (repK_len hl).1] at hb
    obtain ⟨u, rfl, ru⟩ := vals1 r
    cases ru
    exact d_len I ha fun t s' I' => ⟨.int vs.length, H, I', ⟨t, rfl⟩, hq _ hb _ _ (Ex.refl _) rfl⟩
  · obtain ⟨v, rfl, h1⟩ := rbl_one hx
    obtain ⟨bs, rfl, q⟩ := hb
    obtain ⟨a, vs, rfl, ha, hl⟩ := rb_lst h1
    obtain rfl := repL_of_map (f := D.bl) (g := V.bl) (fun _ _ z => z) hl
    exact cr_all hc pins s σ H _ us Q I r ⟨a, bs, rfl, .inl (.inl ha), hq _ q _ _ (Ex.refl _) rfl⟩
  · obtain ⟨v, rfl, h1⟩ := rbl_one hx
    obtain ⟨bs, rfl, q⟩ := hb
    obtain ⟨a, vs, rfl, ha, hl⟩ := rb_lst h1
    obtain rfl := repL_of_map (f := D.bl) (g := V.bl) (fun _ _ z => z) hl
    exact cr_any hc pins s σ H _ us Q I r ⟨a, bs, rfl, .inl (.inl ha), hq _ q _ _ (Ex.refl _) rfl⟩
  · obtain ⟨v, rfl, h1⟩ := rbl_one hx
    obtain ⟨bs, rfl, q⟩ := hb
    obtain ⟨a, vs, rfl, ha, hl⟩ := rb_lst h1
    obtain rfl := repL_of_map (f := D.int) (g := V.int) (fun _ _ z => z) hl
    exact cr_sum hc pins s σ H _ us Q I r ⟨a, bs, rfl, .inl (.inl ha), hq _ q _ _ (Ex.refl _) rfl⟩
  · obtain ⟨v, rfl, h1⟩ := rbl_one hx
    obtain ⟨bs, rfl, hn, q⟩ := hb
    obtain ⟨a, vs, rfl, ha, hl⟩ := rb_lst h1
    obtain rfl := repL_of_map (f := D.int) (g := V.int) (fun _ _ z => z) hl
    exact cr_max hc pins s σ H _ us Q I r ⟨a, bs, rfl, .inl (.inl ha), hn, fun m h1 h2 => hq _ (q m h1 h2) _ _ (Ex.refl _) rfl⟩
  · obtain ⟨v, rfl, h1⟩ := rbl_one hx
    obtain ⟨bs, rfl, hn, q⟩ := hb
    obtain ⟨a, vs, rfl, ha, hl⟩ := rb_lst h1
    obtain rfl := repL_of_map (f := D.int) (g := V.int) (fun _ _ z => z) hl
    exact cr_min hc pins s σ H _ us Q I r ⟨a, bs, rfl, .inl (.inl ha), hn, fun m h1 h2 => hq _ (q m h1 h2) _ _ (Ex.refl _) rfl⟩
  · obtain ⟨v, u, rfl, h1, h2⟩ := rbl_two hx
    obtain rfl := rb_int h1
    obtain rfl := rb_int h2
    exact call_max2 hc pins s σ H _ us Q I r ⟨_, _, rfl, hq _ hb _ _ (Ex.refl _) rfl⟩
  · obtain ⟨v, u, rfl, h1, h2⟩ := rbl_two hx
    obtain rfl := rb_int h1
    obtain rfl := rb_int h2
    exact call_min2 hc pins s σ H _ us Q I r ⟨_, _, rfl, hq _ hb _ _ (Ex.refl _) rfl⟩
  · obtain ⟨v, rfl, h1⟩ := rbl_one hx
    obtain rfl := rb_int h1
    exact call_abs pins s σ H _ us Q I r ⟨_, rfl, hq _ hb _ _ (Ex.refl _) rfl⟩
  · obtain ⟨v, rfl, h1⟩ := rbl_one hx
    obtain rfl := rb_int h1
    exact call_int1 pins s σ H _ us Q I r (.inl ⟨_, rfl, hq _ hb _ _ (Ex.refl _) rfl⟩)
  · obtain ⟨v, rfl, h1⟩ := rbl_one hx
    obtain rfl := rb_bl h1
    exact call_int1 pins s σ H _ us Q I r (.inr ⟨_, rfl, hq _ hb _ _ (Ex.refl _) rfl⟩)
  · obtain ⟨v, rfl, h1⟩ := rbl_one hx
    obtain ⟨p, e, h2, h3, h4, h5, q⟩ := hb
    have d1 := toPy_dp _ (.tuple p) v (by show (toPy.toPyL _).map PyData.tuple = _; rw [e]; rfl) h1
    obtain ⟨a, ws, rfl, _⟩ := rb_tup h1
    obtain ⟨u, rfl, ru⟩ := vals1 r
    cases ru
    obtain ⟨bs, r1⟩ := Dp.reads I _ _ _ d1 rfl
    exact PySem.repr_of_reads' r1 h2 (fun z => by rw [h3] at z; cases z) hgu (by omega) (fun _ _ z => z) (fun h' t tk hk => ⟨.str _, H, I.kept (t' := tk) hk, ⟨t, rfl⟩, hq _ q _ _ (Ex.refl _) rfl⟩) h5
  · obtain ⟨v, rfl, h1⟩ := rbl_one hx
    obtain ⟨p, e, h2, h3, h4, h5, q⟩ := hb
    have d1 := toPy_dp _ (.list p) v (by show (toPy.toPyL _).map PyData.list = _; rw [e]; rfl) h1
    obtain ⟨a, ws, rfl, _⟩ := rb_lst h1
    obtain ⟨u, rfl, ru⟩ := vals1 r
    cases ru
    obtain ⟨bs, r1⟩ := Dp.reads I _ _ _ d1 rfl
    exact PySem.repr_of_reads' r1 h2 (fun z => by rw [h3] at z; cases z) hgu (by omega) (fun _ _ z => z) (fun h' t tk hk => ⟨.str _, H, I.kept (t' := tk) hk, ⟨t, rfl⟩, hq _ q _ _ (Ex.refl _) rfl⟩) h5
  · obtain ⟨v, rfl, h1⟩ := rbl_one hx
    obtain rfl := rb_int h1
    exact call_str_int pins s σ H _ us Q I r ⟨_, rfl, hb.1, hq _ hb.2 _ _ (Ex.refl _) rfl⟩
  · obtain ⟨v, rfl, h1⟩ := rbl_one hx
    obtain ⟨a, vs, rfl, ha, hl⟩ := rb_lst h1
    exact call_list_of pins s σ H _ us Q I r ⟨a, vs, rfl, .inl (.inl (.inl ha)), fun p hp => hq _ hb _ _ (Ex.new hp) (rep_lst (hA.fresh hp) hl hp)⟩
  · obtain ⟨v, rfl, h1⟩ := rbl_one hx
    obtain ⟨a, vs, rfl, ha, hl⟩ := rb_tup h1
    exact call_list_of pins s σ H _ us Q I r ⟨a, vs, rfl, .inr ha, fun p hp => hq _ hb _ _ (Ex.new hp) (rep_lst (hA.fresh hp) hl hp)⟩
  · obtain ⟨v, rfl, h1⟩ := rbl_one hx
    obtain ⟨a, vs, rfl, ha, hl⟩ := rb_kt h1
    exact call_list_of pins s σ H _ us Q I r ⟨a, vs, rfl, .inr ha, fun p hp => hq _ hb _ _ (Ex.new hp) (rep_lst (hA.fresh hp) hl hp)⟩
  · obtain ⟨v, rfl, h1⟩ := rbl_one hx
    obtain ⟨a, vs, rfl, ha, hl⟩ := rb_dic h1
    refine call_listD hc pins s σ H _ us Q I r ⟨a, vs, rfl, ha, fun p hp => hq _ hb _ _ (Ex.new hp) (rep_lst (hA.fresh hp) ?_ hp)⟩
    have e := (repK_len hl).2
    have e2 : vs.map (fun kv => kV kv.1) = (vs.map (·.1)).map kV := by rw [List.map_map]; rfl
    rw [e2, e, List.map_map]
    exact repL_map (f := fun kv : Key × D => dK kv.1) (g := kV ∘ fun kv => kv.1) (fun x => rep_key x.1) _
  · obtain ⟨v, rfl, h1⟩ := rbl_one hx
    obtain ⟨a, vs, rfl, ha, hl⟩ := rb_lst h1
    exact call_tuple_of pins s σ H _ us Q I r ⟨a, vs, rfl, .inl ⟨.inl (.inl ha), fun p hp => hq _ hb _ _ (Ex.new hp) (rep_tup hl hp)⟩⟩
  · obtain ⟨v, rfl, h1⟩ := rbl_one hx
    obtain ⟨a, vs, rfl, ha, hl⟩ := rb_tup0 h1
    exact call_tuple_of pins s σ H _ us Q I r ⟨a, vs, rfl, .inr ⟨.inl (.inl ha), hq _ hb _ _ (Ex.refl _) ⟨a, vs, rfl, ha, hl⟩⟩⟩
  · obtain ⟨v, rfl, h1⟩ := rbl_one hx
    obtain ⟨a, vs, rfl, ha, hl⟩ := rb_lst h1
    obtain ⟨u, rfl, ru⟩ := vals1 r
    cases ru
    exact sort_run hu I (.inl (.inl (.inl ha))) hl hb.1 fun us p h' rr hp I' => ⟨.ref p, _, I', rfl, hq _ hb.2 _ _ (Ex.new hp) (rep_lst (hA.fresh hp) rr hp)⟩
  · obtain ⟨v, rfl, h1⟩ := rbl_one hx
    obtain ⟨a, vs, rfl, ha, hl⟩ := rb_tup h1
    obtain ⟨u, rfl, ru⟩ := vals1 r
    cases ru
    exact sort_run hu I (.inr ha) hl hb.1 fun us p h' rr hp I' => ⟨.ref p, _, I', rfl, hq _ hb.2 _ _ (Ex.new hp) (rep_lst (hA.fresh hp) rr hp)⟩
  · exact hb.elim
end
end DL

/-! DX: one rule a piece: expressions -/
namespace DL
open PySem PySem.Spec PyProof.Rows L2 Evl

theorem _root_.L2.PE.imp {X : Cx} {e : Expr} {t t' : TE} (h : PE X e t) (k : ∀ σ H Q, t' σ H Q → t σ H Q) : PE X e t' := ⟨fun pins s σ H Q I q => h.run pins s σ H Q I (k _ _ _ q)⟩
theorem _root_.L2.PA.imp {X : Cx} {e : List Expr} {t t' : TA} (h : PA X e t) (k : ∀ σ H Q, t' σ H Q → t σ H Q) : PA X e t' := ⟨fun pos pins s σ H Q I q => h.run pos pins s σ H Q I (k _ _ _ q)⟩
theorem _root_.L2.PT.imp {X : Cx} {e : Expr} {t t' : TT} (h : PT X e t) (k : ∀ σ H Q, t' σ H Q → t σ H Q) : PT X e t' := ⟨fun pins s σ H Q I q => h.run pins s σ H Q I (k _ _ _ q)⟩
theorem _root_.L2.PO.imp {X : Cx} {e : Option Expr} {t t' : TO} (h : PO X e t) (k : ∀ σ H Q, t' σ H Q → t σ H Q) : PO X e t' := ⟨fun pins s σ H Q I q => h.run pins s σ H Q I (k _ _ _ q)⟩
abbrev owf (ow : List Nat) : Nat → Bool := fun i => ow.contains i
theorem vis_of {sc : Scope} {x : Str} (h : visB sc x = true) : Vis sc x := by
  unfold visB at h
  split at h
  · exact .inl (by assumption)
  · exact .inr (.inl (by assumption))
  · exact .inr (.inr (by assumption))
  · cases h
theorem loc_of {sc : Scope} {x : Str} (h : locB sc x = true) : Loc sc x := by
  unfold locB at h
  split at h
  · exact .inl (by assumption)
  · exact .inr (by assumption)
  · cases h
theorem nm_of {x : Str} (h : okNm x = true) : (x == ("__debug__" : Str)) = false ∧ (x == ("__classdict__" : Str)) = false := by
  unfold okNm at h
  rw [Bool.and_eq_true, Bool.not_eq_true', Bool.not_eq_true'] at h
  exact h
theorem gl_of {X : Cx} {sc : Scope} {x : Str} (hs : X.env.scope = sc) (h : glB sc x = true) : Gl X x ∧ x ≠ "__debug__" ∧ x ≠ "__name__" := by
  unfold glB at h
  simp only [Bool.and_eq_true, decide_eq_true_eq] at h
  exact ⟨by show X.env.scope.names.lookup x = _; rw [hs]; exact h.1, h.2.1, h.2.2⟩

section
variable {T : Tb} {L : Nat} {W : WX} {X : Cx} {ow : List Nat}
theorem Res.of {K : PySem.W.Frag} {e : E} {A : AP} {H H' : Hp} {d : D} {v : V} (h : Rep K A H' d v) (hn : newB e = false) : Res K e A H H' d v := ⟨.inl h, fun _ => h, fun z => by rw [hn] at z; cases z⟩
theorem c_var {i : Nat} {x : Str} {pos : Pos} (hN : X.N[i]? = some x) (hv : Vis X.env.scope x) (hnm : okNm x = true) (ho : owf ow i = false) : PE X (.Name x pos) (rdE T X.K (owf ow) W (.var i)) := by
  refine (pe_var hN hv (nm_of hnm).1 (nm_of hnm).2).imp fun σ H Q h => ?_
  obtain ⟨B, O, ρ, xk, Qd, f, ⟨d, hd, hq⟩, hf⟩ := h
  obtain ⟨v, h1, h2⟩ := f.fr.fz i d ho hd
  exact ⟨v, h1, hf d hq v H (Ex.refl H) (Res.of h2 rfl)⟩
theorem c_own {i : Nat} {x : Str} {pos : Pos} (hN : X.N[i]? = some x) (hv : Vis X.env.scope x) (hnm : okNm x = true) (ho : owf ow i = true) : PE X (.Name x pos) (rdE T X.K (owf ow) W (.own i)) := by
  refine (pe_var hN hv (nm_of hnm).1 (nm_of hnm).2).imp fun σ H Q h => ?_
  obtain ⟨B, O, ρ, xk, Qd, f, ⟨d, hd, hq⟩, hf⟩ := h
  obtain ⟨a, h1, h2, h3⟩ := f.fr.ow i d ho hd
  exact ⟨_, h1, hf d hq _ H (Ex.refl H) ⟨.inr ⟨a, rfl, h3⟩, ⟨fun z => absurd (show (true : Bool) = false from z) (by decide), fun z => absurd (show (false : Bool) = true from z) (by decide)⟩⟩⟩
theorem c_con {d : D} {c : Const} {k : Nat} {pos : Pos} (h : conB d c = true) : PE X (.Constant c k pos) (rdE T X.K (owf ow) W (.con d)) := by
  unfold conB at h
  split at h
  · refine pe_non.imp fun σ H Q h => ?_
    obtain ⟨B, O, ρ, xk, Qd, f, hq, hf⟩ := h
    exact hf _ hq _ H (Ex.refl H) (Res.of rfl rfl)
  · rw [beq_iff_eq.mp h]
    refine pe_bl.imp fun σ H Q h => ?_
    obtain ⟨B, O, ρ, xk, Qd, f, hq, hf⟩ := h
    exact hf _ hq _ H (Ex.refl H) (Res.of rfl rfl)
  · rw [of_decide_eq_true h]
    refine pe_int.imp fun σ H Q h => ?_
    obtain ⟨B, O, ρ, xk, Qd, f, hq, hf⟩ := h
    exact hf _ hq _ H (Ex.refl H) (Res.of rfl rfl)
  · rw [of_decide_eq_true h]
    refine pe_str.imp fun σ H Q h => ?_
    obtain ⟨B, O, ρ, xk, Qd, f, hq, hf⟩ := h
    exact hf _ hq _ H (Ex.refl H) (Res.of rfl rfl)
  · cases h
theorem c_glob (G : Good T L W X) {x : Str} {pos : Pos} (hg : Gl X x) (hd : x ≠ "__debug__") : PE X (.Name x pos) (rdE T X.K (owf ow) W (.glob x)) := by
  refine ⟨fun pins s σ H Q I h => ?_⟩
  obtain ⟨B, O, ρ, xk, Qd, f, ⟨d, hd', hq⟩, hf⟩ := h
  obtain ⟨u, v, hm, r, rep⟩ := G.tab.glob x d hd'
  exact ld_glob I hg hm ⟨v, H, I, r, hf d hq v H (Ex.refl H) (Res.of (rep _ _) rfl)⟩ (beq_eq_false_iff_ne.mpr hd)
/-- two operands, then an operation on values -/
theorem two {K : PySem.W.Frag} {own : Nat → Bool} {a b : E} {g : D → D → DK → Prop} {B O : AP} {ρ : DE} {xk : EK} {Qd : DK} {σ : L2.St} {H : Hp} {Q : VK} (f : FX K own W xk B O (dcE T a + dcE T b) H σ ρ) (hw : wpE T xk a ρ fun x => wpE T xk b ρ fun y => g x y Qd)
    (hf : ∀ d, Qd d → ∀ v H', Ex (dcE T a + dcE T b) H H' → Rep K (U B O) H' d v → Q v H') : rdE T K own W a σ H fun x H1 => rdE T K own W b σ H1 fun y H2 => r2D K g x y H2 Q :=
  ⟨B, O, ρ, xk, _, f.l, hw, fun dx hx v H1 e1 r1 => ⟨B, O, ρ, xk, _, f.ex e1, hx, fun dy hy u H2 e2 r2 => ⟨U B O, dx, dy, Qd, ((f.fr.ex e1).ex e2).mt, r1.1.ex e2, r2.1, hy, fun d hd v' H' e3 r3 => hf d hd v' H' ((e1.trans e2).trans e3) r3⟩⟩⟩
theorem c_op {e a b : E} {g : D → D → DK → Prop} {fo : Value → Value → Sem Value} {ta : TE} (hn : newB e = false) (hd : dcE T e = dcE T a + dcE T b) (hw : ∀ xk ρ Qd, wpE T xk e ρ Qd → wpE T xk a ρ fun x => wpE T xk b ρ fun y => g x y Qd) {σ : L2.St} {H : Hp} {Q : VK}
    (h : rdE T X.K (owf ow) W e σ H Q) : tOp (r2D X.K g) (rdE T X.K (owf ow) W a) (rdE T X.K (owf ow) W b) σ H Q := by
  obtain ⟨B, O, ρ, xk, Qd, f, hq, hf⟩ := h
  rw [hd] at f hf
  exact two f (hw _ _ _ hq) (fun d hd v H' e r => hf d hd v H' e (Res.of r hn))
theorem c_bin {a b : E} {x y : Expr} {op : Operator} {pos : Pos} (ha : PE X x (rdE T X.K (owf ow) W a)) (hb : PE X y (rdE T X.K (owf ow) W b)) : PE X (.BinOp x op y pos) (rdE T X.K (owf ow) W (.bin op a b)) :=
  (pe_op (op_binD op) ha hb).imp fun σ H Q h => c_op (fo := binaryOp op) (ta := fun _ _ _ => True) rfl rfl (fun _ _ _ z => z) h
theorem c_cmp (G : Good T L W X) {a b : E} {x y : Expr} {op : CmpOp} {pos : Pos} (h1 : op ≠ .In) (h2 : op ≠ .NotIn) (ha : PE X x (rdE T X.K (owf ow) W a)) (hb : PE X y (rdE T X.K (owf ow) W b)) : PE X (.Compare x [op] [y] pos) (rdE T X.K (owf ow) W (.cmp op a b)) :=
  (pe_cmpR (op_cmpD G.room.units op) ha hb (nobehind _ h1 h2)).imp fun σ H Q h => c_op (fo := compareOp op) (ta := fun _ _ _ => True) rfl rfl (fun _ _ _ z => z) h
theorem units65 (G : Good T L W X) : X.A.units + 65 < cLine := by
  have := G.room.un
  omega
theorem c_inn (G : Good T L W X) {neg : Bool} {a b : E} {x y : Expr} {pos : Pos} (hm : behindInMarks (if neg then .NotIn else .In) y = false) (ha : PE X x (rdE T X.K (owf ow) W a)) (hb : PE X y (rdE T X.K (owf ow) W b)) :
    PE X (.Compare x [if neg then .NotIn else .In] [y] pos) (rdE T X.K (owf ow) W (.inn neg a b)) :=
  (pe_cmpR (op_innD (units65 G) neg) ha hb hm).imp fun σ H Q h => c_op (fo := compareOp .In) (ta := fun _ _ _ => True) rfl rfl (fun _ _ _ z => z) h
theorem plain_of {y : Expr} (h : noSlice y = true) : PlainIx y := by
  cases y with
  | Slice a b c p => cases h
  | _ => exact fun _ _ => rfl
theorem c_sub {a i : E} {x y : Expr} {pos : Pos} (hs : noSlice y = true) (ha : PE X x (rdE T X.K (owf ow) W a)) (hb : PE X y (rdE T X.K (owf ow) W i)) : PE X (.Subscript x y pos) (rdE T X.K (owf ow) W (.sub a i)) :=
  (pe_ix ix_subD ha hb (plain_of hs)).imp fun σ H Q h => c_op (fo := getItem) (ta := fun _ _ _ => True) rfl rfl (fun _ _ _ z => z) h
theorem c_neg {a : E} {x : Expr} {pos : Pos} (ha : PE X x (rdE T X.K (owf ow) W a)) : PE X (.UnaryOp .USub x pos) (rdE T X.K (owf ow) W (.neg a)) := by
  refine (pe_un un_neg ha).imp fun σ H Q h => ?_
  obtain ⟨B, O, ρ, xk, Qd, f, hq, hf⟩ := h
  refine ⟨B, O, ρ, xk, _, f, hq, fun d hd v H' e r => ?_⟩
  obtain ⟨i, rfl, q⟩ := hd
  exact ⟨i, rb_int r.1, hf _ q _ _ e (Res.of rfl rfl)⟩
theorem c_notV {a : E} {x : Expr} {pos : Pos} (ha : PE X x (rdE T X.K (owf ow) W a)) : PE X (.UnaryOp .Not x pos) (rdE T X.K (owf ow) W (.not a)) := by
  refine (pe_not ha).imp fun σ H Q h => ?_
  obtain ⟨B, O, ρ, xk, Qd, f, hq, hf⟩ := h
  refine ⟨B, O, ρ, xk, _, f, hq, fun d hd v H' e r => ?_⟩
  obtain ⟨i, rfl, q⟩ := hd
  exact ⟨i, rb_bl r.1, hf _ q _ _ e (Res.of rfl rfl)⟩
/-- from a value to a test -/
theorem t_of {e : E} {σ : L2.St} {H : Hp} {Q : Bool → Hp → Prop} (h : rdT T X.K (owf ow) W e σ H Q) : rdE T X.K (owf ow) W e σ H fun x H' => ∃ c, x = .bl c ∧ Q c H' := by
  obtain ⟨B, O, ρ, xk, Qd, f, hq, hf⟩ := h
  refine ⟨B, O, ρ, xk, Qd, f, hq, fun d hd v H' e r => ?_⟩
  obtain ⟨b, rfl, q⟩ := hf d hd
  exact ⟨b, rb_bl r.1, q H' e⟩
theorem c_notT {a : E} {x : Expr} {pos : Pos} (ha : PT X x (rdT T X.K (owf ow) W a)) : PT X (.UnaryOp .Not x pos) (rdT T X.K (owf ow) W (.not a)) := by
  refine (pt_not ha).imp fun σ H Q h => ?_
  obtain ⟨B, O, ρ, xk, Qd, f, hq, hf⟩ := h
  refine ⟨B, O, ρ, xk, _, f, hq, fun d hd => ?_⟩
  obtain ⟨c, rfl, q⟩ := hd
  obtain ⟨b, e, k⟩ := hf _ q
  cases e
  exact ⟨c, rfl, k⟩
theorem c_cmpT (G : Good T L W X) {a b : E} {x y : Expr} {op : CmpOp} {pos : Pos} (h1 : op ≠ .In) (h2 : op ≠ .NotIn) (ha : PE X x (rdE T X.K (owf ow) W a)) (hb : PE X y (rdE T X.K (owf ow) W b)) : PT X (.Compare x [op] [y] pos) (rdT T X.K (owf ow) W (.cmp op a b)) :=
  (pt_cmpR (op_cmpD G.room.units op) ha hb (nobehind _ h1 h2)).imp fun σ H Q h => c_op (fo := compareOp op) (ta := fun _ _ _ => True) rfl rfl (fun _ _ _ z => z) (t_of h)
theorem c_innT (G : Good T L W X) {neg : Bool} {a b : E} {x y : Expr} {pos : Pos} (hm : behindInMarks (if neg then .NotIn else .In) y = false) (ha : PE X x (rdE T X.K (owf ow) W a)) (hb : PE X y (rdE T X.K (owf ow) W b)) :
    PT X (.Compare x [if neg then .NotIn else .In] [y] pos) (rdT T X.K (owf ow) W (.inn neg a b)) :=
  (pt_cmpR (op_innD (units65 G) neg) ha hb hm).imp fun σ H Q h => c_op (fo := compareOp .In) (ta := fun _ _ _ => True) rfl rfl (fun _ _ _ z => z) (t_of h)
theorem c_chain0 (G : Good T L W X) {a b c : E} {o1 o2 : CmpOp} {σ : L2.St} {H : Hp} {Q : VK} (h : rdE T X.K (owf ow) W (.chain o1 o2 a b c) σ H Q) :
    tChain (r2D X.K (cmpD o1)) (r2D X.K (cmpD o2)) (rdE T X.K (owf ow) W a) (rdE T X.K (owf ow) W b) (rdE T X.K (owf ow) W c) σ H Q := by
  obtain ⟨B, O, ρ, xk, Qd, f, hq, hf⟩ := h
  refine ⟨B, O, ρ, xk, _, f.l, hq, fun dx hx v H1 e1 r1 => ⟨B, O, ρ, xk, _, (f.ex e1).l, hx, fun dy hy u H2 e2 r2 => ⟨U B O, dx, dy, _, ((f.fr.ex e1).ex e2).mt, r1.1.ex e2, r2.1, hy, fun d hd v' H3 e3 r3 => ?_⟩⟩⟩
  obtain ⟨k, rfl, q⟩ := hd
  refine ⟨k, r3, ?_⟩
  have e123 := (e1.trans e2).trans e3
  have hcost : dcE T (.chain o1 o2 a b c) = dcE T a + (dcE T b + dcE T c) := rfl
  cases k with
  | false => exact hf _ q _ H3 (e123.le (by rw [hcost]; omega)) (Res.of rfl rfl)
  | true => exact ⟨B, O, ρ, xk, _, ((f.ex e1).ex e2).ex0 e3, q, fun dz hz t H4 e4 r4 => ⟨U B O, dy, dz, Qd, (f.fr.ex (e123.trans e4)).mt, r2.1.ex (e3.trans e4), r4.1, hz, fun d hd v'' H5 e5 r5 => hf d hd v'' H5 (((e123.trans e4).trans e5).le (by rw [hcost]; omega)) (Res.of r5 rfl)⟩⟩
theorem last2 {o1 o2 : CmpOp} {y z : Expr} (h1 : o2 ≠ .In) (h2 : o2 ≠ .NotIn) : lastMarks [o1, o2] [y, z] = false := by
  show behindInMarks o2 z = false
  exact nobehind _ h1 h2
theorem c_chain (G : Good T L W X) {a b c : E} {x y z : Expr} {o1 o2 : CmpOp} {pos : Pos} (h1 : o2 ≠ .In) (h2 : o2 ≠ .NotIn) (ha : PE X x (rdE T X.K (owf ow) W a)) (hb : PE X y (rdE T X.K (owf ow) W b)) (hc : PE X z (rdE T X.K (owf ow) W c)) :
    PE X (.Compare x [o1, o2] [y, z] pos) (rdE T X.K (owf ow) W (.chain o1 o2 a b c)) :=
  (pe_chain (op_cmpD G.room.units o1) (op_cmpD G.room.units o2) ha hb hc (last2 h1 h2)).imp fun σ H Q h => c_chain0 G h
theorem c_chainT (G : Good T L W X) {a b c : E} {x y z : Expr} {o1 o2 : CmpOp} {pos : Pos} (h1 : o2 ≠ .In) (h2 : o2 ≠ .NotIn) (ha : PE X x (rdE T X.K (owf ow) W a)) (hb : PE X y (rdE T X.K (owf ow) W b)) (hc : PE X z (rdE T X.K (owf ow) W c)) :
    PT X (.Compare x [o1, o2] [y, z] pos) (rdT T X.K (owf ow) W (.chain o1 o2 a b c)) :=
  (pt_chain (op_cmpD G.room.units o1) (op_cmpD G.room.units o2) ha hb hc (last2 h1 h2)).imp fun σ H Q h => c_chain0 G (t_of h)
theorem c_isn {neg : Bool} {a : E} {x : Expr} {k : Nat} {p pos : Pos} (ha : PE X x (rdE T X.K (owf ow) W a)) : PE X (.Compare x [if neg then .IsNot else .Is] [.Constant .none k p] pos) (rdE T X.K (owf ow) W (.isn neg a)) := by
  have key : ∀ {A : AP} {H : Hp} {d : D} {v : V}, RepB X.K A H d v → decide (v = .non) = (match d with
      | .non => true
      | _ => false) := fun {A H d v} r => by
    cases d with
    | non => rw [rb_non r]; rfl
    | bl b => rw [rb_bl r]; rfl
    | int b => rw [rb_int r]; rfl
    | str b => rw [rb_str r]; rfl
    | tup l => obtain ⟨_, _, rfl, _⟩ := rb_tup r; rfl
    | lst l => obtain ⟨_, _, rfl, _⟩ := rb_lst r; rfl
    | dic l => obtain ⟨_, _, rfl, _⟩ := rb_dic r; rfl
    | dit l => obtain ⟨_, _, rfl, _⟩ := rb_dit r; rfl
    | scr l => obtain ⟨_, rfl, _⟩ := rb_scr r; rfl
    | kt l => obtain ⟨_, _, rfl, _⟩ := rb_kt r; rfl
    | obj c l =>
      rcases r with ⟨_, _, _, rfl, _⟩ | ⟨_, rfl, _⟩ <;> rfl
    | fn f =>
      rcases r with r | ⟨_, rfl, _⟩
      · rw [show v = _ from r]; rfl
      · rfl
    | st =>
      rcases r with ⟨_, _, _, _, rfl, _⟩ | ⟨_, rfl, _⟩ <;> rfl
  cases neg with
  | false =>
    refine (pe_cmpR op_isN ha pe_non (nomark _)).imp fun σ H Q h => ?_
    obtain ⟨B, O, ρ, xk, Qd, f, hq, hf⟩ := h
    refine ⟨B, O, ρ, xk, _, f, hq, fun d hd v H' e r => ⟨rfl, ?_⟩⟩
    rw [key r.1]
    exact hf _ hd _ _ e (Res.of rfl rfl)
  | true =>
    refine (pe_cmpR op_notN ha pe_non (nomark _)).imp fun σ H Q h => ?_
    obtain ⟨B, O, ρ, xk, Qd, f, hq, hf⟩ := h
    refine ⟨B, O, ρ, xk, _, f, hq, fun d hd v H' e r => ⟨rfl, ?_⟩⟩
    rw [key r.1]
    exact hf _ hd _ _ e (Res.of rfl rfl)
theorem c_ite {c a b : E} {z x y : Expr} {pos : Pos} (h1 : ownB a = false) (h2 : ownB b = false) (hc : PT X z (rdT T X.K (owf ow) W c)) (ha : PE X x (rdE T X.K (owf ow) W a)) (hb : PE X y (rdE T X.K (owf ow) W b)) : PE X (.IfExp z x y pos) (rdE T X.K (owf ow) W (.ite c a b)) := by
  refine (pe_ifExp hc ha hb).imp fun σ H Q h => ?_
  obtain ⟨B, O, ρ, xk, Qd, f, hq, hf⟩ := h
  refine ⟨B, O, ρ, xk, _, f.l, hq, fun d hd => ?_⟩
  obtain ⟨k, rfl, q⟩ := hd
  refine ⟨k, rfl, fun H' e => ?_⟩
  cases k with
  | true => exact ⟨B, O, ρ, xk, Qd, (f.ex e).l, q, fun d hd v H2 e2 r => hf d hd v H2 ((e.trans e2).le (Nat.add_le_add_left (Nat.le_add_right _ _) _)) (Res.of (r.2.1 h1) rfl)⟩
  | false => exact ⟨B, O, ρ, xk, Qd, (f.ex e).le (Nat.le_add_left _ _), q, fun d hd v H2 e2 r => hf d hd v H2 ((e.trans e2).le (Nat.add_le_add_left (Nat.le_add_left _ _) _)) (Res.of (r.2.1 h2) rfl)⟩

/-! lists of expressions -/
theorem star_of {x : Expr} {xs : List Expr} {env : PySem.Env} (h : noStar x = true) : starEach (x :: xs) env = (false, eval x env) :: starEach xs env := by
  cases x with
  | Starred e p => cases h
  | _ => rfl
theorem plain_args {pos : Pos} {env : PySem.Env} : ∀ {xs : List Expr}, xs.all noStar = true → (backTo pos (starEach xs env)).any (·.1) = false
  | [], _ => rfl
  | x :: xs, h => by
    rw [List.all_cons, Bool.and_eq_true] at h
    rw [star_of h.1]
    show (false || (backTo pos (starEach xs env)).any (·.1)) = false
    rw [plain_args h.2]
    rfl
theorem as_nil : PA X [] (rdEs T X.K (owf ow) W []) := pa_nil.imp fun σ H Q h => by
  obtain ⟨B, O, ρ, xk, Qd, f, hq, hf⟩ := h
  exact hf [] hq [] H (Ex.refl H) rfl fun _ => rfl
theorem as_cons {e : E} {es : List E} {x : Expr} {xs : List Expr} (hs : noStar x = true) (hw : ∀ xk ρ Q, wpEs T xk (e :: es) ρ Q → wpE T xk e ρ fun d => wpEs T xk es ρ fun ds => Q (d :: ds)) (he : PE X x (rdE T X.K (owf ow) W e)) (hr : PA X xs (rdEs T X.K (owf ow) W es)) :
    PA X (x :: xs) (rdEs T X.K (owf ow) W (e :: es)) := by
  refine (pa_cons he hr (star_of hs)).imp fun σ H Q h => ?_
  obtain ⟨B, O, ρ, xk, Qd, f, hq, hf⟩ := h
  refine ⟨B, O, ρ, xk, _, f.l, hw _ _ _ hq, fun d hd v H1 e1 r1 => ⟨B, O, ρ, xk, _, f.ex e1, hd, fun ds hds vs H2 e2 r2 r3 => hf _ hds _ H2 (e1.trans e2) ⟨v, vs, rfl, r1.1.ex e2, r2⟩ fun z => ?_⟩⟩
  rw [List.all_cons, Bool.and_eq_true, Bool.not_eq_true'] at z
  exact ⟨v, vs, rfl, (r1.2.1 z.1).ex e2, r3 z.2⟩
theorem as_star {e : E} {es : List E} {x : Expr} {xs : List Expr} {p : Pos} (he : PE X x (rdE T X.K (owf ow) W e)) (hr : PA X xs (rdEs T X.K (owf ow) W es)) : PA X (.Starred x p :: xs) (rdEs T X.K (owf ow) W (.star e :: es)) := by
  refine (StX.pa_star he hr).imp fun σ H Q h => ?_
  obtain ⟨B, O, ρ, xk, Qd, f, hq, hf⟩ := h
  refine ⟨B, O, ρ, xk, _, f.l, (show wpE T xk e ρ fun d => ∃ l, (d = .tup l ∨ d = .lst l) ∧ wpEs T xk es ρ fun ds => Qd (l ++ ds) from hq), fun d hd v H1 e1 r1 => ?_⟩
  obtain ⟨l, hl, q⟩ := hd
  obtain ⟨a, vs, rfl, hs, rl⟩ : ∃ a vs, v = .ref a ∧ (SqT X.K H1 a vs ∨ SqL X.K H1 a vs) ∧ RepL X.K (U B O) H1 l vs := by
    rcases hl with rfl | rfl
    · obtain ⟨a, vs, e, h1, h2⟩ := rb_tup r1.1
      exact ⟨a, vs, e, .inl h1, h2⟩
    · obtain ⟨a, vs, e, h1, h2⟩ := rb_lst r1.1
      exact ⟨a, vs, e, .inr (.inl (.inl h1)), h2⟩
  refine ⟨a, vs, rfl, hs, B, O, ρ, xk, _, f.ex e1, q, fun ds hds ws H2 e2 r2 r3 => hf _ hds _ H2 (e1.trans e2) (RepBL.append (RepL.toB (rl.ex e2)) r2) fun z => ?_⟩
  rw [List.all_cons, Bool.and_eq_true] at z
  exact RepL.append (rl.ex e2) (r3 z.2)
theorem c_tup {es : List E} {xs : List Expr} {k : Nat} {pos : Pos} (hn : es.all (fun e => !ownB e) = true) (h : PA X xs (rdEs T X.K (owf ow) W es)) : PE X (.Tuple xs k pos) (rdE T X.K (owf ow) W (.tup es)) := by
  refine (pe_tup h).imp fun σ H Q h => ?_
  obtain ⟨B, O, ρ, xk, Qd, f, hq, hf⟩ := h
  refine ⟨B, O, ρ, xk, _, f, (show wpEs T xk es ρ fun ds => ds.length ≤ sizeLine ∧ Qd (.tup ds) from hq), fun ds hds vs H1 e1 _ r => ?_⟩
  have rl := r hn
  exact ⟨by rw [RepL.length rl]; exact hds.1, fun p hp => hf _ hds.2 _ _ (e1.trans (Ex.new hp)) (Res.of (rep_tup rl hp) rfl)⟩
theorem c_lst {es : List E} {xs : List Expr} {pos : Pos} (hn : es.all (fun e => !ownB e) = true) (h : PA X xs (rdEs T X.K (owf ow) W es)) : PE X (.List xs pos) (rdE T X.K (owf ow) W (.lst es)) := by
  refine (pe_lst h).imp fun σ H Q h => ?_
  obtain ⟨B, O, ρ, xk, Qd, f, hq, hf⟩ := h
  refine ⟨B, O, ρ, xk, _, f, (show wpEs T xk es ρ fun ds => ds.length ≤ sizeLine ∧ Qd (.lst ds) from hq), fun ds hds vs H1 e1 _ r => ?_⟩
  have rl := r hn
  refine ⟨by rw [RepL.length rl]; exact hds.1, fun p hp => ?_⟩
  have na := (f.fr.ex e1).fresh hp
  exact hf _ hds.2 _ _ (e1.trans (Ex.new hp)) ⟨.inl (rep_lst na rl hp), fun _ => rep_lst na rl hp, fun _ => ⟨p, rfl, e1.none hp, newLst rl hp⟩⟩
end
end DL

/-! DY: one rule a piece: and, or, slices, built-ins, calls, dicts; targets; what is walked; comprehensions -/
namespace DL
open PySem PySem.Spec PyProof.Rows L2 Evl

theorem _root_.L2.PW.imp {X : Cx} {e : Expr} {t t' : TT} (h : PW X e t) (k : ∀ σ H Q, t' σ H Q → t σ H Q) : PW X e t' := ⟨fun w pins s σ H Q I q => h.run w pins s σ H Q I (k _ _ _ q)⟩
theorem _root_.L2.PI.imp {X : Cx} {tg e : Expr} {t t' : TI} (h : PI X tg e t) (k : ∀ σ H Q, t' σ H Q → t σ H Q) : PI X tg e t' := ⟨fun pins s σ H Q I q => h.run pins s σ H Q I (k _ _ _ q)⟩
theorem _root_.L2.PG.imp {X : Cx} {e : Expr} {t t' : TG} (h : PG X e t) (k : ∀ v σ H Q, t' v σ H Q → t v σ H Q) : PG X e t' := ⟨fun pins s σ H v u Q I r q => h.run pins s σ H v u Q I r (k _ _ _ _ q)⟩
section
variable {T : Tb} {L : Nat} {W : WX} {X : Cx} {ow : List Nat}
/-! and, or -/
theorem res_and {K : PySem.W.Frag} {e e' : E} {A : AP} {H H' : Hp} {d : D} {v : V} (h : Res K e A H H' d v) (ho : ownB e = false) (hn : newB e' = false) : Res K e' A H H' d v := Res.of (h.2.1 ho) hn
theorem c_and1 {e : E} {x : Expr} {pos : Pos} (ho : ownB e = false) (he : PE X x (rdE T X.K (owf ow) W e)) : PE X (.BoolOp .And [x] pos) (rdE T X.K (owf ow) W (.and [e])) :=
  (pe_one he).imp fun σ H Q h => by
    obtain ⟨B, O, ρ, xk, Qd, f, hq, hf⟩ := h
    exact ⟨B, O, ρ, xk, Qd, f, hq, fun d hd v H' e r => hf d hd v H' e (res_and r ho rfl)⟩
theorem c_or1 {e : E} {x : Expr} {pos : Pos} (ho : ownB e = false) (he : PE X x (rdE T X.K (owf ow) W e)) : PE X (.BoolOp .Or [x] pos) (rdE T X.K (owf ow) W (.or [e])) :=
  (pe_one he).imp fun σ H Q h => by
    obtain ⟨B, O, ρ, xk, Qd, f, hq, hf⟩ := h
    exact ⟨B, O, ρ, xk, Qd, f, hq, fun d hd v H' e r => hf d hd v H' e (res_and r ho rfl)⟩
theorem c_andC {e e2 : E} {es : List E} {x y : Expr} {ys : List Expr} {pos : Pos} (he : PE X x (rdE T X.K (owf ow) W e)) (hr : PE X (.BoolOp .And (y :: ys) pos) (rdE T X.K (owf ow) W (.and (e2 :: es)))) :
    PE X (.BoolOp .And (x :: y :: ys) pos) (rdE T X.K (owf ow) W (.and (e :: e2 :: es))) := by
  refine (pe_and he hr).imp fun σ H Q h => ?_
  obtain ⟨B, O, ρ, xk, Qd, f, hq, hf⟩ := h
  refine ⟨B, O, ρ, xk, _, f.l, (show wpE T xk e ρ fun x => ∃ c, x = .bl c ∧ if c = true then wpE T xk (.and (e2 :: es)) ρ Qd else Qd (.bl false) from hq), fun d hd v H1 e1 r => ?_⟩
  obtain ⟨c, rfl, q⟩ := hd
  refine ⟨c, rb_bl r.1, ?_⟩
  cases c with
  | true => exact ⟨B, O, ρ, xk, Qd, f.ex e1, q, fun d hd v H2 e2 r => hf d hd v H2 (e1.trans e2) (Res.of (r.2.1 rfl) rfl)⟩
  | false => exact hf _ q _ _ (e1.le (Nat.le_add_right _ _)) (Res.of rfl rfl)
theorem c_orC {e e2 : E} {es : List E} {x y : Expr} {ys : List Expr} {pos : Pos} (he : PE X x (rdE T X.K (owf ow) W e)) (hr : PE X (.BoolOp .Or (y :: ys) pos) (rdE T X.K (owf ow) W (.or (e2 :: es)))) :
    PE X (.BoolOp .Or (x :: y :: ys) pos) (rdE T X.K (owf ow) W (.or (e :: e2 :: es))) := by
  refine (pe_or he hr).imp fun σ H Q h => ?_
  obtain ⟨B, O, ρ, xk, Qd, f, hq, hf⟩ := h
  refine ⟨B, O, ρ, xk, _, f.l, (show wpE T xk e ρ fun x => ∃ c, x = .bl c ∧ if c = true then Qd (.bl true) else wpE T xk (.or (e2 :: es)) ρ Qd from hq), fun d hd v H1 e1 r => ?_⟩
  obtain ⟨c, rfl, q⟩ := hd
  refine ⟨c, rb_bl r.1, ?_⟩
  cases c with
  | false => exact ⟨B, O, ρ, xk, Qd, f.ex e1, q, fun d hd v H2 e2 r => hf d hd v H2 (e1.trans e2) (Res.of (r.2.1 rfl) rfl)⟩
  | true => exact hf _ q _ _ (e1.le (Nat.le_add_right _ _)) (Res.of rfl rfl)
theorem c_and1T {e : E} {x : Expr} {pos : Pos} (he : PT X x (rdT T X.K (owf ow) W e)) : PW X (.BoolOp .And [x] pos) (rdT T X.K (owf ow) W (.and [e])) := (pw_and1 he).imp fun σ H Q h => h
theorem c_or1T {e : E} {x : Expr} {pos : Pos} (he : PT X x (rdT T X.K (owf ow) W e)) : PW X (.BoolOp .Or [x] pos) (rdT T X.K (owf ow) W (.or [e])) := (pw_or1 he).imp fun σ H Q h => h
theorem c_andCT {e e2 : E} {es : List E} {x y : Expr} {ys : List Expr} {pos : Pos} (he : PT X x (rdT T X.K (owf ow) W e)) (hr : PW X (.BoolOp .And (y :: ys) pos) (rdT T X.K (owf ow) W (.and (e2 :: es)))) :
    PW X (.BoolOp .And (x :: y :: ys) pos) (rdT T X.K (owf ow) W (.and (e :: e2 :: es))) := by
  refine (pw_and he hr).imp fun σ H Q h => ?_
  obtain ⟨B, O, ρ, xk, Qd, f, hq, hf⟩ := h
  refine ⟨B, O, ρ, xk, _, f.l, (show wpE T xk e ρ fun x => ∃ c, x = .bl c ∧ if c = true then wpE T xk (.and (e2 :: es)) ρ Qd else Qd (.bl false) from hq), fun d hd => ?_⟩
  obtain ⟨c, rfl, q⟩ := hd
  refine ⟨c, rfl, fun H1 e1 => ?_⟩
  cases c with
  | true => exact ⟨B, O, ρ, xk, Qd, f.ex e1, q, fun d hd => by
      obtain ⟨b, eb, k⟩ := hf d hd
      exact ⟨b, eb, fun H2 e2 => k H2 (e1.trans e2)⟩⟩
  | false =>
    obtain ⟨b, eb, k⟩ := hf _ q
    cases eb
    exact k H1 (e1.le (Nat.le_add_right _ _))
theorem c_orCT {e e2 : E} {es : List E} {x y : Expr} {ys : List Expr} {pos : Pos} (he : PT X x (rdT T X.K (owf ow) W e)) (hr : PW X (.BoolOp .Or (y :: ys) pos) (rdT T X.K (owf ow) W (.or (e2 :: es)))) :
    PW X (.BoolOp .Or (x :: y :: ys) pos) (rdT T X.K (owf ow) W (.or (e :: e2 :: es))) := by
  refine (pw_or he hr).imp fun σ H Q h => ?_
  obtain ⟨B, O, ρ, xk, Qd, f, hq, hf⟩ := h
  refine ⟨B, O, ρ, xk, _, f.l, (show wpE T xk e ρ fun x => ∃ c, x = .bl c ∧ if c = true then Qd (.bl true) else wpE T xk (.or (e2 :: es)) ρ Qd from hq), fun d hd => ?_⟩
  obtain ⟨c, rfl, q⟩ := hd
  refine ⟨c, rfl, fun H1 e1 => ?_⟩
  cases c with
  | false => exact ⟨B, O, ρ, xk, Qd, f.ex e1, q, fun d hd => by
      obtain ⟨b, eb, k⟩ := hf d hd
      exact ⟨b, eb, fun H2 e2 => k H2 (e1.trans e2)⟩⟩
  | true =>
    obtain ⟨b, eb, k⟩ := hf _ q
    cases eb
    exact k H1 (e1.le (Nat.le_add_right _ _))
/-! slices -/
def rdO (T : Tb) (K : PySem.W.Frag) (own : Nat → Bool) (W : WX) (e : Option E) : TO := fun σ H Q => ∃ B O ρ xk Qd, FX K own W xk B O (dcO T e) H σ ρ ∧ wpO T xk e ρ Qd ∧ (∀ o, Qd o → ∀ H', Ex (dcO T e) H H' → Q o H')
theorem o_none : PO X none (rdO T X.K (owf ow) W none) := po_none.imp fun σ H Q h => by
  obtain ⟨B, O, ρ, xk, Qd, f, hq, hf⟩ := h
  exact hf none hq H (Ex.refl H)
theorem o_some {e : E} {x : Expr} (he : PE X x (rdE T X.K (owf ow) W e)) : PO X (some x) (rdO T X.K (owf ow) W (some e)) := (po_some he).imp fun σ H Q h => by
  obtain ⟨B, O, ρ, xk, Qd, f, hq, hf⟩ := h
  refine ⟨B, O, ρ, xk, _, f, (show wpE T xk e ρ fun d => ∃ i, d = .int i ∧ Qd (some i) from hq), fun d hd v H' e r => ?_⟩
  obtain ⟨i, rfl, q⟩ := hd
  exact ⟨i, rb_int r.1, hf _ q H' e⟩
theorem c_slice {a : E} {lo hi : Option E} {x : Expr} {l h : Option Expr} {p pos : Pos} (ha : PE X x (rdE T X.K (owf ow) W a)) (hl : PO X l (rdO T X.K (owf ow) W lo)) (hh : PO X h (rdO T X.K (owf ow) W hi)) :
    PE X (.Subscript x (.Slice l h none p) pos) (rdE T X.K (owf ow) W (.slice a lo hi)) := by
  refine (pe_slice sl_D ha hl hh).imp fun σ H Q h => ?_
  obtain ⟨B, O, ρ, xk, Qd, f, hq, hf⟩ := h
  have hcost : dcE T (.slice a lo hi) = dcE T a + (dcO T lo + dcO T hi) := rfl
  refine ⟨B, O, ρ, xk, _, f.l, (show wpE T xk a ρ fun x => wpO T xk lo ρ fun l => wpO T xk hi ρ fun h => sliceD x l h Qd from hq), fun d hd v H1 e1 r => ⟨B, O, ρ, xk, _, (f.ex e1).l, hd, fun lo' hlo H2 e2 => ⟨B, O, ρ, xk, _, (f.ex e1).ex e2, hlo, fun hi' hhi H3 e3 => ?_⟩⟩⟩
  exact ⟨U B O, d, Qd, (((f.fr.ex e1).ex e2).ex e3).mt, (r.1.ex e2).ex e3, hhi, fun d hd v H4 e4 r4 => hf d hd v H4 ((((e1.trans e2).trans e3).trans e4).le (by rw [hcost]; omega)) (Res.of r4 rfl)⟩
/-! built-ins -/
theorem boot_bf (f : BF) (h : bfOk f = true) : bootBuiltins (bfName f) = some (bfVal f) := by
  cases f <;> first
    | exact PyProof.Rows.boot_abs | exact PyProof.Rows.boot_int | exact PyProof.Rows.boot_str | exact PyProof.Rows.boot_list | exact PyProof.Rows.boot_tuple | exact PyProof.Rows.boot_sorted | exact PyProof.Rows.boot_repr
    | exact PyProof.Rows.boot_max | exact PyProof.Rows.boot_min | exact PyProof.Rows.boot_sum | exact PyProof.Rows.boot_all | exact PyProof.Rows.boot_any | exact PySem.boot_len | exact absurd (show (false : Bool) = true from h) (by decide)
theorem c_blt (G : Good T L W X) {f : BF} {es : List E} {x : Str} {xs : List Expr} {p pos : Pos} (hb : bfOk f = true) (hx : x = bfName f) (hg : Gl X x) (hd : x ≠ "__debug__") (hn : x ≠ "__name__") (h1 : 1 ≤ xs.length) (hs : xs.all noStar = true)
    (h : PA X xs (rdEs T X.K (owf ow) W es)) : PE X (.Call (.Name x p) xs [] pos) (rdE T X.K (owf ow) W (.blt f es)) := by
  have hm : X.mg x = none := by rw [hx]; exact G.tab.free f
  have hv : bootBuiltins x = some (bfVal f) := by rw [hx]; exact boot_bf f hb
  have hdb : (x == ("__debug__" : Str)) = false := beq_eq_false_iff_ne.mpr hd
  cases xs with
  | nil => exact absurd h1 (by decide)
  | cons y ys =>
    rw [List.all_cons, Bool.and_eq_true] at hs
    have key : PE X (.Call (.Name x p) (y :: ys) [] pos) (tCB (rBf X.K f) (rdEs T X.K (owf ow) W es)) := by
      have r := bfRule G.calm (units65 G) G.guards f
      cases hf : bfVal f with
      | builtin id =>
        rw [hf] at r hv
        exact pe_callB r hg hm hv h hn hdb (star_of hs.1) (plain_args hs.2)
      | type id =>
        rw [hf] at r hv
        exact pe_callTy r hg hm hv h hn hdb (star_of hs.1) (plain_args hs.2)
      | _ => cases f <;> cases hf
    refine key.imp fun σ H Q h => ?_
    obtain ⟨B, O, ρ, xk, Qd, f, hq, hf⟩ := h
    exact ⟨B, O, ρ, xk, _, f, hq, fun ds hds vs H1 e1 r _ => ⟨U B O, ds, Qd, (f.fr.ex e1).mt, r, hds, fun d hd v H2 e2 r2 => hf d hd v H2 (e1.trans e2) (Res.of r2 rfl)⟩⟩
end
end DL

/-! DZ: calls, dicts, targets, what is walked, comprehensions -/
namespace DL
open PySem PySem.Spec PyProof.Rows L2 Evl

theorem _root_.L2.PC.imp {X : Cx} {op : CmpOp} {a b : Expr} {t t' : TE} (h : PC X op a b t) (k : ∀ σ H Q, t' σ H Q → t σ H Q) : PC X op a b t' := ⟨fun pins s σ H Q I q => h.run pins s σ H Q I (k _ _ _ q)⟩
section
variable {K : PySem.W.Frag} {A A' : AP} {H : Hp}
mutual
theorem flat_rep : ∀ (d : D) (v : V), flatD d = true → Rep K A H d v → Rep K A' H d v
  | .non, _, _, h => h
  | .bl _, _, _, h => h
  | .int _, _, _, h => h
  | .str _, _, _, h => h
  | .tup l, v, e, h => by
    obtain ⟨a, vs, ev, hs, hl⟩ := h
    exact ⟨a, vs, ev, hs, flat_repL l vs e hl⟩
  | .fn _, _, _, h => h
theorem flat_repL : ∀ (l : List D) (vs : List V), flatD.flatL l = true → RepL K A H l vs → RepL K A' H l vs
  | [], _, _, h => h
  | d :: l, vs, e, h => by
    have e' : (flatD d && flatD.flatL l) = true := e
    rw [Bool.and_eq_true] at e'
    obtain ⟨v, r, ev, h1, h2⟩ := h
    exact ⟨v, r, ev, flat_rep d v e'.1 h1, flat_repL l r e'.2 h2⟩
end
end
section
variable {T : Tb} {L : Nat} {W : WX} {X : Cx} {ow : List Nat}
/-- the arguments, for a callee: what is lent to it is its to read -/
theorem lent {K : PySem.W.Frag} {A : AP} {H : Hp} {vs0 : List V} : ∀ {ds : List D} {vs : List V}, (∀ v ∈ vs, v ∈ vs0) → RepBL K A H ds vs → RepL K (fun a => A a ∧ V.ref a ∉ vs0) H ds vs
  | [], _, _, h => h
  | d :: l, vs, hm, h => by
    obtain ⟨v, r, rfl, h1, h2⟩ := h
    have less : Grows H A (fun a => A a ∧ V.ref a ∉ vs0) := grows_less fun a z => z.1
    refine ⟨v, r, rfl, ?_, lent (fun u hu => hm u (List.mem_cons_of_mem _ hu)) h2⟩
    rcases h1 with h1 | ⟨a, rfl, h1⟩
    · exact Rep.keep keeps_refl less _ _ h1
    · have na : ¬ (A a ∧ V.ref a ∉ vs0) := fun z => z.2 (hm _ List.mem_cons_self)
      cases d with
      | lst l =>
        obtain ⟨us, e, q⟩ := h1
        exact ⟨a, us, rfl, na, e, RepL.keep keeps_refl less _ _ q⟩
      | dic l =>
        obtain ⟨us, e, q⟩ := h1
        exact ⟨a, us, rfl, na, .inl e, RepK.keep keeps_refl less _ _ q⟩
      | dit l =>
        obtain ⟨us, e, q⟩ := h1
        exact ⟨a, us, rfl, na, .inl e, RepT.keep keeps_refl less _ _ q⟩
      | obj c l =>
        obtain ⟨dx, us, e, q⟩ := h1
        exact ⟨a, dx, us, rfl, na, e, RepF.keep keeps_refl less _ _ q⟩
      | _ => exact h1.elim
theorem any_not : ∀ {es : List E}, es.any ownB ≠ true → es.all (fun e => !ownB e) = true
  | [], _ => rfl
  | e :: es, h => by
    rw [List.any_cons] at h
    rw [List.all_cons, Bool.and_eq_true]
    have h1 : ownB e = false := by
      cases q : ownB e with
      | false => rfl
      | true => rw [q] at h; exact absurd rfl h
    rw [h1] at h
    exact ⟨by rw [h1]; rfl, any_not h⟩
/-- a def's promise at a call -/
theorem call_sp {K : PySem.W.Frag} {own : Nat → Bool} {B O : AP} {H1 : Hp} {σ : L2.St} {ρ : DE} {xk : EK} {Qd : DK} {Q : VK} {es : List E} {ds : List D} {vs : List V} {n c : Nat} {m : DSp} (f : FX K own W xk B O c H1 σ ρ)
    (hn : ds.length = n) (hm : m ds (fun d => (es.any ownB = true → flatD d = true) ∧ Qd d) xk) (r : RepBL K (U B O) H1 ds vs) (r2 : es.all (fun e => !ownB e) = true → RepL K (U B O) H1 ds vs)
    (hf : ∀ d, Qd d → ∀ v H', Ex c H1 H' → Rep K (U B O) H' d v → Q v H') : spOf K n c m vs H1 Q (W · · σ ·) := by
  by_cases ho : es.any ownB = true
  · refine ⟨fun a => U B O a ∧ V.ref a ∉ vs, ds, _, xk, by rw [RepBL.length r]; exact hn, f.rm, fun a z => f.fr.mt a z.1, lent (fun _ h => h) r, hm, fun d hd v H' e r3 => hf d hd.2 v H' e (flat_rep _ _ (hd.1 ho) r3), f.xo⟩
  · have rl := r2 (any_not ho)
    exact ⟨U B O, ds, _, xk, by rw [RepL.length rl]; exact hn, f.rm, f.fr.mt, rl, hm, fun d hd v H' e r3 => hf d hd.2 v H' e r3, f.xo⟩
theorem c_call (G : Good T L W X) {g : Str} {es : List E} {xs : List Expr} {p pos : Pos} (hf : (T.fn g).isSome = true) (hg : Gl X g) (hd : g ≠ "__debug__") (h1 : 1 ≤ xs.length) (hs : xs.all noStar = true)
    (h : PA X xs (rdEs T X.K (owf ow) W es)) : PE X (.Call (.Name g p) xs [] pos) (rdE T X.K (owf ow) W (.call g es)) := by
  obtain ⟨e, he⟩ := Option.isSome_iff_exists.mp hf
  obtain ⟨fa, fd, ps, hp, hk, F, hm, kp, hb⟩ := G.tab.fn g e he
  have hcost : dcE T (.call g es) = dcEs T es + e.c := by
    show dcEs T es + (match T.fn g with
      | some e => e.c
      | none => 0) = _
    rw [he]
  cases xs with
  | nil => exact absurd h1 (by decide)
  | cons y ys =>
    rw [List.all_cons, Bool.and_eq_true] at hs
    refine (pe_callG (E := fun σ cls d H => W cls d σ H) F (G.room.mono hk) G.guards hg hm kp hb (L2N.passAt G.tk) h (beq_eq_false_iff_ne.mpr hd) (star_of hs.1) (plain_args hs.2)).imp fun σ H Q h => ?_
    obtain ⟨B, O, ρ, xk, Qd, f, hq, hf⟩ := h
    rw [hcost] at f hf
    refine ⟨B, O, ρ, xk, _, f.l, (show wpEs T xk es ρ fun ds => ∃ e, T.fn g = some e ∧ ds.length = e.n ∧ e.m ds (fun d => (es.any ownB = true → flatD d = true) ∧ Qd d) xk from hq), fun ds hds vs H1 e1 r r2 => ?_⟩
    obtain ⟨e', he', hn, hw⟩ := hds
    rw [he] at he'
    cases he'
    exact call_sp (f.ex e1) hn hw r r2 (fun d hd v H2 e2 r3 => hf d hd v H2 (e1.trans e2) (Res.of r3 rfl))

/-! dicts -/
theorem keyK_rep {K : PySem.W.Frag} {A : AP} {H : Hp} {d : D} {k : Key} {v : V} (e : keyK d = some k) (r : RepB K A H d v) : v = kV k := by
  cases d with
  | int i =>
    cases e
    exact rb_int r
  | str x =>
    cases e
    exact rb_str r
  | _ => cases e
theorem keyKs_rep {K : PySem.W.Frag} {A : AP} {H : Hp} : ∀ {l : List D} {ks : List Key} {vs : List V}, keyKs l = some ks → RepL K A H l vs → vs = ks.map kV
  | [], ks, vs, e, r => by
    cases e
    exact r
  | d :: l, ks, vs, e, r => by
    obtain ⟨v, w, rfl, h1, h2⟩ := r
    have e' : (match keyK d, keyKs l with
      | some p, some q => some (p :: q)
      | _, _ => none) = some ks := e
    cases hp : keyK d with
    | none => rw [hp] at e'; cases e'
    | some p =>
      cases hq : keyKs l with
      | none => rw [hp, hq] at e'; cases e'
      | some q =>
        rw [hp, hq] at e'
        cases e'
        rw [keyK_rep hp (.inl h1), keyKs_rep hq h2]
        rfl
theorem keyT_rep {K : PySem.W.Frag} {A : AP} {H : Hp} {d : D} {k : List Key} {v : V} (e : keyT d = some k) (r : RepB K A H d v) : ∃ a, v = .ref a ∧ H a = some (.tup (k.map kV)) := by
  cases d with
  | tup l =>
    obtain ⟨a, vs, rfl, hs, hl⟩ := rb_tup0 r
    rw [keyKs_rep e hl] at hs
    exact ⟨a, rfl, hs⟩
  | _ => cases e
theorem valD_rep {K : PySem.W.Frag} {A : AP} {H : Hp} {k : Key} : ∀ {l : List (Key × D)} {vs : List (Key × V)}, RepK K A H l vs → (valD l k = none → valV vs k = none) ∧ ∀ d, valD l k = some d → ∃ v, valV vs k = some v ∧ Rep K A H d v
  | [], _, r => by
    rw [show _ = [] from r]
    exact ⟨fun _ => rfl, fun d e => (by cases e)⟩
  | (k', d) :: l, _, r => by
    obtain ⟨v, w, rfl, h1, h2⟩ := r
    obtain ⟨i1, i2⟩ := valD_rep (k := k) h2
    unfold valD valV at i1 i2 ⊢
    rw [List.find?_cons, List.find?_cons]
    by_cases hk : k' = k
    · simp only [hk, decide_true]
      exact ⟨fun e => (by cases e), fun d' e => (by cases e; exact ⟨v, rfl, h1⟩)⟩
    · simp only [hk, decide_false]
      exact ⟨i1, i2⟩
theorem valT_rep {K : PySem.W.Frag} {A : AP} {H : Hp} {k : List Key} : ∀ {l : List (List Key × D)} {vs : List (List Key × V)}, RepT K A H l vs → (valD l k = none → valV vs k = none) ∧ ∀ d, valD l k = some d → ∃ v, valV vs k = some v ∧ Rep K A H d v
  | [], _, r => by
    rw [show _ = [] from r]
    exact ⟨fun _ => rfl, fun d e => (by cases e)⟩
  | (k', d) :: l, _, r => by
    obtain ⟨v, w, rfl, h1, h2⟩ := r
    obtain ⟨i1, i2⟩ := valT_rep (k := k) h2
    unfold valD valV at i1 i2 ⊢
    rw [List.find?_cons, List.find?_cons]
    by_cases hk : k' = k
    · simp only [hk, decide_true]
      exact ⟨fun e => (by cases e), fun d' e => (by cases e; exact ⟨v, rfl, h1⟩)⟩
    · simp only [hk, decide_false]
      exact ⟨i1, i2⟩
theorem nosl_of {y : Expr} (h : noSlice y = true) : NoSl y := by
  cases y with
  | Slice a b c p => cases h
  | _ => exact fun _ _ => rfl
theorem units1 (G : Good T L W X) : X.A.units + 1 < cLine := by
  have := G.room.un
  omega
theorem dget_of {K : PySem.W.Frag} {A : AP} {H : Hp} {x y : D} {v u : V} {Qd : DK} (h : dgetD x y Qd) (r1 : RepB K A H x v) (r2 : RepB K A H y u) : ∃ a w d, v = .ref a ∧ DGet H a u (some w) ∧ Qd d ∧ Rep K A H d w := by
  cases x with
  | dic l =>
    obtain ⟨k, d, hk, hv, q⟩ := h
    obtain ⟨a, vs, rfl, hr, rk⟩ := rb_dic r1
    obtain ⟨w, hw, rw'⟩ := (valD_rep (k := k) rk).2 d hv
    exact ⟨a, w, d, rfl, .inl ⟨vs, k, hr, keyK_rep hk r2, hw.symm⟩, q, rw'⟩
  | dit l =>
    obtain ⟨k, d, hk, hv, q⟩ := h
    obtain ⟨a, vs, rfl, hr, rk⟩ := rb_dit r1
    obtain ⟨w, hw, rw'⟩ := (valT_rep (k := k) rk).2 d hv
    obtain ⟨b, eb, hb⟩ := keyT_rep hk r2
    exact ⟨a, w, d, rfl, .inr ⟨vs, k, b, hr, eb, hb, hw.symm⟩, q, rw'⟩
  | _ => exact h.elim
theorem c_dget (G : Good T L W X) {a i : E} {x y : Expr} {pos : Pos} (hs : noSlice y = true) (ha : PE X x (rdE T X.K (owf ow) W a)) (hb : PE X y (rdE T X.K (owf ow) W i)) : PE X (.Subscript x y pos) (rdE T X.K (owf ow) W (.dget a i)) := by
  refine (pe_dget (units1 G) ha hb (nosl_of hs)).imp fun σ H Q h => ?_
  obtain ⟨B, O, ρ, xk, Qd, f, hq, hf⟩ := h
  refine ⟨B, O, ρ, xk, _, f.l, (show wpE T xk a ρ fun x => wpE T xk i ρ fun y => dgetD x y Qd from hq), fun dx hx v H1 e1 r1 => ⟨B, O, ρ, xk, _, f.ex e1, hx, fun dy hy u H2 e2 r2 => ?_⟩⟩
  obtain ⟨p, w, d, e, g, q, r⟩ := dget_of hy (r1.1.ex e2) r2.1
  exact ⟨p, w, e, g, hf d q w H2 (e1.trans e2) (Res.of r rfl)⟩
theorem din_of {K : PySem.W.Frag} {A : AP} {H : Hp} {neg : Bool} {x y : D} {v u : V} {Qd : DK} (h : dinD neg x y Qd) (r1 : RepB K A H x v) (r2 : RepB K A H y u) : ∃ a o, u = .ref a ∧ DGet H a v o ∧ Qd (.bl (negB neg o.isSome)) := by
  cases y with
  | dic l =>
    obtain ⟨k, hk, q⟩ := h
    obtain ⟨a, vs, rfl, hr, rk⟩ := rb_dic r2
    refine ⟨a, valV vs k, rfl, .inl ⟨vs, k, hr, keyK_rep hk r1, rfl⟩, ?_⟩
    have : (valV vs k).isSome = (valD l k).isSome := by
      cases hv : valD l k with
      | none => rw [(valD_rep (k := k) rk).1 hv]; rfl
      | some d =>
        obtain ⟨w, hw, _⟩ := (valD_rep (k := k) rk).2 d hv
        rw [hw]; rfl
    rw [this]
    exact q
  | dit l =>
    obtain ⟨k, hk, q⟩ := h
    obtain ⟨a, vs, rfl, hr, rk⟩ := rb_dit r2
    obtain ⟨b, eb, hb⟩ := keyT_rep hk r1
    refine ⟨a, valV vs k, rfl, .inr ⟨vs, k, b, hr, eb, hb, rfl⟩, ?_⟩
    have : (valV vs k).isSome = (valD l k).isSome := by
      cases hv : valD l k with
      | none => rw [(valT_rep (k := k) rk).1 hv]; rfl
      | some d =>
        obtain ⟨w, hw, _⟩ := (valT_rep (k := k) rk).2 d hv
        rw [hw]; rfl
    rw [this]
    exact q
  | _ => exact h.elim
theorem din_rd {neg : Bool} {a b : E} {σ : L2.St} {H : Hp} {Q : VK} (h : rdE T X.K (owf ow) W (.din neg a b) σ H Q) :
    rdE T X.K (owf ow) W a σ H fun y H1 => rdE T X.K (owf ow) W b σ H1 fun x H2 => ∃ a o, x = .ref a ∧ DGet H2 a y o ∧ Q (.bl (negB neg o.isSome)) H2 := by
  obtain ⟨B, O, ρ, xk, Qd, f, hq, hf⟩ := h
  refine ⟨B, O, ρ, xk, _, f.l, (show wpE T xk a ρ fun x => wpE T xk b ρ fun y => dinD neg x y Qd from hq), fun dx hx v H1 e1 r1 => ⟨B, O, ρ, xk, _, f.ex e1, hx, fun dy hy u H2 e2 r2 => ?_⟩⟩
  obtain ⟨p, o, e, g, q⟩ := din_of hy (r1.1.ex e2) r2.1
  exact ⟨p, o, e, g, hf _ q _ H2 (e1.trans e2) (Res.of rfl rfl)⟩
theorem c_din (G : Good T L W X) {neg : Bool} {a b : E} {x y : Expr} {pos : Pos} (hm : behindInMarks (if neg then .NotIn else .In) y = false) (ha : PE X x (rdE T X.K (owf ow) W a)) (hb : PE X y (rdE T X.K (owf ow) W b)) :
    PE X (.Compare x [if neg then .NotIn else .In] [y] pos) (rdE T X.K (owf ow) W (.din neg a b)) := by
  cases neg with
  | false => exact pe_cmp ((pc_din (units1 G) ha hb).imp fun σ H Q h => din_rd h) hm
  | true => exact pe_cmp ((pc_dnotin (units1 G) ha hb).imp fun σ H Q h => din_rd h) hm
theorem c_dinT (G : Good T L W X) {neg : Bool} {a b : E} {x y : Expr} {pos : Pos} (hm : behindInMarks (if neg then .NotIn else .In) y = false) (ha : PE X x (rdE T X.K (owf ow) W a)) (hb : PE X y (rdE T X.K (owf ow) W b)) :
    PT X (.Compare x [if neg then .NotIn else .In] [y] pos) (rdT T X.K (owf ow) W (.din neg a b)) := by
  cases neg with
  | false => exact (pt_cmp (pc_din (units1 G) ha hb) hm).imp fun σ H Q h => din_rd (neg := false) (t_of h)
  | true => exact (pt_cmp (pc_dnotin (units1 G) ha hb) hm).imp fun σ H Q h => din_rd (neg := true) (t_of h)
theorem c_dnew {t : Bool} {pos : Pos} : PE X (.Dict [] [] pos) (rdE T X.K (owf ow) W (.dnew t)) := by
  cases t with
  | false =>
    refine pe_dnewK.imp fun σ H Q h p hp => ?_
    obtain ⟨B, O, ρ, xk, Qd, f, hq, hf⟩ := h
    have na := f.fr.fresh hp
    have ow : OwnAt X.K (U (U B O) (· = p)) (upd H p (.dK [])) p (.dic []) := ⟨[], upd_same, rfl⟩
    exact hf _ hq _ _ (Ex.new hp) ⟨.inl (own_rep na ow), fun _ => own_rep na ow, fun _ => ⟨p, rfl, hp, ow⟩⟩
  | true =>
    refine pe_dnewT.imp fun σ H Q h p hp => ?_
    obtain ⟨B, O, ρ, xk, Qd, f, hq, hf⟩ := h
    have na := f.fr.fresh hp
    have ow : OwnAt X.K (U (U B O) (· = p)) (upd H p (.dT [])) p (.dit []) := ⟨[], upd_same, rfl⟩
    exact hf _ hq _ _ (Ex.new hp) ⟨.inl (own_rep na ow), fun _ => own_rep na ow, fun _ => ⟨p, rfl, hp, ow⟩⟩
end
end DL

/-! D1: targets; what is walked -/
namespace DL
open PySem PySem.Spec PyProof.Rows L2 Evl

/-! ### the frame, changed -/
section
variable {K : PySem.W.Frag} {own : Nat → Bool} {B B' O : AP} {H H' : Hp} {σ : L2.St} {ρ : DE}
theorem Fr.set (f : Fr K own B O H σ ρ) {i : Nat} {d : D} {v : V} (ho : own i = false) (r : Rep K (U B O) H d v) : Fr K own B O H (σ.set i (some v)) (ρ.set i (some d)) := by
  refine ⟨by rw [List.length_set, List.length_set, f.len], fun j e h1 h2 => ?_, fun j e h1 h2 => ?_, fun j k a h1 h2 h3 h4 h5 h6 => ?_, f.mt⟩
  · by_cases e1 : i = j
    · subst e1
      have hl : i < ρ.length := by
        have := (List.getElem?_eq_some_iff.mp h2).1
        rwa [List.length_set] at this
      rw [List.getElem?_set_self hl] at h2
      cases h2
      exact ⟨v, List.getElem?_set_self (by rw [f.len]; exact hl), r⟩
    · rw [List.getElem?_set_ne e1] at h2 ⊢
      exact f.fz j e h1 h2
  · have e1 : i ≠ j := fun z => by rw [z, h1] at ho; cases ho
    rw [List.getElem?_set_ne e1] at h2 ⊢
    exact f.ow j e h1 h2
  · have e1 : i ≠ j := fun z => by rw [z, h1] at ho; cases ho
    have e2 : i ≠ k := fun z => by rw [z, h2] at ho; cases ho
    rw [List.getElem?_set_ne e1] at h3 h5
    rw [List.getElem?_set_ne e2] at h4 h6
    exact f.dj j k a h1 h2 h3 h4 h5 h6
/-- a slot forgotten on both sides -/
theorem Fr.drop (f : Fr K own B O H σ ρ) (i : Nat) (x : Option V) : Fr K own B O H (σ.set i x) (ρ.set i none) := by
  have key : ∀ {j : Nat} {e : D}, (ρ.set i none)[j]? = some (some e) → i ≠ j ∧ ρ[j]? = some (some e) := fun {j e} h => by
    by_cases e1 : i = j
    · subst e1
      have hl : i < ρ.length := by
        have := (List.getElem?_eq_some_iff.mp h).1
        rwa [List.length_set] at this
      rw [List.getElem?_set_self hl] at h
      cases h
    · exact ⟨e1, by rwa [List.getElem?_set_ne e1] at h⟩
  refine ⟨by rw [List.length_set, List.length_set, f.len], fun j e h1 h2 => ?_, fun j e h1 h2 => ?_, fun j k a h1 h2 h3 h4 h5 h6 => ?_, f.mt⟩
  · obtain ⟨e1, h2⟩ := key h2
    rw [List.getElem?_set_ne e1]
    exact f.fz j e h1 h2
  · obtain ⟨e1, h2⟩ := key h2
    rw [List.getElem?_set_ne e1]
    exact f.ow j e h1 h2
  · obtain ⟨d3, h3⟩ := h3
    obtain ⟨d4, h4⟩ := h4
    obtain ⟨e1, h3⟩ := key h3
    obtain ⟨e2, h4⟩ := key h4
    rw [List.getElem?_set_ne e1] at h5
    rw [List.getElem?_set_ne e2] at h6
    exact f.dj j k a h1 h2 ⟨d3, h3⟩ ⟨d4, h4⟩ h5 h6
theorem Fr.wipe (f : Fr K own B O H σ ρ) : ∀ vs : List Nat, Fr K own B O H (L2.wipe σ vs) (wipeD ρ vs)
  | [] => f
  | v :: vs => (Fr.wipe f vs).drop v none
theorem wipe_set {σ : L2.St} {i : Nat} {x : Option V} : ∀ {vs : List Nat}, i ∈ vs → L2.wipe (σ.set i x) vs = L2.wipe σ vs
  | v :: vs, h => by
    unfold L2.wipe
    by_cases e : i ∈ vs
    · rw [wipe_set e]
    · have ev : i = v := (List.mem_cons.mp h).resolve_right e
      subst ev
      have out : ∀ {vs : List Nat} {σ : L2.St}, i ∉ vs → L2.wipe (σ.set i x) vs = (L2.wipe σ vs).set i x := by
        intro vs
        induction vs with
        | nil => intro σ _; rfl
        | cons w ws ih =>
          intro σ hn
          have h1 : w ≠ i := fun z => hn (by rw [z]; exact List.mem_cons_self)
          unfold L2.wipe
          rw [ih fun m => hn (List.mem_cons_of_mem _ m), List.set_comm _ _ (Ne.symm h1)]
      rw [out e, List.set_set]
theorem wipe_wipe {σ : L2.St} {vs : List Nat} : ∀ {ws : List Nat}, (∀ i ∈ ws, i ∈ vs) → L2.wipe (L2.wipe σ ws) vs = L2.wipe σ vs
  | [], _ => rfl
  | w :: ws, h => by
    show L2.wipe ((L2.wipe σ ws).set w none) vs = _
    rw [wipe_set (h w List.mem_cons_self)]
    exact wipe_wipe fun i m => h i (List.mem_cons_of_mem _ m)
end
/-! ### targets -/
def ptIx : Pt → List Nat
  | .one i => [i]
  | .many is => is
def setsV (σ : L2.St) : List Nat → List V → L2.St
  | i :: is, v :: vs => setsV (σ.set i (some v)) is vs
  | _, _ => σ
def gNms (is : List Nat) : TGs := fun vs σ H Q => vs.length = is.length ∧ Q (setsV σ is vs) H
def gPt (K : PySem.W.Frag) : Pt → TG
  | .one i => gName i
  | .many is => gTup K is.length (gNms is)
section
variable {X : Cx} {N : List Str} {ow : List Nat} {vs : Option (Scope × List Nat)} {sc : Scope}
theorem mNm_of {i : Nat} {x : Str} (h : mNm N ow vs sc i x = true) : N[i]? = some x ∧ Loc sc x ∧ ow.contains i = false ∧ (∀ s0 l, vs = some (s0, l) → l.contains i = true ∧ (s0.names.lookup x = some .cell ∨ sc.names.lookup x = some .local)) := by
  unfold mNm at h
  simp only [Bool.and_eq_true, decide_eq_true_eq, Bool.not_eq_true'] at h
  refine ⟨h.1, loc_of h.2.1, h.2.2.1, fun s0 l e => ?_⟩
  subst e
  have q := h.2.2.2
  simp only [Bool.and_eq_true, Bool.or_eq_true, decide_eq_true_eq] at q
  exact q
/-- how a context knows which names are its own -/
def FnOf (X : Cx) (vs : Option (Scope × List Nat)) : Prop := match vs with
  | none => ∀ x, X.fn x = true
  | some (s0, _) => ∀ x, s0.names.lookup x = some .cell → X.fn x = true
theorem pg_nm (hN : X.N = N) (hnd : X.N.Nodup) (hsc : X.env.scope = sc) (hf : FnOf X vs) {i : Nat} {x : Str} {pos : Pos} (h : mNm N ow vs sc i x = true) : PG X (.Name x pos) (gName i) := by
  obtain ⟨h1, h2, h3, h4⟩ := mNm_of h
  refine pg_name hnd (by rw [hN]; exact h1) (by rw [hsc]; exact h2) ?_
  cases vs with
  | none => exact .inl (hf x)
  | some p =>
    obtain ⟨s0, l⟩ := p
    rcases (h4 s0 l rfl).2 with q | q
    · exact .inl (hf x q)
    · exact .inr (by rw [hsc]; exact q)
theorem pgs_nms (hN : X.N = N) (hnd : X.N.Nodup) (hsc : X.env.scope = sc) (hf : FnOf X vs) : ∀ {is : List Nat} {es : List Expr}, mPts N ow vs sc is es = true → PGs X es (gNms is) ∧ (assignEach es X.env).length = is.length ∧ (assignEach es X.env).findIdx? (·.1) = none
  | [], [], _ => ⟨⟨fun pins s σ H vs us Q I r h => by
      have e : vs = [] := List.length_eq_zero_iff.mp h.1
      subst e
      cases r
      exact assignInOrder_nil ⟨σ, H, I, h.2⟩⟩, rfl, rfl⟩
  | i :: is, .Name x p :: es, h => by
    have h' : (mNm N ow vs sc i x && mPts N ow vs sc is es) = true := h
    rw [Bool.and_eq_true] at h'
    obtain ⟨h1, h2, h3⟩ := pgs_nms hN hnd hsc hf h'.2
    have c := pgs_cons (pg_nm hN hnd hsc hf h'.1 (pos := p)) h1 rfl
    refine ⟨⟨fun pins s σ H vs us Q I r h => c.run pins s σ H vs us Q I r ?_⟩, ?_, ?_⟩
    · cases vs with
      | nil => cases h.1
      | cons v w => exact ⟨v, w, rfl, Nat.succ.inj h.1, h.2⟩
    · show (assignEach es X.env).length + 1 = is.length + 1
      rw [h2]
    · show List.findIdx? _ ((false, _) :: assignEach es X.env) = none
      rw [List.findIdx?_cons]
      simp [h3]
  | [], _ :: _, h => by cases h
  | _ :: _, [], h => by cases h
  | i :: is, x :: es, h => by
    cases x with
    | Name x p =>
      have h' : (mNm N ow vs sc i x && mPts N ow vs sc is es) = true := h
      rw [Bool.and_eq_true] at h'
      obtain ⟨h1, h2, h3⟩ := pgs_nms hN hnd hsc hf h'.2
      have c := pgs_cons (pg_nm hN hnd hsc hf h'.1 (pos := p)) h1 rfl
      refine ⟨⟨fun pins s σ H vs us Q I r h => c.run pins s σ H vs us Q I r ?_⟩, ?_, ?_⟩
      · cases vs with
        | nil => cases h.1
        | cons v w => exact ⟨v, w, rfl, Nat.succ.inj h.1, h.2⟩
      · show (assignEach es X.env).length + 1 = is.length + 1
        rw [h2]
      · show List.findIdx? _ ((false, _) :: assignEach es X.env) = none
        rw [List.findIdx?_cons]
        simp [h3]
    | _ => cases h
theorem pg_pt (hc : X.calm = true) (hN : X.N = N) (hnd : X.N.Nodup) (hsc : X.env.scope = sc) (hf : FnOf X vs) {tg : Pt} {x : Expr} (h : mPt N ow vs sc tg x = true) : PG X x (gPt X.K tg) := by
  cases tg with
  | one i =>
    cases x with
    | Name x p => exact pg_nm hN hnd hsc hf h
    | _ => cases h
  | many is =>
    cases x with
    | Tuple es k p =>
      obtain ⟨h1, h2, h3⟩ := pgs_nms hN hnd hsc hf (show mPts N ow vs sc is es = true from h)
      exact pg_tup hc h1 h2 h3
    | _ => cases h
theorem mPt_own {tg : Pt} {x : Expr} (h : mPt N ow vs sc tg x = true) : ∀ i ∈ ptIx tg, owf ow i = false ∧ ∀ s0 l, vs = some (s0, l) → i ∈ l := by
  have key : ∀ {is : List Nat} {es : List Expr}, mPts N ow vs sc is es = true → ∀ i ∈ is, owf ow i = false ∧ ∀ s0 l, vs = some (s0, l) → i ∈ l := by
    intro is
    induction is with
    | nil => intro es _ i hi; cases hi
    | cons j is ih =>
      intro es h i hi
      cases es with
      | nil => cases h
      | cons y es =>
        cases y with
        | Name x p =>
          have h' : (mNm N ow vs sc j x && mPts N ow vs sc is es) = true := h
          rw [Bool.and_eq_true] at h'
          rcases List.mem_cons.mp hi with rfl | hi
          · obtain ⟨_, _, h3, h4⟩ := mNm_of h'.1
            exact ⟨h3, fun s0 l e => List.contains_iff_mem.mp (h4 s0 l e).1⟩
          · exact ih h'.2 i hi
        | _ => cases h
  cases tg with
  | one i =>
    cases x with
    | Name x p =>
      intro j hj
      obtain rfl := List.mem_singleton.mp hj
      obtain ⟨_, _, h3, h4⟩ := mNm_of (show mNm N ow vs sc _ x = true from h)
      exact ⟨h3, fun s0 l e => List.contains_iff_mem.mp (h4 s0 l e).1⟩
    | _ => cases h
  | many is =>
    cases x with
    | Tuple es k p => exact key (show mPts N ow vs sc is es = true from h)
    | _ => cases h
end
section
variable {K : PySem.W.Frag} {own : Nat → Bool} {B O : AP} {H : Hp}
theorem sets_fr : ∀ {is : List Nat} {ds : List D} {vs : List V} {σ : L2.St} {ρ : DE}, Fr K own B O H σ ρ → (∀ i ∈ is, own i = false) → RepL K (U B O) H ds vs → ds.length = is.length → Fr K own B O H (setsV σ is vs) ((is.zip ds).foldl (fun r p => r.set p.1 (some p.2)) ρ)
  | [], ds, vs, σ, ρ, f, _, r, hl => by
    have : ds = [] := List.length_eq_zero_iff.mp hl
    subst this
    rw [show vs = [] from r]
    exact f
  | i :: is, [], _, _, _, _, _, _, hl => by cases hl
  | i :: is, d :: ds, vs, σ, ρ, f, ho, r, hl => by
    obtain ⟨v, w, rfl, h1, h2⟩ := r
    have q := sets_fr (is := is) (ds := ds) (vs := w) (f.set (ho i List.mem_cons_self) h1) (fun j hj => ho j (List.mem_cons_of_mem _ hj)) h2 (Nat.succ.inj hl)
    exact q
theorem sets_wipe {ws : List Nat} : ∀ {is : List Nat} {vs : List V} {σ : L2.St}, (∀ i ∈ is, i ∈ ws) → L2.wipe (setsV σ is vs) ws = L2.wipe σ ws
  | [], _, _, _ => rfl
  | _ :: _, [], _, _ => rfl
  | i :: is, v :: vs, σ, h => by
    show L2.wipe (setsV (σ.set i (some v)) is vs) ws = _
    rw [sets_wipe fun j hj => h j (List.mem_cons_of_mem _ hj), wipe_set (h i List.mem_cons_self)]
/-- a store -/
theorem gpt_of {tg : Pt} {d : D} {v : V} {σ : L2.St} {ρ : DE} {R : DE → Prop} {Q : L2.St → Hp → Prop} (f : Fr K own B O H σ ρ) (ho : ∀ i ∈ ptIx tg, own i = false) (r : Rep K (U B O) H d v) (h : setPt tg d ρ R)
    (hq : ∀ σ' ρ', R ρ' → Fr K own B O H σ' ρ' → (∀ ws, (∀ i ∈ ptIx tg, i ∈ ws) → L2.wipe σ' ws = L2.wipe σ ws) → Q σ' H) : gPt K tg v σ H Q := by
  cases tg with
  | one i => exact hq _ _ h (f.set (ho i List.mem_cons_self) r) fun ws hw => wipe_set (hw i List.mem_cons_self)
  | many is =>
    obtain ⟨ds, rfl, hl, hr⟩ := h
    obtain ⟨a, vs, rfl, hs, rl⟩ := r
    have l2 := RepL.length rl
    exact ⟨a, vs, rfl, .inl (.inl hs), by rw [l2, hl], by rw [l2, hl], hq _ _ hr (sets_fr f ho rl hl) fun ws hw => sets_wipe hw⟩
end
/-! ### what is walked -/
/-- J gives the items of l, while C -/
def WkJ (K : PySem.W.Frag) (J : It) (C : AP → Hp → Prop) (l : List D) : Prop := ∀ A H, C A H → (∀ i, i < l.length → J.go i H) ∧ J.stop l.length H ∧ ∀ i x H', i < l.length → J.yld i H x H' → Ex 0 H H' ∧ ∃ d, l[i]? = some d ∧ Rep K A H' d x
/-- what holds on: through new things; through changes, if nothing of one's own is walked -/
structure CSt (ow : Bool) (C : AP → Hp → Prop) : Prop where
  ex : ∀ A A' H H' δ, C A H → Ex δ H H' → Grows H A A' → C A' H'
  kp : ow = false → ∀ A A' H H', C A H → Keeps A H H' → Grows H A A' → C A' H'
def ownS : E → Bool
  | .own _ => true
  | .enum e => ownB e
  | .zip a b => ownB a || ownB b
  | _ => false
def rdI (T : Tb) (K : PySem.W.Frag) (own : Nat → Bool) (W : WX) (e : E) : TI := fun σ H R => ∃ B O ρ xk Qd, FX K own W xk B O (dcE T e) H σ ρ ∧ wpE T xk e ρ Qd ∧
  (∀ w, Qd w → ∃ l, walkD w = some l ∧ ∀ J C H', Ex (dcE T e) H H' → WkJ K J C l → CSt (ownS e) C → C (U B O) H' → (∀ i, e = .own i → ∃ a, σ[i]? = some (some (.ref a)) ∧ O a ∧ ∀ A H, OwnAt K A H a w → C A H) → R J H')
section
variable {K : PySem.W.Frag}
theorem wk_lst {l : List D} {a : Addr} : WkJ K (Itl K a) (fun A H => ∃ vs, SqL K H a vs ∧ RepL K A H l vs) l := fun A H h => by
  obtain ⟨vs, hs, r⟩ := h
  have hl := RepL.length r
  refine ⟨fun i hi => ⟨vs, vs[i]'(by omega), hs, by simp [hl, hi]⟩, ⟨vs, hs, by omega⟩, fun i x H' hi y => ?_⟩
  obtain ⟨rfl, y⟩ := y
  exact ⟨Ex.refl _, RepL.get' r (y vs hs)⟩
theorem wk_tup {l : List D} {a : Addr} : WkJ K (Itt K a) (fun A H => ∃ vs, SqT K H a vs ∧ RepL K A H l vs) l := fun A H h => by
  obtain ⟨vs, hs, r⟩ := h
  have hl := RepL.length r
  refine ⟨fun i hi => ⟨vs, vs[i]'(by omega), hs, by simp [hl, hi]⟩, ⟨vs, hs, by omega⟩, fun i x H' hi y => ?_⟩
  obtain ⟨rfl, y⟩ := y
  exact ⟨Ex.refl _, RepL.get' r (y vs hs)⟩
theorem wk_str {z : Str} : WkJ K (Its z) (fun _ _ => True) (z.cps.toList.map fun c => .str ⟨#[c]⟩) := fun A H _ => by
  refine ⟨fun i hi => (show i < z.cps.size by simpa using hi), by simp [Its], fun i x H' hi y => ?_⟩
  obtain ⟨rfl, c, hc, rfl⟩ := y
  exact ⟨Ex.refl _, .str ⟨#[c]⟩, by simp [hc], rfl⟩
theorem wk_range {lo : Int} {n : Nat} : WkJ K (Itr lo n) (fun _ _ => True) ((List.range n).map fun (k : Nat) => .int (lo + (k : Int))) := fun A H _ => by
  refine ⟨fun i hi => (show i < n by simpa using hi), by simp [Itr], fun i x H' hi y => ?_⟩
  obtain ⟨rfl, rfl⟩ := y
  have hi' : i < n := by simpa using hi
  exact ⟨Ex.refl _, .int (lo + i), by simp [hi'], rfl⟩
theorem cst_true {b : Bool} : CSt b fun _ _ => True := ⟨fun _ _ _ _ _ _ _ _ => trivial, fun _ _ _ _ _ _ _ _ => trivial⟩
end
/-- a list, a tuple, a text -/
def iSeq (K : PySem.W.Frag) (te : TE) : TI := fun σ H R => te σ H fun x H1 => (∃ a, x = .ref a ∧ (∃ xs, SqL K H1 a xs) ∧ R (Itl K a) H1) ∨ (∃ a, x = .ref a ∧ (∃ xs, SqT K H1 a xs) ∧ R (Itt K a) H1) ∨ ∃ z, x = .str z ∧ R (Its z) H1
theorem pi_seq {X : Cx} {tg l : Expr} {te : TE} (hl : PE X l te) : PI X tg l (iSeq X.K te) := by
  refine ⟨fun pins s σ H R I h => ?_⟩
  refine thn (hl.run pins s σ H _ I h) fun v s1 ⟨x, H1, I1, r1, q1⟩ => ?_
  rcases q1 with ⟨a, e, ⟨xs, hq⟩, q⟩ | ⟨a, e, ⟨xs, hq⟩, q⟩ | ⟨z, e, q⟩
  · subst e
    cases r1
    obtain ⟨its, rv, p, hz⟩ := I1.list hq
    exact wpAny_pyIter_list p.isList (pi_one (tk := s1.toks) I1 _ (turn_list a _) ⟨_, Heap.get?_push_size _ rfl, rfl, rfl⟩ q)
  · subst e
    cases r1
    obtain ⟨its, rv, p, hz⟩ := I1.tuple hq
    exact wpAny_pyIter_tuple (show s1.heap.IsTuple a its.toArray from p) (pi_one (tk := s1.toks) I1 _ (turn_tuple a _) ⟨_, Heap.get?_push_size _ rfl, rfl, rfl⟩ q)
  · subst e
    obtain ⟨t, rfl⟩ := r1
    cases ha : z.cps.all (· < 128)
    · exact wpAny_pyIter_wide ha (pi_one (tk := s1.toks) I1 _ (turn_str _ z t "str_iterator" (.inr rfl)) ⟨_, Heap.get?_push_size _ rfl, rfl, rfl⟩ q)
    · exact wpAny_pyIter_ascii ha (pi_one (tk := s1.toks) I1 _ (turn_str _ z t "str_ascii_iterator" (.inl rfl)) ⟨_, Heap.get?_push_size _ rfl, rfl, rfl⟩ q)
end DL

/-! D2: iterators; comprehensions -/
namespace DL
open PySem PySem.Spec PyProof.Rows L2 Evl

def W0 : WX := fun _ _ _ _ => False
theorem keeps_upd {A : AP} {H : Hp} {p : Addr} {o o' : HO} (ha : A p) (hp : H p = some o) (hm : isMt o = true) : Keeps A H (upd H p o') := fun b ob hb nb => by
  by_cases e : b = p
  · subst e
    rw [hp] at hb
    cases hb
    rw [nb ha] at hm
    cases hm
  · exact .inl (by rw [upd_ne e]; exact hb)
theorem ex_upd {H H' : Hp} {p : Addr} {o : HO} {δ : Nat} (hp : H p = none) (e : Ex δ H H') (hx : isX o = false := by rfl) : Ex δ H (upd H' p o) := by
  refine ⟨fun b ob hb => ?_, fun c q a s n ea => ?_⟩
  · have nb := ne_of_none hb hp
    rcases e.kp b ob hb with z | ⟨s, n, n', rfl, z⟩
    · exact .inl (by rw [upd_ne nb]; exact z)
    · exact .inr ⟨s, n, n', rfl, by rw [upd_ne nb]; exact z⟩
  · by_cases z : a = p
    · subst z
      rw [upd_same] at ea
      cases ea
      cases hx
    · rw [upd_ne z] at ea
      exact e.ct c q a s n ea
theorem takes0 {X : Cx} : L2N.Takes X W0 := fun u s' ⟨_, _, _, _, _, _, _, _, _, _, _, _, _, _, _, _, w⟩ => w.elim
theorem xok0 {K : PySem.W.Frag} {σ : L2.St} {H : Hp} {W : WX} {δ : Nat} : XOk K W (fun _ => False) σ δ H := fun x hx => hx.elim
section
variable {T : Tb} {L : Nat} {W : WX} {X : Cx} {ow : List Nat}
theorem Good.blk (G : Good T L W X) (s : Shared) (H : Hp) (scope : Scope) (cenv : PySem.Env) (fp : List Addr) : Good T L W0 (X.blk s H scope cenv fp) := ⟨G.nd, G.calm, G.room, G.guards, takes0, G.tab⟩
theorem fold_of {i : Expr} {env : PySem.Env} (h : noSet i = true) : ∀ x, foldedSetIterable i env x = pure x := by
  cases i with
  | Set a b c => cases h
  | _ => exact fun _ => rfl
/-! iterators -/
theorem rep_wk {K : PySem.W.Frag} {A : AP} {H : Hp} {w : D} {v : V} {l : List D} (hw : walkD w = some l) (r : Rep K A H w v) :
    ∃ C, C A H ∧ CSt false C ∧ ((∃ a, v = .ref a ∧ (∃ xs, SqL K H a xs) ∧ WkJ K (Itl K a) C l) ∨ (∃ a, v = .ref a ∧ (∃ xs, SqT K H a xs) ∧ WkJ K (Itt K a) C l) ∨ ∃ z, v = .str z ∧ WkJ K (Its z) C l) := by
  have cst : CSt false (fun A H => Rep K A H w v) := ⟨fun A A' H H' δ h e g => Rep.keep (keeps_ex e) g _ _ h, fun _ A A' H H' h k g => Rep.keep k g _ _ h⟩
  refine ⟨fun A H => Rep K A H w v, r, cst, ?_⟩
  cases w with
  | lst m =>
    cases hw
    obtain ⟨a, vs, rfl, na, hs, rl⟩ := r
    refine .inl ⟨a, rfl, ⟨vs, .inl (.inl hs)⟩, fun A H h => wk_lst A H ?_⟩
    obtain ⟨a', vs', e, _, hs', rl'⟩ := h
    cases e
    exact ⟨vs', .inl (.inl hs'), rl'⟩
  | tup m =>
    cases hw
    obtain ⟨a, vs, rfl, hs, rl⟩ := r
    refine .inr (.inl ⟨a, rfl, ⟨vs, .inl (.inl hs)⟩, fun A H h => wk_tup A H ?_⟩)
    obtain ⟨a', vs', e, hs', rl'⟩ := h
    cases e
    exact ⟨vs', .inl (.inl hs'), rl'⟩
  | kt m =>
    cases hw
    obtain ⟨a, vs, rfl, hs, rl⟩ := r
    refine .inr (.inl ⟨a, rfl, ⟨vs, hs _⟩, fun A H h => wk_tup A H ?_⟩)
    obtain ⟨a', vs', e, hs', rl'⟩ := h
    cases e
    exact ⟨vs', hs' _, rl'⟩
  | str z =>
    cases hw
    rw [show v = .str z from r]
    exact .inr (.inr ⟨z, rfl, fun A H h => wk_str A H trivial⟩)
  | _ => cases hw
theorem c_iseq {e : E} {tg x : Expr} (h1 : ownB e = false) (h2 : ownS e = false) (he : PE X x (rdE T X.K (owf ow) W e)) : PI X tg x (rdI T X.K (owf ow) W e) := by
  refine (pi_seq he).imp fun σ H R h => ?_
  obtain ⟨B, O, ρ, xk, Qd, f, hq, hf⟩ := h
  refine ⟨B, O, ρ, xk, Qd, f, hq, fun d hd v H' ex r => ?_⟩
  obtain ⟨l, hl, q⟩ := hf d hd
  obtain ⟨C, hC, cst, hc⟩ := rep_wk hl (r.2.1 h1)
  have no : ∀ i, e = .own i → ∃ a, σ[i]? = some (some (.ref a)) ∧ O a ∧ ∀ A H, OwnAt X.K A H a d → C A H := fun i z => by rw [z] at h1; cases h1
  rw [h2] at q
  rcases hc with ⟨a, ev, hs, wk⟩ | ⟨a, ev, hs, wk⟩ | ⟨z, ev, wk⟩
  · exact .inl ⟨a, ev, hs, q _ C H' ex wk cst hC no⟩
  · exact .inr (.inl ⟨a, ev, hs, q _ C H' ex wk cst hC no⟩)
  · exact .inr (.inr ⟨z, ev, q _ C H' ex wk cst hC no⟩)
theorem c_iown {i : Nat} {x : Str} {tg : Expr} {pos : Pos} (hN : X.N[i]? = some x) (hv : Vis X.env.scope x) (hnm : okNm x = true) (ho : owf ow i = true) : PI X tg (.Name x pos) (rdI T X.K (owf ow) W (.own i)) := by
  refine (pi_list (pe_var hN hv (nm_of hnm).1 (nm_of hnm).2)).imp fun σ H R h => ?_
  obtain ⟨B, O, ρ, xk, Qd, f, ⟨d, hd, hq⟩, hf⟩ := h
  obtain ⟨a, h1, h2, h3⟩ := f.fr.ow i d ho hd
  obtain ⟨l, hl, q⟩ := hf d hq
  cases d with
  | lst m =>
    cases hl
    obtain ⟨vs, hs, rl⟩ := h3
    refine ⟨_, h1, a, rfl, ⟨vs, .inl (.inl hs)⟩, q _ (fun A H => OwnAt X.K A H a (.lst l)) H (Ex.refl H) (fun A H h => wk_lst A H ?_) ⟨fun A A' H H' δ h e g => OwnAt.keep (keeps_ex e) g (fun o z y => e.at z y) h, fun z => by cases z⟩ ⟨vs, hs, rl⟩ fun j e => ?_⟩
    · obtain ⟨vs', hs', rl'⟩ := h
      exact ⟨vs', .inl (.inl hs'), rl'⟩
    · cases e
      exact ⟨a, h1, h2, fun A H h => h⟩
  | tup m => exact h3.elim
  | kt m => exact h3.elim
  | str m => exact h3.elim
  | _ => cases hl
theorem a_one' {a : E} {y : Expr} (hs : noStar y = true) (h : PE X y (rdE T X.K (owf ow) W a)) : PA X [y] (fun σ H Q => rdE T X.K (owf ow) W a σ H fun v H1 => Q [v] H1) :=
  (pa_cons h pa_nil (star_of hs)).imp fun σ H Q q => q
theorem a_two {a b : E} {y z : Expr} (h1 : noStar y = true) (h2 : noStar z = true) (ha : PE X y (rdE T X.K (owf ow) W a)) (hb : PE X z (rdE T X.K (owf ow) W b)) :
    PA X [y, z] (fun σ H Q => rdE T X.K (owf ow) W a σ H fun v H1 => rdE T X.K (owf ow) W b σ H1 fun u H2 => Q [v, u] H2) :=
  (pa_cons ha (pa_cons hb pa_nil (star_of h2)) (star_of h1)).imp fun σ H Q q => q
theorem rng_fin {K : PySem.W.Frag} {B O : AP} {R : It → Hp → Prop} {Qd : DK} {e : E} {σ : L2.St} {H H1 : Hp} {lo : Int} {n δ : Nat} (no : ∀ i, e ≠ .own i)
    (hf : ∀ w, Qd w → ∃ l, walkD w = some l ∧ ∀ J C H', Ex δ H H' → WkJ K J C l → CSt (ownS e) C → C (U B O) H' → (∀ i, e = .own i → ∃ a, σ[i]? = some (some (.ref a)) ∧ O a ∧ ∀ A H, OwnAt K A H a w → C A H) → R J H')
    (e1 : Ex δ H H1) (q : Qd (.lst ((List.range n).map fun (k : Nat) => .int (lo + (k : Int))))) : R (Itr lo n) H1 := by
  obtain ⟨l, hl, k⟩ := hf _ q
  cases hl
  exact k _ _ H1 e1 wk_range cst_true trivial fun i z => absurd z (no i)
theorem c_irng (G : Good T L W X) {a : E} {y tg : Expr} {p pos : Pos} (hg : Gl X "range") (hs : noStar y = true) (h : PE X y (rdE T X.K (owf ow) W a)) : PI X tg (.Call (.Name "range" p) [y] [] pos) (rdI T X.K (owf ow) W (.rng a)) := by
  refine (pi_range1 hg G.tab.range (a_one' hs h) (star_of hs)).imp fun σ H R h => ?_
  obtain ⟨B, O, ρ, xk, Qd, f, hq, hf⟩ := h
  refine ⟨B, O, ρ, xk, _, f, hq, fun d hd v H1 e1 r => ?_⟩
  obtain ⟨n, rfl, h1, h2, q⟩ := hd
  exact ⟨n, by rw [rb_int r.1], h1, h2, rng_fin (fun i z => by cases z) hf e1 q⟩
theorem c_irng2 (G : Good T L W X) {a b : E} {y z tg : Expr} {p pos : Pos} (hg : Gl X "range") (hs : noStar y = true) (hs2 : noStar z = true) (h : PE X y (rdE T X.K (owf ow) W a)) (h2 : PE X z (rdE T X.K (owf ow) W b)) :
    PI X tg (.Call (.Name "range" p) [y, z] [] pos) (rdI T X.K (owf ow) W (.rng2 a b)) := by
  refine (pi_range2 hg G.tab.range (a_two hs hs2 h h2) (by rw [star_of hs, star_of hs2]; rfl) (star_of hs2)).imp fun σ H R h => ?_
  obtain ⟨B, O, ρ, xk, Qd, f, hq, hf⟩ := h
  refine ⟨B, O, ρ, xk, _, f.l, hq, fun d hd v H1 e1 r1 => ⟨B, O, ρ, xk, _, f.ex e1, hd, fun d2 hd2 v2 H2 e2 r2 => ?_⟩⟩
  obtain ⟨i, j, rfl, rfl, hb, q⟩ := hd2
  exact ⟨i, j, by rw [rb_int r1.1, rb_int r2.1], hb, rng_fin (fun i z => by cases z) hf (e1.trans e2) q⟩
/-- a new pair -/
theorem wk_enum {K : PySem.W.Frag} {l : List D} {a : Addr} : WkJ K (Ite K a) (fun A H => ∃ vs, SqL K H a vs ∧ RepL K A H l vs) (l.zipIdx.map fun p => .tup [.int (p.2 : Int), p.1]) := fun A H h => by
  obtain ⟨vs, hs, r⟩ := h
  have hl := RepL.length r
  have w := walk_enum (K := K) (a := a) (xs := vs)
  have len : (l.zipIdx.map fun p => D.tup [.int (p.2 : Int), p.1]).length = vs.length := by simp [hl]
  rw [len]
  refine ⟨fun i hi => w.goes i H hi hs, w.stops H hs, fun i x H' hi y => ?_⟩
  obtain ⟨t, u, v, rfl, hn, rfl, hu, hv⟩ := w.yields i H x H' hi hs y
  cases hu
  obtain ⟨d, hd, rd⟩ := RepL.get' r hv
  have ex := Ex.new (o := HO.tup [.int (i : Int), v]) hn
  refine ⟨ex, .tup [.int (i : Int), d], ?_, t, _, rfl, upd_same, .int (i : Int), [v], rfl, rfl, v, [], rfl, rd.ex ex, rfl⟩
  simp [List.getElem?_map, List.getElem?_zipIdx, hd]
theorem wk_zip {K : PySem.W.Frag} {l m : List D} {a b : Addr} : WkJ K (Itz K a b) (fun A H => (∃ vs, SqL K H a vs ∧ RepL K A H l vs) ∧ ∃ us, SqL K H b us ∧ RepL K A H m us) ((l.zip m).map fun p => .tup [p.1, p.2]) := fun A H h => by
  obtain ⟨⟨vs, hs, r⟩, us, hs2, r2⟩ := h
  have hl := RepL.length r
  have hl2 := RepL.length r2
  have len : ((l.zip m).map fun p => D.tup [p.1, p.2]).length = min vs.length us.length := by simp [hl, hl2]
  have w := walk_zip (K := K) (a := a) (b := b) (xs := vs) (ys := us) len
  refine ⟨fun i hi => w.goes i H hi ⟨hs, hs2⟩, w.stops H ⟨hs, hs2⟩, fun i x H' hi y => ?_⟩
  obtain ⟨t, u, v, rfl, hn, rfl, hu, hv⟩ := w.yields i H x H' hi ⟨hs, hs2⟩ y
  obtain ⟨d, hd, rd⟩ := RepL.get' r hu
  obtain ⟨d2, hd2, rd2⟩ := RepL.get' r2 hv
  have ex := Ex.new (o := HO.tup [u, v]) hn
  refine ⟨ex, .tup [d, d2], ?_, t, _, rfl, upd_same, u, [v], rfl, rd.ex ex, v, [], rfl, rd2.ex ex, rfl⟩
  have hz : (l.zip m)[i]? = some (d, d2) := List.getElem?_zip_eq_some.mpr ⟨hd, hd2⟩
  rw [List.getElem?_map, hz]
  rfl
theorem cst_rep {K : PySem.W.Frag} {b : Bool} {w : D} {v : V} : CSt b (fun A H => Rep K A H w v) := ⟨fun A A' H H' δ h e g => Rep.keep (keeps_ex e) g _ _ h, fun _ A A' H H' h k g => Rep.keep k g _ _ h⟩
theorem c_ienum (G : Good T L W X) {a : E} {y : Expr} {elts : List Expr} {kk : Nat} {p pos tpos : Pos} (hg : Gl X "enumerate") (hs : noStar y = true) (ho : ownB a = false) (h : PE X y (rdE T X.K (owf ow) W a)) :
    PI X (.Tuple elts kk tpos) (.Call (.Name "enumerate" p) [y] [] pos) (rdI T X.K (owf ow) W (.enum a)) := by
  refine (pi_enum hg G.tab.enum (a_one' hs h) (star_of hs)).imp fun σ H R h => ?_
  obtain ⟨B, O, ρ, xk, Qd, f, hq, hf⟩ := h
  refine ⟨B, O, ρ, xk, _, f, hq, fun d hd v H1 e1 r => ?_⟩
  cases d with
  | lst l =>
    have rep := r.2.1 ho
    obtain ⟨a', vs, rfl, na, hs, rl⟩ := id rep
    obtain ⟨l', hl', k⟩ := hf _ hd
    cases hl'
    refine ⟨a', vs, rfl, .inl (.inl hs), k _ (fun A H => Rep X.K A H (.lst l) (.ref a')) H1 e1 (fun A H h => wk_enum A H ?_) cst_rep rep fun i z => by cases z⟩
    obtain ⟨b, us, e, _, hs', rl'⟩ := h
    cases e
    exact ⟨us, .inl (.inl hs'), rl'⟩
  | _ => exact (show False from hd).elim
theorem wk_zipT {K : PySem.W.Frag} {l m : List D} {a b : Addr} : WkJ K (RZ.ItzT K a b) (fun A H => (∃ vs, SqT K H a vs ∧ RepL K A H l vs) ∧ ∃ us, SqT K H b us ∧ RepL K A H m us) ((l.zip m).map fun p => .tup [p.1, p.2]) := fun A H h => by
  obtain ⟨⟨vs, hs, r⟩, us, hs2, r2⟩ := h
  have hl := RepL.length r
  have hl2 := RepL.length r2
  have len : ((l.zip m).map fun p => D.tup [p.1, p.2]).length = min vs.length us.length := by simp [hl, hl2]
  rw [len]
  refine ⟨fun i hi => ⟨vs, us, vs[i]'(by omega), us[i]'(by omega), hs, hs2, by simp [show i < vs.length by omega], by simp [show i < us.length by omega]⟩, ⟨vs, us, hs, hs2, by omega⟩, fun i x H' hi y => ?_⟩
  obtain ⟨t, u, v, rfl, hn, rfl, hu, hv⟩ := y
  obtain ⟨d, hd, rd⟩ := RepL.get' r (hu vs hs)
  obtain ⟨d2, hd2, rd2⟩ := RepL.get' r2 (hv us hs2)
  have ex := Ex.new (o := HO.tup [u, v]) hn
  refine ⟨ex, .tup [d, d2], ?_, t, _, rfl, upd_same, u, [v], rfl, rd.ex ex, v, [], rfl, rd2.ex ex, rfl⟩
  have hz : (l.zip m)[i]? = some (d, d2) := List.getElem?_zip_eq_some.mpr ⟨hd, hd2⟩
  rw [List.getElem?_map, hz]
  rfl
theorem cst_rep2 {K : PySem.W.Frag} {w w2 : D} {v v2 : V} : CSt false (fun A H => Rep K A H w v ∧ Rep K A H w2 v2) :=
  ⟨fun A A' H H' δ h e g => ⟨Rep.keep (keeps_ex e) g _ _ h.1, Rep.keep (keeps_ex e) g _ _ h.2⟩, fun _ A A' H H' h k g => ⟨Rep.keep k g _ _ h.1, Rep.keep k g _ _ h.2⟩⟩
theorem c_izip (G : Good T L W X) {a b : E} {y z : Expr} {elts : List Expr} {kk : Nat} {p pos tpos : Pos} (hg : Gl X "zip") (hs : noStar y = true) (hs2 : noStar z = true) (ho : ownB a = false) (ho2 : ownB b = false)
    (h : PE X y (rdE T X.K (owf ow) W a)) (h2 : PE X z (rdE T X.K (owf ow) W b)) : PI X (.Tuple elts kk tpos) (.Call (.Name "zip" p) [y, z] [] pos) (rdI T X.K (owf ow) W (.zip a b)) := by
  have os : ownS (.zip a b) = false := by
    show (ownB a || ownB b) = false
    rw [ho, ho2]
    rfl
  refine (RZ.pi_zipA hg G.tab.zip (a_two hs hs2 h h2) (star_of hs) (by rw [star_of hs2]; rfl)).imp fun σ H R h => ?_
  obtain ⟨B, O, ρ, xk, Qd, f, hq, hf⟩ := h
  refine ⟨B, O, ρ, xk, _, f.l, hq, fun d hd v H1 e1 r => ⟨B, O, ρ, xk, _, f.ex e1, hd, fun d2 hd2 v2 H2 e2 r2 => ?_⟩⟩
  have rep := (r.2.1 ho).ex e2
  have rep2 := r2.2.1 ho2
  rw [os] at hf
  split at hd2
  · obtain ⟨a', vs, rfl, na, hs, rl⟩ := id rep
    obtain ⟨b', us, rfl, nb, hs2, rl2⟩ := id rep2
    obtain ⟨l', hl', k⟩ := hf _ hd2
    cases hl'
    refine ⟨a', b', vs, us, rfl, .inl ⟨.inl (.inl hs), .inl (.inl hs2), k _ (fun A H => Rep X.K A H _ (.ref a') ∧ Rep X.K A H _ (.ref b')) H2 (e1.trans e2) (fun A H h => wk_zip A H ?_) cst_rep2 ⟨rep, rep2⟩ fun i z => by cases z⟩⟩
    obtain ⟨⟨b, us, e, _, hs', rl'⟩, b2, us2, e2, _, hs2', rl2'⟩ := h
    cases e
    cases e2
    exact ⟨⟨us, .inl (.inl hs'), rl'⟩, us2, .inl (.inl hs2'), rl2'⟩
  · obtain ⟨a', vs, rfl, hs, rl⟩ := id rep
    obtain ⟨b', us, rfl, hs2, rl2⟩ := id rep2
    obtain ⟨l', hl', k⟩ := hf _ hd2
    cases hl'
    refine ⟨a', b', vs, us, rfl, .inr ⟨.inl (.inl hs), .inl (.inl hs2), k _ (fun A H => Rep X.K A H _ (.ref a') ∧ Rep X.K A H _ (.ref b')) H2 (e1.trans e2) (fun A H h => wk_zipT A H ?_) cst_rep2 ⟨rep, rep2⟩ fun i z => by cases z⟩⟩
    obtain ⟨⟨b, us, e, hs', rl'⟩, b2, us2, e2, hs2', rl2'⟩ := h
    cases e
    cases e2
    exact ⟨⟨us, .inl (.inl hs'), rl'⟩, us2, .inl (.inl hs2'), rl2'⟩
  · exact hd2.elim
end
end DL

/-! D3: comprehensions -/
namespace DL
open PySem PySem.Spec PyProof.Rows L2 Evl

def rdTs (T : Tb) (K : PySem.W.Frag) (own : Nat → Bool) (W : WX) (es : List E) : TT := fun σ H Q => ∃ B O ρ xk Qd, FX K own W xk B O (dcEs T es) H σ ρ ∧ wpT T xk es ρ Qd ∧ (∀ b, Qd b → ∀ H', Ex (dcEs T es) H H' → Q b H')
section
variable {T : Tb} {L : Nat} {W : WX} {X : Cx} {ow : List Nat}
theorem ts_nil : PTs X [] (rdTs T X.K (owf ow) W []) := ⟨fun pins s σ H Q I h => pts_nil.run pins s σ H Q I (by
  obtain ⟨B, O, ρ, xk, Qd, f, hq, hf⟩ := h
  exact hf true hq H (Ex.refl H))⟩
theorem ts_one {e : E} {c : Expr} (h : PT X c (rdT T X.K (owf ow) W e)) : PTs X [c] (rdTs T X.K (owf ow) W [e]) := ⟨fun pins s σ H Q I q => (pts_one h).run pins s σ H Q I (by
  obtain ⟨B, O, ρ, xk, Qd, f, hq, hf⟩ := q
  refine ⟨B, O, ρ, xk, _, f, (show wpE T xk e ρ fun d => ∃ b, d = .bl b ∧ if b = true then Qd true else Qd false from hq), fun d hd => ?_⟩
  obtain ⟨b, rfl, q⟩ := hd
  refine ⟨b, rfl, fun H' e => ?_⟩
  cases b with
  | true => exact hf true q H' e
  | false => exact hf false q H' e)⟩
end
section
variable {T : Tb} {K : PySem.W.Frag} {own : Nat → Bool} {B O : AP} {H1 : Hp} {σ : L2.St} {ρ : DE}
/-- a block's frame: its new thing at p may change -/
theorem Fr.into (f : Fr K own B O H1 σ ρ) {p : Addr} (hp : H1 p = none) {H : Hp} {δ : Nat} (e : Ex δ H1 H) (hm : ∃ o, H p = some o ∧ isMt o = true) : Fr K own (fun a => B a ∨ a = p) O H σ ρ := by
  have g : Grows H1 (U B O) (U (fun a => B a ∨ a = p) O) := fun b o hb n z => by
    rcases z with (z | z) | z
    · exact n (.inl z)
    · rw [z, hp] at hb
      cases hb
    · exact n (.inr z)
  refine ⟨f.len, fun i d h1 h2 => ?_, fun i d h1 h2 => ?_, f.dj, fun a h => ?_⟩
  · obtain ⟨v, h3, h4⟩ := f.fz i d h1 h2
    exact ⟨v, h3, Rep.keep (keeps_ex e) g _ _ h4⟩
  · obtain ⟨a, h3, h4, h5⟩ := f.ow i d h1 h2
    exact ⟨a, h3, h4, OwnAt.keep (keeps_ex e) g (fun o q z => e.at q z) h5⟩
  · rcases h with (h | h) | h
    · exact mt_ex e (f.mt a (.inl h))
    · rw [h]
      exact hm
    · exact mt_ex e (f.mt a (.inr h))
theorem grows_into {p : Addr} (hp : H1 p = none) : Grows H1 (U B O) (U (fun a => B a ∨ a = p) O) := fun b o hb n z => by
  rcases z with (z | z) | z
  · exact n (.inl z)
  · rw [z, hp] at hb
    cases hb
  · exact n (.inr z)
theorem less_into {p : Addr} : ∀ a, U (U B O) (· = p) a → U (fun a => B a ∨ a = p) O a := fun a z => by
  rcases z with (z | z) | z
  · exact .inl (.inl z)
  · exact .inr z
  · exact .inl (.inr z)
theorem drop_at {α : Type} {l : List α} {i : Nat} {d : α} (h : l[i]? = some d) : l.drop i = d :: l.drop (i + 1) := by
  obtain ⟨hi, e⟩ := List.getElem?_eq_some_iff.mp h
  rw [List.drop_eq_getElem_cons hi, e]
abbrev lcStep (T : Tb) (tg : Pt) (ρ : DE) (ifs : List E) (e : E) : D → (Option D → Prop) → Prop := fun d R => setPt tg d ρ fun ρ' => wpT T (fun _ => False) ifs ρ' fun b => if b = true then wpE T (fun _ => False) e ρ' fun x => R (some x) else R none
theorem lp_le {α : Type} {l : List α} {δ i : Nat} (h : δ = 0 ∨ l.length ≤ wkL) (hi : i ≤ l.length) : i * δ ≤ wkL * δ := by
  rcases h with rfl | h
  · exact Nat.le_refl _
  · exact Nat.mul_le_mul_right δ (Nat.le_trans hi h)
theorem lc_turns {J : It} {C : AP → Hp → Prop} {l : List D} {bo : Bool} {vs : List Nat} {tg : Pt} {ifs : List E} {e : E} {p : Addr} {Qr : List D → Prop} {Qd : Hp → Prop} (f : Fr K own B O H1 σ ρ) (hR : Rm H1 (wkL * (dcEs T ifs + dcE T e))) (hlp : dcEs T ifs + dcE T e = 0 ∨ l.length ≤ wkL) (hp : H1 p = none) (wk : WkJ K J C l) (cst : CSt bo C) (hC : C (U B O) H1)
    (ho : ∀ i ∈ ptIx tg, own i = false ∧ i ∈ vs) (he : ownB e = false) (hw : lcW (lcStep T tg (wipeD ρ vs) ifs e) l [] Qr)
    (hd : ∀ r us H, Qr r → Ex (wkL * (dcEs T ifs + dcE T e)) H1 H → H p = some (.lst us) → RepL K (U (U B O) (· = p)) H r us → Qd H) :
    ∃ W : Nat → Nat → Hp → Prop, (∃ m, W 0 m (upd H1 p (.lst []))) ∧ ∀ i m H, W i m H →
      (J.stop i H ∧ Qd H) ∨ (J.go i H ∧ ∃ Nx : Hp → Prop, (∀ H', Nx H' → ∃ m', m' < m ∧ W (i + 1) m' H') ∧ ∀ x H', J.yld i H x H' → gPt K tg x (L2.wipe σ vs) H' fun σ2 H2 => L2.wipe σ2 vs = L2.wipe σ vs ∧ rdTs T K own W0 ifs σ2 H2 fun b H3 =>
        if b = true then rdE T K own W0 e σ2 H3 fun y H4 => ∃ acc, H4 p = some (.lst acc) ∧ acc.length < sizeLine ∧ Nx (upd H4 p (.lst (acc ++ [y]))) else Nx H3) := by
  have w : Walk J l.length (fun H => C (U (fun a => B a ∨ a = p) O) H) (fun i H x H' => Ex 0 H H' ∧ ∃ d, l[i]? = some d ∧ Rep K (U (fun a => B a ∨ a = p) O) H' d x) :=
    ⟨fun i H hi h => (wk _ H h).1 i hi, fun H h => (wk _ H h).2.1, fun i H x H' hi h y => (wk _ H h).2.2 i x H' hi y⟩
  generalize hδ : dcEs T ifs + dcE T e = δ at hR hlp hd
  refine lc_it w (fun i H => ∃ acc us, Ex (i * δ) H1 H ∧ H p = some (.lst us) ∧ RepL K (U (fun a => B a ∨ a = p) O) H acc us ∧ lcW (lcStep T tg (wipeD ρ vs) ifs e) (l.drop i) acc Qr) ⟨[], [], (Ex.new hp).any, upd_same, rfl, hw⟩ (fun i H _ h => ?_) (fun i x H H' hi h y => ?_) (fun H h => ?_)
  · obtain ⟨acc, us, e1, _⟩ := h
    exact cst.ex _ _ _ _ _ hC e1 (grows_into hp)
  · obtain ⟨acc, us, e1, hus, ra, hl⟩ := h
    obtain ⟨e2, d, hd, r⟩ := y
    rw [drop_at hd] at hl
    obtain ⟨hlt, hl⟩ := hl
    have hus' := e2.at hus rfl
    have fr : Fr K own (fun a => B a ∨ a = p) O H' (L2.wipe σ vs) (wipeD ρ vs) := ((f.into hp (e1.trans e2) ⟨_, hus', rfl⟩).wipe vs)
    have step : (i + 1) * δ = i * δ + δ := Nat.succ_mul i δ
    have hle := lp_le hlp (show i + 1 ≤ l.length from hi)
    have rm : Rm H' (dcEs T ifs + dcE T e) := by
      rw [hδ]
      exact ((hR.le (by rw [← step]; exact hle : i * δ + δ ≤ wkL * δ)).ex e1).ex0 e2
    refine gpt_of fr (fun i hi => (ho i hi).1) r hl fun σ2 ρ2 hr f2 hwp => ⟨(hwp vs fun i hi => (ho i hi).2).trans (wipe_wipe fun i hi => hi), _, _, ρ2, _, _, ⟨f2, rm.l, xok0⟩, hr, fun b hb H3 e3 => ?_⟩
    cases b with
    | false => exact ⟨acc, us, ((e1.trans e2).trans e3).le (by rw [step, ← hδ]; omega), e3.at hus' rfl, (ra.ex e2).ex e3, hb⟩
    | true =>
      refine ⟨_, _, ρ2, _, _, ⟨f2.ex e3, rm.ex e3, xok0⟩, hb, fun dx hx v H4 e4 r4 => ?_⟩
      have h4 : H4 p = some (.lst us) := e4.at (e3.at hus' rfl) rfl
      have ap : U (fun a => B a ∨ a = p) O p := .inl (.inr rfl)
      have k := keeps_upd (o' := .lst (us ++ [v])) ap h4 rfl
      refine ⟨us, h4, by rw [RepL.length ra]; exact hlt, acc ++ [dx], us ++ [v], ex_upd hp ((((e1.trans e2).trans e3).trans e4).le (by rw [step, ← hδ]; omega)), upd_same, ?_, hx⟩
      exact RepL.append (RepL.keep k grows_refl _ _ (((ra.ex e2).ex e3).ex e4)) (repL_one (Rep.keep k grows_refl _ _ (r4.2.1 he)))
  · obtain ⟨acc, us, e1, hus, ra, hl⟩ := h
    rw [List.drop_length] at hl
    exact hd acc us H hl (e1.le (lp_le hlp (Nat.le_refl _))) hus (RepL.keep keeps_refl (grows_less less_into) _ _ ra)
/-- a dict's items -/
theorem rep_putK {A : AP} {H : Hp} {k : Key} {d : D} {v : V} : ∀ {l : List (Key × D)} {vs : List (Key × V)}, RepK K A H l vs → Rep K A H d v → RepK K A H (putD l k d) (putK vs k v) := by
  have any : ∀ {l : List (Key × D)} {vs : List (Key × V)}, RepK K A H l vs → (l.any fun kv => decide (kv.1 = k)) = (vs.any fun kv => decide (kv.1 = k)) := by
    intro l
    induction l with
    | nil => intro vs r; rw [show vs = [] from r]; rfl
    | cons x l ih =>
      intro vs r
      obtain ⟨k', d'⟩ := x
      obtain ⟨v', w, rfl, h1, h2⟩ := r
      rw [List.any_cons, List.any_cons, ih h2]
  have mp : ∀ {l : List (Key × D)} {vs : List (Key × V)}, RepK K A H l vs → Rep K A H d v → RepK K A H (l.map fun kv => if kv.1 = k then (kv.1, d) else kv) (vs.map fun kv => if kv.1 = k then (kv.1, v) else kv) := by
    intro l
    induction l with
    | nil => intro vs r _; rw [show vs = [] from r]; rfl
    | cons x l ih =>
      intro vs r hd
      obtain ⟨k', d'⟩ := x
      obtain ⟨v', w, rfl, h1, h2⟩ := r
      rw [List.map_cons, List.map_cons]
      by_cases e : k' = k
      · rw [if_pos e, if_pos e]
        exact ⟨v, _, rfl, hd, ih h2 hd⟩
      · rw [if_neg e, if_neg e]
        exact ⟨v', _, rfl, h1, ih h2 hd⟩
  have ap : ∀ {l : List (Key × D)} {vs : List (Key × V)}, RepK K A H l vs → Rep K A H d v → RepK K A H (l ++ [(k, d)]) (vs ++ [(k, v)]) := by
    intro l
    induction l with
    | nil => intro vs r hd; rw [show vs = [] from r]; exact ⟨v, [], rfl, hd, rfl⟩
    | cons x l ih =>
      intro vs r hd
      obtain ⟨k', d'⟩ := x
      obtain ⟨v', w, rfl, h1, h2⟩ := r
      exact ⟨v', _, rfl, h1, ih h2 hd⟩
  intro l vs r hd
  unfold putD putK
  rw [any r]
  split
  · exact mp r hd
  · exact ap r hd
theorem repK_length {A : AP} {H : Hp} : ∀ {l : List (Key × D)} {vs : List (Key × V)}, RepK K A H l vs → vs.length = l.length
  | [], _, h => by rw [show _ = [] from h]; rfl
  | (_, _) :: _, _, h => by
    obtain ⟨v, r, ev, _, h2⟩ := h
    rw [ev, List.length_cons, List.length_cons, repK_length h2]
theorem rep_putT {A : AP} {H : Hp} {k : List Key} {d : D} {v : V} : ∀ {l : List (List Key × D)} {vs : List (List Key × V)}, RepT K A H l vs → Rep K A H d v → RepT K A H (putD l k d) (putK vs k v) := by
  have any : ∀ {l : List (List Key × D)} {vs : List (List Key × V)}, RepT K A H l vs → (l.any fun kv => decide (kv.1 = k)) = (vs.any fun kv => decide (kv.1 = k)) := by
    intro l
    induction l with
    | nil => intro vs r; rw [show vs = [] from r]; rfl
    | cons x l ih =>
      intro vs r
      obtain ⟨k', d'⟩ := x
      obtain ⟨v', w, rfl, h1, h2⟩ := r
      rw [List.any_cons, List.any_cons, ih h2]
  have mp : ∀ {l : List (List Key × D)} {vs : List (List Key × V)}, RepT K A H l vs → Rep K A H d v → RepT K A H (l.map fun kv => if kv.1 = k then (kv.1, d) else kv) (vs.map fun kv => if kv.1 = k then (kv.1, v) else kv) := by
    intro l
    induction l with
    | nil => intro vs r _; rw [show vs = [] from r]; rfl
    | cons x l ih =>
      intro vs r hd
      obtain ⟨k', d'⟩ := x
      obtain ⟨v', w, rfl, h1, h2⟩ := r
      rw [List.map_cons, List.map_cons]
      by_cases e : k' = k
      · rw [if_pos e, if_pos e]
        exact ⟨v, _, rfl, hd, ih h2 hd⟩
      · rw [if_neg e, if_neg e]
        exact ⟨v', _, rfl, h1, ih h2 hd⟩
  have ap : ∀ {l : List (List Key × D)} {vs : List (List Key × V)}, RepT K A H l vs → Rep K A H d v → RepT K A H (l ++ [(k, d)]) (vs ++ [(k, v)]) := by
    intro l
    induction l with
    | nil => intro vs r hd; rw [show vs = [] from r]; exact ⟨v, [], rfl, hd, rfl⟩
    | cons x l ih =>
      intro vs r hd
      obtain ⟨k', d'⟩ := x
      obtain ⟨v', w, rfl, h1, h2⟩ := r
      exact ⟨v', _, rfl, h1, ih h2 hd⟩
  intro l vs r hd
  unfold putD putK
  rw [any r]
  split
  · exact mp r hd
  · exact ap r hd
theorem repT_length {A : AP} {H : Hp} : ∀ {l : List (List Key × D)} {vs : List (List Key × V)}, RepT K A H l vs → vs.length = l.length
  | [], _, h => by rw [show _ = [] from h]; rfl
  | (_, _) :: _, _, h => by
    obtain ⟨v, r, ev, _, h2⟩ := h
    rw [ev, List.length_cons, List.length_cons, repT_length h2]
abbrev dcStep (T : Tb) (tg : Pt) (ρ : DE) (ifs : List E) (k v : E) : D → (Option (D × D) → Prop) → Prop := fun d R => setPt tg d ρ fun ρ' => wpT T (fun _ => False) ifs ρ' fun b => if b = true then wpE T (fun _ => False) k ρ' fun x => wpE T (fun _ => False) v ρ' fun y => R (some (x, y)) else R none
theorem dc_turns {J : It} {C : AP → Hp → Prop} {l : List D} {bo : Bool} {vs : List Nat} {tg : Pt} {ifs : List E} {ek ev : E} {p : Addr} {Qr : List (Key × D) → Prop} {Qd : Hp → Prop} (f : Fr K own B O H1 σ ρ) (hR : Rm H1 (wkL * (dcEs T ifs + (dcE T ek + dcE T ev)))) (hlp : dcEs T ifs + (dcE T ek + dcE T ev) = 0 ∨ l.length ≤ wkL) (hp : H1 p = none) (wk : WkJ K J C l) (cst : CSt bo C) (hC : C (U B O) H1)
    (ho : ∀ i ∈ ptIx tg, own i = false ∧ i ∈ vs) (he : ownB ev = false) (hw : dcW (dcStep T tg (wipeD ρ vs) ifs ek ev) l [] Qr)
    (hd : ∀ r us H, Qr r → Ex (wkL * (dcEs T ifs + (dcE T ek + dcE T ev))) H1 H → H p = some (.dK us) → RepK K (U (U B O) (· = p)) H r us → Qd H) :
    ∃ W : Nat → Nat → Hp → Prop, (∃ m, W 0 m (upd H1 p (.dK []))) ∧ ∀ i m H, W i m H →
      (J.stop i H ∧ Qd H) ∨ (J.go i H ∧ ∃ Nx : Hp → Prop, (∀ H', Nx H' → ∃ m', m' < m ∧ W (i + 1) m' H') ∧ ∀ x H', J.yld i H x H' → gPt K tg x (L2.wipe σ vs) H' fun σ2 H2 => L2.wipe σ2 vs = L2.wipe σ vs ∧ rdTs T K own W0 ifs σ2 H2 fun b H3 =>
        if b = true then rdE T K own W0 ek σ2 H3 fun y H4 => rdE T K own W0 ev σ2 H4 fun z H5 => ∃ kvs k, y = kV k ∧ H5 p = some (.dK kvs) ∧ kvs.length < sizeLine ∧ Nx (upd H5 p (.dK (putK kvs k z))) else Nx H3) := by
  have w : Walk J l.length (fun H => C (U (fun a => B a ∨ a = p) O) H) (fun i H x H' => Ex 0 H H' ∧ ∃ d, l[i]? = some d ∧ Rep K (U (fun a => B a ∨ a = p) O) H' d x) :=
    ⟨fun i H hi h => (wk _ H h).1 i hi, fun H h => (wk _ H h).2.1, fun i H x H' hi h y => (wk _ H h).2.2 i x H' hi y⟩
  generalize hδ : dcEs T ifs + (dcE T ek + dcE T ev) = δ at hR hlp hd
  refine ⟨fun i m H => m = l.length - i ∧ i ≤ l.length ∧ ∃ acc us, Ex (i * δ) H1 H ∧ H p = some (.dK us) ∧ RepK K (U (fun a => B a ∨ a = p) O) H acc us ∧ dcW (dcStep T tg (wipeD ρ vs) ifs ek ev) (l.drop i) acc Qr, ⟨_, rfl, Nat.zero_le _, [], [], (Ex.new hp).any, upd_same, rfl, hw⟩, ?_⟩
  rintro i m H ⟨rfl, hi, acc, us, e1, hus, ra, hl⟩
  have hCi : C (U (fun a => B a ∨ a = p) O) H := cst.ex _ _ _ _ _ hC e1 (grows_into hp)
  by_cases hlt : i < l.length
  · refine .inr ⟨w.goes i H hlt hCi, fun H' => ∃ acc us, Ex ((i + 1) * δ) H1 H' ∧ H' p = some (.dK us) ∧ RepK K (U (fun a => B a ∨ a = p) O) H' acc us ∧ dcW (dcStep T tg (wipeD ρ vs) ifs ek ev) (l.drop (i + 1)) acc Qr, fun H' h => ⟨l.length - (i + 1), by omega, rfl, hlt, h⟩, fun x H' y => ?_⟩
    obtain ⟨e2, d, hd, r⟩ := w.yields i H x H' hlt hCi y
    rw [drop_at hd] at hl
    obtain ⟨hz, hl⟩ := hl
    have hus' := e2.at hus rfl
    have fr : Fr K own (fun a => B a ∨ a = p) O H' (L2.wipe σ vs) (wipeD ρ vs) := ((f.into hp (e1.trans e2) ⟨_, hus', rfl⟩).wipe vs)
    have step : (i + 1) * δ = i * δ + δ := Nat.succ_mul i δ
    have hle := lp_le hlp (show i + 1 ≤ l.length from hlt)
    have rm : Rm H' (dcEs T ifs + (dcE T ek + dcE T ev)) := by
      rw [hδ]
      exact ((hR.le (by rw [← step]; exact hle : i * δ + δ ≤ wkL * δ)).ex e1).ex0 e2
    refine gpt_of fr (fun i hi => (ho i hi).1) r hl fun σ2 ρ2 hr f2 hwp => ⟨(hwp vs fun i hi => (ho i hi).2).trans (wipe_wipe fun i hi => hi), _, _, ρ2, _, _, ⟨f2, rm.l, xok0⟩, hr, fun b hb H3 e3 => ?_⟩
    cases b with
    | false => exact ⟨acc, us, ((e1.trans e2).trans e3).le (by rw [step, ← hδ]; omega), e3.at hus' rfl, RepK.keep (keeps_ex (e2.trans e3)) grows_refl _ _ ra, hb⟩
    | true =>
      refine ⟨_, _, ρ2, _, _, ⟨f2.ex e3, (rm.ex e3).l, xok0⟩, hb, fun dx hx v H4 e4 r4 => ⟨_, _, ρ2, _, _, ⟨(f2.ex e3).ex e4, (rm.ex e3).ex e4, xok0⟩, hx, fun dy hy u H5 e5 r5 => ?_⟩⟩
      obtain ⟨k, hk, hq⟩ := hy
      have h5 : H5 p = some (.dK us) := e5.at (e4.at (e3.at hus' rfl) rfl) rfl
      have ap : U (fun a => B a ∨ a = p) O p := .inl (.inr rfl)
      have kk := keeps_upd (o' := .dK (putK us k u)) ap h5 rfl
      have ee := ((e2.trans e3).trans e4).trans e5
      refine ⟨us, k, keyK_rep hk r4.1, h5, by rw [repK_length ra]; exact hz, putD acc k dy, putK us k u, ex_upd hp ((e1.trans ee).le (by rw [step, ← hδ]; omega)), upd_same, ?_, hq⟩
      exact RepK.keep kk grows_refl _ _ (rep_putK (RepK.keep (keeps_ex ee) grows_refl _ _ ra) (r5.2.1 he))
  · have e : i = l.length := by omega
    subst e
    rw [List.drop_length] at hl
    exact .inl ⟨w.stops H hCi, hd acc us H hl (e1.le (lp_le hlp (Nat.le_refl _))) hus (RepK.keep keeps_refl (grows_less less_into) _ _ ra)⟩
end
section
variable {T : Tb} {L : Nat} {W : WX} {X : Cx} {ow : List Nat}
theorem res_new {K : PySem.W.Frag} {e : E} {A : AP} {H H' : Hp} {p : Addr} {d : D} (na : ¬ A p) (hp : H p = none) (o : OwnAt K (U A (· = p)) H' p d) : Res K e A H H' d (.ref p) := ⟨.inl (own_rep na o), fun _ => own_rep na o, fun _ => ⟨p, rfl, hp, o⟩⟩
theorem lc_rd {own : List (Str × Nat)} {tg : Pt} {it : E} {ifs : List E} {e : E} (ht : ∀ i ∈ ptIx tg, owf ow i = false ∧ i ∈ own.map (·.2)) (he : ownB e = false) {σ : L2.St} {H : Hp} {Q : VK}
    (h : rdE T X.K (owf ow) W (.lc own tg it ifs e) σ H Q) : tLc (rdI T X.K (owf ow) W it) (gPt X.K tg) (rdTs T X.K (owf ow) W0 ifs) (rdE T X.K (owf ow) W0 e) (own.map (·.2)) σ H Q := by
  obtain ⟨B, O, ρ, xk, Qd, f, hq, hf⟩ := h
  refine ⟨B, O, ρ, xk, _, f.l, hq, fun w hw => ?_⟩
  obtain ⟨l, hl, hlp, hw⟩ := hw
  refine ⟨l, hl, fun J C H1 e1 wk cst hC _ p hp => lc_turns (f.fr.ex e1) (f.rm.ex e1) hlp hp wk cst hC ht he hw fun r us H2 hr e2 hus rl => ?_⟩
  exact hf _ hr _ H2 (e1.trans e2) (res_new ((f.fr.ex e1).fresh hp) (e1.none hp) ⟨us, hus, rl⟩)
theorem c_lc (G : Good T L W X) {own : List (Str × Nat)} {tg : Pt} {it : E} {ifs : List E} {e : E} {x t i : Expr} {cs : List Expr} {scope : Scope} {pos : Pos} (hb : blkC X.N X.env.scope scope own = true) (ht : ∀ i ∈ ptIx tg, owf ow i = false ∧ i ∈ own.map (·.2)) (hs : noSet i = true) (he : ownB e = false)
    (hi : PI X t i (rdI T X.K (owf ow) W it)) (hg : ∀ s H C cl fp, PG (X.blk s H scope (compEnvC scope cl C X.env) fp) t (gPt X.K tg)) (hc : ∀ s H C cl fp, PTs (X.blk s H scope (compEnvC scope cl C X.env) fp) cs (rdTs T X.K (owf ow) W0 ifs))
    (hx : ∀ s H C cl fp, PE (X.blk s H scope (compEnvC scope cl C X.env) fp) x (rdE T X.K (owf ow) W0 e)) : PE X (.ListComp x [⟨t, i, cs, 0⟩] scope pos) (rdE T X.K (owf ow) W (.lc own tg it ifs e)) :=
  (pe_lc G.calm G.nd hi (blkOk_by hb) hg hc hx (fold_of hs)).imp fun σ H Q h => lc_rd ht he h
theorem dc_rd {own : List (Str × Nat)} {tg : Pt} {it : E} {ifs : List E} {ek ev : E} (ht : ∀ i ∈ ptIx tg, owf ow i = false ∧ i ∈ own.map (·.2)) (he : ownB ev = false) {σ : L2.St} {H : Hp} {Q : VK}
    (h : rdE T X.K (owf ow) W (.dc own tg it ifs ek ev) σ H Q) : tDc (rdI T X.K (owf ow) W it) (gPt X.K tg) (rdTs T X.K (owf ow) W0 ifs) (rdE T X.K (owf ow) W0 ek) (rdE T X.K (owf ow) W0 ev) (own.map (·.2)) σ H Q := by
  obtain ⟨B, O, ρ, xk, Qd, f, hq, hf⟩ := h
  refine ⟨B, O, ρ, xk, _, f.l, hq, fun w hw => ?_⟩
  obtain ⟨l, hl, hlp, hw⟩ := hw
  refine ⟨l, hl, fun J C H1 e1 wk cst hC _ p hp => dc_turns (f.fr.ex e1) (f.rm.ex e1) hlp hp wk cst hC ht he hw fun r us H2 hr e2 hus rl => ?_⟩
  exact hf _ hr _ H2 (e1.trans e2) (res_new ((f.fr.ex e1).fresh hp) (e1.none hp) ⟨us, hus, rl⟩)
theorem c_dc (G : Good T L W X) {own : List (Str × Nat)} {tg : Pt} {it : E} {ifs : List E} {ek ev : E} {y x t i : Expr} {cs : List Expr} {scope : Scope} {pos : Pos} (hb : blkC X.N X.env.scope scope own = true) (ht : ∀ i ∈ ptIx tg, owf ow i = false ∧ i ∈ own.map (·.2)) (hs : noSet i = true) (he : ownB ev = false)
    (hi : PI X t i (rdI T X.K (owf ow) W it)) (hg : ∀ s H C cl fp, PG (X.blk s H scope (compEnvC scope cl C X.env) fp) t (gPt X.K tg)) (hc : ∀ s H C cl fp, PTs (X.blk s H scope (compEnvC scope cl C X.env) fp) cs (rdTs T X.K (owf ow) W0 ifs))
    (hy : ∀ s H C cl fp, PE (X.blk s H scope (compEnvC scope cl C X.env) fp) y (rdE T X.K (owf ow) W0 ek))
    (hx : ∀ s H C cl fp, PE (X.blk s H scope (compEnvC scope cl C X.env) fp) x (rdE T X.K (owf ow) W0 ev)) : PE X (.DictComp y x [⟨t, i, cs, 0⟩] scope pos) (rdE T X.K (owf ow) W (.dc own tg it ifs ek ev)) :=
  (pe_dc G.calm G.nd hi (blkOk_by hb) hg hc hy hx (fold_of hs)).imp fun σ H Q h => dc_rd ht he h
end
end DL

/-! DK: more rules: new lists by + and *, index, a def picked, turned round -/
namespace DL
open PySem PySem.Spec PyProof.Rows L2 Evl

section
variable {T : Tb} {L : Nat} {W : WX} {X : Cx} {ow : List Nat}
/-- an operation that makes a new list -/
def r2N (K : PySem.W.Frag) (g : D → D → DK → Prop) : R2 := fun x y H Q => ∃ A dx dy Qd, AOk A H ∧ RepB K A H dx x ∧ RepB K A H dy y ∧ g dx dy Qd ∧ ∀ d, Qd d → ∀ p H', H p = none → Ex 0 H H' → OwnAt K (U A (· = p)) H' p d → Q (.ref p) H'
theorem op_binN (op : Operator) : OpR X (binaryOp op) (r2N X.K (binND op)) := by
  intro pins s σ H x y v u Q I rx ry h
  obtain ⟨A, dx, dy, Qd, hA, hx, hy, hb, hq⟩ := h
  unfold binND at hb
  split at hb
  · obtain ⟨a, xs, rfl, ha, hl⟩ := rb_lst hx
    obtain ⟨b, ys, rfl, hb', hm⟩ := rb_lst hy
    exact op_cat pins s σ H _ _ v u Q I rx ry ⟨a, b, xs, ys, rfl, rfl, ha, hb', by rw [RepL.length hl, RepL.length hm]; exact hb.1, fun p hp => hq _ hb.2 p _ hp (Ex.new hp) (newLst (RepL.append hl hm) hp)⟩
  · obtain ⟨a, xs, rfl, ha, hl⟩ := rb_lst hx
    obtain rfl := rb_int hy
    exact op_rep pins s σ H _ _ v u Q I rx ry ⟨a, _, xs, rfl, rfl, ha, hb.1, hb.2.1, by rw [RepL.length hl]; exact hb.2.2.1, fun p hp => hq _ hb.2.2.2 p _ hp (Ex.new hp) (newLst (repL_rep _ hl) hp)⟩
  · exact hb.elim
theorem c_binN {a b : E} {x y : Expr} {op : Operator} {pos : Pos} (ha : PE X x (rdE T X.K (owf ow) W a)) (hb : PE X y (rdE T X.K (owf ow) W b)) : PE X (.BinOp x op y pos) (rdE T X.K (owf ow) W (.binN op a b)) :=
  (pe_op (op_binN op) ha hb).imp fun σ H Q h => by
    obtain ⟨B, O, ρ, xk, Qd, f, hq, hf⟩ := h
    have f0 : FX X.K (owf ow) W xk B O (dcE T a + dcE T b) H σ ρ := f
    refine ⟨B, O, ρ, xk, _, f0.l, (show wpE T xk a ρ fun x => wpE T xk b ρ fun y => binND op x y Qd from hq), fun dx hx v H1 e1 r1 => ⟨B, O, ρ, xk, _, f0.ex e1, hx, fun dy hy u H2 e2 r2 => ⟨U B O, dx, dy, Qd, ((f.fr.ex e1).ex e2).mt, r1.1.ex e2, r2.1, hy, fun d hd p H3 hp e3 o => ?_⟩⟩⟩
    have na := ((f.fr.ex e1).ex e2).fresh hp
    exact hf d hd _ H3 ((e1.trans e2).trans e3) (res_new na (e1.none (e2.none hp)) o)
/-! index -/
theorem ty_lst {K : PySem.W.Frag} {H : Hp} {a : Addr} {vs : List V} (h : H a = some (.lst vs)) : tyV K "list" (.ref a) H := .inl ⟨rfl, vs, .inl (.inl h)⟩
theorem c_index (G : Good T L W X) {o : E} {es : List E} {x y : Expr} {ap cp : Pos} (hn : noCall x = true) (hln : (ap.endLine == cp.line) = true) (hs : noStar y = true) (ho : PE X x (rdE T X.K (owf ow) W o)) (he : PA X [y] (rdEs T X.K (owf ow) W es)) :
    PE X (.Call (.Attribute x "index" ap) [y] [] cp) (rdE T X.K (owf ow) W (.bm .index o es)) := by
  refine (pe_bm PySem.F.plainAttrs_list PySem.F.slot_list_index PySem.F.type_list_index (mt_indexD (units65 G)) ho he (by cases x <;> first | rfl | cases hn) (by rw [star_of hs]; rfl) hln (star_of hs) rfl).imp fun σ H Q h => ?_
  obtain ⟨B, O, ρ, xk, Qd, f, hq, hf⟩ := h
  have f0 : FX X.K (owf ow) W xk B O (dcE T o + dcEs T es) H σ ρ := f
  refine ⟨B, O, ρ, xk, _, f0.l, (show wpE T xk o ρ fun x => bmTy .index x ∧ wpEs T xk es ρ fun ds => bmD .index x ds Qd from hq), fun dx hx v H1 e1 r1 => ?_⟩
  obtain ⟨ht, hx⟩ := hx
  cases dx with
  | lst l =>
    obtain ⟨a, vs, rfl, hv, hl⟩ := rb_lst r1.1
    refine ⟨ty_lst hv, B, O, ρ, xk, _, f0.ex e1, hx, fun ds hds us H2 e2 r2 _ => ?_⟩
    unfold bmD at hds
    split at hds
    · obtain ⟨p, ps, j, z, h1, h2, h3, h4, h5, h6, h7, h8⟩ := hds
      rename_i l' d' _ ez _
      cases ez
      obtain ⟨u, rfl, hu⟩ := rbl_one r2
      exact ⟨a, u, p, ps, j, z, rfl, rfl, toPy_dp (.lst _) (.list ps) _ (by show (toPy.toPyL _).map PyData.list = _; rw [h2]; rfl) (r1.1.ex e2), toPy_dp _ p u h1 hu, h3, h4, h5, h6, h7, hf _ h8 _ H2 (e1.trans e2) (Res.of rfl rfl)⟩
    · exact hds.elim
  | _ => exact ht.elim
/-! a def that an expression gives -/
theorem c_pick (G : Good T L W X) {c : E} {es : List E} {o i : Expr} {xs : List Expr} {p pos : Pos} (h1 : 1 ≤ xs.length) (hs : xs.all noStar = true) (hc : PE X (.Subscript o i p) (rdE T X.K (owf ow) W c)) (ha : PA X xs (rdEs T X.K (owf ow) W es)) :
    PE X (.Call (.Subscript o i p) xs [] pos) (rdE T X.K (owf ow) W (.pick c es)) := by
  cases xs with
  | nil => exact absurd h1 (by decide)
  | cons y ys =>
    rw [List.all_cons, Bool.and_eq_true] at hs
    refine ⟨fun pins s σ H Q I h => ?_⟩
    obtain ⟨B, O, ρ, xk, Qd, f, hq, hf⟩ := h
    have f0 : FX X.K (owf ow) W xk B O (dcE T c + dcEs T es) H σ ρ := f
    show wpAny _ X.A (do callWith pos (← eval (.Subscript o i p) X.env) [] (backTo pos (starEach (y :: ys) X.env)) (backToKw pos (keywordEach [] X.env))) _ _ s
    refine wpAny_bind (thn (hc.run pins s σ H (fun v H1 => ∃ f e, v = .ref (He.ga X.K f) ∧ (∃ u w, X.mg f = some u ∧ RelV w u ∧ w = .ref (He.ga X.K f)) ∧ T.fn f = some e ∧ e.c = 0 ∧ Ex (dcE T c) H H1 ∧ wpEs T xk es ρ fun ds => ∃ e, T.fn f = some e ∧ ds.length = e.n ∧ e.m ds (fun d => (es.any ownB = true → flatD d = true) ∧ Qd d) xk) I ?_) fun u s1 ⟨v, H1, I1, r1, q1⟩ => ?_)
    · refine ⟨B, O, ρ, xk, _, f0.l, hq, fun d hd v H1 e1 r1 => ?_⟩
      obtain ⟨g, rfl, hg, hm, ⟨e, he, hz⟩, hw⟩ := hd
      have rv : v = .ref (He.ga X.K g) := by
        rcases r1.1 with r | ⟨_, _, r⟩
        · exact r
        · exact r.elim
      obtain ⟨d', hd'⟩ := Option.isSome_iff_exists.mp hg
      rw [hd'] at hm
      cases d' with
      | fn k =>
        obtain rfl : k = g := hm
        obtain ⟨u, w, h1, h2, h3⟩ := G.tab.glob k _ hd'
        exact ⟨k, e, rv, ⟨u, w, h1, h2, h3 noA H⟩, he, hz, e1, hw⟩
      | _ => exact hm.elim
    · obtain ⟨g, e, rfl, ⟨u', w, hu, hw, rfl⟩, he, hz, e1, hq1⟩ := q1
      cases r1
      cases hw
      obtain ⟨fa, fd, ps, hp, hk, F, hm, kp, hb⟩ := G.tab.fn g e he
      rw [hu] at hm
      cases hm
      refine PySem.W.callWith_K (h₀ := X.base) I1.ok.mod.kin kp (thn (ha.run pos pins s1 σ H1 (fun vs H2 => spOf X.K e.n e.c e.m vs H2 Q (W · · σ ·)) I1 ?_) fun us s2 ⟨vs, H2, I2, r, q⟩ => ⟨I2.kIn, runG F (G.room.mono hk) G.guards hb (L2N.passAt G.tk σ) I2 r q⟩) (star_of hs.1) (plain_args hs.2)
      refine ⟨B, O, ρ, xk, _, f0.ex e1, hq1, fun ds hds vs H2 e2 r r2 => ?_⟩
      obtain ⟨e', he', hn, hw⟩ := hds
      rw [he] at he'
      cases he'
      have f2 : FX X.K (owf ow) W xk B O e.c H2 σ ρ := by
        rw [hz]
        exact FX.ex (i := dcEs T es) (j := 0) (f0.ex e1) e2
      refine call_sp f2 hn hw r r2 fun d hd v H3 e3 r3 => hf d hd v H3 ?_ (Res.of r3 rfl)
      rw [hz] at e3
      exact (e1.trans e2).trans e3
end
end DL

/-! DR: turned round; the drawing state made -/
namespace DL
open PySem PySem.Spec PyProof.Rows L2 Evl HT

section
variable {prog : Program} {w : World} {A : Around} {E : Value → Shared → Prop} {s : Shared}
theorem adj_rev (n : Nat) : Builtin.Slice.sliceAdjust none none (-1) (n : Int) = ((n : Int) - 1, -1) := rfl
theorem places_rev (n : Nat) : Builtin.Slice.slicePlaces ((n : Int) - 1) (-1) (-1) = n := by
  unfold Builtin.Slice.slicePlaces
  rw [if_neg (by decide : ¬ ((-1 : Int) > 0))]
  by_cases h : (n : Int) - 1 > -1
  · rw [if_pos h]
    have e : ((n : Int) - 1 - -1 - 1) / (- -1) + 1 = n := by
      rw [show (- -1 : Int) = 1 from rfl, Int.ediv_one]
      omega
    rw [e]
    rfl
  · rw [if_neg h]
    have : n = 0 := by omega
    rw [this]
    rfl
theorem range_picks {α : Type} {f : Nat → Option α} {l : List α} (h : ∀ k, k < l.length → f k = l[k]?) : ∀ m, m ≤ l.length → (List.range m).filterMap f = l.take m
  | 0, _ => rfl
  | m + 1, hm => by
    rw [List.range_succ, List.filterMap_append, range_picks h m (Nat.le_of_succ_le hm), List.take_succ_eq_append_getElem (by omega)]
    congr 1
    rw [List.filterMap_cons, h m (by omega), List.getElem?_eq_getElem (by omega)]
    rfl
theorem picks_rev (xs : Array Value) : ((List.range xs.size).filterMap fun (k : Nat) => xs[(((xs.size : Int) - 1) + (k : Int) * -1).toNat]?).toArray = xs.toList.reverse.toArray := by
  congr 1
  have hl : xs.toList.reverse.length = xs.size := by simp
  have q := range_picks (f := fun (k : Nat) => xs[(((xs.size : Int) - 1) + (k : Int) * -1).toNat]?) (l := xs.toList.reverse) (fun k hk => by
    rw [hl] at hk
    have e : (((xs.size : Int) - 1) + (k : Int) * -1).toNat = xs.size - 1 - k := by omega
    rw [e, List.getElem?_reverse (by simpa using hk)]
    simp) xs.size (by rw [hl]; exact Nat.le_refl _)
  rw [q, ← hl, List.take_length]
theorem applied_rev {sl : Addr} {va vb vc : Value} {n : Nat} {Q : Int × Int × Nat → Shared → Prop} (hs : s.heap.IsSliceOf sl va vb vc) (pa : IsPart va none) (pb : IsPart vb none) (pc : IsPart vc (some (-1)))
    (h : Q ((n : Int) - 1, -1, n) s) : wpAny (model prog w) A (Builtin.Slice.sliceApplied (.ref sl) (pure (n : Int))) Q E s := by
  obtain ⟨os, h1, h2, h3⟩ := id hs
  unfold Builtin.Slice.sliceApplied Builtin.Slice.sliceFields
  refine wpAny_bind (wpAny_bind (wpAny_field h1 h3 (x := va) rfl (wpAny_bind (wpAny_field h1 h3 (x := vb) rfl (wpAny_bind (wpAny_field h1 h3 (x := vc) rfl (wpAny_pure ?_)))))))
  refine wpAny_bind (slicePart_ pc ?_)
  show wpAny _ _ (if ((-1 : Int) == 0) = true then _ else _) _ _ s
  rw [if_neg (by decide)]
  refine wpAny_bind (slicePart_ pa (wpAny_bind (slicePart_ pb (wpAny_bind (wpAny_pure ?_)))))
  show wpAny _ _ (match Builtin.Slice.sliceAdjust none none (-1) (n : Int) with | (lo, hi) => pure (lo, (-1 : Int), Builtin.Slice.slicePlaces lo hi (-1))) _ _ s
  rw [adj_rev]
  show wpAny _ _ (pure ((n : Int) - 1, (-1 : Int), Builtin.Slice.slicePlaces ((n : Int) - 1) (-1) (-1))) _ _ s
  rw [places_rev]
  exact wpAny_pure h
theorem item_tup_rev {t sl : Addr} {items : Array Value} {va vb vc : Value} {Q : Value → Shared → Prop} (ht : IsTup s.heap t items) (hs : s.heap.IsSliceOf sl va vb vc) (pa : IsPart va none) (pb : IsPart vb none) (pc : IsPart vc (some (-1)))
    (h : Q (.ref s.heap.objs.size) { s with heap := s.heap.push { cls := .type "tuple", data := .seq items.toList.reverse.toArray } }) (hz : items.size ≤ sizeLine) : wpAny (model prog w) A (getItem (.ref t) (.ref sl)) Q E s := by
  have hk : sizeOk (.seq items.toList.reverse.toArray) := by
    show items.toList.reverse.toArray.size ≤ sizeLine
    rw [List.size_toArray, List.length_reverse, Array.length_toList]
    exact hz
  obtain ⟨os, h1, h2, h3⟩ := id hs
  have hT : s.TypeIs (.ref sl) "slice" := ⟨os, h1, h2⟩
  unfold getItem
  try with_reducible refine wpAny_holding ?_
  first | refine wpAny_bind (wpAny_pure ?_) | skip
  refine wpAny_bind (wpAny_sequenceKey ht.typeIs (by decide) ?_)
  refine wpAny_bind (wpAny_callSpecial?_slot (name := Str.ofString "__getitem__") ht.typeIs PyProof.Rows.slot_tuple_getitem (wpAny_call_entry PyProof.Rows.slot_tuple_getitem ht.typeIs entry_tuple_getitem ?_ (args_tuple_getitem _ _)))
  show wpAny _ _ (Builtin.Tuple.tupleItemsOf (.ref t) >>= _) _ _ s
  refine wpAny_bind (tupleItemsOf_ ht ?_)
  refine wpAny_bind (wpAny_typeOf hT ?_)
  rw [if_pos (by decide)]
  refine wpAny_bind (applied_rev hs pa pb pc ?_)
  show wpAny _ _ (if ((((items.size : Int) - 1) == 0 && (-1 : Int) == 1 && items.size == items.size)) = true then _ else _) _ _ s
  have no : ¬ (((((items.size : Int) - 1) == 0 && (-1 : Int) == 1 && items.size == items.size)) = true) := fun q => by
    rw [Bool.and_eq_true, Bool.and_eq_true] at q
    exact absurd q.1.2 (by decide)
  rw [if_neg no, picks_rev]
  first
    | exact wpAny_bind (m := Builtin.Tuple.tupleExact _) (wpAny_newObj_type (wpAny_pure ⟨_, rfl, wpAny_pure h⟩) hk)
    | exact wpAny_bind (m := Builtin.Tuple.tupleExact _) (wpAny_newObj_type (wpAny_bind (wpAny_pure (wpAny_pure ⟨_, rfl, wpAny_pure h⟩))) hk)
    | exact wpAny_bind (wpAny_bind (m := Builtin.Tuple.tupleExact _) (wpAny_newObj_type (wpAny_pure (wpAny_pure ⟨_, rfl, wpAny_pure h⟩)) hk))
    | exact wpAny_bind (wpAny_bind (m := Builtin.Tuple.tupleExact _) (wpAny_newObj_type (wpAny_pure ⟨_, rfl, wpAny_pure h⟩) hk))
end
/-! a list or a tuple turned round -/
def tRev (K : PySem.W.Frag) (te : TE) : TE := fun σ H Q => te σ H fun x H1 => (∃ a xs, x = .ref a ∧ SqL K H1 a xs ∧ ∀ p, H1 p = none → Q (.ref p) (upd H1 p (.lst xs.reverse))) ∨ ∃ a xs, x = .ref a ∧ SqT K H1 a xs ∧ ∀ p, H1 p = none → Q (.ref p) (upd H1 p (.tup xs.reverse))
theorem pe_rev {X : Cx} {e : Expr} {te : TE} {k : Nat} {p1 p2 p3 pos : Pos} (he : PE X e te) : PE X (.Subscript e (.Slice none none (some (.UnaryOp .USub (.Constant (.int 1) k p1) p2)) p3) pos) (tRev X.K te) := by
  refine ⟨fun pins s σ H Q I h => Subscript_ (thn (he.run pins s σ H _ I h) fun v s1 ⟨x, H1, I1, r1, q1⟩ => ?_)⟩
  have step : PO X (some (.UnaryOp .USub (.Constant (.int 1) k p1) p2)) (tPart (tUn (rU fun i => .int (-i)) (tC (.int 1)))) := po_some (pe_un un_neg pe_int)
  refine wpAny_Slice (thn (po_none.run pins s1 σ H1 (fun o H2 => o = none ∧ H2 = H1) I1 ⟨rfl, rfl⟩) fun va s2 ⟨a1, H2, I2, pa, ea, e2⟩ => ?_)
  subst ea e2
  refine thn (po_none.run pins s2 σ H2 (fun o H3 => o = none ∧ H3 = H2) I2 ⟨rfl, rfl⟩) fun vb s3 ⟨b1, H3, I3, pb, eb, e3⟩ => ?_
  subst eb e3
  refine thn (step.run pins s3 σ H3 (fun o H4 => o = some (-1) ∧ H4 = H3) I3 ⟨1, rfl, -1, rfl, rfl, rfl⟩) fun vc s4 ⟨c1, H4, I4, pc, ec, e4⟩ => ?_
  subst ec e4
  have I5 : Inv X pins σ H4 { s4 with heap := s4.heap.push { cls := .type "slice", data := .fields #[va, vb, vc] } } := I4.kept (t' := s4.toks) fun b ob q => Heap.get?_push_of_some _ q
  rcases q1 with ⟨a, xs, ex, hx, q⟩ | ⟨a, xs, ex, hx, q⟩
  · subst ex
    cases r1
    obtain ⟨its, r, ht, hz⟩ := I5.list hx
    have hlen := r.length
    show wpAny (model X.prog X.w) X.A (subscriptTail e (.Slice none none (some (.UnaryOp .USub (.Constant (.int 1) k p1) p2)) p3) (.ref a) (.ref s4.heap.objs.size)) (EP X pins σ Q) X.xe { s4 with heap := s4.heap.push { cls := .type "slice", data := .fields #[va, vb, vc] } }
    refine tail_any (ops := [.ref a, .ref s4.heap.objs.size]) ht.isList.typeIs (PySem.slot_list_getitem.lookup) (wpAny_getItem_list_slice ht.isList (Heap.IsSliceOf.new _ va vb vc) pa pb pc (by decide) ?_ (by rw [List.size_toArray]; omega)) (by with_unfolding_all rfl)
    rw [PySem.W.krv_pick]
    exact ⟨.ref _, _, I5.laid (t' := s4.toks) (o := .lst xs.reverse) (fun b ob q => Heap.get?_push_of_some _ q) (Nat.le_refl _) ⟨by rw [List.length_reverse]; exact hz, _, 0, r.reverse, Heap.get?_push_size _ rfl⟩, rfl, q _ (I5.hok.fresh (Nat.le_refl _))⟩
  · subst ex
    cases r1
    obtain ⟨its, r, ht, hz⟩ := I5.tuple hx
    have hlen := r.length
    show wpAny (model X.prog X.w) X.A (subscriptTail e (.Slice none none (some (.UnaryOp .USub (.Constant (.int 1) k p1) p2)) p3) (.ref a) (.ref s4.heap.objs.size)) (EP X pins σ Q) X.xe { s4 with heap := s4.heap.push { cls := .type "slice", data := .fields #[va, vb, vc] } }
    refine tail_any (ops := [.ref a, .ref s4.heap.objs.size]) ht.typeIs (PyProof.Rows.slot_tuple_getitem.lookup) (item_tup_rev ht (Heap.IsSliceOf.new _ va vb vc) pa pb pc ?_ (by rw [List.size_toArray]; omega)) (by with_unfolding_all rfl)
    exact ⟨.ref _, _, I5.laid (t' := s4.toks) (o := .tup xs.reverse) (fun b ob q => Heap.get?_push_of_some _ q) (Nat.le_refl _) ⟨by rw [List.length_reverse]; exact hz, _, r.reverse, IsTup.new _ _⟩, rfl, q _ (I5.hok.fresh (Nat.le_refl _))⟩
section
variable {T : Tb} {L : Nat} {W : WX} {X : Cx} {ow : List Nat}
theorem c_rev {a : E} {e : Expr} {k : Nat} {p1 p2 p3 pos : Pos} (he : PE X e (rdE T X.K (owf ow) W a)) : PE X (.Subscript e (.Slice none none (some (.UnaryOp .USub (.Constant (.int 1) k p1) p2)) p3) pos) (rdE T X.K (owf ow) W (.rev a)) :=
  (pe_rev he).imp fun σ H Q h => by
    obtain ⟨B, O, ρ, xk, Qd, f, hq, hf⟩ := h
    refine ⟨B, O, ρ, xk, _, f, (show wpE T xk a ρ fun x => revD x Qd from hq), fun d hd v H1 e1 r1 => ?_⟩
    unfold revD at hd
    split at hd
    · obtain ⟨a', vs, rfl, hs, hl⟩ := rb_lst r1.1
      exact .inl ⟨a', vs, rfl, .inl (.inl hs), fun p hp => hf _ hd _ _ (e1.trans (Ex.new hp)) (Res.of (rep_lst ((f.fr.ex e1).fresh hp) (RepL.reverse hl) hp) rfl)⟩
    · obtain ⟨a', vs, rfl, hs, hl⟩ := rb_tup r1.1
      exact .inr ⟨a', vs, rfl, hs, fun p hp => hf _ hd _ _ (e1.trans (Ex.new hp)) (Res.of (rep_tup (RepL.reverse hl) hp) rfl)⟩
    · exact hd.elim
end
end DL

/-! DQ: a comprehension over a dict's keys (the dict locked meanwhile) -/
namespace DL
open PySem PySem.Spec PyProof.Rows L2 Evl

section
variable {X : Cx}
/-- the value's dict locked, if it was not -/
def tLk (H0 : Hp) (td : TE) : TE := fun σ H Q => td σ H fun x H1 => ∃ d kvs, x = .ref d ∧ ((∃ o, H1 d = some (.frz o (.dK kvs)) ∧ Q x H1) ∨ (H1 d = some (.dK kvs) ∧ ∀ od, (∀ o' u', H0 d ≠ some (.frz o' u')) → Q x (upd H1 d (.frz od (.dK kvs)))))
theorem pe_lk {e : Expr} {td : TE} (he : PE X e td) : PE X e (tLk X.H_0 td) := ⟨fun pins s σ H Q I h => thn (he.run pins s σ H _ I h) fun v s1 ⟨x, H1, I1, r1, d, kvs, ex, q⟩ => by
  rcases q with ⟨o, _, q⟩ | ⟨hd, q⟩
  · exact ⟨x, H1, I1, r1, q⟩
  · obtain ⟨od, J⟩ := I1.lock hd trivial
    exact ⟨x, _, J, r1, q od (I1.nofrz hd trivial)⟩⟩
/-- unlocked behind it -/
def tUn (H0 : Hp) (t : TE) : TE := fun σ H Q => t σ H fun x H1 => Q x H1 ∨ ∃ d od u, H1 d = some (.frz od u) ∧ (∀ o' u', H0 d ≠ some (.frz o' u')) ∧ Q x (upd H1 d u)
theorem pe_un_lk {e : Expr} {t : TE} (he : PE X e t) : PE X e (tUn X.H_0 t) := ⟨fun pins s σ H Q I h => thn (he.run pins s σ H _ I h) fun v s1 ⟨x, H1, I1, r1, q⟩ => by
  rcases q with q | ⟨d, od, u, hd, hn, q⟩
  · exact ⟨x, H1, I1, r1, q⟩
  · exact ⟨x, _, I1.unlock hd hn, r1, q⟩⟩
end
section
variable {K : PySem.W.Frag} {own : Nat → Bool} {B O A : AP} {H H' : Hp} {σ : L2.St} {ρ : DE} {d : Addr} {kvs : List (Key × V)} {od : Obj}
theorem keeps_lock (hd : H d = some (.dK kvs)) : Keeps A H (upd H d (.frz od (.dK kvs))) := fun b o hb _ => by
  by_cases e : b = d
  · subst e
    rw [hd] at hb
    cases hb
    exact .inr (.inl (.inl ⟨_, od, rfl, rfl, upd_same⟩))
  · exact .inl (by rw [upd_ne e]; exact hb)
theorem keeps_unlock (hd : H d = some (.frz od (.dK kvs))) : Keeps A H (upd H d (.dK kvs)) := fun b o hb _ => by
  by_cases e : b = d
  · subst e
    rw [hd] at hb
    cases hb
    exact .inr (.inl (.inr ⟨_, od, rfl, rfl, upd_same⟩))
  · exact .inl (by rw [upd_ne e]; exact hb)
theorem Fr.lock (f : Fr K own B O H σ ρ) (hd : H d = some (.dK kvs)) (na : ¬ U B O d) : Fr K own B O (upd H d (.frz od (.dK kvs))) σ ρ := by
  have ne : ∀ {b}, U B O b → b ≠ d := fun z e => na (by rw [← e]; exact z)
  refine ⟨f.len, fun i e h1 h2 => ?_, fun i e h1 h2 => ?_, f.dj, fun a h => ?_⟩
  · obtain ⟨v, h3, h4⟩ := f.fz i e h1 h2
    exact ⟨v, h3, Rep.keep (keeps_lock hd) grows_refl _ _ h4⟩
  · obtain ⟨a, h3, h4, h5⟩ := f.ow i e h1 h2
    exact ⟨a, h3, h4, OwnAt.keep (keeps_lock hd) grows_refl (fun o q _ => by rw [upd_ne (ne (.inr h4))]; exact q) h5⟩
  · obtain ⟨o, h1, h2⟩ := f.mt a h
    exact ⟨o, by rw [upd_ne (ne h)]; exact h1, h2⟩
theorem cnt_lock {c : Nat} {o : HO} (hx : isX o = false) (h : Cnt H c) : Cnt (upd H d o) c := fun a s n e => by
  by_cases z : a = d
  · subst z
    rw [upd_same] at e
    cases e
    cases hx
  · rw [upd_ne z] at e
    exact h a s n e
/-- there and back again -/
theorem ex_back {δ : Nat} (hd : H d = some (.dK kvs)) (e : Ex δ (upd H d (.frz od (.dK kvs))) H') : Ex δ H (upd H' d (.dK kvs)) := by
  refine ⟨fun b o hb => ?_, fun c h => cnt_lock rfl (e.ct c (cnt_lock rfl h))⟩
  by_cases z : b = d
  · subst z
    rw [hd] at hb
    cases hb
    exact .inl upd_same
  · rcases e.kp b o (by rw [upd_ne z]; exact hb) with q | ⟨s, n, n', rfl, q⟩
    · exact .inl (by rw [upd_ne z]; exact q)
    · exact .inr ⟨s, n, n', rfl, by rw [upd_ne z]; exact q⟩
theorem wk_keys {l : List (Key × D)} (hk : kvs.map (·.1) = l.map (·.1)) : WkJ K (Itk d od kvs) (fun _ H => H d = some (.frz od (.dK kvs))) (l.map fun kv => dK kv.1) := fun A H h => by
  have w := walk_keys (d := d) (o := od) (kvs := kvs)
  have hl : (l.map fun kv => dK kv.1).length = kvs.length := by
    have := congrArg List.length hk
    simpa using this.symm
  rw [hl]
  refine ⟨fun i hi => w.goes i H hi h, w.stops H h, fun i x H' hi y => ?_⟩
  obtain ⟨rfl, k, v, e, rfl⟩ := w.yields i H x H' hi h y
  have q : (l.map (·.1))[i]? = some k := by
    rw [← hk, List.getElem?_map, e]
    rfl
  rw [List.getElem?_map] at q
  obtain ⟨kv, h1, h2⟩ := Option.map_eq_some_iff.mp q
  refine ⟨Ex.refl _, dK kv.1, by rw [List.getElem?_map, h1]; rfl, ?_⟩
  rw [h2]
  cases k <;> rfl
theorem cst_keys : CSt true (fun (_ : AP) (H : Hp) => H d = some (.frz od (.dK kvs))) := ⟨fun _ _ H H' δ h e _ => e.at h rfl, fun z => by cases z⟩
end
section
variable {T : Tb} {L : Nat} {W : WX} {X : Cx} {ow : List Nat}
theorem c_lck (G : Good T L W X) {own : List (Str × Nat)} {tg : Pt} {it : E} {ifs : List E} {e : E} {x t i : Expr} {cs : List Expr} {scope : Scope} {pos : Pos} (hb : blkC X.N X.env.scope scope own = true) (ht : ∀ i ∈ ptIx tg, owf ow i = false ∧ i ∈ own.map (·.2)) (hs : noSet i = true) (he : ownB e = false) (ho : ownB it = false)
    (hi : PE X i (rdE T X.K (owf ow) W it)) (hg : ∀ s H C cl fp, PG (X.blk s H scope (compEnvC scope cl C X.env) fp) t (gPt X.K tg)) (hc : ∀ s H C cl fp, PTs (X.blk s H scope (compEnvC scope cl C X.env) fp) cs (rdTs T X.K (owf ow) W0 ifs))
    (hx : ∀ s H C cl fp, PE (X.blk s H scope (compEnvC scope cl C X.env) fp) x (rdE T X.K (owf ow) W0 e)) : PE X (.ListComp x [⟨t, i, cs, 0⟩] scope pos) (rdE T X.K (owf ow) W (.lck own tg it ifs e)) :=
  (pe_un_lk (pe_lc G.calm G.nd (pi_keys (pe_lk hi)) (blkOk_by hb) hg hc hx (fold_of hs))).imp fun σ H Q h => by
    obtain ⟨B, O, ρ, xk, Qd, f, hq, hf⟩ := h
    have f0 : FX X.K (owf ow) W xk B O (dcE T it + wkL * (dcEs T ifs + dcE T e)) H σ ρ := f
    refine ⟨B, O, ρ, xk, _, f0.l, hq, fun w hw v H1 e1 r1 => ?_⟩
    obtain ⟨l, rfl, hlp, hw⟩ := hw
    obtain ⟨d, kvs, rfl, na, hrd, rk⟩ := r1.2.1 ho
    have hk := (repK_len rk).2
    have fr := f.fr.ex e1
    have rm := f0.rm.ex e1
    rcases hrd with hd | ⟨o, hd⟩
    · refine ⟨d, kvs, rfl, .inr ⟨hd, fun od hn => ⟨d, od, rfl, .inl ⟨kvs, upd_same, fun p hp => ?_⟩⟩⟩⟩
      have pd : p ≠ d := fun z => by rw [z, upd_same] at hp; cases hp
      have hp1 : H1 p = none := by rwa [upd_ne pd] at hp
      obtain ⟨c, hc1, hc2⟩ := rm
      refine lc_turns (fr.lock hd na) ⟨c, cnt_lock rfl hc1, hc2⟩ hlp hp (wk_keys hk) cst_keys upd_same ht he hw fun r us H2 hr e2 hus rl => ?_
      have h2 := e2.at upd_same (show isX (.frz od (.dK kvs)) = false from rfl)
      refine .inr ⟨d, od, .dK kvs, h2, hn, hf _ hr _ _ (e1.trans (ex_back hd e2)) (res_new (fr.fresh hp1) (e1.none hp1) ⟨us, by rw [upd_ne pd]; exact hus, RepL.keep (keeps_unlock h2) grows_refl _ _ rl⟩)⟩
    · refine ⟨d, kvs, rfl, .inl ⟨o, hd, ⟨d, o, rfl, .inl ⟨kvs, hd, fun p hp => ?_⟩⟩⟩⟩
      refine lc_turns fr rm hlp hp (wk_keys hk) cst_keys hd ht he hw fun r us H2 hr e2 hus rl => ?_
      exact .inl (hf _ hr _ H2 (e1.trans e2) (res_new (fr.fresh hp) (e1.none hp) ⟨us, hus, rl⟩))
end
end DL

/-! DN: the drawing state: made, drawn from -/
namespace DL
open PySem PySem.Spec PyProof.Rows L2 Evl

theorem sto_ok {P : Program} {w : World} {H : Hp} {h : Heap} {a s : Addr} {n : Nat} {t : Tok} {m : Nat} (e : h.get? a = some { cls := .type "list", data := .seq #[.ref s, .int (n : Int) t] m }) : ObjOk P w H h a (StO a s n) :=
  ⟨⟨t, m, e⟩, ⟨_, e⟩, fun h1 h2 ⟨t, m, q⟩ k => ⟨t, m, k _ q⟩⟩
theorem ex_st {H : Hp} {p s : Addr} (hp : H p = none) : Ex 0 H (upd H p (StO p s 0)) := by
  refine ⟨fun b o e => .inl ?_, fun c q a s' n e => ?_⟩
  · rw [upd_ne (ne_of_none e hp)]
    exact e
  · by_cases z : a = p
    · subst z
      rw [upd_same] at e
      obtain ⟨rfl, _⟩ := sto_inj (Option.some.inj e) rfl
      exact Nat.zero_le _
    · rw [upd_ne z] at e
      exact q a s' n e
section
variable {T : Tb} {L : Nat} {W : WX} {X : Cx} {ow : List Nat}
theorem c_newst {e : E} {x : Expr} {k : Nat} {p pos : Pos} (ho : ownB e = false) (hs : noStar x = true) (he : PE X x (rdE T X.K (owf ow) W e)) : PE X (.List [x, .Constant (.int 0) k p] pos) (rdE T X.K (owf ow) W (.newst e)) := by
  have pl := pe_lst (pos := pos) (pa_cons he (pa_cons (pe_int (X := X) (i := 0) (j := k) (pos := p)) pa_nil rfl) (star_of hs))
  refine ⟨fun pins s σ H Q I h => ?_⟩
  obtain ⟨B, O, ρ, xk, Qd, f, hq, hf⟩ := h
  refine wpAny_mono (pl.run pins s σ H (fun v H2 => ∃ q l H1 ns, v = .ref q ∧ H1 q = none ∧ H2 = upd H1 q (.lst [.ref l, .int 0]) ∧ ¬ U B O l ∧ H1 l = some (.lst (ns.map V.int)) ∧ ns ≠ [] ∧ (∀ n ∈ ns, 0 ≤ n ∧ n < 1009) ∧ ns.length ≤ 4000 ∧ Qd .st ∧ Ex (dcE T e) H H1) I ?_) (fun v s' hv => ?_) fun _ _ z => z
  · refine ⟨B, O, ρ, xk, _, f, hq, fun d hd v H1 e1 r1 => ?_⟩
    obtain ⟨ns, rfl, h1, h2, h3, h4⟩ := hd
    obtain ⟨l, vs, rfl, na, hl, rl⟩ := r1.2.1 ho
    obtain rfl := repL_of_map (f := D.int) (g := V.int) (fun _ _ z => z) rl
    refine ⟨by show 2 ≤ sizeLine; decide, fun q hqn => ⟨q, l, H1, ns, rfl, hqn, rfl, na, hl, h1, h2, h3, h4, e1⟩⟩
  · obtain ⟨y, H2, I2, r2, q, l, H1, ns, rfl, hqn, rfl, na, hl, h1, h2, h3, h4, e1⟩ := hv
    obtain ⟨z, its, n, rv, hh⟩ := I2.hok q _ upd_same
    obtain ⟨u1, u2, rfl, ru1, ru2⟩ := vals2 rv
    cases ru1
    obtain ⟨t, rfl⟩ := ru2
    have nq : l ≠ q := fun z => by rw [z, hqn] at hl; cases hl
    have J := I2.write (x := q) (e := q) (o := StO q l 0) (t' := s'.toks) (h' := s'.heap) (by rw [upd_same]; trivial) (.inl rfl) (fun b u _ q => q) ⟨_, hh⟩ (sto_ok (n := 0) hh)
    rw [upd_upd] at J
    have ex := ex_st (s := l) hqn
    refine ⟨.ref q, _, J, r2, hf _ h4 _ _ (e1.trans ex) (Res.of ?_ rfl)⟩
    refine ⟨q, l, 0, ns, rfl, (f.fr.ex e1).fresh hqn, na, upd_same, ?_, h1, h2, h3⟩
    rw [upd_ne nq]
    exact hl
end
/-! ### drawing -/
section
variable {X : Cx}
theorem st_list {h : Heap} {a s : Addr} {n : Nat} {t : Tok} {m : Nat} (e : h.get? a = some { cls := .type "list", data := .seq #[.ref s, .int (n : Int) t] m }) : h.IsList a #[.ref s, .int (n : Int) t] := ⟨_, e, rfl, m, rfl⟩
def rSt0 : R2 := fun x y H Q => ∃ a s n, x = .ref a ∧ y = .int 0 ∧ H a = some (StO a s n) ∧ Q (.ref s) H
def rSt1 : R2 := fun x y H Q => ∃ a s n, x = .ref a ∧ y = .int 1 ∧ H a = some (StO a s n) ∧ Q (.int (n : Nat)) H
theorem ix_st0 : IxR X rSt0 := by
  intro value slice pins s σ H x y v u Q I rx ry h hs
  obtain ⟨a, l, n, rfl, rfl, hH, q⟩ := h
  cases rx
  obtain ⟨t, rfl⟩ := ry
  obtain ⟨⟨t', m, e⟩, _, _⟩ := I.hok a _ hH
  exact item_listR (st_list e) (Int.le_refl 0) (by decide) (by rfl) (show EP X pins σ Q (.ref l) s from ⟨.ref l, H, I, rfl, q⟩) hs
theorem ix_st1 : IxR X rSt1 := by
  intro value slice pins s σ H x y v u Q I rx ry h hs
  obtain ⟨a, l, n, rfl, rfl, hH, q⟩ := h
  cases rx
  obtain ⟨t, rfl⟩ := ry
  obtain ⟨⟨t', m, e⟩, _, _⟩ := I.hok a _ hH
  exact item_listR (st_list e) (by decide) (by decide) (by rfl) (show EP X pins σ Q (.int (n : Nat) t') s from ⟨.int (n : Nat), H, I, ⟨t', rfl⟩, q⟩) hs
def rStSet : TSet := fun o i v H Q => ∃ a s n n', o = .ref a ∧ i = .int 1 ∧ v = .int ((n' : Nat) : Int) ∧ H a = some (StO a s n) ∧ Q (upd H a (StO a s n'))
theorem set_st : PSet X rStSet := by
  intro pins s σ H o i v ov iv u Q I ro ri rv h
  obtain ⟨a, l, n, n', rfl, rfl, rfl, hH, q⟩ := h
  cases ro
  obtain ⟨t, rfl⟩ := ri
  obtain ⟨t2, rfl⟩ := rv
  obtain ⟨⟨t', m, e⟩, _, _⟩ := I.hok a _ hH
  have e' : s.heap.get? a = some { cls := .type "list", data := .seq [Value.ref l, Value.int (n : Int) t'].toArray m } := e
  have up : (s.heap.update a (Obj.mapSeq (·.setIfInBounds 1 (Value.int ((n' : Nat) : Int) t2)))).get? a = some { cls := .type "list", data := .seq #[Value.ref l, Value.int ((n' : Nat) : Int) t2] m } := by
    rw [Heap.get?_update_self _ e' (by rw [mapSeq_set] <;> rfl), mapSeq_set]
    rfl
  refine PySem.W.ki_setAt (n := m) e' (by decide) (by decide) (by show (1 : Int) < 2; decide) ⟨_, I.write (x := a) (e := a) (o := StO a l n') (t' := s.toks) (by rw [hH]; trivial) (.inl rfl) (fun b w hb hw => ?_) ⟨_, up⟩ (sto_ok up), q⟩
  exact (Heap.get?_update_other _ _ (Ne.symm hb)).trans hw
/-- a step of the counter -/
theorem ex_next {H : Hp} {a s : Addr} {n : Nat} (h : H a = some (StO a s n)) : Ex 1 H (upd H a (StO a s (n + 1))) := by
  refine ⟨fun b o e => ?_, fun c q b s' m e => ?_⟩
  · by_cases z : b = a
    · subst z
      rw [h] at e
      cases e
      exact .inr ⟨s, n, n + 1, rfl, upd_same⟩
    · exact .inl (by rw [upd_ne z]; exact e)
  · by_cases z : b = a
    · subst z
      rw [upd_same] at e
      obtain ⟨rfl, _⟩ := sto_inj (Option.some.inj e) rfl
      have := q b s n h
      omega
    · rw [upd_ne z] at e
      have := q b s' m e
      omega
def tNext (K : PySem.W.Frag) : TS :=
  tSeq (tAsg (tOp (rI0 fun i j => .int (i + j)) (tOp rSt1 (tVar 0) (tC (.int 1))) (tC (.int 1))) (gSub (tVar 0) (tC (.int 1)) rStSet))
  (tSeq (tAsg (tOp (rI CDiv fun i j => .int (i / j)) (tOp rSt1 (tVar 0) (tC (.int 1))) (tCB (fun xs H Q => ∃ p ys, xs = [.ref p] ∧ (SqL K H p ys ∨ SqT K H p ys) ∧ Q (.int ys.length) H) (tCons (tOp rSt0 (tVar 0) (tC (.int 0))) tNil))) (gName 2))
  (tRet (tOp (rI (fun _ j => 0 < j) fun i j => .int (i % j))
    (tCB (fun xs H Q => (∃ i, xs = [.int i] ∧ Q (.int i) H) ∨ ∃ k, xs = [.bl k] ∧ Q (.int (if k then 1 else 0)) H)
      (tCons (tOp (rI0 fun i j => .int (i + j)) (tOp (rI0 fun i j => .int (i + j))
        (tOp (rIxL K) (tOp rSt0 (tVar 0) (tC (.int 0))) (tOp (rI (fun _ j => 0 < j) fun i j => .int (i % j)) (tOp rSt1 (tVar 0) (tC (.int 1))) (tCB (fun xs H Q => ∃ p ys, xs = [.ref p] ∧ (SqL K H p ys ∨ SqT K H p ys) ∧ Q (.int ys.length) H) (tCons (tOp rSt0 (tVar 0) (tC (.int 0))) tNil))))
        (tOp (rI CMul fun i j => .int (i * j)) (tVar 2) (tC (.int 389))))
        (tOp (rI CMul fun i j => .int (i * j)) (tOp (rI CMulX fun i j => .int (i * j)) (tOp rSt1 (tVar 0) (tC (.int 1))) (tVar 2)) (tC (.int 17)))) tNil)) (tVar 1))))
theorem next_body {K0 : PySem.W.Frag} (hK : X.K = K0) (hN : X.N = (["state", "many", "turn"] : List Str)) (nd : X.N.Nodup) (fn : ∀ x, X.fn x = true) (hl : X.mg "len" = none) (hi : X.mg "int" = none) (gl : Gl X "len") (gi : Gl X "int") (v0 : Vis X.env.scope "state") (v1 : Vis X.env.scope "many") (v2 : Loc X.env.scope "turn") {k1 k2 k3 k4 k5 k6 k7 k8 k9 k10 k11 : Nat}
    {p1 p2 p3 p4 p5 p6 p7 p8 p9 p10 p11 p12 p13 p14 p15 p16 p17 p18 p19 p20 p21 p22 p23 p24 p25 p26 p27 p28 p29 p30 p31 p32 p33 p34 p35 p36 p37 p38 p39 p40 p41 p42 p43 p44 p45 p46 p47 p48 p49 p50 : Pos} :
    PSs X [.Assign [.Subscript (.Name "state" p1) (.Constant (.int 1) k1 p2) p3] (.BinOp (.Subscript (.Name "state" p4) (.Constant (.int 1) k2 p5) p6) .Add (.Constant (.int 1) k3 p7) p8) p9,
      .Assign [.Name "turn" p10] (.BinOp (.Subscript (.Name "state" p11) (.Constant (.int 1) k4 p12) p13) .FloorDiv (.Call (.Name "len" p14) [.Subscript (.Name "state" p15) (.Constant (.int 0) k5 p16) p17] [] p18) p19) p20,
      .Return (some (.BinOp (.Call (.Name "int" p21) [.BinOp (.BinOp (.Subscript (.Subscript (.Name "state" p22) (.Constant (.int 0) k6 p23) p24) (.BinOp (.Subscript (.Name "state" p25) (.Constant (.int 1) k7 p26) p27) .Mod (.Call (.Name "len" p28) [.Subscript (.Name "state" p29) (.Constant (.int 0) k8 p30) p31] [] p32) p33) p34) .Add
        (.BinOp (.Name "turn" p35) .Mult (.Constant (.int 389) k9 p36) p37) p38) .Add (.BinOp (.BinOp (.Subscript (.Name "state" p39) (.Constant (.int 1) k10 p40) p41) .Mult (.Name "turn" p42) p43) .Mult (.Constant (.int 17) k11 p44) p45) p46] [] p47) .Mod (.Name "many" p48) p49)) p50] (tNext K0) := by
  subst hK
  have n0 : X.N[0]? = some ("state" : Str) := by rw [hN]; rfl
  have n1 : X.N[1]? = some ("many" : Str) := by rw [hN]; rfl
  have n2 : X.N[2]? = some ("turn" : Str) := by rw [hN]; rfl
  have vs : ∀ p, PE X (.Name "state" p) (tVar 0) := fun p => pe_var n0 v0 (by decide) (by decide)
  have vm : ∀ p, PE X (.Name "many" p) (tVar 1) := fun p => pe_var n1 v1 (by decide) (by decide)
  have vt : ∀ p, PE X (.Name "turn" p) (tVar 2) := fun p => pe_var n2 (v2.elim .inl fun z => .inr (.inl z)) (by decide) (by decide)
  have s1 : ∀ p q r k, PE X (.Subscript (.Name "state" p) (.Constant (.int 1) k q) r) (tOp rSt1 (tVar 0) (tC (.int 1))) := fun p q r k => pe_ix ix_st1 (vs p) pe_int fun _ _ => rfl
  have s0 : ∀ p q r k, PE X (.Subscript (.Name "state" p) (.Constant (.int 0) k q) r) (tOp rSt0 (tVar 0) (tC (.int 0))) := fun p q r k => pe_ix ix_st0 (vs p) pe_int fun _ _ => rfl
  have ln : ∀ a b p q r k, PE X (.Call (.Name "len" a) [.Subscript (.Name "state" p) (.Constant (.int 0) k q) r] [] b) (tCB (fun xs H Q => ∃ p ys, xs = [.ref p] ∧ (SqL X.K H p ys ∨ SqT X.K H p ys) ∧ Q (.int ys.length) H) (tCons (tOp rSt0 (tVar 0) (tC (.int 0))) tNil)) := fun a b p q r k =>
    pe_callB call_len_seq gl hl PySem.boot_len (pa_cons (s0 p q r k) pa_nil rfl) (by decide) (by decide) rfl rfl
  refine pss_cons (ps_asg (pe_op op_add (s1 ..) pe_int) (pg_sub (vs _) pe_int set_st (fun _ => rfl)) rfl rfl rfl) (pss_cons (ps_set nd n2 v2 (pe_op op_fdiv (s1 ..) (ln ..)) rfl (.inl (fn _))) (pss_one (ps_ret (pe_op op_mod (pe_callTy call_int1 gi hi PyProof.Rows.boot_int (pa_cons (pe_op op_add (pe_op op_add (pe_ix ix_list (s0 ..) (pe_op op_mod (s1 ..) (ln ..)) fun _ _ => rfl) (pe_op op_mul (vt _) pe_int)) (pe_op op_mul (pe_op op_mulX (s1 ..) (vt _)) pe_int)) pa_nil rfl) (by decide) (by decide) rfl rfl) (vm _)))))
end
end DL

/-! DT: len(set(xs)) of texts -/
namespace DL
open PySem PySem.Spec PyProof.Rows L2 Evl

theorem dist_step {xs : List Str} {i : Nat} (h : i < xs.length) : distS (xs.take (i + 1)) = if xs[i] ∈ distS (xs.take i) then distS (xs.take i) else distS (xs.take i) ++ [xs[i]] := by
  unfold distS
  rw [List.take_succ_eq_append_getElem h, List.foldl_append]
  rfl
theorem dist_le (xs : List Str) : ∀ i, i ≤ xs.length → (distS (xs.take i)).length ≤ i
  | 0, _ => Nat.le_refl _
  | i + 1, h => by
    rw [dist_step h]
    have := dist_le xs i (Nat.le_of_succ_le h)
    split
    · omega
    · rw [List.length_append, List.length_singleton]
      omega
theorem any_mem (l : List Str) (k : Str) : (l.any fun y => y == k) = decide (k ∈ l) := by
  rw [Bool.eq_iff_iff, List.any_eq_true, decide_eq_true_eq]
  exact ⟨fun ⟨y, h, e⟩ => by rw [← beq_iff_eq.mp e]; exact h, fun h => ⟨k, h, beq_iff_eq.mpr rfl⟩⟩
section
variable {prog : Program} {w : World} {A : Around} {R : Result → Shared → Prop} {I : Addr} {fp wr : List Addr} {G : Array GenState → Array GenState → Prop} {n : Nat} {P : Nat → Value → Prop} {St : Nat → Shared → Prop}
abbrev SetStr (prog : Program) (w : World) (h : Heap) (S : Addr) (l : List Str) : Prop := h.SetOf (PySem.strKind prog w) S (fun k => l.any fun y => y == k) l.length
theorem loop_texts (W : WalksS prog w A.in1 I fp wr G n P St) (S : Addr) (hSf : S ∉ fp) (xs : List Str) (hsz : xs.length = n) (hb : n + 1 < scanBound) (hval : ∀ i v, P i v → ∃ t, v = .str (xs.getD i Str.empty) t) :
    ∀ (k i : Nat) (s : Shared), n - i = k → i ≤ n → St i s → SetStr prog w s.heap S (distS (xs.take i)) → (∀ s', Moved (S :: wr) G s s' → SetStr prog w s'.heap S (distS (xs.take n)) → R (.ok (.ret .none)) s') →
      codeAny (model prog w) A (.builtin "set.update.loop" ⟨[.ref S, .ref I], []⟩) R s := by
  have nSw : S ∉ wr := fun z => hSf (W.sub _ z)
  have sub : ∀ b ∈ wr, b ∈ S :: wr := fun b z => List.mem_cons_of_mem _ z
  intro k
  induction k with
  | zero =>
    intro i s hk hi st hS hR
    obtain rfl : i = n := by omega
    refine codeAny_builtin PyProof.Rows.F.entry_set_update_loop ?_
    rw [Around.under_plainId PyProof.Rows.F.plain_set_update_loop _]
    show wpAny _ A.in1 (pyNext (.ref I) >>= _) _ _ s
    refine wpAny_bind (W.done s _ _ st fun s' mv => ?_)
    show wpAny _ A.in1 (ret Value.none) _ _ s'
    refine wpAny_pure (hR s' (mv.mono sub) ?_)
    obtain ⟨o, es, ep, tb, ho, rest⟩ := hS
    exact ⟨o, es, ep, tb, mv.heap S _ nSw ho, rest⟩
  | succ k ih =>
    intro i s hk hi st hS hR
    have lt : i < n := by omega
    have lx : i < xs.length := by omega
    refine codeAny_builtin PyProof.Rows.F.entry_set_update_loop ?_
    rw [Around.under_plainId PyProof.Rows.F.plain_set_update_loop _]
    show wpAny _ A.in1 (pyNext (.ref I) >>= _) _ _ s
    refine wpAny_bind (W.item i s _ _ lt st fun v s' hP st' mv => ?_)
    obtain ⟨t, rfl⟩ := hval i v hP
    have hx : xs.getD i Str.empty = xs[i] := by rw [List.getD_eq_getElem?_getD, List.getElem?_eq_getElem lx]; rfl
    rw [hx]
    have hS' : SetStr prog w s'.heap S (distS (xs.take i)) := by
      obtain ⟨o, es, ep, tb, ho, rest⟩ := hS
      exact ⟨o, es, ep, tb, mv.heap S _ nSw ho, rest⟩
    show wpAny _ A.in1 (holding [Value.str xs[i] t] (setAdd S (.str xs[i] t)) >>= _) _ _ s'
    refine wpAny_bind (wpAny_holding ?_)
    unfold setAdd
    refine wpAny_holding (wpAny_bind ((PySem.strKind prog w).pyHash (k := xs[i]) (strKind_is _ _ _ _) ?_))
    have room : (distS (xs.take i)).length + 1 < scanBound := by
      have := dist_le xs i (by omega)
      omega
    refine wpAny_setAddHashed_of (knd := PySem.strKind prog w) (s := { s' with toks := s'.toks + 1 }) (strKind_is _ _ _ _) rfl hS' room fun h' sb hS2 => ?_
    have hS3 : SetStr prog w h' S (distS (xs.take (i + 1))) := by
      refine SetOf_congr hS2 (fun k' => ?_) ?_
      · rw [dist_step lx, any_mem]
        split
        · rename_i hm
          rw [any_mem]
          by_cases e : k' = xs[i]
          · rw [e]
            simp [hm]
          · simp [e]
        · rw [any_mem]
          by_cases e : k' = xs[i]
          · simp [e]
          · simp [e]
      · rw [dist_step lx, any_mem]
        by_cases hm : xs[i] ∈ distS (xs.take i)
        · rw [if_pos hm, if_pos (by simpa using hm)]
        · rw [if_neg hm, if_neg (by simpa using hm), List.length_append, List.length_singleton]
    refine wpAny_pure ⟨plainId_quiet PyProof.Rows.F.plain_set_update_loop _, ih (i + 1) _ (by omega) lt (W.frame _ s' _ _ st' (Nat.le_succ _) fun b hb o e => ?_) hS3 fun s'' mv2 hS4 => ?_⟩
    · rw [sb.2 b fun z : b = S => hSf (by rw [← z]; exact hb)]
      exact e
    · refine hR s'' (Moved.trans W.gtrans ((mv.mono sub).then_heap (Nat.le_succ _) fun b o hb e => ?_) mv2) hS4
      rw [sb.2 b fun z : b = S => hb (by rw [z]; exact List.mem_cons_self)]
      exact e
end
section
variable {prog : Program} {w : World} {A : Around} {E : Value → Shared → Prop} {s : Shared}
theorem set_texts {l : Addr} {items : Array Value} {xs : List Str} {Q : Value → Shared → Prop} (hh : A.handled = none) (hl : s.heap.IsList l items) (hi : PyProof.Rows.StrsAre items.toList xs) (hb : items.size + 1 < scanBound)
    (h : ∀ (h' : Heap) (tk : Nat), SetStr prog w h' s.heap.objs.size (distS xs) → (∀ b o, b < s.heap.objs.size → s.heap.get? b = some o → h'.get? b = some o) → Q (.ref s.heap.objs.size) { s with heap := h', toks := tk }) :
    wpAny (model prog w) A (call (.type "set") [.ref l]) Q E s := by
  obtain ⟨c0, tl, mro0⟩ := PySem.F.called_set.mro
  have made0 := PySem.F.called_set.made
  have sub0 := PySem.F.called_set.sub
  have xsz : xs.length = items.size := by rw [← StrsAre.len_eq hi, Array.length_toList]
  refine wpAny_call (codeAny_of_tree ?_)
  show wpAny _ _ (callAny (.type "set") _) _ _ _
  refine wpAny_pure ⟨Code.quiet_builtin _ (by decide +kernel), codeAny_builtin PySem.F.entry_type_call ?_⟩
  rw [Around.under_plain (weight_type_call_type "set" [.ref l] []) rfl]
  have nt0 := PySem.F.called_set.notType
  have cc0 := PySem.F.called_set.canCreate
  have ct0 := PySem.F.typeCall_set_1 (.ref l)
  repeat (any_goals (first | assumption | wp_step))
  refine codeAny_mono (code_set_new_1 (.ref l) (E := E) (Q₁ := fun ob s₁ => ∃ led : Bool, ob = .ref s.heap.objs.size ∧ s₁ = { s with heap := s.heap.push { cls := .type "set", dict := none, data := .set #[] 0 (.fresh 0 0 led) } }) fun led => ⟨led, rfl, rfl⟩) fun r s₁ hr => ?_
  cases r with
  | error e => exact hr
  | ok fl =>
    cases fl with
    | ret ob =>
      obtain ⟨led, rfl, rfl⟩ := hr
      have gS : (s.heap.push { cls := .type "set", dict := none, data := .set #[] 0 (.fresh 0 0 led) }).get? s.heap.objs.size = some { cls := .type "set", dict := none, data := .set #[] 0 (.fresh 0 0 led) } := Heap.get?_push_size _ rfl
      have tS : Shared.TypeIs { s with heap := s.heap.push { cls := .type "set", dict := none, data := .set #[] 0 (.fresh 0 0 led) } } (.ref s.heap.objs.size) "set" := ⟨_, gS, rfl⟩
      have il0 := PySem.F.called_set.init.lookup
      have ib0 := PySem.F.called_set.init.bind (.ref s.heap.objs.size)
      repeat (any_goals (first | assumption | wp_step))
      refine codeAny_mono (codeAny_call_builtin (R := wants (fun r s₂ => r = .none ∧ ∃ h' tk, s₂ = { s with heap := h', toks := tk } ∧ SetStr prog w h' s.heap.objs.size (distS xs) ∧
          (∀ b o, b < s.heap.objs.size → s.heap.get? b = some o → h'.get? b = some o)) E) PySem.F.called_set.init.plain PySem.F.entry_set_init (check_set_init_1 tS ?_)) fun r₂ s₂ hr₂ => ?_
      · obtain ⟨ol, gl, cl, nl, dl⟩ := hl
        obtain ⟨ocls, odict, odata, oslots⟩ := ol
        simp only at cl dl
        subst cl dl
        have gl' : (s.heap.push { cls := .type "set", dict := none, data := .set #[] 0 (.fresh 0 0 led) }).get? l = some { cls := .type "list", dict := odict, data := .seq items nl, slots := oslots } := Heap.get?_push_of_some _ gl
        have ls0 := PySem.F.sub_list_set
        have lf0 := PySem.F.sub_list_frozenset
        have ne0 : (Value.type "list" == Value.type "dict") = false := by decide
        have l1 : (s.heap.push { cls := .type "set", dict := none, data := .set #[] 0 (.fresh 0 0 led) }).IsList l items := ⟨_, gl', rfl, nl, rfl⟩
        unfold Builtin.«set.__init__» noKeywords Builtin.Frozenset.updateFrom
        generalize hPI : pyIter = PI
        wp_walk
        subst hPI
        refine wpAny_pyIter_list l1 ?_
        refine wpAny_bind (wpAny_runValue ?_)
        have lS : l < s.heap.objs.size := Heap.lt_size gl
        have h3 : A.in1.in1.in1.handled = none := by simp [hh]
        have nI : l ≠ (s.heap.push { cls := .type "set", dict := none, data := .set #[] 0 (.fresh 0 0 led) }).objs.size := by
          rw [Heap.size_push]
          exact Nat.ne_of_lt (Nat.lt_succ_of_lt lS)
        have nS : s.heap.objs.size ∉ [(s.heap.push { cls := .type "set", dict := none, data := .set #[] 0 (.fresh 0 0 led) }).objs.size, l] := by
          rw [Heap.size_push]
          simp only [List.mem_cons, List.not_mem_nil, or_false, not_or]
          exact ⟨Nat.ne_of_lt (Nat.lt_succ_self _), Nat.ne_of_gt lS⟩
        have val0 : ∀ (i : Nat) (v : Value), items[i]? = some v → ∃ t, v = .str (xs.getD i Str.empty) t := fun i v hv => SS.strs_at hi i v (by rw [Array.getElem?_toList]; exact hv)
        refine loop_texts ((Walks.list h3 _ l nI items).toS) s.heap.objs.size nS xs xsz hb val0 (items.size - 0) 0 _ (by omega) (Nat.zero_le _) ⟨⟨_, Heap.get?_push_size _ rfl, rfl, rfl⟩, (l1.push _)⟩ ?hS0 ?hR
        case hS0 =>
          have g2 : ((s.heap.push { cls := .type "set", dict := none, data := .set #[] 0 (.fresh 0 0 led) }).push { cls := .type "list_iterator", data := .fields #[.ref l, .int 0 0] }).get? s.heap.objs.size = some { cls := .type "set", dict := none, data := .set #[] 0 (.fresh 0 0 led) } := Heap.get?_push_of_some _ gS
          exact PyProof.Rows.SetOf_congr ((PyProof.Rows.setObjOf_fresh (knd := PySem.strKind prog w) led).setOf g2 (by unfold scanBound; omega)) (fun _ => rfl) rfl
        case hR =>
          intro s' mv hS'
          obtain ⟨h', g', d', tk', os'⟩ := s'
          obtain rfl : g' = s.gens := mv.gens
          obtain rfl : d' = s.drawn := mv.drawn
          obtain rfl : os' = s.os := mv.os
          show wpAny _ _ _ _ _ _
          refine wpAny_pure ?_
          show wpAny _ _ (ret Value.none) _ _ _
          rw [← xsz, List.take_length] at hS'
          refine wpAny_pure ⟨rfl, h', tk', rfl, hS', fun b o hb e => ?_⟩
          have b2 : b ≠ (s.heap.push { cls := .type "set", dict := none, data := .set #[] 0 (.fresh 0 0 led) }).objs.size := by
            rw [Heap.size_push]
            exact Nat.ne_of_lt (Nat.lt_succ_of_lt hb)
          exact mv.heap b o (by simp only [List.mem_cons, List.not_mem_nil, or_false, not_or]; exact ⟨Nat.ne_of_lt hb, b2⟩) (Heap.get?_push_of_some _ (Heap.get?_push_of_some _ e))
      · cases r₂ with
        | error e => exact hr₂
        | ok fl₂ =>
          cases fl₂ with
          | ret r =>
            obtain ⟨rfl, h', tk, rfl, hS', hk'⟩ := hr₂
            repeat (any_goals (first | assumption | wp_step))
            exact h _ _ hS' hk'
          | _ => exact hr₂.elim
    | _ => exact hr.elim
end
end DL

/-! DU: len(set(xs)) as an expression -/
namespace DL
open PySem PySem.Spec PyProof.Rows L2 Evl

section
variable {T : Tb} {L : Nat} {W : WX} {X : Cx} {ow : List Nat}
theorem c_lenset (G : Good T L W X) {a : E} {y : Expr} {p p2 q pos : Pos} (g1 : Gl X "len") (g2 : Gl X "set") (ns : noStar y = true) (he : PE X y (rdE T X.K (owf ow) W a)) :
    PE X (.Call (.Name "len" p) [.Call (.Name "set" p2) [y] [] q] [] pos) (rdE T X.K (owf ow) W (.lenset a)) := by
  refine ⟨fun pins s σ H Q I h => Call_ (ld_blt I g1 (G.tab.free .len) PySem.boot_len ?_)⟩
  obtain ⟨B, O, ρ, xk, Qd, f, hq, hf⟩ := h
  refine PyProof.Rows.callWith_builtin1 (PyProof.Rows.args_cons (Call_ (ld_blt I g2 G.tab.set boot_set ?_)) rfl) rfl rfl
  refine PyProof.Rows.callWith_type1 (PyProof.Rows.args_cons (thn (he.run pins s σ H (fun v H1 => ∃ l ss, v = .ref l ∧ H1 l = some (.lst (ss.map V.str)) ∧ ss.length ≤ 4000 ∧ Q (.int (distS ss).length) H1) I ?_) fun v s1 ⟨x, H1, I1, r1, q1⟩ => PyProof.Rows.args_nil ?_) (star_of ns)) (star_of ns) rfl
  · refine ⟨B, O, ρ, xk, _, f, (show wpE T xk a ρ fun x => ∃ ss : List Str, x = .lst (ss.map .str) ∧ ss.length ≤ 4000 ∧ Qd (.int (distS ss).length) from hq), fun d hd v H1 e1 r1 => ?_⟩
    obtain ⟨ss, rfl, h1, h2⟩ := hd
    obtain ⟨l, vs, rfl, hl, rl⟩ := rb_lst r1.1
    obtain rfl := repL_of_map (f := D.str) (g := V.str) (fun _ _ z => z) rl
    exact ⟨l, ss, rfl, hl, h1, hf _ h2 _ H1 e1 (Res.of rfl rfl)⟩
  · obtain ⟨l, ss, rfl, hl, h1, h2⟩ := q1
    cases r1
    obtain ⟨its, r, pl, hz⟩ := I1.list (.inl (.inl hl))
    have hn : its.toArray.size = ss.length := by rw [List.size_toArray, ← r.length, List.length_map]
    refine set_texts (I1.ok.hd G.calm) pl.isList (by simpa using strsAre_of r) (by rw [hn]; unfold scanBound; omega) fun h' tk hS hk => PyProof.Rows.args_nil ?_
    have dl := dist_le ss ss.length (Nat.le_refl _)
    rw [List.take_length] at dl
    obtain ⟨o, es, ep, t, ho, hex, hd, _, _, _, hfit, hcount⟩ := hS
    have I2 : Inv X pins σ H1 { s1 with heap := h', toks := tk } := I1.kept fun b o e => hk b o (Heap.lt_size e) e
    exact call_len_set ho hex hd hfit (by rw [hcount]; omega) ⟨.int (distS ss).length, H1, I2.tok _, ⟨_, by rw [hcount]⟩, h2⟩
end
end DL

/-! DJ: dict(zip(t, u)) of two tuples -/
namespace DL
open PySem PySem.Spec PyProof.Rows L2 Evl RZ

section
variable {prog : Program} {w : World} {A : Around} {E : Value → Shared → Prop} {s : Shared}
theorem zh_item {z ti to T j1 j2 t1 t2 : Addr} {f : Bool} {oT : Obj} {m1 m2 : Nat} {us vs : Array Value} {x y : Value} {Q : Value → Shared → Prop} (Z : ZipApart z ti to j1 j2 t1 t2)
    (ez : IsZipHeld s.heap z ti to T f) (eT : s.heap.get? T = some oT) (eti : IsPair s.heap ti (.ref j1) (.ref j2)) (e1 : s.heap.IsTupleIter j1 t1 m1) (e2 : s.heap.IsTupleIter j2 t2 m2) (g1 : s.heap.IsTuple t1 us) (g2 : s.heap.IsTuple t2 vs) (ex : us[m1]? = some x) (ey : vs[m2]? = some y)
    (q : ∀ h', IsZipHeld h' z ti to T true → h'.IsTupleIter j1 t1 (m1 + 1) → h'.IsTupleIter j2 t2 (m2 + 1) → IsPair h' s.heap.objs.size x y → h'.objs.size = s.heap.objs.size + 1 →
      (∀ c o, c ≠ z → c ≠ j1 → c ≠ j2 → s.heap.get? c = some o → h'.get? c = some o) → Q (.ref s.heap.objs.size) { s with heap := h' }) :
    wpAny (model prog w) A (Builtin.«zip.__next__» ⟨[.ref z], []⟩) (fun r s' => ∃ v, r = .done (.ret v) ∧ Q v s') E s := by
  show wpAny _ _ (field (.ref z) 2 >>= _) _ _ _
  refine wpAny_bind (wpAny_field ez rfl (x := .bool false) rfl ?_)
  show wpAny _ _ (field (.ref z) 3 >>= _) _ _ _
  refine wpAny_bind (wpAny_field ez rfl (x := .ref ti) rfl (wpAny_bind (wpAny_seqItems eti rfl ?_)))
  show wpAny _ _ (Builtin.SmallTypes.ownedTupleIsFree (.ref z) >>= _) _ _ _
  refine wpAny_bind (wpAny_tupleHeld_zip ez eT fun ha za sa => ?_)
  simp only [Bool.false_eq_true, if_false]
  refine wpAny_bind ?_
  rw [← Array.forIn_toList]
  simp only [List.forIn_cons, List.forIn_nil]
  refine wpAny_bind (wpAny_bind (wpAny_holding ?_))
  show wpAny _ _ (Builtin.SmallTypes.nextOf (.ref j1) >>= _) _ _ _
  refine wpAny_bind (nextOf_tuple_item (s := { s with heap := ha }) (e1.extBut sa.extBut Z.i1z) (g1.extBut sa.extBut Z.l1z) ex fun hb b1 sb => wpAny_pure (wpAny_pure ?_))
  refine wpAny_bind (wpAny_bind (wpAny_holding ?_))
  show wpAny _ _ (Builtin.SmallTypes.nextOf (.ref j2) >>= _) _ _ _
  refine wpAny_bind (nextOf_tuple_item (s := { s with heap := hb }) ((e2.extBut sa.extBut Z.i2z).extBut sb.extBut Z.i12.symm) ((g2.extBut sa.extBut Z.l2z).extBut sb.extBut Z.l2i1) ey fun hc c2 sc => wpAny_pure (wpAny_pure (wpAny_pure ?_)))
  show wpAny _ _ (newTuple [x, y] >>= _) _ _ _
  refine wpAny_bind (wpAny_newTuple (wpAny_pure ⟨_, rfl, ?_⟩))
  have size : hc.objs.size = s.heap.objs.size := by rw [sc.1, sb.1, sa.1]
  have zc : IsZipHeld hc z ti to T true := sc.extBut _ _ Z.i2z.symm (sb.extBut _ _ Z.i1z.symm za)
  have kp : ∀ c o, c ≠ z → c ≠ j1 → c ≠ j2 → s.heap.get? c = some o → hc.get? c = some o := fun c o n1 n2 n3 e => sc.extBut _ _ n3 (sb.extBut _ _ n2 (sa.extBut _ _ n1 e))
  have c1 : hc.IsTupleIter j1 t1 (m1 + 1) := b1.extBut sc.extBut Z.i12
  show Q (.ref hc.objs.size) _
  have pr : IsPair (hc.push { cls := .type "tuple", data := .seq #[x, y] }) hc.objs.size x y := Heap.get?_push_size _ rfl
  have sz : (hc.push { cls := .type "tuple", data := .seq #[x, y] }).objs.size = hc.objs.size + 1 := Heap.size_push ..
  rw [size] at pr sz ⊢
  exact q _ (Heap.get?_push_of_some _ zc) (c1.at fun o e => Heap.get?_push_of_some _ e) (c2.at fun o e => Heap.get?_push_of_some _ e) pr sz fun c o n1 n2 n3 e => Heap.get?_push_of_some _ (kp c o n1 n2 n3 e)
theorem zh_end {z ti to T j1 j2 t1 t2 : Addr} {f : Bool} {oT : Obj} {m1 m2 : Nat} {us vs : Array Value} {Q : PySem.Fin → Shared → Prop} (hh : A.handled = none) (Z : ZipApart z ti to j1 j2 t1 t2)
    (ez : IsZipHeld s.heap z ti to T f) (eT : s.heap.get? T = some oT) (eti : IsPair s.heap ti (.ref j1) (.ref j2)) (e1 : s.heap.IsTupleIter j1 t1 m1) (e2 : s.heap.IsTupleIter j2 t2 m2) (g1 : s.heap.IsTuple t1 us) (g2 : s.heap.IsTuple t2 vs) (no : us[m1]? = none ∨ vs[m2]? = none)
    (q : ∀ h' e, (∀ c o, c ≠ z → c ≠ j1 → c ≠ j2 → s.heap.get? c = some o → h'.get? c = some o) → (∃ o, h'.get? e = some o ∧ o.cls = .type "StopIteration") → E (.ref e) { s with heap := h' }) :
    wpAny (model prog w) A (Builtin.«zip.__next__» ⟨[.ref z], []⟩) Q E s := by
  show wpAny _ _ (field (.ref z) 2 >>= _) _ _ _
  refine wpAny_bind (wpAny_field ez rfl (x := .bool false) rfl ?_)
  show wpAny _ _ (field (.ref z) 3 >>= _) _ _ _
  refine wpAny_bind (wpAny_field ez rfl (x := .ref ti) rfl (wpAny_bind (wpAny_seqItems eti rfl ?_)))
  show wpAny _ _ (Builtin.SmallTypes.ownedTupleIsFree (.ref z) >>= _) _ _ _
  refine wpAny_bind (wpAny_tupleHeld_zip ez eT fun ha za sa => ?_)
  simp only [Bool.false_eq_true, if_false]
  refine wpAny_bind ?_
  rw [← Array.forIn_toList]
  simp only [List.forIn_cons, List.forIn_nil]
  refine wpAny_bind (wpAny_bind (wpAny_holding ?_))
  show wpAny _ _ (Builtin.SmallTypes.nextOf (.ref j1) >>= _) _ _ _
  cases ex : us[m1]? with
  | none => exact wpAny_bind (nextOf_tuple_end (s := { s with heap := ha }) hh (e1.extBut sa.extBut Z.i1z) (g1.extBut sa.extBut Z.l1z) ex fun hb e sb he => q hb e (fun c o n1 n2 _ x => sb _ _ n2 (sa.extBut _ _ n1 x)) he)
  | some x =>
    have ey : vs[m2]? = none := no.resolve_left fun h => by rw [ex] at h; cases h
    refine wpAny_bind (nextOf_tuple_item (s := { s with heap := ha }) (e1.extBut sa.extBut Z.i1z) (g1.extBut sa.extBut Z.l1z) ex fun hb b1 sb => wpAny_pure (wpAny_pure ?_))
    refine wpAny_bind (wpAny_bind (wpAny_holding ?_))
    show wpAny _ _ (Builtin.SmallTypes.nextOf (.ref j2) >>= _) _ _ _
    exact wpAny_bind (nextOf_tuple_end (s := { s with heap := hb }) hh ((e2.extBut sa.extBut Z.i2z).extBut sb.extBut Z.i12.symm) ((g2.extBut sa.extBut Z.l2z).extBut sb.extBut Z.l2i1) ey fun hc e sc he => q hc e (fun c o n1 n2 n3 x => sc _ _ n3 (sb.extBut _ _ n2 (sa.extBut _ _ n1 x))) he)
theorem zh_next {z ti to T j1 j2 t1 t2 : Addr} {f : Bool} {oT : Obj} {m1 m2 : Nat} {us vs : Array Value} {x y : Value} {Q : Option Value → Shared → Prop} (Z : ZipApart z ti to j1 j2 t1 t2)
    (ez : IsZipHeld s.heap z ti to T f) (eT : s.heap.get? T = some oT) (eti : IsPair s.heap ti (.ref j1) (.ref j2)) (e1 : s.heap.IsTupleIter j1 t1 m1) (e2 : s.heap.IsTupleIter j2 t2 m2) (g1 : s.heap.IsTuple t1 us) (g2 : s.heap.IsTuple t2 vs) (ex : us[m1]? = some x) (ey : vs[m2]? = some y)
    (q : ∀ h', IsZipHeld h' z ti to T true → h'.IsTupleIter j1 t1 (m1 + 1) → h'.IsTupleIter j2 t2 (m2 + 1) → IsPair h' s.heap.objs.size x y → h'.objs.size = s.heap.objs.size + 1 →
      (∀ c o, c ≠ z → c ≠ j1 → c ≠ j2 → s.heap.get? c = some o → h'.get? c = some o) → Q (some (.ref s.heap.objs.size)) { s with heap := h' }) : wpAny (model prog w) A (pyNext (.ref z)) Q E s := by
  have tz : s.TypeIs (.ref z) "zip" := ⟨_, ez, rfl⟩
  unfold pyNext
  exact wpAny_bind (wpAny_attempt (wpAny_callSpecial?_slot (name := Str.ofString "__next__") tz PySem.F.slot_zip_next (wpAny_call_entry PySem.F.slot_zip_next tz PySem.F.entry_zip_next (zh_item Z ez eT eti e1 e2 g1 g2 ex ey fun h' a b c d e g => wpAny_pure (q h' a b c d e g)) (PySem.F.args_zip_next_1 _))))
theorem zh_done {z ti to T j1 j2 t1 t2 : Addr} {f : Bool} {oT : Obj} {m1 m2 : Nat} {us vs : Array Value} {Q : Option Value → Shared → Prop} (hh : A.handled = none) (Z : ZipApart z ti to j1 j2 t1 t2)
    (ez : IsZipHeld s.heap z ti to T f) (eT : s.heap.get? T = some oT) (eti : IsPair s.heap ti (.ref j1) (.ref j2)) (e1 : s.heap.IsTupleIter j1 t1 m1) (e2 : s.heap.IsTupleIter j2 t2 m2) (g1 : s.heap.IsTuple t1 us) (g2 : s.heap.IsTuple t2 vs) (no : us[m1]? = none ∨ vs[m2]? = none)
    (q : ∀ h', (∀ c o, c ≠ z → c ≠ j1 → c ≠ j2 → s.heap.get? c = some o → h'.get? c = some o) → Q none { s with heap := h' }) : wpAny (model prog w) A (pyNext (.ref z)) Q E s := by
  have tz : s.TypeIs (.ref z) "zip" := ⟨_, ez, rfl⟩
  unfold pyNext
  refine wpAny_bind (wpAny_attempt (wpAny_callSpecial?_slot (name := Str.ofString "__next__") tz PySem.F.slot_zip_next (wpAny_call_entry PySem.F.slot_zip_next tz PySem.F.entry_zip_next (zh_end hh Z ez eT eti e1 e2 g1 g2 no fun h' e kp he => ?_) (PySem.F.args_zip_next_1 _))))
  obtain ⟨o, ho, hc⟩ := he
  exact wpAny_bind (wpAny_isInstance (T := "StopIteration") (b := true) ⟨o, ho, hc⟩ isSubtype_stop (wpAny_pure (q _ kp)))
end
section
variable {prog : Program} {w : World}
theorem arg_zipT (z ti to j1 j2 t1 t2 : Addr) (Z : ZipApart z ti to j1 j2 t1 t2) (us vs : Array Value) :
    PairArg prog w "zip" z [z, ti, to, j1, j2, t1, t2] [z, to, j1, j2] (min us.size vs.size) (fun i k v => us[i]? = some k ∧ vs[i]? = some v)
      (fun h => IsZip h z ti to .none ∧ IsPair h ti (.ref j1) (.ref j2) ∧ (∃ a b, IsPair h to a b) ∧ h.IsTupleIter j1 t1 0 ∧ h.IsTupleIter j2 t2 0 ∧ h.IsTuple t1 us ∧ h.IsTuple t2 vs) where
  type := fun s ok => ⟨_, ok.1, rfl⟩
  notDict := by decide
  keep := fun h h' ok kp => by
    obtain ⟨q1, q2, ⟨a, b, q3⟩, q4, q5, q6, q7⟩ := ok
    exact ⟨kp _ _ q1, kp _ _ q2, ⟨a, b, kp _ _ q3⟩, q4.at fun o e => kp _ o e, q5.at fun o e => kp _ o e, q6.at fun o e => kp _ o e, q7.at fun o e => kp _ o e⟩
  there := fun h ok b hb => by
    obtain ⟨q1, q2, ⟨a, c, q3⟩, ⟨o4, q4, _⟩, ⟨o5, q5, _⟩, ⟨o6, q6, _⟩, ⟨o7, q7, _⟩⟩ := ok
    simp only [List.mem_cons, List.not_mem_nil, or_false] at hb
    rcases hb with rfl | rfl | rfl | rfl | rfl | rfl | rfl
    all_goals first | exact ⟨_, q1⟩ | exact ⟨_, q2⟩ | exact ⟨_, q3⟩ | exact ⟨_, q4⟩ | exact ⟨_, q5⟩ | exact ⟨_, q6⟩ | exact ⟨_, q7⟩
  sub := fun b hb => by simp at hb ⊢; rcases hb with rfl | rfl | rfl | rfl <;> simp
  noKeys := fun A s Q E hA ok h => getAttrOr_miss_zip ok.1 rfl rfl rfl zip_no_keys (by decide +kernel) hA h
  iter := fun A s d Q E hA ok hd hdf h => by
    obtain ⟨q1, q2, ⟨a, b, q3⟩, q4, q5, q6, q7⟩ := ok
    simp only [List.mem_cons, List.not_mem_nil, or_false, not_or] at hdf
    obtain ⟨dz, dti, dto, d1, d2, dt1, dt2⟩ := hdf
    refine wpAny_pyIter_zip q1 (h z [z, to, j1, j2] (fun i h => IsPair h ti (.ref j1) (.ref j2) ∧ h.IsTupleIter j1 t1 i ∧ h.IsTupleIter j2 t2 i ∧ h.IsTuple t1 us ∧ h.IsTuple t2 vs ∧
      ((IsZip h z ti to .none ∧ ∃ a b, IsPair h to a b) ∨ ∃ T f oT, IsZipHeld h z ti to T f ∧ h.get? T = some oT ∧ T ≠ z ∧ T ≠ j1 ∧ T ≠ j2 ∧ T ≠ d)) s.heap s.toks ?_
      ⟨q2, q4, q5, q6, q7, .inl ⟨q1, a, b, q3⟩⟩ (fun _ _ e => e) fun b hb => .inl hb)
    exact {
      off := fun hm => by
        simp only [List.mem_cons, List.not_mem_nil, or_false] at hm
        rcases hm with e | e | e | e
        · exact dz e
        · exact dto e
        · exact d1 e
        · exact d2 e
      frame := fun i h₁ h₂ st kp => by
        obtain ⟨r2, r4, r5, r6, r7, rz⟩ := st
        refine ⟨kp _ _ (Ne.symm dti) r2, r4.at fun o e => kp _ o (Ne.symm d1) e, r5.at fun o e => kp _ o (Ne.symm d2) e, r6.at fun o e => kp _ o (Ne.symm dt1) e, r7.at fun o e => kp _ o (Ne.symm dt2) e, ?_⟩
        rcases rz with ⟨rz, a, b, r3⟩ | ⟨T, f, oT, rz, rT, n1, n2, n3, n4⟩
        · exact .inl ⟨kp _ _ (Ne.symm dz) rz, a, b, kp _ _ (Ne.symm dto) r3⟩
        · exact .inr ⟨T, f, oT, kp _ _ (Ne.symm dz) rz, kp _ _ n4 rT, n1, n2, n3, n4⟩
      item := fun i s₁ Q₁ E₁ hi st hds q => by
        obtain ⟨r2, r4, r5, r6, r7, rz⟩ := st
        have iu : i < us.size := Nat.lt_of_lt_of_le hi (Nat.min_le_left ..)
        have iv : i < vs.size := Nat.lt_of_lt_of_le hi (Nat.min_le_right ..)
        have eu := Array.getElem?_eq_getElem iu
        have ev := Array.getElem?_eq_getElem iv
        have lt : ∀ {c o}, s₁.heap.get? c = some o → s₁.heap.objs.size ≠ c := fun e => Nat.ne_of_gt (Heap.lt_size e)
        have l1 : s₁.heap.objs.size ≠ j1 := let ⟨_, e, _⟩ := r4; lt e
        have l2 : s₁.heap.objs.size ≠ j2 := let ⟨_, e, _⟩ := r5; lt e
        rcases rz with ⟨rz, a, b, r3⟩ | ⟨T, f, oT, rz, rT, n1, n2, n3, n4⟩
        · refine pyNext_zipT_item Z rz r2 r3 r4 r5 r6 r7 eu ev fun h' a1 a2 a3 a4 a5 a6 kp => ?_
          exact q s₁.heap.objs.size _ _ h' s₁.toks ⟨eu, ev⟩ (.inl ⟨_, a5, rfl, _, rfl⟩)
            ⟨kp _ _ Z.TIz Z.TITO Z.TIi1 Z.TIi2 r2, a3, a4, r6.at fun o e => kp _ o Z.l1z Z.l1TO Z.l1i1 Z.l1i2 e, r7.at fun o e => kp _ o Z.l2z Z.l2TO Z.l2i1 Z.l2i2 e, .inr ⟨s₁.heap.objs.size, false, _, a1, a5, lt rz, l1, l2, Nat.ne_of_gt hds⟩⟩
            fun c o hc e => kp c o (fun x => hc (by simp [x])) (fun x => hc (by simp [x])) (fun x => hc (by simp [x])) (fun x => hc (by simp [x])) e
        · refine zh_next Z rz rT r2 r4 r5 r6 r7 eu ev fun h' a1 a3 a4 a5 a6 kp => ?_
          exact q s₁.heap.objs.size _ _ h' s₁.toks ⟨eu, ev⟩ (.inl ⟨_, a5, rfl, _, rfl⟩)
            ⟨kp _ _ Z.TIz Z.TIi1 Z.TIi2 r2, a3, a4, r6.at fun o e => kp _ o Z.l1z Z.l1i1 Z.l1i2 e, r7.at fun o e => kp _ o Z.l2z Z.l2i1 Z.l2i2 e, .inr ⟨T, true, oT, a1, kp _ _ n1 n2 n3 rT, n1, n2, n3, n4⟩⟩
            fun c o hc e => kp c o (fun x => hc (by simp [x])) (fun x => hc (by simp [x])) (fun x => hc (by simp [x])) e
      done := fun s₁ Q₁ E₁ st q => by
        obtain ⟨r2, r4, r5, r6, r7, rz⟩ := st
        have no : us[min us.size vs.size]? = none ∨ vs[min us.size vs.size]? = none := by
          rcases Nat.le_total us.size vs.size with h | h
          · exact .inl (Array.getElem?_eq_none (by rw [Nat.min_eq_left h]; exact Nat.le_refl _))
          · exact .inr (Array.getElem?_eq_none (by rw [Nat.min_eq_right h]; exact Nat.le_refl _))
        rcases rz with ⟨rz, a, b, r3⟩ | ⟨T, f, oT, rz, rT, n1, n2, n3, n4⟩
        · exact pyNext_zipT_end hA Z rz r2 r3 r4 r5 r6 r7 no fun h' kp => q h' s₁.toks fun c o hc e => kp c o (fun x => hc (by simp [x])) (fun x => hc (by simp [x])) (fun x => hc (by simp [x])) (fun x => hc (by simp [x])) e
        · exact zh_done hA Z rz rT r2 r4 r5 r6 r7 no fun h' kp => q h' s₁.toks fun c o hc e => kp c o (fun x => hc (by simp [x])) (fun x => hc (by simp [x])) (fun x => hc (by simp [x])) e }
end
end DL

/-! DL: dict(zip(t, u)) as an expression -/
namespace DL
open PySem PySem.Spec PyProof.Rows L2 Evl RZ

theorem kv_fold : ∀ {ps : List (Key × V)} {qs : List (Key × Value)} {a : List (Key × V)} {b : List (Key × Value)}, KV a b → KV ps qs → KV (ps.foldl (fun acc p => putK acc p.1 p.2) a) (merged b qs)
  | [], [], a, b, h, _ => h
  | [], _ :: _, _, _, _, h => by cases h
  | _ :: _, [], _, _, _, h => by cases h
  | p :: ps, q :: qs, a, b, h, r => by
    cases r with
    | cons r1 r2 =>
      have e : merged b (q :: qs) = merged (stored b q.1 q.2) qs := rfl
      rw [e, List.foldl_cons]
      refine kv_fold ?_ r2
      rw [← r1.1]
      exact h.put _ r1.2
theorem putD_rep {K : PySem.W.Frag} {A : AP} {H : Hp} : ∀ {ks : List Key} {m : List D} {us : List V} {l : List (Key × D)} {a : List (Key × V)}, RepK K A H l a → RepL K A H m us → RepK K A H ((ks.zip m).foldl (fun acc p => putD acc p.1 p.2) l) ((ks.zip us).foldl (fun acc p => putK acc p.1 p.2) a)
  | [], m, us, l, a, h, _ => by simpa using h
  | k :: ks, [], us, l, a, h, r => by
    rw [show us = [] from r]
    simpa using h
  | k :: ks, d :: m, us, l, a, h, r => by
    obtain ⟨v, w, rfl, r1, r2⟩ := r
    have q := putD_rep (ks := ks) (m := m) (rep_putK (k := k) h r1) r2
    exact q
theorem pairs_have {P : Program} {w : World} : ∀ {ks : List Key} {us : List V} {xs ys : List Value}, Vals (ks.map kV) xs → Vals us ys → KV (ks.zip us) (ks.zip ys) ∧ ∀ (i : Nat) (key v : Value), xs[i]? = some key → ys[i]? = some v → ∃ k, (ks.zip ys)[i]? = some (k, v) ∧ (mixKind P w).is k key = true := by
  intro ks
  induction ks with
  | nil =>
    intro us xs ys h1 h2
    cases h1
    exact ⟨.nil, fun i key v e => by simp at e⟩
  | cons k ks ih =>
    intro us xs ys h1 h2
    cases h1 with
    | cons r1 t1 =>
      cases h2 with
      | nil => exact ⟨.nil, fun i key v _ e => by simp at e⟩
      | cons r2 t2 =>
        obtain ⟨q1, q2⟩ := ih t1 t2
        refine ⟨.cons ⟨rfl, r2⟩ q1, fun i key v e1 e2 => ?_⟩
        cases i with
        | zero =>
          simp at e1 e2
          subst e1 e2
          exact ⟨k, rfl, kV_is r1⟩
        | succ i =>
          simp at e1 e2
          obtain ⟨k', h1, h2⟩ := q2 i key v e1 e2
          exact ⟨k', by simpa using h1, h2⟩
end DL

namespace DL
open PySem PySem.Spec PyProof.Rows L2 Evl RZ
theorem putK_fold_len : ∀ (ps : List (Key × V)) (a : List (Key × V)), (ps.foldl (fun acc p => putK acc p.1 p.2) a).length ≤ a.length + ps.length
  | [], a => by simp
  | p :: ps, a => by
    have h1 := putK_fold_len ps (putK a p.1 p.2)
    have h2 := length_putK a p.1 p.2
    rw [List.foldl_cons, List.length_cons]
    omega
section
variable {T : Tb} {L : Nat} {W : WX} {X : Cx} {ow : List Nat}
theorem c_dictzip (G : Good T L W X) {a b : E} {y z : Expr} {p p2 q pos : Pos} (g1 : Gl X "dict") (g2 : Gl X "zip") (n1 : noStar y = true) (n2 : noStar z = true) (ha : PE X y (rdE T X.K (owf ow) W a)) (hb : PE X z (rdE T X.K (owf ow) W b)) :
    PE X (.Call (.Name "dict" p) [.Call (.Name "zip" p2) [y, z] [] q] [] pos) (rdE T X.K (owf ow) W (.dictzip a b)) := by
  refine ⟨fun pins s σ H Q I h => Call_ (ld_blt I g1 G.tab.dict boot_dict ?_)⟩
  obtain ⟨B, O, ρ, xk, Qd, f, hq, hf⟩ := h
  have f0 : FX X.K (owf ow) W xk B O (dcE T a + dcE T b) H σ ρ := f
  refine PyProof.Rows.callWith_type1 (PyProof.Rows.args_cons (Call_ (ld_blt I g2 G.tab.zip PyProof.Rows.boot_zip (PyProof.Rows.callWith_type1 (thn ((a_two n1 n2 ha hb).run q pins s σ H (fun vs H1 => ∃ (t u : Addr) (ks : List Key) (ws : List V) (m : List D) (l : List (Key × D)), vs = [.ref t, .ref u] ∧ SqT X.K H1 t (ks.map kV) ∧ SqT X.K H1 u ws ∧ RepL X.K (U B O) H1 m ws ∧ ks.length ≤ 4000 ∧ l = (ks.zip m).foldl (fun acc p => putD acc p.1 p.2) [] ∧ Qd (.dic l) ∧ Ex (dcE T a + dcE T b) H H1) I ?_) fun us s1 ⟨vs, H1, I1, r1, q1⟩ => ?_) (star_of n1) (by rw [star_of n2]; rfl)))) rfl) rfl rfl
  · refine ⟨B, O, ρ, xk, _, f0.l, (show wpE T xk a ρ fun x => wpE T xk b ρ fun y => ∃ l m ks, x = .tup l ∧ y = .tup m ∧ keyKs l = some ks ∧ l.length ≤ 4000 ∧ Qd (.dic ((ks.zip m).foldl (fun acc p => putD acc p.1 p.2) [])) from hq), fun dx hx v H1 e1 r1 => ⟨B, O, ρ, xk, _, f0.ex e1, hx, fun dy hy u H2 e2 r2 => ?_⟩⟩
    obtain ⟨l, m, ks, rfl, rfl, hk, hl, hq2⟩ := hy
    obtain ⟨t, ts, rfl, ht, rt⟩ := rb_tup (r1.1.ex e2)
    obtain ⟨t2, ws, rfl, ht2, rt2⟩ := rb_tup r2.1
    have ek := keyKs_rep hk rt
    subst ek
    have := RepL.length rt
    rw [List.length_map] at this
    exact ⟨t, t2, ks, ws, m, _, rfl, ht, ht2, rt2, by omega, rfl, hq2, e1.trans e2⟩
  · obtain ⟨t, t2, ks, ws, m, l, rfl, ht, ht2, rt2, hl, rfl, hq2, e12⟩ := q1
    obtain ⟨u1, u2, rfl, rv1, rv2⟩ := vals2 r1
    cases rv1
    cases rv2
    obtain ⟨its, rv, p1, z1⟩ := I1.tuple ht
    obtain ⟨its2, rv2, p2, _⟩ := I1.tuple ht2
    obtain ⟨o1, ho1, _⟩ := id p1
    obtain ⟨o2, ho2, _⟩ := id p2
    refine call_zipT (show s1.heap.IsTuple t its.toArray from p1) (show s1.heap.IsTuple t2 its2.toArray from p2) fun h1 hz hTI hTO i1 i2 hsz hk => PyProof.Rows.args_nil ?_
    obtain ⟨kv, ph⟩ := pairs_have (P := X.prog) (w := X.w) rv rv2
    have hl2 : its.length = ks.length := by rw [← rv.length, List.length_map]
    refine _root_.PySem.call_dict_pairs (s := { s1 with heap := h1 }) (knd := mixKind X.prog X.w) (kvs := ks.zip its2) (arg_zipT _ _ _ _ _ t t2 (PySem.W.ktu_apart s1.heap.objs.size t t2 (Heap.lt_size ho1) (Heap.lt_size ho2)) its.toArray its2.toArray) (I1.ok.hd G.calm) ⟨hz, hTI, ⟨_, _, hTO⟩, i1, i2, p1.keeps hk, p2.keeps hk⟩ ⟨by simp [hl2], fun i key v q => ph i key v (by simpa using q.1) (by simpa using q.2)⟩ (by rw [List.size_toArray, List.size_toArray]; exact Nat.le_trans (Nat.min_le_left _ _) (by rw [hl2]; rw [List.length_map] at z1; exact z1)) fun h' tk hd' hk' => ?_
    have k : ∀ b u, s1.heap.get? b = some u → h'.get? b = some u := fun b u e => hk' b u (fun hm => by
      have hb := Heap.lt_size e
      simp only [List.mem_cons, List.not_mem_nil, or_false] at hm
      rcases hm with z | z | z | z <;> (rw [z] at hb; first | exact absurd hb (Nat.not_lt.mpr (Nat.le_add_right _ _)) | exact absurd hb (Nat.lt_irrefl _))) (hk b u e)
    have hle : s1.heap.objs.size ≤ h1.objs.size := by omega
    have hm : (h1.objs.size == sysModules) = false := beq_eq_false_iff_ne.mpr (Nat.ne_of_gt (Nat.lt_of_lt_of_le I1.big hle))
    have kf := kv_fold (a := []) (b := []) .nil kv
    have hn := I1.hok.fresh hle
    have rk : RepK X.K (U B O) H1 ((ks.zip m).foldl (fun acc p => putD acc p.1 p.2) []) ((ks.zip ws).foldl (fun acc p => putK acc p.1 p.2) []) := putD_rep (l := []) (a := []) rfl rt2
    refine ⟨.ref h1.objs.size, L2.upd H1 h1.objs.size (.dK ((ks.zip ws).foldl (fun acc p => putK acc p.1 p.2) [])), I1.laid (t' := tk) k hle (show ObjOk X.prog X.w _ _ _ (.dK _) from ⟨?_, hm, _, kf, hd'⟩), rfl, ?_⟩
    · have q := putK_fold_len (ks.zip ws) ([] : List (Key × V))
      rw [List.length_zip] at q
      rw [List.length_map] at z1
      have := Nat.min_le_left ks.length ws.length
      exact Nat.le_trans q (by simp only [List.length_nil]; omega)
    · have fr := f0.fr.ex e12
      refine hf _ hq2 _ _ (by have := e12.trans (Ex.new (o := .dK ((ks.zip ws).foldl (fun acc p => putK acc p.1 p.2) [])) hn rfl); rwa [Nat.add_zero] at this) (Res.of (own_rep (d := .dic _) (fr.fresh hn) ⟨_, upd_same, RepK.keep (keeps_new hn) (grows_new hn) _ _ rk⟩) rfl)
end
end DL

/-! D4: what the checker lets through is right: expressions -/
namespace DL
open PySem PySem.Spec PyProof.Rows L2 Evl

section
variable {T : Tb} {L : Nat}
def SndM (T : Tb) (ow : List Nat) (W : WX) (X : Cx) : Md → E → Expr → Prop
  | .val, e, x => PE X x (rdE T X.K (owf ow) W e)
  | .tst, e, x => PT X x (rdT T X.K (owf ow) W e)
  | .itr, e, x => ∀ tg, tupT e tg = true → PI X tg x (rdI T X.K (owf ow) W e)
/-- what is said of lists -/
def SndL (T : Tb) (ow : List Nat) (W : WX) (X : Cx) : Md → List E → List Expr → Prop
  | .val, es, xs => PA X xs (rdEs T X.K (owf ow) W es) ∧ (xs.all noStar = true → es.all (fun e => !ownB e) = true → xs ≠ [] → ∀ pos, PE X (.BoolOp .And xs pos) (rdE T X.K (owf ow) W (.and es)) ∧ PE X (.BoolOp .Or xs pos) (rdE T X.K (owf ow) W (.or es)))
  | .tst, es, xs => (xs.all noStar = true → es.all (fun e => !ownB e) = true → xs ≠ [] → ∀ pos, PW X (.BoolOp .And xs pos) (rdT T X.K (owf ow) W (.and es)) ∧ PW X (.BoolOp .Or xs pos) (rdT T X.K (owf ow) W (.or es))) ∧ (xs.length ≤ 1 → xs.all noStar = true → PTs X xs (rdTs T X.K (owf ow) W es))
  | .itr, _, _ => True
def SndO (T : Tb) (ow : List Nat) (W : WX) (X : Cx) (e : Option E) (x : Option Expr) : Prop := PO X x (rdO T X.K (owf ow) W e)
variable {W : WX} {X : Cx} {ow : List Nat}
theorem val_t {e : E} {x : Expr} (h : PE X x (rdE T X.K (owf ow) W e)) (he : ∀ whole, isTrue x X.env whole = (do let v ← whole; standAt x.pos; holding [v] (truthy v))) : PT X x (rdT T X.K (owf ow) W e) :=
  (pt_val h he).imp fun σ H Q q => t_of q
theorem all_md {e : E} {x : Expr} (h1 : ownB e = false) (h2 : ownS e = false) (h : PE X x (rdE T X.K (owf ow) W e)) (ht : PT X x (rdT T X.K (owf ow) W e)) : ∀ md, SndM T ow W X md e x
  | .val => h
  | .tst => ht
  | .itr => fun tg _ => c_iseq h1 h2 h
theorem all_v {e : E} {x : Expr} (h1 : ownB e = false) (h2 : ownS e = false) (h : PE X x (rdE T X.K (owf ow) W e)) (he : ∀ whole, isTrue x X.env whole = (do let v ← whole; standAt x.pos; holding [v] (truthy v))) : ∀ md, SndM T ow W X md e x :=
  all_md h1 h2 h (val_t h he)
theorem negMark {neg : Bool} {y : Expr} {op : CmpOp} (h : (!behindInMarks op y) = true) (ho : op = if neg then .NotIn else .In) : behindInMarks (if neg then .NotIn else .In) y = false := by
  rw [← ho]
  simpa using h
theorem and2 {a b : Bool} (h : (a && b) = true) : a = true ∧ b = true := by rwa [Bool.and_eq_true] at h
theorem not1 {a : Bool} (h : (!a) = true) : a = false := by rwa [Bool.not_eq_true'] at h
end
def Sound (T : Tb) (L : Nat) (N : List Str) (ow : List Nat) (e : E) : Prop := ∀ md sc x, mE T N ow md sc e x = true → ∀ W X, Good T L W X → X.N = N → X.env.scope = sc → SndM T ow W X md e x
def SoundL (T : Tb) (L : Nat) (N : List Str) (ow : List Nat) (es : List E) : Prop := ∀ md sc xs, mEs T N ow md sc es xs = true → ∀ W X, Good T L W X → X.N = N → X.env.scope = sc → SndL T ow W X md es xs
def SoundO (T : Tb) (L : Nat) (N : List Str) (ow : List Nat) (e : Option E) : Prop := ∀ sc x, mO T N ow sc e x = true → ∀ W X, Good T L W X → X.N = N → X.env.scope = sc → SndO T ow W X e x
section
variable {T : Tb} {L : Nat} {N : List Str} {ow : List Nat}
theorem s_var {i : Nat} : Sound T L N ow (.var i) := fun md sc x h W X G hN hS => by
  cases x with
  | Name x p =>
    obtain ⟨h1, h2⟩ := and2 (show (decide (N[i]? = some x) && (visB sc x && (okNm x && !ow.contains i))) = true from h)
    obtain ⟨h2, h3⟩ := and2 h2
    obtain ⟨h3, h4⟩ := and2 h3
    exact all_v rfl rfl (c_var (by rw [hN]; exact of_decide_eq_true h1) (by rw [hS]; exact vis_of h2) h3 (not1 h4)) (fun _ => rfl) md
  | _ => exact absurd h Bool.false_ne_true
theorem s_own {i : Nat} : Sound T L N ow (.own i) := fun md sc x h W X G hN hS => by
  cases x with
  | Name x p =>
    obtain ⟨h1, h2⟩ := and2 (show (decide (N[i]? = some x) && (visB sc x && (okNm x && ow.contains i))) = true from h)
    obtain ⟨h2, h3⟩ := and2 h2
    obtain ⟨h3, h4⟩ := and2 h3
    have c := c_own (T := T) (W := W) (pos := p) (by rw [hN]; exact of_decide_eq_true h1) (by rw [hS]; exact vis_of h2) h3 h4
    cases md with
    | val => exact c
    | tst => exact val_t c fun _ => rfl
    | itr => exact fun tg _ => c_iown (by rw [hN]; exact of_decide_eq_true h1) (by rw [hS]; exact vis_of h2) h3 h4
  | _ => exact absurd h Bool.false_ne_true
theorem s_con {d : D} : Sound T L N ow (.con d) := fun md sc x h W X G hN hS => by
  cases x with
  | Constant c k p => exact all_v rfl rfl (c_con (show conB d c = true from h)) (fun _ => rfl) md
  | _ => exact absurd h Bool.false_ne_true
theorem s_glob {g : Str} : Sound T L N ow (.glob g) := fun md sc x h W X G hN hS => by
  cases x with
  | Name y p =>
    obtain ⟨h1, h2⟩ := and2 (show (decide (g = y) && glB sc g) = true from h)
    obtain rfl := of_decide_eq_true h1
    obtain ⟨h3, h4, h5⟩ := gl_of hS h2
    exact all_v rfl rfl (c_glob G h3 h4) (fun _ => rfl) md
  | _ => exact absurd h Bool.false_ne_true
theorem s_tup {es : List E} (ih : SoundL T L N ow es) : Sound T L N ow (.tup es) := fun md sc x h W X G hN hS => by
  cases x with
  | Tuple xs k p =>
    obtain ⟨h1, h2⟩ := and2 (show (es.all (fun e => !ownB e) && mEs T N ow .val sc es xs) = true from h)
    exact all_v rfl rfl (c_tup h1 (ih .val sc xs h2 W X G hN hS).1) (fun _ => rfl) md
  | _ => exact absurd h Bool.false_ne_true
theorem s_lst {es : List E} (ih : SoundL T L N ow es) : Sound T L N ow (.lst es) := fun md sc x h W X G hN hS => by
  cases x with
  | List xs p =>
    obtain ⟨h1, h2⟩ := and2 (show (es.all (fun e => !ownB e) && mEs T N ow .val sc es xs) = true from h)
    exact all_v rfl rfl (c_lst h1 (ih .val sc xs h2 W X G hN hS).1) (fun _ => rfl) md
  | _ => exact absurd h Bool.false_ne_true
theorem s_bin {op : Operator} {a b : E} (iha : Sound T L N ow a) (ihb : Sound T L N ow b) : Sound T L N ow (.bin op a b) := fun md sc x h W X G hN hS => by
  cases x with
  | BinOp x op' y p =>
    obtain ⟨h1, h2⟩ := and2 (show (decide (op = op') && (mE T N ow .val sc a x && mE T N ow .val sc b y)) = true from h)
    obtain ⟨h2, h3⟩ := and2 h2
    obtain rfl := of_decide_eq_true h1
    exact all_v rfl rfl (c_bin (iha .val sc x h2 W X G hN hS) (ihb .val sc y h3 W X G hN hS)) (fun _ => rfl) md
  | _ => exact absurd h Bool.false_ne_true
theorem s_neg {a : E} (iha : Sound T L N ow a) : Sound T L N ow (.neg a) := fun md sc x h W X G hN hS => by
  cases x with
  | UnaryOp op x p =>
    cases op with
    | USub => exact all_v rfl rfl (c_neg (iha .val sc x (show mE T N ow .val sc a x = true from h) W X G hN hS)) (fun _ => rfl) md
    | _ => exact absurd h Bool.false_ne_true
  | _ => exact absurd h Bool.false_ne_true
theorem s_not {a : E} (iha : Sound T L N ow a) : Sound T L N ow (.not a) := fun md sc x h W X G hN hS => by
  cases x with
  | UnaryOp op x p =>
    cases op with
    | Not =>
      obtain ⟨h1, h2⟩ := and2 (show (decide (md ≠ .itr) && mE T N ow md sc a x) = true from h)
      have k := iha md sc x h2 W X G hN hS
      cases md with
      | val => exact c_notV k
      | tst => exact c_notT k
      | itr => exact absurd h1 (by decide)
    | _ => exact absurd h Bool.false_ne_true
  | _ => exact absurd h Bool.false_ne_true
theorem s_cmp {op : CmpOp} {a b : E} (iha : Sound T L N ow a) (ihb : Sound T L N ow b) : Sound T L N ow (.cmp op a b) := fun md sc x h W X G hN hS => by
  cases x with
  | Compare x ops ys p =>
    match ops, ys, h with
    | [op'], [y], h =>
      obtain ⟨h1, h2⟩ := and2 (show (decide (op = op') && (decide (op ≠ .In) && (decide (op ≠ .NotIn) && (mE T N ow .val sc a x && mE T N ow .val sc b y)))) = true from h)
      obtain ⟨h2, h3⟩ := and2 h2
      obtain ⟨h3, h4⟩ := and2 h3
      obtain ⟨h4, h5⟩ := and2 h4
      obtain rfl := of_decide_eq_true h1
      have ka := iha .val sc x h4 W X G hN hS
      have kb := ihb .val sc y h5 W X G hN hS
      exact all_md rfl rfl (c_cmp G (of_decide_eq_true h2) (of_decide_eq_true h3) ka kb) (c_cmpT G (of_decide_eq_true h2) (of_decide_eq_true h3) ka kb) md
    | [], _, h => exact absurd h Bool.false_ne_true
    | [_], [], h => exact absurd h Bool.false_ne_true
    | [_], _ :: _ :: _, h => exact absurd h Bool.false_ne_true
    | _ :: _ :: _, _, h => exact absurd h Bool.false_ne_true
  | _ => exact absurd h Bool.false_ne_true
theorem s_chain {o1 o2 : CmpOp} {a b c : E} (iha : Sound T L N ow a) (ihb : Sound T L N ow b) (ihc : Sound T L N ow c) : Sound T L N ow (.chain o1 o2 a b c) := fun md sc x h W X G hN hS => by
  cases x with
  | Compare x ops ys p =>
    match ops, ys, h with
    | [p1, p2], [y, z], h =>
      obtain ⟨h1, h2⟩ := and2 (show (decide (o1 = p1) && (decide (o2 = p2) && (decide (o2 ≠ .In) && (decide (o2 ≠ .NotIn) && (mE T N ow .val sc a x && (mE T N ow .val sc b y && mE T N ow .val sc c z)))))) = true from h)
      obtain ⟨h2, h3⟩ := and2 h2
      obtain ⟨h3, h4⟩ := and2 h3
      obtain ⟨h4, h5⟩ := and2 h4
      obtain ⟨h5, h6⟩ := and2 h5
      obtain ⟨h6, h7⟩ := and2 h6
      obtain rfl := of_decide_eq_true h1
      obtain rfl := of_decide_eq_true h2
      have ka := iha .val sc x h5 W X G hN hS
      have kb := ihb .val sc y h6 W X G hN hS
      have kc := ihc .val sc z h7 W X G hN hS
      exact all_md rfl rfl (c_chain G (of_decide_eq_true h3) (of_decide_eq_true h4) ka kb kc) (c_chainT G (of_decide_eq_true h3) (of_decide_eq_true h4) ka kb kc) md
    | [], _, h => exact absurd h Bool.false_ne_true
    | [_], _, h => exact absurd h Bool.false_ne_true
    | [_, _], [], h => exact absurd h Bool.false_ne_true
    | [_, _], [_], h => exact absurd h Bool.false_ne_true
    | [_, _], _ :: _ :: _ :: _, h => exact absurd h Bool.false_ne_true
    | _ :: _ :: _ :: _, _, h => exact absurd h Bool.false_ne_true
  | _ => exact absurd h Bool.false_ne_true
theorem s_inn {neg : Bool} {a b : E} (iha : Sound T L N ow a) (ihb : Sound T L N ow b) : Sound T L N ow (.inn neg a b) := fun md sc x h W X G hN hS => by
  cases x with
  | Compare x ops ys p =>
    match ops, ys, h with
    | [op], [y], h =>
      obtain ⟨h1, h2⟩ := and2 (show (decide (op = if neg then .NotIn else .In) && (!behindInMarks op y && (mE T N ow .val sc a x && mE T N ow .val sc b y))) = true from h)
      obtain ⟨h2, h3⟩ := and2 h2
      obtain ⟨h3, h4⟩ := and2 h3
      have ho := of_decide_eq_true h1
      have hm := negMark h2 ho
      subst ho
      have ka := iha .val sc x h3 W X G hN hS
      have kb := ihb .val sc y h4 W X G hN hS
      exact all_md rfl rfl (c_inn G hm ka kb) (c_innT G hm ka kb) md
    | [], _, h => exact absurd h Bool.false_ne_true
    | [_], [], h => exact absurd h Bool.false_ne_true
    | [_], _ :: _ :: _, h => exact absurd h Bool.false_ne_true
    | _ :: _ :: _, _, h => exact absurd h Bool.false_ne_true
  | _ => exact absurd h Bool.false_ne_true
theorem s_din {neg : Bool} {a b : E} (iha : Sound T L N ow a) (ihb : Sound T L N ow b) : Sound T L N ow (.din neg a b) := fun md sc x h W X G hN hS => by
  cases x with
  | Compare x ops ys p =>
    match ops, ys, h with
    | [op], [y], h =>
      obtain ⟨h1, h2⟩ := and2 (show (decide (op = if neg then .NotIn else .In) && (!behindInMarks op y && (mE T N ow .val sc a x && mE T N ow .val sc b y))) = true from h)
      obtain ⟨h2, h3⟩ := and2 h2
      obtain ⟨h3, h4⟩ := and2 h3
      have ho := of_decide_eq_true h1
      have hm := negMark h2 ho
      subst ho
      have ka := iha .val sc x h3 W X G hN hS
      have kb := ihb .val sc y h4 W X G hN hS
      exact all_md rfl rfl (c_din G hm ka kb) (c_dinT G hm ka kb) md
    | [], _, h => exact absurd h Bool.false_ne_true
    | [_], [], h => exact absurd h Bool.false_ne_true
    | [_], _ :: _ :: _, h => exact absurd h Bool.false_ne_true
    | _ :: _ :: _, _, h => exact absurd h Bool.false_ne_true
  | _ => exact absurd h Bool.false_ne_true
theorem isn_of {neg : Bool} {a : E} {W : WX} {X : Cx} {σ : L2.St} {H : Hp} {Q : VK} (h : rdE T X.K (owf ow) W (.isn neg a) σ H Q) :
    rdE T X.K (owf ow) W a σ H fun v H1 => Q (.bl (negB neg (decide (v = .non)))) H1 := by
  have key : ∀ {A : AP} {H : Hp} {d : D} {v : V}, RepB X.K A H d v → decide (v = .non) = (match d with
      | .non => true
      | _ => false) := fun {A H d v} r => by
    cases d with
    | non => rw [rb_non r]; rfl
    | bl b => rw [rb_bl r]; rfl
    | int b => rw [rb_int r]; rfl
    | str b => rw [rb_str r]; rfl
    | tup l => obtain ⟨_, _, rfl, _⟩ := rb_tup r; rfl
    | lst l => obtain ⟨_, _, rfl, _⟩ := rb_lst r; rfl
    | dic l => obtain ⟨_, _, rfl, _⟩ := rb_dic r; rfl
    | dit l => obtain ⟨_, _, rfl, _⟩ := rb_dit r; rfl
    | scr l => obtain ⟨_, rfl, _⟩ := rb_scr r; rfl
    | kt l => obtain ⟨_, _, rfl, _⟩ := rb_kt r; rfl
    | obj c l => rcases r with ⟨_, _, _, rfl, _⟩ | ⟨_, rfl, _⟩ <;> rfl
    | fn f =>
      rcases r with r | ⟨_, rfl, _⟩
      · rw [show v = _ from r]; rfl
      · rfl
    | st => rcases r with ⟨_, _, _, _, rfl, _⟩ | ⟨_, rfl, _⟩ <;> rfl
  obtain ⟨B, O, ρ, xk, Qd, f, hq, hf⟩ := h
  refine ⟨B, O, ρ, xk, _, f, hq, fun d hd v H' e r => ?_⟩
  show Q (.bl (negB neg (decide (v = .non)))) H'
  rw [key r.1]
  exact hf _ hd _ _ e (Res.of rfl rfl)
theorem c_isnT {neg : Bool} {a : E} {W : WX} {X : Cx} {x : Expr} {k : Nat} {p pos : Pos} (ha : PE X x (rdE T X.K (owf ow) W a)) : PT X (.Compare x [if neg then .IsNot else .Is] [.Constant .none k p] pos) (rdT T X.K (owf ow) W (.isn neg a)) := by
  cases neg with
  | false =>
    refine (pt_cmpR op_isN ha pe_non (nomark _)).imp fun σ H Q h => ?_
    obtain ⟨B, O, ρ, xk, Qd, f, hq, hf⟩ := isn_of (neg := false) (t_of h)
    exact ⟨B, O, ρ, xk, Qd, f, hq, fun d hd v H' e r => ⟨rfl, hf d hd v H' e r⟩⟩
  | true =>
    refine (pt_cmpR op_notN ha pe_non (nomark _)).imp fun σ H Q h => ?_
    obtain ⟨B, O, ρ, xk, Qd, f, hq, hf⟩ := isn_of (neg := true) (t_of h)
    exact ⟨B, O, ρ, xk, Qd, f, hq, fun d hd v H' e r => ⟨rfl, hf d hd v H' e r⟩⟩
theorem s_isn {neg : Bool} {a : E} (iha : Sound T L N ow a) : Sound T L N ow (.isn neg a) := fun md sc x h W X G hN hS => by
  cases x with
  | Compare x ops ys p =>
    match ops, ys, h with
    | [], _, h => exact absurd h Bool.false_ne_true
    | [_], [], h => exact absurd h Bool.false_ne_true
    | [_], y :: _ :: _, h =>
      cases y with
      | Constant c k q => cases c <;> exact absurd h Bool.false_ne_true
      | _ => exact absurd h Bool.false_ne_true
    | _ :: _ :: _, _, h => exact absurd h Bool.false_ne_true
    | [op], [y], h =>
      cases y with
      | Constant c k q =>
        cases c with
        | none =>
          obtain ⟨h1, h2⟩ := and2 (show (decide (op = if neg then .IsNot else .Is) && mE T N ow .val sc a x) = true from h)
          obtain rfl := of_decide_eq_true h1
          have ka := iha .val sc x h2 W X G hN hS
          exact all_md rfl rfl (c_isn ka) (c_isnT ka) md
        | _ => exact absurd h Bool.false_ne_true
      | _ => exact absurd h Bool.false_ne_true
  | _ => exact absurd h Bool.false_ne_true
theorem s_ite {c a b : E} (ihc : Sound T L N ow c) (iha : Sound T L N ow a) (ihb : Sound T L N ow b) : Sound T L N ow (.ite c a b) := fun md sc x h W X G hN hS => by
  cases x with
  | IfExp z x y p =>
    obtain ⟨h1, h2⟩ := and2 (show (decide (md = .val) && (!ownB a && (!ownB b && (mE T N ow .tst sc c z && (mE T N ow .val sc a x && mE T N ow .val sc b y))))) = true from h)
    obtain ⟨h2, h3⟩ := and2 h2
    obtain ⟨h3, h4⟩ := and2 h3
    obtain ⟨h4, h5⟩ := and2 h4
    obtain ⟨h5, h6⟩ := and2 h5
    obtain rfl := of_decide_eq_true h1
    exact c_ite (not1 h2) (not1 h3) (ihc .tst sc z h4 W X G hN hS) (iha .val sc x h5 W X G hN hS) (ihb .val sc y h6 W X G hN hS)
  | _ => exact absurd h Bool.false_ne_true
theorem s_sub {a i : E} (iha : Sound T L N ow a) (ihi : Sound T L N ow i) : Sound T L N ow (.sub a i) := fun md sc x h W X G hN hS => by
  cases x with
  | Subscript x y p =>
    obtain ⟨h1, h2⟩ := and2 (show (noSlice y && (mE T N ow .val sc a x && mE T N ow .val sc i y)) = true from h)
    obtain ⟨h2, h3⟩ := and2 h2
    exact all_v rfl rfl (c_sub h1 (iha .val sc x h2 W X G hN hS) (ihi .val sc y h3 W X G hN hS)) (fun _ => rfl) md
  | _ => exact absurd h Bool.false_ne_true
theorem s_dget {a i : E} (iha : Sound T L N ow a) (ihi : Sound T L N ow i) : Sound T L N ow (.dget a i) := fun md sc x h W X G hN hS => by
  cases x with
  | Subscript x y p =>
    obtain ⟨h1, h2⟩ := and2 (show (noSlice y && (mE T N ow .val sc a x && mE T N ow .val sc i y)) = true from h)
    obtain ⟨h2, h3⟩ := and2 h2
    exact all_v rfl rfl (c_dget G h1 (iha .val sc x h2 W X G hN hS) (ihi .val sc y h3 W X G hN hS)) (fun _ => rfl) md
  | _ => exact absurd h Bool.false_ne_true
theorem s_slice {a : E} {lo hi : Option E} (iha : Sound T L N ow a) (ihl : SoundO T L N ow lo) (ihh : SoundO T L N ow hi) : Sound T L N ow (.slice a lo hi) := fun md sc x h W X G hN hS => by
  cases x with
  | Subscript x y p =>
    cases y with
    | Slice l u st q =>
      cases st with
      | none =>
        obtain ⟨h1, h2⟩ := and2 (show (mE T N ow .val sc a x && (mO T N ow sc lo l && mO T N ow sc hi u)) = true from h)
        obtain ⟨h2, h3⟩ := and2 h2
        exact all_v rfl rfl (c_slice (iha .val sc x h1 W X G hN hS) (ihl sc l h2 W X G hN hS) (ihh sc u h3 W X G hN hS)) (fun _ => rfl) md
      | some st => exact absurd h Bool.false_ne_true
    | _ => exact absurd h Bool.false_ne_true
  | _ => exact absurd h Bool.false_ne_true
theorem s_blt {f : BF} {es : List E} (ih : SoundL T L N ow es) : Sound T L N ow (.blt f es) := fun md sc x h W X G hN hS => by
  cases x with
  | Call fx xs ks p =>
    cases ks with
    | cons k ks => cases fx <;> exact absurd h Bool.false_ne_true
    | nil =>
      cases fx with
      | Name y q =>
        obtain ⟨h1, h2⟩ := and2 (show (bfOk f && (decide (y = bfName f) && (glB sc y && (decide (1 ≤ xs.length) && (xs.all noStar && mEs T N ow .val sc es xs))))) = true from h)
        obtain ⟨h2, h3⟩ := and2 h2
        obtain ⟨h3, h4⟩ := and2 h3
        obtain ⟨h4, h5⟩ := and2 h4
        obtain ⟨h5, h6⟩ := and2 h5
        obtain ⟨g1, g2, g3⟩ := gl_of hS h3
        exact all_v rfl rfl (c_blt G h1 (of_decide_eq_true h2) g1 g2 g3 (of_decide_eq_true h4) h5 (ih .val sc xs h6 W X G hN hS).1) (fun _ => rfl) md
      | _ => exact absurd h Bool.false_ne_true
  | _ => exact absurd h Bool.false_ne_true
theorem s_call {f : Str} {es : List E} (ih : SoundL T L N ow es) : Sound T L N ow (.call f es) := fun md sc x h W X G hN hS => by
  cases x with
  | Call fx xs ks p =>
    cases ks with
    | cons k ks => cases fx <;> exact absurd h Bool.false_ne_true
    | nil =>
      cases fx with
      | Name y q =>
        obtain ⟨h1, h2⟩ := and2 (show (decide (y = f) && (glB sc y && (decide (1 ≤ xs.length) && (xs.all noStar && ((T.fn f).isSome && mEs T N ow .val sc es xs))))) = true from h)
        obtain ⟨h3, k4⟩ := and2 h2
        obtain ⟨h4, k5⟩ := and2 k4
        obtain ⟨h5, k6⟩ := and2 k5
        obtain ⟨h6, h7⟩ := and2 k6
        obtain ⟨g1, g2, g3⟩ := gl_of hS h3
        obtain rfl := of_decide_eq_true h1
        exact all_v rfl rfl (c_call G h6 g1 g2 (of_decide_eq_true h4) h5 (ih .val sc xs h7 W X G hN hS).1) (fun _ => rfl) md
      | _ => exact absurd h Bool.false_ne_true
  | _ => exact absurd h Bool.false_ne_true
theorem s_dnew {t : Bool} : Sound T L N ow (.dnew t) := fun md sc x h W X G hN hS => by
  cases x with
  | Dict ks vs p =>
    cases ks with
    | cons k ks => exact absurd h Bool.false_ne_true
    | nil =>
      cases vs with
      | cons v vs => exact absurd h Bool.false_ne_true
      | nil => exact all_v rfl rfl c_dnew (fun _ => rfl) md
  | _ => exact absurd h Bool.false_ne_true
theorem s_none : SoundO T L N ow none := fun sc x h W X G hN hS => by
  cases x with
  | none => exact o_none
  | some x => exact absurd h Bool.false_ne_true
theorem s_some {e : E} (ih : Sound T L N ow e) : SoundO T L N ow (some e) := fun sc x h W X G hN hS => by
  cases x with
  | none => exact absurd h Bool.false_ne_true
  | some x => exact o_some (ih .val sc x h W X G hN hS)
theorem s_never {e : E} (h : ∀ md sc x, mE T N ow md sc e x = false) : Sound T L N ow e := fun md sc x q => by
  rw [h] at q
  cases q
theorem s_rng {a : E} (iha : Sound T L N ow a) : Sound T L N ow (.rng a) := fun md sc x h W X G hN hS => by
  cases x with
  | Call fx xs ks p =>
    cases ks with
    | cons k ks => cases fx <;> (match xs, h with
      | [], h => exact absurd h Bool.false_ne_true
      | [_], h => exact absurd h Bool.false_ne_true
      | _ :: _ :: _, h => exact absurd h Bool.false_ne_true)
    | nil =>
      cases fx with
      | Name y q =>
        match xs, h with
        | [], h => exact absurd h Bool.false_ne_true
        | _ :: _ :: _, h => exact absurd h Bool.false_ne_true
        | [z], h =>
          obtain ⟨h1, k2⟩ := and2 (show (decide (md = .itr) && (decide (y = "range") && (glB sc y && (noStar z && mE T N ow .val sc a z)))) = true from h)
          obtain ⟨h2, k3⟩ := and2 k2
          obtain ⟨h3, k4⟩ := and2 k3
          obtain ⟨h4, h5⟩ := and2 k4
          obtain ⟨g1, g2, g3⟩ := gl_of hS h3
          have ka := iha .val sc z h5 W X G hN hS
          obtain rfl := of_decide_eq_true h1
          obtain rfl := of_decide_eq_true h2
          exact fun tg _ => c_irng G g1 h4 ka
      | _ => exact absurd h Bool.false_ne_true
  | _ => exact absurd h Bool.false_ne_true
theorem s_rng2 {a b : E} (iha : Sound T L N ow a) (ihb : Sound T L N ow b) : Sound T L N ow (.rng2 a b) := fun md sc x h W X G hN hS => by
  cases x with
  | Call fx xs ks p =>
    cases ks with
    | cons k ks => cases fx <;> (match xs, h with
      | [], h => exact absurd h Bool.false_ne_true
      | [_], h => exact absurd h Bool.false_ne_true
      | [_, _], h => exact absurd h Bool.false_ne_true
      | _ :: _ :: _ :: _, h => exact absurd h Bool.false_ne_true)
    | nil =>
      cases fx with
      | Name y q =>
        match xs, h with
        | [], h => exact absurd h Bool.false_ne_true
        | [_], h => exact absurd h Bool.false_ne_true
        | _ :: _ :: _ :: _, h => exact absurd h Bool.false_ne_true
        | [z, u], h =>
          obtain ⟨h1, k2⟩ := and2 (show (decide (md = .itr) && (decide (y = "range") && (glB sc y && (noStar z && (noStar u && (mE T N ow .val sc a z && mE T N ow .val sc b u)))))) = true from h)
          obtain ⟨h2, k3⟩ := and2 k2
          obtain ⟨h3, k4⟩ := and2 k3
          obtain ⟨h4, k5⟩ := and2 k4
          obtain ⟨h5, k6⟩ := and2 k5
          obtain ⟨h6, h7⟩ := and2 k6
          obtain ⟨g1, g2, g3⟩ := gl_of hS h3
          have ka := iha .val sc z h6 W X G hN hS
          have kb := ihb .val sc u h7 W X G hN hS
          obtain rfl := of_decide_eq_true h1
          obtain rfl := of_decide_eq_true h2
          exact fun tg _ => c_irng2 G g1 h4 h5 ka kb
      | _ => exact absurd h Bool.false_ne_true
  | _ => exact absurd h Bool.false_ne_true
theorem s_enum {a : E} (iha : Sound T L N ow a) : Sound T L N ow (.enum a) := fun md sc x h W X G hN hS => by
  cases x with
  | Call fx xs ks p =>
    cases ks with
    | cons k ks => cases fx <;> (match xs, h with
      | [], h => exact absurd h Bool.false_ne_true
      | [_], h => exact absurd h Bool.false_ne_true
      | _ :: _ :: _, h => exact absurd h Bool.false_ne_true)
    | nil =>
      cases fx with
      | Name y q =>
        match xs, h with
        | [], h => exact absurd h Bool.false_ne_true
        | _ :: _ :: _, h => exact absurd h Bool.false_ne_true
        | [z], h =>
          obtain ⟨h1, k2⟩ := and2 (show (decide (md = .itr) && (decide (y = "enumerate") && (glB sc y && (noStar z && (!ownB a && mE T N ow .val sc a z))))) = true from h)
          obtain ⟨h2, k3⟩ := and2 k2
          obtain ⟨h3, k4⟩ := and2 k3
          obtain ⟨h4, k5⟩ := and2 k4
          obtain ⟨h5, h6⟩ := and2 k5
          obtain ⟨g1, g2, g3⟩ := gl_of hS h3
          have ka := iha .val sc z h6 W X G hN hS
          obtain rfl := of_decide_eq_true h1
          obtain rfl := of_decide_eq_true h2
          intro tg ht
          cases tg with
          | Tuple es k q => exact c_ienum G g1 h4 (not1 h5) ka
          | _ => exact absurd ht Bool.false_ne_true
      | _ => exact absurd h Bool.false_ne_true
  | _ => exact absurd h Bool.false_ne_true
theorem s_zip {a b : E} (iha : Sound T L N ow a) (ihb : Sound T L N ow b) : Sound T L N ow (.zip a b) := fun md sc x h W X G hN hS => by
  cases x with
  | Call fx xs ks p =>
    cases ks with
    | cons k ks => cases fx <;> (match xs, h with
      | [], h => exact absurd h Bool.false_ne_true
      | [_], h => exact absurd h Bool.false_ne_true
      | [_, _], h => exact absurd h Bool.false_ne_true
      | _ :: _ :: _ :: _, h => exact absurd h Bool.false_ne_true)
    | nil =>
      cases fx with
      | Name y q =>
        match xs, h with
        | [], h => exact absurd h Bool.false_ne_true
        | [_], h => exact absurd h Bool.false_ne_true
        | _ :: _ :: _ :: _, h => exact absurd h Bool.false_ne_true
        | [z, u], h =>
          obtain ⟨h1, k2⟩ := and2 (show (decide (md = .itr) && (decide (y = "zip") && (glB sc y && (noStar z && (noStar u && (!ownB a && (!ownB b && (mE T N ow .val sc a z && mE T N ow .val sc b u)))))))) = true from h)
          obtain ⟨h2, k3⟩ := and2 k2
          obtain ⟨h3, k4⟩ := and2 k3
          obtain ⟨h4, k5⟩ := and2 k4
          obtain ⟨h5, k6⟩ := and2 k5
          obtain ⟨o1, k7⟩ := and2 k6
          obtain ⟨o2, k8⟩ := and2 k7
          obtain ⟨h6, h7⟩ := and2 k8
          obtain ⟨g1, g2, g3⟩ := gl_of hS h3
          have ka := iha .val sc z h6 W X G hN hS
          have kb := ihb .val sc u h7 W X G hN hS
          obtain rfl := of_decide_eq_true h1
          obtain rfl := of_decide_eq_true h2
          intro tg ht
          cases tg with
          | Tuple es k q => exact c_izip G g1 h4 h5 (not1 o1) (not1 o2) ka kb
          | _ => exact absurd ht Bool.false_ne_true
      | _ => exact absurd h Bool.false_ne_true
  | _ => exact absurd h Bool.false_ne_true
theorem fnof_blk {X : Cx} {s : Shared} {H : Hp} {scope : Scope} {cenv : PySem.Env} {fp : List Addr} {l : List Nat} : FnOf (X.blk s H scope cenv fp) (some (scope, l)) := fun x h => by
  show (scope.names.lookup x == some .cell) = true
  rw [h]
  rfl
theorem s_lc {own : List (Str × Nat)} {tg : Pt} {it : E} {ifs : List E} {e : E} (ihi : Sound T L N ow it) (ihs : SoundL T L N ow ifs) (ihe : Sound T L N ow e) : Sound T L N ow (.lc own tg it ifs e) := fun md sc x h W X G hN hS => by
  cases x with
  | ListComp x cl scope p =>
    match cl, h with
    | [⟨t, i, cs, n⟩], h =>
      cases n with
      | negSucc m => exact absurd h Bool.false_ne_true
      | ofNat m =>
        cases m with
        | succ m => exact absurd h Bool.false_ne_true
        | zero =>
          obtain ⟨h1, k2⟩ := and2 (show (!ownB e && (noSet i && (tupT it t && (blkC N sc scope own && (own.all (fun p => !ow.contains p.2) && (mE T N ow .itr sc it i && (mPt N ow (some (scope, own.map (·.2))) (relS scope sc) tg t && (decide (cs.length ≤ 1) && (cs.all noStar && (mEs T N ow .tst (relS scope sc) ifs cs && mE T N ow .val (relS scope sc) e x)))))))))) = true from h)
          obtain ⟨h2, k3⟩ := and2 k2
          obtain ⟨h3, k4⟩ := and2 k3
          obtain ⟨h4, k5⟩ := and2 k4
          obtain ⟨h5, k6⟩ := and2 k5
          obtain ⟨h6, k7⟩ := and2 k6
          obtain ⟨h7, k8⟩ := and2 k7
          obtain ⟨h8, k9⟩ := and2 k8
          obtain ⟨h9, k10⟩ := and2 k9
          obtain ⟨h10, h11⟩ := and2 k10
          have po := mPt_own h7
          subst hN
          subst hS
          have c : PE X (.ListComp x [⟨t, i, cs, 0⟩] scope p) (rdE T X.K (owf ow) W (.lc own tg it ifs e)) := c_lc G h4 (fun j hj => ⟨(po j hj).1, (po j hj).2 _ _ rfl⟩) h2 (not1 h1) (ihi .itr _ i h6 W X G rfl rfl t h3)
            (fun s H C cl fp => pg_pt (X := X.blk s H scope (compEnvC scope cl C X.env) fp) G.calm rfl G.nd rfl fnof_blk h7)
            (fun s H C cl fp => (ihs .tst _ cs h10 W0 (X.blk s H scope (compEnvC scope cl C X.env) fp) (G.blk ..) rfl rfl).2 (of_decide_eq_true h8) h9)
            (fun s H C cl fp => ihe .val _ x h11 W0 (X.blk s H scope (compEnvC scope cl C X.env) fp) (G.blk ..) rfl rfl)
          exact all_v rfl rfl c (fun _ => rfl) md
    | [], h => exact absurd h Bool.false_ne_true
    | ⟨t, i, cs, n⟩ :: _ :: _, h =>
      cases n with
      | negSucc m => exact absurd h Bool.false_ne_true
      | ofNat m => cases m <;> exact absurd h Bool.false_ne_true
  | _ => exact absurd h Bool.false_ne_true
theorem s_lck {own : List (Str × Nat)} {tg : Pt} {it : E} {ifs : List E} {e : E} (ihi : Sound T L N ow it) (ihs : SoundL T L N ow ifs) (ihe : Sound T L N ow e) : Sound T L N ow (.lck own tg it ifs e) := fun md sc x h W X G hN hS => by
  cases x with
  | ListComp x cl scope p =>
    match cl, h with
    | [⟨t, i, cs, n⟩], h =>
      cases n with
      | negSucc m => exact absurd h Bool.false_ne_true
      | ofNat m =>
        cases m with
        | succ m => exact absurd h Bool.false_ne_true
        | zero =>
          obtain ⟨h1, k2⟩ := and2 (show (!ownB e && (noSet i && (!ownB it && (blkC N sc scope own && (own.all (fun p => !ow.contains p.2) && (mE T N ow .val sc it i && (mPt N ow (some (scope, own.map (·.2))) (relS scope sc) tg t && (decide (cs.length ≤ 1) && (cs.all noStar && (mEs T N ow .tst (relS scope sc) ifs cs && mE T N ow .val (relS scope sc) e x)))))))))) = true from h)
          obtain ⟨h2, k3⟩ := and2 k2
          obtain ⟨h3, k4⟩ := and2 k3
          obtain ⟨h4, k5⟩ := and2 k4
          obtain ⟨h5, k6⟩ := and2 k5
          obtain ⟨h6, k7⟩ := and2 k6
          obtain ⟨h7, k8⟩ := and2 k7
          obtain ⟨h8, k9⟩ := and2 k8
          obtain ⟨h9, k10⟩ := and2 k9
          obtain ⟨h10, h11⟩ := and2 k10
          have po := mPt_own h7
          subst hN
          subst hS
          have c : PE X (.ListComp x [⟨t, i, cs, 0⟩] scope p) (rdE T X.K (owf ow) W (.lck own tg it ifs e)) := c_lck G h4 (fun j hj => ⟨(po j hj).1, (po j hj).2 _ _ rfl⟩) h2 (not1 h1) (not1 h3) (ihi .val _ i h6 W X G rfl rfl)
            (fun s H C cl fp => pg_pt (X := X.blk s H scope (compEnvC scope cl C X.env) fp) G.calm rfl G.nd rfl fnof_blk h7)
            (fun s H C cl fp => (ihs .tst _ cs h10 W0 (X.blk s H scope (compEnvC scope cl C X.env) fp) (G.blk ..) rfl rfl).2 (of_decide_eq_true h8) h9)
            (fun s H C cl fp => ihe .val _ x h11 W0 (X.blk s H scope (compEnvC scope cl C X.env) fp) (G.blk ..) rfl rfl)
          exact all_v rfl rfl c (fun _ => rfl) md
    | [], h => exact absurd h Bool.false_ne_true
    | ⟨t, i, cs, n⟩ :: _ :: _, h =>
      cases n with
      | negSucc m => exact absurd h Bool.false_ne_true
      | ofNat m => cases m <;> exact absurd h Bool.false_ne_true
  | _ => exact absurd h Bool.false_ne_true
theorem s_dc {own : List (Str × Nat)} {tg : Pt} {it : E} {ifs : List E} {ek ev : E} (ihi : Sound T L N ow it) (ihs : SoundL T L N ow ifs) (ihk : Sound T L N ow ek) (ihe : Sound T L N ow ev) : Sound T L N ow (.dc own tg it ifs ek ev) := fun md sc x h W X G hN hS => by
  cases x with
  | DictComp y x cl scope p =>
    match cl, h with
    | [⟨t, i, cs, n⟩], h =>
      cases n with
      | negSucc m => exact absurd h Bool.false_ne_true
      | ofNat m =>
        cases m with
        | succ m => exact absurd h Bool.false_ne_true
        | zero =>
          obtain ⟨h0, k1⟩ := and2 (show (!ownB ek && (!ownB ev && (noSet i && (tupT it t && (blkC N sc scope own && (own.all (fun p => !ow.contains p.2) && (mE T N ow .itr sc it i && (mPt N ow (some (scope, own.map (·.2))) (relS scope sc) tg t && (decide (cs.length ≤ 1) && (cs.all noStar && (mEs T N ow .tst (relS scope sc) ifs cs && (mE T N ow .val (relS scope sc) ek y && mE T N ow .val (relS scope sc) ev x)))))))))))) = true from h)
          obtain ⟨h1, k2⟩ := and2 k1
          obtain ⟨h2, k3⟩ := and2 k2
          obtain ⟨h3, k4⟩ := and2 k3
          obtain ⟨h4, k5⟩ := and2 k4
          obtain ⟨h5, k6⟩ := and2 k5
          obtain ⟨h6, k7⟩ := and2 k6
          obtain ⟨h7, k8⟩ := and2 k7
          obtain ⟨h8, k9⟩ := and2 k8
          obtain ⟨h9, k10⟩ := and2 k9
          obtain ⟨h10, k11⟩ := and2 k10
          obtain ⟨h11, h12⟩ := and2 k11
          have po := mPt_own h7
          subst hN
          subst hS
          have c : PE X (.DictComp y x [⟨t, i, cs, 0⟩] scope p) (rdE T X.K (owf ow) W (.dc own tg it ifs ek ev)) := c_dc G h4 (fun j hj => ⟨(po j hj).1, (po j hj).2 _ _ rfl⟩) h2 (not1 h1) (ihi .itr _ i h6 W X G rfl rfl t h3)
            (fun s H C cl fp => pg_pt (X := X.blk s H scope (compEnvC scope cl C X.env) fp) G.calm rfl G.nd rfl fnof_blk h7)
            (fun s H C cl fp => (ihs .tst _ cs h10 W0 (X.blk s H scope (compEnvC scope cl C X.env) fp) (G.blk ..) rfl rfl).2 (of_decide_eq_true h8) h9)
            (fun s H C cl fp => ihk .val _ y h11 W0 (X.blk s H scope (compEnvC scope cl C X.env) fp) (G.blk ..) rfl rfl)
            (fun s H C cl fp => ihe .val _ x h12 W0 (X.blk s H scope (compEnvC scope cl C X.env) fp) (G.blk ..) rfl rfl)
          exact all_v rfl rfl c (fun _ => rfl) md
    | [], h => exact absurd h Bool.false_ne_true
    | ⟨t, i, cs, n⟩ :: _ :: _, h =>
      cases n with
      | negSucc m => exact absurd h Bool.false_ne_true
      | ofNat m => cases m <;> exact absurd h Bool.false_ne_true
  | _ => exact absurd h Bool.false_ne_true
theorem s_binN {op : Operator} {a b : E} (iha : Sound T L N ow a) (ihb : Sound T L N ow b) : Sound T L N ow (.binN op a b) := fun md sc x h W X G hN hS => by
  cases x with
  | BinOp x op' y p =>
    obtain ⟨h1, h2⟩ := and2 (show (decide (op = op') && (mE T N ow .val sc a x && mE T N ow .val sc b y)) = true from h)
    obtain ⟨h2, h3⟩ := and2 h2
    obtain rfl := of_decide_eq_true h1
    exact all_v rfl rfl (c_binN (iha .val sc x h2 W X G hN hS) (ihb .val sc y h3 W X G hN hS)) (fun _ => rfl) md
  | _ => exact absurd h Bool.false_ne_true
theorem s_index {o : E} {es : List E} (iho : Sound T L N ow o) (ihs : SoundL T L N ow es) : Sound T L N ow (.bm .index o es) := fun md sc x h W X G hN hS => by
  cases x with
  | Call f xs ks cp =>
    cases f with
    | Attribute x m ap =>
      match xs, ks, h with
      | [], _, h => exact absurd h Bool.false_ne_true
      | _ :: _ :: _, _, h => exact absurd h Bool.false_ne_true
      | [_], _ :: _, h => exact absurd h Bool.false_ne_true
      | [y], [], h =>
        obtain ⟨h1, k2⟩ := and2 (show (decide (m = "index") && ((ap.endLine == cp.line) && (noStar y && (noCall x && (mE T N ow .val sc o x && mEs T N ow .val sc es [y]))))) = true from h)
        obtain ⟨h2, k3⟩ := and2 k2
        obtain ⟨h3, k4⟩ := and2 k3
        obtain ⟨h4, k5⟩ := and2 k4
        obtain ⟨h5, h6⟩ := and2 k5
        have k1 := iho .val sc x h5 W X G hN hS
        have k2 := (ihs .val sc [y] h6 W X G hN hS).1
        obtain rfl := of_decide_eq_true h1
        exact all_v rfl rfl (c_index G h4 h2 h3 k1 k2) (fun _ => rfl) md
    | _ => (match xs, ks, h with
      | [], _, h => exact absurd h Bool.false_ne_true
      | [_], [], h => exact absurd h Bool.false_ne_true
      | [_], _ :: _, h => exact absurd h Bool.false_ne_true
      | _ :: _ :: _, _, h => exact absurd h Bool.false_ne_true)
  | _ => exact absurd h Bool.false_ne_true
theorem s_pick {c : E} {es : List E} (ihc : Sound T L N ow c) (ihs : SoundL T L N ow es) : Sound T L N ow (.pick c es) := fun md sc x h W X G hN hS => by
  cases x with
  | Call f xs ks cp =>
    cases ks with
    | cons k ks => cases f <;> exact absurd h Bool.false_ne_true
    | nil =>
      cases f with
      | Subscript o i p =>
        obtain ⟨h1, k2⟩ := and2 (show (decide (1 ≤ xs.length) && (xs.all noStar && (mE T N ow .val sc c (.Subscript o i p) && mEs T N ow .val sc es xs))) = true from h)
        obtain ⟨h2, k3⟩ := and2 k2
        obtain ⟨h3, h4⟩ := and2 k3
        exact all_v rfl rfl (c_pick G (of_decide_eq_true h1) h2 (ihc .val sc _ h3 W X G hN hS) (ihs .val sc xs h4 W X G hN hS).1) (fun _ => rfl) md
      | _ => exact absurd h Bool.false_ne_true
  | _ => exact absurd h Bool.false_ne_true
theorem s_rev {a : E} (iha : Sound T L N ow a) : Sound T L N ow (.rev a) := fun md sc x h W X G hN hS => by
  cases x with
  | Subscript x y p =>
    cases y with
    | Slice lo hi st q =>
      match lo, hi, st, h with
      | some _, _, _, h => exact absurd h Bool.false_ne_true
      | none, some _, _, h => exact absurd h Bool.false_ne_true
      | none, none, none, h => exact absurd h Bool.false_ne_true
      | none, none, some u, h =>
        cases u with
        | UnaryOp o v r =>
          cases o with
          | USub =>
            cases v with
            | Constant k j r2 =>
              cases k with
              | int n =>
                by_cases hn : n = 1
                · subst hn
                  exact all_v rfl rfl (c_rev (iha .val sc x (show mE T N ow .val sc a x = true from h) W X G hN hS)) (fun _ => rfl) md
                · exfalso
                  revert h
                  cases n with
                  | negSucc m => exact fun h => absurd h Bool.false_ne_true
                  | ofNat m =>
                    match m with
                    | 0 => exact fun h => absurd h Bool.false_ne_true
                    | 1 => exact absurd rfl hn
                    | m + 2 => exact fun h => absurd h Bool.false_ne_true
              | _ => exact absurd h Bool.false_ne_true
            | _ => exact absurd h Bool.false_ne_true
          | _ => exact absurd h Bool.false_ne_true
        | _ => exact absurd h Bool.false_ne_true
    | _ => exact absurd h Bool.false_ne_true
  | _ => exact absurd h Bool.false_ne_true
theorem s_newst {e : E} (ih : Sound T L N ow e) : Sound T L N ow (.newst e) := fun md sc x h W X G hN hS => by
  cases x with
  | List xs p =>
    match xs, h with
    | [], h => exact absurd h Bool.false_ne_true
    | [_], h => exact absurd h Bool.false_ne_true
    | _ :: y :: _ :: _, h =>
      cases y with
      | Constant k j q =>
        cases k with
        | int n =>
          cases n with
          | negSucc m => exact absurd h Bool.false_ne_true
          | ofNat m => cases m <;> exact absurd h Bool.false_ne_true
        | _ => exact absurd h Bool.false_ne_true
      | _ => exact absurd h Bool.false_ne_true
    | [z, y], h =>
      cases y with
      | Constant k j q =>
        cases k with
        | int n =>
          cases n with
          | negSucc m => exact absurd h Bool.false_ne_true
          | ofNat m =>
            cases m with
            | succ m => exact absurd h Bool.false_ne_true
            | zero =>
              obtain ⟨h1, k2⟩ := and2 (show (!ownB e && (noStar z && mE T N ow .val sc e z)) = true from h)
              obtain ⟨h2, h3⟩ := and2 k2
              have c : PE X (.List [z, .Constant (.int 0) j q] p) (rdE T X.K (owf ow) W (.newst e)) := c_newst (not1 h1) h2 (ih .val sc z h3 W X G hN hS)
              exact all_v rfl rfl c (fun _ => rfl) md
        | _ => exact absurd h Bool.false_ne_true
      | _ => exact absurd h Bool.false_ne_true
  | _ => exact absurd h Bool.false_ne_true
theorem s_lenset {a : E} (ih : Sound T L N ow a) : Sound T L N ow (.lenset a) := fun md sc x h W X G hN hS => by
  cases x with
  | Call f xs ks p =>
    cases f with
    | Name x q =>
      match xs, ks, h with
      | [], _, h => exact absurd h Bool.false_ne_true
      | y :: _ :: _, ks, h =>
        cases y with
        | Call g zs ls r =>
          cases g with
          | Name u v =>
            match zs, ls, h with
            | [], _, h => exact absurd h Bool.false_ne_true
            | [_], [], h => exact absurd h Bool.false_ne_true
            | [_], _ :: _, h => exact absurd h Bool.false_ne_true
            | _ :: _ :: _, _, h => exact absurd h Bool.false_ne_true
          | _ => exact absurd h Bool.false_ne_true
        | _ => exact absurd h Bool.false_ne_true
      | [y], ks, h =>
        cases y with
        | Call g zs ls r =>
          cases g with
          | Name u v =>
            match zs, ls, ks, h with
            | [], _, _, h => exact absurd h Bool.false_ne_true
            | [_], _ :: _, _, h => exact absurd h Bool.false_ne_true
            | _ :: _ :: _, _, _, h => exact absurd h Bool.false_ne_true
            | [_], [], _ :: _, h => exact absurd h Bool.false_ne_true
            | [z], [], [], h =>
              obtain ⟨h1, k2⟩ := and2 (show (decide (x = "len") && (decide (u = "set") && (glB sc x && (glB sc u && (noStar z && mE T N ow .val sc a z))))) = true from h)
              obtain ⟨h2, k3⟩ := and2 k2
              obtain ⟨h3, k4⟩ := and2 k3
              obtain ⟨h4, k5⟩ := and2 k4
              obtain ⟨h5, h6⟩ := and2 k5
              have ka := ih .val sc z h6 W X G hN hS
              have g1 := (gl_of hS h3).1
              have g2 := (gl_of hS h4).1
              obtain rfl := of_decide_eq_true h1
              obtain rfl := of_decide_eq_true h2
              exact all_v rfl rfl (c_lenset G g1 g2 h5 ka) (fun _ => rfl) md
          | _ => exact absurd h Bool.false_ne_true
        | _ => exact absurd h Bool.false_ne_true
    | _ => exact absurd h Bool.false_ne_true
  | _ => exact absurd h Bool.false_ne_true
theorem s_dictzip {a b : E} (ih : Sound T L N ow a) (ih2 : Sound T L N ow b) : Sound T L N ow (.dictzip a b) := fun md sc x h W X G hN hS => by
  cases x with
  | Call f xs ks p =>
    cases f with
    | Name x q =>
      match xs, ks, h with
      | [], _, h => exact absurd h Bool.false_ne_true
      | y :: _ :: _, ks, h =>
        cases y with
        | Call g zs ls r =>
          cases g with
          | Name u v =>
            match zs, ls, h with
            | [], _, h => exact absurd h Bool.false_ne_true
            | [_], _, h => exact absurd h Bool.false_ne_true
            | [_, _], [], h => exact absurd h Bool.false_ne_true
            | [_, _], _ :: _, h => exact absurd h Bool.false_ne_true
            | _ :: _ :: _ :: _, _, h => exact absurd h Bool.false_ne_true
          | _ => exact absurd h Bool.false_ne_true
        | _ => exact absurd h Bool.false_ne_true
      | [y], ks, h =>
        cases y with
        | Call g zs ls r =>
          cases g with
          | Name u v =>
            match zs, ls, ks, h with
            | [], _, _, h => exact absurd h Bool.false_ne_true
            | [_], _, _, h => exact absurd h Bool.false_ne_true
            | [_, _], _ :: _, _, h => exact absurd h Bool.false_ne_true
            | _ :: _ :: _ :: _, _, _, h => exact absurd h Bool.false_ne_true
            | [_, _], [], _ :: _, h => exact absurd h Bool.false_ne_true
            | [z, w], [], [], h =>
              obtain ⟨h1, k2⟩ := and2 (show (decide (x = "dict") && (decide (u = "zip") && (glB sc x && (glB sc u && (noStar z && (noStar w && (mE T N ow .val sc a z && mE T N ow .val sc b w))))))) = true from h)
              obtain ⟨h2, k3⟩ := and2 k2
              obtain ⟨h3, k4⟩ := and2 k3
              obtain ⟨h4, k5⟩ := and2 k4
              obtain ⟨h5, k6⟩ := and2 k5
              obtain ⟨h6, k7⟩ := and2 k6
              obtain ⟨h7, h8⟩ := and2 k7
              have ka := ih .val sc z h7 W X G hN hS
              have kb := ih2 .val sc w h8 W X G hN hS
              have g1 := (gl_of hS h3).1
              have g2 := (gl_of hS h4).1
              obtain rfl := of_decide_eq_true h1
              obtain rfl := of_decide_eq_true h2
              exact all_v rfl rfl (c_dictzip G g1 g2 h5 h6 ka kb) (fun _ => rfl) md
          | _ => exact absurd h Bool.false_ne_true
        | _ => exact absurd h Bool.false_ne_true
    | _ => exact absurd h Bool.false_ne_true
  | _ => exact absurd h Bool.false_ne_true
end
end DL

/-! D5: the checker is right for expressions: lists; the whole -/
namespace DL
open PySem PySem.Spec PyProof.Rows L2 Evl

section
variable {T : Tb} {L : Nat} {N : List Str} {ow : List Nat}
def isStar : E → Bool
  | .star _ => true
  | _ => false
theorem mEs_cons {md : Md} {sc : Scope} {e : E} {es : List E} {x : Expr} {xs : List Expr} (h : mEs T N ow md sc (e :: es) (x :: xs) = true) :
    (∃ e' x' p, e = .star e' ∧ x = .Starred x' p ∧ mE T N ow md sc e' x' = true ∧ mEs T N ow md sc es xs = true) ∨ (isStar e = false ∧ noStar x = true ∧ mE T N ow md sc e x = true ∧ mEs T N ow md sc es xs = true) := by
  by_cases hs : isStar e = true
  · cases e with
    | star e' =>
      cases x with
      | Starred x' p => exact .inl ⟨e', x', p, rfl, rfl, and2 h⟩
      | _ => exact absurd (and2 (and2 h).2).1 Bool.false_ne_true
    | _ => cases hs
  · have hs' : isStar e = false := by simpa using hs
    have h' : (noStar x && (mE T N ow md sc e x && mEs T N ow md sc es xs)) = true := by
      cases e with
      | star e' => cases hs'
      | _ => exact h
    obtain ⟨h1, h2⟩ := and2 h'
    obtain ⟨h2, h3⟩ := and2 h2
    exact .inr ⟨hs', h1, h2, h3⟩
theorem wp_cons {X : EK} {e : E} {es : List E} {ρ : DE} {Q : List D → Prop} (hs : isStar e = false) (h : wpEs T X (e :: es) ρ Q) : wpE T X e ρ fun d => wpEs T X es ρ fun ds => Q (d :: ds) := by
  cases e with
  | star e' => cases hs
  | _ => exact h
theorem sl_nil : SoundL T L N ow [] := fun md sc xs h W X G hN hS => by
  cases xs with
  | cons x xs => exact absurd h Bool.false_ne_true
  | nil =>
    cases md with
    | val => exact ⟨as_nil, fun _ _ z => absurd rfl z⟩
    | tst => exact ⟨fun _ _ z => absurd rfl z, fun _ _ => ts_nil⟩
    | itr => trivial
theorem sl_cons {e : E} {es : List E} (ihe : Sound T L N ow e) (ihs : ∀ e', e = .star e' → Sound T L N ow e') (ihl : SoundL T L N ow es) : SoundL T L N ow (e :: es) := fun md sc xs h W X G hN hS => by
  cases xs with
  | nil => cases e <;> exact absurd h Bool.false_ne_true
  | cons x xs =>
    rcases mEs_cons h with ⟨e', x', p, rfl, rfl, h1, h2⟩ | ⟨h0, h1, h2, h3⟩
    · have k := ihs e' rfl md sc x' h1 W X G hN hS
      have kl := ihl md sc xs h2 W X G hN hS
      cases md with
      | val => exact ⟨as_star k kl.1, fun z => absurd z Bool.false_ne_true⟩
      | tst => exact ⟨fun z => absurd z Bool.false_ne_true, fun _ z => absurd z Bool.false_ne_true⟩
      | itr => trivial
    · have k := ihe md sc x h2 W X G hN hS
      have kl := ihl md sc xs h3 W X G hN hS
      cases md with
      | itr => trivial
      | val =>
        refine ⟨as_cons h1 (fun xk ρ Q q => wp_cons h0 q) k kl.1, fun n o _ pos => ?_⟩
        obtain ⟨n1, n2⟩ := and2 (show (noStar x && xs.all noStar) = true from n)
        obtain ⟨o1, o2⟩ := and2 (show (!ownB e && es.all (fun e => !ownB e)) = true from o)
        cases xs with
        | nil =>
          cases es with
          | nil => exact ⟨c_and1 (not1 o1) k, c_or1 (not1 o1) k⟩
          | cons e2 es => cases e2 <;> exact absurd h3 Bool.false_ne_true
        | cons y ys =>
          cases es with
          | nil => exact absurd h3 Bool.false_ne_true
          | cons e2 es =>
            obtain ⟨ka, ko⟩ := kl.2 n2 o2 (fun z => nomatch z) pos
            exact ⟨c_andC k ka, c_orC k ko⟩
      | tst =>
        refine ⟨fun n o _ pos => ?_, fun hl n => ?_⟩
        · obtain ⟨n1, n2⟩ := and2 (show (noStar x && xs.all noStar) = true from n)
          obtain ⟨o1, o2⟩ := and2 (show (!ownB e && es.all (fun e => !ownB e)) = true from o)
          cases xs with
          | nil =>
            cases es with
            | nil => exact ⟨c_and1T k, c_or1T k⟩
            | cons e2 es => cases e2 <;> exact absurd h3 Bool.false_ne_true
          | cons y ys =>
            cases es with
            | nil => exact absurd h3 Bool.false_ne_true
            | cons e2 es =>
              obtain ⟨ka, ko⟩ := kl.1 n2 o2 (fun z => nomatch z) pos
              exact ⟨c_andCT k ka, c_orCT k ko⟩
        · cases xs with
          | nil =>
            cases es with
            | nil => exact ts_one k
            | cons e2 es => cases e2 <;> exact absurd h3 Bool.false_ne_true
          | cons y ys => exact absurd (show ys.length + 1 + 1 ≤ 1 from hl) (by omega)
theorem len1 {xs : List Expr} (h : decide (1 ≤ xs.length) = true) : xs ≠ [] := fun z => by
  rw [z] at h
  cases h
theorem s_and {es : List E} (ih : SoundL T L N ow es) : Sound T L N ow (.and es) := fun md sc x h W X G hN hS => by
  cases x with
  | BoolOp op xs p =>
    cases op with
    | And =>
      obtain ⟨h0, k1⟩ := and2 (show (decide (md ≠ .itr) && (es.all (fun e => !ownB e) && (xs.all noStar && (mEs T N ow md sc es xs && decide (1 ≤ xs.length))))) = true from h)
      obtain ⟨h1, k2⟩ := and2 k1
      obtain ⟨h2, k3⟩ := and2 k2
      obtain ⟨h3, h4⟩ := and2 k3
      have k := ih md sc xs h3 W X G hN hS
      cases md with
      | itr => exact absurd h0 (by decide)
      | val => exact (k.2 h2 h1 (len1 h4) p).1
      | tst => exact (k.1 h2 h1 (len1 h4) p).1.pt
    | Or => exact absurd h Bool.false_ne_true
  | _ => exact absurd h Bool.false_ne_true
theorem s_or {es : List E} (ih : SoundL T L N ow es) : Sound T L N ow (.or es) := fun md sc x h W X G hN hS => by
  cases x with
  | BoolOp op xs p =>
    cases op with
    | Or =>
      obtain ⟨h0, k1⟩ := and2 (show (decide (md ≠ .itr) && (es.all (fun e => !ownB e) && (xs.all noStar && (mEs T N ow md sc es xs && decide (1 ≤ xs.length))))) = true from h)
      obtain ⟨h1, k2⟩ := and2 k1
      obtain ⟨h2, k3⟩ := and2 k2
      obtain ⟨h3, h4⟩ := and2 k3
      have k := ih md sc xs h3 W X G hN hS
      cases md with
      | itr => exact absurd h0 (by decide)
      | val => exact (k.2 h2 h1 (len1 h4) p).2
      | tst => exact (k.1 h2 h1 (len1 h4) p).2.pt
    | And => exact absurd h Bool.false_ne_true
  | _ => exact absurd h Bool.false_ne_true
def Sound2 (T : Tb) (L : Nat) (N : List Str) (ow : List Nat) (e : E) : Prop := Sound T L N ow e ∧ ∀ e', e = .star e' → Sound T L N ow e'
theorem s2 {e : E} (h : Sound T L N ow e) (hs : isStar e = false) : Sound2 T L N ow e := ⟨h, fun e' z => by rw [z] at hs; cases hs⟩
theorem mE_none {e : E} (he : ∀ md sc x, mE T N ow md sc e x = false) (hs : isStar e = false) : Sound2 T L N ow e := s2 (s_never he) hs
mutual
theorem snd2 : ∀ e : E, Sound2 T L N ow e
  | .var i => s2 s_var rfl
  | .own i => s2 s_own rfl
  | .con d => s2 s_con rfl
  | .glob x => s2 s_glob rfl
  | .tup es => s2 (s_tup (sndEs es)) rfl
  | .lst es => s2 (s_lst (sndEs es)) rfl
  | .star e => ⟨s_never fun md sc x => by cases x <;> rfl, fun e' z => by cases z; exact (snd2 e).1⟩
  | .bin op a b => s2 (s_bin (snd2 a).1 (snd2 b).1) rfl
  | .binN op a b => s2 (s_binN (snd2 a).1 (snd2 b).1) rfl
  | .lenset a => s2 (s_lenset (snd2 a).1) rfl
  | .dictzip a b => s2 (s_dictzip (snd2 a).1 (snd2 b).1) rfl
  | .neg a => s2 (s_neg (snd2 a).1) rfl
  | .inv a => mE_none (fun md sc x => by cases x <;> rfl) rfl
  | .cmp op a b => s2 (s_cmp (snd2 a).1 (snd2 b).1) rfl
  | .chain o1 o2 a b c => s2 (s_chain (snd2 a).1 (snd2 b).1 (snd2 c).1) rfl
  | .inn neg a b => s2 (s_inn (snd2 a).1 (snd2 b).1) rfl
  | .din neg a b => s2 (s_din (snd2 a).1 (snd2 b).1) rfl
  | .isn neg a => s2 (s_isn (snd2 a).1) rfl
  | .and es => s2 (s_and (sndEs es)) rfl
  | .or es => s2 (s_or (sndEs es)) rfl
  | .not a => s2 (s_not (snd2 a).1) rfl
  | .ite c a b => s2 (s_ite (snd2 c).1 (snd2 a).1 (snd2 b).1) rfl
  | .sub a i => s2 (s_sub (snd2 a).1 (snd2 i).1) rfl
  | .dget a i => s2 (s_dget (snd2 a).1 (snd2 i).1) rfl
  | .dgetd a i d => mE_none (fun md sc x => by cases x <;> rfl) rfl
  | .slice a lo hi => s2 (s_slice (snd2 a).1 (sndO lo) (sndO hi)) rfl
  | .rev a => s2 (s_rev (snd2 a).1) rfl
  | .blt f es => s2 (s_blt (sndEs es)) rfl
  | .call f es => s2 (s_call (sndEs es)) rfl
  | .pick c es => s2 (s_pick (snd2 c).1 (sndEs es)) rfl
  | .bm m o es => by
    cases m with
    | index => exact s2 (s_index (snd2 o).1 (sndEs es)) rfl
    | _ => exact mE_none (fun md sc x => by cases x <;> rfl) rfl
  | .meth c m o es => mE_none (fun md sc x => by cases x <;> rfl) rfl
  | .attr c f o => mE_none (fun md sc x => by cases x <;> rfl) rfl
  | .mk c es => mE_none (fun md sc x => by cases x <;> rfl) rfl
  | .lc own tg it ifs e => s2 (s_lc (snd2 it).1 (sndEs ifs) (snd2 e).1) rfl
  | .lck own tg it ifs e => s2 (s_lck (snd2 it).1 (sndEs ifs) (snd2 e).1) rfl
  | .lc2 own tg it ifs own2 tg2 it2 ifs2 e => mE_none (fun md sc x => by cases x <;> rfl) rfl
  | .dc own tg it ifs k v => s2 (s_dc (snd2 it).1 (sndEs ifs) (snd2 k).1 (snd2 v).1) rfl
  | .dnew t => s2 s_dnew rfl
  | .rng a => s2 (s_rng (snd2 a).1) rfl
  | .rng2 a b => s2 (s_rng2 (snd2 a).1 (snd2 b).1) rfl
  | .enum e => s2 (s_enum (snd2 e).1) rfl
  | .zip a b => s2 (s_zip (snd2 a).1 (snd2 b).1) rfl
  | .items e => mE_none (fun md sc x => by cases x <;> rfl) rfl
  | .vals e => mE_none (fun md sc x => by cases x <;> rfl) rfl
  | .keys e => mE_none (fun md sc x => by cases x <;> rfl) rfl
  | .newst e => s2 (s_newst (snd2 e).1) rfl
theorem sndEs : ∀ es : List E, SoundL T L N ow es
  | [] => sl_nil
  | e :: es => sl_cons (snd2 e).1 (snd2 e).2 (sndEs es)
theorem sndO : ∀ e : Option E, SoundO T L N ow e
  | none => s_none
  | some e => s_some (snd2 e).1
end
theorem sndE (e : E) : Sound T L N ow e := (snd2 e).1
end
end DL

/-! D6: statements: the frame, the simple ones -/
namespace DL
open PySem PySem.Spec PyProof.Rows L2 Evl

section
variable {K : PySem.W.Frag} {own : Nat → Bool} {B O O' : AP} {H0 H H' H1 : Hp} {σ σ' : L2.St} {ρ ρ' : DE} {u δ : Nat}
structure SI (K : PySem.W.Frag) (own : Nat → Bool) (B O : AP) (H0 : Hp) (u : Nat) (H : Hp) (σ : L2.St) (ρ : DE) : Prop where
  fr : Fr K own B O H σ ρ
  ex : Ex u H0 H
  fresh : ∀ a, O a → H0 a = none
  oldB : ∀ a, B a → H0 a ≠ none
/-- a step: what is not one's own stays -/
structure Stp (B O : AP) (H : Hp) (O' : AP) (H' : Hp) : Prop where
  kp : ∀ b o, H b = some o → (U B O b → isMt o = false) → H' b = some o ∨ Std b o (H' b)
  gr : Grows H (U B O) (U B O')
theorem Stp.keeps (s : Stp B O H O' H') : Keeps (U B O) H H' := fun b o h n => (s.kp b o h n).imp id .inr
theorem Stp.of (e : Ex δ H H') : Stp B O H O H' := ⟨fun b o h _ => e.kp b o h, grows_refl⟩
theorem Stp.refl : Stp B O H O H := .of (Ex.refl H)
theorem Stp.trans {O'' : AP} {H'' : Hp} (s : Stp B O H O' H') (t : Stp B O' H' O'' H'') : Stp B O H O'' H'' := by
  have mt : ∀ {b o o'}, o' = o ∨ Std b o (some o') → (isMt o' = isMt o) := fun {b o o'} h => by
    rcases h with rfl | ⟨s, n, n', rfl, e⟩
    · rfl
    · cases e
      rfl
  have one : ∀ b o, H b = some o → (U B O b → isMt o = false) → ∃ o', H' b = some o' ∧ (o' = o ∨ Std b o (some o')) := fun b o h n => by
    rcases s.kp b o h n with q | q
    · exact ⟨o, q, .inl rfl⟩
    · obtain ⟨s', k, k', rfl, q⟩ := q
      exact ⟨_, q, .inr ⟨s', k, k', rfl, rfl⟩⟩
  refine ⟨fun b o h n => ?_, fun b o h n => ?_⟩
  · obtain ⟨o', h', q⟩ := one b o h n
    have n' : U B O' b → isMt o' = false := fun z => by
      rw [mt q]
      refine n ?_
      refine Classical.byContradiction fun nz => ?_
      exact s.gr b o h nz z
    rcases q with rfl | ⟨s', m, m', rfl, e⟩
    · exact t.kp b o' h' n'
    · cases e
      rcases t.kp b _ h' n' with z | ⟨s2, k, k', e, z⟩
      · exact .inr ⟨s', m, m', rfl, z⟩
      · obtain ⟨rfl, rfl⟩ := sto_inj e rfl
        exact .inr ⟨s', m, k', rfl, z⟩
  · obtain ⟨o', h', _⟩ := one b o h fun z => absurd z n
    exact t.gr b o' h' (s.gr b o h n)
theorem SI.le {v : Nat} (f : SI K own B O H0 u H σ ρ) (h : u ≤ v) : SI K own B O H0 v H σ ρ := ⟨f.fr, f.ex.le h, f.fresh, f.oldB⟩
theorem SI.ext (f : SI K own B O H0 u H σ ρ) (e : Ex δ H H') : SI K own B O H0 (u + δ) H' σ ρ := ⟨f.fr.ex e, f.ex.trans e, f.fresh, f.oldB⟩
theorem SI.set (f : SI K own B O H0 u H σ ρ) {i : Nat} {d : D} {v : V} (ho : own i = false) (r : Rep K (U B O) H d v) : SI K own B O H0 u H (σ.set i (some v)) (ρ.set i (some d)) := ⟨f.fr.set ho r, f.ex, f.fresh, f.oldB⟩
theorem SI.dj (f : SI K own B O H0 u H σ ρ) : ∀ a, O a → ¬ B a := fun a h b => f.oldB a b (f.fresh a h)
/-- a value that goes out -/
theorem SI.out (f : SI K own B O H0 u H σ ρ) {d : D} {v : V} (r : Rep K (U B O) H d v) : Rep K B H d v := Rep.keep keeps_refl (grows_less fun a z => .inl z) _ _ r
theorem SI.outO (f : SI K own B O H0 u H σ ρ) {d : D} {a : Addr} (ha : O a) (r : OwnAt K (U B O) H a d) : Rep K B H d (.ref a) :=
  own_rep (f.dj a ha) (OwnAt.keep keeps_refl (grows_less fun b z => z.elim .inl fun z => .inr (by rw [z]; exact ha)) (fun o h _ => h) r)
/-- a new thing of one's own, in slot i -/
theorem SI.mine (f : SI K own B O H0 u H σ ρ) (e : Ex δ H H') {i : Nat} {d : D} {p : Addr} (ho : own i = true) (hp : H p = none) (r : OwnAt K (U (U B O) (· = p)) H' p d) :
    SI K own B (fun a => O a ∨ a = p) H0 (u + δ) H' (σ.set i (some (.ref p))) (ρ.set i (some d)) ∧ Stp B O H (fun a => O a ∨ a = p) H' := by
  have g : Grows H (U B O) (U B (fun a => O a ∨ a = p)) := fun b o hb n z => by
    rcases z with z | z | z
    · exact n (.inl z)
    · exact n (.inr z)
    · rw [z, hp] at hb
      cases hb
  have less : ∀ a, U B (fun a => O a ∨ a = p) a → U (U B O) (· = p) a := fun a z => by
    rcases z with z | z | z
    · exact .inl (.inl z)
    · exact .inl (.inr z)
    · exact .inr z
  have r' : OwnAt K (U B (fun a => O a ∨ a = p)) H' p d := OwnAt.keep keeps_refl (grows_less less) (fun o h _ => h) r
  have h0p : H0 p = none := f.ex.none hp
  refine ⟨⟨⟨by rw [List.length_set, List.length_set, f.fr.len], fun j dd h1 h2 => ?_, fun j dd h1 h2 => ?_, fun j k a h1 h2 h3 h4 h5 h6 => ?_, fun a z => ?_⟩, f.ex.trans e, fun a z => ?_, f.oldB⟩, ⟨fun b o h _ => e.kp b o h, g⟩⟩
  · have e1 : i ≠ j := fun z => by rw [z, h1] at ho; cases ho
    rw [List.getElem?_set_ne e1] at h2 ⊢
    obtain ⟨v, h3, h4⟩ := f.fr.fz j dd h1 h2
    exact ⟨v, h3, Rep.keep (keeps_ex e) g _ _ h4⟩
  · by_cases e1 : i = j
    · subst e1
      have hl : i < ρ.length := by
        have := (List.getElem?_eq_some_iff.mp h2).1
        rwa [List.length_set] at this
      rw [List.getElem?_set_self hl] at h2
      cases h2
      exact ⟨p, List.getElem?_set_self (by rw [f.fr.len]; exact hl), .inr rfl, r'⟩
    · rw [List.getElem?_set_ne e1] at h2 ⊢
      obtain ⟨a, h3, h4, h5⟩ := f.fr.ow j dd h1 h2
      exact ⟨a, h3, .inl h4, OwnAt.keep (keeps_ex e) g (fun o q z => e.at q z) h5⟩
  · have np : ∀ {j : Nat} {d : D}, own j = true → ρ[j]? = some (some d) → σ[j]? ≠ some (some (.ref p)) := fun {j d} h1 h2 h3 => by
      obtain ⟨b, q1, q2, q3⟩ := f.fr.ow j d h1 h2
      rw [h3] at q1
      cases q1
      obtain ⟨o, q4, _⟩ := f.fr.mt p (.inr q2)
      rw [hp] at q4
      cases q4
    have at' : ∀ {j : Nat}, i = j → (∃ d, (ρ.set i (some d))[j]? = some (some d)) → True := fun _ _ => trivial
    by_cases e1 : i = j
    · by_cases e2 : i = k
      · rw [← e1, ← e2]
      · obtain ⟨d4, h4⟩ := h4
        rw [List.getElem?_set_ne e2] at h4 h6
        subst e1
        obtain ⟨d3, h3⟩ := h3
        have hl : i < ρ.length := by
          have := (List.getElem?_eq_some_iff.mp h3).1
          rwa [List.length_set] at this
        rw [List.getElem?_set_self (by rw [f.fr.len]; exact hl)] at h5
        cases h5
        exact absurd h6 (np h2 h4)
    · by_cases e2 : i = k
      · obtain ⟨d3, h3⟩ := h3
        rw [List.getElem?_set_ne e1] at h3 h5
        subst e2
        obtain ⟨d4, h4⟩ := h4
        have hl : i < ρ.length := by
          have := (List.getElem?_eq_some_iff.mp h4).1
          rwa [List.length_set] at this
        rw [List.getElem?_set_self (by rw [f.fr.len]; exact hl)] at h6
        cases h6
        exact absurd h5 (np h1 h3)
      · rw [List.getElem?_set_ne e1] at h3 h5
        rw [List.getElem?_set_ne e2] at h4 h6
        exact f.fr.dj j k a h1 h2 h3 h4 h5 h6
  · rcases z with z | z | z
    · exact mt_ex e (f.fr.mt a (.inl z))
    · exact mt_ex e (f.fr.mt a (.inr z))
    · rw [z]
      cases d with
      | lst l => obtain ⟨vs, h1, _⟩ := r; exact ⟨_, h1, rfl⟩
      | dic l => obtain ⟨vs, h1, _⟩ := r; exact ⟨_, h1, rfl⟩
      | dit l => obtain ⟨vs, h1, _⟩ := r; exact ⟨_, h1, rfl⟩
      | obj c l => obtain ⟨dx, vs, h1, _⟩ := r; exact ⟨_, h1, rfl⟩
      | _ => exact r.elim
  · rcases z with z | z
    · exact f.fresh a z
    · rw [z]
      exact h0p
/-- one's own thing at a, written -/
theorem SI.upd (f : SI K own B O H0 u H σ ρ) {i : Nat} {d d' : D} {a : Addr} {o o' : HO} (ho : own i = true) (hi : ρ[i]? = some (some d)) (hs : σ[i]? = some (some (.ref a))) (ha : O a) (hH : H a = some o) (hm : isMt o = true) (hm' : isMt o' = true) (hx : isX o' = false)
    (r : OwnAt K (U B O) (upd H a o') a d') : SI K own B O H0 u (L2.upd H a o') σ (ρ.set i (some d')) ∧ Stp B O H O (L2.upd H a o') := by
  have k : Keeps (U B O) H (L2.upd H a o') := keeps_upd (.inr ha) hH hm
  refine ⟨⟨⟨by rw [List.length_set, f.fr.len], fun j dd h1 h2 => ?_, fun j dd h1 h2 => ?_, fun j k a h1 h2 h3 h4 h5 h6 => ?_, fun b z => ?_⟩, ex_upd (f.fresh a ha) f.ex hx, f.fresh, f.oldB⟩, ⟨fun b ob hb nb => ?_, grows_refl⟩⟩
  · have e1 : i ≠ j := fun z => by rw [z, h1] at ho; cases ho
    rw [List.getElem?_set_ne e1] at h2
    obtain ⟨v, h3, h4⟩ := f.fr.fz j dd h1 h2
    exact ⟨v, h3, Rep.keep k grows_refl _ _ h4⟩
  · by_cases e1 : i = j
    · subst e1
      have hl : i < ρ.length := (List.getElem?_eq_some_iff.mp hi).1
      rw [List.getElem?_set_self hl] at h2
      cases h2
      exact ⟨a, hs, ha, r⟩
    · rw [List.getElem?_set_ne e1] at h2
      obtain ⟨b, h3, h4, h5⟩ := f.fr.ow j dd h1 h2
      refine ⟨b, h3, h4, OwnAt.keep k grows_refl (fun ob q _ => ?_) h5⟩
      have nb : b ≠ a := fun z => by
        rw [z] at h3
        exact e1 (f.fr.dj i j a ho h1 ⟨_, hi⟩ ⟨_, h2⟩ hs h3)
      rw [upd_ne nb]
      exact q
  · have key : ∀ {j : Nat}, (∃ d, (ρ.set i (some d'))[j]? = some (some d)) → ∃ d, ρ[j]? = some (some d) := fun {j} z => by
      obtain ⟨d, z⟩ := z
      by_cases e1 : i = j
      · rw [← e1]
        exact ⟨_, hi⟩
      · rw [List.getElem?_set_ne e1] at z
        exact ⟨d, z⟩
    exact f.fr.dj j k _ h1 h2 (key h3) (key h4) h5 h6
  · by_cases e : b = a
    · rw [e]
      exact ⟨o', upd_same, hm'⟩
    · obtain ⟨ob, h1, h2⟩ := f.fr.mt b z
      exact ⟨ob, by rw [upd_ne e]; exact h1, h2⟩
  · by_cases e : b = a
    · subst e
      rw [hH] at hb
      cases hb
      rw [nb (.inr ha)] at hm
      cases hm
    · rw [upd_ne e]
      exact .inl hb
end
end DL

/-! D7: statements: stores of names -/
namespace DL
open PySem PySem.Spec PyProof.Rows L2 Evl

theorem _root_.L2.PS.imp {X : Cx} {st : Stmt} {t t' : TS} (h : PS X st t) (k : ∀ D σ H, t' D σ H → t D σ H) : PS X st t' := ⟨fun pins s σ H D I q => h.run pins s σ H D I (k _ _ _ q)⟩
theorem _root_.L2.PSs.imp {X : Cx} {st : List Stmt} {t t' : TS} (h : PSs X st t) (k : ∀ D σ H, t' D σ H → t D σ H) : PSs X st t' := ⟨fun pins s σ H D I q => h.run pins s σ H D I (k _ _ _ q)⟩
section
variable {X : Cx}
/-- name = {..} on one line, the name a local -/
theorem ps_setDc {i : Nat} {y : Str} {py : Pos} {kx vx tg iter : Expr} {ifs : List Expr} {scope : Scope} {own : List (Str × Nat)} {pos spos : Pos} {wi : TI} {g : TG} {tt : TT} {tk tv : TE} (hc : X.calm = true) (hN : X.N.Nodup) (hy : X.N[i]? = some y) (hyl : X.env.scope.names.lookup y = some .local)
    (hsw : swapsWith (.DictComp kx vx [⟨tg, iter, ifs, 0⟩] scope pos) (some (.Name y py)) spos.line X.env = pure true) (hi : PI X tg iter wi) (ok : BlkOk X.N X.env.scope scope own)
    (hg : ∀ (s : Shared) (H : Hp) (C : Addr) (cl : List (Str × Addr)) (fp : List Addr), PG (X.blk s H scope (compEnvC scope cl C X.env) fp) tg g) (ht : ∀ (s : Shared) (H : Hp) (C : Addr) (cl : List (Str × Addr)) (fp : List Addr), PTs (X.blk s H scope (compEnvC scope cl C X.env) fp) ifs tt)
    (hk : ∀ (s : Shared) (H : Hp) (C : Addr) (cl : List (Str × Addr)) (fp : List Addr), PE (X.blk s H scope (compEnvC scope cl C X.env) fp) kx tk)
    (he : ∀ (s : Shared) (H : Hp) (C : Addr) (cl : List (Str × Addr)) (fp : List Addr), PE (X.blk s H scope (compEnvC scope cl C X.env) fp) vx tv) (hs : ∀ x, foldedSetIterable iter X.env x = pure x) :
    PS X (.Assign [.Name y py] (.DictComp kx vx [⟨tg, iter, ifs, 0⟩] scope pos) spos) (tAsg (tDc wi g tt tk tv (own.map (·.2))) (gName i)) := by
  refine ⟨fun pins s σ H D I h => ?_⟩
  rw [exec_Assign_Name_used _ _ _ _ hsw]
  refine wpAny_bind (wpAny_standAt (wpAny_bind ?_))
  show wpAny _ X.A (do let _ ← comprehension (.DictComp kx vx [⟨tg, iter, ifs, 0⟩] scope pos) scope X.env (firstIterPos [⟨tg, iter, ifs, 0⟩] pos) newDict false (eval iter X.env) (some (assign (.Name y py) X.env))) _ _ s
  have h : tDc wi g tt tk tv (own.map (·.2)) σ H (fun x H1 => gName i x σ H1 D.nx) := h
  refine wpAny_bind (thn (dc_core (Qf := fun _ s' => SP X pins D .next s') hc hN I hi ok hg ht hk he hs h fun L C s' m H' I' q hn f => ?_) fun _ s' hq => wpAny_pure (wpAny_pure hq))
  show wpAny _ _ (assign (.Name y py) X.env (.ref L)) _ _ _
  refine wpAny_assign_Name (store_ok2 (v := V.ref L) I' hN hy (.inl hyl) rfl (fun s2 I2 ⟨a, sb, ha⟩ => ?_) (.inr hyl))
  obtain ⟨f0, f1, f2, f3, f4, f5⟩ := f
  have haC : C ≠ a := by
    rcases ha with z | z
    · rw [z]; exact f1
    · exact fun e => f4 y a z e.symm
  refine ⟨m, hn.sameBut sb haC, fun h3 sb3 => ?_⟩
  exact ⟨_, H', I2.turned (t' := s2.toks) (fun b o hb e => (sb3.2 b hb).trans e) f0 f1 f3 f4 f5, q⟩
/-- whether the store comes within -/
def swB (sc scope : Scope) (y : Str) (py pos : Pos) : Bool := decide (sc.names.lookup y = some .local) && ((py.line == pos.line) && !(scope.names.any fun (n, k) => n == y && (k == .local || k == .cell)))
theorem nk_beq (o : Option NameKind) : (o == some NameKind.local) = decide (o = some NameKind.local) := by
  cases o with
  | none => rfl
  | some k => cases k <;> rfl
theorem sw_lc {elt : Expr} {gs : List Comprehension} {scope : Scope} {pos py : Pos} {y : Str} {l : Nat} {env : PySem.Env} (hk : env.scope.kind = .function) : swapsWith (.ListComp elt gs scope pos) (some (.Name y py)) l env = pure (swB env.scope scope y py pos) := by
  have hb : env.blockKind = .function := by unfold Env.blockKind; rw [hk]; rfl
  unfold swapsWith swB
  simp only [hb, Expr.pos]
  show (pure _ : Sem Bool) = pure _
  congr 1
  rw [show env.kindOf y = env.scope.names.lookup y from rfl, nk_beq, Bool.and_assoc, Bool.and_assoc]
  rfl
theorem sw_dc {k v : Expr} {gs : List Comprehension} {scope : Scope} {pos py : Pos} {y : Str} {l : Nat} {env : PySem.Env} (hk : env.scope.kind = .function) : swapsWith (.DictComp k v gs scope pos) (some (.Name y py)) l env = pure (swB env.scope scope y py pos) := by
  have hb : env.blockKind = .function := by unfold Env.blockKind; rw [hk]; rfl
  unfold swapsWith swB
  simp only [hb, Expr.pos]
  show (pure _ : Sem Bool) = pure _
  congr 1
  rw [show env.kindOf y = env.scope.names.lookup y from rfl, nk_beq, Bool.and_assoc, Bool.and_assoc]
  rfl
end
section
variable {T : Tb} {L : Nat} {W : WX} {X : Cx} {ow : List Nat} {N : List Str}
/-- a statement's context -/
structure GoodS (T : Tb) (L : Nat) (W : WX) (X : Cx) : Prop where
  g : Good T L W X
  po : PassesOwn (model X.prog X.w) X.A X.env X.xe
  fn : ∀ x, X.fn x = true
  kind : X.env.scope.kind = .function
  stk : X.stack = X.env :: X.outer
  frm : X.env.frame = some X.env.locals
theorem p_set (G : GoodS T L W X) {e : E} {v : Expr} {i : Nat} {x : Str} {p pos : Pos} (hN : X.N = N) (hi : N[i]? = some x) (hx : Loc X.env.scope x) (hk : isLck e = false) (h : mE T N ow .val X.env.scope e v = true) : PS X (.Assign [.Name x p] v pos) (tAsg (rdE T X.K (owf ow) W e) (gName i)) := by
  subst hN
  have he : PE X v (rdE T X.K (owf ow) W e) := sndE e .val _ v h W X G.g rfl rfl
  cases v with
  | ListComp y cl scope q =>
    cases hb : swB X.env.scope scope x p q with
    | false => exact ps_set G.g.nd hi hx he (by rw [sw_lc G.kind, hb]) (.inl (G.fn x))
    | true =>
      cases e with
      | lc own tg it ifs e =>
        have loc : X.env.scope.names.lookup x = some .local := by
          unfold swB at hb
          rw [Bool.and_eq_true] at hb
          exact of_decide_eq_true hb.1
        match cl, h with
        | [], h => exact absurd h Bool.false_ne_true
        | ⟨t, i, cs, n⟩ :: _ :: _, h =>
          cases n with
          | negSucc m => exact absurd h Bool.false_ne_true
          | ofNat m => cases m <;> exact absurd h Bool.false_ne_true
        | [⟨t, i, cs, n⟩], h =>
          cases n with
          | negSucc m => exact absurd h Bool.false_ne_true
          | ofNat m =>
            cases m with
            | succ m => exact absurd h Bool.false_ne_true
            | zero =>
              obtain ⟨h1, k2⟩ := and2 (show (!ownB e && (noSet i && (tupT it t && (blkC X.N X.env.scope scope own && (own.all (fun p => !ow.contains p.2) && (mE T X.N ow .itr X.env.scope it i && (mPt X.N ow (some (scope, own.map (·.2))) (relS scope X.env.scope) tg t && (decide (cs.length ≤ 1) && (cs.all noStar && (mEs T X.N ow .tst (relS scope X.env.scope) ifs cs && mE T X.N ow .val (relS scope X.env.scope) e y)))))))))) = true from h)
              obtain ⟨h2, k3⟩ := and2 k2
              obtain ⟨h3, k4⟩ := and2 k3
              obtain ⟨h4, k5⟩ := and2 k4
              obtain ⟨h5, k6⟩ := and2 k5
              obtain ⟨h6, k7⟩ := and2 k6
              obtain ⟨h7, k8⟩ := and2 k7
              obtain ⟨h8, k9⟩ := and2 k8
              obtain ⟨h9, k10⟩ := and2 k9
              obtain ⟨h10, h11⟩ := and2 k10
              have po := mPt_own h7
              exact (ps_setLc (scope := scope) (own := own) (pos := q) G.g.calm G.g.nd hi loc (by rw [sw_lc G.kind, hb]) (sndE it .itr _ i h6 W X G.g rfl rfl t h3) (blkOk_by h4)
                (fun s H C cl fp => pg_pt (X := X.blk s H scope (compEnvC scope cl C X.env) fp) G.g.calm rfl G.g.nd rfl fnof_blk h7)
                (fun s H C cl fp => (sndEs ifs .tst _ cs h10 W0 (X.blk s H scope (compEnvC scope cl C X.env) fp) (G.g.blk ..) rfl rfl).2 (of_decide_eq_true h8) h9)
                (fun s H C cl fp => (show PE (X.blk s H scope (compEnvC scope cl C X.env) fp) _ (rdE T X.K (owf ow) W0 e) from sndE e .val _ y h11 W0 (X.blk s H scope (compEnvC scope cl C X.env) fp) (G.g.blk ..) rfl rfl)) (fold_of h2)).imp
                fun D σ H k => lc_rd (fun j hj => ⟨(po j hj).1, (po j hj).2 _ _ rfl⟩) (not1 h1) k
      | bm m o es => cases m <;> exact absurd h Bool.false_ne_true
      | lck _ _ _ _ _ => cases hk
      | _ => exact absurd h Bool.false_ne_true
  | DictComp y z cl scope q =>
    cases hb : swB X.env.scope scope x p q with
    | false => exact ps_set G.g.nd hi hx he (by rw [sw_dc G.kind, hb]) (.inl (G.fn x))
    | true =>
      cases e with
      | dc own tg it ifs ek ev =>
        have loc : X.env.scope.names.lookup x = some .local := by
          unfold swB at hb
          rw [Bool.and_eq_true] at hb
          exact of_decide_eq_true hb.1
        match cl, h with
        | [], h => exact absurd h Bool.false_ne_true
        | ⟨t, i, cs, n⟩ :: _ :: _, h =>
          cases n with
          | negSucc m => exact absurd h Bool.false_ne_true
          | ofNat m => cases m <;> exact absurd h Bool.false_ne_true
        | [⟨t, i, cs, n⟩], h =>
          cases n with
          | negSucc m => exact absurd h Bool.false_ne_true
          | ofNat m =>
            cases m with
            | succ m => exact absurd h Bool.false_ne_true
            | zero =>
              obtain ⟨h0, k1⟩ := and2 (show (!ownB ek && (!ownB ev && (noSet i && (tupT it t && (blkC X.N X.env.scope scope own && (own.all (fun p => !ow.contains p.2) && (mE T X.N ow .itr X.env.scope it i && (mPt X.N ow (some (scope, own.map (·.2))) (relS scope X.env.scope) tg t && (decide (cs.length ≤ 1) && (cs.all noStar && (mEs T X.N ow .tst (relS scope X.env.scope) ifs cs && (mE T X.N ow .val (relS scope X.env.scope) ek y && mE T X.N ow .val (relS scope X.env.scope) ev z)))))))))))) = true from h)
              obtain ⟨h1, k2⟩ := and2 k1
              obtain ⟨h2, k3⟩ := and2 k2
              obtain ⟨h3, k4⟩ := and2 k3
              obtain ⟨h4, k5⟩ := and2 k4
              obtain ⟨h5, k6⟩ := and2 k5
              obtain ⟨h6, k7⟩ := and2 k6
              obtain ⟨h7, k8⟩ := and2 k7
              obtain ⟨h8, k9⟩ := and2 k8
              obtain ⟨h9, k10⟩ := and2 k9
              obtain ⟨h10, k11⟩ := and2 k10
              obtain ⟨h11, h12⟩ := and2 k11
              have po := mPt_own h7
              exact (ps_setDc (scope := scope) (own := own) (pos := q) G.g.calm G.g.nd hi loc (by rw [sw_dc G.kind, hb]) (sndE it .itr _ i h6 W X G.g rfl rfl t h3) (blkOk_by h4)
                (fun s H C cl fp => pg_pt (X := X.blk s H scope (compEnvC scope cl C X.env) fp) G.g.calm rfl G.g.nd rfl fnof_blk h7)
                (fun s H C cl fp => (sndEs ifs .tst _ cs h10 W0 (X.blk s H scope (compEnvC scope cl C X.env) fp) (G.g.blk ..) rfl rfl).2 (of_decide_eq_true h8) h9)
                (fun s H C cl fp => (show PE (X.blk s H scope (compEnvC scope cl C X.env) fp) _ (rdE T X.K (owf ow) W0 ek) from sndE ek .val _ y h11 W0 (X.blk s H scope (compEnvC scope cl C X.env) fp) (G.g.blk ..) rfl rfl))
                (fun s H C cl fp => (show PE (X.blk s H scope (compEnvC scope cl C X.env) fp) _ (rdE T X.K (owf ow) W0 ev) from sndE ev .val _ z h12 W0 (X.blk s H scope (compEnvC scope cl C X.env) fp) (G.g.blk ..) rfl rfl)) (fold_of h2)).imp
                fun D σ H k => dc_rd (fun j hj => ⟨(po j hj).1, (po j hj).2 _ _ rfl⟩) (not1 h1) k
      | bm m o es => cases m <;> exact absurd h Bool.false_ne_true
      | lck _ _ _ _ _ => cases hk
      | _ => exact absurd h Bool.false_ne_true
  | SetComp a b c d =>
    cases e with
    | bm m o es => cases m <;> exact absurd h Bool.false_ne_true
    | _ => exact absurd h Bool.false_ne_true
  | _ => exact ps_set G.g.nd hi hx he rfl (.inl (G.fn x))
end
end DL

/-! D8: statements: one rule each -/
namespace DL
open PySem PySem.Spec PyProof.Rows L2 Evl

section
variable {K : PySem.W.Frag} {own : Nat → Bool} {W : WX} {B O O' : AP} {H0 H H' : Hp} {σ : L2.St} {ρ : DE} {κ : KD} {D : Ends} {u un ub uc ut δ : Nat}
/-- what is wanted at a statement's ends; un, ub, uc, ut: the draws by then, at most -/
structure KOk (K : PySem.W.Frag) (own : Nat → Bool) (W : WX) (B O : AP) (H0 : Hp) (un ub uc ut : Nat) (H : Hp) (κ : KD) (D : Ends) : Prop where
  nx : ∀ ρ', κ.nx ρ' → ∀ O' σ' H', SI K own B O' H0 un H' σ' ρ' → Stp B O H O' H' → D.nx σ' H'
  bk : ∀ ρ', κ.bk ρ' → ∀ O' σ' H', SI K own B O' H0 ub H' σ' ρ' → Stp B O H O' H' → D.bk σ' H'
  ct : ∀ ρ', κ.ct ρ' → ∀ O' σ' H', SI K own B O' H0 uc H' σ' ρ' → Stp B O H O' H' → D.ct σ' H'
  rt : ∀ d, κ.rt d → ∀ v H', Ex ut H0 H' → Rep K B H' d v → D.rt v H'
  xc : ∀ x, κ.xc x → ∀ cls d σ' H', Ex ut H0 H' → XIs K x cls d H' → W cls d σ' H'
/-- where a statement stands, δ its own cost -/
structure SX (K : PySem.W.Frag) (own : Nat → Bool) (B O : AP) (H0 : Hp) (u un ub uc ut δ : Nat) (H : Hp) (σ : L2.St) (ρ : DE) : Prop where
  si : SI K own B O H0 u H σ ρ
  b1 : u + δ ≤ un
  b2 : u + δ ≤ ub
  b3 : u + δ ≤ uc
  b4 : u + δ ≤ ut
  rm : Rm H0 ut
theorem KOk.step (k : KOk K own W B O H0 un ub uc ut H κ D) (s : Stp B O H O' H') : KOk K own W B O' H0 un ub uc ut H' κ D :=
  ⟨fun ρ' h O2 σ' H2 f s2 => k.nx ρ' h O2 σ' H2 f (s.trans s2), fun ρ' h O2 σ' H2 f s2 => k.bk ρ' h O2 σ' H2 f (s.trans s2), fun ρ' h O2 σ' H2 f s2 => k.ct ρ' h O2 σ' H2 f (s.trans s2), k.rt, k.xc⟩
theorem KOk.fx (k : KOk K own W B O H0 un ub uc ut H κ D) (f : SX K own B O H0 u un ub uc ut δ H σ ρ) : FX K own W κ.xc B O δ H σ ρ :=
  ⟨f.si.fr, (f.rm.le f.b4).ex f.si.ex, fun x hx cls d H' e i => k.xc x hx cls d σ H' ((f.si.ex.trans e).le f.b4) i⟩
/-- behind the first part -/
theorem SX.ex {i j : Nat} (f : SX K own B O H0 u un ub uc ut (i + j) H σ ρ) (e : Ex i H H') : SX K own B O H0 (u + i) un ub uc ut j H' σ ρ :=
  ⟨f.si.ext e, by rw [Nat.add_assoc]; exact f.b1, by rw [Nat.add_assoc]; exact f.b2, by rw [Nat.add_assoc]; exact f.b3, by rw [Nat.add_assoc]; exact f.b4, f.rm⟩
theorem SX.le {i j : Nat} (f : SX K own B O H0 u un ub uc ut j H σ ρ) (h : i ≤ j) : SX K own B O H0 u un ub uc ut i H σ ρ :=
  ⟨f.si, Nat.le_trans (Nat.add_le_add_left h u) f.b1, Nat.le_trans (Nat.add_le_add_left h u) f.b2, Nat.le_trans (Nat.add_le_add_left h u) f.b3, Nat.le_trans (Nat.add_le_add_left h u) f.b4, f.rm⟩
theorem SX.l {i j : Nat} (f : SX K own B O H0 u un ub uc ut (i + j) H σ ρ) : SX K own B O H0 u un ub uc ut i H σ ρ := f.le (Nat.le_add_right i j)
end
def rdS (T : Tb) (K : PySem.W.Frag) (own : Nat → Bool) (W : WX) (s : S) : TS := fun D σ H => ∃ B O H0 u un ub uc ut ρ κ, SX K own B O H0 u un ub uc ut (dcS T s) H σ ρ ∧ wpS T s ρ κ ∧ KOk K own W B O H0 un ub uc ut H κ D
def rdSs (T : Tb) (K : PySem.W.Frag) (own : Nat → Bool) (W : WX) (s : List S) : TS := fun D σ H => ∃ B O H0 u un ub uc ut ρ κ, SX K own B O H0 u un ub uc ut (dcSs T s) H σ ρ ∧ wpSs T s ρ κ ∧ KOk K own W B O H0 un ub uc ut H κ D
section
variable {T : Tb} {L : Nat} {W : WX} {X : Cx} {ow : List Nat} {N : List Str}
/-- one's own list lent to a loop -/
theorem SI.lend {B O : AP} {H0 H : Hp} {σ : L2.St} {ρ : DE} {i : Nat} {w : DL.D} {a : Addr} {u : Nat} (f : SI X.K (owf ow) B O H0 u H σ ρ) (hw : owf ow i = true) (hd : ρ[i]? = some (some w)) (h1 : σ[i]? = some (some (.ref a))) (h2 : O a) :
    SI X.K (owf ow) B (fun c => O c ∧ c ≠ a) H0 u H σ (ρ.set i none) ∧ Stp B O H (fun c => O c ∧ c ≠ a) H := by
  have less : ∀ b, U B (fun c => O c ∧ c ≠ a) b → U B O b := fun b z => z.imp id fun z => z.1
  have fd := f.fr.drop i (some (.ref a))
  have es : σ.set i (some (.ref a)) = σ := by
    refine List.ext_getElem? fun m => ?_
    by_cases e : i = m
    · subst e
      rw [List.getElem?_set_self (List.getElem?_eq_some_iff.mp h1).1, h1]
    · rw [List.getElem?_set_ne e]
  rw [es] at fd
  refine ⟨⟨⟨fd.len, fun m dd q1 q2 => ?_, fun m dd q1 q2 => ?_, fd.dj, fun b z => fd.mt b (less b z)⟩, f.ex, fun b z => f.fresh b z.1, f.oldB⟩, ⟨fun b o h _ => .inl h, grows_less less⟩⟩
  · obtain ⟨v, q3, q4⟩ := fd.fz m dd q1 q2
    exact ⟨v, q3, Rep.keep keeps_refl (grows_less less) _ _ q4⟩
  · obtain ⟨b, q3, q4, q5⟩ := fd.ow m dd q1 q2
    refine ⟨b, q3, ⟨q4, fun z => ?_⟩, OwnAt.keep keeps_refl (grows_less less) (fun o h _ => h) q5⟩
    have e1 : i ≠ m := fun z => by
      rw [← z] at q2
      have hl : i < ρ.length := (List.getElem?_eq_some_iff.mp hd).1
      rw [List.getElem?_set_self hl] at q2
      cases q2
    rw [List.getElem?_set_ne e1] at q2
    rw [z] at q3
    exact e1 (f.fr.dj i m a hw q1 ⟨_, hd⟩ ⟨_, q2⟩ h1 q3)
theorem pss_n : PSs X [] (rdSs T X.K (owf ow) W []) := pss_nil.imp fun D σ H h => by
  obtain ⟨B, O, H0, u, un, ub, uc, ut, ρ, κ, f, hq, k⟩ := h
  exact k.nx ρ hq O σ H (f.si.le f.b1) .refl
theorem pss_c {s : S} {ss : List S} {st : Stmt} {sts : List Stmt} (h1 : PS X st (rdS T X.K (owf ow) W s)) (h2 : PSs X sts (rdSs T X.K (owf ow) W ss)) : PSs X (st :: sts) (rdSs T X.K (owf ow) W (s :: ss)) := (pss_cons h1 h2).imp fun D σ H h => by
  obtain ⟨B, O, H0, u, un, ub, uc, ut, ρ, κ, f, hq, k⟩ := h
  have f1 := SX.l (i := dcS T s) (j := dcSs T ss) f
  exact ⟨B, O, H0, u, u + dcS T s, ub, uc, ut, ρ, _, ⟨f1.si, Nat.le_refl _, f1.b2, f1.b3, f1.b4, f1.rm⟩, hq, ⟨fun ρ' h O' σ' H' f' s' => ⟨B, O', H0, u + dcS T s, un, ub, uc, ut, ρ', κ, ⟨f', by rw [Nat.add_assoc]; exact f.b1, by rw [Nat.add_assoc]; exact f.b2, by rw [Nat.add_assoc]; exact f.b3, by rw [Nat.add_assoc]; exact f.b4, f.rm⟩, h, k.step s'⟩, k.bk, k.ct, k.rt, k.xc⟩⟩
theorem p_pass {pos : Pos} : PS X (.Pass pos) (rdS T X.K (owf ow) W .pass) := ps_pass.imp fun D σ H h => by
  obtain ⟨B, O, H0, u, un, ub, uc, ut, ρ, κ, f, hq, k⟩ := h
  exact k.nx ρ hq O σ H (f.si.le f.b1) .refl
theorem p_brk {pos : Pos} : PS X (.Break pos) (rdS T X.K (owf ow) W .brk) := ps_break.imp fun D σ H h => by
  obtain ⟨B, O, H0, u, un, ub, uc, ut, ρ, κ, f, hq, k⟩ := h
  exact k.bk ρ hq O σ H (f.si.le f.b2) .refl
theorem p_cont {pos : Pos} : PS X (.Continue pos) (rdS T X.K (owf ow) W .cont) := ps_continue.imp fun D σ H h => by
  obtain ⟨B, O, H0, u, un, ub, uc, ut, ρ, κ, f, hq, k⟩ := h
  exact k.ct ρ hq O σ H (f.si.le f.b3) .refl
theorem p_retn {pos : Pos} : PS X (.Return none pos) (rdS T X.K (owf ow) W .retn) := ps_retN.imp fun D σ H h => by
  obtain ⟨B, O, H0, u, un, ub, uc, ut, ρ, κ, f, hq, k⟩ := h
  exact k.rt .non hq .non H (f.si.ex.le f.b4) rfl
theorem p_ret {e : E} {v : Expr} {pos : Pos} (ho : ownB e = false) (he : PE X v (rdE T X.K (owf ow) W e)) : PS X (.Return (some v) pos) (rdS T X.K (owf ow) W (.ret e)) := (ps_ret he).imp fun D σ H h => by
  obtain ⟨B, O, H0, u, un, ub, uc, ut, ρ, κ, f, hq, k⟩ := h
  exact ⟨B, O, ρ, κ.xc, _, k.fx f, hq, fun d hd v H' e r => k.rt d hd v H' ((f.si.ex.trans e).le f.b4) ((f.si.ext e).out (r.2.1 ho))⟩
theorem p_retO {i : Nat} {x : Str} {p pos : Pos} (hN : X.N[i]? = some x) (hv : Vis X.env.scope x) (hnm : okNm x = true) (ho : owf ow i = true) : PS X (.Return (some (.Name x p)) pos) (rdS T X.K (owf ow) W (.ret (.own i))) :=
  (ps_ret (pe_var hN hv (nm_of hnm).1 (nm_of hnm).2)).imp fun D σ H h => by
    obtain ⟨B, O, H0, u, un, ub, uc, ut, ρ, κ, f, ⟨d, hd, hq⟩, k⟩ := h
    obtain ⟨a, h1, h2, h3⟩ := f.si.fr.ow i d ho hd
    exact ⟨_, h1, k.rt d hq _ H (f.si.ex.le f.b4) (f.si.outO h2 h3)⟩
theorem p_expr {e : E} {v : Expr} {pos : Pos} (hs : swapsWith v none pos.line X.env = pure false) (he : PE X v (rdE T X.K (owf ow) W e)) : PS X (.Expr v pos) (rdS T X.K (owf ow) W (.expr e)) := (ps_expr he hs).imp fun D σ H h => by
  obtain ⟨B, O, H0, u, un, ub, uc, ut, ρ, κ, f, hq, k⟩ := h
  exact ⟨B, O, ρ, κ.xc, _, k.fx f, hq, fun d hd v H' e r => k.nx ρ hd O σ H' ((f.si.ext e).le f.b1) (.of e)⟩
theorem p_asg (G : GoodS T L W X) {e : E} {v : Expr} {i : Nat} {x : Str} {p pos : Pos} (hN : X.N = N) (hi : N[i]? = some x) (hx : Loc X.env.scope x) (hw : owf ow i = false) (ho : ownB e = false) (hk : isLck e = false) (h : mE T N ow .val X.env.scope e v = true) :
    PS X (.Assign [.Name x p] v pos) (rdS T X.K (owf ow) W (.asg i e)) := (p_set G hN hi hx hk h).imp fun D σ H h => by
  obtain ⟨B, O, H0, u, un, ub, uc, ut, ρ, κ, f, hq, k⟩ := h
  exact ⟨B, O, ρ, κ.xc, _, k.fx f, hq, fun d hd v H' e r => k.nx _ hd O _ H' (((f.si.ext e).set hw (r.2.1 ho)).le f.b1) (.of e)⟩
theorem p_own (G : GoodS T L W X) {e : E} {v : Expr} {i : Nat} {x : Str} {p pos : Pos} (hN : X.N = N) (hi : N[i]? = some x) (hx : Loc X.env.scope x) (hw : owf ow i = true) (hn : newB e = true) (hk : isLck e = false) (h : mE T N ow .val X.env.scope e v = true) :
    PS X (.Assign [.Name x p] v pos) (rdS T X.K (owf ow) W (.own i e)) := (p_set G hN hi hx hk h).imp fun D σ H h => by
  obtain ⟨B, O, H0, u, un, ub, uc, ut, ρ, κ, f, hq, k⟩ := h
  refine ⟨B, O, ρ, κ.xc, _, k.fx f, hq, fun d hd v H' e r => ?_⟩
  obtain ⟨q, rfl, hq', r'⟩ := r.2.2 hn
  obtain ⟨f', s⟩ := f.si.mine e hw hq' r'
  exact k.nx _ hd _ _ H' (f'.le f.b1) s
theorem p_move (G : GoodS T L W X) {i j : Nat} {x y : Str} {p q pos : Pos} (hi : X.N[i]? = some x) (hx : Loc X.env.scope x) (hj : X.N[j]? = some y) (hy : Vis X.env.scope y) (hnm : okNm y = true) (hw : owf ow i = false) (hw2 : owf ow j = true) :
    PS X (.Assign [.Name x p] (.Name y q) pos) (rdS T X.K (owf ow) W (.move i j)) :=
  (ps_set G.g.nd hi hx (pe_var hj hy (nm_of hnm).1 (nm_of hnm).2) rfl (.inl (G.fn x))).imp fun D σ H h => by
    obtain ⟨B, O, H0, u, un, ub, uc, ut, ρ, κ, f, ⟨d, hd, hq⟩, k⟩ := h
    obtain ⟨a, h1, h2, h3⟩ := f.si.fr.ow j d hw2 hd
    obtain ⟨f1, s1⟩ := f.si.lend hw2 hd h1 h2
    have na : ¬ U B (fun c => O c ∧ c ≠ a) a := fun z => z.elim (f.si.dj a h2) fun z => z.2 rfl
    have r : Rep X.K (U B (fun c => O c ∧ c ≠ a)) H d (.ref a) := own_rep na (OwnAt.keep keeps_refl (grows_less fun b z => by
      rcases z with (z | z) | z
      · exact .inl z
      · exact .inr z.1
      · exact .inr (by rw [z]; exact h2)) (fun o h _ => h) h3)
    exact ⟨_, h1, k.nx _ hq _ _ H ((f1.set hw r).le f.b1) s1⟩
theorem p_asgT (G : GoodS T L W X) {e : E} {v t : Expr} {tg : Pt} {pos : Pos} (hN : X.N = N) (ht : mPt N ow none X.env.scope tg t = true) (hs : swapsWithSole [t] v pos.line X.env = pure false) (hw : swappedStores [t] v X.env = pure none) (h1 : (assignEach [t] X.env).map (·.2) = [assign t X.env])
    (ho : ownB e = false) (he : PE X v (rdE T X.K (owf ow) W e)) : PS X (.Assign [t] v pos) (rdS T X.K (owf ow) W (.asgT tg e)) :=
  (ps_asg he (pg_pt G.g.calm hN G.g.nd rfl (show FnOf X none from G.fn) ht) hs hw h1).imp fun D σ H h => by
    obtain ⟨B, O, H0, u, un, ub, uc, ut, ρ, κ, f, hq, k⟩ := h
    refine ⟨B, O, ρ, κ.xc, _, k.fx f, hq, fun d hd v H' e r => ?_⟩
    have f' := (f.si.ext e).le f.b1
    exact gpt_of f'.fr (fun i hi => (mPt_own ht i hi).1) (r.2.1 ho) hd fun σ' ρ' hr fr _ => k.nx ρ' hr O σ' H' ⟨fr, f'.ex, f'.fresh, f'.oldB⟩ (.of e)
theorem p_if {c : E} {a b : List S} {z : Expr} {x y : List Stmt} {pos : Pos} (hc : PT X z (rdT T X.K (owf ow) W c)) (ha : PSs X x (rdSs T X.K (owf ow) W a)) (hb : PSs X y (rdSs T X.K (owf ow) W b)) : PS X (.If z x y pos) (rdS T X.K (owf ow) W (.iff c a b)) :=
  (ps_if hc ha hb).imp fun D σ H h => by
    obtain ⟨B, O, H0, u, un, ub, uc, ut, ρ, κ, f, hq, k⟩ := h
    have f0 : SX X.K (owf ow) B O H0 u un ub uc ut (dcE T c + (dcSs T a + dcSs T b)) H σ ρ := f
    refine ⟨B, O, ρ, κ.xc, _, k.fx f0.l, hq, fun d hd => ?_⟩
    obtain ⟨t, rfl, q⟩ := hd
    refine ⟨t, rfl, fun H' e => ?_⟩
    cases t with
    | true => exact ⟨B, O, H0, _, un, ub, uc, ut, ρ, κ, (f0.ex e).l, q, k.step (.of e)⟩
    | false => exact ⟨B, O, H0, _, un, ub, uc, ut, ρ, κ, (f0.ex e).le (Nat.le_add_left _ _), q, k.step (.of e)⟩
theorem p_while (G : GoodS T L W X) {c : E} {b : List S} {z : Expr} {x : List Stmt} {pos : Pos} (zc : dcE T c = 0) (zb : dcSs T b = 0) (hc : PT X z (rdT T X.K (owf ow) W c)) (hb : PSs X x (rdSs T X.K (owf ow) W b)) : PS X (.While z x [] pos) (rdS T X.K (owf ow) W (.while c b)) :=
  (ps_while G.po hc hb).imp fun D σ H h => by
    obtain ⟨B, O, H0, u, un, ub, uc, ut, ρ, κ, f, ⟨n, hq⟩, k⟩ := h
    refine ⟨fun m σ' H' => ∃ O' ρ', SI X.K (owf ow) B O' H0 u H' σ' ρ' ∧ Stp B O H O' H' ∧ whileL (fun ρ Q => wpE T κ.xc c ρ fun d => ∃ k, d = .bl k ∧ Q k) (fun ρ K => wpSs T b ρ K) κ m ρ', ⟨n, O, ρ, f.si, .refl, hq⟩, fun m σ1 H1 w => ?_⟩
    obtain ⟨O1, ρ1, f1, s1, w1⟩ := w
    cases m with
    | zero => exact w1.elim
    | succ m =>
      have k1 := k.step s1
      have fx : SX X.K (owf ow) B O1 H0 u un ub uc ut (dcE T c) H1 σ1 ρ1 := ⟨f1, by rw [zc]; exact f.b1, by rw [zc]; exact f.b2, by rw [zc]; exact f.b3, by rw [zc]; exact f.b4, f.rm⟩
      refine ⟨B, O1, ρ1, κ.xc, _, k1.fx fx, (show wpE T κ.xc c ρ1 fun d => ∃ k, d = .bl k ∧ _ from w1), fun d hd => ?_⟩
      obtain ⟨t, rfl, q⟩ := hd
      refine ⟨t, rfl, fun H' e => ?_⟩
      rw [zc] at e
      have f2 : SI X.K (owf ow) B O1 H0 u H' σ1 ρ1 := f1.ext e
      cases t with
      | false => exact k1.nx ρ1 q O1 σ1 H' (f2.le f.b1) (.of e)
      | true =>
        refine ⟨fun σ' H' => ∃ O' ρ', SI X.K (owf ow) B O' H0 u H' σ' ρ' ∧ Stp B O H O' H' ∧ whileL (fun ρ Q => wpE T κ.xc c ρ fun d => ∃ k, d = .bl k ∧ Q k) (fun ρ K => wpSs T b ρ K) κ m ρ', fun σ' H' z => ⟨m, Nat.lt_succ_self m, z⟩, B, O1, H0, u, u, un, u, ut, ρ1, _, ⟨f2, by rw [zb]; exact Nat.le_refl _, by rw [zb]; exact f.b1, by rw [zb]; exact Nat.le_refl _, by rw [zb]; exact f.b4, f.rm⟩, q, ?_⟩
        have s2 := s1.trans (Stp.of e)
        exact ⟨fun ρ' h O' σ' H' f' s' => ⟨O', ρ', f', s2.trans s', h⟩, fun ρ' h O' σ' H' f' s' => k.nx ρ' h O' σ' H' f' (s2.trans s'), fun ρ' h O' σ' H' f' s' => ⟨O', ρ', f', s2.trans s', h⟩, k.rt, k.xc⟩
theorem p_raise (G : GoodS T L W X) {c m : Str} {j : Nat} {p q pos pos' : Pos} (hx : T.exc c = true) (hg : Gl X c) (hd : c ≠ "__debug__") : PS X (.Raise (some (.Call (.Name c p) [.Constant (.str m) j q] [] pos)) none pos') (rdS T X.K (owf ow) W (.raise c)) := by
  have x := G.g.tab.exc c hx
  obtain ⟨Bn, newId, initId, bmB, F, hq⟩ := x.ex
  refine (L2N.ps_raise G.g.calm G.g.tk (L2N.pmk_own F hq x.gl x.kp (raises_own x.sub x.ty) hg (beq_eq_false_iff_ne.mpr hd))).imp fun D σ H h => ?_
  obtain ⟨B, O, H0, u, un, ub, uc, ut, ρ, κ, f, hq, k⟩ := h
  exact k.xc ⟨c, none⟩ hq _ _ σ H (f.si.ex.le f.b4) ⟨rfl, rfl⟩
/-! one's own lists and dicts -/
theorem own_lst {K : PySem.W.Frag} {B O : AP} {H H2 : Hp} {a : Addr} {l : List D} (h : OwnAt K (U B O) H a (.lst l)) {δ : Nat} (e : Ex δ H H2) : ∃ vs, H2 a = some (.lst vs) ∧ RepL K (U B O) H2 l vs := by
  obtain ⟨vs, h1, h2⟩ := h
  exact ⟨vs, e.at h1 rfl, h2.ex e⟩
theorem p_setL (G : GoodS T L W X) {i : Nat} {x : Str} {ix e : E} {y v : Expr} {p q pos : Pos} (hi : X.N[i]? = some x) (hv : Vis X.env.scope x) (hnm : okNm x = true) (hw : owf ow i = true) (ho : ownB e = false) (hsl : noSlice y = true)
    (hs : swapsWithSole [.Subscript (.Name x p) y q] v pos.line X.env = pure false) (hy : PE X y (rdE T X.K (owf ow) W ix)) (he : PE X v (rdE T X.K (owf ow) W e)) : PS X (.Assign [.Subscript (.Name x p) y q] v pos) (rdS T X.K (owf ow) W (.setL i ix e)) :=
  (ps_asg he (pg_sub (pe_var hi hv (nm_of hnm).1 (nm_of hnm).2) hy set_list (by cases y <;> first | exact fun _ => rfl | cases hsl)) hs rfl rfl).imp fun D σ H h => by
    obtain ⟨B, O, H0, u, un, ub, uc, ut, ρ, κ, f, ⟨l, hl, hq⟩, k⟩ := h
    obtain ⟨a, h1, h2, h3⟩ := f.si.fr.ow i _ hw hl
    refine ⟨B, O, ρ, κ.xc, _, k.fx f.l, hq, fun d hd v H1 e1 r1 => ⟨_, h1, B, O, ρ, κ.xc, _, (k.fx f).ex e1, hd, fun y hy u H2 e2 r2 => ?_⟩⟩
    obtain ⟨m, j, rfl, hj, hn⟩ := hy
    obtain ⟨vs, q1, q2⟩ := own_lst h3 (e1.trans e2)
    have kk : Keeps (U B O) H2 (upd H2 a (.lst (vs.set j v))) := keeps_upd (.inr h2) q1 rfl
    obtain ⟨f', s'⟩ := ((f.si.ext e1).ext e2).upd (d' := .lst (l.set j d)) hw hl h1 h2 q1 rfl (show isMt (.lst (vs.set j v)) = true from rfl) rfl ⟨_, upd_same, RepL.keep kk grows_refl _ _ (RepL.set j q2 ((r1.2.1 ho).ex e2))⟩
    exact ⟨a, vs, m, j, rfl, rb_int r2.1, q1, by rw [RepL.length q2]; exact hj, k.nx _ hn O σ _ (f'.le (by rw [Nat.add_assoc]; exact f.b1)) ((Stp.of (e1.trans e2)).trans s')⟩
theorem put_of {K : PySem.W.Frag} {B O : AP} {H H2 : Hp} {a : Addr} {x y d : D} {u v : V} {Q : DK} (hx : OwnAt K (U B O) H a x) {δ : Nat} (e : Ex δ H H2) (ha : O a) (ry : RepB K (U B O) H2 y u) (rd : Rep K (U B O) H2 d v) (h : putX x y d Q) :
    ∃ o o' x', H2 a = some o ∧ isMt o = true ∧ isMt o' = true ∧ isX o' = false ∧ DPut H2 a u v (upd H2 a o') ∧ OwnAt K (U B O) (upd H2 a o') a x' ∧ Q x' := by
  cases x with
  | dic l =>
    obtain ⟨k, hk, hl, q⟩ := h
    obtain ⟨vs, h1, h2⟩ := hx
    have q1 := e.at h1 rfl
    have q2 := RepK.keep (keeps_ex e) grows_refl _ _ h2
    have kk : Keeps (U B O) H2 (upd H2 a (.dK (putK vs k v))) := keeps_upd (.inr ha) q1 rfl
    refine ⟨_, .dK (putK vs k v), .dic (putD l k d), q1, rfl, rfl, rfl, .inl ⟨vs, k, q1, keyK_rep hk ry, by rw [repK_length q2]; exact hl, rfl⟩, ⟨_, upd_same, RepK.keep kk grows_refl _ _ (rep_putK q2 rd)⟩, q⟩
  | dit l =>
    obtain ⟨k, hk, hl, q⟩ := h
    obtain ⟨vs, h1, h2⟩ := hx
    have q1 := e.at h1 rfl
    have q2 := RepT.keep (keeps_ex e) grows_refl _ _ h2
    have kk : Keeps (U B O) H2 (upd H2 a (.dT (putK vs k v))) := keeps_upd (.inr ha) q1 rfl
    obtain ⟨b, eb, hb⟩ := keyT_rep hk ry
    refine ⟨_, .dT (putK vs k v), .dit (putD l k d), q1, rfl, rfl, rfl, .inr ⟨vs, k, b, q1, eb, hb, by rw [repT_length q2]; exact hl, rfl⟩, ⟨_, upd_same, RepT.keep kk grows_refl _ _ (rep_putT q2 rd)⟩, q⟩
  | _ => exact h.elim
theorem p_setD (G : GoodS T L W X) {i : Nat} {x : Str} {ky e : E} {y v : Expr} {p q pos : Pos} (hi : X.N[i]? = some x) (hv : Vis X.env.scope x) (hnm : okNm x = true) (hw : owf ow i = true) (ho : ownB e = false)
    (hs : swapsWith v (some (.Subscript (.Name x p) y q)) pos.line X.env = pure false) (hy : PE X y (rdE T X.K (owf ow) W ky)) (he : PE X v (rdE T X.K (owf ow) W e)) : PS X (.Assign [.Subscript (.Name x p) y q] v pos) (rdS T X.K (owf ow) W (.setD i ky e)) :=
  (ps_dput (units1 G.g) (pe_var hi hv (nm_of hnm).1 (nm_of hnm).2) hy he hs).imp fun D σ H h => by
    obtain ⟨B, O, H0, u, un, ub, uc, ut, ρ, κ, f, ⟨x, hl, hq⟩, k⟩ := h
    obtain ⟨a, h1, h2, h3⟩ := f.si.fr.ow i _ hw hl
    refine ⟨B, O, ρ, κ.xc, _, k.fx f.l, hq, fun d hd v H1 e1 r1 => ⟨_, h1, B, O, ρ, κ.xc, _, (k.fx f).ex e1, hd, fun y hy u H2 e2 r2 => ?_⟩⟩
    obtain ⟨o, o', x', q1, m1, m2, m3, dp, r', q⟩ := put_of h3 (e1.trans e2) h2 r2.1 ((r1.2.1 ho).ex e2) hy
    obtain ⟨f', s'⟩ := ((f.si.ext e1).ext e2).upd hw hl h1 h2 q1 m1 m2 m3 r'
    exact ⟨a, _, rfl, dp, k.nx _ q O σ _ (f'.le (by rw [Nat.add_assoc]; exact f.b1)) ((Stp.of (e1.trans e2)).trans s')⟩
theorem p_app (G : GoodS T L W X) {i : Nat} {x : Str} {e : E} {v : Expr} {p ap cp pos : Pos} (hi : X.N[i]? = some x) (hv : Vis X.env.scope x) (hnm : okNm x = true) (hw : owf ow i = true) (ho : ownB e = false) (hln : (ap.endLine == cp.line) = true) (hs : noStar v = true)
    (he : PE X v (rdE T X.K (owf ow) W e)) : PS X (.Expr (.Call (.Attribute (.Name x p) "append" ap) [v] [] cp) pos) (rdS T X.K (owf ow) W (.app i e)) :=
  (ps_expr (pe_bm PySem.F.plainAttrs_list PySem.F.slot_list_append PySem.F.type_list_append mt_append (pe_var hi hv (nm_of hnm).1 (nm_of hnm).2) (a_one' hs he) rfl (by rw [star_of hs]; rfl) hln (star_of hs) rfl)).imp fun D σ H h => by
    obtain ⟨B, O, H0, u, un, ub, uc, ut, ρ, κ, f, ⟨l, hl, hq⟩, k⟩ := h
    obtain ⟨a, h1, h2, h3⟩ := f.si.fr.ow i _ hw hl
    obtain ⟨us, z1, _⟩ := id h3
    refine ⟨_, h1, ty_lst z1, B, O, ρ, κ.xc, _, k.fx f, hq, fun d hd v H1 e1 r1 => ?_⟩
    obtain ⟨hz, q⟩ := hd
    obtain ⟨vs, q1, q2⟩ := own_lst h3 e1
    have kk : Keeps (U B O) H1 (upd H1 a (.lst (vs ++ [v]))) := keeps_upd (.inr h2) q1 rfl
    obtain ⟨f', s'⟩ := (f.si.ext e1).upd (d' := .lst (l ++ [d])) hw hl h1 h2 q1 rfl (show isMt (.lst (vs ++ [v])) = true from rfl) rfl ⟨_, upd_same, RepL.keep kk grows_refl _ _ (RepL.append q2 (repL_one (r1.2.1 ho)))⟩
    exact ⟨a, vs, v, rfl, rfl, q1, by rw [RepL.length q2]; exact hz, k.nx _ q O σ _ (f'.le f.b1) ((Stp.of e1).trans s')⟩
theorem p_ext (G : GoodS T L W X) {i : Nat} {x : Str} {e : E} {v : Expr} {p ap cp pos : Pos} (hi : X.N[i]? = some x) (hv : Vis X.env.scope x) (hnm : okNm x = true) (hw : owf ow i = true) (hln : (ap.endLine == cp.line) = true) (hs : noStar v = true)
    (he : PE X v (rdE T X.K (owf ow) W e)) : PS X (.Expr (.Call (.Attribute (.Name x p) "extend" ap) [v] [] cp) pos) (rdS T X.K (owf ow) W (.ext i e)) :=
  (ps_expr (pe_bm PySem.F.plainAttrs_list PySem.F.slot_list_extend PySem.F.type_list_extend mt_extend (pe_var hi hv (nm_of hnm).1 (nm_of hnm).2) (a_one' hs he) rfl (by rw [star_of hs]; rfl) hln (star_of hs) rfl)).imp fun D σ H h => by
    obtain ⟨B, O, H0, u, un, ub, uc, ut, ρ, κ, f, ⟨l, hl, hq⟩, k⟩ := h
    obtain ⟨a, h1, h2, h3⟩ := f.si.fr.ow i _ hw hl
    obtain ⟨us, z1, _⟩ := id h3
    refine ⟨_, h1, ty_lst z1, B, O, ρ, κ.xc, _, k.fx f, hq, fun d hd v H1 e1 r1 => ?_⟩
    obtain ⟨m, rfl, hz, q⟩ := hd
    obtain ⟨b, ws, rfl, w1, w2⟩ := rb_lst r1.1
    obtain ⟨vs, q1, q2⟩ := own_lst h3 e1
    have kk : Keeps (U B O) H1 (upd H1 a (.lst (vs ++ ws))) := keeps_upd (.inr h2) q1 rfl
    obtain ⟨f', s'⟩ := (f.si.ext e1).upd (d' := .lst (l ++ m)) hw hl h1 h2 q1 rfl (show isMt (.lst (vs ++ ws)) = true from rfl) rfl ⟨_, upd_same, RepL.keep kk grows_refl _ _ (RepL.append q2 w2)⟩
    exact ⟨a, b, vs, ws, rfl, rfl, q1, w1, by rw [RepL.length q2, RepL.length w2]; exact hz, k.nx _ q O σ _ (f'.le f.b1) ((Stp.of e1).trans s')⟩
end
end DL

/-! D9: for; the checker of statements; defs -/
namespace DL
open PySem PySem.Spec PyProof.Rows L2 Evl

section
variable {T : Tb} {L : Nat} {W : WX} {X : Cx} {ow : List Nat} {N : List Str}
abbrev forStep (T : Tb) (tg : Pt) (b : List S) : D → DE → KD → Prop := fun d ρ κ => setPt tg d ρ fun ρ' => wpSs T b ρ' κ
theorem for_turns {B O O1 : AP} {H0 H H1 : Hp} {σ : L2.St} {ρ1 : DE} {κ : KD} {D : Ends} {J : It} {C : AP → Hp → Prop} {l : List DL.D} {tg : Pt} {b : List S} {u un ub uc ut δ : Nat} (hδ : dcSs T b = δ) (f : SX X.K (owf ow) B O1 H0 u un ub uc ut (wkL * δ) H1 σ ρ1) (hlp : δ = 0 ∨ l.length ≤ wkL)
    (s : Stp B O H O1 H1) (k : KOk X.K (owf ow) W B O H0 un ub uc ut H κ D)
    (wk : WkJ X.K J C l) (hC : ∀ O' H', Stp B O1 H1 O' H' → C (U B O') H') (ht : ∀ i ∈ ptIx tg, owf ow i = false) (hw : forL (forStep T tg b) κ l ρ1) :
    ∃ W' : Nat → Nat → L2.St → Hp → Prop, (∃ m, W' 0 m σ H1) ∧ ∀ i m σ H, W' i m σ H →
      (J.stop i H ∧ D.nx σ H) ∨ (J.go i H ∧ ∃ N : L2.St → Hp → Prop, (∀ σ' H', N σ' H' → ∃ m', m' < m ∧ W' (i + 1) m' σ' H') ∧ ∀ x H', J.yld i H x H' → gPt X.K tg x σ H' fun σ2 H2 => rdSs T X.K (owf ow) W b { D with nx := N, ct := N, bk := D.nx } σ2 H2) := by
  have w : Walk J l.length (fun H => ∃ A, C A H) (fun i H x H' => Ex 0 H H' ∧ ∀ A, C A H → ∃ d, l[i]? = some d ∧ Rep X.K A H' d x) :=
    ⟨fun i H hi ⟨A, h⟩ => (wk A H h).1 i hi, fun H ⟨A, h⟩ => (wk A H h).2.1, fun i H x H' hi ⟨A, h⟩ y => ⟨((wk A H h).2.2 i x H' hi y).1, fun A h => ((wk A H h).2.2 i x H' hi y).2⟩⟩
  have C' : ∀ {O' : AP} {H' : Hp}, Stp B O1 H1 O' H' → C (U B O') H' := fun s => hC _ _ s
  refine for_it w (fun i σ' H' => ∃ O' ρ', SI X.K (owf ow) B O' H0 (u + i * δ) H' σ' ρ' ∧ Stp B O1 H1 O' H' ∧ forL (forStep T tg b) κ (l.drop i) ρ') ⟨O1, ρ1, by rw [Nat.zero_mul]; exact f.si, .refl, hw⟩ (fun i σ' H' _ h => ?_) (fun i x σ' H' H'' hi h y => ?_) (fun σ' H' h => ?_)
  · obtain ⟨O', ρ', _, s', _⟩ := h
    exact ⟨_, C' s'⟩
  · obtain ⟨O', ρ', f', s', hl⟩ := h
    obtain ⟨e, y⟩ := y
    obtain ⟨d, hd, r⟩ := y _ (C' s')
    rw [drop_at hd] at hl
    have f2 : SI X.K (owf ow) B O' H0 (u + i * δ) H'' σ' ρ' := f'.ext e
    have step : (i + 1) * δ = i * δ + δ := Nat.succ_mul i δ
    have hle := lp_le hlp (show i + 1 ≤ l.length from hi)
    have b1 := f.b1
    have b4 := f.b4
    have hl' : setPt tg d ρ' fun ρ'' => wpSs T b ρ'' { nx := forL (forStep T tg b) κ (l.drop (i + 1)), rt := κ.rt, bk := κ.nx, ct := forL (forStep T tg b) κ (l.drop (i + 1)), xc := κ.xc } := hl
    refine gpt_of f2.fr ht r hl' fun σ2 ρ2 hr fr _ => ⟨B, O', H0, u + i * δ, u + (i + 1) * δ, un, u + (i + 1) * δ, ut, ρ2, _, ⟨⟨fr, f2.ex, f2.fresh, f2.oldB⟩, by rw [hδ]; omega, by rw [hδ]; omega, by rw [hδ]; omega, by rw [hδ]; omega, f.rm⟩, hr, ?_⟩
    have s2 := s'.trans (Stp.of e)
    have s3 := s.trans s2
    exact ⟨fun ρ3 h O3 σ3 H3 f3 t => ⟨O3, ρ3, f3, s2.trans t, h⟩, fun ρ3 h O3 σ3 H3 f3 t => k.nx ρ3 h O3 σ3 H3 f3 (s3.trans t), fun ρ3 h O3 σ3 H3 f3 t => ⟨O3, ρ3, f3, s2.trans t, h⟩, k.rt, k.xc⟩
  · obtain ⟨O', ρ', f', s', hl⟩ := h
    rw [List.drop_length] at hl
    have hle := lp_le hlp (Nat.le_refl _)
    have b1 := f.b1
    exact k.nx ρ' hl O' σ' H' (f'.le (by omega)) (s.trans s')
theorem p_for (G : GoodS T L W X) {tg : Pt} {it : E} {b : List S} {t i : Expr} {xs : List Stmt} {pos : Pos} (hN : X.N = N) (hs : noSet i = true) (ho : ownS it = false) (ht : mPt N ow none X.env.scope tg t = true) (hi : PI X t i (rdI T X.K (owf ow) W it)) (hb : PSs X xs (rdSs T X.K (owf ow) W b)) :
    PS X (.For t i xs [] pos) (rdS T X.K (owf ow) W (.for tg it b)) :=
  (ps_for G.po G.g.calm hi (pg_pt G.g.calm hN G.g.nd rfl (show FnOf X none from G.fn) ht) hb (fold_of hs)).imp fun D σ H h => by
    obtain ⟨B, O, H0, u, un, ub, uc, ut, ρ, κ, f, hq, k⟩ := h
    have f0 : SX X.K (owf ow) B O H0 u un ub uc ut (dcE T it + wkL * dcSs T b) H σ ρ := f
    refine ⟨B, O, ρ, κ.xc, _, k.fx f0.l, (show wpE T κ.xc it ρ _ from hq), fun w hw => ?_⟩
    obtain ⟨l, hl, hlp, hw⟩ := hw
    refine ⟨l, hl, fun J C H1 e1 wk cst hC _ => ?_⟩
    rw [ho] at cst
    have hld : lend it ρ = ρ := by
      cases it with
      | own i => cases ho
      | _ => rfl
    rw [hld] at hw
    exact for_turns rfl (f0.ex e1) hlp (.of e1) k wk (fun O' H' s => cst.kp rfl _ _ _ _ hC s.keeps s.gr) (fun i hi => (mPt_own ht i hi).1) hw
theorem p_forO (G : GoodS T L W X) {tg : Pt} {j : Nat} {x : Str} {b : List S} {t : Expr} {xs : List Stmt} {p pos : Pos} (hN : X.N = N) (hj : X.N[j]? = some x) (hv : Vis X.env.scope x) (hnm : okNm x = true) (hw : owf ow j = true) (ht : mPt N ow none X.env.scope tg t = true) (hb : PSs X xs (rdSs T X.K (owf ow) W b)) :
    PS X (.For t (.Name x p) xs [] pos) (rdS T X.K (owf ow) W (.for tg (.own j) b)) :=
  (ps_for G.po G.g.calm (c_iown (T := T) (W := W) hj hv hnm hw) (pg_pt G.g.calm hN G.g.nd rfl (show FnOf X none from G.fn) ht) hb (fun _ => rfl)).imp fun D σ H h => by
    obtain ⟨B, O, H0, u, un, ub, uc, ut, ρ, κ, f, hq, k⟩ := h
    have f0 : SX X.K (owf ow) B O H0 u un ub uc ut (0 + wkL * dcSs T b) H σ ρ := f
    obtain ⟨d0, hd0, l0, hl0, hlp, hw0⟩ := (show ∃ d, ρ[j]? = some (some d) ∧ ∃ l, walkD d = some l ∧ (dcSs T b = 0 ∨ l.length ≤ wkL) ∧ forL (forStep T tg b) κ l (lend (.own j) ρ) from hq)
    refine ⟨B, O, ρ, κ.xc, fun d => d = d0, k.fx f0.l, ⟨d0, hd0, rfl⟩, fun w hw' => ?_⟩
    subst hw'
    refine ⟨l0, hl0, fun J C H1 e1 wk cst hC hown => ?_⟩
    obtain ⟨a, h1, h2, h3⟩ := hown j rfl
    have f1 := f0.ex e1
    obtain ⟨f', s'⟩ := f1.si.lend hw hd0 h1 h2
    have na : ¬ U B (fun c => O c ∧ c ≠ a) a := fun z => z.elim (f.si.dj a h2) fun z => z.2 rfl
    obtain ⟨a', q1, q2, q3⟩ := f1.si.fr.ow j _ hw hd0
    rw [h1] at q1
    cases q1
    have q4 : OwnAt X.K (U B (fun c => O c ∧ c ≠ a)) H1 a w := OwnAt.keep keeps_refl (grows_less fun b z => z.imp id fun z => z.1) (fun o h _ => h) q3
    exact for_turns rfl ⟨f', f1.b1, f1.b2, f1.b3, f1.b4, f1.rm⟩ hlp ((Stp.of e1).trans s') k wk (fun O' H' s => h3 _ _ (OwnAt.keep s.keeps s.gr (fun o h hx => (s.kp a o h fun z => absurd z na).resolve_right fun z => z.not hx) q4)) (fun i hi => (mPt_own ht i hi).1) hw0
end
/-! ### the checker -/
def notTup : Expr → Bool
  | .Tuple _ _ _ => false
  | .List _ _ => false
  | _ => true
def isTup : Expr → Bool
  | .Tuple _ _ _ => true
  | _ => false
def notComp : Expr → Bool
  | .ListComp _ _ _ _ => false
  | .SetComp _ _ _ _ => false
  | .DictComp _ _ _ _ _ => false
  | _ => true
/-- try: .., except .. as n: return f(m) -/
def tryP : Stmt → Option (List Stmt × Str × Str × Str × Str)
  | .Try xs [.ExceptHandler (some (.Name y _)) (some n) [.Return (some (.Call (.Name f _) [.Name m _] [] _)) _] _] [] [] _ => some (xs, y, n, f, m)
  | _ => none
theorem tryP_eq {x : Stmt} {xs : List Stmt} {y n f m : Str} (h : tryP x = some (xs, y, n, f, m)) : ∃ p1 p2 p3 p4 p5 p6 p7, x = .Try xs [.ExceptHandler (some (.Name y p1)) (some n) [.Return (some (.Call (.Name f p2) [.Name m p3] [] p4)) p5] p6] [] [] p7 := by
  unfold tryP at h
  split at h
  · cases h
    exact ⟨_, _, _, _, _, _, _, rfl⟩
  · cases h
def lclB (sc : Scope) (n : Str) : Bool := match sc.names.lookup n with
  | some .local => true
  | _ => false
theorem lcl_of {sc : Scope} {n : Str} (h : lclB sc n = true) : sc.names.lookup n = some .local := by
  unfold lclB at h
  split at h
  · assumption
  · cases h
section
variable (T : Tb) (N : List Str) (ow : List Nat)
mutual
def mS : Scope → S → Stmt → Bool
  | sc, .asg i e, .Assign [.Name x _] v _ => decide (N[i]? = some x) && (locB sc x && (!ow.contains i && (!ownB e && (!isLck e && mE T N ow .val sc e v))))
  | sc, .own i e, .Assign [.Name x _] v _ => decide (N[i]? = some x) && (locB sc x && (ow.contains i && (newB e && (!isLck e && mE T N ow .val sc e v))))
  | sc, .move i j, .Assign [.Name x _] (.Name y _) _ => decide (N[i]? = some x) && (locB sc x && (decide (N[j]? = some y) && (visB sc y && (okNm y && (!ow.contains i && ow.contains j)))))
  | sc, .asgT tg e, .Assign [t] v _ => isTup t && (notTup v && (!ownB e && (mPt N ow none sc tg t && mE T N ow .val sc e v)))
  | sc, .setL i ix e, .Assign [.Subscript (.Name x _) y _] v _ => decide (N[i]? = some x) && (visB sc x && (okNm x && (ow.contains i && (!ownB e && (noSlice y && (notComp v && (mE T N ow .val sc ix y && mE T N ow .val sc e v)))))))
  | sc, .setD i k e, .Assign [.Subscript (.Name x _) y _] v _ => decide (N[i]? = some x) && (visB sc x && (okNm x && (ow.contains i && (!ownB e && (notComp v && (mE T N ow .val sc k y && mE T N ow .val sc e v))))))
  | sc, .app i e, .Expr (.Call (.Attribute (.Name x _) m ap) [v] [] cp) _ => decide (m = "append") && (decide (N[i]? = some x) && (visB sc x && (okNm x && (ow.contains i && (!ownB e && ((ap.endLine == cp.line) && (noStar v && mE T N ow .val sc e v)))))))
  | sc, .ext i e, .Expr (.Call (.Attribute (.Name x _) m ap) [v] [] cp) _ => decide (m = "extend") && (decide (N[i]? = some x) && (visB sc x && (okNm x && (ow.contains i && ((ap.endLine == cp.line) && (noStar v && mE T N ow .val sc e v))))))
  | sc, .iff c a b, .If z x y _ => mE T N ow .tst sc c z && (mSs sc a x && mSs sc b y)
  | sc, .for tg it b, .For t i xs [] _ => noSet i && (tupT it t && (mE T N ow .itr sc it i && (mPt N ow none sc tg t && mSs sc b xs)))
  | sc, .while c b, .While z xs [] _ => decide (dcE T c = 0) && (decide (dcSs T b = 0) && (mE T N ow .tst sc c z && mSs sc b xs))
  | sc, .ret e, .Return (some v) _ => mE T N ow .val sc e v
  | _, .retn, .Return none _ => true
  | sc, .raise c, .Raise (some (.Call (.Name x _) [.Constant (.str _) _ _] [] _)) none _ => decide (c = x) && (T.exc c && glB sc c)
  | sc, .expr e, .Expr v _ => notComp v && mE T N ow .val sc e v
  | _, .brk, .Break _ => true
  | _, .cont, .Continue _ => true
  | _, .pass, .Pass _ => true
  | sc, .try b i, x => (match tryP x with
    | some (xs, y, n, f, m) => T.err && (decide (y = "SayError") && (glB sc y && (decide (f = "_law_error") && (glB sc f && (decide (m = n) && (decide (N[i]? = some n) && (lclB sc n && (okNm n && mSs sc b xs))))))))
    | none => false)
  | _, _, _ => false
def mSs : Scope → List S → List Stmt → Bool
  | _, [], [] => true
  | sc, s :: ss, x :: xs => mS sc s x && mSs sc ss xs
  | _, _, _ => false
end
end
section
variable {T : Tb} {L : Nat} {N : List Str} {ow : List Nat}
def SoundS (T : Tb) (L : Nat) (N : List Str) (ow : List Nat) (s : S) : Prop := ∀ sc x, mS T N ow sc s x = true → ∀ W X, GoodS T L W X → X.N = N → X.env.scope = sc → PS X x (rdS T X.K (owf ow) W s)
def SoundSs (T : Tb) (L : Nat) (N : List Str) (ow : List Nat) (s : List S) : Prop := ∀ sc x, mSs T N ow sc s x = true → ∀ W X, GoodS T L W X → X.N = N → X.env.scope = sc → PSs X x (rdSs T X.K (owf ow) W s)
theorem t_asg {i : Nat} {e : E} : SoundS T L N ow (.asg i e) := fun sc x h W X G hN hS => by
  cases x with
  | Assign ts v p =>
    match ts, h with
    | [], h => exact absurd h Bool.false_ne_true
    | t :: _ :: _, h => cases t <;> exact absurd h Bool.false_ne_true
    | [t], h =>
      cases t with
      | Name x q =>
        obtain ⟨h1, k2⟩ := and2 (show (decide (N[i]? = some x) && (locB sc x && (!ow.contains i && (!ownB e && (!isLck e && mE T N ow .val sc e v))))) = true from h)
        obtain ⟨h2, k3⟩ := and2 k2
        obtain ⟨h3, k4⟩ := and2 k3
        obtain ⟨h4, k5⟩ := and2 k4
        obtain ⟨h6, h5⟩ := and2 k5
        subst hS
        exact p_asg G hN (of_decide_eq_true h1) (loc_of h2) (not1 h3) (not1 h4) (not1 h6) h5
      | _ => exact absurd h Bool.false_ne_true
  | _ => exact absurd h Bool.false_ne_true
theorem t_own {i : Nat} {e : E} : SoundS T L N ow (.own i e) := fun sc x h W X G hN hS => by
  cases x with
  | Assign ts v p =>
    match ts, h with
    | [], h => exact absurd h Bool.false_ne_true
    | t :: _ :: _, h => cases t <;> exact absurd h Bool.false_ne_true
    | [t], h =>
      cases t with
      | Name x q =>
        obtain ⟨h1, k2⟩ := and2 (show (decide (N[i]? = some x) && (locB sc x && (ow.contains i && (newB e && (!isLck e && mE T N ow .val sc e v))))) = true from h)
        obtain ⟨h2, k3⟩ := and2 k2
        obtain ⟨h3, k4⟩ := and2 k3
        obtain ⟨h4, k5⟩ := and2 k4
        obtain ⟨h6, h5⟩ := and2 k5
        subst hS
        exact p_own G hN (of_decide_eq_true h1) (loc_of h2) h3 h4 (not1 h6) h5
      | _ => exact absurd h Bool.false_ne_true
  | _ => exact absurd h Bool.false_ne_true
theorem t_move {i j : Nat} : SoundS T L N ow (.move i j) := fun sc x h W X G hN hS => by
  cases x with
  | Assign ts v p =>
    match ts, h with
    | [], h => exact absurd h Bool.false_ne_true
    | t :: _ :: _, h => cases t <;> exact absurd h Bool.false_ne_true
    | [t], h =>
      cases t with
      | Name x q =>
        cases v with
        | Name y r =>
          obtain ⟨h1, k2⟩ := and2 (show (decide (N[i]? = some x) && (locB sc x && (decide (N[j]? = some y) && (visB sc y && (okNm y && (!ow.contains i && ow.contains j)))))) = true from h)
          obtain ⟨h2, k3⟩ := and2 k2
          obtain ⟨h3, k4⟩ := and2 k3
          obtain ⟨h4, k5⟩ := and2 k4
          obtain ⟨h5, k6⟩ := and2 k5
          obtain ⟨h6, h7⟩ := and2 k6
          subst hS
          subst hN
          exact p_move G (of_decide_eq_true h1) (loc_of h2) (of_decide_eq_true h3) (vis_of h4) h5 (not1 h6) h7
        | _ => exact absurd h Bool.false_ne_true
      | _ => exact absurd h Bool.false_ne_true
  | _ => exact absurd h Bool.false_ne_true
theorem t_asgT {tg : Pt} {e : E} : SoundS T L N ow (.asgT tg e) := fun sc x h W X G hN hS => by
  cases x with
  | Assign ts v p =>
    match ts, h with
    | [], h => exact absurd h Bool.false_ne_true
    | _ :: _ :: _, h => exact absurd h Bool.false_ne_true
    | [t], h =>
      obtain ⟨h1, k2⟩ := and2 (show (isTup t && (notTup v && (!ownB e && (mPt N ow none sc tg t && mE T N ow .val sc e v)))) = true from h)
      obtain ⟨h2, k3⟩ := and2 k2
      obtain ⟨h3, k4⟩ := and2 k3
      obtain ⟨h4, h5⟩ := and2 k4
      subst hS
      cases t with
      | Tuple es kk q =>
        exact p_asgT G hN h4 (by cases v <;> rfl) (by cases v <;> first | rfl | exact absurd h2 Bool.false_ne_true) rfl (not1 h3) (sndE e .val _ v h5 W X G.g hN rfl)
      | _ => exact absurd h1 Bool.false_ne_true
  | _ => exact absurd h Bool.false_ne_true
theorem t_setL {i : Nat} {ix e : E} : SoundS T L N ow (.setL i ix e) := fun sc x h W X G hN hS => by
  cases x with
  | Assign ts v p =>
    match ts, h with
    | [], h => exact absurd h Bool.false_ne_true
    | t :: _ :: _, h =>
      cases t with
      | Subscript o y q => cases o <;> exact absurd h Bool.false_ne_true
      | _ => exact absurd h Bool.false_ne_true
    | [t], h =>
      cases t with
      | Subscript o y q =>
        cases o with
        | Name x r =>
          obtain ⟨h1, k2⟩ := and2 (show (decide (N[i]? = some x) && (visB sc x && (okNm x && (ow.contains i && (!ownB e && (noSlice y && (notComp v && (mE T N ow .val sc ix y && mE T N ow .val sc e v)))))))) = true from h)
          obtain ⟨h2, k3⟩ := and2 k2
          obtain ⟨h3, k4⟩ := and2 k3
          obtain ⟨h4, k5⟩ := and2 k4
          obtain ⟨h5, k6⟩ := and2 k5
          obtain ⟨h6, k7⟩ := and2 k6
          obtain ⟨h7, k8⟩ := and2 k7
          obtain ⟨h8, h9⟩ := and2 k8
          subst hS
          subst hN
          exact p_setL G (of_decide_eq_true h1) (vis_of h2) h3 h4 (not1 h5) h6 (by cases v <;> first | rfl | exact absurd h7 Bool.false_ne_true) (sndE ix .val _ y h8 W X G.g rfl rfl) (sndE e .val _ v h9 W X G.g rfl rfl)
        | _ => exact absurd h Bool.false_ne_true
      | _ => exact absurd h Bool.false_ne_true
  | _ => exact absurd h Bool.false_ne_true
theorem t_setD {i : Nat} {ky e : E} : SoundS T L N ow (.setD i ky e) := fun sc x h W X G hN hS => by
  cases x with
  | Assign ts v p =>
    match ts, h with
    | [], h => exact absurd h Bool.false_ne_true
    | t :: _ :: _, h =>
      cases t with
      | Subscript o y q => cases o <;> exact absurd h Bool.false_ne_true
      | _ => exact absurd h Bool.false_ne_true
    | [t], h =>
      cases t with
      | Subscript o y q =>
        cases o with
        | Name x r =>
          obtain ⟨h1, k2⟩ := and2 (show (decide (N[i]? = some x) && (visB sc x && (okNm x && (ow.contains i && (!ownB e && (notComp v && (mE T N ow .val sc ky y && mE T N ow .val sc e v))))))) = true from h)
          obtain ⟨h2, k3⟩ := and2 k2
          obtain ⟨h3, k4⟩ := and2 k3
          obtain ⟨h4, k5⟩ := and2 k4
          obtain ⟨h5, k6⟩ := and2 k5
          obtain ⟨h7, k8⟩ := and2 k6
          obtain ⟨h8, h9⟩ := and2 k8
          subst hS
          subst hN
          exact p_setD G (of_decide_eq_true h1) (vis_of h2) h3 h4 (not1 h5) (by cases v <;> first | rfl | exact absurd h7 Bool.false_ne_true) (sndE ky .val _ y h8 W X G.g rfl rfl) (sndE e .val _ v h9 W X G.g rfl rfl)
        | _ => exact absurd h Bool.false_ne_true
      | _ => exact absurd h Bool.false_ne_true
  | _ => exact absurd h Bool.false_ne_true
end
end DL

/-! F2: try: .., except SayError as e: return _law_error(e) -/
namespace DL
open PySem PySem.Spec PyProof.Rows L2 Evl

section
variable {T : Tb} {L : Nat} {W : WX} {X : Cx} {ow : List Nat} {N : List Str}
/-- what the suite is told -/
def tErr (K : PySem.W.Frag) (i : Nat) (a : Addr) (cls : Value) (d : Option Addr) : TS := fun D σ H => ∃ (c t : Str) (σ0 : L2.St), errT c = some t ∧ cls = .ref (He.ga K c) ∧ d = none ∧ σ = σ0.set i (some (.ref a)) ∧ ∀ H', Ex 0 H H' → D.rt (.str t) H'
theorem pss_err (G : GoodS T L W X) (he : T.err = true) {i : Nat} {n : Str} {p2 p3 p4 p5 : Pos} (hN : X.N[i]? = some n) (hv : Vis X.env.scope n) (hn : okNm n = true) (hg : Gl X "_law_error") (a : Addr) (ob : Obj) (cls : Value) (d : Option Addr) (pn : List (Addr × Obj)) (hz : L2N.Zn cls d ob) (hd : ∃ vs, ob.data = .fields vs) :
    PSs (X.suite a ((a, ob) :: pn)) [.Return (some (.Call (.Name "_law_error" p2) [.Name n p3] [] p4)) p5] (tErr X.K i a cls d) := by
  refine pss_one ⟨fun pins s σ H D I h => ?_⟩
  obtain ⟨c, t, σ0, et, rfl, rfl, rfl, q⟩ := h
  obtain ⟨vs, hd⟩ := hd
  obtain ⟨hL, ⟨fa, fd, mf, kp, hb, run⟩, _⟩ := G.g.tab.err he
  have hl : i < σ0.length := by
    have e1 : (σ0.set i (some (.ref a))).length = X.N.length := I.len
    rw [List.length_set] at e1
    have e2 := (List.getElem?_eq_some_iff.mp hN).1
    omega
  refine wpAny_Return_some (wpAny_mono (Q := EP (X.suite a ((a, ob) :: pn)) pins (σ0.set i (some (.ref a))) D.rt) (wpAny_Call_Name_kw (ld_glob (X := X.suite a ((a, ob) :: pn)) I hg mf ?_)) (fun v s1 ⟨x, H1, I1, r1, q1⟩ => ⟨x, _, H1, I1, r1, q1⟩) (fun _ _ z => z))
  have ha : PA (X.suite a ((a, ob) :: pn)) [.Name n p3] (tCons (tVar i) tNil) := pa_cons (pe_var hN hv (nm_of hn).1 (nm_of hn).2) pa_nil
  refine PySem.W.callWith_K (h₀ := X.base) I.ok.mod.kin kp (thn (ha.run p4 pins s _ H (fun vs H1 => vs = [.ref a] ∧ H1 = H) I ⟨_, List.getElem?_set_self hl, rfl, rfl⟩) fun us s1 ⟨vs1, H1, I1, r, e1, e2⟩ => ⟨I1.kIn, ?_⟩) rfl rfl
  subst e1 e2
  obtain ⟨u, rfl, ru⟩ := Vals.one r
  cases ru
  have P := I1.pin (a, ob) (List.mem_append_left _ List.mem_cons_self)
  have b := hb s1 [.ref a] I1.kIn rfl
  have rm : L2H.RoomH 1 X.A := (L2H.roomH_of G.g.room).mono hL
  refine wpAny_call (codeAny_mono (run (X.A.mark (some (.ref a))) X.stack s1 H1 ⟨[.ref a], []⟩ (a, ob) c t D.rt ⟨rm.dp, rm.un⟩ ⟨rfl, vs, hd, hz.2.2 vs hd⟩ ⟨P.1, P.2.1, fun hm => (List.mem_cons.mp (I1.stkSub a hm)).elim P.2.2.1 P.2.2.2.1, P.2.2.2.2⟩ I1.env0 b et hz.zc q) fun r s' hq => ?_)
  match r, hq with
  | .error e, hq =>
    obtain ⟨_, _, _, _, _, _, _, _, _, _, _, _, z⟩ := hq
    exact z.elim
  | .ok (.ret u), hq => exact I1.after hq
theorem p_try (G : GoodS T L W X) (he : T.err = true) {b : List S} {i : Nat} {n : Str} {xs : List Stmt} {p1 p2 p3 p4 p5 p6 p7 : Pos} (hN : X.N[i]? = some n) (hl : X.env.scope.names.lookup n = some .local) (hn : okNm n = true) (hg : Gl X "_law_error") (hgs : Gl X "SayError")
    (hb : ∀ (W : WX) (pn : List (Addr × Obj)) (xe : Value → Shared → Prop), GoodS T L W (X.tr pn xe) → PSs (X.tr pn xe) xs (rdSs T X.K (owf ow) W b)) :
    PS X (.Try xs [.ExceptHandler (some (.Name "SayError" p1)) (some n) [.Return (some (.Call (.Name "_law_error" p2) [.Name n p3] [] p4)) p5] p6] [] [] p7) (rdS T X.K (owf ow) W (.try b i)) := by
  obtain ⟨_, _, ms, hc⟩ := G.g.tab.err he
  refine (L2N.ps_try_as (Wout := W) (ts := tErr X.K i) (tb := fun W => rdSs T X.K (owf ow) W b) G.stk G.frm G.g.nd hN hl ⟨hgs, rfl, .inl ms⟩ G.g.tk (fun W' pn xe tk po => hb W' pn xe ⟨⟨G.g.nd, G.g.calm, G.g.room, G.g.guards, tk, G.g.tab⟩, po, G.fn, G.kind, G.stk, G.frm⟩) (fun a ob cls d pn hz hd => pss_err G he hN (.inl hl) hn hg a ob cls d pn hz hd)).imp fun D σ H h => ?_
  obtain ⟨B, O, H0, u, un, ub, uc, ut, ρ, κ, f, hq, k⟩ := h
  refine ⟨B, O, H0, u, un, ub, uc, ut, ρ, _, (show SX X.K (owf ow) B O H0 u un ub uc ut (dcSs T b) H σ ρ from f), (show wpSs T b ρ { κ with xc := fun x => x.line = none ∧ ∃ t, errT x.cls = some t ∧ κ.rt (.str t) } from hq), ⟨k.nx, k.bk, k.ct, k.rt, fun x hx cls d σ' H' e i' => ?_⟩⟩
  obtain ⟨h1, t, h2, h3⟩ := hx
  obtain ⟨j1, j2⟩ := i'
  rw [h1] at j2
  subst j1
  refine ⟨true, hc _ _ h2, fun _ a _ => ⟨_, t, σ', h2, rfl, j2, rfl, fun H2 e2 => k.rt _ h3 _ H2 (by have := e.trans e2; simpa using this) rfl⟩, fun z => nomatch z⟩
end
end DL

/-! E0: the checker is right for statements; defs by it -/
namespace DL
open PySem PySem.Spec PyProof.Rows L2 Evl

section
variable {T : Tb} {L : Nat} {N : List Str} {ow : List Nat}
theorem t_app {i : Nat} {e : E} : SoundS T L N ow (.app i e) := fun sc x h W X G hN hS => by
  cases x with
  | Expr v p =>
    cases v with
    | Call f as ks cp =>
      cases f with
      | Attribute o m ap =>
        cases o with
        | Name x r =>
          match as, ks, h with
          | [], _, h => exact absurd h Bool.false_ne_true
          | _ :: _ :: _, _, h => exact absurd h Bool.false_ne_true
          | [_], _ :: _, h => exact absurd h Bool.false_ne_true
          | [v], [], h =>
            obtain ⟨h0, k1⟩ := and2 (show (decide (m = "append") && (decide (N[i]? = some x) && (visB sc x && (okNm x && (ow.contains i && (!ownB e && ((ap.endLine == cp.line) && (noStar v && mE T N ow .val sc e v)))))))) = true from h)
            obtain ⟨h1, k2⟩ := and2 k1
            obtain ⟨h2, k3⟩ := and2 k2
            obtain ⟨h3, k4⟩ := and2 k3
            obtain ⟨h4, k5⟩ := and2 k4
            obtain ⟨h5, k6⟩ := and2 k5
            obtain ⟨h6, k7⟩ := and2 k6
            obtain ⟨h7, h8⟩ := and2 k7
            subst hS
            subst hN
            obtain rfl := of_decide_eq_true h0
            exact p_app G (of_decide_eq_true h1) (vis_of h2) h3 h4 (not1 h5) h6 h7 (sndE e .val _ v h8 W X G.g rfl rfl)
        | _ => exact absurd h Bool.false_ne_true
      | _ => exact absurd h Bool.false_ne_true
    | _ => exact absurd h Bool.false_ne_true
  | _ => exact absurd h Bool.false_ne_true
theorem t_ext {i : Nat} {e : E} : SoundS T L N ow (.ext i e) := fun sc x h W X G hN hS => by
  cases x with
  | Expr v p =>
    cases v with
    | Call f as ks cp =>
      cases f with
      | Attribute o m ap =>
        cases o with
        | Name x r =>
          match as, ks, h with
          | [], _, h => exact absurd h Bool.false_ne_true
          | _ :: _ :: _, _, h => exact absurd h Bool.false_ne_true
          | [_], _ :: _, h => exact absurd h Bool.false_ne_true
          | [v], [], h =>
            obtain ⟨h0, k1⟩ := and2 (show (decide (m = "extend") && (decide (N[i]? = some x) && (visB sc x && (okNm x && (ow.contains i && ((ap.endLine == cp.line) && (noStar v && mE T N ow .val sc e v))))))) = true from h)
            obtain ⟨h1, k2⟩ := and2 k1
            obtain ⟨h2, k3⟩ := and2 k2
            obtain ⟨h3, k4⟩ := and2 k3
            obtain ⟨h4, k6⟩ := and2 k4
            obtain ⟨h6, k7⟩ := and2 k6
            obtain ⟨h7, h8⟩ := and2 k7
            subst hS
            subst hN
            obtain rfl := of_decide_eq_true h0
            exact p_ext G (of_decide_eq_true h1) (vis_of h2) h3 h4 h6 h7 (sndE e .val _ v h8 W X G.g rfl rfl)
        | _ => exact absurd h Bool.false_ne_true
      | _ => exact absurd h Bool.false_ne_true
    | _ => exact absurd h Bool.false_ne_true
  | _ => exact absurd h Bool.false_ne_true
theorem t_iff {c : E} {a b : List S} (iha : SoundSs T L N ow a) (ihb : SoundSs T L N ow b) : SoundS T L N ow (.iff c a b) := fun sc x h W X G hN hS => by
  cases x with
  | If z x y p =>
    obtain ⟨h1, k2⟩ := and2 (show (mE T N ow .tst sc c z && (mSs T N ow sc a x && mSs T N ow sc b y)) = true from h)
    obtain ⟨h2, h3⟩ := and2 k2
    exact p_if (sndE c .tst sc z h1 W X G.g hN hS) (iha sc x h2 W X G hN hS) (ihb sc y h3 W X G hN hS)
  | _ => exact absurd h Bool.false_ne_true
theorem t_while {c : E} {b : List S} (ihb : SoundSs T L N ow b) : SoundS T L N ow (.while c b) := fun sc x h W X G hN hS => by
  cases x with
  | While z x o p =>
    cases o with
    | cons _ _ => exact absurd h Bool.false_ne_true
    | nil =>
      obtain ⟨z1, k1⟩ := and2 (show (decide (dcE T c = 0) && (decide (dcSs T b = 0) && (mE T N ow .tst sc c z && mSs T N ow sc b x))) = true from h)
      obtain ⟨z2, k2⟩ := and2 k1
      obtain ⟨h1, h2⟩ := and2 k2
      exact p_while G (of_decide_eq_true z1) (of_decide_eq_true z2) (sndE c .tst sc z h1 W X G.g hN hS) (ihb sc x h2 W X G hN hS)
  | _ => exact absurd h Bool.false_ne_true
theorem mE_zip_own {md : Md} {sc : Scope} {a b : E} {x : Expr} (h : mE T N ow md sc (.zip a b) x = true) : (ownB a || ownB b) = false := by
  cases x with
  | Call fx xs ks p =>
    cases ks with
    | cons k ks => cases fx <;> (match xs, h with
      | [], h => exact absurd h Bool.false_ne_true
      | [_], h => exact absurd h Bool.false_ne_true
      | [_, _], h => exact absurd h Bool.false_ne_true
      | _ :: _ :: _ :: _, h => exact absurd h Bool.false_ne_true)
    | nil =>
      cases fx with
      | Name y q =>
        match xs, h with
        | [], h => exact absurd h Bool.false_ne_true
        | [_], h => exact absurd h Bool.false_ne_true
        | _ :: _ :: _ :: _, h => exact absurd h Bool.false_ne_true
        | [z, u], h =>
          obtain ⟨h1, k2⟩ := and2 (show (decide (md = .itr) && (decide (y = "zip") && (glB sc y && (noStar z && (noStar u && (!ownB a && (!ownB b && (mE T N ow .val sc a z && mE T N ow .val sc b u)))))))) = true from h)
          obtain ⟨o1, k7⟩ := and2 (and2 (and2 (and2 (and2 k2).2).2).2).2
          rw [not1 o1, not1 (and2 k7).1]
          rfl
      | _ => exact absurd h Bool.false_ne_true
  | _ => exact absurd h Bool.false_ne_true
theorem mE_enum_own {md : Md} {sc : Scope} {a : E} {x : Expr} (h : mE T N ow md sc (.enum a) x = true) : ownB a = false := by
  cases x with
  | Call fx xs ks p =>
    cases ks with
    | cons k ks => cases fx <;> (match xs, h with
      | [], h => exact absurd h Bool.false_ne_true
      | [_], h => exact absurd h Bool.false_ne_true
      | _ :: _ :: _, h => exact absurd h Bool.false_ne_true)
    | nil =>
      cases fx with
      | Name y q =>
        match xs, h with
        | [], h => exact absurd h Bool.false_ne_true
        | _ :: _ :: _, h => exact absurd h Bool.false_ne_true
        | [z], h =>
          obtain ⟨h1, k2⟩ := and2 (show (decide (md = .itr) && (decide (y = "enumerate") && (glB sc y && (noStar z && (!ownB a && mE T N ow .val sc a z))))) = true from h)
          exact not1 (and2 (and2 (and2 (and2 k2).2).2).2).1
      | _ => exact absurd h Bool.false_ne_true
  | _ => exact absurd h Bool.false_ne_true
theorem t_for {tg : Pt} {it : E} {b : List S} (ihb : SoundSs T L N ow b) : SoundS T L N ow (.for tg it b) := fun sc x h W X G hN hS => by
  cases x with
  | For t i xs o p =>
    cases o with
    | cons _ _ => exact absurd h Bool.false_ne_true
    | nil =>
      obtain ⟨h1, k2⟩ := and2 (show (noSet i && (tupT it t && (mE T N ow .itr sc it i && (mPt N ow none sc tg t && mSs T N ow sc b xs)))) = true from h)
      obtain ⟨h2, k3⟩ := and2 k2
      obtain ⟨h3, k4⟩ := and2 k3
      obtain ⟨h4, h5⟩ := and2 k4
      have hb := ihb sc xs h5 W X G hN hS
      have hi := sndE it .itr sc i h3 W X G.g hN hS t h2
      subst hS
      cases it with
      | own j =>
        cases i with
        | Name x q =>
          obtain ⟨m1, m2⟩ := and2 (show (decide (N[j]? = some x) && (visB X.env.scope x && (okNm x && ow.contains j))) = true from h3)
          obtain ⟨m2, m3⟩ := and2 m2
          obtain ⟨m3, m4⟩ := and2 m3
          exact p_forO G hN (by rw [hN]; exact of_decide_eq_true m1) (vis_of m2) m3 m4 h4 hb
        | _ => exact absurd h3 Bool.false_ne_true
      | enum a => exact p_for G hN h1 (mE_enum_own h3) h4 hi hb
      | zip a c => exact p_for G hN h1 (mE_zip_own h3) h4 hi hb
      | _ => exact p_for G hN h1 rfl h4 hi hb
  | _ => exact absurd h Bool.false_ne_true
theorem t_ret {e : E} : SoundS T L N ow (.ret e) := fun sc x h W X G hN hS => by
  cases x with
  | Return v p =>
    cases v with
    | none => exact absurd h Bool.false_ne_true
    | some v =>
      have h' : mE T N ow .val sc e v = true := h
      subst hS
      cases e with
      | own j =>
        cases v with
        | Name x q =>
          obtain ⟨m1, m2⟩ := and2 (show (decide (N[j]? = some x) && (visB X.env.scope x && (okNm x && ow.contains j))) = true from h')
          obtain ⟨m2, m3⟩ := and2 m2
          obtain ⟨m3, m4⟩ := and2 m3
          exact p_retO (by rw [hN]; exact of_decide_eq_true m1) (vis_of m2) m3 m4
        | _ => exact absurd h' Bool.false_ne_true
      | _ => exact p_ret rfl (sndE _ .val _ v h' W X G.g hN rfl)
  | _ => exact absurd h Bool.false_ne_true
theorem t_retn : SoundS T L N ow .retn := fun sc x h W X G hN hS => by
  cases x with
  | Return v p =>
    cases v with
    | none => exact p_retn
    | some v => exact absurd h Bool.false_ne_true
  | _ => exact absurd h Bool.false_ne_true
theorem t_raise {c : Str} : SoundS T L N ow (.raise c) := fun sc x h W X G hN hS => by
  cases x with
  | Raise v w p =>
    cases v with
    | none => exact absurd h Bool.false_ne_true
    | some v =>
      cases v with
      | Call f as ks cp =>
        cases f with
        | Name x q =>
          cases w with
          | some w =>
            match as, ks, h with
            | [], _, h => exact absurd h Bool.false_ne_true
            | [y], ks, h =>
              cases y with
              | Constant k j q =>
                cases k with
                | str m => cases ks <;> exact absurd h Bool.false_ne_true
                | _ => exact absurd h Bool.false_ne_true
              | _ => exact absurd h Bool.false_ne_true
            | y :: _ :: _, ks, h =>
              cases y with
              | Constant k j q => cases k <;> exact absurd h Bool.false_ne_true
              | _ => exact absurd h Bool.false_ne_true
          | none =>
            match as, ks, h with
            | [], _, h => exact absurd h Bool.false_ne_true
            | y :: _ :: _, _, h =>
              cases y with
              | Constant k j q => cases k <;> exact absurd h Bool.false_ne_true
              | _ => exact absurd h Bool.false_ne_true
            | [y], _ :: _, h =>
              cases y with
              | Constant k j q => cases k <;> exact absurd h Bool.false_ne_true
              | _ => exact absurd h Bool.false_ne_true
            | [y], [], h =>
              cases y with
              | Constant k j q =>
                cases k with
                | str m =>
                  obtain ⟨h1, k2⟩ := and2 (show (decide (c = x) && (T.exc c && glB sc c)) = true from h)
                  obtain ⟨h2, h3⟩ := and2 k2
                  obtain rfl := of_decide_eq_true h1
                  obtain ⟨g1, g2, g3⟩ := gl_of hS h3
                  exact p_raise G h2 g1 g2
                | _ => exact absurd h Bool.false_ne_true
              | _ => exact absurd h Bool.false_ne_true
        | _ => exact absurd h Bool.false_ne_true
      | _ => exact absurd h Bool.false_ne_true
  | _ => exact absurd h Bool.false_ne_true
theorem t_try {b : List S} {i : Nat} (ihb : SoundSs T L N ow b) : SoundS T L N ow (.try b i) := fun sc x h W X G hN hS => by
  have h' : (match tryP x with
    | some (xs, y, n, f, m) => T.err && (decide (y = "SayError") && (glB sc y && (decide (f = "_law_error") && (glB sc f && (decide (m = n) && (decide (N[i]? = some n) && (lclB sc n && (okNm n && mSs T N ow sc b xs))))))))
    | none => false) = true := h
  split at h'
  · rename_i xs y n f m hx
    obtain ⟨p1, p2, p3, p4, p5, p6, p7, rfl⟩ := tryP_eq hx
    obtain ⟨h1, k2⟩ := and2 h'
    obtain ⟨h2, k3⟩ := and2 k2
    obtain ⟨h3, k4⟩ := and2 k3
    obtain ⟨h4, k5⟩ := and2 k4
    obtain ⟨h5, k6⟩ := and2 k5
    obtain ⟨h6, k7⟩ := and2 k6
    obtain ⟨h7, k8⟩ := and2 k7
    obtain ⟨h8, k9⟩ := and2 k8
    obtain ⟨h9, h10⟩ := and2 k9
    have g1 := (gl_of hS h3).1
    have g2 := (gl_of hS h5).1
    subst hS
    obtain rfl := of_decide_eq_true h2
    obtain rfl := of_decide_eq_true h4
    obtain rfl := of_decide_eq_true h6
    exact p_try G h1 (by rw [hN]; exact of_decide_eq_true h7) (lcl_of h8) h9 g2 g1 fun W' pn xe G' => ihb _ xs h10 W' (X.tr pn xe) G' hN rfl
  · cases h'
theorem t_expr {e : E} : SoundS T L N ow (.expr e) := fun sc x h W X G hN hS => by
  cases x with
  | Expr v p =>
    obtain ⟨h1, h2⟩ := and2 (show (notComp v && mE T N ow .val sc e v) = true from h)
    exact p_expr (by cases v <;> first | rfl | exact absurd h1 Bool.false_ne_true) (sndE e .val sc v h2 W X G.g hN hS)
  | _ => exact absurd h Bool.false_ne_true
theorem t_brk : SoundS T L N ow .brk := fun sc x h W X G hN hS => by
  cases x with
  | Break p => exact p_brk
  | _ => exact absurd h Bool.false_ne_true
theorem t_cont : SoundS T L N ow .cont := fun sc x h W X G hN hS => by
  cases x with
  | Continue p => exact p_cont
  | _ => exact absurd h Bool.false_ne_true
theorem t_pass : SoundS T L N ow .pass := fun sc x h W X G hN hS => by
  cases x with
  | Pass p => exact p_pass
  | _ => exact absurd h Bool.false_ne_true
theorem t_none {s : S} (h : ∀ sc x, mS T N ow sc s x = false) : SoundS T L N ow s := fun sc x q => by
  rw [h] at q
  cases q
mutual
theorem sndS : ∀ s : S, SoundS T L N ow s
  | .asg i e => t_asg
  | .own i e => t_own
  | .move i j => t_move
  | .asgT tg e => t_asgT
  | .setL i ix e => t_setL
  | .setD i k e => t_setD
  | .app i e => t_app
  | .ext i e => t_ext
  | .upd i e => t_none fun sc x => by cases x <;> rfl
  | .iff c a b => t_iff (sndSs a) (sndSs b)
  | .for tg it b => t_for (sndSs b)
  | .while c b => t_while (sndSs b)
  | .ret e => t_ret
  | .retn => t_retn
  | .raise c => t_raise
  | .try b i => t_try (sndSs b)
  | .expr e => t_expr
  | .brk => t_brk
  | .cont => t_cont
  | .pass => t_pass
theorem sndSs : ∀ s : List S, SoundSs T L N ow s
  | [] => fun sc x h W X G hN hS => by
    cases x with
    | nil => exact pss_n
    | cons _ _ => exact absurd h Bool.false_ne_true
  | s :: ss => fun sc x h W X G hN hS => by
    cases x with
    | nil => exact absurd h Bool.false_ne_true
    | cons y ys =>
      obtain ⟨h1, h2⟩ := and2 (show (mS T N ow sc s y && mSs T N ow sc ss ys) = true from h)
      exact pss_c (sndS s sc y h1 W X G hN hS) (sndSs ss sc ys h2 W X G hN hS)
end
end
end DL

/-! E1: a def by its text -/
namespace DL
open PySem PySem.Spec PyProof.Rows L2 Evl

/-- a scope as a def's -/
def scB (N ps : List Str) (sc : Scope) : Bool := (match sc.kind with
  | .function => true
  | _ => false) && (!sc.isCoroutine && (!sc.isGenerator && (decide N.Nodup && (decide (N.take ps.length = ps) && ((ps.all fun x => locB sc x) && (sc.names.all fun y => match y.2 with
  | .free => false
  | _ => true))))))
theorem sc_of {N ps : List Str} {sc : Scope} (h : scB N ps sc = true) : FnScope N ps sc := by
  obtain ⟨h1, k1⟩ := and2 h
  obtain ⟨h2, k2⟩ := and2 k1
  obtain ⟨h3, k3⟩ := and2 k2
  obtain ⟨h4, k4⟩ := and2 k3
  obtain ⟨h5, k5⟩ := and2 k4
  obtain ⟨h6, h7⟩ := and2 k5
  refine ⟨?_, not1 h2, not1 h3, of_decide_eq_true h4, of_decide_eq_true h5, fun x hx => loc_of (List.all_eq_true.mp h6 x hx), fun y hy e => ?_⟩
  · split at h1
    · assumption
    · cases h1
  · have q := List.all_eq_true.mp h7 y hy
    rw [e] at q
    cases q
theorem fr_start {K : PySem.W.Frag} {own : Nat → Bool} {B : AP} {H : Hp} {N : List Str} {ds : List D} {vs : List V} (hB : ∀ a, B a → ∃ o, H a = some o ∧ isMt o = true) (r : RepL K B H ds vs) (ho : ∀ i, own i = true → ds.length ≤ i) :
    SI K own B noA H 0 H (L2.start N vs) (ds.map some ++ List.replicate (N.length - ds.length) none) := by
  have hl := RepL.length r
  have out : ∀ {i : Nat} {d : D}, (ds.map some ++ List.replicate (N.length - ds.length) none)[i]? = some (some d) → i < ds.length ∧ ds[i]? = some d := fun {i d} h => by
    by_cases hi : i < ds.length
    · rw [List.getElem?_append_left (by rw [List.length_map]; exact hi), List.getElem?_map] at h
      refine ⟨hi, ?_⟩
      cases q : ds[i]? with
      | none => rw [q] at h; cases h
      | some z =>
        rw [q] at h
        cases h
        rfl
    · rw [List.getElem?_append_right (by rw [List.length_map]; omega), List.getElem?_replicate] at h
      split at h <;> cases h
  refine ⟨⟨?_, fun i d h1 h2 => ?_, fun i d h1 h2 => ?_, fun i j a h1 h2 h3 => ?_, fun a z => ?_⟩, Ex.refl H, fun a z => z.elim, fun a z => ?_⟩
  · unfold L2.start
    simp [hl]
  · obtain ⟨hi, e⟩ := out h2
    obtain ⟨v, hv, rv⟩ := RepL.get r e
    refine ⟨v, ?_, Rep.keep keeps_refl (grows_less fun a z => z.elim id fun z => z.elim) _ _ rv⟩
    unfold L2.start
    rw [List.getElem?_append_left (by rw [List.length_map]; omega), List.getElem?_map, hv]
    rfl
  · exact absurd (out h2).1 (Nat.not_lt.mpr (ho i h1))
  · obtain ⟨d, h3⟩ := h3
    exact absurd (out h3).1 (Nat.not_lt.mpr (ho i h1))
  · exact z.elim (hB a) fun z => z.elim
  · obtain ⟨o, h, _⟩ := hB a z
    rw [h]
    exact nofun
/-- THE RULE: a def by its checked text -/
theorem fn_rule {P : Program} {w : World} {K : PySem.W.Frag} {mg : Str → Option Value} {base : Heap} {T : Tb} {L : Nat} (tab : TOk P w K mg base T L) {x qual : Str} {params : Arguments} {body : List Stmt} {scope : Scope} {kws : List (Str × V)} {f : Addr} {fd : FuncData}
    (F : FunD K x qual params body scope [] kws f fd) {N ps : List Str} {ow : List Nat} {b : List S} (hs : scB N ps scope = true) (hc : mSs T N ow scope b body = true) (ho : (ow.all fun i => decide (ps.length ≤ i)) = true) :
    FnG P w K mg base (L + 1) f fd ps (spOf K ps.length (dcSs T b) fun ds Q X => wpF T N.length b ds Q X) := by
  have Sc := sc_of hs
  refine FnG.body F Sc (fun vs H Q E h => ?_) fun cdv A outer s H vs Q E hr hg h => ?_
  · obtain ⟨B, ds, Qd, Xd, hl, _⟩ := h
    exact hl
  · have G : GoodS T L (fun cls d _ H => E cls d H) (cxOf (L2N.CX P w) P w K mg base N qual scope f cdv A outer s H E) :=
      ⟨⟨Sc.nd, rfl, hr, hg, L2N.takes_of rfl rfl rfl rfl, tab⟩, passes_of rfl, fun _ => rfl, Sc.kind, rfl, rfl⟩
    refine ⟨_, sndSs b scope body hc _ _ G rfl rfl, ?_⟩
    obtain ⟨B, ds, Qd, Xd, hl, hR, hB, r, hm, hq, hx⟩ := h
    have hlen := RepL.length r
    have z : 0 + dcSs T b ≤ dcSs T b := by omega
    refine ⟨B, noA, H, 0, _, _, _, _, _, _, ⟨fr_start hB r fun i hi => ?_, z, z, z, z, hR⟩, hm, ?_⟩
    · have q := of_decide_eq_true (List.all_eq_true.mp ho i (List.contains_iff_mem.mp hi))
      omega
    · exact ⟨fun ρ' h O' σ' H' f' _ => hq _ h .non H' f'.ex rfl, fun _ h => h.elim, fun _ h => h.elim, fun d h v H' e r => hq d h v H' e r, fun x h cls d σ' H' e i => hx x h cls d H' e i⟩
end DL

/-! DM: drawing: what it promises -/
namespace DL
open PySem PySem.Spec PyProof.Rows L2 Evl

def mNext : DSp := fun ds Q _ => ∃ many : Int, ds = [.st, .int many] ∧ 0 < many ∧ ∀ r, 0 ≤ r → r < many → Q (.int r)
theorem next_sp {K : PySem.W.Frag} {vs : List V} {H : Hp} {Q : VK} {E : XK} (h : spOf K 2 1 mNext vs H Q E) : tNext K { nx := fun _ H' => Q .non H', rt := Q } (L2.start (["state", "many", "turn"] : List Str) vs) H := by
  obtain ⟨B, ds, Qd, Xd, hl, hR, hB, r, ⟨many, rfl, hm, hq⟩, hf, _⟩ := h
  obtain ⟨v, w, rfl, r1, v2, w2, rfl, r2, r3⟩ := r
  obtain rfl : w2 = [] := r3
  obtain rfl : v2 = .int many := r2
  obtain ⟨a, s, n, ns, rfl, na, nb, ha, hs, hn, hb, hlen⟩ := r1
  obtain ⟨c, hc, hbig⟩ := hR
  have hnc := hc a s n ha
  have nsa : s ≠ a := fun z => by rw [z, ha] at hs; cases hs
  have pos : 0 < ns.length := List.length_pos_iff.mpr hn
  generalize hH1 : upd H a (StO a s (n + 1)) = H1
  have ha1 : H1 a = some (StO a s (n + 1)) := by rw [← hH1]; exact upd_same
  have hs1 : SqL K H1 s (ns.map V.int) := .inl (.inl (by rw [← hH1, upd_ne nsa]; exact hs))
  have len : (ns.map V.int).length = ns.length := List.length_map _
  generalize hm1 : (n : Int) + 1 = m
  have hm2 : ((n + 1 : Nat) : Int) = m := by rw [← hm1]; rfl
  have m0 : 0 ≤ m := by omega
  have p0 : (0 : Int) < ns.length := by omega
  have i0 : 0 ≤ m % (ns.length : Int) := Int.emod_nonneg _ (by omega)
  have i1 : m % (ns.length : Int) < ns.length := Int.emod_lt_of_pos _ p0
  obtain ⟨k, hk⟩ : ∃ k, ns[(m % (ns.length : Int)).toNat]? = some k := ⟨_, List.getElem?_eq_getElem (by omega)⟩
  have at1 : atI (ns.map V.int) (m % (ns.length : Int)) = some (.int k) := by
    unfold atI ixN
    rw [if_pos i0, len, if_pos i1]
    show (ns.map V.int)[(m % (ns.length : Int)).toNat]? = _
    rw [List.getElem?_map, hk]
    rfl
  have e1 : Ex 1 H H1 := by rw [← hH1]; exact ex_next ha
  generalize hturn : m / (ns.length : Int) = turn
  have hmb : m ≤ 2 ^ 1000 := by
    have : (big : Int) = 2 ^ 1000 := by unfold big; norm_cast
    omega
  have hta : 0 ≤ turn ∧ turn ≤ m := by
    rw [← hturn]
    exact ⟨Int.ediv_nonneg m0 (by omega), Int.ediv_le_self _ m0⟩
  have two : (2 : Int) ^ 1000 < 2 ^ 1001 := by decide
  have mul1 : CMulX m turn := mulx_ok (a := 1001) (b := 1001) (by
    have : (m.natAbs : Int) < 2 ^ 1001 := by omega
    exact_mod_cast this) (by
    have : (turn.natAbs : Int) < 2 ^ 1001 := by omega
    exact_mod_cast this) (by decide)
  have small : ∀ x y : Int, -(2 ^ 64) < y → y < 2 ^ 64 → CMul x y := fun x y h1 h2 => .inr ⟨h1, h2⟩
  have div1 : CDiv m (ns.length : Int) := ⟨p0, by omega⟩
  refine ⟨_, rfl, a, s, n, rfl, rfl, ha, _, _, rfl, rfl, _, rfl, a, s, n, n + 1, rfl, rfl, rfl, ha, ?_⟩
  rw [hH1]
  refine ⟨_, rfl, a, s, n + 1, rfl, rfl, ha1, _, rfl, a, s, n + 1, rfl, rfl, ha1, s, _, rfl, .inl hs1, _, _, rfl, rfl, ?_, ?_⟩
  · rw [len, hm2]
    exact div1
  refine ⟨_, rfl, a, s, n + 1, rfl, rfl, ha1, _, rfl, a, s, n + 1, rfl, rfl, ha1, _, rfl, a, s, n + 1, rfl, rfl, ha1, s, _, rfl, .inl hs1, _, _, rfl, rfl, ?_, s, _, _, .int k, rfl, rfl, hs1, ?_, ?_⟩
  · rw [len]
    exact p0
  · rw [len, hm2]
    exact at1
  refine ⟨_, rfl, _, _, rfl, rfl, small _ _ (by decide) (by decide), _, _, rfl, rfl, ?_⟩
  refine ⟨_, rfl, a, s, n + 1, rfl, rfl, ha1, _, rfl, _, _, rfl, rfl, ?_, _, _, rfl, rfl, small _ _ (by decide) (by decide), _, _, rfl, rfl, .inl ⟨_, rfl, _, rfl, _, _, rfl, rfl, hm, ?_⟩⟩
  · rw [len, hm2, hturn]
    exact mul1
  · exact hf _ (hq _ (Int.emod_nonneg _ (by omega)) (Int.emod_lt_of_pos _ hm)) _ H1 e1 rfl
theorem next_fn {P : Program} {w : World} {K : PySem.W.Frag} {mg : Str → Option Value} {base : Heap} {x qual : Str} {params : Arguments} {scope : Scope} {kws : List (Str × V)} {f : Addr} {fd : FuncData} {k1 k2 k3 k4 k5 k6 k7 k8 k9 k10 k11 : Nat}
    {p1 p2 p3 p4 p5 p6 p7 p8 p9 p10 p11 p12 p13 p14 p15 p16 p17 p18 p19 p20 p21 p22 p23 p24 p25 p26 p27 p28 p29 p30 p31 p32 p33 p34 p35 p36 p37 p38 p39 p40 p41 p42 p43 p44 p45 p46 p47 p48 p49 p50 : Pos}
    (F : FunD K x qual params [.Assign [.Subscript (.Name "state" p1) (.Constant (.int 1) k1 p2) p3] (.BinOp (.Subscript (.Name "state" p4) (.Constant (.int 1) k2 p5) p6) .Add (.Constant (.int 1) k3 p7) p8) p9,
      .Assign [.Name "turn" p10] (.BinOp (.Subscript (.Name "state" p11) (.Constant (.int 1) k4 p12) p13) .FloorDiv (.Call (.Name "len" p14) [.Subscript (.Name "state" p15) (.Constant (.int 0) k5 p16) p17] [] p18) p19) p20,
      .Return (some (.BinOp (.Call (.Name "int" p21) [.BinOp (.BinOp (.Subscript (.Subscript (.Name "state" p22) (.Constant (.int 0) k6 p23) p24) (.BinOp (.Subscript (.Name "state" p25) (.Constant (.int 1) k7 p26) p27) .Mod (.Call (.Name "len" p28) [.Subscript (.Name "state" p29) (.Constant (.int 0) k8 p30) p31] [] p32) p33) p34) .Add
        (.BinOp (.Name "turn" p35) .Mult (.Constant (.int 389) k9 p36) p37) p38) .Add (.BinOp (.BinOp (.Subscript (.Name "state" p39) (.Constant (.int 1) k10 p40) p41) .Mult (.Name "turn" p42) p43) .Mult (.Constant (.int 17) k11 p44) p45) p46] [] p47) .Mod (.Name "many" p48) p49)) p50] scope [] kws f fd)
    (hs : scB (["state", "many", "turn"] : List Str) (["state", "many"] : List Str) scope = true) (hx : (glB scope "len" && (glB scope "int" && (visB scope "state" && (visB scope "many" && locB scope "turn")))) = true) (hl : mg "len" = none) (hi : mg "int" = none) :
    FnG P w K mg base 1 f fd (["state", "many"] : List Str) (spOf K 2 1 mNext) := by
  have Sc := sc_of hs
  obtain ⟨x1, k1⟩ := and2 hx
  obtain ⟨x2, k2⟩ := and2 k1
  obtain ⟨x3, k3⟩ := and2 k2
  obtain ⟨x4, x5⟩ := and2 k3
  refine FnG.body F Sc (fun vs H Q E h => ?_) fun cdv A outer s H vs Q E hr hg h => ⟨_, next_body rfl rfl Sc.nd (fun _ => rfl) hl hi (gl_of rfl x1).1 (gl_of rfl x2).1 (vis_of x3) (vis_of x4) (loc_of x5), next_sp h⟩
  obtain ⟨B, ds, Qd, Xd, hl, _⟩ := h
  exact hl
end DL

/-! F1: walks where an exception is handled; _law_error -/
namespace DL
open PySem PySem.Spec PyProof.Rows L2 Evl

section
variable {prog : Program} {w : World} {A : Around} {E : Value → Shared → Prop} {st : Shared}
theorem hot_end {zt zl x1 : Addr} {n : Nat} {zs : Array Value} {R : Option Value → Shared → Prop} (hot : HotX.HotAt A x1 st.heap) (n1 : x1 ≠ zt) (zi : st.heap.IsListIter zt zl n) (zx : st.heap.IsList zl zs) (zn : zs[n]? = none)
    (q : ∀ h', (∀ b o, b ≠ zt → st.heap.get? b = some o → h'.get? b = some o) → R none { st with heap := h' }) : wpAny (model prog w) A (pyNext (.ref zt)) R E st := by
  obtain ⟨oi, ei, ci, di⟩ := id zi
  obtain ⟨ol, el, _, nl, dl⟩ := zx
  obtain ⟨hh, o1, vs1, h1, d1, c1⟩ := hot
  unfold pyNext
  refine wpAny_bind (wpAny_attempt (wpAny_callSpecial?_slot (name := Str.ofString "__next__") zi.typeIs slot_listiter_next (wpAny_call_entry slot_listiter_next zi.typeIs entry_listiter_next ?_ (args_listiter_next _))))
  show wpAny _ _ (field (.ref zt) 0 >>= _) _ _ st
  refine wpAny_bind (wpAny_field ei di (x := .ref zl) rfl ?_)
  show wpAny _ _ (if (Value.ref zl == Value.none) = true then _ else _) _ _ st
  rw [if_neg (show ¬ ((Value.ref zl == Value.none) = true) from Bool.false_ne_true)]
  show wpAny _ _ (field (.ref zt) 1 >>= _) _ _ st
  refine wpAny_bind (wpAny_field ei di (x := .int n 0) rfl ?_)
  show wpAny _ _ (seqItems? (.ref zl) >>= _) _ _ st
  refine wpAny_bind (wpAny_seqItems el dl ?_)
  simp only [Int.toNat_natCast, zn]
  refine wpAny_bind (wpAny_rule (wpAny_bind (wpAny_setField ei di (by simp) ?_)))
  have k1 : ∀ b o, b ≠ zt → st.heap.get? b = some o → (st.heap.update zt (Obj.mapFields (·.setIfInBounds 0 Value.none))).get? b = some o := fun b o hb e => by
    rw [Heap.get?_update_other _ _ (Ne.symm hb)]
    exact e
  show wpAny _ _ (newExc (.type "StopIteration") [] >>= _) _ _ _
  refine wpAny_bind ?_
  simp only [newExc, newTuple]
  refine wpAny_bind (wpAny_newObj_type ?_ (by size_fits))
  refine wpAny_bind (m := firstArgMember _ _) (wpAny_of_eq (a := Value.none) (by first | rfl | (simp only [firstArgMember]; rfl)) ?_)
  refine wpAny_newObj_type ?_ (by size_fits)
  refine HotX.raiseNew_hot ⟨hh, o1, vs1, Heap.get?_push_of_some _ (Heap.get?_push_of_some _ (k1 _ _ n1 h1)), d1, c1⟩ (Nat.ne_of_lt (Heap.lt_size (Heap.get?_push_of_some _ (k1 _ _ n1 h1)))) (Heap.get?_push_size _ rfl) rfl (by first | (simp; done) | (simp; omega) | (simp only [Array.size_append]; simp; omega)) ?_
  refine wpAny_bind (wpAny_isInstance (T := "StopIteration") (b := true) ⟨_, Heap.get?_update_self _ (Heap.get?_push_size _ rfl) rfl, rfl⟩ isSubtype_stop ?_)
  refine wpAny_pure (q _ fun b o hb e => ?_)
  rw [Heap.get?_update_other _ _ (Nat.ne_of_gt (Heap.lt_size (Heap.get?_push_of_some _ (k1 _ _ hb e))))]
  exact Heap.get?_push_of_some _ (Heap.get?_push_of_some _ (k1 _ _ hb e))
theorem walks_hot {I ax x1 : Addr} (hh : A.handled = some (.ref x1)) (n1 : ax ≠ I) (n2 : x1 ≠ I) {o1 : Obj} {vs1 : Array Value} (d1 : o1.data = .fields vs1) (c1 : vs1[2]? = some .none) (zs : Array Value) :
    Walks prog w A I [I, ax, x1] [I] zs.size (fun i v => zs[i]? = some v) (fun i h => h.IsListIter I ax i ∧ h.IsList ax zs ∧ h.get? x1 = some o1) where
  sub := fun b hb => by simp at hb; simp [hb]
  frame := fun _ _ _ t hk => ⟨t.1.at fun o e => hk I (by simp) o e, t.2.1.at fun o e => hk ax (by simp) o e, hk x1 (by simp) _ t.2.2⟩
  item := fun i s Q E hi t hQ => by
    refine wpAny_pyNext_list_item t.1 t.2.1 (x := zs[i]) (by simp [hi]) fun h' i' e' => ?_
    exact hQ _ h' s.toks (by simp [hi]) ⟨i', t.2.1.extBut e'.extBut n1, e'.extBut x1 _ n2 t.2.2⟩ fun b o hb e => e'.extBut b o (fun h => hb (by simp [h])) e
  done := fun s Q E t hQ => hot_end (zs := zs) ⟨hh, o1, vs1, t.2.2, d1, c1⟩ n2 t.1 t.2.1 (by simp) fun h' he => hQ h' s.toks fun b o hb e => he b o (fun h => hb (by simp [h])) e
  self := fun _ _ _ _ t hQ => wpAny_pyIter_listiter t.1 hQ
end

/-- a block's scope: v its own, the rest global -/
def blkB (scope : Scope) (v : Str) : Bool := (match scope.kind with
  | .function => true
  | _ => false) && ((scope.names.all fun y => (match y.2 with
  | .free => false
  | .cell => false
  | .local => (match scope.names.lookup y.1 with
    | some .local => true
    | _ => false)
  | _ => true)) && ((match scope.names.lookup v with
  | some .local => true
  | _ => false) && (match scope.names.lookup ("int" : Str) with
  | some .globalImplicit => true
  | _ => false)))
theorem blk_of {scope : Scope} {v : Str} (h : blkB scope v = true) : scope.kind = .function ∧ (∀ y ∈ scope.names, y.2 ≠ .free) ∧ (∀ y ∈ scope.names, y.2 ≠ .cell) ∧ (∀ y ∈ scope.names, y.2 = .local → scope.names.lookup y.1 = some .local) ∧ scope.names.lookup v = some .local ∧ scope.names.lookup ("int" : Str) = some .globalImplicit := by
  obtain ⟨h1, k1⟩ := and2 h
  obtain ⟨h2, k2⟩ := and2 k1
  obtain ⟨h3, h4⟩ := and2 k2
  refine ⟨?_, fun y hy e => ?_, fun y hy e => ?_, fun y hy e => ?_, ?_, ?_⟩
  · split at h1
    · assumption
    · cases h1
  · have q := List.all_eq_true.mp h2 y hy
    rw [e] at q
    cases q
  · have q := List.all_eq_true.mp h2 y hy
    rw [e] at q
    cases q
  · have q := List.all_eq_true.mp h2 y hy
    rw [e] at q
    dsimp only at q
    split at q
    · assumption
    · cases q
  · split at h3
    · assumption
    · cases h3
  · split at h4
    · assumption
    · cases h4
def nsB (bs : List Bool) (j : Nat) : Int := b2i (bs.getD j false)
theorem preSum_bs (bs : List Bool) : ∀ k, k ≤ bs.length → preSum (nsB bs) k = ((bs.take k).map b2i).sum
  | 0, _ => by simp [preSum]
  | k + 1, h => by
    have e : bs.take (k + 1) = bs.take k ++ [bs[k]'(by omega)] := by rw [List.take_append_getElem]
    rw [preSum, preSum_bs bs k (by omega), e, List.map_append, List.sum_append]
    have e2 : nsB bs k = b2i (bs[k]'(by omega)) := by
      unfold nsB
      rw [List.getD_eq_getElem?_getD, List.getElem?_eq_getElem (by omega)]
      rfl
    rw [e2]
    simp
theorem paired_at {α β : Type} {F : α → β → Prop} : ∀ {l : List α} {m : List β} {j : Nat} {b : β}, Paired F l m → m[j]? = some b → ∃ a, l[j]? = some a ∧ F a b
  | _, _, _, _, .nil, h => by simp at h
  | a :: l, b' :: m, 0, b, .cons h _, e => by
    simp at e
    subst e
    exact ⟨a, rfl, h⟩
  | a :: l, b' :: m, j + 1, b, .cons _ r, e => paired_at (l := l) (m := m) (j := j) r (by simpa using e)
theorem vals_bl : ∀ {bs : List Bool} {us : List Value}, Vals (bs.map V.bl) us → us = bs.map Value.bool
  | [], _, .nil => rfl
  | b :: bs, _, .cons h r => by
    cases h
    rw [vals_bl r]
    rfl
section
variable {X : Cx} {pins : List (Addr × Obj)} {σ : L2.St} {H : Hp}
theorem sum_hot {s : Shared} (I : Inv X pins σ H s) (hc : L2H.HotC X) {i : Nat} {y v : Str} {p p2 p3 p4 p5 p6 p7 p8 : Pos} {scope : Scope} (hN : X.N[i]? = some y) (hv : Vis X.env.scope y) (hy : okNm y = true) (hvn : okNm v = true)
    (g1 : Gl X "sum") (m1 : X.mg "sum" = none) (m2 : X.mg "int" = none) (hsc : blkB scope v = true)
    {a : Addr} {bs : List Bool} (e1 : σ[i]? = some (some (.ref a))) (e2 : H a = some (.lst (bs.map .bl))) {Q : VK} (hb : bs.length ≤ 5) (q : Q (.int (bs.map b2i).sum) H) :
    wpAny (model X.prog X.w) X.A (eval (.Call (.Name "sum" p) [.ListComp (.Call (.Name "int" p2) [.Name v p3] [] p4) [⟨.Name v p5, .Name y p6, [], 0⟩] scope p7] [] p8) X.env) (EP X pins σ Q) X.xe s := by
  obtain ⟨s1, s2, s3, s4, s5, s6⟩ := blk_of hsc
  obtain ⟨pr, ⟨hh, vs1, d1, c1⟩, hp⟩ := hc
  have P0 := I.pin pr (List.mem_append_left _ hp)
  refine Call_ (ld_blt I g1 m1 PyProof.Rows.boot_sum (PyProof.Rows.callWith_builtin1 (PyProof.Rows.args_cons (wpAny_ListComp_walk (fun _ => true) (fun v y => ∃ k t, v = .bool k ∧ y = .int (b2i k) t) s2 s3 s1 s4 s5 ?_) rfl) rfl rfl))
  refine thn ((pe_var hN hv (nm_of hy).1 (nm_of hy).2).run pins s σ H (fun v H1 => v = .ref a ∧ H1 = H) I ⟨_, e1, rfl, rfl⟩) fun u t1 ⟨x, H1, I1, r1, e, eH⟩ => ?_
  subst e eH
  cases r1
  obtain ⟨its, r, pl, hz⟩ := I1.list (.inl (.inl e2))
  obtain rfl := vals_bl r
  have P1 := (I1.pin pr (List.mem_append_left _ hp)).1
  have la : a < t1.heap.objs.size := by
    obtain ⟨o, ho, _⟩ := pl.isList
    exact Heap.lt_size ho
  have lp : pr.1 < t1.heap.objs.size := Heap.lt_size P1
  refine wpAny_pyIter_list pl.isList ?_
  refine ⟨t1.heap.objs.size, [t1.heap.objs.size, a, pr.1], [t1.heap.objs.size], _, _, _, rfl, walks_hot hh (Nat.ne_of_lt la) (Nat.ne_of_lt lp) d1 c1 (bs.map Value.bool).toArray, by rw [List.size_toArray, List.length_map, sizeLine_eq]; omega, ⟨?_, ?_, Heap.get?_push_of_some _ P1⟩, fun b hb => ?_, ⟨?_, ?_⟩, fun D h' tk ys vs hD hl hpl hlen hP hF hk => PyProof.Rows.args_nil ?_⟩
  · exact ⟨_, Heap.get?_push_size _ rfl, rfl, rfl⟩
  · obtain ⟨o, ho, z⟩ := pl.isList
    exact ⟨o, Heap.get?_push_of_some _ ho, z⟩
  · rw [Heap.size_push]
    simp only [List.mem_cons, List.not_mem_nil, or_false] at hb
    rcases hb with z | z | z <;> rw [z]
    · exact Nat.lt_succ_self _
    · exact Nat.lt_succ_of_lt la
    · exact Nat.lt_succ_of_lt lp
  · intro C j v s₃ m₃ E' _ _ _ _ _
    exact wpAny_pure ⟨rfl, s₃.heap, s₃.toks, rfl, fun _ _ e => e⟩
  · intro C j z s₃ m₃ E' hP _ hn hm hk ht
    obtain ⟨mb, b1, b2⟩ := I1.mod.blt
    have bk : ∀ b o, X.base.get? b = some o → s₃.heap.get? b = some o := fun b o e => by
      have e3 := I1.bk b o e
      exact hk b o (by simp; exact Nat.ne_of_lt (Heap.lt_size e3)) (Heap.get?_push_of_some _ e3)
    have eb : ∃ k, z = .bool k := by
      have hP : (bs.map Value.bool).toArray[j]? = some z := hP
      rw [List.getElem?_toArray, List.getElem?_map] at hP
      cases q : bs[j]? with
      | none => rw [q] at hP; cases hP
      | some k => rw [q] at hP; cases hP; exact ⟨k, rfl⟩
    obtain ⟨k, rfl⟩ := eb
    refine Call_ (Calls.Name_function_global (env := compEnv scope C X.env) s1 s6 (Calls.loadGlobal_builtin (mg := X.mg) (mb := mb) (by show s₃.heap.Ns X.env.globals X.mg; rw [I1.ok.glob]; exact I1.mod.glob.keeps bk) m2 (by show s₃.heap.Ns X.env.builtins mb; rw [I1.ok.blt]; exact b1.keeps bk) ((b2 _ (by decide)).trans PyProof.Rows.boot_int) ?_))
    refine PyProof.Rows.callWith_type1 (PyProof.Rows.args_cons (wpAny_Name (wpAny_loadName_local (env := compEnv scope C X.env) s1 s5 hn hm (PyProof.Rows.args_nil (call_int_bool ⟨⟨k, s₃.toks, rfl, by cases k <;> rfl⟩, ⟨_, _, rfl, fun _ _ e => e⟩⟩))) (nm_of hvn).1) rfl) rfl rfl
  · have hvs : vs.length = bs.length := by rw [hlen, List.size_toArray, List.length_map]
    have hfil : vs.filter (fun _ => true) = vs := by simp
    rw [hfil] at hF
    have hys : ys.size = bs.length := by
      have := hF.length
      rw [← hvs]
      simpa using this.symm
    have val : ∀ i v, ys[i]? = some v → ∃ t, v = Value.int (nsB bs i) t := fun j v e => by
      obtain ⟨u, hu, k, t, rfl, rfl⟩ := paired_at (l := vs) (m := ys.toList) (j := j) hF (by simpa using e)
      have hq := hP j _ hu
      have hq : (bs.map Value.bool).toArray[j]? = some (.bool k) := hq
      rw [List.getElem?_toArray, List.getElem?_map] at hq
      refine ⟨t, ?_⟩
      unfold nsB
      cases q : bs[j]? with
      | none => rw [q] at hq; cases hq
      | some k' =>
        rw [q] at hq
        cases hq
        rw [List.getD_eq_getElem?_getD, q]
        rfl
    have P2 : h'.get? pr.1 = some pr.2 := hk _ _ (by simp; exact Nat.ne_of_lt lp) (Heap.get?_push_of_some _ P1)
    have lD : D < h'.objs.size := by
      obtain ⟨o, ho, _⟩ := hl
      exact Heap.lt_size ho
    have lp2 : pr.1 < h'.objs.size := Heap.lt_size P2
    refine call_sum_walkG (wpAny_pyIter_list hl ⟨h'.objs.size, [h'.objs.size, D, pr.1], [h'.objs.size], _, _, _, nsB bs, rfl, walks_hot (A := X.A.in1) hh (Nat.ne_of_lt lD) (Nat.ne_of_lt lp2) d1 c1 ys, ⟨⟨_, Heap.get?_push_size _ rfl, rfl, rfl⟩, ?_, Heap.get?_push_of_some _ P2⟩, fun b hb => ?_, val, fun h2 tk2 t2 k2 => ?_⟩)
    · obtain ⟨o, ho, z⟩ := hl
      exact ⟨o, Heap.get?_push_of_some _ ho, z⟩
    · rw [Heap.size_push]
      simp only [List.mem_cons, List.not_mem_nil, or_false] at hb
      rcases hb with z | z | z <;> rw [z]
      · exact Nat.lt_succ_self _
      · exact Nat.lt_succ_of_lt lD
      · exact Nat.lt_succ_of_lt lp2
    · rw [hys, preSum_bs bs _ (Nat.le_refl _), List.take_length]
      refine ⟨.int (bs.map b2i).sum, H1, I1.kept (h' := h2) (t' := tk2) fun b o e => ?_, ⟨_, rfl⟩, q⟩
      have lb := Heap.lt_size e
      have e2 := hk b o (by simp; exact Nat.ne_of_lt lb) (Heap.get?_push_of_some _ e)
      exact k2 b o (by simp; exact Nat.ne_of_lt (Heap.lt_size e2)) (Heap.get?_push_of_some _ e2)
end

/-- isinstance(e, c): e the exception that is pinned -/
theorem isE_pin {X : Cx} {a dd : Addr} {ob : Obj} (C : ExcC X.K dd) (zc : Zc (.ref dd) none ob) (hf : ∃ vs, ob.data = .fields vs) (hm : (a, ob) ∈ X.pn) : CallR X (.builtin "isinstance") (rIsE X.K dd a) := by
  intro pins s σ H xs us Q I r h
  obtain ⟨c, cv, b, rfl, hcv, e, q⟩ := h
  obtain ⟨u1, u2, rfl, ra, rc⟩ := vals2 r
  cases ra
  have ec := hcv _ rc
  subst ec
  have hget := (I.pin (a, ob) (List.mem_append.mpr (.inl hm))).1
  obtain ⟨vs, hv⟩ := hf
  have J : PySem.W.InstAt s.heap a ob dd none := by
    cases ob with
    | mk oc od oda osl =>
      obtain ⟨q1, q2⟩ := zc
      dsimp only at q1 q2 hv
      cases q1
      cases q2
      cases hv
      exact ⟨hget, rfl, rfl, trivial⟩
  exact PySem.W.kia_one (PySem.W.handS_kitx_exc C.hg C.hk C.hs C.hd C.ha C.hn C.ht C.hm) I.kIn J e (fun z => nomatch z) fun tk => ⟨.bl b, H, I.kept (t' := tk) fun _ _ z => z, rfl, q⟩
/-- a def's body, run where pr is handled -/
theorem hot_body {P : Program} {w : World} {K : PySem.W.Frag} {mg : Str → Option Value} {base : Heap} {k : Nat} {f : Addr} {fd : FuncData} {x qual : Str} {params : Arguments} {body : List Stmt} {scope : Scope} {kws : List (Str × V)} {N ps : List Str}
    (F : FunD K x qual params body scope [] kws f fd) (S : FnScope N ps scope) {A : Around} {outer : List PySem.Env} {s : Shared} {H : Hp} {args : Args} {us : List Value} {vs : List V} {Q : VK} {E : XK} {pr : Addr × Obj}
    (hr : L2H.RoomH (k + 1) A) (pin : L2H.PinOk outer H s pr) (e0 : Env0 P w K mg base A outer s H) (hb : BindsTo s fd args (ps.zip us)) (rv : Vals vs us) (hl : vs.length = ps.length)
    (hbody : ∀ cdv, L2H.RoomH k (A.deeper (envOfC qual scope s.heap.objs.size f cdv)) → ∃ t, PSs (L2H.cxH (L2N.CX P w) P w K mg base N qual scope f cdv A outer s H E pr) body t ∧ t { nx := fun _ H' => Q .non H', rt := Q } (start N vs) H) :
    codeAny (model P w) A (.call (.ref f) args) (CR (L2N.CX P w) outer P w H s Q E) s := by
  obtain ⟨oc, od, dV, kV, doc, pm, an, cdv, ct, osl, rfl, lk, hcd, _, _⟩ := F.ex
  have kx := e0.mod.kin.keeps fun b o e => (e0.bs b o e).1
  have hp : ∀ y ∈ ps.zip us, scope.names.lookup y.1 = some .local ∨ (scope.names.lookup y.1 = some .cell ∧ ((cellsFrom (s.heap.objs.size + 1) scope.names []).lookup y.1).isSome = true) := by
    rintro ⟨z, u⟩ hy
    exact (S.par z (List.of_mem_zip hy).1).imp id fun q => ⟨q, PySem.W.cellsFrom_some _ _ _ (.inl q)⟩
  refine codeAny_call_function hr.depth (kx _ _ lk) rfl S.co S.gen rfl (PySem.W.codeRec_of kx hcd) (hb _ _ _ _ (wpAny_newFunctionEnv_cells S.kind hp fun env he s1 ic => ?_))
  subst he
  obtain ⟨t, ht, hq⟩ := hbody cdv (hr.deeper _)
  have I := L2H.inv_startH (CX := L2N.CX P w) (E := E) S pin e0 hl rv ic
  refine ⟨(e0.mod.nolimit.keeps fun b o e => (e0.bs b o e).1).keeps ic.toInCall.keep, codeAny_func (wpAny_mono (ht.run [] s1 (start N vs) H _ I hq) (fun fl s' hf => ?_) fun _ _ z => z)⟩
  cases fl with
  | next =>
    obtain ⟨σ', H', J, q⟩ := hf
    exact ⟨V.non, H', J.os, J.bare, J.base, J.hok, rfl, q⟩
  | ret u =>
    obtain ⟨v, σ', H', J, r, q⟩ := hf
    exact ⟨_, H', J.os, J.bare, J.base, J.hok, r, q⟩
  | _ =>
    obtain ⟨_, _, _, q⟩ := hf
    exact q.elim
/-- what the head must say of the classes -/
structure ErrC (K : PySem.W.Frag) (c : Str) (j : Nat) : Prop where
  ec : ExcC K (He.ga K c)
  k0 : PySem.W.kitOne K (.ref (He.ga K c)) (.ref (He.ga K "NotAllowed")) = some (decide (j = 0))
  k1 : PySem.W.kitOne K (.ref (He.ga K c)) (.ref (He.ga K "TooLarge")) = some (decide (j = 1))
  k2 : PySem.W.kitOne K (.ref (He.ga K c)) (.ref (He.ga K "Missing")) = some (decide (j = 2))
  k3 : PySem.W.kitOne K (.ref (He.ga K c)) (.ref (He.ga K "BadPaper")) = some (decide (j = 3))
  k4 : PySem.W.kitOne K (.ref (He.ga K c)) (.ref (He.ga K "BadForm")) = some false
theorem err_cases {K : PySem.W.Frag} (h0 : ErrC K "NotAllowed" 0) (h1 : ErrC K "TooLarge" 1) (h2 : ErrC K "Missing" 2) (h3 : ErrC K "BadPaper" 3) {c t : Str} (h : errT c = some t) :
    ∃ j, j < 4 ∧ ErrC K c j ∧ ((["refused", "large", "missing", "paper", "form"] : List Str)[j]?) = some t := by
  unfold errT at h
  split at h
  · rename_i e; subst e; cases h; exact ⟨0, by decide, h0, rfl⟩
  · split at h
    · rename_i e; subst e; cases h; exact ⟨1, by decide, h1, rfl⟩
    · split at h
      · rename_i e; subst e; cases h; exact ⟨2, by decide, h2, rfl⟩
      · split at h
        · rename_i e; subst e; cases h; exact ⟨3, by decide, h3, rfl⟩
        · cases h
def bs5 (j : Nat) : List Bool := [decide (j = 0), decide (j = 1), decide (j = 2), decide (j = 3), false]
theorem sum5 {j : Nat} (h : j < 4) : ((bs5 j).map b2i).sum = 1 := by
  match j, h with
  | 0, _ => rfl
  | 1, _ => rfl
  | 2, _ => rfl
  | 3, _ => rfl
theorem err_fn {P : Program} {w : World} {K : PySem.W.Frag} {mg : Str → Option Value} {base : Heap} {qual : Str} {params : Arguments} {scope sc2 : Scope} {kws : List (Str × V)} {f : Addr} {fd : FuncData} {k1 k2 k3 k4 k5 k6 k7 k8 : Nat}
    {p1 p2 p3 p4 p5 p6 p7 p8 p9 p10 p11 p12 p13 p14 p15 p16 p17 p18 p19 p20 p21 p22 p23 p24 p25 p26 p27 p28 p29 p30 p31 p32 p33 p34 p35 p36 p37 p38 p39 p40 p41 p42 p43 p44 p45 p46 p47 p48 : Pos}
    (F : FunD K "_law_error" qual params [.Assign [.Name "names" p1] (.List [.Call (.Name "isinstance" p2) [.Name "e" p3, .Name "NotAllowed" p4] [] p5, .Call (.Name "isinstance" p6) [.Name "e" p7, .Name "TooLarge" p8] [] p9,
        .Call (.Name "isinstance" p10) [.Name "e" p11, .Name "Missing" p12] [] p13, .Call (.Name "isinstance" p14) [.Name "e" p15, .Name "BadPaper" p16] [] p17, .Call (.Name "isinstance" p18) [.Name "e" p19, .Name "BadForm" p20] [] p21] p22) p23,
      .If (.Compare (.Call (.Name "sum" p24) [.ListComp (.Call (.Name "int" p25) [.Name "one" p26] [] p27) [⟨.Name "one" p28, .Name "names" p29, [], 0⟩] sc2 p30] [] p31) [.NotEq] [.Constant (.int 1) k1 p32] p33) [.Return (some (.Constant (.str "odd") k2 p34)) p35] [] p36,
      .Return (some (.Subscript (.List [.Constant (.str "refused") k3 p37, .Constant (.str "large") k4 p38, .Constant (.str "missing") k5 p39, .Constant (.str "paper") k6 p40, .Constant (.str "form") k7 p41] p42)
        (.Call (.Attribute (.Name "names" p43) "index" p44) [.Constant (.bool true) k8 p45] [] p46) p47)) p48] scope [] kws f fd)
    (hs : scB (["e", "names"] : List Str) (["e"] : List Str) scope = true) (hx : (glB scope "isinstance" && (glB scope "sum" && (glB scope "NotAllowed" && (glB scope "TooLarge" && (glB scope "Missing" && (glB scope "BadPaper" && (glB scope "BadForm" && (visB scope "e" && (visB scope "names" && (locB scope "names" && (blkB sc2 "one" && (p44.endLine == p46.line)))))))))))) = true)
    (hb : Binds K fd (["e"] : List Str) []) (kp : PySem.W.keepIn K (.ref f) = true) (mf : mg "_law_error" = some (.ref f)) (mi : mg "isinstance" = none) (ms : mg "sum" = none) (mt : mg "int" = none)
    (c0 : mg "NotAllowed" = some (.ref (He.ga K "NotAllowed"))) (c1 : mg "TooLarge" = some (.ref (He.ga K "TooLarge"))) (c2 : mg "Missing" = some (.ref (He.ga K "Missing"))) (c3 : mg "BadPaper" = some (.ref (He.ga K "BadPaper"))) (c4 : mg "BadForm" = some (.ref (He.ga K "BadForm")))
    (h0 : ErrC K "NotAllowed" 0) (h1 : ErrC K "TooLarge" 1) (h2 : ErrC K "Missing" 2) (h3 : ErrC K "BadPaper" 3) : ErrOk P w K mg base := by
  have Sc := sc_of hs
  obtain ⟨x1, y1⟩ := and2 hx
  obtain ⟨x2, y2⟩ := and2 y1
  obtain ⟨x3, y3⟩ := and2 y2
  obtain ⟨x4, y4⟩ := and2 y3
  obtain ⟨x5, y5⟩ := and2 y4
  obtain ⟨x6, y6⟩ := and2 y5
  obtain ⟨x7, y7⟩ := and2 y6
  obtain ⟨x8, y8⟩ := and2 y7
  obtain ⟨x9, y9⟩ := and2 y8
  obtain ⟨x10, y10⟩ := and2 y9
  obtain ⟨x11, x12⟩ := and2 y10
  refine ⟨f, fd, mf, kp, hb, fun A outer s H args pr c t Q hr hot pin e0 bt et zc hq => ?_⟩
  obtain ⟨j, hj, EC, hjt⟩ := err_cases h0 h1 h2 h3 et
  obtain ⟨hh, vs1, d1, ctx⟩ := id hot
  refine hot_body (k := 0) (N := (["e", "names"] : List Str)) (ps := (["e"] : List Str)) (us := [.ref pr.1]) (vs := [.ref pr.1]) F Sc hr pin e0 bt (.cons rfl .nil) rfl fun cdv hr0 => ?_
  generalize hX : L2H.cxH (L2N.CX P w) P w K mg base (["e", "names"] : List Str) qual scope f cdv A outer s H (fun _ _ _ => False) pr = X
  have hotX : L2H.HotC X := ⟨pr, by rw [← hX]; exact hot, by rw [← hX]; exact List.mem_cons_self⟩
  have un : X.A.units + 64 < cLine := by
    have := hr0.un
    rw [← hX]
    show (A.deeper (envOfC qual scope s.heap.objs.size f cdv)).units + 64 < cLine
    omega
  have un5 : X.A.units + 65 < cLine := by
    have := hr0.un
    rw [← hX]
    show (A.deeper (envOfC qual scope s.heap.objs.size f cdv)).units + 65 < cLine
    omega
  have hN0 : X.N[0]? = some ("e" : Str) := by rw [← hX]; rfl
  have hN1 : X.N[1]? = some ("names" : Str) := by rw [← hX]; rfl
  have nd : X.N.Nodup := by rw [← hX]; exact Sc.nd
  have eK : X.K = K := by rw [← hX]; rfl
  have em : X.mg = mg := by rw [← hX]; rfl
  have es : X.env.scope = scope := by rw [← hX]; rfl
  have fn1 : ∀ y, X.fn y = true := fun y => by rw [← hX]; rfl
  have gl : ∀ {y : Str}, glB scope y = true → Gl X y := fun {y} h => (gl_of es h).1
  have v0 : Vis X.env.scope "e" := by rw [es]; exact vis_of x8
  have v1 : Vis X.env.scope "names" := by rw [es]; exact vis_of x9
  have l1 : Loc X.env.scope "names" := by rw [es]; exact loc_of x10
  have cr : CallR X (.builtin "isinstance") (rIsE X.K (He.ga K c) pr.1) := isE_pin (by rw [eK]; exact EC.ec) zc ⟨_, d1⟩ (by rw [← hX]; exact List.mem_cons_self)
  have pe : ∀ {y : Str} {q1 q2 q3 q4 : Pos}, glB scope y = true → mg y = some (.ref (He.ga K y)) → (y == ("__debug__" : Str)) = false → PE X (.Call (.Name "isinstance" q1) [.Name "e" q2, .Name y q3] [] q4) (tCB (rIsE X.K (He.ga K c) pr.1) (tCons (tVar 0) (tCons (tC (.ref (He.ga K y))) tNil))) := fun {y q1 q2 q3 q4} hg hm hd =>
    pe_callB cr (gl x1) (by rw [em]; exact mi) PyProof.Rows.boot_isinstance (pa_cons (pe_var hN0 v0) (pa_cons (pe_glob (gl hg) (by rw [em]; exact hm) rfl hd) pa_nil))
  refine ⟨_, pss_cons (ps_set nd hN1 l1 (pe_lst (pa_cons (pe x3 c0 (by decide)) (pa_cons (pe x4 c1 (by decide)) (pa_cons (pe x5 c2 (by decide)) (pa_cons (pe x6 c3 (by decide)) (pa_cons (pe x7 c4 (by decide)) pa_nil)))))) rfl (.inl (fn1 _)))
    (pss_cons (ps_if (pt_cmpR (op_cmpD un .NotEq) (ta := fun σ H Q => ∃ (a : Addr) (bs : List Bool), σ[1]? = some (some (.ref a)) ∧ H a = some (.lst (bs.map .bl)) ∧ bs.length ≤ 5 ∧ Q (.int (bs.map b2i).sum) H) ⟨fun pins s σ H Q I ⟨a, bs, e1, e2, hb5, q⟩ => sum_hot I hotX hN1 v1 (by decide) (by decide) (gl x2) (by rw [em]; exact ms) (by rw [em]; exact mt) x11 e1 e2 hb5 q⟩ pe_int (by rfl)) (pss_one (ps_ret pe_str)) pss_nil)
      (pss_one (ps_ret (pe_ix ix_list (pe_lst (pa_cons pe_str (pa_cons pe_str (pa_cons pe_str (pa_cons pe_str (pa_cons pe_str pa_nil))))))
        (pe_bm PySem.F.plainAttrs_list PySem.F.slot_list_index PySem.F.type_list_index (mt_indexD un5) (pe_var hN1 v1) (pa_cons pe_bl pa_nil) rfl rfl x12 rfl rfl) (fun _ _ => rfl))))), ?_⟩
  refine ⟨_, rfl, .ref (He.ga K "NotAllowed"), .ref (He.ga K "NotAllowed"), _, rfl, fun u z => z, by rw [eK]; exact EC.k0, ?_⟩
  refine ⟨_, rfl, .ref (He.ga K "TooLarge"), .ref (He.ga K "TooLarge"), _, rfl, fun u z => z, by rw [eK]; exact EC.k1, ?_⟩
  refine ⟨_, rfl, .ref (He.ga K "Missing"), .ref (He.ga K "Missing"), _, rfl, fun u z => z, by rw [eK]; exact EC.k2, ?_⟩
  refine ⟨_, rfl, .ref (He.ga K "BadPaper"), .ref (He.ga K "BadPaper"), _, rfl, fun u z => z, by rw [eK]; exact EC.k3, ?_⟩
  refine ⟨_, rfl, .ref (He.ga K "BadForm"), .ref (He.ga K "BadForm"), _, rfl, fun u z => z, by rw [eK]; exact EC.k4, ⟨by show 5 ≤ sizeLine; rw [sizeLine_eq]; omega, fun p hp => ?_⟩⟩
  refine ⟨p, bs5 j, rfl, upd_same, Nat.le_refl _, ⟨noA, .int ((bs5 j).map b2i).sum, .int 1, fun d => d = .bl false, fun a z => z.elim, .inl rfl, .inl rfl, ⟨_, _, rfl, rfl, rfl, rfl, ?_⟩, fun d hd v H' e r => ?_⟩⟩
  · rw [sum5 hj]
    rfl
  · subst hd
    obtain rfl : v = .bl false := r
    refine ⟨false, rfl, by show 5 ≤ sizeLine; rw [sizeLine_eq]; omega, fun p2 hp2 => ?_⟩
    have ep : H' p = some (.lst ((bs5 j).map V.bl)) := e.at upd_same rfl
    have np : p ≠ p2 := fun z => by rw [← z, ep] at hp2; cases hp2
    generalize hH2 : upd H' p2 _ = H2
    have ep2 : H2 p = some (.lst ((bs5 j).map V.bl)) := by rw [← hH2, upd_ne np]; exact ep
    have eq2 : SqL X.K H2 p2 _ := .inl (.inl (by rw [← hH2]; exact upd_same))
    have ee : Ex 0 H H2 := by
      rw [← hH2]
      have := ((Ex.new (o := .lst ((bs5 j).map V.bl)) hp).trans e).trans (Ex.new (o := .lst [V.str "refused", V.str "large", V.str "missing", V.str "paper", V.str "form"]) hp2)
      simpa using this
    have dp : DpAll X.K H2 ((bs5 j).map V.bl) ((bs5 j).map PyData.bool) := .cons (.bl _) (.cons (.bl _) (.cons (.bl _) (.cons (.bl _) (.cons (.bl _) .nil))))
    refine ⟨_, rfl, ty_lst ep2, p, .bl true, .bool true, (bs5 j).map PyData.bool, j, .bool true, rfl, rfl, .lst (.inl (.inl ep2)) dp, .bl true, ?_, rfl, ?_, rfl, ?_, p2, _, (j : Int), .str t, rfl, rfl, eq2, ?_, hq _ ee⟩
    · match j, hj with
      | 0, _ => rfl
      | 1, _ => rfl
      | 2, _ => rfl
      | 3, _ => rfl
    · match j, hj with
      | 0, _ => rfl
      | 1, _ => rfl
      | 2, _ => rfl
      | 3, _ => rfl
    · intro m z' hm hz
      match j, hj, m, hm with
      | 1, _, 0, _ => cases hz; rfl
      | 2, _, 0, _ => cases hz; rfl
      | 2, _, 1, _ => cases hz; rfl
      | 3, _, 0, _ => cases hz; rfl
      | 3, _, 1, _ => cases hz; rfl
      | 3, _, 2, _ => cases hz; rfl
    · match j, hj, hjt with
      | 0, _, hjt => cases hjt; rfl
      | 1, _, hjt => cases hjt; rfl
      | 2, _, hjt => cases hjt; rfl
      | 3, _, hjt => cases hjt; rfl
end DL

/-! F3: in_turn: a dict of dicts made and filled, by hand; the rest by the layer -/
namespace DL
open PySem PySem.Spec PyProof.Rows L2 Evl

/-! ### keys, one behind another -/
instance decMem (k : Key) (c : List Key) : Decidable (k ∈ c) := decidable_of_iff ((c.any fun x => decide (x = k)) = true) (by
  rw [List.any_eq_true]
  constructor
  · rintro ⟨x, h1, h2⟩
    rw [← of_decide_eq_true h2]
    exact h1
  · intro h
    exact ⟨k, h, decide_eq_true rfl⟩)
def addK (c : List Key) (k : Key) : List Key := if k ∈ c then c else c ++ [k]
def kt1 (c : List Key) : List (Key × D) := c.map fun k => (k, .bl true)
def kv1 (c : List Key) : List (Key × V) := c.map fun k => (k, .bl true)
theorem any_key {α : Type} (f : Key → Key × α) (hf : ∀ k, (f k).1 = k) (c : List Key) (k : Key) : ((c.map f).any fun kv => decide (kv.1 = k)) = decide (k ∈ c) := by
  rw [List.any_map]
  induction c with
  | nil => rfl
  | cons x c ih =>
    rw [List.any_cons, ih]
    simp only [Function.comp, hf]
    by_cases h : x = k
    · simp [h]
    · have h' : ¬ k = x := fun z => h z.symm
      simp [h, h']
theorem put_kt (c : List Key) (k : Key) : putD (kt1 c) k (.bl true) = kt1 (addK c k) := by
  unfold putD addK kt1
  rw [any_key _ fun _ => rfl]
  by_cases h : k ∈ c
  · rw [if_pos (by simpa using h), if_pos h, List.map_map]
    refine List.map_congr_left fun x _ => ?_
    simp only [Function.comp]
    split <;> rfl
  · rw [if_neg (by simpa using h), if_neg h, List.map_append]
    rfl
theorem put_kv (c : List Key) (k : Key) : putK (kv1 c) k (.bl true) = kv1 (addK c k) := by
  unfold putK addK kv1
  rw [any_key _ fun _ => rfl]
  by_cases h : k ∈ c
  · rw [if_pos (by simpa using h), if_pos h, List.map_map]
    refine List.map_congr_left fun x _ => ?_
    simp only [Function.comp]
    split <;> rfl
  · rw [if_neg (by simpa using h), if_neg h, List.map_append]
    rfl
theorem fold_kv : ∀ (d c : List Key), (kv1 d).foldl (fun acc p => putK acc p.1 p.2) (kv1 c) = kv1 (d.foldl addK c)
  | [], c => rfl
  | k :: d, c => by
    show (kv1 d).foldl _ (putK (kv1 c) k (.bl true)) = _
    rw [put_kv, fold_kv d]
    rfl
theorem addK_len (c : List Key) (k : Key) : (addK c k).length ≤ c.length + 1 := by
  unfold addK
  split
  · omega
  · simp
theorem fold_len : ∀ (d c : List Key), (d.foldl addK c).length ≤ c.length + d.length
  | [], c => by simp
  | k :: d, c => by
    have h1 := fold_len d (addK c k)
    have h2 := addK_len c k
    rw [List.foldl_cons, List.length_cons]
    omega
theorem mem_addK {c : List Key} {k x : Key} : x ∈ addK c k ↔ x ∈ c ∨ x = k := by
  unfold addK
  split
  · rename_i h
    constructor
    · exact .inl
    · rintro (z | z)
      · exact z
      · rw [z]; exact h
  · simp
theorem mem_fold {x : Key} : ∀ (d c : List Key), x ∈ d.foldl addK c ↔ x ∈ c ∨ x ∈ d
  | [], c => by simp
  | k :: d, c => by
    rw [List.foldl_cons, mem_fold d, mem_addK, List.mem_cons]
    constructor
    · rintro ((h | h) | h)
      · exact .inl h
      · exact .inr (.inl h)
      · exact .inr (.inr h)
    · rintro (h | h | h)
      · exact .inl (.inl h)
      · exact .inl (.inr h)
      · exact .inr h
/-- a reason, as it is read here -/
structure Rn where
  nm : D
  pr : List Str
  ex : List Str
  sd : D
  gl : Str
  fc : D
def Rn.d (r : Rn) : D := .tup [r.nm, .tup (r.pr.map .str), .tup (r.ex.map .str), r.sd, .str r.gl, r.fc]
def Rn.ks (r : Rn) : List Key := ((r.pr ++ r.ex).map fun s => (.inr s : Key)).foldl addK []
def need1 (k : Str) (c : List Key) (r : Rn) : List Key := if r.gl = k then r.ks.foldl addK c else c
def needK (rs : List Rn) (k : Str) : List Key := rs.foldl (need1 k) []
theorem ks_len (r : Rn) : r.ks.length ≤ (r.pr ++ r.ex).length := by
  have := fold_len ((r.pr ++ r.ex).map fun s => (.inr s : Key)) []
  rw [List.length_map] at this
  unfold Rn.ks
  simp only [List.length_nil] at this
  omega
theorem mem_need {x : Key} {k : Str} : ∀ (rs : List Rn) (c : List Key), x ∈ rs.foldl (need1 k) c ↔ x ∈ c ∨ ∃ r ∈ rs, r.gl = k ∧ ∃ s, x = .inr s ∧ s ∈ r.pr ++ r.ex
  | [], c => by simp
  | r :: rs, c => by
    rw [List.foldl_cons, mem_need rs]
    have h : x ∈ need1 k c r ↔ x ∈ c ∨ (r.gl = k ∧ ∃ s, x = .inr s ∧ s ∈ r.pr ++ r.ex) := by
      unfold need1
      split
      · rename_i e
        rw [mem_fold]
        unfold Rn.ks
        rw [mem_fold]
        simp only [List.mem_map, List.not_mem_nil, false_or, e, true_and]
        constructor
        · rintro (h | ⟨s, h1, h2⟩)
          · exact .inl h
          · exact .inr ⟨s, h2.symm, h1⟩
        · rintro (h | ⟨s, h1, h2⟩)
          · exact .inl h
          · exact .inr ⟨s, h2, h1.symm⟩
      · rename_i e
        simp [e]
    rw [h]
    constructor
    · rintro ((h | ⟨h1, h2⟩) | ⟨r', h1, h2⟩)
      · exact .inl h
      · exact .inr ⟨r, List.mem_cons_self, h1, h2⟩
      · exact .inr ⟨r', List.mem_cons_of_mem _ h1, h2⟩
    · rintro (h | ⟨r', h1, h2⟩)
      · exact .inl (.inl h)
      · rcases List.mem_cons.mp h1 with rfl | h1
        · exact .inl (.inr h2)
        · exact .inr ⟨r', h1, h2⟩
theorem need_len (m : Nat) : ∀ (rs : List Rn) (k : Str) (c : List Key), (∀ r ∈ rs, (r.pr ++ r.ex).length ≤ m) → (rs.foldl (need1 k) c).length ≤ c.length + rs.length * m
  | [], k, c, _ => by simp
  | r :: rs, k, c, h => by
    have h1 := need_len m rs k (need1 k c r) fun r hr => h r (List.mem_cons_of_mem _ hr)
    have h2 : (need1 k c r).length ≤ c.length + m := by
      unfold need1
      split
      · have := fold_len r.ks c
        have := ks_len r
        have := h r List.mem_cons_self
        omega
      · omega
    rw [List.foldl_cons, List.length_cons, Nat.succ_mul]
    omega

/-! ### the outer dict -/
def kz (ks : List Str) (bs : List Addr) : List (Key × V) := (ks.zip bs).map fun p => (.inr p.1, V.ref p.2)
theorem kz_snoc {ks : List Str} {bs : List Addr} {k : Str} {q : Addr} (h : ks.length = bs.length) : kz (ks ++ [k]) (bs ++ [q]) = kz ks bs ++ [(.inr k, .ref q)] := by
  unfold kz
  rw [List.zip_append h, List.map_append]
  rfl
theorem kz_any {k : Str} : ∀ {ks : List Str} {bs : List Addr}, k ∉ ks → ((kz ks bs).any fun kv => decide (kv.1 = (.inr k : Key))) = false
  | [], _, _ => rfl
  | _ :: _, [], _ => rfl
  | k' :: ks, b :: bs, h => by
    have h1 : k' ≠ k := fun z => h (by rw [z]; exact List.mem_cons_self)
    have h2 := kz_any (bs := bs) fun z => h (List.mem_cons_of_mem k' z)
    show (decide ((.inr k' : Key) = .inr k) || (kz ks bs).any _) = false
    rw [h2]
    have : (.inr k' : Key) ≠ .inr k := fun z => h1 (Sum.inr.inj z)
    simp [this]
theorem kz_val {k : Str} : ∀ {ks : List Str} {bs : List Addr} {j : Nat} {b : Addr}, ks.Nodup → ks[j]? = some k → bs[j]? = some b → valV (kz ks bs) (.inr k) = some (.ref b)
  | [], _, _, _, _, h, _ => by simp at h
  | _ :: _, [], _, _, _, _, h => by simp at h
  | k' :: ks, b' :: bs, 0, b, _, h1, h2 => by
    simp at h1 h2
    subst h1 h2
    exact valV_pos rfl
  | k' :: ks, b' :: bs, j + 1, b, nd, h1, h2 => by
    have hm : k ∈ ks := List.mem_of_getElem? (by simpa using h1)
    have ne : k' ≠ k := fun z => (List.nodup_cons.mp nd).1 (by rw [z]; exact hm)
    have q := kz_val (ks := ks) (bs := bs) (j := j) (List.nodup_cons.mp nd).2 (by simpa using h1) (by simpa using h2)
    unfold valV at q ⊢
    have : (.inr k' : Key) ≠ .inr k := fun z => ne (Sum.inr.inj z)
    have e : kz (k' :: ks) (b' :: bs) = ((.inr k' : Key), V.ref b') :: kz ks bs := rfl
    rw [e, List.find?_cons]
    simp only [this, decide_false]
    exact q
theorem kz_len {ks : List Str} {bs : List Addr} : (kz ks bs).length ≤ ks.length := by
  unfold kz
  rw [List.length_map, List.length_zip]
  omega
/-- the dicts, made and partly filled -/
structure Reg (H : Hp) (a : Addr) (ks : List Str) (bs : List Addr) (g : Str → List Key) : Prop where
  out : H a = some (.dK (kz ks bs))
  len : bs.length = ks.length
  nd : bs.Nodup
  na : a ∉ bs
  inn : ∀ (j : Nat) (b : Addr) (k : Str), bs[j]? = some b → ks[j]? = some k → H b = some (.dK (kv1 (g k)))
def rDUpd : V → List V → Hp → VK → Prop := fun x xs H Q => ∃ (a b : Addr) (l m : List (Key × V)), x = .ref a ∧ xs = [.ref b] ∧ a ≠ b ∧ H a = some (.dK l) ∧ H b = some (.dK m) ∧ l.length + m.length ≤ sizeLine ∧ Q .non (upd H a (.dK (m.foldl (fun acc p => putK acc p.1 p.2) l)))
theorem mt_upd {X : Cx} : MtR X "dict.update" rDUpd := by
  intro pins s σ H x xs v us Q I rx rxs h
  obtain ⟨a, b, l, m, rfl, rfl, nab, ea, eb, hl, q⟩ := h
  obtain rfl : v = .ref a := rx
  obtain ⟨u, rfl, ru⟩ := Vals.one rxs
  obtain rfl : u = .ref b := ru
  obtain ⟨z1, hd1, vs1, rel1, dd1⟩ := dk_of I.hok ea
  obtain ⟨z2, hd2, vs2, rel2, dd2⟩ := dk_of I.hok eb
  refine call_meetsIn PySem.F.slot_dict_update dd1.typeIs PySem.F.entry_dict_update (PySem.F.args_dict_update_2 _ _) (meets_dict_update (mixKind X.prog X.w) a b nab hd2) ⟨vs1, vs2, dd1, dd2, by rw [← rel1.length, ← rel2.length]; exact hl, fun h' dd' ho' hs => ⟨.non, _, d_write (t' := s.toks) I (by rw [ea]; exact True.intro) hs ?_ (dk_new ?_ hd1 (kv_fold rel1 rel2) dd'), rfl, q⟩⟩
  · obtain ⟨o, _, _, ho, _⟩ := dd'
    exact ⟨o, ho⟩
  · have := putK_fold_len m l
    omega
end DL

/-! F4: in_turn, its walk -/
namespace DL
open PySem PySem.Spec PyProof.Rows L2 Evl

section
variable {K : PySem.W.Frag} {own : Nat → Bool} {B R : AP} {H0 H H' : Hp} {σ : L2.St} {ρ : DE}
theorem SI.region (f : SI K own B noA H0 0 H σ ρ) (e : Ex 0 H H') (hR : ∀ b, R b → H b = none) (hM : ∀ b, R b → ∃ o, H' b = some o ∧ isMt o = true) (nw : ∀ i d, own i = true → ρ[i]? ≠ some (some d)) : SI K own B R H0 0 H' σ ρ := by
  have g : Grows H (U B noA) (U B R) := fun b o hb n z => by
    rcases z with z | z
    · exact n (.inl z)
    · rw [hR b z] at hb
      cases hb
  refine ⟨⟨f.fr.len, fun i d h1 h2 => ?_, fun i d h1 h2 => absurd h2 (nw i d h1), fun i j a h1 h2 h3 => ?_, fun a z => ?_⟩, f.ex.trans e, fun a z => f.ex.none (hR a z), f.oldB⟩
  · obtain ⟨v, q1, q2⟩ := f.fr.fz i d h1 h2
    exact ⟨v, q1, Rep.keep (keeps_ex e) g _ _ q2⟩
  · obtain ⟨d, h3⟩ := h3
    exact absurd h3 (nw i d h1)
  · rcases z with z | z
    · exact mt_ex e (f.fr.mt a (.inl z))
    · exact hM a z
theorem SI.free (f : SI K own B R H0 0 H σ ρ) (nw : ∀ i d, own i = true → ρ[i]? ≠ some (some d)) : SI K own B noA H0 0 H σ ρ := by
  refine ⟨⟨f.fr.len, fun i d h1 h2 => ?_, fun i d h1 h2 => absurd h2 (nw i d h1), fun i j a h1 h2 h3 => ?_, fun a z => f.fr.mt a (z.imp id fun z => z.elim)⟩, f.ex, fun a z => z.elim, f.oldB⟩
  · obtain ⟨v, q1, q2⟩ := f.fr.fz i d h1 h2
    exact ⟨v, q1, Rep.keep keeps_refl (grows_less fun a z => z.imp id fun z => z.elim) _ _ q2⟩
  · obtain ⟨d, h3⟩ := h3
    exact absurd h3 (nw i d h1)
theorem SI.updR (f : SI K own B R H0 0 H σ ρ) {b : Addr} {o o' : HO} (hb : R b) (hH : H b = some o) (hm : isMt o = true) (hm' : isMt o' = true) (hx : isX o' = false) (nw : ∀ i d, own i = true → ρ[i]? ≠ some (some d)) :
    SI K own B R H0 0 (L2.upd H b o') σ ρ ∧ Stp B R H R (L2.upd H b o') := by
  have k : Keeps (U B R) H (L2.upd H b o') := keeps_upd (.inr hb) hH hm
  refine ⟨⟨⟨f.fr.len, fun i d h1 h2 => ?_, fun i d h1 h2 => absurd h2 (nw i d h1), fun i j a h1 h2 h3 => ?_, fun a z => ?_⟩, ex_upd (f.fresh b hb) f.ex hx, f.fresh, f.oldB⟩, ⟨fun c oc hc n => ?_, grows_refl⟩⟩
  · obtain ⟨v, q1, q2⟩ := f.fr.fz i d h1 h2
    exact ⟨v, q1, Rep.keep k grows_refl _ _ q2⟩
  · obtain ⟨d, h3⟩ := h3
    exact absurd h3 (nw i d h1)
  · by_cases e : a = b
    · rw [e]
      exact ⟨o', upd_same, hm'⟩
    · rw [upd_ne e]
      exact f.fr.mt a z
  · by_cases e : c = b
    · rw [e] at hc n
      rw [hH] at hc
      cases hc
      have := n (.inr hb)
      rw [hm] at this
      cases this
    · rw [upd_ne e]
      exact .inl hc
end
theorem wipe_at {σ : L2.St} {j : Nat} : ∀ {vs : List Nat}, j ∉ vs → (L2.wipe σ vs)[j]? = σ[j]?
  | [], _ => rfl
  | v :: vs, h => by
    show ((L2.wipe σ vs).set v none)[j]? = _
    rw [List.getElem?_set_ne (fun z => h (by rw [z]; exact List.mem_cons_self)), wipe_at fun z => h (List.mem_cons_of_mem _ z)]
theorem set_id {α : Type} {l : List α} {i : Nat} {x : α} (h : l[i]? = some x) : l.set i x = l := List.ext_getElem? fun m => by
  by_cases e : i = m
  · subst e
    rw [List.getElem?_set_self (List.getElem?_eq_some_iff.mp h).1, h]
  · rw [List.getElem?_set_ne e]
theorem rep_kt {K : PySem.W.Frag} {A : AP} {H : Hp} : ∀ {c : List Key} {us : List (Key × V)}, RepK K A H (kt1 c) us → us = kv1 c
  | [], _, h => h
  | k :: c, _, h => by
    obtain ⟨v, w, rfl, h1, h2⟩ := h
    rw [rep_kt (c := c) h2, show v = .bl true from h1]
    rfl
theorem kt_rep {K : PySem.W.Frag} {A : AP} {H : Hp} : ∀ {c : List Key}, RepK K A H (kt1 c) (kv1 c)
  | [] => rfl
  | _ :: c => ⟨_, _, rfl, rfl, kt_rep (c := c)⟩
/-! ### the texts' dict -/
def eKs : E := .dc [("one", 8)] (.one 8) (.tup [.star (.var 4), .star (.var 5)]) [] (.var 8) (.con (.bl true))
theorem eks_step {T : Tb} {ρ : DE} (hl : 8 < ρ.length) {Q : List (Key × D) → Prop} : ∀ (l : List Str) (c : List Key), c.length + l.length ≤ sizeLine → Q (kt1 ((l.map fun s => (.inr s : Key)).foldl addK c)) →
    dcW (dcStep T (.one 8) (wipeD ρ [8]) [] (.var 8) (.con (.bl true))) (l.map D.str) (kt1 c) Q
  | [], c, _, q => q
  | s :: l, c, h, q => by
    have hc : (kt1 c).length = c.length := List.length_map _
    rw [List.length_cons] at h
    refine ⟨by rw [hc]; omega, .str s, ?_, ⟨.inr s, rfl, ?_⟩⟩
    · exact List.getElem?_set_self (by rw [show (wipeD ρ [8]) = ρ.set 8 none from rfl, List.length_set]; exact hl)
    · rw [put_kt]
      have h2 := addK_len c (.inr s)
      exact eks_step hl l (addK c (.inr s)) (by omega) q
/-- the environment while the dicts are filled -/
def rhoT (rec : D) (x3 x4 x5 x6 : Option D) : DE := [some rec, none, none, x3, x4, x5, x6, none, none, none]
theorem eks_wp {T : Tb} {xk : EK} {rec : D} {x3 x6 : Option D} {p q : List Str} (h : p.length + q.length ≤ 100) {Q : DK} (k : Q (.dic (kt1 (((p ++ q).map fun s => (.inr s : Key)).foldl addK [])))) :
    wpE T xk eKs (rhoT rec x3 (some (.tup (p.map .str))) (some (.tup (q.map .str))) x6) Q := by
  refine ⟨_, rfl, _, .inl rfl, _, rfl, _, .inl rfl, ?_, p.map D.str ++ (q.map D.str ++ []), rfl, .inl rfl, ?_⟩
  · rw [List.append_nil, List.length_append, List.length_map, List.length_map, sizeLine_eq]
    omega
  · rw [List.append_nil, ← List.map_append]
    exact eks_step (ρ := rhoT rec x3 (some (.tup (p.map .str))) (some (.tup (q.map .str))) x6) (show 8 < 10 by decide) (p ++ q) [] (by rw [List.length_append, sizeLine_eq]; simp only [List.length_nil]; omega) k
abbrev Nt : List Str := ["record", "needed", "found", "_", "premises", "exceptions", "statement", "fresh", "one", "other"]
theorem own2 {i : Nat} (h : owf [2] i = true) : i = 2 := by
  have : ([2] : List Nat).contains i = true := h
  simpa using this
theorem nw_rho {rec : D} {x3 x4 x5 x6 : Option D} (i : Nat) (d : D) (h : owf [2] i = true) : (rhoT rec x3 x4 x5 x6)[i]? ≠ some (some d) := by
  rw [own2 h]
  intro z
  cases z

section
variable {T : Tb} {L : Nat} {K : PySem.W.Frag} {W : WX}
abbrev recD (ks : List Str) (rs : List Rn) (w : D) : D := .tup [.tup (ks.map .str), .tup (rs.map Rn.d), w]
/-- the dicts made -/
theorem needs_make {B : AP} {H0 H : Hp} {σ : L2.St} {ks : List Str} {rs : List Rn} {w : D} {En : Ends} (f : SI K (owf [2]) B noA H0 0 H σ (rhoT (recD ks rs w) none none none none)) (rm : Rm H 0) (nd : ks.Nodup) (hl : ks.length ≤ 100)
    (q : ∀ a bs H', Ex 0 H H' → H a = none → (∀ b ∈ bs, H b = none) → Reg H' a ks bs (fun _ => []) → En.nx (σ.set 1 (some (.ref a))) H') :
    tAsg (tDc (rdI T K (owf [2]) W (.sub (.var 0) (.con (.int 0)))) (gPt K (.one 8)) (rdTs T K (owf [2]) W0 []) (rdE T K (owf [2]) W0 (.var 8)) tDNewK [8]) (gName 1) En σ H := by
  refine ⟨B, noA, _, fun _ => False, fun d => d = .tup (ks.map .str), ⟨f.fr, rm, xok0⟩, ⟨_, rfl, _, rfl, rfl⟩, fun w hw => ?_⟩
  subst hw
  refine ⟨ks.map .str, rfl, fun J C H1 e1 wk cst hC _ p hp => ?_⟩
  have e1 : Ex 0 H H1 := e1
  have fr1 := f.fr.ex e1
  have lk : (ks.map D.str).length = ks.length := List.length_map _
  refine ⟨fun i m H2 => m = ks.length - i ∧ i ≤ ks.length ∧ ∃ bs : List Addr, bs.length = i ∧ Ex 0 H1 H2 ∧ H2 p = some (.dK (kz (ks.take i) bs)) ∧ bs.Nodup ∧ ∀ b ∈ bs, H1 b = none ∧ b ≠ p ∧ H2 b = some (.dK []), ⟨_, rfl, Nat.zero_le _, [], rfl, (Ex.new hp).any, upd_same, List.nodup_nil, fun b hb => absurd hb List.not_mem_nil⟩, ?_⟩
  rintro i m H2 ⟨rfl, hi, bs, hbl, e2, hz, hnd, hbs⟩
  have hC2 : C (U (fun a => B a ∨ a = p) noA) H2 := cst.ex _ _ _ _ _ hC e2 (grows_into hp)
  obtain ⟨w1, w2, w3⟩ := wk _ _ hC2
  rw [lk] at w1 w2 w3
  by_cases hlt : i < ks.length
  · refine .inr ⟨w1 i hlt, fun H' => ∃ bs : List Addr, bs.length = i + 1 ∧ Ex 0 H1 H' ∧ H' p = some (.dK (kz (ks.take (i + 1)) bs)) ∧ bs.Nodup ∧ ∀ b ∈ bs, H1 b = none ∧ b ≠ p ∧ H' b = some (.dK []), fun H' h => ⟨ks.length - (i + 1), by omega, rfl, hlt, h⟩, fun x H' y => ?_⟩
    obtain ⟨e3, d, hd, r⟩ := w3 i x H' hlt y
    obtain ⟨k, hk⟩ : ∃ k, ks[i]? = some k := ⟨_, List.getElem?_eq_getElem hlt⟩
    have hdk : d = .str k := by
      rw [List.getElem?_map, hk] at hd
      cases hd
      rfl
    subst hdk
    have hz' := e3.at hz rfl
    have fr : Fr K (owf [2]) (fun a => B a ∨ a = p) noA H' (L2.wipe σ [8]) (wipeD (rhoT (recD ks rs w) none none none none) [8]) := ((fr1.into hp (e2.trans e3) ⟨_, hz', rfl⟩).wipe [8])
    have rm' : Rm H' 0 := ((rm.ex0 e1).ex0 e2).ex0 e3
    refine gpt_of fr (R := fun ρ => ρ = (wipeD (rhoT (recD ks rs w) none none none none) [8]).set 8 (some (.str k))) (fun i hi => ?_) r rfl fun σ2 ρ2 hr f2 hwp => ⟨(hwp [8] fun i hi => hi).trans (wipe_wipe fun i hi => hi), _, _, ρ2, fun _ => False, fun b => b = true, ⟨f2, rm', xok0⟩, rfl, fun b hb H3 e4 => ?_⟩
    · obtain rfl := List.mem_singleton.mp hi
      rfl
    subst hb
    have e4 : Ex 0 H' H3 := e4
    subst hr
    refine ⟨_, _, _, fun _ => False, fun d => d = .str k, ⟨f2.ex e4, rm'.ex0 e4, xok0⟩, ⟨_, rfl, rfl⟩, fun dx hx v H4 e5 r5 => ?_⟩
    subst hx
    have hv : v = .str k := rb_str r5.1
    subst hv
    intro u hu
    have e5 : Ex 0 H3 H4 := e5
    have ee : Ex 0 H1 H4 := by simpa using ((e2.trans e3).trans e4).trans e5
    have hz4 : H4 p = some (.dK (kz (ks.take i) bs)) := e5.at (e4.at hz' rfl) rfl
    have up : p ≠ u := fun z => by rw [z, hu] at hz4; cases hz4
    have kn : k ∉ ks.take i := fun hm => by
      obtain ⟨j, hj⟩ := List.getElem?_of_mem hm
      have hjl : j < i := by
        have := (List.getElem?_eq_some_iff.mp hj).1
        rw [List.length_take] at this
        omega
      rw [List.getElem?_take_of_lt hjl] at hj
      have := (List.getElem?_inj (List.getElem?_eq_some_iff.mp hj).1 nd).mp (hj.trans hk.symm)
      omega
    have tk : ks.take (i + 1) = ks.take i ++ [k] := by
      rw [List.take_succ, hk]
      rfl
    have pk : putK (kz (ks.take i) bs) (.inr k) (.ref u) = kz (ks.take (i + 1)) (bs ++ [u]) := by
      unfold putK
      rw [if_neg (by rw [kz_any kn]; exact Bool.false_ne_true), tk, kz_snoc (by rw [List.length_take, hbl]; omega)]
    have un : ∀ b ∈ bs, b ≠ u := fun b hb z => by
      have := e5.at (e4.at (e3.at (hbs b hb).2.2 rfl) rfl) rfl
      rw [z, hu] at this
      cases this
    refine ⟨kz (ks.take i) bs, .inr k, rfl, by rw [upd_ne up]; exact hz4, ?_, bs ++ [u], by rw [List.length_append, hbl]; rfl, ex_upd hp (ex_upd (ee.none hu) ee), by rw [upd_same, pk], ?_, fun b hb => ?_⟩
    · have := kz_len (ks := ks.take i) (bs := bs)
      rw [List.length_take] at this
      rw [sizeLine_eq]
      omega
    · rw [List.nodup_append]
      exact ⟨hnd, by simp, fun a ha b hb => by rw [List.mem_singleton.mp hb]; exact un a ha⟩
    · rcases List.mem_append.mp hb with hb | hb
      · obtain ⟨b1, b2, b3⟩ := hbs b hb
        exact ⟨b1, b2, by rw [upd_ne b2, upd_ne (un b hb)]; exact e5.at (e4.at (e3.at b3 rfl) rfl) rfl⟩
      · rw [List.mem_singleton.mp hb]
        exact ⟨ee.none hu, Ne.symm up, by rw [upd_ne (Ne.symm up), upd_same]⟩
  · have e : i = ks.length := by omega
    subst e
    rw [List.take_length] at hz
    have eh : Ex 0 H H2 := by simpa using e1.trans e2
    exact .inl ⟨w2, q p bs H2 eh (e1.none hp) (fun b hb => e1.none (hbs b hb).1) ⟨hz, hbl, hnd, fun hm => (hbs p hm).2.1 rfl, fun j b k hj hk => (hbs b (List.mem_of_getElem? hj)).2.2⟩⟩
theorem Reg.ex {H H' : Hp} {a : Addr} {ks : List Str} {bs : List Addr} {g : Str → List Key} (r : Reg H a ks bs g) (e : Ex 0 H H') : Reg H' a ks bs g :=
  ⟨e.at r.out rfl, r.len, r.nd, r.na, fun j b k h1 h2 => e.at (r.inn j b k h1 h2) rfl⟩
theorem eks_cost : dcE T eKs = 0 := by simp [eKs, dcE, dcEs]
/-- the dicts filled -/
theorem needs_fill {B : AP} {H0 H : Hp} {σ : L2.St} {ks : List Str} {rs : List Rn} {w : D} {a : Addr} {bs : List Addr} {En : Ends} (f : SI K (owf [2]) B (fun c => c = a ∨ c ∈ bs) H0 0 H σ (rhoT (recD ks rs w) none none none none)) (rm : Rm H0 0) (nd : ks.Nodup)
    (h1 : σ[1]? = some (some (.ref a))) (hr : Reg H a ks bs (fun _ => [])) (hg : ∀ r ∈ rs, r.gl ∈ ks ∧ r.pr.length + r.ex.length ≤ 100) (hrl : rs.length ≤ 100)
    (q : ∀ σ' H' x3 x4 x5 x6, SI K (owf [2]) B (fun c => c = a ∨ c ∈ bs) H0 0 H' σ' (rhoT (recD ks rs w) x3 x4 x5 x6) → σ'[1]? = some (some (.ref a)) → Reg H' a ks bs (needK rs) → En.nx σ' H') :
    tFor (rdI T K (owf [2]) W (.sub (.var 0) (.con (.int 1)))) (gPt K (.many [3, 4, 5, 3, 6, 3])) (tDrop (tBM K "dict" rDUpd (tDGet (tVar 1) (tVar 6)) (tCons (rdE T K (owf [2]) W eKs) tNil))) En σ H := by
  refine ⟨B, fun c => c = a ∨ c ∈ bs, _, fun _ => False, fun d => d = .tup (rs.map Rn.d), ⟨f.fr, rm.ex0 f.ex, xok0⟩, ⟨_, rfl, _, rfl, rfl⟩, fun w hw => ?_⟩
  subst hw
  refine ⟨rs.map Rn.d, rfl, fun J C H1 e1 wk cst hC _ => ?_⟩
  have e1 : Ex 0 H H1 := e1
  have f1 : SI K (owf [2]) B (fun c => c = a ∨ c ∈ bs) H0 0 H1 σ (rhoT (recD ks rs w) none none none none) := f.ext e1
  have lr : (rs.map Rn.d).length = rs.length := List.length_map _
  have cw : Walk J rs.length (fun H => C (U B (fun c => c = a ∨ c ∈ bs)) H) (fun i H x H' => Ex 0 H H' ∧ ∃ d, (rs.map Rn.d)[i]? = some d ∧ Rep K (U B (fun c => c = a ∨ c ∈ bs)) H' d x) :=
    ⟨fun i H hi h => (wk _ H h).1 i (by rw [lr]; exact hi), fun H h => by rw [← lr]; exact (wk _ H h).2.1, fun i H x H' hi h y => (wk _ H h).2.2 i x H' (by rw [lr]; exact hi) y⟩
  refine for_it cw (fun i σ' H' => ∃ x3 x4 x5 x6, SI K (owf [2]) B (fun c => c = a ∨ c ∈ bs) H0 0 H' σ' (rhoT (recD ks rs w) x3 x4 x5 x6) ∧ Stp B (fun c => c = a ∨ c ∈ bs) H1 (fun c => c = a ∨ c ∈ bs) H' ∧ σ'[1]? = some (some (.ref a)) ∧ Reg H' a ks bs (fun k => (rs.take i).foldl (need1 k) []))
    ⟨none, none, none, none, f1, .refl, h1, hr.ex e1⟩ (fun i σ' H' _ h => ?_) (fun i x σ' H' H'' hi h y => ?_) (fun σ' H' h => ?_)
  · obtain ⟨_, _, _, _, _, s', _⟩ := h
    exact cst.kp rfl _ _ _ _ hC s'.keeps s'.gr
  · obtain ⟨x3, x4, x5, x6, f', s', g1, r'⟩ := h
    obtain ⟨e2, d, hd, r⟩ := y
    obtain ⟨rn, hrn⟩ : ∃ rn, rs[i]? = some rn := ⟨_, List.getElem?_eq_getElem hi⟩
    have hdr : d = rn.d := by
      rw [List.getElem?_map, hrn] at hd
      cases hd
      rfl
    subst hdr
    obtain ⟨hgk, hgl⟩ := hg rn (List.mem_of_getElem? hrn)
    have f2 : SI K (owf [2]) B (fun c => c = a ∨ c ∈ bs) H0 0 H'' σ' (rhoT (recD ks rs w) x3 x4 x5 x6) := f'.ext e2
    refine gpt_of f2.fr (R := fun ρ => ρ = rhoT (recD ks rs w) (some rn.fc) (some (.tup (rn.pr.map .str))) (some (.tup (rn.ex.map .str))) (some (.str rn.gl))) (fun i hi => ?_) r ⟨_, rfl, rfl, rfl⟩ fun σ2 ρ2 hρ fr2 hwp => ?_
    · have : i ∈ [3, 4, 5, 3, 6, 3] := hi
      simp only [List.mem_cons, List.not_mem_nil, or_false] at this
      rcases this with z | z | z | z | z | z <;> rw [z] <;> rfl
    subst hρ
    have g2 : σ2[1]? = some (some (.ref a)) := by
      have q1 := hwp [3, 4, 5, 3, 6, 3] fun i hi => hi
      have q2 : (L2.wipe σ2 [3, 4, 5, 3, 6, 3])[1]? = (L2.wipe σ' [3, 4, 5, 3, 6, 3])[1]? := by rw [q1]
      rw [wipe_at (by decide), wipe_at (by decide)] at q2
      rw [q2]
      exact g1
    obtain ⟨y6, hy6, ry6⟩ := fr2.fz 6 (.str rn.gl) rfl rfl
    have ey : y6 = .str rn.gl := ry6
    subst ey
    have f3 : SI K (owf [2]) B (fun c => c = a ∨ c ∈ bs) H0 0 H'' σ2 (rhoT (recD ks rs w) (some rn.fc) (some (.tup (rn.pr.map .str))) (some (.tup (rn.ex.map .str))) (some (.str rn.gl))) := ⟨fr2, f2.ex, f2.fresh, f2.oldB⟩
    have r2 := r'.ex e2
    obtain ⟨j, hj⟩ := List.getElem?_of_mem hgk
    have hjl := (List.getElem?_eq_some_iff.mp hj).1
    obtain ⟨b, hb⟩ : ∃ b, bs[j]? = some b := ⟨_, List.getElem?_eq_getElem (by rw [r2.len]; exact hjl)⟩
    have hbm := List.mem_of_getElem? hb
    have hin := r2.inn j b _ hb hj
    refine ⟨_, g2, _, hy6, a, .ref b, rfl, .inl ⟨kz ks bs, .inr rn.gl, .inl r2.out, rfl, (kz_val nd hj hb).symm⟩, .inr (.inr (.inl ⟨rfl, .inl ⟨_, hin⟩⟩)), B, fun c => c = a ∨ c ∈ bs, _, fun _ => False, fun d => d = .dic (kt1 rn.ks), ⟨fr2, by rw [eks_cost]; exact rm.ex0 f3.ex, xok0⟩, eks_wp hgl rfl, fun dd hdd v H3 e3 r3 => ?_⟩
    rw [eks_cost] at e3
    subst hdd
    obtain ⟨p, rfl, hp, us, hu, ru⟩ := r3.2.2 rfl
    obtain rfl := rep_kt ru
    have hin3 := e3.at hin rfl
    have nbp : b ≠ p := fun z => by rw [z, hp] at hin; cases hin
    have hrt : ∀ r ∈ rs.take i, (r.pr ++ r.ex).length ≤ 100 := fun r hr => by
      rw [List.length_append]
      exact (hg r (List.mem_of_mem_take hr)).2
    refine ⟨b, p, _, _, rfl, rfl, nbp, hin3, hu, ?_, ?_⟩
    · have k1 := need_len 100 (rs.take i) rn.gl [] hrt
      have k2 := ks_len rn
      rw [List.length_append] at k2
      have k3 : (rs.take i).length ≤ rs.length := by rw [List.length_take]; omega
      have k4 : (rs.take i).length * 100 ≤ 100 * 100 := Nat.mul_le_mul_right _ (Nat.le_trans k3 hrl)
      show (kv1 _).length + (kv1 _).length ≤ sizeLine
      rw [show (kv1 ((rs.take i).foldl (need1 rn.gl) [])).length = _ from List.length_map _, show (kv1 rn.ks).length = _ from List.length_map _, sizeLine_eq]
      simp only [List.length_nil] at k1
      omega
    · rw [fold_kv]
      have f4 : SI K (owf [2]) B (fun c => c = a ∨ c ∈ bs) H0 0 H3 σ2 (rhoT (recD ks rs w) (some rn.fc) (some (.tup (rn.pr.map .str))) (some (.tup (rn.ex.map .str))) (some (.str rn.gl))) := f3.ext e3
      obtain ⟨f5, s5⟩ := f4.updR (o' := .dK (kv1 (rn.ks.foldl addK ((rs.take i).foldl (need1 rn.gl) [])))) (.inr hbm) hin3 rfl rfl rfl nw_rho
      have r3 := r2.ex e3
      have nab : a ≠ b := fun z => r3.na (by rw [z]; exact hbm)
      have tk : rs.take (i + 1) = rs.take i ++ [rn] := by
        rw [List.take_succ, hrn]
        rfl
      refine ⟨_, _, _, _, f5, (s'.trans (.of e2)).trans ((Stp.of e3).trans s5), g2, ⟨by rw [upd_ne nab]; exact r3.out, r3.len, r3.nd, r3.na, fun j' b' k' h1' h2' => ?_⟩⟩
      rw [tk, List.foldl_append]
      show _ = some (HO.dK (kv1 (need1 k' ((rs.take i).foldl (need1 k') []) rn)))
      by_cases eb : b' = b
      · subst eb
        have ej : j' = j := (List.getElem?_inj (List.getElem?_eq_some_iff.mp h1').1 r3.nd).mp (h1'.trans hb.symm)
        subst ej
        rw [hj] at h2'
        cases h2'
        rw [upd_same]
        unfold need1
        rw [if_pos rfl]
      · have nk : rn.gl ≠ k' := fun z => by
          subst z
          have ej : j' = j := (List.getElem?_inj (List.getElem?_eq_some_iff.mp h2').1 nd).mp (h2'.trans hj.symm)
          subst ej
          rw [hb] at h1'
          cases h1'
          exact eb rfl
        rw [upd_ne eb, r3.inn j' b' k' h1' h2']
        unfold need1
        rw [if_neg nk]
  · obtain ⟨x3, x4, x5, x6, f', s', g1, r'⟩ := h
    rw [List.take_length] at r'
    exact q σ' H' x3 x4 x5 x6 f' g1 r'
end

/-- what in_turn does: the first two statements done, the rest by its text -/
def mTurn (T : Tb) (b : List S) : DSp := fun ds Q X => ∃ (ks : List Str) (rs : List Rn) (w : D), ds = [recD ks rs w] ∧ ks.Nodup ∧ ks.length ≤ 100 ∧ rs.length ≤ 100 ∧ (∀ r ∈ rs, r.gl ∈ ks ∧ r.pr.length + r.ex.length ≤ 100) ∧
  ∀ x3 x4 x5 x6, wpSs T b [some (recD ks rs w), some (.dic (ks.map fun k => (.inr k, .dic (kt1 (needK rs k))))), none, x3, x4, x5, x6, none, none, none] { nx := fun _ => False, rt := Q, bk := fun _ => False, ct := fun _ => False, xc := X }
theorem rep_needs {K : PySem.W.Frag} {A : AP} {H : Hp} {g : Str → List Key} : ∀ {ks : List Str} {bs : List Addr}, bs.length = ks.length → (∀ b ∈ bs, ¬ A b) → (∀ (j : Nat) (b : Addr) (k : Str), bs[j]? = some b → ks[j]? = some k → H b = some (.dK (kv1 (g k)))) →
    RepK K A H (ks.map fun k => (.inr k, .dic (kt1 (g k)))) (kz ks bs)
  | [], [], _, _, _ => rfl
  | [], _ :: _, h, _, _ => by cases h
  | _ :: _, [], h, _, _ => by cases h
  | k :: ks, b :: bs, h, na, hh => ⟨.ref b, kz ks bs, rfl, ⟨b, _, rfl, na b List.mem_cons_self, .inl (hh 0 b k rfl rfl), kt_rep⟩, rep_needs (Nat.succ.inj h) (fun b hb => na b (List.mem_cons_of_mem _ hb)) fun j b' k' h1 h2 => hh (j + 1) b' k' (by simpa using h1) (by simpa using h2)⟩
section
variable {T : Tb} {L : Nat}
/-- in_turn's text: what is checked -/
def turnB (T : Tb) (scope : Scope) : List Stmt → Option (List Stmt)
  | .Assign [.Name x _] (.DictComp kx (.Dict [] [] _) [⟨tx, ix, [], 0⟩] sc1 _) _ :: .For tt ix2 [.Expr (.Call (.Attribute (.Subscript (.Name x' _) (.Name y _) _) m p8) [z] [] p9) _] [] _ :: rest =>
    if (decide (x = "needed") && (locB scope "needed" && (noSet ix && (tupT (.sub (.var 0) (.con (.int 0))) tx && (blkC Nt scope sc1 [("one", 8)] && (mE T Nt [2] .itr scope (.sub (.var 0) (.con (.int 0))) ix && (mPt Nt [2] (some (sc1, [8])) (relS sc1 scope) (.one 8) tx && (mE T Nt [2] .val (relS sc1 scope) (.var 8) kx
      && (decide (x' = "needed") && (decide (m = "update") && (noSet ix2 && (tupT (.sub (.var 0) (.con (.int 1))) tt && (mE T Nt [2] .itr scope (.sub (.var 0) (.con (.int 1))) ix2 && (mPt Nt [2] none scope (.many [3, 4, 5, 3, 6, 3]) tt
      && (visB scope "needed" && (visB scope "statement" && (noStar z && (mE T Nt [2] .val scope eKs z && ((p8.endLine == p9.line) && decide (y = "statement")))))))))))))))))))) = true then some rest else none
  | _ => none
theorem turn_fn {P : Program} {w : World} {K : PySem.W.Frag} {mg : Str → Option Value} {base : Heap} (tab : TOk P w K mg base T L) {x qual : Str} {params : Arguments} {body rest : List Stmt} {scope : Scope} {kws : List (Str × V)} {f : Addr} {fd : FuncData}
    (F : FunD K x qual params body scope [] kws f fd) (hs : scB Nt (["record"] : List Str) scope = true) (hc : turnB T scope body = some rest) {b : List S} (hr : mSs T Nt [2] scope b rest = true) (hz : dcSs T b = 0) :
    FnG P w K mg base (L + 1) f fd (["record"] : List Str) (spOf K 1 0 (mTurn T b)) := by
  have Sc := sc_of hs
  unfold turnB at hc
  split at hc
  case h_2 => cases hc
  rename_i x1 p1 kx p2 tx ix sc1 p3 p4 tt ix2 x2 p5 y p6 p7 m p8 z p9 p10 p11 rest'
  split at hc
  case isFalse => cases hc
  rename_i hh
  cases hc
  obtain ⟨a1, k⟩ := and2 hh
  obtain ⟨a2, k⟩ := and2 k
  obtain ⟨a3, k⟩ := and2 k
  obtain ⟨a4, k⟩ := and2 k
  obtain ⟨a5, k⟩ := and2 k
  obtain ⟨a6, k⟩ := and2 k
  obtain ⟨a7, k⟩ := and2 k
  obtain ⟨a8, k⟩ := and2 k
  obtain ⟨a9, k⟩ := and2 k
  obtain ⟨a10, k⟩ := and2 k
  obtain ⟨a11, k⟩ := and2 k
  obtain ⟨a12, k⟩ := and2 k
  obtain ⟨a13, k⟩ := and2 k
  obtain ⟨a14, k⟩ := and2 k
  obtain ⟨a15, k⟩ := and2 k
  obtain ⟨a16, k⟩ := and2 k
  obtain ⟨a17, k⟩ := and2 k
  obtain ⟨a18, k⟩ := and2 k
  obtain ⟨a19, a20⟩ := and2 k
  obtain rfl := of_decide_eq_true a1
  obtain rfl := of_decide_eq_true a9
  obtain rfl := of_decide_eq_true a10
  obtain rfl := of_decide_eq_true a20
  refine FnG.body F Sc (fun vs H Q E h => ?_) fun cdv A outer s H vs Q E hro hgu h => ?_
  · obtain ⟨B, ds, Qd, Xd, hl, _⟩ := h
    exact hl
  generalize hW : (fun (cls : Value) (d : Option Addr) (_ : L2.St) (H : Hp) => E cls d H : WX) = W
  generalize hX : cxOf (L2N.CX P w) P w K mg base Nt qual scope f cdv A outer s H E = X
  have G : GoodS T L W X := by
    rw [← hX, ← hW]
    exact ⟨⟨Sc.nd, rfl, hro, hgu, L2N.takes_of rfl rfl rfl rfl, tab⟩, passes_of rfl, fun _ => rfl, Sc.kind, rfl, rfl⟩
  have eN : X.N = Nt := by rw [← hX]; rfl
  have eS : X.env.scope = scope := by rw [← hX]; rfl
  have eK : X.K = K := by rw [← hX]; rfl
  have n1 : X.N[1]? = some ("needed" : Str) := by rw [eN]; rfl
  have n6 : X.N[6]? = some ("statement" : Str) := by rw [eN]; rfl
  have lc : Loc X.env.scope "needed" := by rw [eS]; exact loc_of a2
  have hi1 := sndE (T := T) (L := L) (.sub (.var 0) (.con (.int 0))) .itr scope ix a6 W X G.g eN eS tx a4
  have hi2 := sndE (T := T) (L := L) (.sub (.var 0) (.con (.int 1))) .itr scope ix2 a13 W X G.g eN eS tt a12
  have hzz : PE X z (rdE T X.K (owf [2]) W eKs) := sndE (T := T) (L := L) eKs .val scope z a18 W X G.g eN eS
  have pgx : ∀ s H C cl fp, PG (X.blk s H sc1 (compEnvC sc1 cl C X.env) fp) tx (gPt X.K (.one 8)) := fun s H C cl fp => pg_pt (X := X.blk s H sc1 (compEnvC sc1 cl C X.env) fp) G.g.calm eN G.g.nd (by show relS sc1 X.env.scope = _; rw [eS]) fnof_blk a7
  have pts : ∀ s H C cl fp, PTs (X.blk s H sc1 (compEnvC sc1 cl C X.env) fp) [] (rdTs T X.K (owf [2]) W0 []) := fun s H C cl fp => (sndEs (T := T) (L := L) [] .tst (relS sc1 scope) [] rfl W0 (X.blk s H sc1 (compEnvC sc1 cl C X.env) fp) (G.g.blk ..) eN (by show relS sc1 X.env.scope = _; rw [eS])).2 (by decide) rfl
  have pek : ∀ s H C cl fp, PE (X.blk s H sc1 (compEnvC sc1 cl C X.env) fp) kx (rdE T X.K (owf [2]) W0 (.var 8)) := fun s H C cl fp => sndE (T := T) (L := L) (.var 8) .val (relS sc1 scope) kx a8 W0 (X.blk s H sc1 (compEnvC sc1 cl C X.env) fp) (G.g.blk ..) eN (by show relS sc1 X.env.scope = _; rw [eS])
  have bk : BlkOk X.N X.env.scope sc1 [(("one" : Str), 8)] := by rw [eN, eS]; exact blkOk_by a5
  have S1 : PS X (.Assign [.Name "needed" p1] (.DictComp kx (.Dict [] [] p2) [⟨tx, ix, [], 0⟩] sc1 p3) p4) (tAsg (tDc (rdI T X.K (owf [2]) W (.sub (.var 0) (.con (.int 0)))) (gPt X.K (.one 8)) (rdTs T X.K (owf [2]) W0 []) (rdE T X.K (owf [2]) W0 (.var 8)) tDNewK [8]) (gName 1)) := by
    cases hb : swB X.env.scope sc1 "needed" p1 p3 with
    | true => exact ps_setDc (own := [("one", 8)]) G.g.calm G.g.nd n1 (of_decide_eq_true (and2 (show (decide (X.env.scope.names.lookup ("needed" : Str) = some .local) && _) = true from hb)).1) (by rw [sw_dc G.kind, hb]) hi1 bk pgx pts pek (fun _ _ _ _ _ => pe_dnewK) (fold_of a3)
    | false => exact ps_set G.g.nd n1 lc (pe_dc (own := [("one", 8)]) G.g.calm G.g.nd hi1 bk pgx pts pek (fun _ _ _ _ _ => pe_dnewK) (fold_of a3)) (by rw [sw_dc G.kind, hb]) (.inl (G.fn _))
  have S2 : PS X (.For tt ix2 [.Expr (.Call (.Attribute (.Subscript (.Name "needed" p5) (.Name "statement" p6) p7) "update" p8) [z] [] p9) p10] [] p11) (tFor (rdI T X.K (owf [2]) W (.sub (.var 0) (.con (.int 1)))) (gPt X.K (.many [3, 4, 5, 3, 6, 3])) (tDrop (tBM X.K "dict" rDUpd (tDGet (tVar 1) (tVar 6)) (tCons (rdE T X.K (owf [2]) W eKs) tNil)))) :=
    ps_for G.po G.g.calm hi2 (pg_pt G.g.calm eN G.g.nd eS (show FnOf X none from G.fn) a14) (pss_one (ps_expr (pe_bm PySem.F.plainAttrs_dict PySem.F.slot_dict_update PySem.F.type_dict_update mt_upd (pe_dget (units1 G.g) (pe_var n1 (by rw [eS]; exact vis_of a15)) (pe_var n6 (by rw [eS]; exact vis_of a16)) (nosl_of rfl)) (pa_cons hzz pa_nil (star_of a17)) rfl (by rw [star_of a17]; rfl) a19 (star_of a17) rfl) rfl)) (fold_of a11)
  refine ⟨_, pss_cons S1 (pss_cons S2 (sndSs b scope rest hr W X G eN eS)), ?_⟩
  obtain ⟨B, ds, Qd, Xd, hl, hR, hB, r, ⟨ks, rs, wd, rfl, nd, hk, hrl, hg, hq⟩, hf, hx⟩ := h
  rw [eK]
  have f0 : SI K (owf [2]) B noA H 0 H (L2.start Nt vs) (rhoT (recD ks rs wd) none none none none) := fr_start hB r fun i hi => by rw [own2 hi]; exact (by decide : 1 ≤ 2)
  refine needs_make f0 hR nd hk fun a bs H1 e1 ha hb reg => ?_
  have f1 := f0.region (R := fun c => c = a ∨ c ∈ bs) e1 (fun b hb' => hb'.elim (fun z => by rw [z]; exact ha) (hb b)) (fun b hb' => hb'.elim (fun z => by rw [z]; exact ⟨_, reg.out, rfl⟩) fun z => by
    obtain ⟨j, hj⟩ := List.getElem?_of_mem z
    have hjl := (List.getElem?_eq_some_iff.mp hj).1
    exact ⟨_, reg.inn j b _ hj (List.getElem?_eq_getElem (by rw [← reg.len]; exact hjl)), rfl⟩) nw_rho
  have hlen : 1 < (L2.start Nt vs).length := by rw [f0.fr.len]; exact (by decide : 1 < 10)
  have f2 : SI K (owf [2]) B (fun c => c = a ∨ c ∈ bs) H 0 H1 ((L2.start Nt vs).set 1 (some (.ref a))) (rhoT (recD ks rs wd) none none none none) := ⟨f1.fr.drop 1 (some (.ref a)), f1.ex, f1.fresh, f1.oldB⟩
  refine needs_fill f2 hR nd (List.getElem?_set_self hlen) reg hg hrl fun σ' H' x3 x4 x5 x6 f' g1 reg' => ?_
  have nb : ∀ c, (c = a ∨ c ∈ bs) → ¬ U B noA c := fun c hc z => by
    rcases z with z | z
    · refine f0.oldB c z ?_
      rcases hc with hc | hc
      · rw [hc]; exact ha
      · exact hb c hc
    · exact z
  have rp : Rep K (U B noA) H' (.dic (ks.map fun k => (.inr k, .dic (kt1 (needK rs k))))) (.ref a) := ⟨a, _, rfl, nb a (.inl rfl), .inl reg'.out, rep_needs reg'.len (fun c hc => nb c (.inr hc)) reg'.inn⟩
  have f3 := (f'.free nw_rho).set (i := 1) rfl rp
  rw [set_id g1] at f3
  have z : 0 + dcSs T b ≤ 0 := by rw [hz]; exact Nat.le_refl _
  refine ⟨B, noA, H, 0, 0, 0, 0, 0, _, _, ⟨f3, z, z, z, z, hR⟩, hq x3 x4 x5 x6, ⟨fun _ h => h.elim, fun _ h => h.elim, fun _ h => h.elim, fun d h v H' e r => hf d h v H' e r, fun x h cls d σ' H' e i => ?_⟩⟩
  rw [← hW]
  exact hx x h cls d H' e i
end
end DL

/-! F5: the table grown def by def; the head's own hook; the end -/
namespace DL
open PySem PySem.Spec PyProof.Rows L2 Evl

/-! ### the table -/
def Tb.add (T : Tb) (f : Str) (e : Ent) : Tb := { T with fn := fun x => if x = f then some e else T.fn x }
section
variable {P : Program} {w : World} {K : PySem.W.Frag} {mg : Str → Option Value} {base : Heap} {T : Tb} {L : Nat}
theorem TOk.add (t : TOk P w K mg base T L) {f : Str} {e : Ent} {fa : Addr} {fd : FuncData} {ps : List Str} (hp : ps.length = e.n) (hk : e.k ≤ L + 1) (F : FnG P w K mg base e.k fa fd ps (spOf K e.n e.c e.m)) (hm : mg f = some (.ref fa)) (kp : PySem.W.keepIn K (.ref fa) = true) (hb : Binds K fd ps []) : TOk P w K mg base (T.add f e) (L + 1) := by
  refine ⟨fun g e' h => ?_, t.glob, t.exc, t.free, t.set, t.range, t.enum, t.zip, t.dict, fun h => ⟨Nat.succ_pos L, (t.err h).2⟩⟩
  have h' : (if g = f then some e else T.fn g) = some e' := h
  split at h'
  · rename_i eg
    cases h'
    rw [eg]
    exact ⟨fa, fd, ps, hp, hk, F, hm, kp, hb⟩
  · obtain ⟨fa', fd', ps', h1, h2, h3⟩ := t.fn g e' h'
    exact ⟨fa', fd', ps', h1, Nat.le_succ_of_le h2, h3⟩
theorem spOf_imp {n c : Nat} {m m' : DSp} (h : ∀ ds Q X, m ds Q X → m' ds Q X) (vs : List V) (H : Hp) (Q : VK) (E : XK) (q : spOf K n c m vs H Q E) : spOf K n c m' vs H Q E := by
  obtain ⟨B, ds, Qd, Xd, h1, h2, h3, h4, h5, h6⟩ := q
  exact ⟨B, ds, Qd, Xd, h1, h2, h3, h4, h _ _ _ h5, h6⟩
/-- a def by its text, under a promise of one's own -/
theorem fn_add (t : TOk P w K mg base T L) {x : Str} {params : Arguments} {body : List Stmt} {scope : Scope} {kws : List (Str × V)} {f : Addr} {fd : FuncData} (F : FunD K x x params body scope [] kws f fd) (hm : mg x = some (.ref f)) (N : List Str) (ow : List Nat) (b : List S) (ps : List Str) (m : DSp)
    (hb : Binds K fd ps []) (hs : scB N ps scope = true) (hc : mSs T N ow scope b body = true) (ho : (ow.all fun i => decide (ps.length ≤ i)) = true) (hd : ∀ ds Q X, m ds Q X → wpF T N.length b ds Q X) : TOk P w K mg base (T.add x ⟨L + 1, ps.length, dcSs T b, m⟩) (L + 1) :=
  t.add (e := ⟨L + 1, ps.length, dcSs T b, m⟩) rfl (Nat.le_refl _) ((fn_rule t F hs hc ho).imp (spOf_imp hd)) hm F.kp hb
end
/-! ### facts by a Bool -/
section
variable {K : PySem.W.Frag}
def excCB (K : PySem.W.Frag) (c : Str) : Bool := decide (PySem.W.findIn K (.ref (He.ga K c)) "__getattribute__" = some (some (.builtin "BaseException.__getattribute__"))) && (decide (PySem.W.findIn K (.ref (He.ga K c)) "__getattr__" = some none) && (decide (PySem.W.subIn K (.ref (He.ga K c)) (.type "BaseException") = some true)
  && (PySem.W.hasDictIn K (He.ga K c) && (decide (PySem.W.findIn K (.ref (He.ga K c)) "__class__" = some (some (.builtin "object.__class__"))) && (decide (PySem.W.specialIn K (.builtin "object.__class__") "__get__" = some (some (.builtin "getset_descriptor.__get__"))) && (decide (PySem.W.takesIn K (.builtin "object.__class__") = some true) && decide (PySem.W.mroIn K (He.ga K c) (.type "object") = some true)))))))
def errCB (K : PySem.W.Frag) (c : Str) (j : Nat) : Bool := excCB K c && (decide (PySem.W.kitOne K (.ref (He.ga K c)) (.ref (He.ga K "NotAllowed")) = some (decide (j = 0))) && (decide (PySem.W.kitOne K (.ref (He.ga K c)) (.ref (He.ga K "TooLarge")) = some (decide (j = 1))) && (decide (PySem.W.kitOne K (.ref (He.ga K c)) (.ref (He.ga K "Missing")) = some (decide (j = 2)))
  && (decide (PySem.W.kitOne K (.ref (He.ga K c)) (.ref (He.ga K "BadPaper")) = some (decide (j = 3))) && (decide (PySem.W.kitOne K (.ref (He.ga K c)) (.ref (He.ga K "BadForm")) = some false) && decide (PySem.W.exmOne K (.ref (He.ga K c)) (.ref (He.ga K "SayError")) = some true))))))
theorem errC_of {c : Str} {j : Nat} (h : errCB K c j = true) : ErrC K c j ∧ PySem.W.exmOne K (.ref (He.ga K c)) (.ref (He.ga K "SayError")) = some true := by
  obtain ⟨h0, k⟩ := and2 h
  obtain ⟨h1, k⟩ := and2 k
  obtain ⟨h2, k⟩ := and2 k
  obtain ⟨h3, k⟩ := and2 k
  obtain ⟨h4, k⟩ := and2 k
  obtain ⟨h5, h6⟩ := and2 k
  obtain ⟨e0, k⟩ := and2 h0
  obtain ⟨e1, k⟩ := and2 k
  obtain ⟨e2, k⟩ := and2 k
  obtain ⟨e3, k⟩ := and2 k
  obtain ⟨e4, k⟩ := and2 k
  obtain ⟨e5, k⟩ := and2 k
  obtain ⟨e6, e7⟩ := and2 k
  exact ⟨⟨⟨of_decide_eq_true e0, of_decide_eq_true e1, of_decide_eq_true e2, e3, of_decide_eq_true e4, of_decide_eq_true e5, of_decide_eq_true e6, of_decide_eq_true e7⟩, of_decide_eq_true h1, of_decide_eq_true h2, of_decide_eq_true h3, of_decide_eq_true h4, of_decide_eq_true h5⟩, of_decide_eq_true h6⟩
def errsB (K : PySem.W.Frag) : Bool := errCB K "NotAllowed" 0 && (errCB K "TooLarge" 1 && (errCB K "Missing" 2 && errCB K "BadPaper" 3))
theorem exm_of (h : errsB K = true) (c t : Str) (e : errT c = some t) : PySem.W.exmOne K (.ref (He.ga K c)) (.ref (He.ga K "SayError")) = some true := by
  obtain ⟨h0, k⟩ := and2 h
  obtain ⟨h1, k⟩ := and2 k
  obtain ⟨h2, h3⟩ := and2 k
  unfold errT at e
  split at e
  · rename_i z; rw [z]; exact (errC_of h0).2
  · split at e
    · rename_i z; rw [z]; exact (errC_of h1).2
    · split at e
      · rename_i z; rw [z]; exact (errC_of h2).2
      · split at e
        · rename_i z; rw [z]; exact (errC_of h3).2
        · cases e
theorem excD_of {h : Heap} {mg : Str → Option Value} (X : K.In h) (G : h.Ns mainGlobals mg) {c : Str} (g : (He.Fa.glo c).ok K = true) (e : (He.Fa.exc c).ok K = true) : ExcD K mg c := by
  obtain ⟨h1, h2, h3, h4⟩ := He.exc_ok e
  exact ⟨⟨_, _, _, _, PySem.F.excBase_ValueError, h1⟩, He.glo_ok X G g, h2, h3, h4⟩
end
/-! ### the hook -/
abbrev AlM : Type := He.AlD × Bool
def obsM (fa : List He.Fa) (fn : List He.DefD) (ex : PySem.W.Frag → Bool) (K : PySem.W.Frag) : AlM := (He.obsD fa fn K, ex K)
def obsMG (n : Nat) (fa : List He.Fa) (fn : List He.DefD) (ex : PySem.W.Frag → Bool) (g : Addr → Option Obj) : AlM := obsM fa fn ex (He.frG g (He.asD g n))
def hookM (n : Nat) (fa : List He.Fa) (fn : List He.DefD) (ex : PySem.W.Frag → Bool) : PySem.W.Hook where
  α := AlM
  obs := fun s => obsMG n fa fn ex s.heap.get?
  val := fun _ => (He.valD fn, true)
  says := fun _ h => ∃ K : PySem.W.Frag, K.In h ∧ He.SaysD fa fn K ∧ ex K = true
  of := fun _ _ e => ⟨_, He.frG_in, congrArg (fun z : AlM => z.1) e, congrArg (fun z : AlM => z.2) e⟩
  keeps := fun _ _ _ ⟨K, hK, c⟩ k => ⟨K, PySem.W.Frag.In.keeps hK k, c⟩
theorem obsM_eq {n : Nat} {fa : List He.Fa} {fn : List He.DefD} {ex : PySem.W.Frag → Bool} {g : Addr → Option Obj} {s : Shared} (h : ∀ a, g a = s.heap.get? a) : obsMG n fa fn ex g = (hookM n fa fn ex).obs s := by
  have e : g = s.heap.get? := funext h
  rw [e]
  rfl
/-! ### the end -/
theorem walkM {l : PySem.W.OpenLaw} {n k c : Nat} {q : Program} {loose : List Str} {XP : (Str → Option Value) → Heap → Prop} {YP : World → Heap → Prop} {d : DefRec} {x : Str} {m : DSp} (hn : l.most = some n) (hn2 : n ≤ sizeLine) (hdf : d.params.defaults = []) (hr : Room k callerA) (hc : c ≤ big)
    (F : ∀ (w : World) (mg : Str → Option Value) (fa : Addr) (h : Heap), YP w h → h.Ns mainGlobals mg → mg d.name = some (.ref fa) →
      ∃ (K : PySem.W.Frag) (fd : FuncData), K.In h ∧ (∀ (s : Shared) (u : Value), BindsTo s fd ⟨[u], []⟩ [(x, u)]) ∧ ∀ base : Heap, K.In base → base.Ns mainGlobals mg → FnG l.prog w K mg base k fa fd [x] (spOf K 1 c m))
    (hm : ∀ ns : List Int, ns.length ≤ n → m [.scr ns] (fun d => d = .bl true) fun _ => False) : PySem.W.WalkO q loose XP YP l.row.toRowW d [] (fun f vs => PySem.call f vs) := by
  refine Att.attach_call hn hdf fun w s₀ s₁ mg mb fa o pm cd doc a vs ns G Y ho hd hcd hmg hobj hints hlen hg => ?_
  obtain ⟨K, fd, KX, hb, hF⟩ := F w mg fa _ Y G.T.g hmg
  refine callLaw KX G.T.g G.T.b G.T.builtins G.T.nolimit hg hobj hints (Nat.le_trans hlen hn2) hr hF hb (fun H hx hS => ?_) fun H e s' h => ?_
  · refine ⟨noA, [.scr ns], _, _, rfl, ⟨0, fun b s n e => absurd (hx b _ e) (by unfold StO isX; exact Bool.noConfusion), by omega⟩, fun a z => z.elim, ⟨_, _, rfl, ⟨a, rfl, ?_⟩, rfl⟩, hm ns hlen, fun d hd v H' _ r => ?_, fun _ z => z.elim⟩
    · exact hS.imp (fun ⟨o, e⟩ => ⟨o, fun z => z, e⟩) id
    · rw [hd] at r
      exact r
  · obtain ⟨_, _, _, _, _, _, _, _, _, _, _, _, z⟩ := h
    exact z
end DL

namespace DL
open PySem
def n_is_claim : List Str := ["text", "sign"]
def o_is_claim : List Nat := []
def b_is_claim : List S := [.iff (.or [(.not (.chain .LtE .LtE (.con (.int 1)) (.blt .len [(.var 0)]) (.con (.int 12)))), (.inn true (.sub (.var 0) (.con (.int 0))) (.glob "FIRST"))]) [.ret (.con (.bl false))] [], .ret (.blt .all [(.lc [("sign", 1)] (.one 1) (.var 0) [] (.inn false (.var 1) (.glob "SIGNS")))])]
def n_rising : List Str := ["row", "k"]
def o_rising : List Nat := []
def b_rising : List S := [.ret (.blt .all [(.lc [("k", 1)] (.one 1) (.rng (.bin .Sub (.blt .len [(.var 0)]) (.con (.int 1)))) [] (.cmp .Lt (.sub (.var 0) (.var 1)) (.sub (.var 0) (.bin .Add (.var 1) (.con (.int 1))))))])]
def n_check_reason : List Str := ["statements", "reason", "name", "premises", "exceptions", "side", "statement", "force", "one"]
def o_check_reason : List Nat := []
def b_check_reason : List S := [.asgT (.many [2, 3, 4, 5, 6, 7]) (.var 1), .iff (.or [(.not (.call "is_claim" [(.var 2)])), (.not (.call "rising" [(.var 3)])), (.not (.call "rising" [(.var 4)])), (.inn true (.var 5) (.tup [(.con (.str "pro")), (.con (.str "con"))]))]) [.raise "NotAllowed"] [], .iff (.or [(.not (.blt .all [(.lc [("one", 8)] (.one 8) (.tup [(.star (.var 3)), (.star (.var 4)), (.var 6)]) [] (.inn false (.var 8) (.var 0)))])), (.not (.chain .LtE .LtE (.con (.int 1)) (.var 7) (.glob "MAX_FORCE")))]) [.raise "NotAllowed"] [], .ret (.con .non)]
def n_check_record : List Str := ["record", "reason", "statements", "reasons", "standards", "one", "word"]
def o_check_record : List Nat := []
def b_check_record : List S := [.asgT (.many [2, 3, 4]) (.var 0), .iff (.or [(.cmp .Gt (.blt .len [(.var 2)]) (.glob "MAX_STATEMENTS")), (.cmp .Gt (.blt .len [(.var 3)]) (.glob "MAX_REASONS"))]) [.raise "TooLarge"] [], .iff (.or [(.not (.blt .all [(.lc [("one", 5)] (.one 5) (.var 2) [] (.call "is_claim" [(.var 5)]))])), (.not (.call "rising" [(.var 2)])), (.not (.call "rising" [(.var 3)]))]) [.raise "NotAllowed"] [], .for (.one 1) (.var 3) [.expr (.call "check_reason" [(.var 2), (.var 1)])], .iff (.cmp .NotEq (.blt .len [(.dc [("reason", 1)] (.one 1) (.var 3) [] (.sub (.var 1) (.con (.int 0))) (.con (.bl true)))]) (.blt .len [(.var 3)])) [.raise "NotAllowed"] [], .iff (.or [(.cmp .NotEq (.blt .len [(.var 4)]) (.blt .len [(.var 2)])), (.not (.blt .all [(.lc [("word", 6)] (.one 6) (.var 4) [] (.inn false (.var 6) (.glob "STANDARDS")))]))]) [.raise "NotAllowed"] [], .iff (.cmp .NotEq (.blt .len [(.call "in_turn" [(.var 0)])]) (.blt .len [(.var 2)])) [.raise "NotAllowed"] [], .ret (.con .non)]
def n_in_turn : List Str := ["record", "needed", "found", "_", "premises", "exceptions", "statement", "fresh", "one", "other"]
def o_in_turn : List Nat := [2]
def b_in_turn : List S := [.own 2 (.lst []), .while (.con (.bl true)) [.asg 7 (.lc [("one", 8)] (.one 8) (.sub (.var 0) (.con (.int 0))) [(.and [(.inn true (.var 8) (.own 2)), (.blt .all [(.lck [("other", 9)] (.one 9) (.dget (.var 1) (.var 8)) [] (.inn false (.var 9) (.own 2)))])])] (.var 8)), .iff (.cmp .Eq (.blt .len [(.var 7)]) (.con (.int 0))) [.ret (.own 2)] [], .ext 2 (.var 7)]]
def n_check_audience : List Str := ["record", "audience", "granted", "denied", "one"]
def o_check_audience : List Nat := []
def b_check_audience : List S := [.asgT (.many [2, 3]) (.var 1), .iff (.or [(.not (.call "rising" [(.var 2)])), (.not (.call "rising" [(.var 3)])), (.not (.blt .all [(.lc [("one", 4)] (.one 4) (.tup [(.star (.var 2)), (.star (.var 3))]) [] (.inn false (.var 4) (.sub (.var 0) (.con (.int 0)))))]))]) [.raise "NotAllowed"] [], .iff (.blt .any [(.lc [("one", 4)] (.one 4) (.var 2) [] (.inn false (.var 4) (.var 3)))]) [.raise "NotAllowed"] [], .ret (.con .non)]
def n_check_heard : List Str := ["record", "audience"]
def o_check_heard : List Nat := []
def b_check_heard : List S := [.expr (.call "check_record" [(.var 0)]), .expr (.call "check_audience" [(.var 0), (.var 1)])]
def n_meets : List Str := ["standard", "best", "good", "pro", "con"]
def o_meets : List Nat := []
def b_meets : List S := [.asgT (.many [3, 4]) (.var 1), .iff (.cmp .Eq (.var 0) (.con (.str "hint"))) [.ret (.cmp .Gt (.var 3) (.con (.int 0)))] [], .iff (.cmp .Eq (.var 0) (.con (.str "more"))) [.ret (.cmp .Gt (.var 3) (.var 4))] [], .asg 2 (.and [(.cmp .GtE (.var 3) (.glob "ENOUGH")), (.cmp .GtE (.bin .Sub (.var 3) (.var 4)) (.glob "MARGIN"))]), .ret (.and [(.var 2), (.or [(.cmp .Eq (.var 0) (.con (.str "clear"))), (.cmp .Lt (.var 4) (.glob "DOUBT"))])])]
def n_applies : List Str := ["reason", "held", "one"]
def o_applies : List Nat := []
def b_applies : List S := [.ret (.and [(.blt .all [(.lc [("one", 2)] (.one 2) (.sub (.var 0) (.con (.int 1))) [] (.dget (.var 1) (.var 2)))]), (.not (.blt .any [(.lc [("one", 2)] (.one 2) (.sub (.var 0) (.con (.int 2))) [] (.dget (.var 1) (.var 2)))]))])]
def n_forces : List Str := ["record", "held", "statement", "rows", "reason", "side"]
def o_forces : List Nat := []
def b_forces : List S := [.asg 3 (.lc [("reason", 4)] (.one 4) (.sub (.var 0) (.con (.int 1))) [(.and [(.cmp .Eq (.sub (.var 4) (.con (.int 4))) (.var 2)), (.call "applies" [(.var 4), (.var 1)])])] (.var 4)), .ret (.blt .tuple [(.lc [("side", 5)] (.one 5) (.tup [(.con (.str "pro")), (.con (.str "con"))]) [] (.blt .max [(.bin .Add (.lst [(.con (.int 0))]) (.lc [("reason", 4)] (.one 4) (.var 3) [(.cmp .Eq (.sub (.var 4) (.con (.int 3))) (.var 5))] (.sub (.var 4) (.con (.int 5)))))]))])]
def n_known_held : List Str := ["record", "audience", "standards", "held", "one", "granted", "denied"]
def o_known_held : List Nat := [3]
def b_known_held : List S := [.asgT (.many [5, 6]) (.var 1), .asg 2 (.dictzip (.sub (.var 0) (.con (.int 0))) (.sub (.var 0) (.con (.int 2)))), .own 3 (.dnew false), .for (.one 4) (.call "in_turn" [(.var 0)]) [.iff (.or [(.inn false (.var 4) (.var 5)), (.inn false (.var 4) (.var 6))]) [.setD 3 (.var 4) (.inn false (.var 4) (.var 5))] [.setD 3 (.var 4) (.call "meets" [(.dget (.var 2) (.var 4)), (.call "forces" [(.var 0), (.own 3), (.var 4)])])]], .ret (.own 3)]
def n_check_statement : List Str := ["record", "statement"]
def o_check_statement : List Nat := []
def b_check_statement : List S := [.iff (.inn true (.var 1) (.sub (.var 0) (.con (.int 0)))) [.raise "NotAllowed"] [], .ret (.con .non)]
def n_weighed : List Str := ["record", "audience", "statement"]
def o_weighed : List Nat := []
def b_weighed : List S := [.expr (.call "check_heard" [(.var 0), (.var 1)]), .expr (.call "check_statement" [(.var 0), (.var 2)]), .ret (.call "forces" [(.var 0), (.call "known_held" [(.var 0), (.var 1)]), (.var 2)])]
def n_strictest : List Str := ["record", "audience", "statement", "best", "found", "word"]
def o_strictest : List Nat := []
def b_strictest : List S := [.asg 3 (.call "weighed" [(.var 0), (.var 1), (.var 2)]), .asg 4 (.lc [("word", 5)] (.one 5) (.glob "STANDARDS") [(.call "meets" [(.var 5), (.var 3)])] (.var 5)), .iff (.cmp .Eq (.blt .len [(.var 4)]) (.con (.int 0))) [.raise "Missing"] [], .ret (.sub (.var 4) (.neg (.con (.int 1))))]
def n_least_grants : List Str := ["record", "audience", "statement", "left", "rows", "one", "granted", "denied", "_", "row"]
def o_least_grants : List Nat := []
def b_least_grants : List S := [.expr (.call "check_heard" [(.var 0), (.var 1)]), .expr (.call "check_statement" [(.var 0), (.var 2)]), .asgT (.many [6, 7]) (.var 1), .asg 3 (.lc [("one", 5)] (.one 5) (.sub (.var 0) (.con (.int 0))) [(.and [(.inn true (.var 5) (.var 6)), (.inn true (.var 5) (.var 7)), (.cmp .NotEq (.var 5) (.var 2))])] (.var 5)), .asg 4 (.lst [(.tup [])]), .for (.one 5) (.var 3) [.asg 4 (.bin .Add (.var 4) (.lc [("row", 9)] (.one 9) (.var 4) [] (.tup [(.star (.var 9)), (.var 5)])))], .for (.many [8, 9]) (.blt .sorted [(.lc [("row", 9)] (.one 9) (.var 4) [] (.tup [(.blt .len [(.var 9)]), (.var 9)]))]) [.iff (.dget (.call "known_held" [(.var 0), (.tup [(.blt .tuple [(.blt .sorted [(.lst [(.star (.var 6)), (.star (.var 9))])])]), (.var 7)])]) (.var 2)) [.ret (.var 9)] []], .raise "Missing"]
def n_needless_reasons : List Str := ["record", "audience", "whole", "found", "reason", "kept", "one"]
def o_needless_reasons : List Nat := [3]
def b_needless_reasons : List S := [.expr (.call "check_heard" [(.var 0), (.var 1)]), .asg 2 (.call "known_held" [(.var 0), (.var 1)]), .own 3 (.lst []), .for (.one 4) (.sub (.var 0) (.con (.int 1))) [.asg 5 (.blt .tuple [(.lc [("one", 6)] (.one 6) (.sub (.var 0) (.con (.int 1))) [(.cmp .NotEq (.var 6) (.var 4))] (.var 6))]), .iff (.cmp .Eq (.call "known_held" [(.tup [(.sub (.var 0) (.con (.int 0))), (.var 5), (.sub (.var 0) (.con (.int 2)))]), (.var 1)]) (.var 2)) [.app 3 (.sub (.var 4) (.con (.int 0)))] []], .ret (.blt .tuple [(.own 3)])]
def n__law_same : List Str := ["told", "due"]
def o__law_same : List Nat := []
def b__law_same : List S := [.ret (.cmp .Eq (.blt .repr [(.lst [(.var 0)])]) (.blt .repr [(.lst [(.var 1)])]))]
def n__law_stream : List Str := ["script", "numbers", "cell", "rest", "k", "stirred"]
def o__law_stream : List Nat := [1]
def b__law_stream : List S := [.own 1 (.lst []), .for (.one 2) (.slice (.var 0) none (some (.con (.int 63)))) [.asg 3 (.blt .abs [(.blt .int [(.var 2)])]), .iff (.cmp .GtE (.var 3) (.bin .Pow (.con (.int 10)) (.con (.int 18)))) [.for (.one 4) (.rng (.con (.int 60))) [.app 1 (.bin .Mod (.blt .int [(.var 3)]) (.con (.int 1009))), .asg 3 (.bin .FloorDiv (.var 3) (.con (.int 1009))), .iff (.cmp .Eq (.var 3) (.con (.int 0))) [.brk] []]] [.asg 5 (.bin .Mod (.blt .int [(.var 3)]) (.con (.int 2147483647))), .for (.one 4) (.rng (.con (.int 10))) [.asg 5 (.bin .Mod (.blt .int [(.bin .Add (.bin .Add (.bin .Mult (.var 5) (.con (.int 48271))) (.bin .Mult (.con (.int 7)) (.var 4))) (.con (.int 11)))]) (.con (.int 2147483647))), .app 1 (.bin .Mod (.bin .Mod (.blt .int [(.bin .Add (.bin .Mult (.var 5) (.con (.int 69621))) (.var 4))]) (.con (.int 2147483629))) (.con (.int 1009)))]]], .iff (.cmp .Eq (.blt .len [(.own 1)]) (.con (.int 0))) [.app 1 (.con (.int 0))] [], .ret (.own 1)]
def n__law_subsets : List Str := ["claims", "rows", "claim", "row"]
def o__law_subsets : List Nat := []
def b__law_subsets : List S := [.asg 1 (.lst [(.tup [])]), .for (.one 2) (.var 0) [.asg 1 (.bin .Add (.var 1) (.lc [("row", 3)] (.one 3) (.var 1) [] (.bin .Add (.var 3) (.tup [(.var 2)]))))], .ret (.blt .sorted [(.var 1)])]
def n__law_meets : List Str := ["word", "pro", "con", "clear"]
def o__law_meets : List Nat := []
def b__law_meets : List S := [.asg 3 (.and [(.cmp .GtE (.var 1) (.con (.int 50))), (.cmp .GtE (.var 1) (.bin .Add (.var 2) (.con (.int 20))))]), .ret (.sub (.lst [(.cmp .Gt (.var 1) (.con (.int 0))), (.cmp .Gt (.var 1) (.var 2)), (.var 3), (.and [(.var 3), (.cmp .Lt (.var 2) (.con (.int 20)))])]) (.bm .index (.lst [(.con (.str "hint")), (.con (.str "more")), (.con (.str "clear")), (.con (.str "certain"))]) [(.var 0)]))]
def n__law_record : List Str := ["state", "most", "statements", "reasons", "k", "standards", "at", "premises", "exceptions", "force", "one"]
def o__law_record : List Nat := [3]
def b__law_record : List S := [.asg 2 (.slice (.lst [(.con (.str "a")), (.con (.str "b")), (.con (.str "c")), (.con (.str "d")), (.con (.str "e")), (.con (.str "f"))]) none (some (.bin .Add (.con (.int 2)) (.call "_law_next" [(.var 0), (.bin .Sub (.var 1) (.con (.int 1)))])))), .own 3 (.lst []), .for (.one 4) (.rng (.call "_law_next" [(.var 0), (.con (.int 9))])) [.asg 6 (.call "_law_next" [(.var 0), (.blt .len [(.var 2)])]), .asg 7 (.lc [("one", 10)] (.one 10) (.slice (.var 2) none (some (.var 6))) [(.cmp .Eq (.call "_law_next" [(.var 0), (.con (.int 3))]) (.con (.int 0)))] (.var 10)), .asg 8 (.lc [("one", 10)] (.one 10) (.slice (.var 2) none (some (.var 6))) [(.and [(.inn true (.var 10) (.var 7)), (.cmp .Eq (.call "_law_next" [(.var 0), (.con (.int 6))]) (.con (.int 0)))])] (.var 10)), .asg 9 (.sub (.lst [(.bin .Add (.con (.int 1)) (.call "_law_next" [(.var 0), (.con (.int 99))])), (.sub (.lst [(.con (.int 19)), (.con (.int 20)), (.con (.int 49)), (.con (.int 50)), (.con (.int 51)), (.con (.int 69)), (.con (.int 70)), (.con (.int 71))]) (.call "_law_next" [(.var 0), (.con (.int 8))]))]) (.call "_law_next" [(.var 0), (.con (.int 2))])), .app 3 (.tup [(.bin .Add (.con (.str "r")) (.blt .str [(.bin .Add (.con (.int 10)) (.var 4))])), (.blt .tuple [(.var 7)]), (.blt .tuple [(.var 8)]), (.sub (.lst [(.con (.str "pro")), (.con (.str "pro")), (.con (.str "con"))]) (.call "_law_next" [(.var 0), (.con (.int 3))])), (.sub (.var 2) (.var 6)), (.var 9)])], .asg 5 (.blt .tuple [(.lc [("one", 10)] (.one 10) (.var 2) [] (.sub (.lst [(.con (.str "hint")), (.con (.str "more")), (.con (.str "clear")), (.con (.str "certain"))]) (.call "_law_next" [(.var 0), (.con (.int 4))])))]), .ret (.tup [(.blt .tuple [(.var 2)]), (.blt .tuple [(.own 3)]), (.var 5)])]
def n__law_audience : List Str := ["state", "record", "granted", "one"]
def o__law_audience : List Nat := []
def b__law_audience : List S := [.asg 2 (.blt .tuple [(.lc [("one", 3)] (.one 3) (.sub (.var 1) (.con (.int 0))) [(.cmp .Eq (.call "_law_next" [(.var 0), (.con (.int 4))]) (.con (.int 0)))] (.var 3))]), .ret (.tup [(.var 2), (.blt .tuple [(.lc [("one", 3)] (.one 3) (.sub (.var 1) (.con (.int 0))) [(.and [(.inn true (.var 3) (.var 2)), (.cmp .Eq (.call "_law_next" [(.var 0), (.con (.int 6))]) (.con (.int 0)))])] (.var 3))])])]
def n__law_forces : List Str := ["record", "held", "statement", "best", "name", "premises", "exceptions", "side", "goal", "force", "one"]
def o__law_forces : List Nat := [3]
def b__law_forces : List S := [.own 3 (.lst [(.con (.int 0)), (.con (.int 0))]), .for (.many [4, 5, 6, 7, 8, 9]) (.sub (.var 0) (.con (.int 1))) [.iff (.and [(.cmp .Eq (.var 8) (.var 2)), (.blt .all [(.lc [("one", 10)] (.one 10) (.var 5) [] (.dget (.var 1) (.var 10)))]), (.not (.blt .any [(.lc [("one", 10)] (.one 10) (.var 6) [] (.dget (.var 1) (.var 10)))]))]) [.setL 3 (.blt .int [(.cmp .Eq (.var 7) (.con (.str "con")))]) (.blt .max2 [(.sub (.own 3) (.blt .int [(.cmp .Eq (.var 7) (.con (.str "con")))])), (.var 9)])] []], .ret (.blt .tuple [(.own 3)])]
def n__law_record_held : List Str := ["record", "audience", "held", "turn", "k", "one", "needed", "reason", "pro", "con", "other"]
def o__law_record_held : List Nat := [2, 6]
def b__law_record_held : List S := [.own 2 (.dnew false), .for (.one 3) (.rng (.bin .Add (.blt .len [(.sub (.var 0) (.con (.int 0)))]) (.con (.int 1)))) [.for (.one 4) (.rng (.blt .len [(.sub (.var 0) (.con (.int 0)))])) [.asg 5 (.sub (.sub (.var 0) (.con (.int 0))) (.var 4)), .own 6 (.lst []), .for (.one 7) (.sub (.var 0) (.con (.int 1))) [.ext 6 (.lc [("other", 10)] (.one 10) (.bin .Add (.sub (.var 7) (.con (.int 1))) (.sub (.var 7) (.con (.int 2)))) [(.cmp .Eq (.sub (.var 7) (.con (.int 4))) (.var 5))] (.var 10))], .iff (.and [(.din true (.var 5) (.own 2)), (.blt .all [(.lc [("other", 10)] (.one 10) (.own 6) [] (.din false (.var 10) (.own 2)))])]) [.iff (.or [(.inn false (.var 5) (.sub (.var 1) (.con (.int 0)))), (.inn false (.var 5) (.sub (.var 1) (.con (.int 1))))]) [.setD 2 (.var 5) (.inn false (.var 5) (.sub (.var 1) (.con (.int 0))))] [.asgT (.many [8, 9]) (.call "_law_forces" [(.var 0), (.own 2), (.var 5)]), .setD 2 (.var 5) (.call "_law_meets" [(.sub (.sub (.var 0) (.con (.int 2))) (.var 4)), (.var 8), (.var 9)])]] []]], .ret (.own 2)]
def n__law_told : List Str := ["kind", "record", "audience", "statement", "e"]
def o__law_told : List Nat := []
def b__law_told : List S := [.try [.iff (.cmp .Eq (.var 0) (.con (.int 2))) [.ret (.tup [(.con (.str "told")), (.call "needless_reasons" [(.var 1), (.var 2)])])] [], .ret (.tup [(.con (.str "told")), (.pick (.sub (.lst [(.glob "strictest"), (.glob "least_grants")]) (.var 0)) [(.var 1), (.var 2), (.var 3)])])] 4]
def n_law : List Str := ["script", "state", "words", "turn", "record", "audience", "kept", "held", "one", "needless", "reason", "odd", "met", "due", "left", "dues", "less", "pro", "con", "size", "row", "word", "other", "kind", "more"]
def o_law : List Nat := [9]
def b_law : List S := [.asg 1 (.newst (.call "_law_stream" [(.var 0)])), .asg 2 (.lst [(.con (.str "hint")), (.con (.str "more")), (.con (.str "clear")), (.con (.str "certain"))]), .for (.one 3) (.rng (.con (.int 4))) [.asg 4 (.call "_law_record" [(.var 1), (.con (.int 6))]), .asg 5 (.call "_law_audience" [(.var 1), (.var 4)]), .asg 6 (.blt .repr [(.tup [(.var 4), (.var 5)])]), .asg 7 (.call "_law_record_held" [(.var 4), (.var 5)]), .for (.one 8) (.slice (.rev (.sub (.var 4) (.con (.int 0)))) none (some (.con (.int 3)))) [.asgT (.many [17, 18]) (.call "_law_forces" [(.var 4), (.var 7), (.var 8)]), .asg 12 (.lc [("word", 21)] (.one 21) (.var 2) [(.call "_law_meets" [(.var 21), (.var 17), (.var 18)])] (.var 21)), .iff (.cmp .NotEq (.var 12) (.slice (.var 2) none (some (.blt .len [(.var 12)])))) [.ret (.con (.bl false))] [], .asg 13 (.con (.str "missing")), .asg 14 (.lc [("other", 22)] (.one 22) (.sub (.var 4) (.con (.int 0))) [(.inn true (.var 22) (.bin .Add (.bin .Add (.sub (.var 5) (.con (.int 0))) (.sub (.var 5) (.con (.int 1)))) (.tup [(.var 8)])))] (.var 22)), .for (.many [19, 20]) (.blt .sorted [(.lc [("more", 24)] (.one 24) (.call "_law_subsets" [(.var 14)]) [] (.tup [(.blt .len [(.var 24)]), (.var 24)]))]) [.iff (.and [(.cmp .Eq (.var 13) (.con (.str "missing"))), (.dget (.call "_law_record_held" [(.var 4), (.tup [(.blt .tuple [(.blt .sorted [(.bin .Add (.sub (.var 5) (.con (.int 0))) (.var 20))])]), (.sub (.var 5) (.con (.int 1)))])]) (.var 8))]) [.asg 13 (.tup [(.con (.str "told")), (.var 20)])] []], .asg 15 (.lst [(.con (.str "missing")), (.var 13)]), .iff (.cmp .Gt (.blt .len [(.var 12)]) (.con (.int 0))) [.asg 15 (.lst [(.tup [(.con (.str "told")), (.sub (.var 12) (.neg (.con (.int 1))))]), (.var 13)])] [], .iff (.not (.call "_law_same" [(.lc [("kind", 23)] (.one 23) (.rng (.con (.int 2))) [] (.call "_law_told" [(.var 23), (.var 4), (.var 5), (.var 8)])), (.var 15)])) [.ret (.con (.bl false))] []], .own 9 (.lst []), .for (.one 10) (.sub (.var 4) (.con (.int 1))) [.asg 16 (.tup [(.sub (.var 4) (.con (.int 0))), (.blt .tuple [(.lc [("one", 8)] (.one 8) (.sub (.var 4) (.con (.int 1))) [(.cmp .NotEq (.var 8) (.var 10))] (.var 8))]), (.sub (.var 4) (.con (.int 2)))]), .iff (.cmp .Eq (.call "_law_record_held" [(.var 16), (.var 5)]) (.var 7)) [.app 9 (.sub (.var 10) (.con (.int 0)))] []], .iff (.not (.call "_law_same" [(.call "_law_told" [(.con (.int 2)), (.var 4), (.var 5), (.con (.str ""))]), (.tup [(.con (.str "told")), (.blt .tuple [(.own 9)])])])) [.ret (.con (.bl false))] [], .asg 11 (.bin .Add (.lc [("kind", 23)] (.one 23) (.rng (.con (.int 2))) [] (.call "_law_told" [(.var 23), (.var 4), (.var 5), (.con (.str "nobody"))])) (.lc [("kind", 23)] (.one 23) (.rng (.con (.int 3))) [] (.call "_law_told" [(.var 23), (.var 4), (.tup [(.tup [(.con (.str "nobody"))]), (.tup [])]), (.con (.str "a"))]))), .iff (.or [(.cmp .NotEq (.var 11) (.bin .Mult (.lst [(.con (.str "refused"))]) (.con (.int 5)))), (.cmp .NotEq (.blt .repr [(.tup [(.var 4), (.var 5)])]) (.var 6))]) [.ret (.con (.bl false))] []], .ret (.con (.bl true))]
end DL

/-! P0: plain data: small data, comparisons, walks -/
namespace DL
open PySem

def okS (x : Str) : Bool := PyData.canLay0 (.str x) && decide (x.length ≤ 12)
def okN (w : Nat) : Nat → D → Bool
  | _, .non => true
  | _, .bl _ => true
  | _, .int i => decide (i.natAbs ≤ 1000)
  | _, .str x => okS x
  | n + 1, .tup l => decide (l.length ≤ w) && l.all fun d => okN w n d
  | n + 1, .lst l => decide (l.length ≤ w) && l.all fun d => okN w n d
  | n + 1, .kt l => decide (l.length ≤ w) && l.all fun d => okN w n d
  | _, _ => false
def wt (w : Nat) : Nat → Nat
  | 0 => 12
  | n + 1 => w * (wt w n + 1) + 12
structure GoodP (n W : Nat) (p : PyData) : Prop where
  cl : PyData.canLay0 p = true
  dp : p.depth ≤ n
  wg : p.weight ≤ W
  sh : p.intsShort 13 = true
  sw : p.showable = true
theorem wt_le {w n : Nat} : 12 ≤ wt w n := by
  cases n with
  | zero => exact Nat.le_refl _
  | succ n => unfold wt; omega
theorem short_int {i : Int} (h : i.natAbs ≤ 1000) : (PyData.int i).intsShort 13 = true := by
  obtain ⟨n, rfl | rfl⟩ := Int.eq_nat_or_neg i
  · have : ∀ n : _root_.Fin 1001, (PyData.int (n.val : Int)).intsShort 13 = true := by decide +kernel
    exact this ⟨n, by simpa using Nat.lt_succ_of_le h⟩
  · have : ∀ n : _root_.Fin 1001, (PyData.int (-(n.val : Int))).intsShort 13 = true := by decide +kernel
    exact this ⟨n, by simpa using Nat.lt_succ_of_le h⟩
theorem weight_int {i : Int} (h : i.natAbs ≤ 1000) : (PyData.int i).weight ≤ 12 := by
  unfold PyData.weight
  split
  · omega
  · rename_i h0
    have h1 : i.natAbs < 2 ^ 10 := by omega
    have : i.natAbs.log2 < 10 := (Nat.log2_lt (by
      intro z
      apply h0
      simp at z
      simp [z])).mpr h1
    omega
theorem show_int {i : Int} (h : i.natAbs ≤ 1000) : (PyData.int i).showable = true := by
  unfold PyData.showable
  refine decide_eq_true ?_
  by_cases z : i.natAbs = 0
  · rw [z]
    decide
  · have : i.natAbs.log2 < 10 := (Nat.log2_lt z).mpr (by omega)
    omega
mutual
theorem okN_py {w : Nat} : ∀ (n : Nat) (d : D), okN w n d = true → ∃ p, toPy d = some p ∧ GoodP n (wt w n) p
  | n, .non, _ => ⟨.none, rfl, rfl, Nat.zero_le _, by simp [PyData.weight], rfl, rfl⟩
  | n, .bl b, _ => ⟨.bool b, rfl, rfl, Nat.zero_le _, by simp [PyData.weight], rfl, rfl⟩
  | n, .int i, h => by
    have h : i.natAbs ≤ 1000 := by
      cases n <;> exact of_decide_eq_true h
    exact ⟨.int i, rfl, rfl, Nat.zero_le _, Nat.le_trans (weight_int h) wt_le, short_int h, show_int h⟩
  | n, .str x, h => by
    have h : okS x = true := by
      cases n <;> exact h
    obtain ⟨h1, h2⟩ := and2 h
    exact ⟨.str x, rfl, h1, Nat.zero_le _, by
      have := of_decide_eq_true h2
      have : x.cps.size ≤ 12 := this
      simp only [PyData.weight]
      exact Nat.le_trans this wt_le, rfl, rfl⟩
  | n + 1, .tup l, h => by
    obtain ⟨h1, h2⟩ := and2 (show (decide (l.length ≤ w) && l.all fun d => okN w n d) = true from h)
    obtain ⟨ps, e, g1, g2, g3, g4, g5⟩ := okN_pys n l fun d hd => List.all_eq_true.mp h2 d hd
    refine ⟨.tuple ps, by show (toPy.toPyL l).map PyData.tuple = _; rw [e]; rfl, ?_, ?_, ?_, ?_, ?_⟩
    · simpa only [PyData.canLay0] using g1
    · simp only [PyData.depth]; omega
    · simp only [PyData.weight]
      have := of_decide_eq_true h1
      have : l.length * (wt w n + 1) ≤ w * (wt w n + 1) := Nat.mul_le_mul_right _ this
      unfold wt
      omega
    · simpa only [PyData.intsShort] using g4
    · simpa only [PyData.showable] using g5
  | n + 1, .lst l, h => by
    obtain ⟨h1, h2⟩ := and2 (show (decide (l.length ≤ w) && l.all fun d => okN w n d) = true from h)
    obtain ⟨ps, e, g1, g2, g3, g4, g5⟩ := okN_pys n l fun d hd => List.all_eq_true.mp h2 d hd
    refine ⟨.list ps, by show (toPy.toPyL l).map PyData.list = _; rw [e]; rfl, ?_, ?_, ?_, ?_, ?_⟩
    · simpa only [PyData.canLay0] using g1
    · simp only [PyData.depth]; omega
    · simp only [PyData.weight]
      have := of_decide_eq_true h1
      have : l.length * (wt w n + 1) ≤ w * (wt w n + 1) := Nat.mul_le_mul_right _ this
      unfold wt
      omega
    · simpa only [PyData.intsShort] using g4
    · simpa only [PyData.showable] using g5
  | n + 1, .kt l, h => by
    obtain ⟨h1, h2⟩ := and2 (show (decide (l.length ≤ w) && l.all fun d => okN w n d) = true from h)
    obtain ⟨ps, e, g1, g2, g3, g4, g5⟩ := okN_pys n l fun d hd => List.all_eq_true.mp h2 d hd
    refine ⟨.tuple ps, by show (toPy.toPyL l).map PyData.tuple = _; rw [e]; rfl, ?_, ?_, ?_, ?_, ?_⟩
    · simpa only [PyData.canLay0] using g1
    · simp only [PyData.depth]; omega
    · simp only [PyData.weight]
      have := of_decide_eq_true h1
      have : l.length * (wt w n + 1) ≤ w * (wt w n + 1) := Nat.mul_le_mul_right _ this
      unfold wt
      omega
    · simpa only [PyData.intsShort] using g4
    · simpa only [PyData.showable] using g5
  | 0, .tup _, h => by cases h
  | 0, .lst _, h => by cases h
  | 0, .kt _, h => by cases h
  | n, .dic _, h => by cases n <;> cases h
  | n, .dit _, h => by cases n <;> cases h
  | n, .obj _ _, h => by cases n <;> cases h
  | n, .fn _, h => by cases n <;> cases h
  | n, .st, h => by cases n <;> cases h
  | n, .scr _, h => by cases n <;> cases h
theorem okN_pys {w : Nat} (n : Nat) : ∀ (l : List D), (∀ d ∈ l, okN w n d = true) → ∃ ps, toPy.toPyL l = some ps ∧ PyData.canLayAll0 ps = true ∧ PyData.depthAll ps ≤ n ∧ PyData.weightAll ps ≤ l.length * (wt w n + 1) ∧ PyData.intsShortAll 13 ps = true ∧ PyData.showableAll ps = true
  | [], _ => ⟨[], rfl, rfl, Nat.zero_le _, by simp [PyData.weightAll], rfl, rfl⟩
  | d :: l, h => by
    obtain ⟨p, e, g1, g2, g3, g4, g5⟩ := okN_py n d (h d List.mem_cons_self)
    obtain ⟨ps, e', k1, k2, k3, k4, k5⟩ := okN_pys n l fun d hd => h d (List.mem_cons_of_mem _ hd)
    refine ⟨p :: ps, ?_, ?_, ?_, ?_, ?_, ?_⟩
    · show (match toPy d, toPy.toPyL l with
        | some p, some q => some (p :: q)
        | _, _ => none) = _
      rw [e, e']
    · simp only [PyData.canLayAll0, g1, k1]; rfl
    · simp only [PyData.depthAll]; omega
    · simp only [PyData.weightAll, List.length_cons, Nat.succ_mul]; omega
    · simp only [PyData.intsShortAll, g4, k4]; rfl
    · simp only [PyData.showableAll, g5, k5]; rfl
end
theorem GoodP.shaped {n W : Nat} {p : PyData} (g : GoodP n W p) (h : n ≤ 64) : SeqAt.shaped p = true := by
  unfold SeqAt.shaped
  rw [g.cl, decide_eq_true (Nat.le_trans g.dp h)]
  rfl
theorem GoodP.repr {n W : Nat} {p : PyData} (g : GoodP n W p) (h : n ≤ 60) (hw : W ≤ 1048576) : p.showable = true ∧ p.hasDict = false ∧ p.depth ≤ 60 ∧ p.shown.length ≤ sizeLine := by
  have l : PyData.layable0 p = true := by
    unfold PyData.layable0
    rw [g.cl, decide_eq_true (show p.depth ≤ 64 from Nat.le_trans g.dp (by omega)), decide_eq_true (show p.weight ≤ 2 ^ 20 from Nat.le_trans g.wg hw)]
    rfl
  refine ⟨g.sw, PyData.hasDict_of_canLay p g.cl, Nat.le_trans g.dp h, Nat.le_trans (PyProof.Rows.shown_le13 l g.sh) ?_⟩
  rw [sizeLine_eq]
  omega
/-! ### comparisons -/
theorem shEq_of {p q : PyData} (h : SeqAt.shaped p = true) : shEq p q = true := by
  cases p <;> cases q <;> first | rfl | exact h
section
variable {Q : DK}
theorem eq_self {w n : Nat} {x : D} (hn : n ≤ 60) (h : okN w n x = true) (q : Q (.bl true)) : cmpD .Eq x x Q := by
  obtain ⟨p, e, g⟩ := okN_py n x h
  have : cmpD .Eq x x Q = ∃ p q, toPy x = some p ∧ toPy x = some q ∧ shEq p q = true ∧ shEq q p = true ∧ Q (.bl (PyData.eqv p q)) := by
    cases x with
    | dic l => cases n <;> cases h
    | _ => rfl
  rw [this]
  exact ⟨p, p, e, e, shEq_of (g.shaped (by omega)), shEq_of (g.shaped (by omega)), by rw [SeqAt.eqv_refl p g.cl]; exact q⟩
theorem ne_self {w n : Nat} {x : D} (hn : n ≤ 60) (h : okN w n x = true) (q : Q (.bl false)) : cmpD .NotEq x x Q := by
  obtain ⟨p, e, g⟩ := okN_py n x h
  have : cmpD .NotEq x x Q = ∃ p q, toPy x = some p ∧ toPy x = some q ∧ shEq p q = true ∧ shEq q p = true ∧ Q (.bl (!PyData.eqv p q)) := by
    cases x <;> rfl
  rw [this]
  exact ⟨p, p, e, e, shEq_of (g.shaped (by omega)), shEq_of (g.shaped (by omega)), by rw [SeqAt.eqv_refl p g.cl]; exact q⟩
theorem sh_str {x : Str} (h : okS x = true) : SeqAt.shaped (.str x) = true := by
  have h1 : PyData.canLay0 (.str x) = true := (and2 h).1
  unfold SeqAt.shaped
  rw [h1]
  rfl
theorem eqv_str (a b : Str) : PyData.eqv (.str a) (.str b) = decide (a = b) := by
  simp only [PyData.eqv]
  rw [Bool.eq_iff_iff]
  simp
theorem eq_str {a b : Str} (ha : okS a = true) (hb : okS b = true) (q : Q (.bl (decide (a = b)))) : cmpD .Eq (.str a) (.str b) Q :=
  ⟨_, _, rfl, rfl, rfl, rfl, by rw [eqv_str]; exact q⟩
theorem eq_int {i j : Int} (q : Q (.bl (decide (i = j)))) : cmpD .Eq (.int i) (.int j) Q :=
  ⟨_, _, rfl, rfl, rfl, rfl, by
    have : PyData.eqv (.int i) (.int j) = decide (i = j) := by
      simp only [PyData.eqv]
      rw [Bool.eq_iff_iff]
      simp
    rw [this]; exact q⟩
theorem ne_int {i j : Int} (q : Q (.bl (!decide (i = j)))) : cmpD .NotEq (.int i) (.int j) Q :=
  ⟨_, _, rfl, rfl, rfl, rfl, by
    have : PyData.eqv (.int i) (.int j) = decide (i = j) := by
      simp only [PyData.eqv]
      rw [Bool.eq_iff_iff]
      simp
    rw [this]; exact q⟩
theorem toPy_strs : ∀ l : List Str, toPy.toPyL (l.map .str) = some (l.map PyData.str)
  | [] => rfl
  | x :: l => by
    show (match toPy (.str x), toPy.toPyL (l.map .str) with
        | some p, some q => some (p :: q)
        | _, _ => none) = _
    rw [toPy_strs l]
    rfl
theorem sh_strs {l : List Str} (h : ∀ x ∈ l, okS x = true) : SeqAt.shaped (.list (l.map PyData.str)) = true := by
  have h1 : ∀ l : List Str, (∀ x ∈ l, okS x = true) → PyData.canLayAll0 (l.map PyData.str) = true ∧ PyData.depthAll (l.map PyData.str) = 0 := by
    intro l
    induction l with
    | nil => exact fun _ => ⟨rfl, rfl⟩
    | cons x l ih =>
      intro h
      obtain ⟨k1, k2⟩ := ih fun x hx => h x (List.mem_cons_of_mem _ hx)
      have h2 : PyData.canLay0 (.str x) = true := (and2 (h x List.mem_cons_self)).1
      constructor
      · simp only [List.map_cons, PyData.canLayAll0, h2, k1]; rfl
      · simp only [List.map_cons, PyData.depthAll, k2]; rfl
  obtain ⟨k1, k2⟩ := h1 l h
  unfold SeqAt.shaped
  simp only [PyData.canLay0, PyData.depth, k1, k2]
  rfl
instance decMemS (x : Str) (l : List Str) : Decidable (x ∈ l) := inferInstance
theorem any_strs (x : Str) (l : List Str) : ((l.map PyData.str).any fun z => PyData.eqv z (.str x)) = decide (x ∈ l) := by
  induction l with
  | nil => rfl
  | cons y l ih =>
    rw [List.map_cons, List.any_cons, ih, eqv_str]
    by_cases h : y = x
    · simp [h]
    · have h' : ¬ x = y := fun z => h z.symm
      simp [h, h']
theorem inn_tup {neg : Bool} {x : Str} {l : List Str} (hx : okS x = true) (hl : ∀ y ∈ l, okS y = true) (q : Q (.bl (negB neg (decide (x ∈ l))))) : innD neg (.str x) (.tup (l.map .str)) Q :=
  ⟨_, _, rfl, toPy_strs l, sh_str hx, sh_strs hl, by rw [any_strs]; exact q⟩
theorem inn_lst {neg : Bool} {x : Str} {l : List Str} (hx : okS x = true) (hl : ∀ y ∈ l, okS y = true) (q : Q (.bl (negB neg (decide (x ∈ l))))) : innD neg (.str x) (.lst (l.map .str)) Q :=
  ⟨_, _, rfl, toPy_strs l, sh_str hx, sh_strs hl, by rw [any_strs]; exact q⟩
theorem inn_kt {neg : Bool} {x : Str} {l : List Str} (hx : okS x = true) (hl : ∀ y ∈ l, okS y = true) (q : Q (.bl (negB neg (decide (x ∈ l))))) : innD neg (.str x) (.kt (l.map .str)) Q :=
  ⟨_, _, rfl, toPy_strs l, sh_str hx, sh_strs hl, by rw [any_strs]; exact q⟩
theorem bf_all {α : Type} {xs : List α} {p : α → Bool} (q : Q (.bl (xs.all p))) : bfD .all [.lst (xs.map fun x => .bl (p x))] Q :=
  ⟨xs.map p, by rw [List.map_map]; rfl, by
    have : (xs.map p).all id = xs.all p := by rw [List.all_map]; rfl
    rw [this]; exact q⟩
theorem bf_any {α : Type} {xs : List α} {p : α → Bool} (q : Q (.bl (xs.any p))) : bfD .any [.lst (xs.map fun x => .bl (p x))] Q :=
  ⟨xs.map p, by rw [List.map_map]; rfl, by
    have : (xs.map p).any id = xs.any p := by rw [List.any_map]; rfl
    rw [this]; exact q⟩
end
/-! ### walks that give lists -/
section
variable {α : Type} {Q : List D → Prop}
theorem lcW_t (enc : α → D) (p : α → Bool) (f : α → D) {step : D → (Option D → Prop) → Prop} : ∀ (xs : List α) (acc : List D), acc.length + xs.length ≤ sizeLine → (∀ x ∈ xs, ∀ R : Option D → Prop, R (if p x = true then some (f x) else none) → step (enc x) R) →
    Q (acc ++ (xs.filter p).map f) → lcW step (xs.map enc) acc Q
  | [], acc, _, _, q => by
    show Q acc
    simpa using q
  | x :: xs, acc, hl, hs, q => by
    rw [List.length_cons] at hl
    refine ⟨by omega, hs x List.mem_cons_self _ ?_⟩
    by_cases h : p x = true
    · rw [if_pos h]
      refine lcW_t enc p f xs (acc ++ [f x]) (by rw [List.length_append]; simp only [List.length_cons, List.length_nil]; omega) (fun y hy => hs y (List.mem_cons_of_mem _ hy)) ?_
      rw [List.filter_cons_of_pos h] at q
      simpa using q
    · rw [if_neg h]
      refine lcW_t enc p f xs acc (by omega) (fun y hy => hs y (List.mem_cons_of_mem _ hy)) ?_
      rw [List.filter_cons_of_neg h] at q
      exact q
theorem lcW_m (enc : α → D) (f : α → D) {step : D → (Option D → Prop) → Prop} (xs : List α) (hl : xs.length ≤ 1000) (hs : ∀ x ∈ xs, ∀ R : Option D → Prop, R (some (f x)) → step (enc x) R) (q : Q (xs.map f)) : lcW step (xs.map enc) [] Q :=
  lcW_t enc (fun _ => true) f xs [] (by rw [sizeLine_eq]; simp only [List.length_nil]; omega) (fun x hx R r => hs x hx R r) (by rw [List.filter_eq_self.mpr fun _ _ => rfl]; simpa using q)
theorem lcW_f (enc : α → D) (p : α → Bool) (f : α → D) {step : D → (Option D → Prop) → Prop} (xs : List α) (hl : xs.length ≤ 1000) (hs : ∀ x ∈ xs, ∀ R : Option D → Prop, R (if p x = true then some (f x) else none) → step (enc x) R) (q : Q ((xs.filter p).map f)) : lcW step (xs.map enc) [] Q :=
  lcW_t enc p f xs [] (by rw [sizeLine_eq]; simp only [List.length_nil]; omega) hs (by simpa using q)
theorem lcW_any (enc : α → D) (f : α → D) (c : α → Bool) {step : D → (Option D → Prop) → Prop} : ∀ (xs : List α) (acc : List D), acc.length + xs.length ≤ sizeLine → (∀ x ∈ xs, ∀ R : Option D → Prop, R none → (c x = true → R (some (f x))) → step (enc x) R) →
    (∀ ys : List α, ys.Sublist (xs.filter c) → Q (acc ++ ys.map f)) → lcW step (xs.map enc) acc Q
  | [], acc, _, _, q => by
    show Q acc
    simpa using q [] (List.Sublist.refl _)
  | x :: xs, acc, hl, hs, q => by
    rw [List.length_cons] at hl
    refine ⟨by omega, hs x List.mem_cons_self _ ?_ fun hc => ?_⟩
    · refine lcW_any enc f c xs acc (by omega) (fun y hy => hs y (List.mem_cons_of_mem _ hy)) fun ys h => q ys ?_
      by_cases hc : c x = true
      · rw [List.filter_cons_of_pos hc]; exact h.cons x
      · rw [List.filter_cons_of_neg hc]; exact h
    · refine lcW_any enc f c xs (acc ++ [f x]) (by rw [List.length_append]; simp only [List.length_cons, List.length_nil]; omega) (fun y hy => hs y (List.mem_cons_of_mem _ hy)) fun ys h => ?_
      have := q (x :: ys) (by rw [List.filter_cons_of_pos hc]; exact h.cons₂ x)
      simpa using this
theorem lcW_each (enc : α → D) {β : Type} (g : β → D) (S : β → Prop) {step : D → (Option D → Prop) → Prop} : ∀ (xs : List α) (acc : List D), acc.length + xs.length ≤ sizeLine → (∀ x ∈ xs, ∀ R : Option D → Prop, (∀ y, S y → R (some (g y))) → step (enc x) R) →
    (∀ ys : List β, ys.length = xs.length → (∀ y ∈ ys, S y) → Q (acc ++ ys.map g)) → lcW step (xs.map enc) acc Q
  | [], acc, _, _, q => by
    show Q acc
    simpa using q [] rfl (fun y hy => absurd hy List.not_mem_nil)
  | x :: xs, acc, hl, hs, q => by
    rw [List.length_cons] at hl
    refine ⟨by omega, hs x List.mem_cons_self _ fun y hy => ?_⟩
    refine lcW_each enc g S xs (acc ++ [g y]) (by rw [List.length_append]; simp only [List.length_cons, List.length_nil]; omega) (fun y hy => hs y (List.mem_cons_of_mem _ hy)) fun ys h1 h2 => ?_
    have := q (y :: ys) (by rw [List.length_cons, List.length_cons, h1]) (fun z hz => (List.mem_cons.mp hz).elim (fun e => by rw [e]; exact hy) (h2 z))
    simpa using this
end
theorem iteT {c : Bool} {P R : Prop} (h : c = true) (p : P) : if c = true then P else R := by
  rw [if_pos h]
  exact p
theorem iteF {c : Bool} {P R : Prop} (h : c = false) (p : R) : if c = true then P else R := by
  rw [h]
  exact p
theorem iteB {c : Bool} {P R : Prop} (p : c = true → P) (r : c = false → R) : if c = true then P else R := by
  cases c with
  | true => exact p rfl
  | false => exact r rfl
theorem at_nat {α : Type} (l : List α) (i : Nat) : L2.atI l (i : Int) = l[i]? := by
  unfold L2.atI L2.ixN
  rw [if_pos (by omega)]
  by_cases h : i < l.length
  · rw [if_pos (by omega)]
    simp
  · rw [if_neg (by omega)]
    simp
    omega
theorem at_lit {α : Type} {l : List α} {k : Int} (i : Nat) (h : k = (i : Int)) {x : α} (e : l[i]? = some x) : L2.atI l k = some x := by
  rw [h, at_nat, e]
theorem bl_map {α : Type} (p : α → Bool) (xs : List α) : (xs.map fun x => D.bl (p x)) = (xs.map p).map .bl := by
  rw [List.map_map]
  rfl
theorem all_id {α : Type} (p : α → Bool) (xs : List α) : (xs.map p).all id = xs.all p := by
  rw [List.all_map]
  rfl
theorem any_id {α : Type} (p : α → Bool) (xs : List α) : (xs.map p).any id = xs.any p := by
  rw [List.any_map]
  rfl
theorem eqv_int (i j : Int) : PyData.eqv (.int i) (.int j) = decide (i = j) := by
  simp only [PyData.eqv]
  rw [Bool.eq_iff_iff]
  simp
end DL

/-! P1: the records of k53: what each def does -/
namespace DL
open PySem
open L2 (Key)

def firstL : List Nat := ("abcdefghijklmnopqrstuvwxyz" : Str).cps.toList
def signsL : List Nat := ("abcdefghijklmnopqrstuvwxyz0123456789" : Str).cps.toList
def digL : List Nat := ("0123456789" : Str).cps.toList
def claimB (x : Str) : Bool := match x.cps.toList with
  | [] => false
  | c :: l => decide (c ∈ firstL) && (c :: l).all fun c => decide (c ∈ signsL)
theorem ok_len {x : Str} (h : okS x = true) : x.length ≤ 12 := of_decide_eq_true (and2 h).2
theorem ok_line {x : Str} (h : okS x = true) : x.length ≤ sizeLine := by
  have := ok_len h
  rw [sizeLine_eq]
  omega
theorem len_list (x : Str) : x.length = x.cps.toList.length := by
  show x.cps.size = _
  simp
section
variable {T : Tb}
def mClaim : DSp := fun ds Q _ => ∃ x, ds = [.str x] ∧ okS x = true ∧ Q (.bl (claimB x))
theorem pl_claim (g1 : T.glob "FIRST" = some (.str "abcdefghijklmnopqrstuvwxyz")) (g2 : T.glob "SIGNS" = some (.str "abcdefghijklmnopqrstuvwxyz0123456789")) (ds : List D) (Q : DK) (X : EK) (h : mClaim ds Q X) : wpF T n_is_claim.length b_is_claim ds Q X := by
  obtain ⟨x, rfl, ok, q⟩ := h
  have hl := ok_len ok
  have hz := ok_line ok
  have he := len_list x
  have rest : ∀ c l, x.cps.toList = c :: l → Q (.bl ((c :: l).all fun c => decide (c ∈ signsL))) → wpSs T [.ret (.blt .all [(.lc [("sign", 1)] (.one 1) (.var 0) [] (.inn false (.var 1) (.glob "SIGNS")))])] [some (.str x), none] { nx := fun _ => Q .non, rt := Q, bk := fun _ => False, ct := fun _ => False, xc := X } := by
    intro c l e q
    refine ⟨_, rfl, _, rfl, .inl rfl, lcW_m (fun c => D.str ⟨#[c]⟩) (fun c => .bl (decide (c ∈ signsL))) x.cps.toList (by omega) (fun c hc R r => ?_) (bf_all ?_)⟩
    · exact ⟨_, rfl, _, g2, c, rfl, r⟩
    · rw [e]
      exact q
  cases e : x.cps.toList with
  | nil =>
    have hx : claimB x = false := by unfold claimB; rw [e]
    rw [hx] at q
    rw [e] at he
    have h0 : x.length = 0 := he
    exact ⟨_, rfl, hz, _, rfl, iteF (decide_eq_false (by omega)) ⟨_, rfl, _, rfl, iteT rfl ⟨_, rfl, iteT rfl q⟩⟩⟩
  | cons c l =>
    have h0 : x.length = (c :: l).length := by rw [he, e]
    rw [List.length_cons] at h0
    have hx : claimB x = (decide (c ∈ firstL) && (c :: l).all fun c => decide (c ∈ signsL)) := by unfold claimB; rw [e]
    rw [hx] at q
    refine ⟨_, rfl, hz, _, rfl, iteT (decide_eq_true (by omega)) ⟨_, rfl, _, rfl, iteF (by rw [decide_eq_true (show (x.length : Int) ≤ 12 by omega)]; rfl) ⟨_, rfl, c, hz, by rw [e]; exact at_lit 0 rfl rfl, _, g1, c, rfl, _, rfl, iteB (fun hc => ?_) (fun hc => ?_)⟩⟩⟩
    · have hc : (!decide (c ∈ firstL)) = true := hc
      rw [Bool.not_eq_true'] at hc
      rw [hc, Bool.false_and] at q
      exact q
    · have hc : (!decide (c ∈ firstL)) = false := hc
      rw [Bool.not_eq_false'] at hc
      rw [hc, Bool.true_and] at q
      exact rest c l e q
/-! ### calls -/
def Has (T : Tb) (f : Str) (n : Nat) (m : DSp) : Prop := ∃ k c, T.fn f = some ⟨k, n, c, m⟩
theorem call_ok {f : Str} {n : Nat} {m : DSp} {ds : List D} {es : List E} {Q : DK} {X : EK} (h : Has T f n m) (hn : ds.length = n) (ho : es.any ownB = false) (q : m ds Q X) :
    ∃ e, T.fn f = some e ∧ ds.length = e.n ∧ e.m ds (fun d => (es.any ownB = true → flatD d = true) ∧ Q d) X := by
  obtain ⟨k, c, e⟩ := h
  refine ⟨_, e, hn, ?_⟩
  have : (fun d => (es.any ownB = true → flatD d = true) ∧ Q d) = Q := by
    funext d
    rw [ho]
    simp
  rw [this]
  exact q
/-! ### rising -/
def ltD : D → D → Bool
  | .str a, .str b => decide (a.cps.toList < b.cps.toList)
  | .tup a, .tup b => (match toPy.toPyL a, toPy.toPyL b with
    | some p, some q => PySem.W.dataLt (.tuple p) (.tuple q)
    | _, _ => false)
  | _, _ => false
def risB (l : List D) : Bool := (List.range (l.length - 1)).all fun k => match l[k]?, l[k + 1]? with
  | some x, some y => ltD x y
  | _, _ => false
def LtOk (l : List D) : Prop := ∀ x ∈ l, ∀ y ∈ l, ∀ R : DK, R (.bl (ltD x y)) → cmpD .Lt x y R
theorem lt_strs (l : List Str) : LtOk (l.map .str) := fun x hx y hy R r => by
  obtain ⟨a, _, rfl⟩ := List.mem_map.mp hx
  obtain ⟨b, _, rfl⟩ := List.mem_map.mp hy
  exact r
def mRising : DSp := fun ds Q _ => ∃ l, ds = [.tup l] ∧ l.length ≤ 100 ∧ LtOk l ∧ Q (.bl (risB l))
theorem pl_rising (ds : List D) (Q : DK) (X : EK) (h : mRising ds Q X) : wpF T n_rising.length b_rising ds Q X := by
  obtain ⟨l, rfl, hl, lo, q⟩ := h
  have hn : (((l.length : Int) - 1)).toNat = l.length - 1 := by omega
  have big : (2 : Int) ^ 62 = 4611686018427387904 := by decide
  refine ⟨_, rfl, _, rfl, by omega, by omega, _, rfl, .inr ?_, lcW_m (fun k : Nat => D.int (0 + (k : Int))) (fun k => .bl (match l[k]?, l[k + 1]? with
    | some x, some y => ltD x y
    | _, _ => false)) (List.range ((l.length : Int) - 1).toNat) (by rw [List.length_range]; omega) (fun k hk R r => ?_) (bf_all ?_)⟩
  · rw [List.length_map, List.length_range]
    unfold wkL
    omega
  · rw [List.mem_range] at hk
    have h1 : k < l.length := by omega
    have h2 : k + 1 < l.length := by omega
    refine ⟨_, rfl, _, rfl, l[k], at_lit k (by omega) (List.getElem?_eq_getElem h1), _, rfl, _, rfl, l[k + 1], at_lit (k + 1) (by omega) (List.getElem?_eq_getElem h2), lo _ (List.getElem_mem h1) _ (List.getElem_mem h2) _ ?_⟩
    rw [List.getElem?_eq_getElem h1, List.getElem?_eq_getElem h2] at r
    exact r
  · rw [hn]
    exact q
end
/-! ### records -/
structure Rs where
  nm : Str
  pr : List Str
  ex : List Str
  sd : Str
  gl : Str
  fc : Int
def Rs.d (r : Rs) : D := .tup [.str r.nm, .tup (r.pr.map .str), .tup (r.ex.map .str), .str r.sd, .str r.gl, .int r.fc]
structure Rc where
  st : List Str
  rs : List Rs
  sd : List Str
def Rc.d (c : Rc) : D := .tup [.tup (c.st.map .str), .tup (c.rs.map Rs.d), .tup (c.sd.map .str)]
structure Rs.Ok (r : Rs) : Prop where
  nm : okS r.nm = true
  pr : ∀ x ∈ r.pr, okS x = true
  ex : ∀ x ∈ r.ex, okS x = true
  sd : okS r.sd = true
  gl : okS r.gl = true
  lp : r.pr.length ≤ 12
  le : r.ex.length ≤ 12
  fc : r.fc.natAbs ≤ 1000
structure Rc.Ok (c : Rc) : Prop where
  st : ∀ x ∈ c.st, okS x = true
  sd : ∀ x ∈ c.sd, okS x = true
  rs : ∀ r ∈ c.rs, r.Ok
  l1 : c.st.length ≤ 12
  l2 : c.rs.length ≤ 25
  l3 : c.sd.length ≤ 12
structure Glb (T : Tb) : Prop where
  first : T.glob "FIRST" = some (.str "abcdefghijklmnopqrstuvwxyz")
  signs : T.glob "SIGNS" = some (.str "abcdefghijklmnopqrstuvwxyz0123456789")
  mst : T.glob "MAX_STATEMENTS" = some (.int 10)
  mre : T.glob "MAX_REASONS" = some (.int 20)
  mfo : T.glob "MAX_FORCE" = some (.int 99)
  eno : T.glob "ENOUGH" = some (.int 50)
  mar : T.glob "MARGIN" = some (.int 20)
  dou : T.glob "DOUBT" = some (.int 20)
  std : T.glob "STANDARDS" = some (.kt [.str "hint", .str "more", .str "clear", .str "certain"])
def refused : Exn := ⟨"NotAllowed", none⟩
def tooLarge : Exn := ⟨"TooLarge", none⟩
section
variable {T : Tb}
/-! ### check_reason -/
def inB (st l : List Str) : Bool := l.all fun x => decide (x ∈ st)
def reasonB (st : List Str) (r : Rs) : Bool := claimB r.nm && (risB (r.pr.map .str) && (risB (r.ex.map .str) && (decide (r.sd ∈ (["pro", "con"] : List Str)) && (inB st (r.pr ++ (r.ex ++ [r.gl])) && (decide (1 ≤ r.fc) && decide (r.fc ≤ 99))))))
def mReason : DSp := fun ds Q X => ∃ st r, ds = [.tup (st.map .str), Rs.d r] ∧ (∀ x ∈ st, okS x = true) ∧ r.Ok ∧ (reasonB st r = true → Q .non) ∧ (reasonB st r = false → X refused)
theorem okS_lit {x : Str} (h : okS x = true := by decide +kernel) : okS x = true := h
theorem pl_reason (g : Glb T) (h1 : Has T "is_claim" 1 mClaim) (h2 : Has T "rising" 1 mRising) (ds : List D) (Q : DK) (X : EK) (h : mReason ds Q X) : wpF T n_check_reason.length b_check_reason ds Q X := by
  obtain ⟨st, r, rfl, os, or, qt, qf⟩ := h
  have np : ∀ l : List Str, (l.map D.str).length = l.length := fun l => List.length_map _
  have lp := or.lp
  have le := or.le
  unfold reasonB at qt qf
  refine ⟨_, rfl, _, rfl, rfl, _, rfl, call_ok h1 rfl rfl ⟨_, rfl, or.nm, _, rfl, _, rfl, iteB (fun e => ?_) fun e => ?_⟩⟩
  · refine ⟨_, rfl, iteT rfl (qf ?_)⟩
    rw [Bool.not_eq_true'] at e
    rw [e, Bool.false_and]
  rw [Bool.not_eq_false'] at e
  rw [e, Bool.true_and] at qt qf
  refine ⟨_, rfl, call_ok h2 rfl rfl ⟨_, rfl, by rw [np]; omega, lt_strs _, _, rfl, _, rfl, iteB (fun e => ?_) fun e => ?_⟩⟩
  · refine ⟨_, rfl, iteT rfl (qf ?_)⟩
    rw [Bool.not_eq_true'] at e
    rw [e, Bool.false_and]
  rw [Bool.not_eq_false'] at e
  rw [e, Bool.true_and] at qt qf
  refine ⟨_, rfl, call_ok h2 rfl rfl ⟨_, rfl, by rw [np]; omega, lt_strs _, _, rfl, _, rfl, iteB (fun e => ?_) fun e => ?_⟩⟩
  · refine ⟨_, rfl, iteT rfl (qf ?_)⟩
    rw [Bool.not_eq_true'] at e
    rw [e, Bool.false_and]
  rw [Bool.not_eq_false'] at e
  rw [e, Bool.true_and] at qt qf
  refine ⟨_, rfl, by rw [sizeLine_eq]; decide, inn_tup (l := ["pro", "con"]) or.sd (by decide +kernel) ⟨_, rfl, iteB (fun e => ?_) fun e => ?_⟩⟩
  · have e : (!decide (r.sd ∈ (["pro", "con"] : List Str))) = true := e
    rw [Bool.not_eq_true'] at e
    refine qf ?_
    rw [e, Bool.false_and]
  have e : (!decide (r.sd ∈ (["pro", "con"] : List Str))) = false := e
  rw [Bool.not_eq_false'] at e
  rw [e, Bool.true_and] at qt qf
  have hcat : r.pr.map D.str ++ (r.ex.map D.str ++ [D.str r.gl]) = (r.pr ++ (r.ex ++ [r.gl])).map D.str := by simp
  have okall : ∀ x ∈ r.pr ++ (r.ex ++ [r.gl]), okS x = true := fun x hx => by
    rcases List.mem_append.mp hx with hx | hx
    · exact or.pr x hx
    · rcases List.mem_append.mp hx with hx | hx
      · exact or.ex x hx
      · rw [List.mem_singleton.mp hx]
        exact or.gl
  have hlen : (r.pr ++ (r.ex ++ [r.gl])).length ≤ 25 := by
    rw [List.length_append, List.length_append]
    simp only [List.length_cons, List.length_nil]
    omega
  refine ⟨_, rfl, _, .inl rfl, _, rfl, _, .inl rfl, _, rfl, ?_, _, rfl, .inr ?_, ?_⟩
  · show (r.pr.map D.str ++ (r.ex.map D.str ++ [D.str r.gl])).length ≤ _
    rw [hcat, List.length_map, sizeLine_eq]
    omega
  · show (r.pr.map D.str ++ (r.ex.map D.str ++ [D.str r.gl])).length ≤ _
    rw [hcat, List.length_map]
    unfold wkL
    omega
  show lcW _ (r.pr.map D.str ++ (r.ex.map D.str ++ [D.str r.gl])) [] _
  rw [hcat]
  refine lcW_m D.str (fun x => .bl (decide (x ∈ st))) (r.pr ++ (r.ex ++ [r.gl])) (by omega) (fun x hx R k => ⟨_, rfl, _, rfl, inn_tup (okall x hx) os k⟩) ⟨_, bl_map _ _, _, rfl, _, rfl, iteB (fun e => ?_) fun e => ?_⟩
  · refine ⟨_, rfl, iteT rfl (qf ?_)⟩
    rw [all_id] at e
    have e : (!inB st (r.pr ++ (r.ex ++ [r.gl]))) = true := e
    rw [Bool.not_eq_true'] at e
    rw [e, Bool.false_and]
  rw [all_id] at e
  have e : (!inB st (r.pr ++ (r.ex ++ [r.gl]))) = false := e
  rw [Bool.not_eq_false'] at e
  rw [e, Bool.true_and] at qt qf
  refine ⟨_, rfl, _, rfl, iteB (fun e1 => ?_) fun e1 => ?_⟩
  · rw [e1, Bool.true_and] at qt qf
    refine ⟨_, g.mfo, _, rfl, _, rfl, iteB (fun e2 => ?_) fun e2 => ?_⟩
    · rw [Bool.not_eq_true'] at e2
      exact qf e2
    · rw [Bool.not_eq_false'] at e2
      exact qt e2
  · rw [e1, Bool.false_and] at qf
    exact ⟨_, rfl, _, rfl, iteT rfl (qf rfl)⟩
/-! ### check_statement, meets -/
def mStatement : DSp := fun ds Q X => ∃ (c : Rc) (s : Str), ds = [c.d, .str s] ∧ c.Ok ∧ okS s = true ∧ (s ∈ c.st → Q .non) ∧ (s ∉ c.st → X refused)
theorem pl_statement (ds : List D) (Q : DK) (X : EK) (h : mStatement ds Q X) : wpF T n_check_statement.length b_check_statement ds Q X := by
  obtain ⟨c, s, rfl, oc, os, qt, qf⟩ := h
  refine ⟨_, rfl, _, rfl, _, at_lit 0 rfl rfl, inn_tup os oc.st ⟨_, rfl, iteB (fun e => ?_) fun e => ?_⟩⟩
  · have e : (!decide (s ∈ c.st)) = true := e
    simp at e
    exact qf e
  · have e : (!decide (s ∈ c.st)) = false := e
    simp at e
    exact qt e
def meetsB (w : Str) (p c : Int) : Bool := if w = "hint" then decide (0 < p) else if w = "more" then decide (c < p) else (decide (50 ≤ p) && decide (20 ≤ p - c)) && (decide (w = "clear") || decide (c < 20))
def mMeets : DSp := fun ds Q _ => ∃ (w : Str) (p c : Int), ds = [.str w, .tup [.int p, .int c]] ∧ okS w = true ∧ Q (.bl (meetsB w p c))
theorem pl_meets (g : Glb T) (ds : List D) (Q : DK) (X : EK) (h : mMeets ds Q X) : wpF T n_meets.length b_meets ds Q X := by
  obtain ⟨w, p, c, rfl, ow, q⟩ := h
  unfold meetsB at q
  refine ⟨_, rfl, _, rfl, rfl, _, rfl, _, _, rfl, rfl, rfl, rfl, _, rfl, iteB (fun e => ?_) fun e => ?_⟩
  · rw [eqv_str] at e
    rw [if_pos (of_decide_eq_true e)] at q
    exact ⟨_, rfl, q⟩
  · rw [eqv_str] at e
    rw [if_neg (of_decide_eq_false e)] at q
    refine ⟨_, rfl, _, _, rfl, rfl, rfl, rfl, _, rfl, iteB (fun e => ?_) fun e => ?_⟩
    · rw [eqv_str] at e
      rw [if_pos (of_decide_eq_true e)] at q
      exact ⟨_, rfl, _, rfl, q⟩
    · rw [eqv_str] at e
      rw [if_neg (of_decide_eq_false e)] at q
      have tail : ∀ b : Bool, (decide (50 ≤ p) && decide (20 ≤ p - c)) = b → wpSs T [.ret (.and [(.var 2), (.or [(.cmp .Eq (.var 0) (.con (.str "clear"))), (.cmp .Lt (.var 4) (.glob "DOUBT"))])])] [some (.str w), some (.tup [.int p, .int c]), some (.bl b), some (.int p), some (.int c)] { nx := fun _ => Q .non, rt := Q, bk := fun _ => False, ct := fun _ => False, xc := X } := by
        intro b hb
        rw [hb] at q
        refine ⟨_, rfl, _, rfl, iteB (fun e => ?_) fun e => ?_⟩
        · rw [e, Bool.true_and] at q
          refine ⟨_, rfl, _, _, rfl, rfl, rfl, rfl, _, rfl, iteB (fun e => ?_) fun e => ?_⟩
          · rw [eqv_str] at e
            rw [e, Bool.true_or] at q
            exact q
          · rw [eqv_str] at e
            rw [e, Bool.false_or] at q
            exact ⟨_, rfl, _, g.dou, q⟩
        · rw [e, Bool.false_and] at q
          exact q
      refine ⟨_, rfl, _, g.eno, _, rfl, iteB (fun e => ?_) fun e => ?_⟩
      · refine ⟨_, rfl, _, rfl, _, g.mar, ?_⟩
        refine tail _ ?_
        have e : decide (50 ≤ p) = true := e
        rw [e, Bool.true_and]
      · refine tail false ?_
        have e : decide (50 ≤ p) = false := e
        rw [e, Bool.false_and]
/-! ### applies, forces -/
def appB (hv : Str → Bool) (r : Rs) : Bool := r.pr.all hv && !(r.ex.any hv)
def Hold (l : List (Key × D)) (hv : Str → Bool) (xs : List Str) : Prop := ∀ x ∈ xs, valD l (.inr x) = some (.bl (hv x))
def mApplies : DSp := fun ds Q _ => ∃ (r : Rs) (l : List (Key × D)) (hv : Str → Bool), ds = [r.d, .dic l] ∧ r.Ok ∧ Hold l hv (r.pr ++ r.ex) ∧ Q (.bl (appB hv r))
theorem pl_applies (ds : List D) (Q : DK) (X : EK) (h : mApplies ds Q X) : wpF T n_applies.length b_applies ds Q X := by
  obtain ⟨r, l, hv, rfl, or, ho, q⟩ := h
  have lp := or.lp
  have le := or.le
  unfold appB at q
  have wk : ∀ l : List Str, l.length ≤ 12 → (l.map D.str).length ≤ wkL := fun l hl => by
    rw [List.length_map]
    unfold wkL
    omega
  refine ⟨_, rfl, _, at_lit 1 rfl rfl, _, rfl, .inr (wk _ lp), lcW_m D.str (fun x => .bl (hv x)) r.pr (by omega) (fun x hx R k => ?_) ⟨_, bl_map _ _, _, rfl, iteB (fun e => ?_) fun e => ?_⟩⟩
  · exact ⟨_, rfl, _, rfl, _, _, rfl, ho x (List.mem_append_left _ hx), k⟩
  · rw [all_id] at e
    rw [e, Bool.true_and] at q
    refine ⟨_, rfl, _, at_lit 2 rfl rfl, _, rfl, .inr (wk _ le), lcW_m D.str (fun x => .bl (hv x)) r.ex (by omega) (fun x hx R k => ?_) ⟨_, bl_map _ _, _, rfl, by rw [any_id]; exact q⟩⟩
    exact ⟨_, rfl, _, rfl, _, _, rfl, ho x (List.mem_append_right _ hx), k⟩
  · rw [all_id] at e
    rw [e, Bool.false_and] at q
    exact q
end
end DL

/-! P2: forces, audiences -/
namespace DL
open PySem
open L2 (Key)

/-! ### the best force -/
def best1 (hv : Str → Bool) (s side : Str) (b : Int) (r : Rs) : Int := if (decide (r.gl = s) && appB hv r) && decide (r.sd = side) then max b r.fc else b
def bestF (rs : List Rs) (hv : Str → Bool) (s side : Str) : Int := rs.foldl (best1 hv s side) 0
theorem max_ge : ∀ (xs : List Int) (a : Int), a ≤ xs.foldl max a ∧ ∀ y ∈ xs, y ≤ xs.foldl max a
  | [], a => ⟨Int.le_refl _, fun y hy => absurd hy List.not_mem_nil⟩
  | x :: xs, a => by
    obtain ⟨h1, h2⟩ := max_ge xs (max a x)
    rw [List.foldl_cons]
    refine ⟨by omega, fun y hy => ?_⟩
    rcases List.mem_cons.mp hy with e | e
    · rw [e]; omega
    · exact h2 y e
theorem max_mem : ∀ (xs : List Int) (a : Int), xs.foldl max a = a ∨ xs.foldl max a ∈ xs
  | [], a => .inl rfl
  | x :: xs, a => by
    rw [List.foldl_cons]
    rcases max_mem xs (max a x) with h | h
    · rw [h]
      rcases Int.le_total a x with z | z
      · rw [Int.max_eq_right z]; exact .inr List.mem_cons_self
      · rw [Int.max_eq_left z]; exact .inl rfl
    · exact .inr (List.mem_cons_of_mem _ h)
theorem max_uniq {xs : List Int} {m : Int} (h1 : m ∈ (0 : Int) :: xs) (h2 : ∀ y, y ∈ (0 : Int) :: xs → y ≤ m) : m = xs.foldl max 0 := by
  obtain ⟨k1, k2⟩ := max_ge xs 0
  have a : m ≤ xs.foldl max 0 := (List.mem_cons.mp h1).elim (fun e => by rw [e]; exact k1) (k2 m)
  have b : xs.foldl max 0 ≤ m := (max_mem xs 0).elim (fun e => by rw [e]; exact h2 0 List.mem_cons_self) fun h => h2 _ (List.mem_cons_of_mem _ h)
  omega
theorem best_filter {hv : Str → Bool} {s side : Str} : ∀ (rs : List Rs) (b : Int), rs.foldl (best1 hv s side) b = (((rs.filter fun r => decide (r.gl = s) && appB hv r).filter fun r => decide (r.sd = side)).map Rs.fc).foldl max b
  | [], b => rfl
  | r :: rs, b => by
    rw [List.foldl_cons, best_filter rs]
    by_cases h1 : (decide (r.gl = s) && appB hv r) = true
    · rw [List.filter_cons_of_pos (p := fun (r : Rs) => decide (r.gl = s) && appB hv r) h1]
      by_cases h2 : decide (r.sd = side) = true
      · rw [List.filter_cons_of_pos (p := fun (r : Rs) => decide (r.sd = side)) h2, List.map_cons, List.foldl_cons]
        unfold best1
        rw [if_pos (by rw [h1, h2]; rfl)]
      · rw [List.filter_cons_of_neg (p := fun (r : Rs) => decide (r.sd = side)) h2]
        unfold best1
        rw [if_neg (by rw [h1, Bool.true_and]; exact h2)]
    · rw [List.filter_cons_of_neg (p := fun (r : Rs) => decide (r.gl = s) && appB hv r) h1]
      unfold best1
      rw [if_neg (fun z => h1 (and2 z).1)]
section
variable {T : Tb}
def mForces : DSp := fun ds Q _ => ∃ (c : Rc) (l : List (Key × D)) (hv : Str → Bool) (s : Str), ds = [c.d, .dic l, .str s] ∧ c.Ok ∧ okS s = true ∧ (∀ r ∈ c.rs, r.gl = s → Hold l hv (r.pr ++ r.ex)) ∧ Q (.tup [.int (bestF c.rs hv s "pro"), .int (bestF c.rs hv s "con")])
theorem pl_forces (ha : Has T "applies" 2 mApplies) (ds : List D) (Q : DK) (X : EK) (h : mForces ds Q X) : wpF T n_forces.length b_forces ds Q X := by
  obtain ⟨c, l, hv, s, rfl, oc, os, ho, q⟩ := h
  have l2 := oc.l2
  have wk : ∀ l : List Rs, l.length ≤ 25 → (l.map Rs.d).length ≤ wkL := fun l hl => by
    rw [List.length_map]
    unfold wkL
    omega
  refine ⟨_, rfl, _, at_lit 1 rfl rfl, _, rfl, .inr (wk _ l2), lcW_f Rs.d (fun r => decide (r.gl = s) && appB hv r) Rs.d c.rs (by omega) (fun r hr R k => ?_) ?_⟩
  · refine ⟨_, rfl, _, at_lit 4 rfl rfl, _, rfl, _, _, rfl, rfl, rfl, rfl, _, rfl, iteB (fun e => ?_) fun e => ?_⟩
    · rw [eqv_str] at e
      rw [e, Bool.true_and] at k
      refine ⟨_, rfl, _, rfl, call_ok ha rfl rfl ⟨r, l, hv, rfl, oc.rs r hr, ho r hr (of_decide_eq_true e), _, rfl, iteB (fun e2 => ?_) fun e2 => ?_⟩⟩
      · rw [if_pos e2] at k
        exact ⟨_, rfl, k⟩
      · rw [if_neg (by rw [e2]; exact Bool.false_ne_true)] at k
        exact k
    · rw [eqv_str] at e
      rw [e, Bool.false_and, if_neg Bool.false_ne_true] at k
      exact ⟨_, rfl, k⟩
  · generalize hrows : (c.rs.filter fun r => decide (r.gl = s) && appB hv r) = rows
    have hm : ∀ r ∈ rows, r ∈ c.rs := fun r hr => by
      rw [← hrows] at hr
      exact (List.mem_filter.mp hr).1
    have hrl : rows.length ≤ 25 := by
      rw [← hrows]
      exact Nat.le_trans (List.length_filter_le _ _) l2
    refine ⟨by rw [sizeLine_eq]; decide, _, rfl, .inr (by unfold wkL; decide), lcW_m D.str (fun side => .int (((rows.filter fun r => decide (r.sd = side)).map Rs.fc).foldl max 0)) (["pro", "con"] : List Str) (by decide) (fun side hs R k => ?_) ?_⟩
    · have oside : okS side = true := by
        have : ∀ x ∈ (["pro", "con"] : List Str), okS x = true := by decide +kernel
        exact this side hs
      refine ⟨by rw [sizeLine_eq]; decide, _, rfl, _, rfl, .inr (wk _ hrl), lcW_f Rs.d (fun r => decide (r.sd = side)) (fun r => .int r.fc) rows (by omega) (fun r hr R2 k2 => ?_) ?_⟩
      · refine ⟨_, rfl, _, at_lit 3 rfl rfl, _, rfl, _, _, rfl, rfl, rfl, rfl, _, rfl, iteB (fun e => ?_) fun e => ?_⟩
        · rw [eqv_str] at e
          rw [if_pos e] at k2
          exact ⟨_, rfl, _, at_lit 5 rfl rfl, k2⟩
        · rw [eqv_str] at e
          rw [if_neg (by rw [e]; exact Bool.false_ne_true)] at k2
          exact k2
      · have hf : (rows.filter fun r => decide (r.sd = side)).length ≤ 25 := Nat.le_trans (List.length_filter_le _ _) hrl
        refine ⟨by rw [List.length_map, sizeLine_eq]; simp only [List.length_cons, List.length_nil]; omega, 0 :: (rows.filter fun r => decide (r.sd = side)).map Rs.fc, by rw [List.map_cons, List.map_map]; rfl, Nat.succ_pos _, fun m h1 h2 => ?_⟩
        rw [max_uniq h1 h2]
        exact k
    · unfold bestF at q
      rw [best_filter, best_filter, hrows] at q
      exact q
/-! ### audiences -/
def audD (g d : List Str) : D := .tup [.tup (g.map .str), .tup (d.map .str)]
structure AudOk (g d : List Str) : Prop where
  og : ∀ x ∈ g, okS x = true
  od : ∀ x ∈ d, okS x = true
  lg : g.length ≤ 12
  ld : d.length ≤ 12
def audB (st g d : List Str) : Bool := risB (g.map .str) && (risB (d.map .str) && (inB st (g ++ d) && !(g.any fun x => decide (x ∈ d))))
def mAudience : DSp := fun ds Q X => ∃ (c : Rc) (g d : List Str), ds = [c.d, audD g d] ∧ c.Ok ∧ AudOk g d ∧ (audB c.st g d = true → Q .non) ∧ (audB c.st g d = false → X refused)
theorem pl_audience (h2 : Has T "rising" 1 mRising) (ds : List D) (Q : DK) (X : EK) (h : mAudience ds Q X) : wpF T n_check_audience.length b_check_audience ds Q X := by
  obtain ⟨c, g, d, rfl, oc, oa, qt, qf⟩ := h
  have np : ∀ l : List Str, (l.map D.str).length = l.length := fun l => List.length_map _
  have lg := oa.lg
  have ld := oa.ld
  unfold audB at qt qf
  refine ⟨_, rfl, _, rfl, rfl, _, rfl, call_ok h2 rfl rfl ⟨_, rfl, by rw [np]; omega, lt_strs _, _, rfl, _, rfl, iteB (fun e => ?_) fun e => ?_⟩⟩
  · refine ⟨_, rfl, iteT rfl (qf ?_)⟩
    rw [Bool.not_eq_true'] at e
    rw [e, Bool.false_and]
  rw [Bool.not_eq_false'] at e
  rw [e, Bool.true_and] at qt qf
  refine ⟨_, rfl, call_ok h2 rfl rfl ⟨_, rfl, by rw [np]; omega, lt_strs _, _, rfl, _, rfl, iteB (fun e => ?_) fun e => ?_⟩⟩
  · refine ⟨_, rfl, iteT rfl (qf ?_)⟩
    rw [Bool.not_eq_true'] at e
    rw [e, Bool.false_and]
  rw [Bool.not_eq_false'] at e
  rw [e, Bool.true_and] at qt qf
  have hcat : g.map D.str ++ (d.map D.str ++ []) = (g ++ d).map D.str := by simp
  have okall : ∀ x ∈ g ++ d, okS x = true := fun x hx => (List.mem_append.mp hx).elim (oa.og x) (oa.od x)
  have hlen : (g ++ d).length ≤ 24 := by
    rw [List.length_append]
    omega
  refine ⟨_, rfl, _, .inl rfl, _, rfl, _, .inl rfl, ?_, _, rfl, .inr ?_, ?_⟩
  · show (g.map D.str ++ (d.map D.str ++ [])).length ≤ _
    rw [hcat, List.length_map, sizeLine_eq]
    omega
  · show (g.map D.str ++ (d.map D.str ++ [])).length ≤ _
    rw [hcat, List.length_map]
    unfold wkL
    omega
  show lcW _ (g.map D.str ++ (d.map D.str ++ [])) [] _
  rw [hcat]
  refine lcW_m D.str (fun x => .bl (decide (x ∈ c.st))) (g ++ d) (by omega) (fun x hx R k => ⟨_, rfl, _, rfl, _, at_lit 0 rfl rfl, inn_tup (okall x hx) oc.st k⟩) ⟨_, bl_map _ _, _, rfl, _, rfl, iteB (fun e => ?_) fun e => ?_⟩
  · rw [all_id] at e
    have e : (!inB c.st (g ++ d)) = true := e
    rw [Bool.not_eq_true'] at e
    refine qf ?_
    rw [e, Bool.false_and]
  rw [all_id] at e
  have e : (!inB c.st (g ++ d)) = false := e
  rw [Bool.not_eq_false'] at e
  rw [e, Bool.true_and] at qt qf
  refine ⟨_, rfl, _, rfl, .inr (by rw [np]; unfold wkL; omega), lcW_m D.str (fun x => .bl (decide (x ∈ d))) g (by omega) (fun x hx R k => ⟨_, rfl, _, rfl, inn_tup (oa.og x hx) oa.od k⟩) ⟨_, bl_map _ _, _, rfl, iteB (fun e => ?_) fun e => ?_⟩⟩
  · rw [any_id] at e
    exact qf (by rw [e]; rfl)
  · rw [any_id] at e
    exact qt (by rw [e]; rfl)
end
end DL

/-! P3: in_turn -/
namespace DL
open PySem
open L2 (Key)

def Need (c : Rc) (o x : Str) : Prop := ∃ r ∈ c.rs, r.gl = o ∧ x ∈ r.pr ++ r.ex
def needs (c : Rc) (o : Str) : List Str := (c.rs.filter fun r => decide (r.gl = o)).flatMap fun r => r.pr ++ r.ex
theorem mem_needs {c : Rc} {o x : Str} : x ∈ needs c o ↔ Need c o x := by
  unfold needs Need
  simp only [List.mem_flatMap, List.mem_filter, decide_eq_true_eq]
  constructor
  · rintro ⟨r, ⟨h1, h2⟩, h3⟩
    exact ⟨r, h1, h2, h3⟩
  · rintro ⟨r, h1, h2, h3⟩
    exact ⟨r, ⟨h1, h2⟩, h3⟩
def freshL (c : Rc) (f : List Str) : List Str := c.st.filter fun o => !decide (o ∈ f) && (needs c o).all fun x => decide (x ∈ f)
def turnGo (c : Rc) : Nat → List Str → List Str
  | 0, f => f
  | n + 1, f => if freshL c f = [] then f else turnGo c n (f ++ freshL c f)
def turnL (c : Rc) : List Str := turnGo c (c.st.length + 1) []
inductive Grown (c : Rc) : List Str → Prop
  | nil : Grown c []
  | snoc {K : List Str} {o : Str} : Grown c K → o ∈ c.st → o ∉ K → (∀ x, Need c o x → x ∈ K) → Grown c (K ++ [o])
def Closed (c : Rc) (K : List Str) : Prop := ∀ o ∈ c.st, (∀ x, Need c o x → x ∈ K) → o ∈ K
theorem Grown.sub {c : Rc} {K S : List Str} (g : Grown c K) (s : Closed c S) : ∀ o ∈ K, o ∈ S := by
  induction g with
  | nil => exact fun o ho => absurd ho List.not_mem_nil
  | snoc g h1 h2 h3 ih =>
    intro o ho
    rcases List.mem_append.mp ho with z | z
    · exact ih o z
    · rw [List.mem_singleton.mp z]
      exact s _ h1 fun x hx => ih x (h3 x hx)
theorem Grown.nodup {c : Rc} {K : List Str} (g : Grown c K) : K.Nodup := by
  induction g with
  | nil => exact List.nodup_nil
  | snoc g h1 h2 h3 ih =>
    rw [List.nodup_append]
    exact ⟨ih, by simp, fun a ha b hb => by rw [List.mem_singleton.mp hb]; intro z; rw [z] at ha; exact h2 ha⟩
theorem Grown.st {c : Rc} {K : List Str} (g : Grown c K) : ∀ o ∈ K, o ∈ c.st := by
  induction g with
  | nil => exact fun o ho => absurd ho List.not_mem_nil
  | snoc g h1 h2 h3 ih =>
    intro o ho
    rcases List.mem_append.mp ho with z | z
    · exact ih o z
    · rw [List.mem_singleton.mp z]
      exact h1
theorem nodup_le : ∀ {K S : List Str}, K.Nodup → (∀ o ∈ K, o ∈ S) → K.length ≤ S.length
  | [], S, _, _ => Nat.zero_le _
  | a :: K, S, nd, h => by
    obtain ⟨n1, n2⟩ := List.nodup_cons.mp nd
    have ha := h a List.mem_cons_self
    have q := nodup_le (K := K) (S := S.erase a) n2 fun o ho => (List.mem_erase_of_ne (fun z => n1 (by rw [← z]; exact ho))).mpr (h o (List.mem_cons_of_mem _ ho))
    rw [List.length_erase_of_mem ha] at q
    have := List.length_pos_of_mem ha
    rw [List.length_cons]
    omega
theorem valD_map {F : Str → D} {k : Str} : ∀ {ks : List Str}, k ∈ ks → valD (ks.map fun k => ((.inr k : Key), F k)) (.inr k) = some (F k)
  | k' :: ks, h => by
    unfold valD
    rw [List.map_cons, List.find?_cons]
    by_cases e : k' = k
    · subst e
      simp
    · have ne : ¬ ((.inr k' : Key) = .inr k) := fun z => e (Sum.inr.inj z)
      simp only [ne, decide_false]
      have := valD_map (F := F) (ks := ks) ((List.mem_cons.mp h).resolve_left fun z => e z.symm)
      exact this
theorem Grown.len {c : Rc} {K : List Str} (g : Grown c K) : K.length ≤ c.st.length := nodup_le g.nodup g.st
theorem Grown.append {c : Rc} {K : List Str} (g : Grown c K) : ∀ l : List Str, l.Nodup → (∀ o ∈ l, o ∈ c.st ∧ o ∉ K ∧ ∀ x, Need c o x → x ∈ K) → Grown c (K ++ l) := by
  intro l
  induction l generalizing K with
  | nil => intro _ _; simpa using g
  | cons o l ih =>
    intro nd h
    obtain ⟨h1, h2, h3⟩ := h o List.mem_cons_self
    have := ih (g.snoc h1 h2 h3) (List.nodup_cons.mp nd).2 fun p hp => by
      obtain ⟨k1, k2, k3⟩ := h p (List.mem_cons_of_mem _ hp)
      refine ⟨k1, fun z => ?_, fun x hx => List.mem_append_left _ (k3 x hx)⟩
      rcases List.mem_append.mp z with z | z
      · exact k2 z
      · rw [List.mem_singleton.mp z] at hp
        exact (List.nodup_cons.mp nd).1 hp
    simpa using this
theorem mem_fresh {c : Rc} {f : List Str} {o : Str} : o ∈ freshL c f ↔ o ∈ c.st ∧ o ∉ f ∧ ∀ x, Need c o x → x ∈ f := by
  unfold freshL
  rw [List.mem_filter, Bool.and_eq_true, List.all_eq_true]
  simp only [Bool.not_eq_true', decide_eq_false_iff_not, decide_eq_true_eq, mem_needs]
theorem go_spec {c : Rc} (nd : c.st.Nodup) : ∀ (n : Nat) (f : List Str), Grown c f → c.st.length < n + f.length → Grown c (turnGo c n f) ∧ Closed c (turnGo c n f)
  | 0, f, g, h => absurd g.len (by omega)
  | n + 1, f, g, h => by
    unfold turnGo
    split
    · rename_i e
      refine ⟨g, fun o ho hx => ?_⟩
      by_cases z : o ∈ f
      · exact z
      · have : o ∈ freshL c f := mem_fresh.mpr ⟨ho, z, hx⟩
        rw [e] at this
        exact absurd this List.not_mem_nil
    · rename_i e
      refine go_spec nd n _ (g.append _ (nd.filter _) fun o ho => mem_fresh.mp ho) ?_
      have : 0 < (freshL c f).length := List.length_pos_iff.mpr e
      rw [List.length_append]
      omega
theorem turn_spec {c : Rc} (nd : c.st.Nodup) : Grown c (turnL c) ∧ Closed c (turnL c) := go_spec nd _ _ .nil (by simp)
def Rs.rn (r : Rs) : Rn := ⟨.str r.nm, r.pr, r.ex, .str r.sd, r.gl, .int r.fc⟩
theorem need_all (c : Rc) (o : Str) (f : List Str) : ((needK (c.rs.map Rs.rn) o).all fun k => match k with
    | .inr s => decide (s ∈ f)
    | .inl _ => false) = (needs c o).all fun x => decide (x ∈ f) := by
  rw [Bool.eq_iff_iff, List.all_eq_true, List.all_eq_true]
  have key : ∀ k, k ∈ needK (c.rs.map Rs.rn) o ↔ ∃ s, k = .inr s ∧ Need c o s := fun k => by
    unfold needK Need
    rw [mem_need]
    simp only [List.not_mem_nil, false_or, List.mem_map]
    constructor
    · rintro ⟨r, ⟨q, hq, rfl⟩, h1, s, h2, h3⟩
      exact ⟨s, h2, q, hq, h1, h3⟩
    · rintro ⟨s, h2, q, hq, h1, h3⟩
      exact ⟨q.rn, ⟨q, hq, rfl⟩, h1, s, h2, h3⟩
  constructor
  · intro h x hx
    exact h (.inr x) ((key _).mpr ⟨x, rfl, mem_needs.mp hx⟩)
  · intro h k hk
    obtain ⟨s, rfl, hs⟩ := (key k).mp hk
    exact h s (mem_needs.mpr hs)
section
variable {T : Tb}
def mTurnL : DSp := fun ds Q _ => ∃ c : Rc, ds = [c.d] ∧ c.Ok ∧ c.st.Nodup ∧ (∀ r ∈ c.rs, r.gl ∈ c.st) ∧ Q (.lst ((turnL c).map .str))
theorem turn_while {c : Rc} (oc : c.Ok) (nd : c.st.Nodup) {x3 x4 x5 x6 : Option D} {Q : DK} {X : EK} : ∀ (n : Nat) (f : List Str) (x7 x8 x9 : Option D), Grown c f → c.st.length < n + f.length → Q (.lst ((turnGo c n f).map .str)) →
    whileL (fun ρ Q => wpE T X (.con (.bl true)) ρ fun d => ∃ k, d = .bl k ∧ Q k) (fun ρ K => wpSs T [.asg 7 (.lc [("one", 8)] (.one 8) (.sub (.var 0) (.con (.int 0))) [(.and [(.inn true (.var 8) (.own 2)), (.blt .all [(.lck [("other", 9)] (.one 9) (.dget (.var 1) (.var 8)) [] (.inn false (.var 9) (.own 2)))])])] (.var 8)), .iff (.cmp .Eq (.blt .len [(.var 7)]) (.con (.int 0))) [.ret (.own 2)] [], .ext 2 (.var 7)] ρ K)
      { nx := fun _ => False, rt := Q, bk := fun _ => False, ct := fun _ => False, xc := X } n [some c.d, some (.dic (c.st.map fun k => (.inr k, .dic (kt1 (needK (c.rs.map Rs.rn) k))))), some (.lst (f.map .str)), x3, x4, x5, x6, x7, x8, x9]
  | 0, f, _, _, _, g, h, _ => absurd g.len (by omega)
  | n + 1, f, x7, x8, x9, g, h, q => by
    have l1 := oc.l1
    have of_ : ∀ x ∈ f, okS x = true := fun x hx => oc.st x (g.st x hx)
    have fl := g.len
    have wk : ∀ l : List Str, l.length ≤ 12 → (l.map D.str).length ≤ wkL := fun l hl => by
      rw [List.length_map]
      unfold wkL
      omega
    have nlen : ∀ o, (needK (c.rs.map Rs.rn) o).length ≤ 600 := fun o => by
      have := need_len 24 (c.rs.map Rs.rn) o [] fun r hr => by
        obtain ⟨q, hq, rfl⟩ := List.mem_map.mp hr
        have h1 := (oc.rs q hq).lp
        have h2 := (oc.rs q hq).le
        show (q.pr ++ q.ex).length ≤ 24
        rw [List.length_append]
        omega
      have l2 := oc.l2
      rw [List.length_map] at this
      have h3 : c.rs.length * 24 ≤ 25 * 24 := Nat.mul_le_mul_right _ l2
      simp only [List.length_nil] at this
      unfold needK
      omega
    refine ⟨_, rfl, _, rfl, _, at_lit 0 rfl rfl, _, rfl, .inr (wk _ l1), lcW_f D.str (fun o => !decide (o ∈ f) && (needs c o).all fun x => decide (x ∈ f)) D.str c.st (by omega) (fun o ho R k => ?_) ?_⟩
    · refine ⟨_, rfl, _, rfl, _, _, rfl, toPy_strs f, sh_str (oc.st o ho), sh_strs of_, _, rfl, iteB (fun e => ?_) fun e => ?_⟩
      · rw [any_strs] at e
        have e : (!decide (o ∈ f)) = true := e
        rw [e, Bool.true_and, ← need_all] at k
        refine ⟨_, rfl, _, rfl, _, _, rfl, valD_map (F := fun k => .dic (kt1 (needK (c.rs.map Rs.rn) k))) ho, _, rfl, .inr ?_, ?_⟩
        · rw [List.length_map, show (kt1 (needK (c.rs.map Rs.rn) o)).length = _ from List.length_map _]
          have := nlen o
          unfold wkL
          omega
        · have em : (kt1 (needK (c.rs.map Rs.rn) o)).map (fun kv => dK kv.1) = (needK (c.rs.map Rs.rn) o).map dK := by
            unfold kt1
            rw [List.map_map]
            rfl
          rw [em]
          refine lcW_m dK (fun k => .bl (match k with
            | .inr s => decide (s ∈ f)
            | .inl _ => false)) (needK (c.rs.map Rs.rn) o) (by have := nlen o; omega) (fun y hy R2 k2 => ?_) ⟨_, bl_map _ _, _, rfl, iteB (fun e2 => ?_) fun e2 => ?_⟩
          · have hy' := (mem_need _ _).mp hy
            simp only [List.not_mem_nil, false_or, List.mem_map] at hy'
            obtain ⟨_, ⟨r, hr, rfl⟩, _, s, rfl, hs⟩ := hy'
            have os : okS s = true := (List.mem_append.mp (show s ∈ r.pr ++ r.ex from hs)).elim ((oc.rs r hr).pr s) ((oc.rs r hr).ex s)
            refine ⟨_, rfl, _, rfl, _, _, rfl, toPy_strs f, sh_str os, sh_strs of_, ?_⟩
            rw [any_strs]
            exact k2
          · rw [all_id] at e2
            rw [e2] at k
            exact ⟨_, rfl, k⟩
          · rw [all_id] at e2
            rw [e2] at k
            exact k
      · rw [any_strs] at e
        have e : (!decide (o ∈ f)) = false := e
        rw [e, Bool.false_and] at k
        exact ⟨_, rfl, k⟩
    · have efr : (c.st.filter fun o => !decide (o ∈ f) && (needs c o).all fun x => decide (x ∈ f)) = freshL c f := rfl
      rw [efr]
      have lfr : (freshL c f).length ≤ 12 := Nat.le_trans (List.length_filter_le _ _) l1
      unfold turnGo at q
      refine ⟨_, rfl, _, _, rfl, rfl, rfl, rfl, _, rfl, iteB (fun e => ?_) fun e => ?_⟩
      · rw [eqv_int] at e
        have e := of_decide_eq_true e
        have : freshL c f = [] := by
          have e : (((freshL c f).map D.str).length : Int) = 0 := e
          rw [List.length_map] at e
          exact List.length_eq_zero_iff.mp (by omega)
        rw [if_pos this] at q
        exact ⟨_, rfl, q⟩
      · rw [eqv_int] at e
        have e := of_decide_eq_false e
        have ne : freshL c f ≠ [] := fun z => e (by rw [z]; rfl)
        rw [if_neg ne] at q
        have pos : 0 < (freshL c f).length := List.length_pos_iff.mpr ne
        have := turn_while oc nd (x3 := x3) (x4 := x4) (x5 := x5) (x6 := x6) (Q := Q) (X := X) n (f ++ freshL c f) (some (.lst ((freshL c f).map .str))) x8 x9 (g.append _ (nd.filter _) fun o ho => mem_fresh.mp ho) (by rw [List.length_append]; omega) q
        rw [List.map_append] at this
        exact ⟨_, rfl, _, rfl, _, rfl, by rw [List.length_map, List.length_map, sizeLine_eq]; omega, this⟩
theorem pl_turn (ds : List D) (Q : DK) (X : EK) (h : mTurnL ds Q X) : mTurn T b_in_turn ds Q X := by
  obtain ⟨c, rfl, oc, nd, hg, q⟩ := h
  have l1 := oc.l1
  have l2 := oc.l2
  refine ⟨c.st, c.rs.map Rs.rn, .tup (c.sd.map .str), ?_, nd, by omega, by rw [List.length_map]; omega, fun r hr => ?_, fun x3 x4 x5 x6 => ?_⟩
  · show [Rc.d c] = [D.tup [.tup (c.st.map .str), .tup ((c.rs.map Rs.rn).map Rn.d), .tup (c.sd.map .str)]]
    rw [List.map_map]
    rfl
  · obtain ⟨p, hp, rfl⟩ := List.mem_map.mp hr
    have h1 := (oc.rs p hp).lp
    have h2 := (oc.rs p hp).le
    refine ⟨hg p hp, ?_⟩
    show p.pr.length + p.ex.length ≤ 100
    omega
  · have e : D.tup [.tup (c.st.map .str), .tup ((c.rs.map Rs.rn).map Rn.d), .tup (c.sd.map .str)] = c.d := by
      rw [List.map_map]
      rfl
    unfold recD
    rw [e]
    exact ⟨by rw [sizeLine_eq]; decide, c.st.length + 1, turn_while oc nd _ [] none none none .nil (by simp) q⟩
end
end DL

/-! P4: check_record -/
namespace DL
open PySem
open L2 (Key)

/-! ### loops -/
theorem forL_t {α : Type} (enc : α → D) {step : D → DE → KD → Prop} {K : KD} (Inv : Nat → DE → Prop) : ∀ (xs : List α) (i : Nat) (ρ : DE), Inv i ρ →
    (∀ (j : Nat) (x : α) (ρ : DE) (N : DE → Prop), xs[j]? = some x → Inv (i + j) ρ → (∀ ρ', Inv (i + j + 1) ρ' → N ρ') → step (enc x) ρ { nx := N, rt := K.rt, bk := K.nx, ct := N, xc := K.xc }) →
    (∀ ρ', Inv (i + xs.length) ρ' → K.nx ρ') → forL step K (xs.map enc) ρ
  | [], i, ρ, h, _, q => q ρ h
  | x :: xs, i, ρ, h, hs, q => by
    refine hs 0 x ρ _ rfl h fun ρ' h' => forL_t enc Inv xs (i + 1) ρ' h' (fun j y ρ'' N e k n => ?_) fun ρ'' k => q ρ'' ?_
    · refine hs (j + 1) y ρ'' N (by simpa using e) ?_ fun ρ3 k3 => n ρ3 ?_
      · rw [show i + (j + 1) = i + 1 + j by omega]; exact k
      · rw [show i + 1 + j + 1 = i + (j + 1) + 1 by omega]; exact k3
    · rw [List.length_cons, show i + (xs.length + 1) = i + 1 + xs.length by omega]; exact k
theorem take_all {α : Type} {p : α → Bool} {xs : List α} {j : Nat} {x : α} (h : (xs.take j).all p = true) (e : xs[j]? = some x) (hp : p x = true) : (xs.take (j + 1)).all p = true := by
  rw [List.take_succ, e, List.all_append, h]
  simp [hp]
theorem all_false {α : Type} {p : α → Bool} {xs : List α} {j : Nat} {x : α} (e : xs[j]? = some x) (hp : p x = false) : xs.all p = false := by
  rw [List.all_eq_false]
  exact ⟨x, List.mem_of_getElem? e, by rw [hp]; exact Bool.false_ne_true⟩
/-! ### rising means distinct -/
theorem ris_at {l : List D} (h : risB l = true) {k : Nat} {x y : D} (h1 : l[k]? = some x) (h2 : l[k + 1]? = some y) : ltD x y = true := by
  unfold risB at h
  have hk : k + 1 < l.length := (List.getElem?_eq_some_iff.mp h2).1
  have := List.all_eq_true.mp h k (List.mem_range.mpr (by omega))
  rw [h1, h2] at this
  exact this
theorem ris_lt {l : List Str} (h : risB (l.map .str) = true) : ∀ (j i : Nat) (a b : Str), i < j → l[i]? = some a → l[j]? = some b → a.cps.toList < b.cps.toList
  | 0, i, _, _, hij, _, _ => absurd hij (Nat.not_lt_zero i)
  | j + 1, i, a, b, hij, ha, hb => by
    have hj : j < l.length := by
      have := (List.getElem?_eq_some_iff.mp hb).1
      omega
    have hc : l[j]? = some l[j] := List.getElem?_eq_getElem hj
    have last : l[j].cps.toList < b.cps.toList := by
      have := ris_at h (k := j) (x := .str l[j]) (y := .str b) (by rw [List.getElem?_map, hc]; rfl) (by rw [List.getElem?_map, hb]; rfl)
      exact of_decide_eq_true this
    by_cases e : i = j
    · subst e
      rw [hc] at ha
      cases ha
      exact last
    · exact List.lt_trans (ris_lt h j i a _ (by omega) ha hc) last
theorem ris_nodup {l : List Str} (h : risB (l.map .str) = true) : l.Nodup := by
  rw [List.Nodup, List.pairwise_iff_getElem]
  intro i j hi hj hij e
  have := ris_lt h j i l[i] l[j] hij (List.getElem?_eq_getElem hi) (List.getElem?_eq_getElem hj)
  rw [e] at this
  exact List.lt_irrefl _ this
/-! ### dicts of keys -/
theorem dcW_t {α : Type} (enc : α → D) (key : α → Str) {step : D → (Option (D × D) → Prop) → Prop} {Q : List (Key × D) → Prop} : ∀ (xs : List α) (c : List Key), c.length + xs.length ≤ sizeLine → (∀ x ∈ xs, ∀ R : Option (D × D) → Prop, R (some (.str (key x), .bl true)) → step (enc x) R) →
    Q (kt1 ((xs.map fun x => (.inr (key x) : Key)).foldl addK c)) → dcW step (xs.map enc) (kt1 c) Q
  | [], c, _, _, q => q
  | x :: xs, c, h, hs, q => by
    have hc : (kt1 c).length = c.length := List.length_map _
    rw [List.length_cons] at h
    refine ⟨by rw [hc]; omega, hs x List.mem_cons_self _ ⟨.inr (key x), rfl, ?_⟩⟩
    rw [put_kt]
    have h2 := addK_len c (.inr (key x))
    exact dcW_t enc key xs (addK c (.inr (key x))) (by omega) (fun y hy => hs y (List.mem_cons_of_mem _ hy)) q
/-! ### records -/
def stdL : List Str := ["hint", "more", "clear", "certain"]
theorem okStd : ∀ x ∈ stdL, okS x = true := by decide +kernel
def nmK (c : Rc) : List Key := (c.rs.map fun r => (.inr r.nm : Key)).foldl addK []
def bigB (c : Rc) : Bool := decide (10 < c.st.length) || decide (20 < c.rs.length)
def goodB (c : Rc) : Bool := c.st.all claimB && (risB (c.st.map .str) && (risB (c.rs.map Rs.d) && (c.rs.all (reasonB c.st) && (decide ((nmK c).length = c.rs.length) && (decide (c.sd.length = c.st.length) && (c.sd.all (fun w => decide (w ∈ stdL)) && decide ((turnL c).length = c.st.length)))))))
def recE (c : Rc) : Option Exn := if bigB c then some tooLarge else if goodB c then none else some refused
theorem toPy_rs (r : Rs) : toPy.toPyL [.str r.nm, .tup (r.pr.map .str), .tup (r.ex.map .str), .str r.sd, .str r.gl, .int r.fc] = some [.str r.nm, .tuple (r.pr.map .str), .tuple (r.ex.map .str), .str r.sd, .str r.gl, .int r.fc] := by
  have e : ∀ l : List Str, toPy (.tup (l.map .str)) = some (.tuple (l.map .str)) := fun l => by
    show (toPy.toPyL _).map PyData.tuple = _
    rw [toPy_strs]
    rfl
  simp only [toPy.toPyL, e]
  rfl
theorem alike_strs : ∀ l m : List Str, PySem.W.alikeAll (l.map .str) (m.map .str) = true
  | [], m => by cases m <;> rfl
  | _ :: _, [] => rfl
  | a :: l, b :: m => by
    show (PySem.W.alike (.str a) (.str b) && PySem.W.alikeAll (l.map .str) (m.map .str)) = true
    rw [alike_strs l m]
    rfl
theorem lt_rs (l : List Rs) : LtOk (l.map Rs.d) := fun x hx y hy R k => by
  obtain ⟨a, _, rfl⟩ := List.mem_map.mp hx
  obtain ⟨b, _, rfl⟩ := List.mem_map.mp hy
  have ds : ∀ l : List Str, PyData.depthAll (l.map .str) = 0 := fun l => by
    induction l with
    | nil => rfl
    | cons a l ih => simp only [List.map_cons, PyData.depthAll, PyData.depth, ih]; rfl
  refine ⟨_, _, toPy_rs a, toPy_rs b, ?_, ?_, ?_⟩
  · simp only [PySem.W.alikeAll, PySem.W.alike, alike_strs, Bool.and_self]
  · simp only [PyData.depth, PyData.depthAll, ds]
    decide
  · have e : ltD a.d b.d = PySem.W.dataLt (.tuple [.str a.nm, .tuple (a.pr.map .str), .tuple (a.ex.map .str), .str a.sd, .str a.gl, .int a.fc]) (.tuple [.str b.nm, .tuple (b.pr.map .str), .tuple (b.ex.map .str), .str b.sd, .str b.gl, .int b.fc]) := by
      show (match toPy.toPyL _, toPy.toPyL _ with
        | some p, some q => PySem.W.dataLt (.tuple p) (.tuple q)
        | _, _ => false) = _
      rw [toPy_rs a, toPy_rs b]
    rw [e] at k
    exact k
end DL

/-! P5: check_record, check_heard -/
namespace DL
open PySem
open L2 (Key)
section
variable {T : Tb}
def mRecord : DSp := fun ds Q X => ∃ c : Rc, ds = [c.d] ∧ c.Ok ∧ (recE c = none → Q .non) ∧ (∀ x, recE c = some x → X x)
theorem reason_gl {st : List Str} {r : Rs} (h : reasonB st r = true) : r.gl ∈ st := by
  unfold reasonB at h
  have h1 := (and2 (and2 (and2 (and2 (and2 h).2).2).2).2).1
  exact of_decide_eq_true (List.all_eq_true.mp h1 r.gl (by simp))
theorem pl_record (g : Glb T) (h1 : Has T "is_claim" 1 mClaim) (h2 : Has T "rising" 1 mRising) (h3 : Has T "check_reason" 2 mReason) (h4 : Has T "in_turn" 1 mTurnL) (ds : List D) (Q : DK) (X : EK) (h : mRecord ds Q X) : wpF T n_check_record.length b_check_record ds Q X := by
  obtain ⟨c, rfl, oc, qn, qx⟩ := h
  have l1 := oc.l1
  have l2 := oc.l2
  have l3 := oc.l3
  have wk : ∀ {α : Type} (f : α → D) (l : List α), l.length ≤ 25 → (l.map f).length ≤ wkL := fun f l hl => by
    rw [List.length_map]
    unfold wkL
    omega
  unfold recE at qn qx
  refine ⟨_, rfl, _, rfl, rfl, _, rfl, _, g.mst, _, rfl, iteB (fun e => ?_) fun e => ?_⟩
  · have e : decide ((10 : Int) < ((c.st.map D.str).length : Int)) = true := e
    rw [List.length_map] at e
    have e := of_decide_eq_true e
    have hb : bigB c = true := by unfold bigB; rw [decide_eq_true (show 10 < c.st.length by omega), Bool.true_or]
    exact ⟨_, rfl, qx tooLarge (by rw [if_pos hb])⟩
  have e : decide ((10 : Int) < ((c.st.map D.str).length : Int)) = false := e
  rw [List.length_map] at e
  have e1 := of_decide_eq_false e
  refine ⟨_, rfl, _, g.mre, _, rfl, iteB (fun e => ?_) fun e => ?_⟩
  · have e : decide ((20 : Int) < ((c.rs.map Rs.d).length : Int)) = true := e
    rw [List.length_map] at e
    have e := of_decide_eq_true e
    have hb : bigB c = true := by unfold bigB; rw [decide_eq_true (show 20 < c.rs.length by omega), Bool.or_true]
    exact qx tooLarge (by rw [if_pos hb])
  have e : decide ((20 : Int) < ((c.rs.map Rs.d).length : Int)) = false := e
  rw [List.length_map] at e
  have e2 := of_decide_eq_false e
  have hb : bigB c = false := by unfold bigB; rw [decide_eq_false (show ¬ 10 < c.st.length by omega), decide_eq_false (show ¬ 20 < c.rs.length by omega)]; rfl
  rw [hb, if_neg Bool.false_ne_true] at qn
  have bad : goodB c = false → X refused := fun z => qx refused (by rw [hb, if_neg Bool.false_ne_true, z, if_neg Bool.false_ne_true])
  have good : goodB c = true → Q .non := fun z => qn (by rw [z, if_pos rfl])
  clear qn qx
  unfold goodB at bad good
  -- the statements' names
  refine ⟨_, rfl, _, rfl, .inr (wk _ _ (by omega)), lcW_m D.str (fun x => .bl (claimB x)) c.st (by omega) (fun x hx R k => ⟨_, rfl, call_ok h1 rfl rfl ⟨x, rfl, oc.st x hx, k⟩⟩) ⟨_, bl_map _ _, _, rfl, _, rfl, iteB (fun e => ?_) fun e => ?_⟩⟩
  · rw [all_id, Bool.not_eq_true'] at e
    refine ⟨_, rfl, iteT rfl (bad ?_)⟩
    rw [e, Bool.false_and]
  rw [all_id, Bool.not_eq_false'] at e
  rw [e, Bool.true_and] at bad good
  refine ⟨_, rfl, call_ok h2 rfl rfl ⟨_, rfl, by rw [List.length_map]; omega, lt_strs _, _, rfl, _, rfl, iteB (fun e => ?_) fun e => ?_⟩⟩
  · rw [Bool.not_eq_true'] at e
    refine ⟨_, rfl, iteT rfl (bad ?_)⟩
    rw [e, Bool.false_and]
  rw [Bool.not_eq_false'] at e
  have hris := e
  rw [e, Bool.true_and] at bad good
  refine ⟨_, rfl, call_ok h2 rfl rfl ⟨_, rfl, by rw [List.length_map]; omega, lt_rs _, _, rfl, _, rfl, iteB (fun e => ?_) fun e => ?_⟩⟩
  · rw [Bool.not_eq_true'] at e
    refine bad ?_
    rw [e, Bool.false_and]
  rw [Bool.not_eq_false'] at e
  rw [e, Bool.true_and] at bad good
  -- each reason
  refine ⟨_, rfl, _, rfl, .inr (wk _ _ l2), forL_t Rs.d (fun i ρ => (∃ y, ρ = [some c.d, y, some (.tup (c.st.map .str)), some (.tup (c.rs.map Rs.d)), some (.tup (c.sd.map .str)), none, none]) ∧ (c.rs.take i).all (reasonB c.st) = true) c.rs 0 _ ⟨⟨none, rfl⟩, rfl⟩ (fun j r ρ N hr hi hn => ?_) fun ρ hi => ?_⟩
  · obtain ⟨⟨y, rfl⟩, hall⟩ := hi
    rw [Nat.zero_add] at hall hn
    refine ⟨_, rfl, _, rfl, call_ok h3 rfl rfl ⟨c.st, r, rfl, oc.st, oc.rs r (List.mem_of_getElem? hr), fun er => hn _ ⟨⟨_, rfl⟩, take_all hall hr er⟩, fun er => bad ?_⟩⟩
    rw [all_false hr er, Bool.false_and]
  obtain ⟨⟨y, rfl⟩, hall⟩ := hi
  rw [Nat.zero_add, List.take_length] at hall
  rw [hall, Bool.true_and] at bad good
  -- names
  refine ⟨_, rfl, _, rfl, .inr (wk _ _ l2), dcW_t Rs.d Rs.nm c.rs [] (by rw [sizeLine_eq]; simp only [List.length_nil]; omega) (fun r hr R k => ⟨_, rfl, _, at_lit 0 rfl rfl, k⟩) ⟨_, rfl, _, _, rfl, rfl, rfl, rfl, _, rfl, iteB (fun e => ?_) fun e => ?_⟩⟩
  · rw [eqv_int, Bool.not_eq_true'] at e
    have e := of_decide_eq_false e
    refine bad ?_
    rw [decide_eq_false (p := (nmK c).length = c.rs.length) (fun z => e ?_), Bool.false_and]
    show (((kt1 (nmK c)).length : Nat) : Int) = ((c.rs.map Rs.d).length : Int)
    rw [show (kt1 (nmK c)).length = _ from List.length_map _, List.length_map, z]
  rw [eqv_int, Bool.not_eq_false'] at e
  have e := of_decide_eq_true e
  have e : (((kt1 (nmK c)).length : Nat) : Int) = ((c.rs.map Rs.d).length : Int) := e
  rw [show (kt1 (nmK c)).length = _ from List.length_map _, List.length_map] at e
  rw [decide_eq_true (p := (nmK c).length = c.rs.length) (by omega), Bool.true_and] at bad good
  -- standards
  refine ⟨_, rfl, _, rfl, _, _, rfl, rfl, rfl, rfl, _, rfl, iteB (fun e => ?_) fun e => ?_⟩
  · rw [eqv_int, Bool.not_eq_true'] at e
    have e := of_decide_eq_false e
    refine ⟨_, rfl, iteT rfl (bad ?_)⟩
    rw [decide_eq_false (p := c.sd.length = c.st.length) (fun z => e ?_), Bool.false_and]
    rw [List.length_map, List.length_map, z]
  rw [eqv_int, Bool.not_eq_false'] at e
  have e := of_decide_eq_true e
  rw [List.length_map, List.length_map] at e
  rw [decide_eq_true (p := c.sd.length = c.st.length) (by omega), Bool.true_and] at bad good
  refine ⟨_, rfl, _, rfl, .inr (wk _ _ (by omega)), lcW_m D.str (fun w => .bl (decide (w ∈ stdL))) c.sd (by omega) (fun x hx R k => ⟨_, rfl, _, g.std, _, _, rfl, toPy_strs stdL, sh_str (oc.sd x hx), sh_strs okStd, by rw [any_strs]; exact k⟩) ⟨_, bl_map _ _, _, rfl, _, rfl, iteB (fun e => ?_) fun e => ?_⟩⟩
  · rw [all_id, Bool.not_eq_true'] at e
    refine bad ?_
    rw [e, Bool.false_and]
  rw [all_id, Bool.not_eq_false'] at e
  rw [e, Bool.true_and] at bad good
  -- the turn
  refine ⟨_, rfl, call_ok h4 rfl rfl ⟨c, rfl, oc, ris_nodup hris, fun r hr => reason_gl (List.all_eq_true.mp hall r hr), _, rfl, _, _, rfl, rfl, rfl, rfl, _, rfl, iteB (fun e => ?_) fun e => ?_⟩⟩
  · rw [eqv_int, Bool.not_eq_true'] at e
    have e := of_decide_eq_false e
    refine bad (decide_eq_false fun z => e ?_)
    rw [List.length_map, List.length_map, z]
  · rw [eqv_int, Bool.not_eq_false'] at e
    have e := of_decide_eq_true e
    rw [List.length_map, List.length_map] at e
    exact good (decide_eq_true (by omega))
def heardE (c : Rc) (g d : List Str) : Option Exn := match recE c with
  | some x => some x
  | none => if audB c.st g d then none else some refused
def mHeard : DSp := fun ds Q X => ∃ (c : Rc) (g d : List Str), ds = [c.d, audD g d] ∧ c.Ok ∧ AudOk g d ∧ (heardE c g d = none → Q .non) ∧ (∀ x, heardE c g d = some x → X x)
theorem pl_heard (h1 : Has T "check_record" 1 mRecord) (h2 : Has T "check_audience" 2 mAudience) (ds : List D) (Q : DK) (X : EK) (h : mHeard ds Q X) : wpF T n_check_heard.length b_check_heard ds Q X := by
  obtain ⟨c, g, d, rfl, oc, oa, qn, qx⟩ := h
  unfold heardE at qn qx
  refine ⟨_, rfl, call_ok h1 rfl rfl ⟨c, rfl, oc, fun e => ?_, fun x e => qx x (by rw [e])⟩⟩
  rw [e] at qn qx
  refine ⟨_, rfl, _, rfl, call_ok h2 rfl rfl ⟨c, g, d, rfl, oc, oa, fun e2 => qn (by rw [e2]; rfl), fun e2 => qx refused (by rw [e2]; rfl)⟩⟩
structure Fine (c : Rc) : Prop where
  ok : c.Ok
  nd : c.st.Nodup
  gl : ∀ r ∈ c.rs, r.gl ∈ c.st
  ne : ∀ r ∈ c.rs, ∀ x ∈ r.pr ++ r.ex, x ∈ c.st
  sd : ∀ r ∈ c.rs, r.sd = "pro" ∨ r.sd = "con"
  ls : c.sd.length = c.st.length
  st : ∀ w ∈ c.sd, w ∈ stdL
theorem fine_of {c : Rc} (oc : c.Ok) (h : goodB c = true) : Fine c ∧ (turnL c).length = c.st.length := by
  unfold goodB at h
  obtain ⟨h1, k⟩ := and2 h
  obtain ⟨h2, k⟩ := and2 k
  obtain ⟨h3, k⟩ := and2 k
  obtain ⟨h4, k⟩ := and2 k
  obtain ⟨h5, k⟩ := and2 k
  obtain ⟨h6, k⟩ := and2 k
  obtain ⟨h7, h8⟩ := and2 k
  have hr : ∀ r ∈ c.rs, reasonB c.st r = true := fun r hr => List.all_eq_true.mp h4 r hr
  refine ⟨⟨oc, ris_nodup h2, fun r q => reason_gl (hr r q), fun r q x hx => ?_, fun r q => ?_, of_decide_eq_true h6, fun w hw => of_decide_eq_true (List.all_eq_true.mp h7 w hw)⟩, of_decide_eq_true h8⟩
  · have z := hr r q
    unfold reasonB at z
    have z := (and2 (and2 (and2 (and2 (and2 z).2).2).2).2).1
    refine of_decide_eq_true (List.all_eq_true.mp z x ?_)
    rcases List.mem_append.mp hx with e | e
    · exact List.mem_append_left _ e
    · exact List.mem_append_right _ (List.mem_append_left _ e)
  · have z := hr r q
    unfold reasonB at z
    have z := of_decide_eq_true (and2 (and2 (and2 (and2 z).2).2).2).1
    simpa using z
end
end DL

/-! P6: known_held, accepted, applying, weighed -/
namespace DL
open PySem
open L2 (Key)

theorem grown_at {c : Rc} {K : List Str} (g : Grown c K) : ∀ (i : Nat) (o : Str), K[i]? = some o → (∀ x, Need c o x → x ∈ K.take i) ∧ o ∉ K.take i := by
  induction g with
  | nil => intro i o h; simp at h
  | @snoc K p g h1 h2 h3 ih =>
    intro i o h
    by_cases hi : i < K.length
    · rw [List.getElem?_append_left hi] at h
      rw [List.take_append_of_le_length (Nat.le_of_lt hi)]
      exact ih i o h
    · have hl := (List.getElem?_eq_some_iff.mp h).1
      rw [List.length_append, List.length_cons, List.length_nil] at hl
      have e : i = K.length := by omega
      subst e
      rw [List.getElem?_append_right (Nat.le_refl _), Nat.sub_self] at h
      have h : some p = some o := h
      cases h
      rw [List.take_append_of_le_length (Nat.le_refl _), List.take_length]
      exact ⟨h3, h2⟩
theorem full {c : Rc} {K : List Str} (g : Grown c K) (h : K.length = c.st.length) : ∀ o ∈ c.st, o ∈ K := fun o ho => by
  by_cases z : o ∈ K
  · exact z
  · have := nodup_le (K := o :: K) (S := c.st) (List.nodup_cons.mpr ⟨z, g.nodup⟩) fun p hp => (List.mem_cons.mp hp).elim (fun e => by rw [e]; exact ho) (g.st p)
    rw [List.length_cons] at this
    omega
/-! ### what is held -/
def stdOf (c : Rc) (o : Str) : Str := (((c.st.zip c.sd).find? fun p => decide (p.1 = o)).map (·.2)).getD ""
def eqn (c : Rc) (g d : List Str) (hv : Str → Bool) (o : Str) : Bool := if o ∈ g ∨ o ∈ d then decide (o ∈ g) else meetsB (stdOf c o) (bestF c.rs hv o "pro") (bestF c.rs hv o "con")
def HSol (c : Rc) (g d : List Str) (hv : Str → Bool) (K : List Str) : Prop := ∀ o ∈ K, hv o = eqn c g d hv o
theorem all_congr {α : Type} {p q : α → Bool} : ∀ {l : List α}, (∀ x ∈ l, p x = q x) → l.all p = l.all q ∧ l.any p = l.any q
  | [], _ => ⟨rfl, rfl⟩
  | x :: l, h => by
    obtain ⟨h1, h2⟩ := all_congr (l := l) fun y hy => h y (List.mem_cons_of_mem _ hy)
    rw [List.all_cons, List.all_cons, List.any_cons, List.any_cons, h1, h2, h x List.mem_cons_self]
    exact ⟨rfl, rfl⟩
theorem app_congr {hv hv' : Str → Bool} {r : Rs} (h : ∀ x ∈ r.pr ++ r.ex, hv x = hv' x) : appB hv r = appB hv' r := by
  unfold appB
  rw [(all_congr fun x hx => h x (List.mem_append_left _ hx)).1, (all_congr fun x hx => h x (List.mem_append_right _ hx)).2]
theorem best_congr {hv hv' : Str → Bool} {s side : Str} : ∀ {rs : List Rs} {b : Int}, (∀ r ∈ rs, r.gl = s → ∀ x ∈ r.pr ++ r.ex, hv x = hv' x) → rs.foldl (best1 hv s side) b = rs.foldl (best1 hv' s side) b
  | [], _, _ => rfl
  | r :: rs, b, h => by
    have e : best1 hv s side b r = best1 hv' s side b r := by
      unfold best1
      by_cases z : r.gl = s
      · rw [app_congr (h r List.mem_cons_self z)]
      · rw [decide_eq_false z]; rfl
    rw [List.foldl_cons, List.foldl_cons, e]
    exact best_congr fun r hr => h r (List.mem_cons_of_mem _ hr)
theorem eqn_congr {c : Rc} {g d : List Str} {hv hv' : Str → Bool} {o : Str} (h : ∀ x, Need c o x → hv x = hv' x) : eqn c g d hv o = eqn c g d hv' o := by
  have k : ∀ r ∈ c.rs, r.gl = o → ∀ x ∈ r.pr ++ r.ex, hv x = hv' x := fun r hr hg x hx => h x ⟨r, hr, hg, hx⟩
  unfold eqn bestF
  rw [best_congr (side := "pro") k, best_congr (side := "con") k]
theorem sol_uniq {c : Rc} {g d : List Str} {hv hv' : Str → Bool} {K : List Str} (gr : Grown c K) : HSol c g d hv K → HSol c g d hv' K → ∀ o ∈ K, hv o = hv' o := by
  induction gr with
  | nil => exact fun _ _ o ho => absurd ho List.not_mem_nil
  | snoc gr h1 h2 h3 ih =>
    intro s1 s2 o ho
    have ih' := ih (fun p hp => s1 p (List.mem_append_left _ hp)) (fun p hp => s2 p (List.mem_append_left _ hp))
    rcases List.mem_append.mp ho with z | z
    · exact ih' o z
    · rw [List.mem_singleton.mp z, s1 _ (List.mem_append_right _ List.mem_cons_self), s2 _ (List.mem_append_right _ List.mem_cons_self)]
      exact eqn_congr fun x hx => ih' x (h3 x hx)
def hL (hv : Str → Bool) (K : List Str) : List (Key × D) := K.map fun o => (.inr o, .bl (hv o))
theorem hL_hold {hv : Str → Bool} {K xs : List Str} (h : ∀ x ∈ xs, x ∈ K) : Hold (hL hv K) hv xs := fun x hx => valD_map (F := fun o => .bl (hv o)) (h x hx)
theorem put_new {κ : Type} [DecidableEq κ] {l : List (κ × D)} {k : κ} {v : D} (h : ∀ p ∈ l, p.1 ≠ k) : putD l k v = l ++ [(k, v)] := by
  unfold putD
  rw [if_neg]
  intro z
  obtain ⟨p, hp, e⟩ := List.any_eq_true.mp z
  exact h p hp (of_decide_eq_true e)
theorem hL_put {hv : Str → Bool} {K : List Str} {o : Str} {b : Bool} (h : o ∉ K) : putD (hL hv K) (.inr o) (.bl b) = hL (fun x => if x = o then b else hv x) (K ++ [o]) := by
  rw [put_new fun p hp e => ?_]
  · unfold hL
    rw [List.map_append]
    congr 1
    · refine List.map_congr_left fun x hx => ?_
      show (Sum.inr x, D.bl (hv x)) = (Sum.inr x, D.bl (if x = o then b else hv x))
      rw [if_neg (fun z => h (by rw [← z]; exact hx) : ¬ x = o)]
    · simp
  · unfold hL at hp
    obtain ⟨x, hx, rfl⟩ := List.mem_map.mp hp
    exact h (by rw [← Sum.inr.inj e]; exact hx)
theorem zip_fold : ∀ {st sd : List Str} {acc : List (Key × D)}, st.Nodup → (∀ p ∈ acc, ∀ o ∈ st, p.1 ≠ .inr o) → ((st.map fun o => (.inr o : Key)).zip (sd.map D.str)).foldl (fun acc p => putD acc p.1 p.2) acc = acc ++ (st.zip sd).map fun p => (.inr p.1, .str p.2)
  | [], sd, acc, _, _ => by simp
  | o :: st, [], acc, _, _ => by simp
  | o :: st, w :: sd, acc, nd, h => by
    obtain ⟨n1, n2⟩ := List.nodup_cons.mp nd
    have e : putD acc (.inr o) (.str w) = acc ++ [(.inr o, .str w)] := put_new fun p hp => h p hp o List.mem_cons_self
    simp only [List.map_cons, List.zip_cons_cons, List.foldl_cons]
    rw [e, zip_fold n2 fun p hp q hq => ?_]
    · simp
    · rcases List.mem_append.mp hp with z | z
      · exact h p z q (List.mem_cons_of_mem _ hq)
      · rw [List.mem_singleton.mp z]
        exact fun y => n1 (by rw [Sum.inr.inj y]; exact hq)
theorem std_val {o : Str} : ∀ {st sd : List Str}, sd.length = st.length → o ∈ st → valD ((st.zip sd).map fun p => ((.inr p.1 : Key), D.str p.2)) (.inr o) = some (.str ((((st.zip sd).find? fun p => decide (p.1 = o)).map (·.2)).getD ("" : Str))) ∧ (((st.zip sd).find? fun p => decide (p.1 = o)).map (·.2)).getD ("" : Str) ∈ sd
  | [], _, _, h => absurd h List.not_mem_nil
  | q :: st, [], hl, _ => by cases hl
  | q :: st, w :: sd, hl, h => by
    unfold valD
    rw [List.zip_cons_cons, List.map_cons, List.find?_cons, List.find?_cons]
    by_cases e : q = o
    · subst e
      simp
    · have ne : ¬ ((.inr q : Key) = .inr o) := fun z => e (Sum.inr.inj z)
      simp only [ne, e, decide_false]
      obtain ⟨h1, h2⟩ := std_val (o := o) (st := st) (sd := sd) (Nat.succ.inj hl) ((List.mem_cons.mp h).resolve_left fun z => e z.symm)
      exact ⟨h1, List.mem_cons_of_mem _ h2⟩
section
variable {T : Tb}
theorem call_own {f : Str} {n : Nat} {m : DSp} {ds : List D} {es : List E} {Q : DK} {X : EK} (h : Has T f n m) (hn : ds.length = n) (ho : es.any ownB = true) (q : m ds (fun d => flatD d = true ∧ Q d) X) :
    ∃ e, T.fn f = some e ∧ ds.length = e.n ∧ e.m ds (fun d => (es.any ownB = true → flatD d = true) ∧ Q d) X := by
  obtain ⟨k, c, e⟩ := h
  refine ⟨_, e, hn, ?_⟩
  have : (fun d => (es.any ownB = true → flatD d = true) ∧ Q d) = fun d => flatD d = true ∧ Q d := by
    funext d
    rw [ho]
    simp
  rw [this]
  exact q
def mHeld : DSp := fun ds Q _ => ∃ (c : Rc) (g d : List Str), ds = [c.d, audD g d] ∧ Fine c ∧ AudOk g d ∧ ∀ hv, HSol c g d hv (turnL c) → Q (.dic (hL hv (turnL c)))
theorem pl_held (h1 : Has T "in_turn" 1 mTurnL) (h2 : Has T "meets" 2 mMeets) (h3 : Has T "forces" 3 mForces) (ds : List D) (Q : DK) (X : EK) (h : mHeld ds Q X) : wpF T n_known_held.length b_known_held ds Q X := by
  obtain ⟨c, g, d, rfl, fc, oa, q⟩ := h
  have oc := fc.ok
  have l1 := oc.l1
  obtain ⟨gr, _⟩ := turn_spec fc.nd
  have hks : keyKs (c.st.map D.str) = some (c.st.map fun o => (.inr o : Key)) := by
    induction c.st with
    | nil => rfl
    | cons x l ih =>
      show (match keyK (.str x), keyKs (l.map D.str) with
        | some p, some q => some (p :: q)
        | _, _ => none) = _
      rw [ih]
      rfl
  have tl : (turnL c).length ≤ 12 := Nat.le_trans gr.len l1
  have hz := zip_fold (st := c.st) (sd := c.sd) (acc := []) fc.nd (fun p hp => absurd hp List.not_mem_nil)
  rw [List.nil_append] at hz
  refine ⟨_, rfl, _, rfl, rfl, _, rfl, _, at_lit 0 rfl rfl, _, rfl, _, at_lit 2 rfl rfl, _, _, _, rfl, rfl, hks, by rw [List.length_map]; omega, ?_⟩
  rw [hz]
  refine ⟨_, rfl, call_ok h1 rfl rfl ⟨c, rfl, oc, fc.nd, fc.gl, _, rfl, .inr (by rw [List.length_map]; unfold wkL; omega), ?_⟩⟩
  refine forL_t D.str (fun i ρ => ∃ (x4 : Option D) (hv : Str → Bool), ρ = [some c.d, some (audD g d), some (.dic ((c.st.zip c.sd).map fun p => (.inr p.1, .str p.2))), some (.dic (hL hv ((turnL c).take i))), x4, some (.tup (g.map .str)), some (.tup (d.map .str))] ∧ HSol c g d hv ((turnL c).take i)) (turnL c) 0 _ ⟨none, fun _ => false, rfl, fun o ho => absurd ho List.not_mem_nil⟩ (fun j o ρ N ho hi hn => ?_) fun ρ hi => ?_
  · obtain ⟨x4, hv, hρ, sol⟩ := hi
    rw [Nat.zero_add] at hρ sol hn
    subst hρ
    obtain ⟨k1, k2⟩ := grown_at gr j o ho
    have tk : (turnL c).take (j + 1) = (turnL c).take j ++ [o] := by
      rw [List.take_succ, ho]
      rfl
    have ost := gr.st o (List.mem_of_getElem? ho)
    have oo := oc.st o ost
    have tl2 : (hL hv ((turnL c).take j)).length < sizeLine := by
      show (((turnL c).take j).map _).length < _
      rw [List.length_map, List.length_take, sizeLine_eq]
      omega
    have fin : ∀ b : Bool, b = eqn c g d hv o → N [some c.d, some (audD g d), some (.dic ((c.st.zip c.sd).map fun p => (.inr p.1, .str p.2))), some (.dic (putD (hL hv ((turnL c).take j)) (.inr o) (.bl b))), some (.str o), some (.tup (g.map .str)), some (.tup (d.map .str))] := fun b hb => by
      refine hn _ ⟨some (.str o), fun x => if x = o then b else hv x, ?_, fun p hp => ?_⟩
      · show _ = [some c.d, some (audD g d), _, some (D.dic (hL _ ((turnL c).take (j + 1)))), _, _, _]
        rw [tk, ← hL_put k2]
      · rw [tk] at hp
        have agree : ∀ x, x ∈ (turnL c).take j → hv x = (if x = o then b else hv x) := fun x hx => by
          rw [if_neg fun z => k2 (by rw [← z]; exact hx)]
        rcases List.mem_append.mp hp with z | z
        · show (if p = o then b else hv p) = _
          rw [← agree p z, sol p z]
          refine eqn_congr fun x hx => agree x ?_
          obtain ⟨i, hi⟩ := List.getElem?_of_mem z
          have hij : i < j := by
            have := (List.getElem?_eq_some_iff.mp hi).1
            rw [List.length_take] at this
            omega
          rw [List.getElem?_take_of_lt hij] at hi
          have := (grown_at gr i p hi).1 x hx
          exact (List.take_subset_take_left _ (Nat.le_of_lt hij)) this
        · rw [List.mem_singleton.mp z]
          show (if o = o then b else hv o) = _
          rw [if_pos rfl]
          refine hb.trans ?_
          exact eqn_congr fun x hx => agree x (k1 x hx)
    have put : ∀ b : Bool, b = eqn c g d hv o → putX (.dic (hL hv ((turnL c).take j))) (.str o) (.bl b) (fun x' => N [some c.d, some (audD g d), some (.dic ((c.st.zip c.sd).map fun p => (.inr p.1, .str p.2))), some x', some (.str o), some (.tup (g.map .str)), some (.tup (d.map .str))]) := fun b hb => ⟨_, rfl, tl2, fin b hb⟩
    refine ⟨_, rfl, _, rfl, _, _, rfl, toPy_strs g, sh_str oo, sh_strs oa.og, _, rfl, iteB (fun e => ?_) fun e => ?_⟩
    · rw [any_strs] at e
      have e := of_decide_eq_true (show decide (o ∈ g) = true from e)
      refine ⟨_, rfl, _, rfl, _, rfl, _, rfl, _, _, rfl, toPy_strs g, sh_str oo, sh_strs oa.og, _, rfl, ?_⟩
      rw [any_strs]
      refine put _ ?_
      unfold eqn
      rw [if_pos (.inl e)]
      rfl
    · rw [any_strs] at e
      have e := of_decide_eq_false (show decide (o ∈ g) = false from e)
      refine ⟨_, rfl, _, rfl, _, _, rfl, toPy_strs d, sh_str oo, sh_strs oa.od, _, rfl, iteB (fun e2 => ?_) fun e2 => ?_⟩
      · rw [any_strs] at e2
        have e2 := of_decide_eq_true (show decide (o ∈ d) = true from e2)
        refine ⟨_, rfl, _, rfl, _, rfl, _, _, rfl, toPy_strs g, sh_str oo, sh_strs oa.og, _, rfl, ?_⟩
        rw [any_strs]
        refine put _ ?_
        unfold eqn
        rw [if_pos (.inr e2)]
        rfl
      · rw [any_strs] at e2
        have e2 := of_decide_eq_false (show decide (o ∈ d) = false from e2)
        obtain ⟨v1, v2⟩ := std_val (o := o) fc.ls ost
        refine ⟨_, rfl, _, rfl, _, rfl, _, _, rfl, v1, _, rfl, _, rfl, _, rfl, call_own h3 rfl rfl ⟨c, _, hv, o, rfl, oc, oo, fun r hr hgl => hL_hold fun x hx => k1 x ⟨r, hr, hgl, hx⟩, rfl, call_ok h2 rfl rfl ⟨_, _, _, rfl, oc.sd _ v2, _, rfl, ?_⟩⟩⟩
        refine put _ ?_
        unfold eqn
        rw [if_neg fun z => z.elim e e2]
        rfl
  · obtain ⟨x4, hv, rfl, sol⟩ := hi
    rw [Nat.zero_add, List.take_length] at sol
    refine ⟨_, rfl, ?_⟩
    rw [Nat.zero_add, List.take_length]
    exact q hv sol
end
end DL

/-! P7: accepted, applying, weighed -/
namespace DL
open PySem
open L2 (Key)

theorem heard_fine {c : Rc} {g d : List Str} (oc : c.Ok) (h : heardE c g d = none) : Fine c ∧ (∀ o ∈ c.st, o ∈ turnL c) ∧ audB c.st g d = true := by
  unfold heardE recE at h
  by_cases hb : bigB c = true
  · rw [if_pos hb] at h; cases h
  rw [if_neg hb] at h
  by_cases hg : goodB c = true
  · rw [if_pos hg] at h
    have h : (if audB c.st g d then none else some refused : Option Exn) = none := h
    by_cases ha : audB c.st g d = true
    · obtain ⟨f, hl⟩ := fine_of oc hg
      exact ⟨f, full (turn_spec f.nd).1 hl, ha⟩
    · rw [if_neg ha] at h; cases h
  · rw [if_neg hg] at h; cases h
theorem need_st {c : Rc} (f : Fine c) {o x : Str} (h : Need c o x) : x ∈ c.st := by
  obtain ⟨r, hr, _, hx⟩ := h
  exact f.ne r hr x hx
section
variable {T : Tb}
theorem hold_st {c : Rc} {hv : Str → Bool} (fl : ∀ o ∈ c.st, o ∈ turnL c) {xs : List Str} (h : ∀ x ∈ xs, x ∈ c.st) : Hold (hL hv (turnL c)) hv xs := hL_hold fun x hx => fl x (h x hx)
def mAccepted : DSp := fun ds Q X => ∃ (c : Rc) (g d : List Str), ds = [c.d, audD g d] ∧ c.Ok ∧ AudOk g d ∧ (∀ x, heardE c g d = some x → X x) ∧ (heardE c g d = none → ∀ hv, HSol c g d hv (turnL c) → Q (.tup ((c.st.filter hv).map .str)))
def mApplying : DSp := fun ds Q X => ∃ (c : Rc) (g d : List Str), ds = [c.d, audD g d] ∧ c.Ok ∧ AudOk g d ∧ (∀ x, heardE c g d = some x → X x) ∧ (heardE c g d = none → ∀ hv, HSol c g d hv (turnL c) → Q (.tup ((c.rs.filter (appB hv)).map fun r => .str r.nm)))
def mWeighed : DSp := fun ds Q X => ∃ (c : Rc) (g d : List Str) (s : Str), ds = [c.d, audD g d, .str s] ∧ c.Ok ∧ AudOk g d ∧ okS s = true ∧ (∀ x, heardE c g d = some x → X x) ∧ (heardE c g d = none → s ∉ c.st → X refused) ∧
  (heardE c g d = none → s ∈ c.st → ∀ hv, HSol c g d hv (turnL c) → Q (.tup [.int (bestF c.rs hv s "pro"), .int (bestF c.rs hv s "con")]))
theorem pl_weighed (h1 : Has T "check_heard" 2 mHeard) (h2 : Has T "known_held" 2 mHeld) (h3 : Has T "forces" 3 mForces) (h4 : Has T "check_statement" 2 mStatement) (ds : List D) (Q : DK) (X : EK) (h : mWeighed ds Q X) : wpF T n_weighed.length b_weighed ds Q X := by
  obtain ⟨c, g, d, s, rfl, oc, oa, os, qx, qs, q⟩ := h
  refine ⟨_, rfl, _, rfl, call_ok h1 rfl rfl ⟨c, g, d, rfl, oc, oa, fun e => ?_, qx⟩⟩
  obtain ⟨f, fl, _⟩ := heard_fine oc e
  refine ⟨_, rfl, _, rfl, call_ok h4 rfl rfl ⟨c, s, rfl, oc, os, fun hs => ?_, qs e⟩⟩
  refine ⟨_, rfl, _, rfl, _, rfl, call_ok h2 rfl rfl ⟨c, g, d, rfl, f, oa, fun hv sol => ?_⟩⟩
  exact ⟨_, rfl, call_ok h3 rfl rfl ⟨c, _, hv, s, rfl, oc, os, fun r hr _ => hold_st fl (f.ne r hr), q e hs hv sol⟩⟩
end
end DL

/-! P8: the law's own readings -/
namespace DL
open PySem
open L2 (Key)

theorem first_dig : ∀ c ∈ signsL, decide (c ∈ firstL) = !decide (c ∈ digL) := by decide +kernel
section
variable {T : Tb}
def mWithin : DSp := fun ds Q _ => ∃ l st : List Str, ds = [.tup (l.map .str), .tup (st.map .str)] ∧ (∀ x ∈ l, okS x = true) ∧ (∀ x ∈ st, okS x = true) ∧ l.length ≤ 100 ∧ Q (.bl (inB st l))
def mLMeets : DSp := fun ds Q _ => ∃ (w : Str) (p c : Int), ds = [.str w, .int p, .int c] ∧ w ∈ stdL ∧ Q (.bl (meetsB w p c))
theorem std_ix {w : Str} (hw : w ∈ stdL) {P : Int → Prop} (h : ∀ j : Nat, stdL[j]? = some w → P (j : Int)) : ∃ p ps j z, toPy (.str w) = some p ∧ toPy.toPyL (stdL.map D.str) = some ps ∧ SeqAt.shaped (.list ps) = true ∧ SeqAt.shaped p = true ∧ ps[j]? = some z ∧ PyData.eqv z p = true ∧ (∀ (m : Nat) z', m < j → ps[m]? = some z' → PyData.eqv z' p = false) ∧ P (j : Int) := by
  obtain ⟨j, hj⟩ := List.getElem?_of_mem hw
  have nd : stdL.Nodup := by decide +kernel
  refine ⟨.str w, stdL.map PyData.str, j, .str w, rfl, toPy_strs stdL, sh_strs okStd, sh_str (okStd w hw), by rw [List.getElem?_map, hj]; rfl, by rw [eqv_str]; exact decide_eq_true rfl, fun m z' hm hz => ?_, h j hj⟩
  rw [List.getElem?_map] at hz
  cases q : stdL[m]? with
  | none => rw [q] at hz; cases hz
  | some y =>
    rw [q] at hz
    cases hz
    rw [eqv_str]
    refine decide_eq_false fun z => ?_
    subst z
    have := (List.getElem?_inj (List.getElem?_eq_some_iff.mp q).1 nd).mp (q.trans hj.symm)
    omega
theorem pl_lmeets (ds : List D) (Q : DK) (X : EK) (h : mLMeets ds Q X) : wpF T n__law_meets.length b__law_meets ds Q X := by
  obtain ⟨w, p, c, rfl, hw, q⟩ := h
  have tail : ∀ b : Bool, (decide (50 ≤ p) && decide (20 ≤ p - c)) = b → wpSs T [.ret (.sub (.lst [(.cmp .Gt (.var 1) (.con (.int 0))), (.cmp .Gt (.var 1) (.var 2)), (.var 3), (.and [(.var 3), (.cmp .Lt (.var 2) (.con (.int 20)))])]) (.bm .index (.lst [(.con (.str "hint")), (.con (.str "more")), (.con (.str "clear")), (.con (.str "certain"))]) [(.var 0)]))] [some (.str w), some (.int p), some (.int c), some (.bl b)] { nx := fun _ => Q .non, rt := Q, bk := fun _ => False, ct := fun _ => False, xc := X } := by
    intro b hb
    have last : ∀ b2 : Bool, (b && decide (c < 20)) = b2 → ∀ j : Nat, stdL[j]? = some w → subD (.lst [.bl (decide (0 < p)), .bl (decide (c < p)), .bl b, .bl b2]) (.int (j : Int)) Q := by
      intro b2 h2 j hj
      have fin : ∀ (v : Bool), v = meetsB w p c → ([D.bl (decide (0 < p)), .bl (decide (c < p)), .bl b, .bl b2])[j]? = some (.bl v) → subD (.lst [.bl (decide (0 < p)), .bl (decide (c < p)), .bl b, .bl b2]) (.int (j : Int)) Q := fun v hv e => ⟨_, by rw [at_nat, e], by rw [hv]; exact q⟩
      match j, hj with
      | 0, hj => cases hj; exact fin _ rfl rfl
      | 1, hj => cases hj; exact fin _ rfl rfl
      | 2, hj =>
        cases hj
        refine fin b ?_ rfl
        rw [← hb]
        show _ = ((decide (50 ≤ p) && decide (20 ≤ p - c)) && (true || decide (c < 20)))
        rw [Bool.true_or, Bool.and_true]
      | 3, hj =>
        cases hj
        refine fin b2 ?_ rfl
        rw [← h2, ← hb]
        show _ = ((decide (50 ≤ p) && decide (20 ≤ p - c)) && (false || decide (c < 20)))
        rw [Bool.false_or]
      | j + 4, hj => cases hj
    refine ⟨_, rfl, _, rfl, _, rfl, _, rfl, _, rfl, _, rfl, iteB (fun e => ?_) fun e => ?_⟩
    · obtain ⟨p', ps, j, z, k1, k2, k3, k4, k5, k6, k7, k8⟩ := std_ix hw (P := fun i => subD (.lst [.bl (decide (0 < p)), .bl (decide (c < p)), .bl b, .bl (decide (c < 20))]) (.int i) Q) fun j hj => last _ (by rw [e, Bool.true_and]) j hj
      exact ⟨_, rfl, by rw [sizeLine_eq]; exact (by decide : 4 ≤ 16777216), by rw [sizeLine_eq]; decide, trivial, _, rfl, p', ps, j, z, k1, k2, k3, k4, k5, k6, k7, k8⟩
    · obtain ⟨p', ps, j, z, k1, k2, k3, k4, k5, k6, k7, k8⟩ := std_ix hw (P := fun i => subD (.lst [.bl (decide (0 < p)), .bl (decide (c < p)), .bl b, .bl false]) (.int i) Q) fun j hj => last _ (by rw [e, Bool.false_and]) j hj
      exact ⟨by rw [sizeLine_eq]; exact (by decide : 4 ≤ 16777216), by rw [sizeLine_eq]; decide, trivial, _, rfl, p', ps, j, z, k1, k2, k3, k4, k5, k6, k7, k8⟩
  refine ⟨_, rfl, _, rfl, iteB (fun e => ?_) fun e => ?_⟩
  · refine ⟨_, rfl, _, rfl, tail _ ?_⟩
    have e : decide (50 ≤ p) = true := e
    rw [e, Bool.true_and, Bool.eq_iff_iff, decide_eq_true_iff, decide_eq_true_iff]
    omega
  · refine tail false ?_
    have e : decide (50 ≤ p) = false := e
    rw [e, Bool.false_and]
end
end DL

/-! P9: _law_forces, _law_record_held -/
namespace DL
open PySem
open L2 (Key)
section
variable {T : Tb}
theorem ixN_lit {n : Nat} (i : Nat) (h : i < n) : L2.ixN n (i : Int) = some i := by
  unfold L2.ixN
  rw [if_pos (by omega), if_pos (by omega)]
  simp
def mLForces : DSp := fun ds Q _ => ∃ (c : Rc) (l : List (Key × D)) (hv : Str → Bool) (s : Str), ds = [c.d, .dic l, .str s] ∧ c.Ok ∧ okS s = true ∧ (∀ r ∈ c.rs, r.sd = "pro" ∨ r.sd = "con") ∧ (∀ r ∈ c.rs, r.gl = s → Hold l hv (r.pr ++ r.ex)) ∧ Q (.tup [.int (bestF c.rs hv s "pro"), .int (bestF c.rs hv s "con")])
theorem pl_lforces (ds : List D) (Q : DK) (X : EK) (h : mLForces ds Q X) : wpF T n__law_forces.length b__law_forces ds Q X := by
  obtain ⟨c, l, hv, s, rfl, oc, os, hs, ho, q⟩ := h
  have l2 := oc.l2
  have wk : ∀ {α : Type} (f : α → D) (l : List α), l.length ≤ 25 → (l.map f).length ≤ wkL := fun f l hl => by
    rw [List.length_map]
    unfold wkL
    omega
  refine ⟨by rw [sizeLine_eq]; decide, _, rfl, _, at_lit 1 rfl rfl, _, rfl, .inr (wk _ _ l2), forL_t Rs.d (fun i ρ => ∃ x4 x5 x6 x7 x8 x9 x10, ρ = [some c.d, some (.dic l), some (.str s), some (.lst [.int ((c.rs.take i).foldl (best1 hv s "pro") 0), .int ((c.rs.take i).foldl (best1 hv s "con") 0)]), x4, x5, x6, x7, x8, x9, x10]) c.rs 0 _ ⟨none, none, none, none, none, none, none, rfl⟩ (fun j r ρ N hr hi hn => ?_) fun ρ hi => ?_⟩
  · obtain ⟨x4, x5, x6, x7, x8, x9, x10, hρ⟩ := hi
    rw [Nat.zero_add] at hρ hn
    subst hρ
    have hm := List.mem_of_getElem? hr
    have or := oc.rs r hm
    have lp := or.lp
    have le := or.le
    have tk : c.rs.take (j + 1) = c.rs.take j ++ [r] := by
      rw [List.take_succ, hr]
      rfl
    have fin : ∀ b0 b1 : Int, b0 = best1 hv s "pro" ((c.rs.take j).foldl (best1 hv s "pro") 0) r → b1 = best1 hv s "con" ((c.rs.take j).foldl (best1 hv s "con") 0) r → N [some c.d, some (.dic l), some (.str s), some (.lst [.int b0, .int b1]), some (.str r.nm), some (.tup (r.pr.map .str)), some (.tup (r.ex.map .str)), some (.str r.sd), some (.str r.gl), some (.int r.fc), x10] := fun b0 b1 h0 h1 => by
      refine hn _ ⟨some (.str r.nm), some (.tup (r.pr.map .str)), some (.tup (r.ex.map .str)), some (.str r.sd), some (.str r.gl), some (.int r.fc), x10, ?_⟩
      rw [tk, List.foldl_append, List.foldl_append, h0, h1]
      rfl
    have no : (decide (r.gl = s) && appB hv r) = false → N [some c.d, some (.dic l), some (.str s), some (.lst [.int ((c.rs.take j).foldl (best1 hv s "pro") 0), .int ((c.rs.take j).foldl (best1 hv s "con") 0)]), some (.str r.nm), some (.tup (r.pr.map .str)), some (.tup (r.ex.map .str)), some (.str r.sd), some (.str r.gl), some (.int r.fc), x10] := fun h => fin _ _ (by unfold best1; rw [h]; rfl) (by unfold best1; rw [h]; rfl)
    refine ⟨_, rfl, rfl, _, rfl, _, rfl, _, _, rfl, rfl, rfl, rfl, _, rfl, iteB (fun e => ?_) fun e => ?_⟩
    · rw [eqv_str] at e
      have hold := ho r hm (of_decide_eq_true e)
      refine ⟨_, rfl, _, rfl, .inr (wk _ _ (by omega)), lcW_m D.str (fun x => .bl (hv x)) r.pr (by omega) (fun x hx R k => ⟨_, rfl, _, rfl, _, _, rfl, hold x (List.mem_append_left _ hx), k⟩) ⟨_, bl_map _ _, _, rfl, iteB (fun e2 => ?_) fun e2 => ?_⟩⟩
      · rw [all_id] at e2
        refine ⟨_, rfl, _, rfl, .inr (wk _ _ (by omega)), lcW_m D.str (fun x => .bl (hv x)) r.ex (by omega) (fun x hx R k => ⟨_, rfl, _, rfl, _, _, rfl, hold x (List.mem_append_right _ hx), k⟩) ⟨_, bl_map _ _, _, rfl, _, rfl, iteB (fun e3 => ?_) fun e3 => ?_⟩⟩
        · rw [any_id] at e3
          have yes : (decide (r.gl = s) && appB hv r) = true := by
            unfold appB
            rw [e, e2, e3]
            rfl
          rcases hs r hm with z | z
          · have z0 : PyData.eqv (.str r.sd) (.str "con") = false := by rw [eqv_str, z]; decide +kernel
            refine ⟨_, rfl, _, rfl, _, rfl, _, _, rfl, rfl, rfl, rfl, .int ((c.rs.take j).foldl (best1 hv s "pro") 0), by rw [z0]; exact at_lit 0 rfl rfl, _, rfl, _, rfl, _, _, rfl, rfl, rfl, rfl, _, 0, rfl, by rw [z0]; exact ixN_lit (n := 2) 0 (by decide), ?_⟩
            refine fin _ _ ?_ ?_
            · unfold best1
              rw [yes, z]
              show (if r.fc > _ then r.fc else _) = if (true && decide (("pro" : Str) = "pro")) = true then _ else _
              rw [if_pos (show (true && decide (("pro" : Str) = "pro")) = true by decide +kernel)]
              split <;> omega
            · unfold best1
              rw [yes, z, if_neg (by decide +kernel)]
          · have z0 : PyData.eqv (.str r.sd) (.str "con") = true := by rw [eqv_str, z]; decide +kernel
            refine ⟨_, rfl, _, rfl, _, rfl, _, _, rfl, rfl, rfl, rfl, .int ((c.rs.take j).foldl (best1 hv s "con") 0), by rw [z0]; exact at_lit 1 rfl rfl, _, rfl, _, rfl, _, _, rfl, rfl, rfl, rfl, _, 1, rfl, by rw [z0]; exact ixN_lit (n := 2) 1 (by decide), ?_⟩
            refine fin _ _ ?_ ?_
            · unfold best1
              rw [yes, z, if_neg (by decide +kernel)]
            · unfold best1
              rw [yes, z]
              show (if r.fc > _ then r.fc else _) = if (true && decide (("con" : Str) = "con")) = true then _ else _
              rw [if_pos (show (true && decide (("con" : Str) = "con")) = true by decide +kernel)]
              split <;> omega
        · rw [any_id] at e3
          refine no ?_
          unfold appB
          have e3 : r.ex.any hv = true := by simpa using e3
          rw [e3, e2, e]
          rfl
      · rw [all_id] at e2
        refine ⟨_, rfl, no ?_⟩
        unfold appB
        rw [e2, e]
        rfl
    · rw [eqv_str] at e
      refine ⟨_, rfl, no ?_⟩
      rw [e]
      rfl
  · obtain ⟨x4, x5, x6, x7, x8, x9, x10, hρ⟩ := hi
    rw [Nat.zero_add, List.take_length] at hρ
    subst hρ
    exact ⟨_, rfl, q⟩
end
end DL

/-! Q0: _law_record_held -/
namespace DL
open PySem
open L2 (Key)

def needsL (rs : List Rs) (o : Str) : List Str := rs.flatMap fun r => (r.pr ++ r.ex).filter fun _ => decide (r.gl = o)
theorem mem_needsL {c : Rc} {o x : Str} : x ∈ needsL c.rs o ↔ Need c o x := by
  unfold needsL Need
  simp only [List.mem_flatMap, List.mem_filter, decide_eq_true_eq]
  constructor
  · rintro ⟨r, h1, h2, h3⟩
    exact ⟨r, h1, h3, h2⟩
  · rintro ⟨r, h1, h3, h2⟩
    exact ⟨r, h1, h2, h3⟩
theorem needsL_len (m : Nat) : ∀ (rs : List Rs) (o : Str), (∀ r ∈ rs, (r.pr ++ r.ex).length ≤ m) → (needsL rs o).length ≤ rs.length * m
  | [], _, _ => Nat.zero_le _
  | r :: rs, o, h => by
    have h1 := needsL_len m rs o fun r hr => h r (List.mem_cons_of_mem _ hr)
    have h2 := h r List.mem_cons_self
    have h3 := List.length_filter_le (fun _ => decide (r.gl = o)) (r.pr ++ r.ex)
    unfold needsL at h1 ⊢
    rw [List.flatMap_cons, List.length_append, List.length_cons, Nat.succ_mul]
    omega
theorem hL_in {hv : Str → Bool} {o : Str} : ∀ {K : List Str}, (valD (hL hv K) (.inr o)).isSome = decide (o ∈ K)
  | [] => rfl
  | k :: K => by
    have ih := hL_in (hv := hv) (o := o) (K := K)
    unfold valD hL at ih ⊢
    rw [List.map_cons, List.find?_cons]
    by_cases e : k = o
    · subst e
      simp
    · have ne : ¬ ((.inr k : Key) = .inr o) := fun z => e (Sum.inr.inj z)
      have e' : ¬ o = k := fun z => e z.symm
      simp only [ne, decide_false]
      rw [ih]
      simp [e']
theorem std_at {o : Str} : ∀ {st sd : List Str} {k : Nat}, st.Nodup → sd.length = st.length → st[k]? = some o → sd[k]? = some ((((st.zip sd).find? fun p => decide (p.1 = o)).map (·.2)).getD ("" : Str))
  | [], _, _, _, _, h => by simp at h
  | q :: st, [], _, _, hl, _ => by cases hl
  | q :: st, w :: sd, 0, _, _, h => by
    simp at h
    subst h
    simp
  | q :: st, w :: sd, k + 1, nd, hl, h => by
    obtain ⟨n1, n2⟩ := List.nodup_cons.mp nd
    have h : st[k]? = some o := by simpa using h
    have ne : ¬ q = o := fun z => n1 (by rw [z]; exact List.mem_of_getElem? h)
    rw [List.zip_cons_cons, List.find?_cons]
    simp only [ne, decide_false]
    have := std_at (k := k) n2 (Nat.succ.inj hl) h
    simpa using this
section
variable {T : Tb}
def mLHeld : DSp := fun ds Q _ => ∃ (c : Rc) (g d : List Str), ds = [c.d, audD g d] ∧ Fine c ∧ AudOk g d ∧ ∀ hv K, Grown c K → Closed c K → HSol c g d hv K → Q (.dic (hL hv K))
def stHeld : List S := [.asg 5 (.sub (.sub (.var 0) (.con (.int 0))) (.var 4)), .own 6 (.lst []), .for (.one 7) (.sub (.var 0) (.con (.int 1))) [.ext 6 (.lc [("other", 10)] (.one 10) (.bin .Add (.sub (.var 7) (.con (.int 1))) (.sub (.var 7) (.con (.int 2)))) [(.cmp .Eq (.sub (.var 7) (.con (.int 4))) (.var 5))] (.var 10))], .iff (.and [(.din true (.var 5) (.own 2)), (.blt .all [(.lc [("other", 10)] (.one 10) (.own 6) [] (.din false (.var 10) (.own 2)))])]) [.iff (.or [(.inn false (.var 5) (.sub (.var 1) (.con (.int 0)))), (.inn false (.var 5) (.sub (.var 1) (.con (.int 1))))]) [.setD 2 (.var 5) (.inn false (.var 5) (.sub (.var 1) (.con (.int 0))))] [.asgT (.many [8, 9]) (.call "_law_forces" [(.var 0), (.own 2), (.var 5)]), .setD 2 (.var 5) (.call "_law_meets" [(.sub (.sub (.var 0) (.con (.int 2))) (.var 4)), (.var 8), (.var 9)])]] []]
theorem held_step (h1 : Has T "_law_forces" 3 mLForces) (h2 : Has T "_law_meets" 3 mLMeets) {c : Rc} {g d : List Str} (fc : Fine c) (oa : AudOk g d) {hv : Str → Bool} {K : List Str} (gr : Grown c K) (sol : HSol c g d hv K) {k : Nat} {o : Str} (ho : c.st[k]? = some o)
    {x3 x5 x6 x7 x8 x9 x10 : Option D} {κ : KD} (stay : (o ∈ K ∨ ∃ x, Need c o x ∧ x ∉ K) → ∀ x5 x6 x7 x8 x9 x10, κ.nx [some c.d, some (audD g d), some (.dic (hL hv K)), x3, some (.int (0 + (k : Int))), x5, x6, x7, x8, x9, x10])
    (grow : ∀ hv', Grown c (K ++ [o]) → HSol c g d hv' (K ++ [o]) → ∀ x5 x6 x7 x8 x9 x10, κ.nx [some c.d, some (audD g d), some (.dic (hL hv' (K ++ [o]))), x3, some (.int (0 + (k : Int))), x5, x6, x7, x8, x9, x10]) :
    wpSs T stHeld [some c.d, some (audD g d), some (.dic (hL hv K)), x3, some (.int (0 + (k : Int))), x5, x6, x7, x8, x9, x10] κ := by
  have oc := fc.ok
  have l1 := oc.l1
  have l2 := oc.l2
  have ost := List.mem_of_getElem? ho
  have oo := oc.st o ost
  have wk : ∀ {α : Type} (f : α → D) (l : List α), l.length ≤ 800 → (l.map f).length ≤ wkL := fun f l hl => by
    rw [List.length_map]
    unfold wkL
    omega
  have r24 : ∀ r ∈ c.rs, (r.pr ++ r.ex).length ≤ 24 := fun r hr => by
    have k1 := (oc.rs r hr).lp
    have k2 := (oc.rs r hr).le
    rw [List.length_append]
    omega
  have okr : ∀ r ∈ c.rs, ∀ x ∈ r.pr ++ r.ex, okS x = true := fun r hr x hx => (List.mem_append.mp hx).elim ((oc.rs r hr).pr x) ((oc.rs r hr).ex x)
  have nl : (needsL c.rs o).length ≤ 600 := by
    have := needsL_len 24 c.rs o r24
    have k3 : c.rs.length * 24 ≤ 25 * 24 := Nat.mul_le_mul_right _ l2
    omega
  have gl := gr.len
  refine ⟨_, rfl, _, at_lit 0 rfl rfl, _, rfl, .str o, at_lit k (by omega) (by rw [List.getElem?_map, ho]; rfl), by rw [sizeLine_eq]; decide, ?_⟩
  refine ⟨_, rfl, _, at_lit 1 rfl rfl, _, rfl, .inr (wk _ _ (by omega)), forL_t Rs.d (fun i ρ => ∃ x7, ρ = [some c.d, some (audD g d), some (.dic (hL hv K)), x3, some (.int (0 + (k : Int))), some (.str o), some (.lst ((needsL (c.rs.take i) o).map .str)), x7, x8, x9, x10]) c.rs 0 _ ⟨x7, rfl⟩ (fun j r ρ N hr hi hn => ?_) fun ρ hi => ?_⟩
  · obtain ⟨x7, hρ⟩ := hi
    rw [Nat.zero_add] at hρ hn
    subst hρ
    have hm := List.mem_of_getElem? hr
    have hl24 := r24 r hm
    have tk : c.rs.take (j + 1) = c.rs.take j ++ [r] := by
      rw [List.take_succ, hr]
      rfl
    have hcat : r.pr.map D.str ++ r.ex.map D.str = (r.pr ++ r.ex).map D.str := by rw [List.map_append]
    have nlj : (needsL (c.rs.take j) o).length ≤ 600 := by
      have := needsL_len 24 (c.rs.take j) o fun r hr => r24 r (List.mem_of_mem_take hr)
      have k4 : (c.rs.take j).length ≤ 25 := by rw [List.length_take]; omega
      have k3 : (c.rs.take j).length * 24 ≤ 25 * 24 := Nat.mul_le_mul_right _ k4
      omega
    refine ⟨_, rfl, _, rfl, _, at_lit 1 rfl rfl, _, rfl, _, at_lit 2 rfl rfl, ?_, _, rfl, .inr ?_, ?_⟩
    · rw [← List.length_append, hcat, List.length_map, sizeLine_eq]
      omega
    · show (r.pr.map D.str ++ r.ex.map D.str).length ≤ wkL
      rw [hcat]
      exact wk _ _ (by omega)
    · show lcW _ (r.pr.map D.str ++ r.ex.map D.str) [] _
      rw [hcat]
      refine lcW_f D.str (fun _ => decide (r.gl = o)) D.str (r.pr ++ r.ex) (by omega) (fun x hx R k => ?_) ?_
      · refine ⟨_, rfl, _, at_lit 4 rfl rfl, _, rfl, _, _, rfl, rfl, rfl, rfl, _, rfl, iteB (fun e => ?_) fun e => ?_⟩
        · rw [eqv_str] at e
          rw [if_pos e] at k
          exact ⟨_, rfl, k⟩
        · rw [eqv_str] at e
          rw [if_neg (by rw [e]; exact Bool.false_ne_true)] at k
          exact k
      · have fl := List.length_filter_le (fun _ => decide (r.gl = o)) (r.pr ++ r.ex)
        refine ⟨_, rfl, by rw [List.length_map, List.length_map, sizeLine_eq]; omega, hn _ ⟨some r.d, ?_⟩⟩
        rw [tk]
        unfold needsL
        rw [List.flatMap_append, List.map_append]
        simp
  · obtain ⟨x7, hρ⟩ := hi
    rw [Nat.zero_add, List.take_length] at hρ
    subst hρ
    refine ⟨_, rfl, _, rfl, _, rfl, _, rfl, iteB (fun e => ?_) fun e => ?_⟩
    · rw [hL_in] at e
      have e : (!decide (o ∈ K)) = true := e
      have e : o ∉ K := by simpa using e
      refine ⟨_, rfl, _, rfl, .inr (wk _ _ (by omega)), lcW_m D.str (fun x => .bl (decide (x ∈ K))) (needsL c.rs o) (by omega) (fun x hx R kk => ⟨_, rfl, _, rfl, _, rfl, by rw [hL_in]; exact kk⟩) ⟨_, bl_map _ _, _, rfl, iteB (fun e2 => ?_) fun e2 => ?_⟩⟩
      · rw [all_id] at e2
        have hx : ∀ x, Need c o x → x ∈ K := fun x hx => of_decide_eq_true (List.all_eq_true.mp e2 x (mem_needsL.mpr hx))
        have gr' := gr.snoc ost e hx
        have kl : (hL hv K).length < sizeLine := by
          show (K.map _).length < _
          rw [List.length_map, sizeLine_eq]
          omega
        have fin : ∀ b : Bool, b = eqn c g d hv o → ∀ x8 x9, κ.nx [some c.d, some (audD g d), some (.dic (putD (hL hv K) (.inr o) (.bl b))), x3, some (.int (0 + (k : Int))), some (.str o), some (.lst ((needsL c.rs o).map .str)), x7, x8, x9, x10] := fun b hb x8 x9 => by
          rw [hL_put e]
          refine grow _ gr' (fun p hp => ?_) _ _ _ _ _ _
          have agree : ∀ x, x ∈ K → hv x = (if x = o then b else hv x) := fun x hx => by
            rw [if_neg fun z => e (by rw [← z]; exact hx)]
          rcases List.mem_append.mp hp with z | z
          · show (if p = o then b else hv p) = _
            rw [← agree p z, sol p z]
            refine eqn_congr fun x hx => agree x ?_
            obtain ⟨i, hi⟩ := List.getElem?_of_mem z
            exact List.mem_of_mem_take ((grown_at gr i p hi).1 x hx)
          · rw [List.mem_singleton.mp z]
            show (if o = o then b else hv o) = _
            rw [if_pos rfl]
            exact hb.trans (eqn_congr fun x hx' => agree x (hx x hx'))
        refine ⟨_, rfl, _, rfl, _, at_lit 0 rfl rfl, _, _, rfl, toPy_strs g, sh_str oo, sh_strs oa.og, _, rfl, iteB (fun e3 => ?_) fun e3 => ?_⟩
        · rw [any_strs] at e3
          have e3 := of_decide_eq_true (show decide (o ∈ g) = true from e3)
          refine ⟨_, rfl, _, rfl, _, rfl, _, rfl, _, at_lit 0 rfl rfl, _, _, rfl, toPy_strs g, sh_str oo, sh_strs oa.og, _, rfl, _, rfl, kl, ?_⟩
          rw [any_strs]
          refine fin _ ?_ _ _
          unfold eqn
          rw [if_pos (.inl e3)]
          rfl
        · rw [any_strs] at e3
          have e3 := of_decide_eq_false (show decide (o ∈ g) = false from e3)
          refine ⟨_, rfl, _, rfl, _, at_lit 1 rfl rfl, _, _, rfl, toPy_strs d, sh_str oo, sh_strs oa.od, _, rfl, iteB (fun e4 => ?_) fun e4 => ?_⟩
          · rw [any_strs] at e4
            have e4 := of_decide_eq_true (show decide (o ∈ d) = true from e4)
            refine ⟨_, rfl, _, rfl, _, rfl, _, at_lit 0 rfl rfl, _, _, rfl, toPy_strs g, sh_str oo, sh_strs oa.og, _, rfl, _, rfl, kl, ?_⟩
            rw [any_strs]
            refine fin _ ?_ _ _
            unfold eqn
            rw [if_pos (.inr e4)]
            rfl
          · rw [any_strs] at e4
            have e4 := of_decide_eq_false (show decide (o ∈ d) = false from e4)
            have sk := std_at fc.nd fc.ls ho
            have sm := List.mem_of_getElem? sk
            refine ⟨_, rfl, _, rfl, _, rfl, call_own h1 rfl rfl ⟨c, _, hv, o, rfl, oc, oo, fc.sd, fun r hr hgl => hL_hold fun x hx' => hx x ⟨r, hr, hgl, hx'⟩, rfl, _, rfl, rfl, ?_⟩⟩
            refine ⟨_, rfl, _, rfl, _, at_lit 2 rfl rfl, _, rfl, .str (stdOf c o), at_lit k (by omega) (by rw [List.getElem?_map, sk]; rfl), _, rfl, _, rfl, call_ok h2 rfl rfl ⟨_, _, _, rfl, fc.st _ sm, _, rfl, _, rfl, kl, ?_⟩⟩
            refine fin _ ?_ _ _
            unfold eqn
            rw [if_neg fun z => z.elim e3 e4]
      · rw [all_id] at e2
        obtain ⟨x, hx, hn⟩ := List.all_eq_false.mp e2
        exact stay (.inr ⟨x, mem_needsL.mp hx, fun z => hn (decide_eq_true z)⟩) _ _ _ _ _ _
    · rw [hL_in] at e
      have e : (!decide (o ∈ K)) = false := e
      exact ⟨_, rfl, stay (.inl (by simpa using e)) _ _ _ _ _ _⟩
theorem range_at {n j : Nat} {x : Nat} (h : (List.range n)[j]? = some x) : x = j ∧ j < n := by
  have hl := (List.getElem?_eq_some_iff.mp h).1
  rw [List.length_range] at hl
  rw [List.getElem?_range hl] at h
  cases h
  exact ⟨rfl, hl⟩
theorem pl_lheld (h1 : Has T "_law_forces" 3 mLForces) (h2 : Has T "_law_meets" 3 mLMeets) (ds : List D) (Q : DK) (X : EK) (h : mLHeld ds Q X) : wpF T n__law_record_held.length b__law_record_held ds Q X := by
  obtain ⟨c, g, d, rfl, fc, oa, q⟩ := h
  have oc := fc.ok
  have l1 := oc.l1
  have big : (2 : Int) ^ 62 = 4611686018427387904 := by decide
  have ln : ((c.st.map D.str).length : Int) = c.st.length := by rw [List.length_map]
  have rl : ∀ n : Nat, n ≤ 100 → ((List.range n).map fun (k : Nat) => D.int (0 + (k : Int))).length ≤ wkL := fun n hn => by
    rw [List.length_map, List.length_range]
    unfold wkL
    omega
  refine ⟨_, rfl, _, at_lit 0 rfl rfl, _, rfl, by rw [ln]; omega, by rw [ln]; omega, _, rfl, .inr (rl _ (by rw [ln]; omega)), ?_⟩
  have e1 : (((c.st.map D.str).length : Int) + 1).toNat = c.st.length + 1 := by rw [ln]; omega
  have e2 : (((c.st.map D.str).length : Int)).toNat = c.st.length := by rw [ln]; omega
  rw [e1]
  refine forL_t (fun k : Nat => D.int (0 + (k : Int))) (fun t ρ => ∃ hv K x3 x4 x5 x6 x7 x8 x9 x10, ρ = [some c.d, some (audD g d), some (.dic (hL hv K)), x3, x4, x5, x6, x7, x8, x9, x10] ∧ Grown c K ∧ HSol c g d hv K ∧ (Closed c K ∨ t ≤ K.length)) (List.range (c.st.length + 1)) 0 _ ⟨fun _ => false, [], none, none, none, none, none, none, none, none, rfl, .nil, fun o ho => absurd ho List.not_mem_nil, .inr (Nat.le_refl _)⟩ (fun t t' ρ N ht hi hn => ?_) fun ρ hi => ?_
  · obtain ⟨hv, K, x3, x4, x5, x6, x7, x8, x9, x10, rfl, gr, sol, ct⟩ := hi
    rw [Nat.zero_add] at ct hn
    obtain ⟨rfl, _⟩ := range_at ht
    refine ⟨_, rfl, _, at_lit 0 rfl rfl, _, rfl, by rw [ln]; omega, by rw [ln]; omega, _, rfl, .inr (rl _ (by rw [ln]; omega)), ?_⟩
    rw [e2]
    refine forL_t (fun k : Nat => D.int (0 + (k : Int))) (fun k ρ => ∃ hv' K' x4 x5 x6 x7 x8 x9 x10, ρ = [some c.d, some (audD g d), some (.dic (hL hv' K')), some (.int (0 + (t' : Int))), x4, x5, x6, x7, x8, x9, x10] ∧ Grown c K' ∧ HSol c g d hv' K' ∧ (K.length < K'.length ∨ (K' = K ∧ ∀ i, i < k → ∀ o, c.st[i]? = some o → o ∈ K ∨ ∃ x, Need c o x ∧ x ∉ K))) (List.range c.st.length) 0 _ ⟨hv, K, x4, x5, x6, x7, x8, x9, x10, rfl, gr, sol, .inr ⟨rfl, fun i hi => absurd hi (Nat.not_lt_zero i)⟩⟩ (fun k k' ρ N2 hk hi hn2 => ?_) fun ρ hi => ?_
    · obtain ⟨hv', K', y4, y5, y6, y7, y8, y9, y10, rfl, gr', sol', st'⟩ := hi
      rw [Nat.zero_add] at st' hn2
      obtain ⟨rfl, hkl⟩ := range_at hk
      have ho : c.st[k']? = some c.st[k'] := List.getElem?_eq_getElem hkl
      refine held_step h1 h2 fc oa gr' sol' ho (fun hs a5 a6 a7 a8 a9 a10 => hn2 _ ⟨hv', K', _, a5, a6, a7, a8, a9, a10, rfl, gr', sol', ?_⟩) fun hv2 g2 s2 a5 a6 a7 a8 a9 a10 => hn2 _ ⟨hv2, _, _, a5, a6, a7, a8, a9, a10, rfl, g2, s2, ?_⟩
      · rcases st' with z | ⟨z1, z2⟩
        · exact .inl z
        · refine .inr ⟨z1, fun i hi o hio => ?_⟩
          by_cases e : i = k'
          · subst e
            rw [ho] at hio
            cases hio
            rw [← z1]
            exact hs
          · exact z2 i (by omega) o hio
      · rw [List.length_append, List.length_cons, List.length_nil]
        rcases st' with z | ⟨z1, _⟩
        · exact .inl (by omega)
        · rw [z1]
          exact .inl (by omega)
    · obtain ⟨hv', K', y4, y5, y6, y7, y8, y9, y10, rfl, gr', sol', st'⟩ := hi
      rw [Nat.zero_add, List.length_range] at st'
      refine hn _ ⟨hv', K', _, y4, y5, y6, y7, y8, y9, y10, rfl, gr', sol', ?_⟩
      rcases st' with z | ⟨z1, z2⟩
      · rcases ct with y | y
        · have := nodup_le gr'.nodup (gr'.sub y)
          omega
        · exact .inr (by omega)
      · rw [z1]
        refine .inl fun o ho hx => ?_
        obtain ⟨i, hio⟩ := List.getElem?_of_mem ho
        rcases z2 i (List.getElem?_eq_some_iff.mp hio).1 o hio with y | ⟨x, y1, y2⟩
        · exact y
        · exact absurd (hx x y1) y2
  · obtain ⟨hv, K, x3, x4, x5, x6, x7, x8, x9, x10, rfl, gr, sol, ct⟩ := hi
    rw [Nat.zero_add, List.length_range] at ct
    refine ⟨_, rfl, q hv K gr (ct.resolve_right fun z => ?_) sol⟩
    have := gr.len
    omega
end
end DL

/-! Q1: _law_record_due, _law_same -/
namespace DL
open PySem
open L2 (Key)

def dueD (c : Rc) : D := if bigB c then .str "large" else if goodB c then .non else .str "refused"
theorem dist_key : ∀ (ss acc : List Str), ((ss.foldl (fun acc x => if x ∈ acc then acc else acc ++ [x]) acc).map fun s => (.inr s : Key)) = (ss.map fun s => (.inr s : Key)).foldl addK (acc.map fun s => (.inr s : Key))
  | [], acc => rfl
  | s :: ss, acc => by
    have e : ((if s ∈ acc then acc else acc ++ [s]).map fun s => (.inr s : Key)) = addK (acc.map fun s => (.inr s : Key)) (.inr s) := by
      unfold addK
      by_cases h : s ∈ acc
      · rw [if_pos h, if_pos (List.mem_map.mpr ⟨s, h, rfl⟩)]
      · rw [if_neg h, if_neg fun z => ?_, List.map_append]
        · rfl
        · obtain ⟨x, hx, ex⟩ := List.mem_map.mp z
          exact h (by rw [← Sum.inr.inj ex]; exact hx)
    rw [List.foldl_cons, List.map_cons, List.foldl_cons, dist_key ss, e]
theorem dist_len (c : Rc) : (distS (c.rs.map Rs.nm)).length = (nmK c).length := by
  have := congrArg List.length (dist_key (c.rs.map Rs.nm) [])
  rw [List.length_map] at this
  unfold distS nmK
  rw [this, List.map_map]
  rfl
theorem fine_mk {c : Rc} (oc : c.Ok) (h2 : risB (c.st.map .str) = true) (hr : ∀ r ∈ c.rs, reasonB c.st r = true) (h6 : c.sd.length = c.st.length) (h7 : c.sd.all (fun w => decide (w ∈ stdL)) = true) : Fine c := by
  refine ⟨oc, ris_nodup h2, fun r q => reason_gl (hr r q), fun r q x hx => ?_, fun r q => ?_, h6, fun w hw => of_decide_eq_true (List.all_eq_true.mp h7 w hw)⟩
  · have z := hr r q
    unfold reasonB at z
    have z := (and2 (and2 (and2 (and2 (and2 z).2).2).2).2).1
    refine of_decide_eq_true (List.all_eq_true.mp z x ?_)
    rcases List.mem_append.mp hx with e | e
    · exact List.mem_append_left _ e
    · exact List.mem_append_right _ (List.mem_append_left _ e)
  · have z := hr r q
    unfold reasonB at z
    have z := of_decide_eq_true (and2 (and2 (and2 (and2 z).2).2).2).1
    simpa using z
section
variable {T : Tb}
def mDue : DSp := fun ds Q _ => ∃ c : Rc, ds = [c.d] ∧ c.Ok ∧ Q (dueD c)
/-! ### _law_same -/
def mSame : DSp := fun ds Q _ => ∃ d, ds = [d, d] ∧ okN 8 4 d = true ∧ Q (.bl true)
theorem pl_same (ds : List D) (Q : DK) (X : EK) (h : mSame ds Q X) : wpF T n__law_same.length b__law_same ds Q X := by
  obtain ⟨d, rfl, ok, q⟩ := h
  have ok5 : okN 8 5 (.lst [d]) = true := by
    show (decide ([d].length ≤ 8) && [d].all fun d => okN 8 4 d) = true
    simp [ok]
  obtain ⟨p, e, g⟩ := okN_py 5 _ ok5
  have e : (toPy.toPyL [d]).map PyData.list = some p := e
  cases e2 : toPy.toPyL [d] with
  | none => rw [e2] at e; cases e
  | some ps =>
    rw [e2] at e
    cases e
    obtain ⟨g1, g2, g3, g4⟩ := g.repr (by decide) (by decide)
    refine ⟨_, rfl, by rw [sizeLine_eq]; exact (by decide : 1 ≤ 16777216), ps, e2, g1, g2, g3, g4, _, rfl, by rw [sizeLine_eq]; exact (by decide : 1 ≤ 16777216), ps, e2, g1, g2, g3, g4, _, _, rfl, rfl, rfl, rfl, ?_⟩
    rw [eqv_str, decide_eq_true rfl]
    exact q
end
end DL

/-! Q2: the stream, what is drawn -/
namespace DL
open PySem
open L2 (Key)

def Str9 (ns : List Int) (b : Nat) : Prop := (∀ n ∈ ns, 0 ≤ n ∧ n < 1009) ∧ ns.length ≤ b
theorem Str9.snoc {ns : List Int} {b : Nat} {v : Int} (h : Str9 ns b) : Str9 (ns ++ [v % 1009]) (b + 1) := by
  refine ⟨fun n hn => ?_, by rw [List.length_append, List.length_cons, List.length_nil]; have := h.2; omega⟩
  rcases List.mem_append.mp hn with z | z
  · exact h.1 n z
  · rw [List.mem_singleton.mp z]
    exact ⟨Int.emod_nonneg _ (by decide), Int.emod_lt_of_pos _ (by decide)⟩
section
variable {T : Tb}
def mStream : DSp := fun ds Q _ => ∃ l : List Int, ds = [.scr l] ∧ l.length ≤ 63 ∧ ∀ ns : List Int, ns ≠ [] → Str9 ns 4000 → Q (.lst (ns.map .int))
theorem pl_stream (ds : List D) (Q : DK) (X : EK) (h : mStream ds Q X) : wpF T n__law_stream.length b__law_stream ds Q X := by
  obtain ⟨l, rfl, hl, q⟩ := h
  have ml : (cutL l none (some 63)).length ≤ 63 := by
    unfold cutL
    rw [List.length_take, List.length_drop]
    omega
  have rl : ∀ n : Nat, n ≤ 100 → ((List.range n).map fun (k : Nat) => D.int (0 + (k : Int))).length ≤ wkL := fun n hn => by
    rw [List.length_map, List.length_range]
    unfold wkL
    omega
  have snoc : ∀ (ns : List Int) (v : Int), ns.map D.int ++ [D.int v] = (ns ++ [v]).map D.int := fun ns v => by rw [List.map_append]; rfl
  refine ⟨by rw [sizeLine_eq]; decide, _, rfl, _, rfl, _, rfl, .inr (by rw [List.length_map]; unfold wkL; omega), ?_⟩
  refine forL_t D.int (fun i ρ => ∃ ns x2 x3 x4 x5, ρ = [some (.scr l), some (.lst (ns.map .int)), x2, x3, x4, x5] ∧ Str9 ns (i * 60)) (cutL l none (some 63)) 0 _ ⟨[], none, none, none, none, rfl, fun n hn => absurd hn List.not_mem_nil, Nat.zero_le _⟩ (fun i x ρ N hx hi hn => ?_) fun ρ hi => ?_
  · obtain ⟨ns, x2, x3, x4, x5, rfl, hs⟩ := hi
    rw [Nat.zero_add] at hs hn
    have hi63 : i < 63 := by
      have := (List.getElem?_eq_some_iff.mp hx).1
      omega
    have hb : ∀ {b : Nat}, Str9 ns b → ns.length ≤ b := fun h => h.2
    refine ⟨_, rfl, _, rfl, ⟨by decide, by decide, by decide⟩, _, rfl, iteB (fun e => ?_) fun e => ?_⟩
    · refine ⟨_, rfl, by decide, by decide, _, rfl, .inr (rl 60 (by decide)), ?_⟩
      refine forL_t (fun k : Nat => D.int (0 + (k : Int))) (fun j ρ => ∃ ns y x4, ρ = [some (.scr l), some (.lst (ns.map .int)), some (.int x), some (.int y), x4, x5] ∧ Str9 ns (i * 60 + j)) (List.range 60) 0 _ ⟨ns, _, x4, rfl, hs⟩ (fun j k ρ N2 hk hi hn2 => ?_) fun ρ hi => ?_
      · obtain ⟨ns, y, x4, rfl, hs⟩ := hi
        rw [Nat.zero_add] at hs hn2
        obtain ⟨rfl, hj⟩ := range_at hk
        have hl2 := hs.2
        refine ⟨_, rfl, _, rfl, by decide, by rw [List.length_map, sizeLine_eq]; omega, _, rfl, ⟨by decide, by decide⟩, ?_⟩
        have hs2 := hs.snoc (v := y)
        refine ⟨_, rfl, _, _, rfl, rfl, rfl, rfl, _, rfl, iteB (fun e => ?_) fun e => ?_⟩
        · refine hn _ ⟨ns ++ [y % 1009], _, _, _, _, by rw [← snoc]; rfl, hs2.1, ?_⟩
          have := hs2.2
          omega
        · exact hn2 _ ⟨ns ++ [y % 1009], _, _, by rw [← snoc]; rfl, hs2.1, by have := hs2.2; omega⟩
      · obtain ⟨ns, y, x4, rfl, hs⟩ := hi
        rw [List.length_range] at hs
        exact hn _ ⟨ns, _, _, _, _, rfl, hs.1, by have := hs.2; omega⟩
    · refine ⟨_, rfl, by decide, _, rfl, by decide, by decide, _, rfl, .inr (rl 10 (by decide)), ?_⟩
      refine forL_t (fun k : Nat => D.int (0 + (k : Int))) (fun j ρ => ∃ ns y z x4, ρ = [some (.scr l), some (.lst (ns.map .int)), some (.int x), some (.int y), x4, some (.int z)] ∧ Str9 ns (i * 60 + j)) (List.range 10) 0 _ ⟨ns, _, _, x4, rfl, hs⟩ (fun j k ρ N2 hk hi hn2 => ?_) fun ρ hi => ?_
      · obtain ⟨ns, y, z, x4, rfl, hs⟩ := hi
        rw [Nat.zero_add] at hs hn2
        obtain ⟨rfl, hj⟩ := range_at hk
        have hl2 := hs.2
        refine ⟨_, rfl, .inr ⟨by decide, by decide⟩, _, rfl, .inl ⟨by decide, by decide⟩, by decide, _, rfl, _, rfl, .inr ⟨by decide, by decide⟩, _, rfl, by decide, by decide, by rw [List.length_map, sizeLine_eq]; omega, ?_⟩
        exact hn2 _ ⟨ns ++ [_ % 1009], _, _, _, by rw [← snoc]; rfl, (hs.snoc).1, by have := (hs.snoc (v := 0)).2; rw [List.length_append] at this ⊢; exact this⟩
      · obtain ⟨ns, y, z, x4, rfl, hs⟩ := hi
        rw [List.length_range] at hs
        exact hn _ ⟨ns, _, _, _, _, rfl, hs.1, by have := hs.2; omega⟩
  · obtain ⟨ns, x2, x3, x4, x5, rfl, hs⟩ := hi
    rw [Nat.zero_add] at hs
    have hb := hs.2
    refine ⟨_, rfl, _, _, rfl, rfl, rfl, rfl, _, rfl, iteB (fun e => ?_) fun e => ?_⟩
    · refine ⟨_, rfl, by rw [List.length_map, sizeLine_eq]; omega, _, rfl, ?_⟩
      rw [snoc ns 0]
      exact q (ns ++ [0 % 1009]) (by simp) ⟨hs.snoc.1, by have := (hs.snoc (v := 0)).2; omega⟩
    · refine ⟨_, rfl, q ns (fun z => ?_) ⟨hs.1, by omega⟩⟩
      rw [eqv_int, z] at e
      exact of_decide_eq_false e rfl
end
end DL

/-! Q3: records and audiences drawn -/
namespace DL
open PySem
open L2 (Key)

theorem cut_to {α : Type} (l : List α) (i : Nat) : cutL l none (some (i : Int)) = l.take i := by
  unfold cutL
  rw [HT.sIx_nat, HT.sIx_none, List.drop_zero, Nat.sub_zero]
  rcases Nat.le_total i l.length with h | h
  · rw [Nat.min_eq_left h]
  · rw [Nat.min_eq_right h, List.take_of_length_le h, List.take_length]
theorem cut_toI {α : Type} (l : List α) {i : Int} (h : 0 ≤ i) : cutL l none (some i) = l.take i.toNat := by
  obtain ⟨n, rfl⟩ := Int.eq_ofNat_of_zero_le h
  exact cut_to l n
def abcL : List Str := ["a", "b", "c", "d", "e", "f"]
def rNm (k : Nat) : Str := ("r" : Str) ++ ((toString (10 + (0 + (k : Int))) : String) : Str)
structure DrawnR (st : List Str) (k : Nat) (r : Rs) : Prop where
  nm : r.nm = rNm k
  go : ∃ at_, ∃ h : at_ < st.length, r.gl = st[at_] ∧ r.pr.Sublist (st.take at_) ∧ r.ex.Sublist (st.take at_)
  sd : r.sd = "pro" ∨ r.sd = "con"
  f1 : 1 ≤ r.fc
  f2 : r.fc ≤ 99
structure Drawn (c : Rc) : Prop where
  st : ∃ n, 2 ≤ n ∧ n ≤ 6 ∧ c.st = abcL.take n
  lr : c.rs.length ≤ 8
  rs : ∀ k r, c.rs[k]? = some r → DrawnR c.st k r
  ls : c.sd.length = c.st.length
  sd : ∀ w ∈ c.sd, w ∈ stdL
theorem fin9 {p : Nat → Bool} (h : ∀ k : _root_.Fin 9, p k.val = true) {k : Nat} (hk : k < 9) : p k = true := h ⟨k, hk⟩
theorem rNm_ok {k : Nat} (h : k < 9) : (okS (rNm k) && claimB (rNm k)) = true := fin9 (p := fun k => okS (rNm k) && claimB (rNm k)) (by decide +kernel) h
theorem rNm_log {k : Nat} (h : k < 9) : decide ((10 + (0 + (k : Int))).natAbs.log2 < 1920) = true := fin9 (p := fun k => decide ((10 + (0 + (k : Int))).natAbs.log2 < 1920)) (by decide +kernel) h
theorem rNm_len {k : Nat} (h : k < 9) : decide (("r" : Str).length + ((toString (10 + (0 + (k : Int))) : String) : Str).length ≤ 1000) = true := fin9 (p := fun k => decide (("r" : Str).length + ((toString (10 + (0 + (k : Int))) : String) : Str).length ≤ 1000)) (by decide +kernel) h
theorem okAbc : ∀ x ∈ abcL, okS x = true := by decide +kernel
def mNextD := mNext
section
variable {T : Tb}
theorem next_ok (hN : Has T "_law_next" 2 mNext) {many : Int} {es : List E} {Q : DK} {X : EK} (hm : 0 < many) (ho : es.any ownB = false) (q : ∀ r : Int, 0 ≤ r → r < many → Q (.int r)) :
    ∃ e, T.fn "_law_next" = some e ∧ ([D.st, .int many]).length = e.n ∧ e.m [D.st, .int many] (fun d => (es.any ownB = true → flatD d = true) ∧ Q d) X := call_ok hN rfl ho ⟨many, rfl, hm, q⟩
def mDrawRec : DSp := fun ds Q _ => ds = [.st, .int 6] ∧ ∀ c, Drawn c → Q c.d
theorem pl_drawrec (hN : Has T "_law_next" 2 mNext) (ds : List D) (Q : DK) (X : EK) (h : mDrawRec ds Q X) : wpF T n__law_record.length b__law_record ds Q X := by
  obtain ⟨rfl, q⟩ := h
  have big : (2 : Int) ^ 62 = 4611686018427387904 := by decide
  refine ⟨by rw [sizeLine_eq]; decide, _, rfl, _, rfl, next_ok hN (by decide) rfl fun r0 r1 r2 => ⟨_, rfl, ?_⟩⟩
  have r2 : r0 < 5 := r2
  obtain ⟨n, hn⟩ : ∃ n : Nat, 2 + r0 = n := ⟨(2 + r0).toNat, by omega⟩
  have n2 : 2 ≤ n := by omega
  have n6 : n ≤ 6 := by omega
  generalize hst : abcL.take n = st
  have lst : st.length = n := by
    rw [← hst, List.length_take]
    show min n 6 = n
    omega
  have ost : ∀ x ∈ st, okS x = true := fun x hx => okAbc x (by rw [← hst] at hx; exact List.mem_of_mem_take hx)
  have e1 : cutL [D.str "a", .str "b", .str "c", .str "d", .str "e", .str "f"] none (some (n : Int)) = st.map D.str := by
    rw [cut_to, ← hst, List.map_take]
    rfl
  have wk : ∀ {α : Type} (f : α → D) (l : List α), l.length ≤ 25 → (l.map f).length ≤ wkL := fun f l hl => by
    rw [List.length_map]
    unfold wkL
    omega
  rw [← hn] at e1
  show wpSs T (b__law_record.drop 1) [some .st, some (.int 6), some (.lst (cutL [D.str "a", .str "b", .str "c", .str "d", .str "e", .str "f"] none (some (2 + r0)))), none, none, none, none, none, none, none, none] _
  rw [e1]
  refine ⟨by rw [sizeLine_eq]; decide, _, rfl, next_ok hN (by decide) rfl fun m0 m1 m2 => ⟨_, rfl, by omega, by omega, _, rfl, .inr ?_, ?_⟩⟩
  · rw [List.length_map, List.length_range]
    unfold wkL
    omega
  refine forL_t (fun k : Nat => D.int (0 + (k : Int))) (fun i ρ => ∃ rs x4 x6 x7 x8 x9, ρ = [some .st, some (.int 6), some (.lst (st.map .str)), some (.lst (rs.map Rs.d)), x4, none, x6, x7, x8, x9, none] ∧ rs.length = i ∧ ∀ k r, rs[k]? = some r → DrawnR st k r) (List.range m0.toNat) 0 _ ⟨[], none, none, none, none, none, rfl, rfl, fun k r h => by simp at h⟩ (fun k k' ρ N hk hi hn => ?_) fun ρ hi => ?_
  · obtain ⟨rs, x4, x6, x7, x8, x9, rfl, hlen, hrs⟩ := hi
    rw [Nat.zero_add] at hlen hn
    obtain ⟨rfl, hkl⟩ := range_at hk
    have hk9 : k' < 9 := by omega
    have ll : ((st.map D.str).length : Int) = n := by rw [List.length_map, lst]
    refine ⟨_, rfl, _, rfl, next_ok hN (by rw [ll]; omega) rfl fun a0 a1 a2 => ?_⟩
    rw [ll] at a2
    obtain ⟨a, rfl⟩ := Int.eq_ofNat_of_zero_le a1
    have han : a < st.length := by omega
    have cut : cutL (st.map D.str) none (some (a : Int)) = (st.take a).map D.str := by rw [cut_to, List.map_take]
    have lta : (st.take a).length ≤ 6 := by rw [List.length_take]; omega
    -- premises
    refine ⟨_, rfl, _, rfl, _, rfl, _, rfl, ?_, ?_⟩
    · rw [cut]
      exact .inr (wk _ _ (by omega))
    rw [cut]
    refine lcW_any D.str D.str (fun _ => true) (st.take a) [] (by rw [sizeLine_eq]; simp only [List.length_nil]; omega) (fun x hx R k1 k2 => ?_) fun pr hpr => ?_
    · exact ⟨_, rfl, next_ok hN (by decide) rfl fun z0 z1 z2 => ⟨_, _, rfl, rfl, rfl, rfl, _, rfl, iteB (fun e => ⟨_, rfl, k2 rfl⟩) fun e => k1⟩⟩
    have hpr : pr.Sublist (st.take a) := by rwa [List.filter_eq_self.mpr fun _ _ => rfl] at hpr
    have opr : ∀ x ∈ pr, okS x = true := fun x hx => ost x (List.mem_of_mem_take (hpr.subset hx))
    have lpr : pr.length ≤ 6 := Nat.le_trans hpr.length_le lta
    rw [List.nil_append]
    -- exceptions
    refine ⟨_, rfl, _, rfl, _, rfl, _, rfl, ?_, ?_⟩
    · rw [cut]
      exact .inr (wk _ _ (by omega))
    rw [cut]
    refine lcW_any D.str D.str (fun x => !decide (x ∈ pr)) (st.take a) [] (by rw [sizeLine_eq]; simp only [List.length_nil]; omega) (fun x hx R k1 k2 => ?_) fun ex hex => ?_
    · refine ⟨_, rfl, _, rfl, _, _, rfl, toPy_strs pr, sh_str (ost x (List.mem_of_mem_take hx)), sh_strs opr, _, rfl, iteB (fun e => ?_) fun e => ⟨_, rfl, k1⟩⟩
      rw [any_strs] at e
      exact ⟨_, rfl, next_ok hN (by decide) rfl fun z0 z1 z2 => ⟨_, _, rfl, rfl, rfl, rfl, _, rfl, iteB (fun e2 => ⟨_, rfl, k2 e⟩) fun e2 => k1⟩⟩
    have hex : ex.Sublist (st.take a) := hex.trans List.filter_sublist
    rw [List.nil_append]
    -- the force
    refine ⟨_, rfl, next_ok hN (by decide) rfl fun f0 f1 f2 => ⟨by rw [sizeLine_eq]; exact (by decide : 8 ≤ 16777216), _, rfl, next_ok hN (by decide) rfl fun g0 g1 g2 => ?_⟩⟩
    have hg : ∃ v : Int, L2.atI [D.int 19, .int 20, .int 49, .int 50, .int 51, .int 69, .int 70, .int 71] g0 = some (.int v) ∧ 1 ≤ v ∧ v ≤ 99 := by
      obtain ⟨j, rfl⟩ := Int.eq_ofNat_of_zero_le g1
      have hj : j < 8 := by omega
      rw [at_nat]
      match j, hj with
      | 0, _ => exact ⟨19, rfl, by decide, by decide⟩
      | 1, _ => exact ⟨20, rfl, by decide, by decide⟩
      | 2, _ => exact ⟨49, rfl, by decide, by decide⟩
      | 3, _ => exact ⟨50, rfl, by decide, by decide⟩
      | 4, _ => exact ⟨51, rfl, by decide, by decide⟩
      | 5, _ => exact ⟨69, rfl, by decide, by decide⟩
      | 6, _ => exact ⟨70, rfl, by decide, by decide⟩
      | 7, _ => exact ⟨71, rfl, by decide, by decide⟩
    obtain ⟨v, hv, v1, v2⟩ := hg
    refine ⟨_, hv, by rw [sizeLine_eq]; exact (by decide : 2 ≤ 16777216), _, rfl, next_ok hN (by decide) rfl fun c0 c1 c2 => ?_⟩
    have hf : ∃ fc : Int, L2.atI [D.int (1 + f0), .int v] c0 = some (.int fc) ∧ 1 ≤ fc ∧ fc ≤ 99 := by
      obtain ⟨j, rfl⟩ := Int.eq_ofNat_of_zero_le c1
      have hj : j < 2 := by omega
      rw [at_nat]
      match j, hj with
      | 0, _ => exact ⟨1 + f0, rfl, by omega, by omega⟩
      | 1, _ => exact ⟨v, rfl, v1, v2⟩
    obtain ⟨fc, hfc, fc1, fc2⟩ := hf
    refine ⟨_, hfc, ?_⟩
    -- the reason
    have hside : ∀ s0 : Int, 0 ≤ s0 → s0 < 3 → ∃ sd : Str, L2.atI [D.str "pro", .str "pro", .str "con"] s0 = some (.str sd) ∧ (sd = "pro" ∨ sd = "con") := fun s0 h1 h2 => by
      obtain ⟨j, rfl⟩ := Int.eq_ofNat_of_zero_le h1
      have hj : j < 3 := by omega
      rw [at_nat]
      match j, hj with
      | 0, _ => exact ⟨"pro", rfl, .inl rfl⟩
      | 1, _ => exact ⟨"pro", rfl, .inl rfl⟩
      | 2, _ => exact ⟨"con", rfl, .inr rfl⟩
    refine ⟨_, rfl, _, rfl, of_decide_eq_true (rNm_log hk9), ?_, _, rfl, _, rfl, by rw [sizeLine_eq]; decide, _, rfl, next_ok hN (by decide) rfl fun s0 s1 s2 => ?_⟩
    · have := of_decide_eq_true (rNm_len hk9)
      rw [sizeLine_eq]
      exact Nat.le_trans this (by decide)
    obtain ⟨sd, hsd, hsd2⟩ := hside s0 s1 s2
    refine ⟨_, hsd, _, rfl, _, rfl, .str st[a], at_lit a rfl (by rw [List.getElem?_map, List.getElem?_eq_getElem han]; rfl), _, rfl, by rw [sizeLine_eq]; exact (by decide : 6 ≤ 16777216), by rw [List.length_map, sizeLine_eq]; omega, ?_⟩
    refine hn _ ⟨rs ++ [⟨rNm k', pr, ex, sd, st[a], fc⟩], _, _, _, _, _, by rw [List.map_append]; rfl, by rw [List.length_append, hlen]; rfl, fun i r hr => ?_⟩
    by_cases hi : i < rs.length
    · rw [List.getElem?_append_left hi] at hr
      exact hrs i r hr
    · have hl := (List.getElem?_eq_some_iff.mp hr).1
      rw [List.length_append, List.length_cons, List.length_nil] at hl
      have e : i = rs.length := by omega
      subst e
      rw [List.getElem?_append_right (Nat.le_refl _), Nat.sub_self] at hr
      cases hr
      rw [hlen]
      exact ⟨rfl, ⟨a, han, rfl, hpr, hex⟩, hsd2, fc1, fc2⟩
  · obtain ⟨rs, x4, x6, x7, x8, x9, rfl, hlen, hrs⟩ := hi
    rw [Nat.zero_add, List.length_range] at hlen
    refine ⟨_, rfl, _, rfl, .inr (wk _ _ (by omega)), lcW_each D.str D.str (fun w => w ∈ stdL) st [] (by rw [sizeLine_eq]; simp only [List.length_nil]; omega) (fun x hx R k => ?_) fun sd h1 h2 => ?_⟩
    · refine ⟨by rw [sizeLine_eq]; decide, _, rfl, next_ok hN (by decide) rfl fun z0 z1 z2 => ?_⟩
      obtain ⟨j, rfl⟩ := Int.eq_ofNat_of_zero_le z1
      have hj : j < 4 := by omega
      match j, hj with
      | 0, _ => exact ⟨_, at_lit 0 rfl rfl, k "hint" (by decide +kernel)⟩
      | 1, _ => exact ⟨_, at_lit 1 rfl rfl, k "more" (by decide +kernel)⟩
      | 2, _ => exact ⟨_, at_lit 2 rfl rfl, k "clear" (by decide +kernel)⟩
      | 3, _ => exact ⟨_, at_lit 3 rfl rfl, k "certain" (by decide +kernel)⟩
    · rw [List.nil_append]
      exact ⟨_, rfl, _, rfl, _, rfl, by rw [sizeLine_eq]; exact (by decide : 3 ≤ 16777216), q ⟨st, rs, sd⟩ ⟨⟨n, n2, n6, hst.symm⟩, by show rs.length ≤ 8; omega, hrs, h1, h2⟩⟩
end
end DL

/-! Q4: audiences drawn; what is told -/
namespace DL
open PySem
open L2 (Key)
section
variable {T : Tb}
def mDrawAud : DSp := fun ds Q _ => ∃ c : Rc, ds = [.st, c.d] ∧ c.Ok ∧ ∀ g d : List Str, g.Sublist c.st → d.Sublist c.st → (∀ x ∈ g, x ∉ d) → Q (audD g d)
theorem pl_drawaud (hN : Has T "_law_next" 2 mNext) (ds : List D) (Q : DK) (X : EK) (h : mDrawAud ds Q X) : wpF T n__law_audience.length b__law_audience ds Q X := by
  obtain ⟨c, rfl, oc, q⟩ := h
  have l1 := oc.l1
  have wk : (c.st.map D.str).length ≤ wkL := by
    rw [List.length_map]
    unfold wkL
    omega
  refine ⟨_, rfl, _, at_lit 0 rfl rfl, _, rfl, .inr wk, lcW_any D.str D.str (fun _ => true) c.st [] (by rw [sizeLine_eq]; simp only [List.length_nil]; omega) (fun x hx R k1 k2 => ?_) fun g hg => ?_⟩
  · exact ⟨_, rfl, next_ok hN (by decide) rfl fun z0 z1 z2 => ⟨_, _, rfl, rfl, rfl, rfl, _, rfl, iteB (fun e => ⟨_, rfl, k2 rfl⟩) fun e => k1⟩⟩
  have hg : g.Sublist c.st := by rwa [List.filter_eq_self.mpr fun _ _ => rfl] at hg
  have og : ∀ x ∈ g, okS x = true := fun x hx => oc.st x (hg.subset hx)
  rw [List.nil_append]
  refine ⟨_, rfl, _, rfl, _, at_lit 0 rfl rfl, _, rfl, .inr wk, lcW_any D.str D.str (fun x => !decide (x ∈ g)) c.st [] (by rw [sizeLine_eq]; simp only [List.length_nil]; omega) (fun x hx R k1 k2 => ?_) fun d hd => ?_⟩
  · refine ⟨_, rfl, _, rfl, _, _, rfl, toPy_strs g, sh_str (oc.st x hx), sh_strs og, _, rfl, iteB (fun e => ?_) fun e => ⟨_, rfl, k1⟩⟩
    rw [any_strs] at e
    exact ⟨_, rfl, next_ok hN (by decide) rfl fun z0 z1 z2 => ⟨_, _, rfl, rfl, rfl, rfl, _, rfl, iteB (fun e2 => ⟨_, rfl, k2 e⟩) fun e2 => k1⟩⟩
  · rw [List.nil_append]
    refine ⟨by rw [sizeLine_eq]; exact (by decide : 2 ≤ 16777216), q g d hg (hd.trans List.filter_sublist) fun x hx hy => ?_⟩
    have := (List.mem_filter.mp (hd.subset hy)).2
    simp [hx] at this
/-! ### what is told -/
def Has0 (T : Tb) (f : Str) (n : Nat) (m : DSp) : Prop := ∃ k, T.fn f = some ⟨k, n, 0, m⟩
theorem Has0.has {f : Str} {n : Nat} {m : DSp} (h : Has0 T f n m) : Has T f n m := let ⟨k, e⟩ := h; ⟨k, 0, e⟩
def tagD : Option Exn → D → D
  | none, v => v
  | some x, _ => if x.cls = "TooLarge" then .str "large" else .str "refused"
def toldD (d : D) : D := .tup [.str "told", d]
theorem rec_cls {c : Rc} {x : Exn} (h : recE c = some x) : x = tooLarge ∨ x = refused := by
  unfold recE at h
  split at h
  · cases h; exact .inl rfl
  · split at h
    · cases h
    · cases h; exact .inr rfl
theorem heard_cls {c : Rc} {g d : List Str} {x : Exn} (h : heardE c g d = some x) : x = tooLarge ∨ x = refused := by
  unfold heardE at h
  split at h
  · rename_i e
    cases h
    exact rec_cls e
  · split at h
    · cases h
    · cases h; exact .inr rfl
theorem tag_x {x : Exn} (h : x = tooLarge ∨ x = refused) {Q : DK} (v : D) (q : Q (tagD (some x) v)) : x.line = none ∧ ∃ t, errT x.cls = some t ∧ Q (.str t) := by
  rcases h with rfl | rfl
  · exact ⟨rfl, "large", by decide +kernel, q⟩
  · exact ⟨rfl, "refused", by decide +kernel, q⟩
end
end DL

/-! Q5: _law_odd_record -/
namespace DL
open PySem
open L2 (Key)
theorem drawn_ok {c : Rc} (h : Drawn c) : c.Ok := by
  obtain ⟨n, n2, n6, hst⟩ := h.st
  have ost : ∀ x ∈ c.st, okS x = true := fun x hx => okAbc x (by rw [hst] at hx; exact List.mem_of_mem_take hx)
  have lst : c.st.length ≤ 6 := by
    rw [hst, List.length_take]
    omega
  have lr := h.lr
  have ls := h.ls
  refine ⟨ost, fun x hx => okStd x (h.sd x hx), fun r hr => ?_, by omega, by omega, by omega⟩
  obtain ⟨k, hk⟩ := List.getElem?_of_mem hr
  have hkl := (List.getElem?_eq_some_iff.mp hk).1
  obtain ⟨h1, ⟨a, ha, h2, h3, h4⟩, h5, h6, h7⟩ := h.rs k r hk
  have lt : (c.st.take a).length ≤ 6 := by
    rw [List.length_take]
    omega
  refine ⟨by rw [h1]; exact (and2 (rNm_ok (by omega))).1, fun x hx => ost x (List.mem_of_mem_take (h3.subset hx)), fun x hx => ost x (List.mem_of_mem_take (h4.subset hx)), ?_, by rw [h2]; exact ost _ (List.getElem_mem ha), Nat.le_trans h3.length_le (by omega), Nat.le_trans h4.length_le (by omega), by omega⟩
  rcases h5 with e | e <;> rw [e] <;> decide +kernel
theorem cut_neg {α : Type} (l : List α) : cutL l (some (-1)) none = l.drop (l.length - 1) := by
  unfold cutL
  have e : HT.sIx l.length 0 (some (-1)) = l.length - 1 := by
    show (if (-1 : Int) < 0 then ((-1 : Int) + (l.length : Int)).toNat else min (-1 : Int).toNat l.length) = _
    rw [if_pos (by decide)]
    omega
  rw [e, HT.sIx_none, List.take_of_length_le (by rw [List.length_drop]; omega)]
theorem cut_negT {α : Type} (l : List α) : cutL l none (some (-1)) = l.take (l.length - 1) := by
  unfold cutL
  have e : HT.sIx l.length l.length (some (-1)) = l.length - 1 := by
    show (if (-1 : Int) < 0 then ((-1 : Int) + (l.length : Int)).toNat else min (-1 : Int).toNat l.length) = _
    rw [if_pos (by decide)]
    omega
  rw [e, HT.sIx_none, List.drop_zero, Nat.sub_zero]
theorem at_neg {α : Type} {l : List α} (h : 0 < l.length) : L2.atI l (-1) = some (l[l.length - 1]'(by omega)) := by
  unfold L2.atI L2.ixN
  rw [if_neg (by decide), if_pos (by omega)]
  show l[((-1 : Int) + (l.length : Int)).toNat]? = _
  rw [show ((-1 : Int) + (l.length : Int)).toNat = l.length - 1 by omega, List.getElem?_eq_getElem (by omega)]
def bad5 (z : Str) : List Rs := [⟨"A", [], [], "pro", z, 5⟩, ⟨"zz", ["nobody"], [], "pro", z, 5⟩, ⟨"zz", [], ["b", "a"], "pro", z, 5⟩, ⟨"zz", [], [], "for", z, 5⟩, ⟨"zz", [], [], "pro", "nobody", 5⟩]
def bad4 (z : Str) : List Rs := [⟨"zz", [z], [], "pro", z, 5⟩, ⟨"zz", ["a", "a"], [], "pro", z, 5⟩, ⟨"zz", [], [], "pro", z, 0⟩, ⟨"zz", [], [], "pro", z, 100⟩]
theorem ok2 {p : Str → Prop} {a b : Str} (ha : p a) (hb : p b) : ∀ x ∈ [a, b], p x := fun x hx => by
  rcases List.mem_cons.mp hx with e | e
  · rw [e]; exact ha
  · rw [List.mem_singleton.mp e]; exact hb
theorem ok1 {p : Str → Prop} {a : Str} (ha : p a) : ∀ x ∈ [a], p x := fun x hx => by rw [List.mem_singleton.mp hx]; exact ha
theorem ok0 {p : Str → Prop} : ∀ x ∈ ([] : List Str), p x := fun x hx => absurd hx List.not_mem_nil
theorem rs_ok {nm sd gl : Str} {pr ex : List Str} {fc : Int} (h1 : okS nm = true) (h2 : ∀ x ∈ pr, okS x = true) (h3 : ∀ x ∈ ex, okS x = true) (h4 : okS sd = true) (h5 : okS gl = true) (h6 : pr.length ≤ 12) (h7 : ex.length ≤ 12) (h8 : fc.natAbs ≤ 1000) : Rs.Ok ⟨nm, pr, ex, sd, gl, fc⟩ := ⟨h1, h2, h3, h4, h5, h6, h7, h8⟩
theorem bad_ok {z : Str} (hz : okS z = true) : ∀ r ∈ bad5 z ++ bad4 z, r.Ok := by
  intro r hr
  simp only [bad5, bad4, List.cons_append, List.nil_append, List.mem_cons, List.not_mem_nil, or_false] at hr
  rcases hr with rfl | rfl | rfl | rfl | rfl | rfl | rfl | rfl | rfl
  · exact rs_ok okS_lit ok0 ok0 okS_lit hz (by decide) (by decide) (by decide)
  · exact rs_ok okS_lit (ok1 okS_lit) ok0 okS_lit hz (by decide) (by decide) (by decide)
  · exact rs_ok okS_lit ok0 (ok2 okS_lit okS_lit) okS_lit hz (by decide) (by decide) (by decide)
  · exact rs_ok okS_lit ok0 ok0 okS_lit hz (by decide) (by decide) (by decide)
  · exact rs_ok okS_lit ok0 ok0 okS_lit okS_lit (by decide) (by decide) (by decide)
  · exact rs_ok okS_lit (ok1 hz) ok0 okS_lit hz (Nat.le_of_ble_eq_true rfl) (by decide) (by decide)
  · exact rs_ok okS_lit (ok2 okS_lit okS_lit) ok0 okS_lit hz (by decide) (by decide) (by decide)
  · exact rs_ok okS_lit ok0 ok0 okS_lit hz (by decide) (by decide) (by decide)
  · exact rs_ok okS_lit ok0 ok0 okS_lit hz (by decide) (by decide) (by decide)
def sNm (k : Nat) : Str := ("s" : Str) ++ ((toString (0 + (k : Int)) : String) : Str)
def r1Nm (k : Nat) : Str := ("r" : Str) ++ ((toString (100 + (0 + (k : Int))) : String) : Str)
theorem fin22 {p : Nat → Bool} (h : ∀ k : _root_.Fin 22, p k.val = true) {k : Nat} (hk : k < 22) : p k = true := h ⟨k, hk⟩
theorem sNm_ok {k : Nat} (h : k < 22) : (okS (sNm k) && (decide ((0 + (k : Int)).natAbs.log2 < 1920) && decide (("s" : Str).length + ((toString (0 + (k : Int)) : String) : Str).length ≤ 1000))) = true := fin22 (p := fun k => okS (sNm k) && (decide ((0 + (k : Int)).natAbs.log2 < 1920) && decide (("s" : Str).length + ((toString (0 + (k : Int)) : String) : Str).length ≤ 1000))) (by decide +kernel) h
theorem r1Nm_ok {k : Nat} (h : k < 22) : (okS (r1Nm k) && (decide ((100 + (0 + (k : Int))).natAbs.log2 < 1920) && decide (("r" : Str).length + ((toString (100 + (0 + (k : Int))) : String) : Str).length ≤ 1000))) = true := fin22 (p := fun k => okS (r1Nm k) && (decide ((100 + (0 + (k : Int))).natAbs.log2 < 1920) && decide (("r" : Str).length + ((toString (100 + (0 + (k : Int))) : String) : Str).length ≤ 1000))) (by decide +kernel) h
theorem szl {n : Nat} (h : Nat.ble n 16777216 = true := by rfl) : n ≤ sizeLine := by
  rw [sizeLine_eq]
  exact Nat.le_of_ble_eq_true h
theorem szm {n m : Nat} (h : n ≤ 100) (h2 : Nat.ble m 1000 = true := by rfl) : n + m ≤ sizeLine := by
  rw [sizeLine_eq]
  have := Nat.le_of_ble_eq_true h2
  omega
section
variable {T : Tb}
def mOdd : DSp := fun ds Q _ => ∃ c : Rc, ds = [.st, c.d] ∧ Drawn c ∧ ∀ b : Rc, b.Ok → Q b.d
end
end DL

/-! Q6: what is drawn has no fault -/
namespace DL
open PySem
open L2 (Key)

def ltS (a b : Str) : Prop := a.cps.toList < b.cps.toList
theorem pw_ris {l : List Str} (h : l.Pairwise ltS) : risB (l.map .str) = true := by
  unfold risB
  rw [List.all_eq_true]
  intro k hk
  rw [List.mem_range, List.length_map] at hk
  rw [List.pairwise_iff_getElem] at h
  have e1 : (l.map D.str)[k]? = some (.str (l[k]'(by omega))) := by rw [List.getElem?_map, List.getElem?_eq_getElem (by omega)]; rfl
  have e2 : (l.map D.str)[k + 1]? = some (.str (l[k + 1]'(by omega))) := by rw [List.getElem?_map, List.getElem?_eq_getElem (by omega)]; rfl
  rw [e1, e2]
  exact decide_eq_true (h k (k + 1) (by omega) (by omega) (by omega))
instance (a b : Str) : Decidable (ltS a b) := inferInstanceAs (Decidable (a.cps.toList < b.cps.toList))
theorem abc_pw : abcL.Pairwise ltS := by decide +kernel
theorem abc_claim : ∀ x ∈ abcL, claimB x = true := by decide +kernel
theorem rNm_lt {k : Nat} (h : k < 8) : (PySem.W.dataLt (.str (rNm k)) (.str (rNm (k + 1))) && !PyData.eqv (.str (rNm k)) (.str (rNm (k + 1)))) = true := by
  have : ∀ k : _root_.Fin 8, (PySem.W.dataLt (.str (rNm k.val)) (.str (rNm (k.val + 1))) && !PyData.eqv (.str (rNm k.val)) (.str (rNm (k.val + 1)))) = true := by decide +kernel
  exact this ⟨k, h⟩
theorem rNm_inj {i j : Nat} (hi : i < 9) (hj : j < 9) (h : rNm i = rNm j) : i = j := by
  have : ∀ i j : _root_.Fin 9, (!decide (rNm i.val = rNm j.val) || decide (i.val = j.val)) = true := by decide +kernel
  have q := this ⟨i, hi⟩ ⟨j, hj⟩
  rw [decide_eq_true (show rNm i = rNm j from h), Bool.not_true, Bool.false_or] at q
  exact of_decide_eq_true q
theorem fold_new : ∀ (l acc : List Key), l.Nodup → (∀ x ∈ l, x ∉ acc) → l.foldl addK acc = acc ++ l
  | [], acc, _, _ => by simp
  | x :: l, acc, nd, h => by
    obtain ⟨n1, n2⟩ := List.nodup_cons.mp nd
    have e : addK acc x = acc ++ [x] := by
      unfold addK
      rw [if_neg (h x List.mem_cons_self)]
    rw [List.foldl_cons, e, fold_new l _ n2 fun y hy z => ?_]
    · simp
    · rcases List.mem_append.mp z with z | z
      · exact h y (List.mem_cons_of_mem _ hy) z
      · rw [List.mem_singleton.mp z] at hy
        exact n1 hy
theorem lt_rs2 {a b : Rs} (h1 : PySem.W.dataLt (.str a.nm) (.str b.nm) = true) (h2 : PyData.eqv (.str a.nm) (.str b.nm) = false) : ltD a.d b.d = true := by
  have e : ltD a.d b.d = PySem.W.dataLt (.tuple [.str a.nm, .tuple (a.pr.map .str), .tuple (a.ex.map .str), .str a.sd, .str a.gl, .int a.fc]) (.tuple [.str b.nm, .tuple (b.pr.map .str), .tuple (b.ex.map .str), .str b.sd, .str b.gl, .int b.fc]) := by
    show (match toPy.toPyL _, toPy.toPyL _ with
      | some p, some q => PySem.W.dataLt (.tuple p) (.tuple q)
      | _, _ => false) = _
    rw [toPy_rs a, toPy_rs b]
  rw [e, PySem.W.dataLt_tuple, PySem.W.dataLt_all_no (by simp [PySem.W.alike]) h2]
  exact h1
theorem drawn_st {c : Rc} (h : Drawn c) : c.st.Pairwise ltS ∧ (∀ x ∈ c.st, x ∈ abcL) ∧ 2 ≤ c.st.length ∧ c.st.length ≤ 6 := by
  obtain ⟨n, n2, n6, hst⟩ := h.st
  have e : abcL.length = 6 := rfl
  refine ⟨by rw [hst]; exact abc_pw.sublist (List.take_sublist _ _), fun x hx => by rw [hst] at hx; exact List.mem_of_mem_take hx, ?_, ?_⟩ <;> rw [hst, List.length_take, e] <;> omega
theorem drawn_nd {c : Rc} (h : Drawn c) : c.st.Nodup := ris_nodup (pw_ris (drawn_st h).1)
theorem drawn_need {c : Rc} (h : Drawn c) {i : Nat} {o x : Str} (ho : c.st[i]? = some o) (hn : Need c o x) : x ∈ c.st.take i := by
  obtain ⟨r, hr, hg, hx⟩ := hn
  obtain ⟨k, hk⟩ := List.getElem?_of_mem hr
  obtain ⟨_, ⟨a, ha, g1, g2, g3⟩, _⟩ := h.rs k r hk
  have e : a = i := by
    have h1 : c.st[a]? = some o := by rw [List.getElem?_eq_getElem ha, ← g1, hg]
    exact (List.getElem?_inj ha (drawn_nd h)).mp (h1.trans ho.symm)
  subst e
  rcases List.mem_append.mp hx with z | z
  · exact g2.subset z
  · exact g3.subset z
theorem closed_all {c : Rc} (h : Drawn c) {K : List Str} (cl : Closed c K) : ∀ (i : Nat) (o : Str), c.st[i]? = some o → o ∈ K := by
  intro i
  induction i using Nat.strongRecOn with
  | _ i ih =>
    intro o ho
    refine cl o (List.mem_of_getElem? ho) fun x hx => ?_
    obtain ⟨j, hj⟩ := List.getElem?_of_mem (drawn_need h ho hx)
    have hji : j < i := by
      have := (List.getElem?_eq_some_iff.mp hj).1
      rw [List.length_take] at this
      omega
    rw [List.getElem?_take_of_lt hji] at hj
    exact ih j hji x hj
theorem closed_st {c : Rc} (h : Drawn c) {K : List Str} (cl : Closed c K) : ∀ o ∈ c.st, o ∈ K := fun o ho => by
  obtain ⟨i, hi⟩ := List.getElem?_of_mem ho
  exact closed_all h cl i o hi
theorem drawn_good {c : Rc} (h : Drawn c) : bigB c = false ∧ goodB c = true := by
  obtain ⟨pw, sub, s2, s6⟩ := drawn_st h
  have lr := h.lr
  have ls := h.ls
  refine ⟨by unfold bigB; rw [decide_eq_false (by omega), decide_eq_false (by omega)]; rfl, ?_⟩
  have reason : ∀ r ∈ c.rs, reasonB c.st r = true := fun r hr => by
    obtain ⟨k, hk⟩ := List.getElem?_of_mem hr
    have hkl := (List.getElem?_eq_some_iff.mp hk).1
    obtain ⟨h1, ⟨a, ha, g1, g2, g3⟩, h5, h6, h7⟩ := h.rs k r hk
    have hin : inB c.st (r.pr ++ (r.ex ++ [r.gl])) = true := by
      unfold inB
      rw [List.all_eq_true]
      intro x hx
      refine decide_eq_true ?_
      rcases List.mem_append.mp hx with z | z
      · exact List.mem_of_mem_take (g2.subset z)
      · rcases List.mem_append.mp z with z | z
        · exact List.mem_of_mem_take (g3.subset z)
        · rw [List.mem_singleton.mp z, g1]
          exact List.getElem_mem ha
    have pt : (c.st.take a).Pairwise ltS := pw.sublist (List.take_sublist _ _)
    unfold reasonB
    rw [h1, (and2 (rNm_ok (k := k) (by omega))).2, pw_ris (pt.sublist g2), pw_ris (pt.sublist g3), hin, decide_eq_true h6, decide_eq_true h7]
    rcases h5 with e | e <;> rw [e] <;> decide +kernel
  have names : (nmK c).length = c.rs.length := by
    unfold nmK
    rw [fold_new _ [] ?_ fun x _ => List.not_mem_nil]
    · simp
    · rw [List.Nodup, List.pairwise_map, List.pairwise_iff_getElem]
      intro i j hi hj hij e
      have e1 := (h.rs i _ (List.getElem?_eq_getElem hi)).nm
      have e2 := (h.rs j _ (List.getElem?_eq_getElem hj)).nm
      have e := Sum.inr.inj e
      rw [e1, e2] at e
      have := rNm_inj (by omega) (by omega) e
      omega
  have ris : risB (c.rs.map Rs.d) = true := by
    unfold risB
    rw [List.all_eq_true]
    intro k hk
    rw [List.mem_range, List.length_map] at hk
    have e1 : (c.rs.map Rs.d)[k]? = some (Rs.d (c.rs[k]'(by omega))) := by rw [List.getElem?_map, List.getElem?_eq_getElem (by omega)]; rfl
    have e2 : (c.rs.map Rs.d)[k + 1]? = some (Rs.d (c.rs[k + 1]'(by omega))) := by rw [List.getElem?_map, List.getElem?_eq_getElem (by omega)]; rfl
    rw [e1, e2]
    have n1 := (h.rs k _ (List.getElem?_eq_getElem (show k < c.rs.length by omega))).nm
    have n2 := (h.rs (k + 1) _ (List.getElem?_eq_getElem (show k + 1 < c.rs.length by omega))).nm
    obtain ⟨q1, q2⟩ := and2 (rNm_lt (k := k) (by omega))
    exact lt_rs2 (by rw [n1, n2]; exact q1) (by rw [n1, n2]; simpa using q2)
  have turn : (turnL c).length = c.st.length := by
    obtain ⟨gr, cl⟩ := turn_spec (drawn_nd h)
    exact Nat.le_antisymm gr.len (nodup_le (drawn_nd h) (closed_st h cl))
  unfold goodB
  rw [List.all_eq_true.mpr fun x hx => abc_claim x (sub x hx), pw_ris pw, ris, List.all_eq_true.mpr reason, decide_eq_true names, decide_eq_true ls, List.all_eq_true.mpr fun w hw => decide_eq_true (h.sd w hw), decide_eq_true turn]
  rfl
theorem drawn_rec {c : Rc} (h : Drawn c) : recE c = none := by
  obtain ⟨h1, h2⟩ := drawn_good h
  unfold recE
  rw [h1, h2]
  rfl
theorem drawn_aud {c : Rc} (h : Drawn c) {g d : List Str} (hg : g.Sublist c.st) (hd : d.Sublist c.st) (ha : ∀ x ∈ g, x ∉ d) : audB c.st g d = true := by
  obtain ⟨pw, sub, s2, s6⟩ := drawn_st h
  unfold audB inB
  rw [pw_ris (pw.sublist hg), pw_ris (pw.sublist hd), List.all_eq_true.mpr fun x hx => decide_eq_true ((List.mem_append.mp hx).elim (fun z => hg.subset z) fun z => hd.subset z), List.any_eq_false.mpr fun x hx => by simpa using ha x hx]
  rfl
theorem drawn_heard {c : Rc} (h : Drawn c) {g d : List Str} (hg : g.Sublist c.st) (hd : d.Sublist c.st) (ha : ∀ x ∈ g, x ∉ d) : heardE c g d = none := by
  unfold heardE
  rw [drawn_rec h, drawn_aud h hg hd ha]
  rfl
theorem heard_bad {c : Rc} (h : Drawn c) {g d : List Str} (ha : audB c.st g d = false) : heardE c g d = some refused := by
  unfold heardE
  rw [drawn_rec h, ha]
  rfl
theorem due_tag (c : Rc) : dueD c = tagD (recE c) .non := by
  unfold dueD recE
  by_cases h1 : bigB c = true
  · rw [if_pos h1, if_pos h1]
    rfl
  · rw [if_neg h1, if_neg h1]
    by_cases h2 : goodB c = true
    · rw [if_pos h2, if_pos h2]
      rfl
    · rw [if_neg h2, if_neg h2]
      rfl
end DL

/-! Q7: one turn of the law's loop -/
namespace DL
open PySem
open L2 (Key)

theorem drawn_fine {c : Rc} (h : Drawn c) : Fine c ∧ (turnL c).length = c.st.length := fine_of (drawn_ok h) (drawn_good h).2
theorem best_abs {rs : List Rs} {hv : Str → Bool} {s side : Str} (h : ∀ r ∈ rs, r.fc.natAbs ≤ 1000) : (bestF rs hv s side).natAbs ≤ 1000 := by
  unfold bestF
  rw [best_filter]
  rcases max_mem (((rs.filter fun r => decide (r.gl = s) && appB hv r).filter fun r => decide (r.sd = side)).map Rs.fc) 0 with e | e
  · rw [e]; decide
  · obtain ⟨r, hr, e2⟩ := List.mem_map.mp e
    rw [← e2]
    exact h r (List.mem_filter.mp (List.mem_filter.mp hr).1).1
theorem due_ok (c : Rc) : okN 8 0 (dueD c) = true := by
  unfold dueD
  split
  · decide +kernel
  · split
    · rfl
    · decide +kernel
theorem odd_aud {st : List Str} (h : ∀ x ∈ st, x ∈ abcL) : ∀ p ∈ ([(["b", "a"], []), (["a"], ["a"]), (["nobody"], []), ([], ["a", "a"])] : List (List Str × List Str)), audB st p.1 p.2 = false ∧ AudOk p.1 p.2 := by
  intro p hp
  simp only [List.mem_cons, List.not_mem_nil, or_false] at hp
  have oa : okS "a" = true := okS_lit
  have ob : okS "b" = true := okS_lit
  rcases hp with rfl | rfl | rfl | rfl
  · refine ⟨?_, ok2 ob oa, ok0, by decide, by decide⟩
    unfold audB
    rw [show risB ((["b", "a"] : List Str).map .str) = false by decide +kernel]
    rfl
  · refine ⟨?_, ok1 oa, ok1 oa, by decide, by decide⟩
    unfold audB
    rw [show ((["a"] : List Str).any fun x => decide (x ∈ (["a"] : List Str))) = true by decide +kernel]
    simp
  · refine ⟨?_, ok1 okS_lit, ok0, by decide, by decide⟩
    have e : inB st ((["nobody"] : List Str) ++ []) = false := by
      unfold inB
      rw [List.all_eq_false]
      refine ⟨"nobody", List.mem_cons_self, ?_⟩
      rw [decide_eq_true_iff]
      intro z
      have := h _ z
      revert this
      decide +kernel
    unfold audB
    rw [e]
    simp
  · refine ⟨?_, ok0, ok2 oa oa, by decide, by decide⟩
    unfold audB
    rw [show risB ((["a", "a"] : List Str).map .str) = false by decide +kernel]
    simp
def toldF (c : Rc) (hv : Str → Bool) : Nat → D
  | 0 => .non
  | 1 => .non
  | 2 => toldD (.tup ((c.st.filter hv).map .str))
  | _ => toldD (.tup ((c.rs.filter (appB hv)).map fun r => .str r.nm))
theorem toldF_ok {c : Rc} (h : Drawn c) (hv : Str → Bool) : okN 8 4 (.lst ((List.range 4).map (toldF c hv))) = true := by
  have oc := drawn_ok h
  obtain ⟨_, _, s2, s6⟩ := drawn_st h
  have lr := h.lr
  have a1 : okN 8 2 (.tup ((c.st.filter hv).map .str)) = true := by
    show (decide (((c.st.filter hv).map D.str).length ≤ 8) && ((c.st.filter hv).map D.str).all fun d => okN 8 1 d) = true
    rw [decide_eq_true (by rw [List.length_map]; exact Nat.le_trans (List.length_filter_le _ _) (by omega)), Bool.true_and, List.all_eq_true]
    intro d hd
    obtain ⟨x, hx, rfl⟩ := List.mem_map.mp hd
    exact oc.st x (List.mem_filter.mp hx).1
  have a2 : okN 8 2 (.tup ((c.rs.filter (appB hv)).map fun r => .str r.nm)) = true := by
    show (decide (((c.rs.filter (appB hv)).map fun r => D.str r.nm).length ≤ 8) && ((c.rs.filter (appB hv)).map fun r => D.str r.nm).all fun d => okN 8 1 d) = true
    rw [decide_eq_true (by rw [List.length_map]; exact Nat.le_trans (List.length_filter_le _ _) (by omega)), Bool.true_and, List.all_eq_true]
    intro d hd
    obtain ⟨x, hx, rfl⟩ := List.mem_map.mp hd
    exact (oc.rs x (List.mem_filter.mp hx).1).nm
  have t : okN 8 2 (.str "told") = true := by decide +kernel
  have b : ∀ d, okN 8 2 d = true → okN 8 3 (toldD d) = true := fun d hd => by
    show (decide ([D.str "told", d].length ≤ 8) && (okN 8 2 (.str "told") && (okN 8 2 d && true))) = true
    rw [t, hd]
    rfl
  show (decide (4 ≤ 8) && (okN 8 3 .non && (okN 8 3 .non && (okN 8 3 (toldD _) && (okN 8 3 (toldD _) && true))))) = true
  rw [b _ a1, b _ a2]
  rfl
theorem forces_ok {c : Rc} (oc : c.Ok) (hv : Str → Bool) (s : Str) : okN 8 4 (toldD (.tup [.int (bestF c.rs hv s "pro"), .int (bestF c.rs hv s "con")])) = true := by
  have t : okN 8 3 (.str "told") = true := by decide +kernel
  have h : ∀ side, okN 8 2 (.int (bestF c.rs hv s side)) = true := fun side => by
    show decide ((bestF c.rs hv s side).natAbs ≤ 1000) = true
    exact decide_eq_true (best_abs fun r hr => (oc.rs r hr).fc)
  show (decide (2 ≤ 8) && (okN 8 3 (.str "told") && ((decide (2 ≤ 8) && (okN 8 2 (.int (bestF c.rs hv s "pro")) && (okN 8 2 (.int (bestF c.rs hv s "con")) && true))) && true))) = true
  rw [t, h, h]
  rfl
section
variable {T : Tb}
theorem repr_tup {w n : Nat} {l : List D} (hn : n + 1 ≤ 60) (hw : wt w (n + 1) ≤ 1048576) (h : okN w (n + 1) (.tup l) = true) : ∃ s : Str, ∀ Q : DK, Q (.str s) → bfD .repr [.tup l] Q := by
  obtain ⟨p, e, g⟩ := okN_py (n + 1) _ h
  have e : (toPy.toPyL l).map PyData.tuple = some p := e
  cases e2 : toPy.toPyL l with
  | none => rw [e2] at e; cases e
  | some ps =>
    rw [e2] at e
    cases e
    obtain ⟨g1, g2, g3, g4⟩ := g.repr hn hw
    exact ⟨_, fun Q q => ⟨ps, e2, g1, g2, g3, g4, q⟩⟩
theorem rec_ok {c : Rc} (h : Drawn c) : okN 8 4 c.d = true := by
  have oc := drawn_ok h
  obtain ⟨_, _, s2, s6⟩ := drawn_st h
  have lr := h.lr
  have ls := h.ls
  have tss : ∀ (n : Nat) (l : List Str), l.length ≤ 8 → (∀ x ∈ l, okS x = true) → okN 8 (n + 1) (.tup (l.map .str)) = true := fun n l hl ho => by
    show (decide ((l.map D.str).length ≤ 8) && (l.map D.str).all fun d => okN 8 n d) = true
    rw [decide_eq_true (by rw [List.length_map]; exact hl), Bool.true_and, List.all_eq_true]
    intro d hd
    obtain ⟨x, hx, rfl⟩ := List.mem_map.mp hd
    cases n <;> exact ho x hx
  have r1 : ∀ r ∈ c.rs, okN 8 2 r.d = true := fun r hr => by
    have or := oc.rs r hr
    obtain ⟨k, hk⟩ := List.getElem?_of_mem hr
    obtain ⟨_, ⟨a, ha, _, g2, g3⟩, _⟩ := h.rs k r hk
    have lt : (c.st.take a).length ≤ 6 := by rw [List.length_take]; omega
    have l1 := g2.length_le
    have l2 := g3.length_le
    show (decide (6 ≤ 8) && (okS r.nm && (okN 8 1 (.tup (r.pr.map .str)) && (okN 8 1 (.tup (r.ex.map .str)) && (okS r.sd && (okS r.gl && (decide (r.fc.natAbs ≤ 1000) && true))))))) = true
    rw [or.nm, tss 0 _ (by omega) or.pr, tss 0 _ (by omega) or.ex, or.sd, or.gl, decide_eq_true or.fc]
    rfl
  have rows : okN 8 3 (.tup (c.rs.map Rs.d)) = true := by
    show (decide ((c.rs.map Rs.d).length ≤ 8) && (c.rs.map Rs.d).all fun d => okN 8 2 d) = true
    rw [decide_eq_true (by rw [List.length_map]; exact lr), Bool.true_and, List.all_eq_true]
    intro d hd
    obtain ⟨x, hx, rfl⟩ := List.mem_map.mp hd
    exact r1 x hx
  show (decide (3 ≤ 8) && (okN 8 3 (.tup (c.st.map .str)) && (okN 8 3 (.tup (c.rs.map Rs.d)) && (okN 8 3 (.tup (c.sd.map .str)) && true)))) = true
  rw [tss 2 _ (by omega) oc.st, rows, tss 2 _ (by omega) oc.sd]
  rfl
theorem aud_ok {g d : List Str} (og : ∀ x ∈ g, okS x = true) (od : ∀ x ∈ d, okS x = true) (lg : g.length ≤ 8) (ld : d.length ≤ 8) : okN 8 4 (audD g d) = true := by
  have tss : ∀ (n : Nat) (l : List Str), l.length ≤ 8 → (∀ x ∈ l, okS x = true) → okN 8 (n + 1) (.tup (l.map .str)) = true := fun n l hl ho => by
    show (decide ((l.map D.str).length ≤ 8) && (l.map D.str).all fun d => okN 8 n d) = true
    rw [decide_eq_true (by rw [List.length_map]; exact hl), Bool.true_and, List.all_eq_true]
    intro d hd
    obtain ⟨x, hx, rfl⟩ := List.mem_map.mp hd
    cases n <;> exact ho x hx
  show (decide (2 ≤ 8) && (okN 8 3 (.tup (g.map .str)) && (okN 8 3 (.tup (d.map .str)) && true))) = true
  rw [tss 2 _ lg og, tss 2 _ ld od]
  rfl
theorem pair_ok {c : Rc} {g d : List Str} (h1 : okN 8 4 c.d = true) (h2 : okN 8 4 (audD g d) = true) : okN 8 5 (.tup [c.d, audD g d]) = true := by
  show (decide (2 ≤ 8) && (okN 8 4 c.d && (okN 8 4 (audD g d) && true))) = true
  rw [h1, h2]
  rfl
end
end DL

/-! K1: what is sorted -/
namespace DL
open PySem
open L2 (Key)

def leD (a b : D) : Bool := PySem.W.dataLe false encD a b
theorem sortD_map {α : Type} (f : α → D) (l : List α) : sortD (l.map f) = (l.mergeSort fun a b => leD (f a) (f b)).map f :=
  (List.map_mergeSort (r := fun a b => leD (f a) (f b)) (s := PySem.W.dataLe false encD) (f := f) (l := l) fun _ _ _ _ => rfl).symm
def sS (l : List Str) : List Str := l.mergeSort fun a b => leD (.str a) (.str b)
def encT (r : List Str) : D := .tup (r.map .str)
def encR (r : List Str) : D := .tup [.int (r.length : Int), encT r]
def sT (l : List (List Str)) : List (List Str) := l.mergeSort fun a b => leD (encT a) (encT b)
def sR (l : List (List Str)) : List (List Str) := l.mergeSort fun a b => leD (encR a) (encR b)
theorem encD_T (r : List Str) : encD (encT r) = .tuple (r.map PyData.str) := by
  unfold encD encT
  show ((toPy.toPyL (r.map D.str)).map PyData.tuple).getD .none = _
  rw [toPy_strs]
  rfl
theorem toPy_T (r : List Str) : toPy (encT r) = some (.tuple (r.map PyData.str)) := by
  show (toPy.toPyL (r.map D.str)).map PyData.tuple = _
  rw [toPy_strs]
  rfl
theorem toPy_R (r : List Str) : toPy (encR r) = some (.tuple [.int (r.length : Int), .tuple (r.map PyData.str)]) := by
  have h : toPy.toPyL [.int (r.length : Int), encT r] = some [.int (r.length : Int), .tuple (r.map PyData.str)] := by
    show (match toPy (.int (r.length : Int)), toPy.toPyL [encT r] with
      | some p, some q => some (p :: q)
      | _, _ => none) = _
    have h2 : toPy.toPyL [encT r] = some [.tuple (r.map PyData.str)] := by
      show (match toPy (encT r), toPy.toPyL [] with
        | some p, some q => some (p :: q)
        | _, _ => none) = _
      rw [toPy_T]
      rfl
    rw [h2]
    rfl
  show (toPy.toPyL [.int (r.length : Int), encT r]).map PyData.tuple = _
  rw [h]
  rfl
theorem encD_R (r : List Str) : encD (encR r) = .tuple [.int (r.length : Int), .tuple (r.map PyData.str)] := by
  unfold encD
  rw [toPy_R]
  rfl
theorem toPyL_ex : ∀ l : List D, (∀ d ∈ l, ∃ p, toPy d = some p) → ∃ ps, toPy.toPyL l = some ps
  | [], _ => ⟨_, rfl⟩
  | d :: l, h => by
    obtain ⟨p, hp⟩ := h d List.mem_cons_self
    obtain ⟨ps, hl⟩ := toPyL_ex l fun x hx => h x (List.mem_cons_of_mem _ hx)
    refine ⟨p :: ps, ?_⟩
    show (match toPy d, toPy.toPyL l with
      | some p, some q => some (p :: q)
      | _, _ => none) = _
    rw [hp, hl]
theorem alike_ss : ∀ a b : List Str, PySem.W.alike (.tuple (a.map .str)) (.tuple (b.map .str)) = true := fun a b => by
  simp only [PySem.W.alike]
  exact alike_strs a b
theorem dp_ss : ∀ a : List Str, PyData.depthAll (a.map PyData.str) = 0
  | [] => by simp only [List.map_nil, PyData.depthAll]
  | x :: a => by simp only [List.map_cons, PyData.depthAll, PyData.depth, dp_ss a]; rfl
theorem sc_strs (l : List Str) : SortC (l.map .str) := by
  have e : (l.map D.str).map encD = l.map PyData.str := by rw [List.map_map]; rfl
  refine ⟨⟨_, toPy_strs l⟩, by rw [e]; exact PySem.W.AllAlike.of fun _ _ => by simp only [PySem.W.alike], ?_, fun d hd => ?_⟩
  · rw [e]
    exact .inl (PySem.W.Sortable.others fun b => ⟨fun z => (by cases z), fun xs z => (by cases z)⟩)
  · obtain ⟨x, _, rfl⟩ := List.mem_map.mp hd
    show (PyData.str x).depth ≤ 60
    simp only [PyData.depth]
    decide
theorem sc_rows (l : List (List Str)) : SortC (l.map encR) := by
  have e : (l.map encR).map encD = l.map fun r => PyData.tuple [.int (r.length : Int), .tuple (r.map PyData.str)] := by
    rw [List.map_map]
    exact List.map_congr_left fun r _ => encD_R r
  refine ⟨toPyL_ex _ fun d hd => ?_, ?_, ?_, fun d hd => ?_⟩
  · obtain ⟨r, _, rfl⟩ := List.mem_map.mp hd
    exact ⟨_, toPy_R r⟩
  · rw [e]
    refine PySem.W.AllAlike.of fun a b => ?_
    simp only [PySem.W.alike, PySem.W.alikeAll, alike_strs, Bool.and_self]
  · rw [e]
    exact .inl (PySem.W.Sortable.tuples fun b => ⟨_, _, rfl⟩)
  · obtain ⟨r, _, rfl⟩ := List.mem_map.mp hd
    rw [encD_R]
    simp only [PyData.depth, PyData.depthAll, dp_ss]
    decide
theorem sc_tups (l : List (List Str)) : SortC (([] :: l).map encT) := by
  have e : ([] :: l).map encT = encT [] :: l.map encT := rfl
  have e2 : (([] :: l).map encT).map encD = ([] :: l).map fun r => PyData.tuple (r.map PyData.str) := by
    rw [List.map_map]
    exact List.map_congr_left fun r _ => encD_T r
  refine ⟨toPyL_ex _ fun d hd => ?_, ?_, ?_, fun d hd => ?_⟩
  · obtain ⟨r, _, rfl⟩ := List.mem_map.mp hd
    exact ⟨_, toPy_T r⟩
  · rw [e2]
    exact PySem.W.AllAlike.of fun a b => alike_ss a b
  · rw [e2]
    refine .inr ⟨fun d hd => ?_, _, rfl⟩
    obtain ⟨r, _, rfl⟩ := List.mem_map.mp hd
    exact ⟨_, rfl⟩
  · obtain ⟨r, _, rfl⟩ := List.mem_map.mp hd
    rw [encD_T]
    simp only [PyData.depth, dp_ss]
    decide
/-! the order of the rows tells them apart -/
theorem listLt_anti : ∀ a b : List Str, PySem.W.listLt a b = false → PySem.W.listLt b a = false → a = b
  | [], [], _, _ => rfl
  | [], _ :: _, h, _ => by cases h
  | _ :: _, [], _, h => by cases h
  | x :: a, y :: b, h1, h2 => by
    unfold PySem.W.listLt at h1 h2
    by_cases e : x = y
    · rw [if_pos e] at h1
      rw [if_pos e.symm] at h2
      rw [e, listLt_anti a b h1 h2]
    · exfalso
      rw [if_neg e] at h1
      rw [if_neg fun z => e z.symm] at h2
      have k1 : ¬ x.cps.toList < y.cps.toList := of_decide_eq_false h1
      have k2 : ¬ y.cps.toList < x.cps.toList := of_decide_eq_false h2
      have := List.le_antisymm (List.not_lt.mp k2) (List.not_lt.mp k1)
      apply e
      cases x with
      | mk cx =>
        cases y with
        | mk cy =>
          congr
          exact Array.toList_inj.mp this
theorem lt_R (a b : List Str) : PySem.W.dataLt (encD (encR a)) (encD (encR b)) = if (a.length : Int) = b.length then PySem.W.listLt a b else decide ((a.length : Int) < b.length) := by
  rw [encD_R, encD_R]
  exact PySem.W.DatumOrd.lt_eq (α := Int × PySem.W.Tup Str) ((a.length : Int), ⟨a⟩) ((b.length : Int), ⟨b⟩)
theorem leR_anti (a b : List Str) (h1 : leD (encR a) (encR b) = true) (h2 : leD (encR b) (encR a) = true) : a = b := by
  have k1 : PySem.W.dataLt (encD (encR b)) (encD (encR a)) = false := by
    have : (!PySem.W.dataLt (encD (encR b)) (encD (encR a))) = true := h1
    simpa using this
  have k2 : PySem.W.dataLt (encD (encR a)) (encD (encR b)) = false := by
    have : (!PySem.W.dataLt (encD (encR a)) (encD (encR b))) = true := h2
    simpa using this
  rw [lt_R] at k1 k2
  by_cases e : (a.length : Int) = b.length
  · rw [if_pos e] at k2
    rw [if_pos e.symm] at k1
    exact listLt_anti a b k2 k1
  · rw [if_neg e] at k2
    rw [if_neg fun z => e z.symm] at k1
    have := of_decide_eq_false k1
    have := of_decide_eq_false k2
    omega
theorem perm_eq {α : Type} {le : α → α → Bool} (anti : ∀ a b, le a b = true → le b a = true → a = b) : ∀ l m : List α, l.Perm m → l.Pairwise (fun a b => le a b = true) → m.Pairwise (fun a b => le a b = true) → l = m
  | [], m, p, _, _ => (List.nil_perm.mp p).symm
  | a :: l, m, p, h1, h2 => by
    cases m with
    | nil => exact absurd p.length_eq (by simp)
    | cons b m =>
      have e : a = b := by
        have ha : a ∈ b :: m := p.subset List.mem_cons_self
        have hb : b ∈ a :: l := p.symm.subset List.mem_cons_self
        rcases List.mem_cons.mp ha with z | ha
        · exact z
        rcases List.mem_cons.mp hb with z | hb
        · exact z.symm
        exact anti a b ((List.pairwise_cons.mp h1).1 b hb) ((List.pairwise_cons.mp h2).1 a ha)
      subst e
      rw [perm_eq anti l m (List.Perm.cons_inv p) (List.pairwise_cons.mp h1).2 (List.pairwise_cons.mp h2).2]
theorem leR_total : PySem.W.TotalLe fun a b : List Str => leD (encR a) (encR b) := PySem.W.sortLe_total (PyProof.Rows.listOrd PyProof.Rows.itemOrd) false fun r : List Str => PySem.W.keyToks (encD (encR r))
theorem sR_sT (l : List (List Str)) : sR (sT l) = sR l := by
  refine perm_eq leR_anti _ _ ?_ (PySem.W.sort_pairwise leR_total _) (PySem.W.sort_pairwise leR_total _)
  exact (List.mergeSort_perm _ _).trans ((List.mergeSort_perm _ _).trans (List.mergeSort_perm _ _).symm)
end DL

/-! K2: the answer as a function; dicts compared; strictest, needless_reasons -/
namespace DL
open PySem
open L2 (Key)
def missing : Exn := ⟨"Missing", none⟩
open Classical in
noncomputable def hvOf (c : Rc) (g d : List Str) : Str → Bool := if h : ∃ hv, HSol c g d hv (turnL c) then h.choose else fun _ => false
theorem hvOf_eq {c : Rc} {g d : List Str} {hv : Str → Bool} (gr : Grown c (turnL c)) (sol : HSol c g d hv (turnL c)) : ∀ o ∈ turnL c, hv o = hvOf c g d o := by
  have h : ∃ hv, HSol c g d hv (turnL c) := ⟨hv, sol⟩
  unfold hvOf
  rw [dif_pos h]
  exact sol_uniq gr sol h.choose_spec
def hB (hv : Str → Bool) (K : List Str) : List (Key × Bool) := K.map fun o => (.inr o, hv o)
theorem hL_dic (hv : Str → Bool) (K : List Str) : hL hv K = dicB (hB hv K) := by
  unfold hL dicB hB
  rw [List.map_map]
  rfl
theorem valB_hB {hv : Str → Bool} {o : Str} : ∀ {K : List Str}, o ∈ K → valB (hB hv K) (.inr o) = some (hv o)
  | [], h => absurd h List.not_mem_nil
  | k :: K, h => by
    by_cases e : k = o
    · subst e
      unfold valB hB
      rw [List.map_cons, List.find?_cons_of_pos (by simp)]
      rfl
    · have q := valB_hB (hv := hv) ((List.mem_cons.mp h).resolve_left fun z => e z.symm)
      unfold valB hB at q ⊢
      have ne : (Sum.inr k : Key) ≠ .inr o := fun z => e (Sum.inr.inj z)
      rw [List.map_cons, List.find?_cons_of_neg (by simpa using ne)]
      exact q
noncomputable def sameH (c c' : Rc) (g d : List Str) : Bool := c.st.all fun o => hvOf c' g d o == hvOf c g d o
theorem eq_same {c c' : Rc} {g d : List Str} {hv hv' : Str → Bool} {K K' : List Str} (n1 : K.Nodup) (n2 : K'.Nodup) (s1 : ∀ o, o ∈ K ↔ o ∈ c.st) (s2 : ∀ o, o ∈ K' ↔ o ∈ c.st) (h1 : ∀ o ∈ c.st, hv o = hvOf c g d o) (h2 : ∀ o ∈ c.st, hv' o = hvOf c' g d o) :
    eqDic (hB hv' K') (hB hv K) = sameH c c' g d := by
  have len : K'.length = K.length := Nat.le_antisymm (nodup_le n2 fun o ho => (s1 o).mpr ((s2 o).mp ho)) (nodup_le n1 fun o ho => (s2 o).mpr ((s1 o).mp ho))
  unfold eqDic sameH
  have e : ((hB hv' K').length == (hB hv K).length) = true := by
    unfold hB
    rw [List.length_map, List.length_map, len]
    exact beq_self_eq_true _
  rw [e, Bool.true_and, Bool.eq_iff_iff, List.all_eq_true, List.all_eq_true]
  constructor
  · intro h o ho
    have q := of_decide_eq_true (h (.inr o, hv' o) (List.mem_map.mpr ⟨o, (s2 o).mpr ho, rfl⟩))
    rw [valB_hB ((s1 o).mpr ho)] at q
    rw [← h1 o ho, ← h2 o ho, Option.some.inj q]
    exact beq_self_eq_true _
  · intro h kv hkv
    obtain ⟨o, ho, rfl⟩ := List.mem_map.mp hkv
    have ho := (s2 o).mp ho
    have q := eq_of_beq (h o ho)
    rw [← h1 o ho, ← h2 o ho] at q
    exact decide_eq_true (by rw [valB_hB ((s1 o).mpr ho), q])
/-! a reason less -/
def neR (a b : Rs) : Bool := !PyData.eqv (encD a.d) (encD b.d)
def less (c : Rc) (r : Rs) : Rc := ⟨c.st, c.rs.filter fun o => neR o r, c.sd⟩
theorem less_sub {c : Rc} {r o : Rs} (h : o ∈ (less c r).rs) : o ∈ c.rs := (List.mem_filter.mp h).1
theorem less_need {c : Rc} {r : Rs} {o x : Str} (h : Need (less c r) o x) : Need c o x := by
  obtain ⟨q, hq, h1, h2⟩ := h
  exact ⟨q, less_sub hq, h1, h2⟩
theorem less_ok {c : Rc} (oc : c.Ok) (r : Rs) : (less c r).Ok := ⟨oc.st, oc.sd, fun o ho => oc.rs o (less_sub ho), oc.l1, Nat.le_trans (List.length_filter_le _ _) oc.l2, oc.l3⟩
theorem less_fine {c : Rc} (f : Fine c) (r : Rs) : Fine (less c r) := ⟨less_ok f.ok r, f.nd, fun o ho => f.gl o (less_sub ho), fun o ho => f.ne o (less_sub ho), fun o ho => f.sd o (less_sub ho), f.ls, f.st⟩
theorem less_full {c : Rc} (f : Fine c) (fl : ∀ o ∈ c.st, o ∈ turnL c) {r : Rs} {S : List Str} (cl : Closed (less c r) S) : ∀ o ∈ c.st, o ∈ S := fun o ho => (turn_spec f.nd).1.sub (fun o ho h => cl o ho fun x hx => h x (less_need hx)) o (fl o ho)
theorem less_d (c : Rc) (r : Rs) : D.tup [.tup (c.st.map .str), .tup ((c.rs.filter fun o => neR o r).map Rs.d), .tup (c.sd.map .str)] = (less c r).d := rfl
theorem rs_py {r : Rs} (or : r.Ok) : toPy r.d = some (encD r.d) ∧ SeqAt.shaped (encD r.d) = true := by
  have tss : ∀ l : List Str, l.length ≤ 12 → (∀ x ∈ l, okS x = true) → okN 12 1 (.tup (l.map .str)) = true := fun l hl ho => by
    show (decide ((l.map D.str).length ≤ 12) && (l.map D.str).all fun d => okN 12 0 d) = true
    rw [decide_eq_true (by rw [List.length_map]; exact hl), Bool.true_and, List.all_eq_true]
    intro d hd
    obtain ⟨x, hx, rfl⟩ := List.mem_map.mp hd
    exact ho x hx
  have ok : okN 12 2 r.d = true := by
    show (decide (6 ≤ 12) && (okS r.nm && (okN 12 1 (.tup (r.pr.map .str)) && (okN 12 1 (.tup (r.ex.map .str)) && (okS r.sd && (okS r.gl && (decide (r.fc.natAbs ≤ 1000) && true))))))) = true
    rw [or.nm, tss _ or.lp or.pr, tss _ or.le or.ex, or.sd, or.gl, decide_eq_true or.fc]
    rfl
  obtain ⟨p, e, g⟩ := okN_py 2 _ ok
  have : encD r.d = p := by unfold encD; rw [e]; rfl
  rw [this]
  exact ⟨e, g.shaped (by decide)⟩
section
variable {T : Tb}
theorem ne_rs {a b : Rs} (oa : a.Ok) (ob : b.Ok) {Q : DK} (q : Q (.bl (neR a b))) : cmpD .NotEq a.d b.d Q :=
  ⟨_, _, (rs_py oa).1, (rs_py ob).1, shEq_of (rs_py oa).2, shEq_of (rs_py ob).2, q⟩
theorem wk_of {α : Type} (f : α → D) (l : List α) (hl : l.length ≤ 5000) : (l.map f).length ≤ wkL := by
  rw [List.length_map]
  unfold wkL
  omega
def mNeedless : DSp := fun ds Q X => ∃ (c : Rc) (g d : List Str), ds = [c.d, audD g d] ∧ c.Ok ∧ AudOk g d ∧ (∀ x, heardE c g d = some x → X x) ∧ (heardE c g d = none → Q (.tup ((c.rs.filter fun r => sameH c (less c r) g d).map fun r => .str r.nm)))
theorem pl_needless (h1 : Has T "check_heard" 2 mHeard) (h2 : Has T "known_held" 2 mHeld) (ds : List D) (Q : DK) (X : EK) (h : mNeedless ds Q X) : wpF T n_needless_reasons.length b_needless_reasons ds Q X := by
  obtain ⟨c, g, d, rfl, oc, oa, qx, q⟩ := h
  have l2 := oc.l2
  refine ⟨_, rfl, _, rfl, call_ok h1 rfl rfl ⟨c, g, d, rfl, oc, oa, fun e => ?_, qx⟩⟩
  obtain ⟨f, fl, _⟩ := heard_fine oc e
  have q := q e
  obtain ⟨tg, tc⟩ := turn_spec f.nd
  refine ⟨_, rfl, _, rfl, call_ok h2 rfl rfl ⟨c, g, d, rfl, f, oa, fun hv sol => ?_⟩⟩
  refine ⟨szl, ?_⟩
  refine ⟨_, rfl, _, at_lit 1 rfl rfl, _, rfl, .inr (wk_of _ _ (by omega)), ?_⟩
  refine forL_t Rs.d (fun i ρ => ∃ x4 x5 : Option D, ρ = [some c.d, some (audD g d), some (.dic (hL hv (turnL c))), some (.lst (((c.rs.take i).filter fun r => sameH c (less c r) g d).map fun r => .str r.nm)), x4, x5, none]) c.rs 0 _ ⟨none, none, rfl⟩ (fun j r ρ N hr hi hn => ?_) fun ρ hi => ?_
  · obtain ⟨x4, x5, rfl⟩ := hi
    rw [Nat.zero_add] at hn ⊢
    have hm := List.mem_of_getElem? hr
    have or := oc.rs r hm
    have tk : c.rs.take (j + 1) = c.rs.take j ++ [r] := by
      rw [List.take_succ, hr]
      rfl
    refine ⟨_, rfl, _, at_lit 1 rfl rfl, _, rfl, .inr (wk_of _ _ (by omega)), lcW_f Rs.d (fun o => neR o r) Rs.d c.rs (by omega) (fun o ho R k => ?_) ?_⟩
    · refine ⟨_, rfl, _, rfl, ne_rs (oc.rs o ho) or ⟨_, rfl, iteB (fun e2 => ?_) fun e2 => ?_⟩⟩
      · rw [e2, if_pos rfl] at k
        exact ⟨_, rfl, k⟩
      · rw [e2, if_neg Bool.false_ne_true] at k
        exact k
    have fl' := less_full f fl (r := r) (turn_spec (less_fine f r).nd).2
    have tg' := (turn_spec (less_fine f r).nd).1
    refine ⟨_, rfl, _, at_lit 0 rfl rfl, _, rfl, _, rfl, _, at_lit 2 rfl rfl, szl, _, rfl, call_ok h2 rfl rfl ⟨less c r, g, d, rfl, less_fine f r, oa, fun hv' sol' => ?_⟩⟩
    refine ⟨_, rfl, hB hv' _, hB hv _, hL_dic _ _, hL_dic _ _, ?_⟩
    have es : eqDic (hB hv' (turnL (less c r))) (hB hv (turnL c)) = sameH c (less c r) g d :=
      eq_same tg.nodup tg'.nodup (fun o => ⟨tg.st o, fl o⟩) (fun o => ⟨tg'.st o, fl' o⟩) (fun o ho => hvOf_eq tg sol o (fl o ho)) (fun o ho => hvOf_eq tg' sol' o (fl' o ho))
    rw [es]
    refine ⟨_, rfl, iteB (fun e2 => ?_) fun e2 => ?_⟩
    · refine ⟨_, rfl, _, rfl, _, at_lit 0 rfl rfl, ?_, ?_⟩
      · rw [List.length_map, sizeLine_eq]
        have := List.length_filter_le (fun r => sameH c (less c r) g d) (c.rs.take j)
        rw [List.length_take] at this
        omega
      · refine hn _ ⟨some r.d, some (.tup ((c.rs.filter fun o => neR o r).map Rs.d)), ?_⟩
        rw [tk, List.filter_append, List.filter_cons, e2, if_pos rfl, List.filter_nil, List.map_append]
        rfl
    · refine hn _ ⟨some r.d, some (.tup ((c.rs.filter fun o => neR o r).map Rs.d)), ?_⟩
      rw [tk, List.filter_append, List.filter_cons, e2, if_neg Bool.false_ne_true, List.filter_nil, List.append_nil]
      rfl
  · obtain ⟨x4, x5, rfl⟩ := hi
    rw [Nat.zero_add, List.take_length]
    exact ⟨_, rfl, q⟩
def metL (c : Rc) (hv : Str → Bool) (s : Str) : List Str := stdL.filter fun w => meetsB w (bestF c.rs hv s "pro") (bestF c.rs hv s "con")
def mStrictest : DSp := fun ds Q X => ∃ (c : Rc) (g d : List Str) (s : Str), ds = [c.d, audD g d, .str s] ∧ c.Ok ∧ AudOk g d ∧ okS s = true ∧ (∀ x, heardE c g d = some x → X x) ∧ (heardE c g d = none → s ∉ c.st → X refused) ∧
  (heardE c g d = none → s ∈ c.st → ∀ hv, HSol c g d hv (turnL c) → (metL c hv s = [] → X missing) ∧ ∀ w, (metL c hv s)[(metL c hv s).length - 1]? = some w → Q (.str w))
theorem pl_strictest (gg : Glb T) (h1 : Has T "weighed" 3 mWeighed) (h2 : Has T "meets" 2 mMeets) (ds : List D) (Q : DK) (X : EK) (h : mStrictest ds Q X) : wpF T n_strictest.length b_strictest ds Q X := by
  obtain ⟨c, g, d, s, rfl, oc, oa, os, qx, qs, q⟩ := h
  refine ⟨_, rfl, _, rfl, _, rfl, call_ok h1 rfl rfl ⟨c, g, d, s, rfl, oc, oa, os, qx, qs, fun e hs hv sol => ?_⟩⟩
  obtain ⟨q1, q2⟩ := q e hs hv sol
  refine ⟨_, gg.std, _, rfl, .inr (by unfold wkL; decide), ?_⟩
  refine lcW_f D.str (fun w => meetsB w (bestF c.rs hv s "pro") (bestF c.rs hv s "con")) D.str stdL (by decide) (fun w hw R k => ?_) ?_
  · refine ⟨_, rfl, _, rfl, call_ok h2 rfl rfl ⟨w, _, _, rfl, okStd w hw, _, rfl, iteB (fun e2 => ?_) fun e2 => ?_⟩⟩
    · rw [e2, if_pos rfl] at k
      exact ⟨_, rfl, k⟩
    · rw [e2, if_neg Bool.false_ne_true] at k
      exact k
  refine ⟨_, rfl, _, _, rfl, rfl, rfl, rfl, _, rfl, iteB (fun e2 => ?_) fun e2 => ?_⟩
  · rw [eqv_int, List.length_map] at e2
    have e2 := of_decide_eq_true e2
    exact q1 (List.eq_nil_of_length_eq_zero (by show (metL c hv s).length = 0; unfold metL; omega))
  · rw [eqv_int, List.length_map] at e2
    have e2 := of_decide_eq_false e2
    have hl : 0 < (metL c hv s).length := by unfold metL; omega
    have hg : (metL c hv s)[(metL c hv s).length - 1]? = some ((metL c hv s)[(metL c hv s).length - 1]'(by omega)) := List.getElem?_eq_getElem (by omega)
    refine ⟨_, rfl, _, rfl, .str ((metL c hv s)[(metL c hv s).length - 1]'(by omega)), ?_, q2 _ hg⟩
    show L2.atI ((metL c hv s).map D.str) (-1) = _
    rw [at_neg (by rw [List.length_map]; exact hl), ← List.getElem?_eq_getElem, List.length_map, List.getElem?_map, hg]
    rfl
end
end DL

/-! K3: least_grants, _law_subsets, what is told -/
namespace DL
open PySem
open L2 (Key)
def addO (rows : List (List Str)) (o : Str) : List (List Str) := rows ++ rows.map fun r => r ++ [o]
def subs (left : List Str) : List (List Str) := left.foldl addO [[]]
theorem subs_snoc (l : List Str) (o : Str) : subs (l ++ [o]) = addO (subs l) o := by
  unfold subs
  rw [List.foldl_append]
  rfl
theorem subs_len : ∀ n (l : List Str), l.length = n → (subs l).length = 2 ^ n
  | 0, l, h => by rw [List.eq_nil_of_length_eq_zero h]; rfl
  | n + 1, l, h => by
    have hne : l ≠ [] := fun z => by rw [z] at h; cases h
    have e := List.dropLast_concat_getLast hne
    rw [← e, subs_snoc]
    unfold addO
    have k : (subs l.dropLast).length = 2 ^ n := subs_len n _ (by rw [List.length_dropLast, h]; rfl)
    rw [List.length_append, List.length_map, k, Nat.pow_succ]
    omega
theorem subs_head : ∀ l : List Str, ∃ r, subs l = [] :: r := by
  have go : ∀ (l : List Str) (acc : List (List Str)), ∃ r, l.foldl addO ([] :: acc) = [] :: r := fun l => by
    induction l with
    | nil => exact fun acc => ⟨acc, rfl⟩
    | cons o l ih => exact fun acc => ih (acc ++ ([] :: acc).map fun r => r ++ [o])
  exact fun l => go l []
theorem subs_sub : ∀ (l : List Str) (acc : List (List Str)) (base : List Str), (∀ r ∈ acc, r.Sublist base) → ∀ r ∈ l.foldl addO acc, r.Sublist (base ++ l)
  | [], acc, base, h, r, hr => by rw [List.append_nil]; exact h r hr
  | o :: l, acc, base, h, r, hr => by
    have e : base ++ o :: l = (base ++ [o]) ++ l := by simp
    rw [e]
    refine subs_sub l (addO acc o) (base ++ [o]) (fun r hr => ?_) r hr
    rcases List.mem_append.mp hr with z | z
    · exact (h r z).trans (List.sublist_append_left _ _)
    · obtain ⟨r', h', rfl⟩ := List.mem_map.mp z
      exact (h r' h').append (List.Sublist.refl _)
theorem subs_sublist {l r : List Str} (h : r ∈ subs l) : r.Sublist l := by
  have := subs_sub l [[]] [] (fun r hr => by rw [List.mem_singleton.mp hr]; exact List.Sublist.refl _) r h
  simpa using this
def leftL (c : Rc) (g d : List Str) (s : Str) : List Str := c.st.filter fun o => !decide (o ∈ g) && (!decide (o ∈ d) && !decide (o = s))
noncomputable def accB (c : Rc) (g d : List Str) (s : Str) (row : List Str) : Bool := hvOf c (sS (g ++ row)) d s
theorem sS_perm (l : List Str) : (sS l).Perm l := List.mergeSort_perm _ _
theorem sS_d (l : List Str) : sortD (l.map .str) = (sS l).map .str := sortD_map D.str l
theorem find_at {α : Type} {p : α → Bool} : ∀ {l : List α} {j : Nat} {x : α}, l[j]? = some x → (∀ y ∈ l.take j, p y = false) → p x = true → l.find? p = some x
  | [], j, x, h, _, _ => by simp at h
  | a :: l, 0, x, h, _, hp => by
    have : a = x := by simpa using h
    subst this
    exact List.find?_cons_of_pos hp
  | a :: l, j + 1, x, h, hn, hp => by
    rw [List.find?_cons_of_neg (by rw [hn a (by rw [List.take_succ_cons]; exact List.mem_cons_self)]; exact Bool.false_ne_true)]
    exact find_at (by simpa using h) (fun y hy => hn y (by rw [List.take_succ_cons]; exact List.mem_cons_of_mem _ hy)) hp
theorem find_no {α : Type} {p : α → Bool} {l : List α} (h : ∀ y ∈ l, p y = false) : l.find? p = none := List.find?_eq_none.mpr fun y hy => by rw [h y hy]; exact Bool.false_ne_true
/-- what is granted besides: an audience still -/
theorem more_ok {c : Rc} {g d : List Str} {s : Str} (oc : c.Ok) (ha : audB c.st g d = true) (oa : AudOk g d) (l10 : c.st.length ≤ 12) (nd : c.st.Nodup) {row : List Str} (hr : row ∈ subs (leftL c g d s)) : AudOk (sS (g ++ row)) d := by
  unfold audB at ha
  obtain ⟨h1, h2⟩ := and2 ha
  obtain ⟨h2, h3⟩ := and2 h2
  obtain ⟨h3, h4⟩ := and2 h3
  have gst : ∀ x ∈ g, x ∈ c.st := fun x hx => of_decide_eq_true (List.all_eq_true.mp h3 x (List.mem_append_left _ hx))
  have sub := subs_sublist hr
  have mrow : ∀ x ∈ row, x ∈ c.st ∧ x ∉ g := fun x hx => by
    obtain ⟨k1, k2⟩ := List.mem_filter.mp (sub.subset hx)
    refine ⟨k1, fun z => ?_⟩
    have := (and2 k2).1
    simp [z] at this
  have ndr : row.Nodup := (nd.sublist (List.filter_sublist (p := fun o => !decide (o ∈ g) && (!decide (o ∈ d) && !decide (o = s))))).sublist sub
  have ndg : (g ++ row).Nodup := List.nodup_append.mpr ⟨ris_nodup h1, ndr, fun a ha b hb e => (mrow b hb).2 (e ▸ ha)⟩
  have mem : ∀ x ∈ g ++ row, x ∈ c.st := fun x hx => (List.mem_append.mp hx).elim (gst x) fun z => (mrow x z).1
  have len := nodup_le ndg mem
  refine ⟨fun x hx => oc.st x (mem x ((sS_perm _).subset hx)), oa.od, ?_, oa.ld⟩
  rw [(sS_perm _).length_eq]
  omega
theorem lcW_mL {α : Type} {Q : List D → Prop} (enc : α → D) (f : α → D) {step : D → (Option D → Prop) → Prop} (xs : List α) (hl : xs.length ≤ 5000) (hs : ∀ x ∈ xs, ∀ R : Option D → Prop, R (some (f x)) → step (enc x) R) (q : Q (xs.map f)) : lcW step (xs.map enc) [] Q :=
  lcW_t enc (fun _ => true) f xs [] (by rw [sizeLine_eq]; simp only [List.length_nil]; omega) (fun x hx R r => hs x hx R r) (by rw [List.filter_eq_self.mpr fun _ _ => rfl]; simpa using q)
theorem pow12 {n : Nat} (h : n ≤ 12) : 2 ^ n ≤ 4096 := Nat.pow_le_pow_right (n := 2) (by decide) h
theorem subs12 {l : List Str} (h : l.length ≤ 12) : (subs l).length ≤ 4096 := by
  rw [subs_len _ l rfl]
  exact pow12 h
theorem add_map (rows : List (List Str)) (o : Str) : rows.map encT ++ (rows.map fun r => encT (r ++ [o])) = (addO rows o).map encT := by
  unfold addO
  rw [List.map_append, List.map_map]
  rfl
section
variable {T : Tb}
def mLeast : DSp := fun ds Q X => ∃ (c : Rc) (g d : List Str) (s : Str), ds = [c.d, audD g d, .str s] ∧ c.Ok ∧ AudOk g d ∧ okS s = true ∧ (∀ x, heardE c g d = some x → X x) ∧ (heardE c g d = none → s ∉ c.st → X refused) ∧
  (heardE c g d = none → s ∈ c.st → (∀ row, (sR (subs (leftL c g d s))).find? (accB c g d s) = some row → Q (encT row)) ∧ ((sR (subs (leftL c g d s))).find? (accB c g d s) = none → X missing))
theorem pl_least (h1 : Has T "check_heard" 2 mHeard) (h2 : Has T "known_held" 2 mHeld) (h4 : Has T "check_statement" 2 mStatement) (ds : List D) (Q : DK) (X : EK) (h : mLeast ds Q X) : wpF T n_least_grants.length b_least_grants ds Q X := by
  obtain ⟨c, g, d, s, rfl, oc, oa, os, qx, qs, q⟩ := h
  have l1 := oc.l1
  refine ⟨_, rfl, _, rfl, call_ok h1 rfl rfl ⟨c, g, d, rfl, oc, oa, fun e => ?_, qx⟩⟩
  obtain ⟨f, fl, hau⟩ := heard_fine oc e
  refine ⟨_, rfl, _, rfl, call_ok h4 rfl rfl ⟨c, s, rfl, oc, os, fun hs => ?_, qs e⟩⟩
  obtain ⟨q1, q2⟩ := q e hs
  obtain ⟨tg, tc⟩ := turn_spec f.nd
  refine ⟨_, rfl, _, rfl, rfl, ?_⟩
  -- who is left
  refine ⟨_, rfl, _, at_lit 0 rfl rfl, _, rfl, .inr (wk_of _ _ (by omega)), lcW_f D.str (fun o => !decide (o ∈ g) && (!decide (o ∈ d) && !decide (o = s))) D.str c.st (by omega) (fun o ho R k => ?_) ?_⟩
  · have oo := oc.st o ho
    refine ⟨_, rfl, _, rfl, inn_tup oo oa.og ⟨_, rfl, iteB (fun e1 => ?_) fun e1 => ?_⟩⟩
    · have e1 : (!decide (o ∈ g)) = true := e1
      rw [e1, Bool.true_and] at k
      refine ⟨_, rfl, _, rfl, inn_tup oo oa.od ⟨_, rfl, iteB (fun e2 => ?_) fun e2 => ?_⟩⟩
      · have e2 : (!decide (o ∈ d)) = true := e2
        rw [e2, Bool.true_and] at k
        refine ⟨_, rfl, _, rfl, _, _, rfl, rfl, rfl, rfl, _, rfl, iteB (fun e3 => ?_) fun e3 => ?_⟩
        · rw [eqv_str] at e3
          rw [e3, if_pos rfl] at k
          exact ⟨_, rfl, k⟩
        · rw [eqv_str] at e3
          rw [e3, if_neg Bool.false_ne_true] at k
          exact k
      · have e2 : (!decide (o ∈ d)) = false := e2
        rw [e2, Bool.false_and, if_neg Bool.false_ne_true] at k
        exact ⟨false, rfl, iteF rfl k⟩
    · have e1 : (!decide (o ∈ g)) = false := e1
      rw [e1, Bool.false_and, if_neg Bool.false_ne_true] at k
      exact ⟨false, rfl, iteF rfl k⟩
  -- all sets of them
  have ll : (leftL c g d s).length ≤ 12 := Nat.le_trans (List.length_filter_le _ _) (by omega)
  refine ⟨szl, szl, ?_⟩
  refine ⟨_, rfl, _, rfl, .inr (wk_of _ _ (by show (leftL c g d s).length ≤ 5000; omega)), ?_⟩
  refine forL_t D.str (fun i ρ => ∃ x5 : Option D, ρ = [some c.d, some (audD g d), some (.str s), some (.lst ((leftL c g d s).map .str)), some (.lst ((subs ((leftL c g d s).take i)).map encT)), x5, some (.tup (g.map .str)), some (.tup (d.map .str)), none, none]) (leftL c g d s) 0 _ ⟨none, rfl⟩ (fun j o ρ N hj hi hn => ?_) fun ρ hi => ?_
  · obtain ⟨x5, rfl⟩ := hi
    rw [Nat.zero_add] at hn ⊢
    have tk : (leftL c g d s).take (j + 1) = (leftL c g d s).take j ++ [o] := by
      rw [List.take_succ, hj]
      rfl
    have lj : ((leftL c g d s).take j).length ≤ 12 := by rw [List.length_take]; omega
    have sl := subs12 lj
    refine ⟨_, rfl, _, rfl, _, rfl, .inr (wk_of _ _ (by omega)), lcW_mL encT (fun r => encT (r ++ [o])) _ (by omega) (fun r hr R k => ?_) ?_⟩
    · have lr := (subs_sublist hr).length_le
      refine ⟨_, rfl, _, .inl rfl, _, rfl, ?_, ?_⟩
      · show (r.map D.str ++ [D.str o]).length ≤ _
        rw [List.length_append, List.length_map, sizeLine_eq]
        show r.length + 1 ≤ _
        omega
      · have : D.tup (r.map D.str ++ [D.str o]) = encT (r ++ [o]) := by unfold encT; rw [List.map_append]; rfl
        show R (some (D.tup (r.map D.str ++ [D.str o])))
        rw [this]
        exact k
    · refine ⟨by rw [List.length_map, List.length_map, sizeLine_eq]; omega, hn _ ⟨some (.str o), ?_⟩⟩
      rw [tk, subs_snoc, ← add_map]
      rfl
  obtain ⟨x5, rfl⟩ := hi
  rw [Nat.zero_add, List.take_length]
  have sl := subs12 ll
  -- in order
  refine ⟨_, rfl, _, rfl, .inr (wk_of _ _ (by omega)), lcW_mL encT encR _ (by omega) (fun r hr R k => ?_) ?_⟩
  · refine ⟨_, rfl, _, rfl, szl, ?_⟩
    have : D.tup [D.int ((r.map D.str).length : Int), encT r] = encR r := by unfold encR; rw [List.length_map]
    show R (some (D.tup [D.int ((r.map D.str).length : Int), encT r]))
    rw [this]
    exact k
  have esr : sortD ((subs (leftL c g d s)).map encR) = (sR (subs (leftL c g d s))).map encR := sortD_map encR _
  refine ⟨sc_rows _, sortD ((subs (leftL c g d s)).map encR), rfl, .inr ?_, ?_⟩
  · rw [esr]
    refine wk_of _ _ ?_
    rw [show (sR (subs (leftL c g d s))).length = (subs (leftL c g d s)).length from List.length_mergeSort _]
    omega
  rw [esr]
  refine forL_t encR (fun i ρ => ∃ x8 x9 : Option D, ρ = [some c.d, some (audD g d), some (.str s), some (.lst ((leftL c g d s).map .str)), some (.lst ((subs (leftL c g d s)).map encT)), x5, some (.tup (g.map .str)), some (.tup (d.map .str)), x8, x9] ∧ ∀ y ∈ (sR (subs (leftL c g d s))).take i, accB c g d s y = false) (sR (subs (leftL c g d s))) 0 _ ⟨none, none, rfl, fun y hy => by rw [List.take_zero] at hy; exact absurd hy List.not_mem_nil⟩ (fun j row ρ N hj hi hn => ?_) fun ρ hi => ?_
  · obtain ⟨x8, x9, rfl, hno⟩ := hi
    rw [Nat.zero_add] at hn hno
    have hm : row ∈ subs (leftL c g d s) := List.mem_mergeSort.mp (List.mem_of_getElem? hj)
    have lr := (subs_sublist hm).length_le
    have oa2 := more_ok oc hau oa l1 f.nd hm
    refine ⟨_, rfl, rfl, _, rfl, _, rfl, _, .inl rfl, _, rfl, _, .inl rfl, ?_, ?_⟩
    · show (g.map D.str ++ (row.map D.str ++ [])).length ≤ _
      rw [List.append_nil, List.length_append, List.length_map, List.length_map, sizeLine_eq]
      have := oa.lg
      omega
    have ecat : g.map D.str ++ (row.map D.str ++ []) = (g ++ row).map D.str := by rw [List.append_nil, List.map_append]
    refine ⟨by rw [ecat]; exact sc_strs _, ?_⟩
    rw [ecat, sS_d]
    refine ⟨_, rfl, szl, call_ok h2 rfl rfl ⟨c, sS (g ++ row), d, rfl, f, oa2, fun hv sol => ?_⟩⟩
    refine ⟨_, rfl, _, _, rfl, valD_map (F := fun o => .bl (hv o)) (fl s hs), _, rfl, ?_⟩
    have ev : hv s = accB c g d s row := hvOf_eq tg sol s (fl s hs)
    rw [ev]
    refine iteB (fun e2 => ?_) fun e2 => ?_
    · exact ⟨_, rfl, q1 row (find_at hj hno e2)⟩
    · refine hn _ ⟨_, _, rfl, fun y hy => ?_⟩
      rw [List.take_succ, hj] at hy
      rcases List.mem_append.mp hy with z | z
      · exact hno y z
      · have : y = row := by simpa using z
        rw [this]
        exact e2
  · obtain ⟨x8, x9, rfl, hno⟩ := hi
    rw [Nat.zero_add, List.take_length] at hno
    exact q2 (find_no hno)
def mSubsets : DSp := fun ds Q _ => ∃ l : List Str, ds = [.lst (l.map .str)] ∧ l.length ≤ 12 ∧ Q (.lst ((sT (subs l)).map encT))
theorem pl_subsets (ds : List D) (Q : DK) (X : EK) (h : mSubsets ds Q X) : wpF T n__law_subsets.length b__law_subsets ds Q X := by
  obtain ⟨l, rfl, ll, q⟩ := h
  refine ⟨szl, szl, ?_⟩
  refine ⟨_, rfl, _, rfl, .inr (wk_of _ _ (by omega)), ?_⟩
  refine forL_t D.str (fun i ρ => ∃ x2 : Option D, ρ = [some (.lst (l.map .str)), some (.lst ((subs (l.take i)).map encT)), x2, none]) l 0 _ ⟨none, rfl⟩ (fun j o ρ N hj hi hn => ?_) fun ρ hi => ?_
  · obtain ⟨x2, rfl⟩ := hi
    rw [Nat.zero_add] at hn ⊢
    have tk : l.take (j + 1) = l.take j ++ [o] := by
      rw [List.take_succ, hj]
      rfl
    have lj : (l.take j).length ≤ 12 := by rw [List.length_take]; omega
    have sl := subs12 lj
    refine ⟨_, rfl, _, rfl, _, rfl, .inr (wk_of _ _ (by omega)), lcW_mL encT (fun r => encT (r ++ [o])) _ (by omega) (fun r hr R k => ?_) ?_⟩
    · have lr := (subs_sublist hr).length_le
      refine ⟨_, rfl, _, rfl, szl, ?_, ?_⟩
      · show (r.map D.str).length + 1 ≤ _
        rw [List.length_map, sizeLine_eq]
        omega
      · have : D.tup (r.map D.str ++ [D.str o]) = encT (r ++ [o]) := by unfold encT; rw [List.map_append]; rfl
        show R (some (D.tup (r.map D.str ++ [D.str o])))
        rw [this]
        exact k
    · refine ⟨by rw [List.length_map, List.length_map, sizeLine_eq]; omega, hn _ ⟨some (.str o), ?_⟩⟩
      rw [tk, subs_snoc, ← add_map]
      rfl
  obtain ⟨x2, rfl⟩ := hi
  rw [Nat.zero_add, List.take_length]
  obtain ⟨r, hr⟩ := subs_head l
  refine ⟨_, rfl, by rw [hr]; exact sc_tups r, ?_⟩
  have e : sortD ((subs l).map encT) = (sT (subs l)).map encT := sortD_map encT _
  rw [e]
  exact q
end
end DL

/-! K4: what is told; a statement's turn in the law -/
namespace DL
open PySem
open L2 (Key)
section
variable {T : Tb}
def mTold : DSp := fun ds Q _ => ∃ (c : Rc) (g d : List Str), c.Ok ∧ AudOk g d ∧ ((∃ x : D, ds = [.int 2, c.d, audD g d, x] ∧ (∀ e, heardE c g d = some e → Q (tagD (some e) .non)) ∧ (heardE c g d = none → Q (toldD (.tup ((c.rs.filter fun r => sameH c (less c r) g d).map fun r => .str r.nm))))) ∨
  ∃ s : Str, okS s = true ∧ (∀ e, heardE c g d = some e → Q (tagD (some e) .non)) ∧ (heardE c g d = none → s ∉ c.st → Q (tagD (some refused) .non)) ∧
   ((ds = [.int 0, c.d, audD g d, .str s] ∧ (heardE c g d = none → s ∈ c.st → ∀ hv, HSol c g d hv (turnL c) → (metL c hv s = [] → Q (.str "missing")) ∧ ∀ w, (metL c hv s)[(metL c hv s).length - 1]? = some w → Q (toldD (.str w)))) ∨
    (ds = [.int 1, c.d, audD g d, .str s] ∧ (heardE c g d = none → s ∈ c.st → (∀ row, (sR (subs (leftL c g d s))).find? (accB c g d s) = some row → Q (toldD (encT row))) ∧ ((sR (subs (leftL c g d s))).find? (accB c g d s) = none → Q (.str "missing"))))))
theorem pl_told (h1 : Has T "needless_reasons" 2 mNeedless) (h4 : Has0 T "strictest" 3 mStrictest) (h5 : Has0 T "least_grants" 3 mLeast) (g1 : T.glob "strictest" = some (.fn "strictest")) (g2 : T.glob "least_grants" = some (.fn "least_grants"))
    (ds : List D) (Q : DK) (X : EK) (h : mTold ds Q X) : wpF T n__law_told.length b__law_told ds Q X := by
  obtain ⟨c, g, d, oc, oa, h⟩ := h
  have miss : ∀ {Q : DK}, Q (.str "missing") → missing.line = none ∧ ∃ t, errT missing.cls = some t ∧ Q (.str t) := fun q => ⟨rfl, "missing", by decide +kernel, q⟩
  rcases h with ⟨x, rfl, qx, q⟩ | ⟨s, os, qx, qs, ⟨rfl, q⟩ | ⟨rfl, q⟩⟩
  · refine ⟨_, rfl, _, _, rfl, rfl, rfl, rfl, _, rfl, iteT (by rw [eqv_int]; exact decide_eq_true rfl) ⟨_, rfl, _, rfl, call_ok h1 rfl rfl ⟨c, g, d, rfl, oc, oa, fun x e => tag_x (heard_cls e) .non (qx x e), fun e => ⟨szl, q e⟩⟩⟩⟩
  · obtain ⟨k4, e4⟩ := h4
    refine ⟨_, rfl, _, _, rfl, rfl, rfl, rfl, _, rfl, iteF (by rw [eqv_int]; decide) ?_⟩
    refine ⟨_, g1, _, g2, szl, _, rfl, .fn "strictest", at_lit 0 rfl rfl, "strictest", rfl, by rw [g1]; rfl, by rw [g1], ⟨_, e4, rfl⟩, _, rfl, _, rfl, _, rfl, call_ok ⟨k4, 0, e4⟩ rfl rfl ?_⟩
    exact ⟨c, g, d, s, rfl, oc, oa, os, fun x e => tag_x (heard_cls e) .non (qx x e), fun e hs => tag_x (.inr rfl) .non (qs e hs), fun e hs hv sol => ⟨fun z => miss ((q e hs hv sol).1 z), fun w z => ⟨szl, (q e hs hv sol).2 w z⟩⟩⟩
  · obtain ⟨k5, e5⟩ := h5
    refine ⟨_, rfl, _, _, rfl, rfl, rfl, rfl, _, rfl, iteF (by rw [eqv_int]; decide) ?_⟩
    refine ⟨_, g1, _, g2, szl, _, rfl, .fn "least_grants", at_lit 1 rfl rfl, "least_grants", rfl, by rw [g2]; rfl, by rw [g2], ⟨_, e5, rfl⟩, _, rfl, _, rfl, _, rfl, call_ok ⟨k5, 0, e5⟩ rfl rfl ?_⟩
    exact ⟨c, g, d, s, rfl, oc, oa, os, fun x e => tag_x (heard_cls e) .non (qx x e), fun e hs => tag_x (.inr rfl) .non (qs e hs), fun e hs => ⟨fun row z => ⟨szl, (q e hs).1 row z⟩, fun z => miss ((q e hs).2 z)⟩⟩
/-! the standards that are met stand in order -/
theorem met_take {p c : Int} (hc : 0 ≤ c) : ∃ n, n ≤ 4 ∧ (stdL.filter fun w => meetsB w p c) = stdL.take n := by
  have e1 : meetsB "hint" p c = decide (0 < p) := by unfold meetsB; rw [if_pos rfl]
  have e2 : meetsB "more" p c = decide (c < p) := by unfold meetsB; rw [if_neg (by decide +kernel), if_pos rfl]
  have e3 : meetsB "clear" p c = (decide (50 ≤ p) && decide (20 ≤ p - c)) := by
    unfold meetsB
    rw [if_neg (by decide +kernel), if_neg (by decide +kernel), decide_eq_true (show ("clear" : Str) = "clear" from rfl), Bool.true_or, Bool.and_true]
  have e4 : meetsB "certain" p c = ((decide (50 ≤ p) && decide (20 ≤ p - c)) && decide (c < 20)) := by
    unfold meetsB
    rw [if_neg (by decide +kernel), if_neg (by decide +kernel), decide_eq_false (show ¬ ("certain" : Str) = "clear" by decide +kernel), Bool.false_or]
  have ex : (stdL.filter fun w => meetsB w p c) = (if decide (0 < p) = true then ([("hint" : Str)] : List Str) else []) ++ ((if decide (c < p) = true then ([("more" : Str)] : List Str) else []) ++ ((if (decide (50 ≤ p) && decide (20 ≤ p - c)) = true then ([("clear" : Str)] : List Str) else []) ++ (if ((decide (50 ≤ p) && decide (20 ≤ p - c)) && decide (c < 20)) = true then ([("certain" : Str)] : List Str) else []))) := by
    show (["hint", "more", "clear", "certain"] : List Str).filter _ = _
    simp only [List.filter_cons, e1, e2, e3, e4, List.filter_nil]
    split <;> split <;> split <;> split <;> rfl
  rw [ex]
  by_cases h1 : 0 < p
  · by_cases h2 : c < p
    · by_cases h3 : (50 ≤ p ∧ 20 ≤ p - c)
      · by_cases h4 : c < 20
        · exact ⟨4, by decide, by simp [h1, h2, h3.1, h3.2, h4]; rfl⟩
        · exact ⟨3, by decide, by simp [h1, h2, h3.1, h3.2, h4]; rfl⟩
      · have : (decide (50 ≤ p) && decide (20 ≤ p - c)) = false := by
          rw [Bool.eq_false_iff]
          intro z
          exact h3 ⟨of_decide_eq_true (and2 z).1, of_decide_eq_true (and2 z).2⟩
        rw [this]
        exact ⟨2, by decide, by simp [h1, h2]; rfl⟩
    · have : (decide (50 ≤ p) && decide (20 ≤ p - c)) = false := by
        rw [Bool.eq_false_iff]
        intro z
        have := of_decide_eq_true (and2 z).2
        omega
      rw [this]
      exact ⟨1, by decide, by simp [h1, h2]; rfl⟩
  · have h2 : ¬ c < p := by omega
    have : (decide (50 ≤ p) && decide (20 ≤ p - c)) = false := by
      rw [Bool.eq_false_iff]
      intro z
      have := of_decide_eq_true (and2 z).1
      omega
    rw [this]
    exact ⟨0, by decide, by simp [h1, h2]⟩
theorem best_nn {rs : List Rs} {hv : Str → Bool} {s side : Str} : 0 ≤ bestF rs hv s side := by
  unfold bestF
  rw [best_filter]
  exact (max_ge _ 0).1
end
end DL

/-! K5: the law -/
namespace DL
open PySem
open L2 (Key)
section
variable {T : Tb}
structure LawT (T : Tb) : Prop where
  g : Glb T
  nx : Has T "_law_next" 2 mNext
  str : Has T "_law_stream" 1 mStream
  dre : Has T "_law_record" 2 mDrawRec
  dau : Has T "_law_audience" 2 mDrawAud
  held : Has T "_law_record_held" 2 mLHeld
  told : Has T "_law_told" 4 mTold
  same : Has T "_law_same" 2 mSame
  frc : Has T "_law_forces" 3 mLForces
  meets : Has T "_law_meets" 3 mLMeets
  subs : Has T "_law_subsets" 1 mSubsets
def lawLoop : List S := match b_law with
  | _ :: _ :: .for _ _ b :: _ => b
  | _ => []
def stLoop : List S := match lawLoop with
  | _ :: _ :: _ :: _ :: .for _ _ b :: _ => b
  | _ => []
noncomputable def dueR (rows : List (List Str)) (p : List Str → Bool) : D := match rows.find? p with
  | none => .str "missing"
  | some r => toldD (encT r)
def metD (c : Rc) (hv : Str → Bool) (s : Str) : D := match (metL c hv s)[(metL c hv s).length - 1]? with
  | none => .str "missing"
  | some w => toldD (.str w)
theorem rl_wk {f : Nat → D} {n : Nat} (h : n ≤ 100) : ((List.range n).map f).length ≤ wkL := by
  rw [List.length_map, List.length_range]
  unfold wkL
  omega
theorem told_ok {d : D} (h : okN 8 2 d = true) : okN 8 3 (toldD d) = true := by
  have t : okN 8 2 (.str "told") = true := by decide +kernel
  show (decide (2 ≤ 8) && (okN 8 2 (.str "told") && (okN 8 2 d && true))) = true
  rw [t, h]
  rfl
theorem tss_ok {l : List Str} (hl : l.length ≤ 8) (ho : ∀ x ∈ l, okS x = true) : okN 8 2 (.tup (l.map .str)) = true := by
  show (decide ((l.map D.str).length ≤ 8) && (l.map D.str).all fun d => okN 8 1 d) = true
  rw [decide_eq_true (by rw [List.length_map]; exact hl), Bool.true_and, List.all_eq_true]
  intro d hd
  obtain ⟨x, hx, rfl⟩ := List.mem_map.mp hd
  exact ho x hx
theorem rows_sub {c : Rc} (dc : Drawn c) {g d : List Str} {s : Str} {row : List Str} (h : row ∈ subs (leftL c g d s)) : row.length ≤ 6 ∧ ∀ x ∈ row, okS x = true := by
  obtain ⟨_, _, s2, s6⟩ := drawn_st dc
  have k := (subs_sublist h).trans (List.filter_sublist (l := c.st) (p := fun o => !decide (o ∈ g) && (!decide (o ∈ d) && !decide (o = s))))
  exact ⟨Nat.le_trans k.length_le s6, fun x hx => (drawn_ok dc).st x (k.subset hx)⟩
theorem law_st (t : LawT T) {c : Rc} (dc : Drawn c) {g d : List Str} (hg : g.Sublist c.st) (hd : d.Sublist c.st) (ha : ∀ x ∈ g, x ∉ d) {hv : Str → Bool} {K : List Str} (gr : Grown c K) (cl : Closed c K) (sol : HSol c g d hv K) {s : Str} (hs : s ∈ c.st) {κ : KD} {x0 x1 x3 x6 x9 x10 x11 x12 x13 x14 x15 x16 x17 x18 x19 x20 : Option D}
    (q : ∀ x12 x13 x14 x15 x17 x18 x19 x20 : Option D, κ.nx [x0, x1, some (.lst (stdL.map .str)), x3, some c.d, some (audD g d), x6, some (.dic (hL hv K)), some (.str s), x9, x10, x11, x12, x13, x14, x15, x16, x17, x18, x19, x20, none, none, none, none]) :
    wpSs T stLoop [x0, x1, some (.lst (stdL.map .str)), x3, some c.d, some (audD g d), x6, some (.dic (hL hv K)), some (.str s), x9, x10, x11, x12, x13, x14, x15, x16, x17, x18, x19, x20, none, none, none, none] κ := by
  have oc := drawn_ok dc
  have fc := (drawn_fine dc).1
  obtain ⟨_, _, s2, s6⟩ := drawn_st dc
  obtain ⟨tg, tc⟩ := turn_spec fc.nd
  have inK : ∀ o ∈ c.st, o ∈ K := closed_st dc cl
  have inT : ∀ o ∈ c.st, o ∈ turnL c := closed_st dc tc
  have solT : HSol c g d hv (turnL c) := fun o ho => sol o (inK o (tg.st o ho))
  have same : ∀ hv', HSol c g d hv' (turnL c) → ∀ o ∈ c.st, hv' o = hv o := fun hv' s' o ho => sol_uniq tg s' solT o (inT o ho)
  have okg : ∀ x ∈ g, okS x = true := fun x hx => oc.st x (hg.subset hx)
  have okd : ∀ x ∈ d, okS x = true := fun x hx => oc.st x (hd.subset hx)
  have lg := hg.length_le
  have ld := hd.length_le
  have oa : AudOk g d := ⟨okg, okd, by omega, by omega⟩
  have hau := drawn_aud dc hg hd ha
  have hh := drawn_heard dc hg hd ha
  have os := oc.st s hs
  -- the forces, the standards met
  refine ⟨_, rfl, _, rfl, _, rfl, call_ok t.frc rfl rfl ⟨c, _, hv, s, rfl, oc, os, fc.sd, fun r hr _ => hL_hold fun y hy => inK y (fc.ne r hr y hy), _, rfl, rfl, ?_⟩⟩
  refine ⟨_, rfl, _, rfl, .inr (by unfold wkL; decide), ?_⟩
  refine lcW_f D.str (fun w => meetsB w (bestF c.rs hv s "pro") (bestF c.rs hv s "con")) D.str stdL (by decide) (fun w hw R k => ?_) ?_
  · refine ⟨_, rfl, _, rfl, _, rfl, call_ok t.meets rfl rfl ⟨w, _, _, rfl, hw, _, rfl, iteB (fun e2 => ?_) fun e2 => ?_⟩⟩
    · rw [e2, if_pos rfl] at k
      exact ⟨_, rfl, k⟩
    · rw [e2, if_neg Bool.false_ne_true] at k
      exact k
  show wpSs T (stLoop.drop 2) [x0, x1, some (.lst (stdL.map .str)), x3, some c.d, some (audD g d), x6, some (.dic (hL hv K)), some (.str s), x9, x10, x11, some (.lst ((metL c hv s).map .str)), x13, x14, x15, x16, some (.int (bestF c.rs hv s "pro")), some (.int (bestF c.rs hv s "con")), x19, x20, none, none, none, none] κ
  obtain ⟨n, hn4, hmet⟩ := met_take (p := bestF c.rs hv s "pro") (c := bestF c.rs hv s "con") best_nn
  have hmet : metL c hv s = stdL.take n := hmet
  have lmet : (metL c hv s).length = n := by
    rw [hmet, List.length_take]
    show min n 4 = n
    omega
  have mstd : ∀ w ∈ metL c hv s, w ∈ stdL := fun w hw => (List.mem_filter.mp hw).1
  have okm : okN 8 1 (.lst ((metL c hv s).map .str)) = true := by
    show (decide (((metL c hv s).map D.str).length ≤ 8) && ((metL c hv s).map D.str).all fun d => okN 8 0 d) = true
    rw [decide_eq_true (by rw [List.length_map]; omega), Bool.true_and, List.all_eq_true]
    intro x hx
    obtain ⟨w, hw, rfl⟩ := List.mem_map.mp hx
    exact okStd w (mstd w hw)
  refine ⟨_, rfl, _, rfl, _, rfl, _, rfl, ?_⟩
  have ecut : cutL (stdL.map D.str) none (some (((metL c hv s).map D.str).length : Int)) = (metL c hv s).map D.str := by
    rw [List.length_map, lmet, cut_to, ← List.map_take, ← hmet]
  dsimp only [sliceD]
  rw [ecut]
  refine ne_self (by decide) okm ⟨false, rfl, iteF rfl ?_⟩
  -- who is left
  refine ⟨_, rfl, _, at_lit 0 rfl rfl, _, rfl, .inr (wk_of _ _ (by omega)), lcW_f D.str (fun o => !decide (o ∈ g) && (!decide (o ∈ d) && !decide (o = s))) D.str c.st (by omega) (fun o ho R k => ?_) ?_⟩
  · have oo := oc.st o ho
    have ecat : (g.map D.str ++ d.map D.str) ++ [D.str s] = ((g ++ d) ++ [s]).map D.str := by simp
    have okall : ∀ x ∈ (g ++ d) ++ [s], okS x = true := fun x hx => by
      rcases List.mem_append.mp hx with z | z
      · exact (List.mem_append.mp z).elim (okg x) (okd x)
      · rw [List.mem_singleton.mp z]
        exact os
    refine ⟨_, rfl, _, rfl, _, at_lit 0 rfl rfl, _, rfl, _, at_lit 1 rfl rfl, ?_, _, rfl, szl, ?_, ?_⟩
    · rw [List.length_map, List.length_map, sizeLine_eq]
      omega
    · show (g.map D.str ++ d.map D.str).length + 1 ≤ _
      rw [List.length_append, List.length_map, List.length_map, sizeLine_eq]
      omega
    · show innD true (.str o) (.tup ((g.map D.str ++ d.map D.str) ++ [D.str s])) _
      rw [ecat]
      refine inn_tup oo okall ⟨_, rfl, ?_⟩
      have eb : negB true (decide (o ∈ (g ++ d) ++ [s])) = (!decide (o ∈ g) && (!decide (o ∈ d) && !decide (o = s))) := by
        show (!decide (o ∈ (g ++ d) ++ [s])) = _
        rw [Bool.eq_iff_iff]
        simp [List.mem_append, and_assoc]
      rw [eb]
      refine iteB (fun e => ?_) fun e => ?_
      · rw [e, if_pos rfl] at k
        exact ⟨_, rfl, k⟩
      · rw [e, if_neg Bool.false_ne_true] at k
        exact k
  show wpSs T (stLoop.drop 5) [x0, x1, some (.lst (stdL.map .str)), x3, some c.d, some (audD g d), x6, some (.dic (hL hv K)), some (.str s), x9, x10, x11, some (.lst ((metL c hv s).map .str)), some (.str "missing"), some (.lst ((leftL c g d s).map .str)), x15, x16, some (.int (bestF c.rs hv s "pro")), some (.int (bestF c.rs hv s "con")), x19, x20, none, none, none, none] κ
  have ll : (leftL c g d s).length ≤ 6 := Nat.le_trans (List.length_filter_le _ _) s6
  have sl := subs12 (l := leftL c g d s) (by omega)
  have lsT : (sT (subs (leftL c g d s))).length = (subs (leftL c g d s)).length := List.length_mergeSort _
  refine ⟨_, rfl, call_ok t.subs rfl rfl ⟨leftL c g d s, rfl, by omega, _, rfl, .inr (wk_of _ _ (by omega)), lcW_mL encT encR _ (by omega) (fun r hr R k => ?_) ?_⟩⟩
  · refine ⟨_, rfl, _, rfl, szl, ?_⟩
    have : D.tup [D.int ((r.map D.str).length : Int), encT r] = encR r := by unfold encR; rw [List.length_map]
    show R (some (D.tup [D.int ((r.map D.str).length : Int), encT r]))
    rw [this]
    exact k
  have esr : sortD ((sT (subs (leftL c g d s))).map encR) = (sR (subs (leftL c g d s))).map encR := by
    rw [show sortD ((sT (subs (leftL c g d s))).map encR) = (sR (sT (subs (leftL c g d s)))).map encR from sortD_map encR _, sR_sT]
  refine ⟨sc_rows _, sortD ((sT (subs (leftL c g d s))).map encR), rfl, .inr ?_, ?_⟩
  · rw [esr]
    refine wk_of _ _ ?_
    rw [show (sR (subs (leftL c g d s))).length = (subs (leftL c g d s)).length from List.length_mergeSort _]
    omega
  rw [esr]
  refine forL_t encR (fun i ρ => ∃ x19 x20 : Option D, ρ = [x0, x1, some (.lst (stdL.map .str)), x3, some c.d, some (audD g d), x6, some (.dic (hL hv K)), some (.str s), x9, x10, x11, some (.lst ((metL c hv s).map .str)), some (dueR ((sR (subs (leftL c g d s))).take i) (accB c g d s)), some (.lst ((leftL c g d s).map .str)), x15, x16, some (.int (bestF c.rs hv s "pro")), some (.int (bestF c.rs hv s "con")), x19, x20, none, none, none, none]) (sR (subs (leftL c g d s))) 0 _ ⟨x19, x20, rfl⟩ (fun j row ρ N hj hi hn => ?_) fun ρ hi => ?_
  · obtain ⟨x19, x20, rfl⟩ := hi
    rw [Nat.zero_add] at hn ⊢
    have hm : row ∈ subs (leftL c g d s) := List.mem_mergeSort.mp (List.mem_of_getElem? hj)
    obtain ⟨lr, or⟩ := rows_sub dc hm
    have tk : (sR (subs (leftL c g d s))).take (j + 1) = (sR (subs (leftL c g d s))).take j ++ [row] := by
      rw [List.take_succ, hj]
      rfl
    refine ⟨_, rfl, rfl, _, rfl, ?_⟩
    cases hf : ((sR (subs (leftL c g d s))).take j).find? (accB c g d s) with
    | some r0 =>
      have e0 : dueR ((sR (subs (leftL c g d s))).take j) (accB c g d s) = toldD (encT r0) := by unfold dueR; rw [hf]
      have e1 : dueR ((sR (subs (leftL c g d s))).take (j + 1)) (accB c g d s) = toldD (encT r0) := by unfold dueR; rw [tk, List.find?_append, hf]; rfl
      have hn2 := hn [x0, x1, some (.lst (stdL.map .str)), x3, some c.d, some (audD g d), x6, some (.dic (hL hv K)), some (.str s), x9, x10, x11, some (.lst ((metL c hv s).map .str)), some (toldD (encT r0)), some (.lst ((leftL c g d s).map .str)), x15, x16, some (.int (bestF c.rs hv s "pro")), some (.int (bestF c.rs hv s "con")), some (.int (row.length : Int)), some (encT row), none, none, none, none] ⟨_, _, by rw [e1]⟩
      rw [e0]
      have hm0 : r0 ∈ subs (leftL c g d s) := List.mem_mergeSort.mp (List.mem_of_mem_take (List.mem_of_find?_eq_some hf))
      obtain ⟨lr0, or0⟩ := rows_sub dc hm0
      have ok0 := told_ok (tss_ok (by omega) or0)
      obtain ⟨p, ep, gp⟩ := okN_py 3 _ ok0
      have hp : ∃ l, p = .tuple l := by
        have ep : (toPy.toPyL [.str "told", encT r0]).map PyData.tuple = some p := ep
        obtain ⟨l, _, rfl⟩ := Option.map_eq_some_iff.mp ep
        exact ⟨l, rfl⟩
      obtain ⟨l, rfl⟩ := hp
      refine ⟨_, _, ep, rfl, shEq_of (gp.shaped (by decide)), shEq_of (sh_str okS_lit), ?_⟩
      have ev : PyData.eqv (.tuple l) (.str "missing") = false := by simp only [PyData.eqv]
      rw [ev]
      exact ⟨false, rfl, iteF rfl ⟨false, rfl, iteF rfl hn2⟩⟩
    | none =>
      have e0 : dueR ((sR (subs (leftL c g d s))).take j) (accB c g d s) = .str "missing" := by unfold dueR; rw [hf]
      rw [e0]
      refine ⟨_, _, rfl, rfl, rfl, rfl, ?_⟩
      rw [eqv_str, decide_eq_true rfl]
      have oa2 := more_ok oc hau oa oc.l1 fc.nd hm
      have ecat : g.map D.str ++ row.map D.str = (g ++ row).map D.str := by rw [List.map_append]
      refine ⟨true, rfl, iteT rfl ⟨_, rfl, _, rfl, _, at_lit 0 rfl rfl, _, rfl, ?_, ?_⟩⟩
      · rw [List.length_map, List.length_map, sizeLine_eq]
        omega
      refine ⟨by rw [ecat]; exact sc_strs _, ?_⟩
      rw [ecat, sS_d]
      refine ⟨_, rfl, _, at_lit 1 rfl rfl, szl, call_ok t.held rfl rfl ⟨c, sS (g ++ row), d, rfl, fc, oa2, fun hv2 K2 gr2 cl2 sol2 => ?_⟩⟩
      have inK2 : ∀ o ∈ c.st, o ∈ K2 := closed_st dc cl2
      refine ⟨_, rfl, _, _, rfl, valD_map (F := fun o => .bl (hv2 o)) (inK2 s hs), _, rfl, ?_⟩
      have ev : hv2 s = accB c g d s row := hvOf_eq tg (fun o ho => sol2 o (inK2 o (tg.st o ho))) s (inT s hs)
      rw [ev]
      refine iteB (fun e2 => ?_) fun e2 => ?_
      · refine ⟨_, rfl, szl, hn _ ⟨some (.int (row.length : Int)), some (encT row), ?_⟩⟩
        have e1 : dueR ((sR (subs (leftL c g d s))).take (j + 1)) (accB c g d s) = toldD (encT row) := by
          unfold dueR
          rw [tk, List.find?_append, hf, Option.none_or, List.find?_cons_of_pos e2]
        rw [e1]
        rfl
      · refine hn _ ⟨some (.int (row.length : Int)), some (encT row), ?_⟩
        have e1 : dueR ((sR (subs (leftL c g d s))).take (j + 1)) (accB c g d s) = .str "missing" := by
          unfold dueR
          rw [tk, List.find?_append, hf, Option.none_or, List.find?_cons_of_neg (by rw [e2]; exact Bool.false_ne_true), List.find?_nil]
        rw [e1]
        rfl
  obtain ⟨x19, x20, rfl⟩ := hi
  rw [Nat.zero_add, List.take_length]
  generalize hdue : dueR (sR (subs (leftL c g d s))) (accB c g d s) = due
  have okdue : okN 8 3 due = true := by
    rw [← hdue]
    unfold dueR
    split
    · decide +kernel
    · rename_i r hf
      have hm0 : r ∈ subs (leftL c g d s) := List.mem_mergeSort.mp (List.mem_of_find?_eq_some hf)
      obtain ⟨lr0, or0⟩ := rows_sub dc hm0
      exact told_ok (tss_ok (by omega) or0)
  have okmet : okN 8 3 (metD c hv s) = true := by
    unfold metD
    split
    · decide +kernel
    · rename_i w hf
      exact told_ok (okStd w (mstd w (List.mem_of_getElem? hf)))
  have fin : ∀ x15 : Option D, x15 = some (.lst [metD c hv s, due]) → wpSs T (stLoop.drop 8) [x0, x1, some (.lst (stdL.map .str)), x3, some c.d, some (audD g d), x6, some (.dic (hL hv K)), some (.str s), x9, x10, x11, some (.lst ((metL c hv s).map .str)), some due, some (.lst ((leftL c g d s).map .str)), x15, x16, some (.int (bestF c.rs hv s "pro")), some (.int (bestF c.rs hv s "con")), x19, x20, none, none, none, none] κ := by
    rintro _ rfl
    have no : ∀ {P : Prop} {e : Exn}, heardE c g d = some e → P := fun z => by rw [hh] at z; cases z
    have meq : ∀ hv', HSol c g d hv' (turnL c) → metL c hv' s = metL c hv s := fun hv' s' => by
      have e : ∀ side, bestF c.rs hv' s side = bestF c.rs hv s side := fun side => best_congr fun r hr hgl y hy => same hv' s' y (fc.ne r hr y hy)
      unfold metL
      rw [e, e]
    refine ⟨_, rfl, by decide, by decide, _, rfl, .inr (rl_wk (n := 2) (by decide)), ?_⟩
    refine lcW_m (fun k : Nat => D.int (0 + (k : Int))) (fun k => match k with | 0 => metD c hv s | _ => due) (List.range 2) (by decide) (fun k hk R kk => ?_) ?_
    · have hk : k < 2 := List.mem_range.mp hk
      match k, hk, kk with
      | 0, _, kk =>
        refine ⟨_, rfl, _, rfl, _, rfl, _, rfl, call_ok t.told rfl rfl ⟨c, g, d, oc, oa, .inr ⟨s, os, fun e z => no z, fun _ z => absurd hs z, .inl ⟨rfl, fun _ _ hv' s' => ?_⟩⟩⟩⟩
        rw [meq hv' s']
        unfold metD at kk
        refine ⟨fun z => ?_, fun w z => ?_⟩
        · rw [z] at kk
          exact kk
        · rw [z] at kk
          exact kk
      | 1, _, kk =>
        refine ⟨_, rfl, _, rfl, _, rfl, _, rfl, call_ok t.told rfl rfl ⟨c, g, d, oc, oa, .inr ⟨s, os, fun e z => no z, fun _ z => absurd hs z, .inr ⟨rfl, fun _ _ => ⟨fun row z => ?_, fun z => ?_⟩⟩⟩⟩⟩
        · have kk : R (some due) := kk
          rw [← hdue] at kk
          unfold dueR at kk
          rw [z] at kk
          exact kk
        · have kk : R (some due) := kk
          rw [← hdue] at kk
          unfold dueR at kk
          rw [z] at kk
          exact kk
    have ok2 : okN 8 4 (.lst [metD c hv s, due]) = true := by
      show (decide (2 ≤ 8) && (okN 8 3 (metD c hv s) && (okN 8 3 due && true))) = true
      rw [okmet, okdue]
      rfl
    exact ⟨_, rfl, call_ok t.same rfl rfl ⟨.lst [metD c hv s, due], rfl, ok2, true, rfl, false, rfl, iteF rfl (q _ _ _ _ _ _ _ _)⟩⟩
  refine ⟨_, rfl, szl, ?_⟩
  refine ⟨_, rfl, _, rfl, iteB (fun e => ?_) fun e => ?_⟩
  · have e : decide ((0 : Int) < ((metL c hv s).map D.str).length) = true := e
    rw [List.length_map] at e
    have e := of_decide_eq_true e
    have hl : 0 < (metL c hv s).length := by omega
    have hgl : (metL c hv s)[(metL c hv s).length - 1]? = some ((metL c hv s)[(metL c hv s).length - 1]'(by omega)) := List.getElem?_eq_getElem (by omega)
    have em : metD c hv s = toldD (.str ((metL c hv s)[(metL c hv s).length - 1]'(by omega))) := by
      unfold metD
      rw [hgl]
    refine ⟨_, rfl, _, rfl, .str ((metL c hv s)[(metL c hv s).length - 1]'(by omega)), ?_, szl, _, rfl, szl, fin _ ?_⟩
    · show L2.atI ((metL c hv s).map D.str) (-1) = _
      rw [at_neg (by rw [List.length_map]; exact hl), ← List.getElem?_eq_getElem, List.length_map, List.getElem?_map, hgl]
      rfl
    · rw [em]
      rfl
  · have e : decide ((0 : Int) < ((metL c hv s).map D.str).length) = false := e
    rw [List.length_map] at e
    have e := of_decide_eq_false e
    refine fin _ ?_
    have em : metD c hv s = .str "missing" := by
      unfold metD
      rw [List.getElem?_eq_none (by omega)]
    rw [em]
end
end DL

/-! K6: the law, whole -/
namespace DL
open PySem
open L2 (Key)
section
variable {T : Tb}
theorem repr_raw {w n : Nat} {l : List D} (hn : n + 1 ≤ 60) (hw : wt w (n + 1) ≤ 1048576) (h : okN w (n + 1) (.tup l) = true) : ∃ p, toPy.toPyL l = some p ∧ (PyData.tuple p).showable = true ∧ (PyData.tuple p).hasDict = false ∧ (PyData.tuple p).depth ≤ 60 ∧ (PyData.tuple p).shown.length ≤ sizeLine := by
  obtain ⟨p, e, g⟩ := okN_py (n + 1) _ h
  have e : (toPy.toPyL l).map PyData.tuple = some p := e
  cases e2 : toPy.toPyL l with
  | none => rw [e2] at e; cases e
  | some ps =>
    rw [e2] at e
    cases e
    exact ⟨ps, rfl, g.repr hn hw⟩
/-- the reasons that are not needed -/
theorem law_needless (t : LawT T) {c : Rc} (dc : Drawn c) {g d : List Str} (hg : g.Sublist c.st) (hd : d.Sublist c.st) (ha : ∀ x ∈ g, x ∉ d) {hv : Str → Bool} {K : List Str} (gr : Grown c K) (cl : Closed c K) (sol : HSol c g d hv K) {κ : KD} {x0 x1 x2 x3 x6 x8 x9 x10 x11 x12 x13 x14 x15 x16 x17 x18 x19 x20 : Option D}
    (q : ∀ x9 x10 x16 : Option D, wpSs T (lawLoop.drop 8) [x0, x1, x2, x3, some c.d, some (audD g d), x6, some (.dic (hL hv K)), x8, x9, x10, x11, x12, x13, x14, x15, x16, x17, x18, x19, x20, none, none, none, none] κ) :
    wpSs T (lawLoop.drop 5) [x0, x1, x2, x3, some c.d, some (audD g d), x6, some (.dic (hL hv K)), x8, x9, x10, x11, x12, x13, x14, x15, x16, x17, x18, x19, x20, none, none, none, none] κ := by
  have oc := drawn_ok dc
  have fc := (drawn_fine dc).1
  obtain ⟨_, _, s2, s6⟩ := drawn_st dc
  have lr := dc.lr
  obtain ⟨tg, tc⟩ := turn_spec fc.nd
  have inK : ∀ o ∈ c.st, o ∈ K := closed_st dc cl
  have inT : ∀ o ∈ c.st, o ∈ turnL c := closed_st dc tc
  have solT : HSol c g d hv (turnL c) := fun o ho => sol o (inK o (tg.st o ho))
  have okg : ∀ x ∈ g, okS x = true := fun x hx => oc.st x (hg.subset hx)
  have okd : ∀ x ∈ d, okS x = true := fun x hx => oc.st x (hd.subset hx)
  have lg := hg.length_le
  have ld := hd.length_le
  have oa : AudOk g d := ⟨okg, okd, by omega, by omega⟩
  have hh := drawn_heard dc hg hd ha
  refine ⟨szl, ?_⟩
  refine ⟨_, rfl, _, at_lit 1 rfl rfl, _, rfl, .inr (wk_of _ _ (by omega)), ?_⟩
  refine forL_t Rs.d (fun i ρ => ∃ x10 x16 : Option D, ρ = [x0, x1, x2, x3, some c.d, some (audD g d), x6, some (.dic (hL hv K)), x8, some (.lst (((c.rs.take i).filter fun r => sameH c (less c r) g d).map fun r => .str r.nm)), x10, x11, x12, x13, x14, x15, x16, x17, x18, x19, x20, none, none, none, none]) c.rs 0 _ ⟨x10, x16, rfl⟩ (fun j r ρ N hr hi hn => ?_) fun ρ hi => ?_
  · obtain ⟨x10, x16, rfl⟩ := hi
    rw [Nat.zero_add] at hn ⊢
    have hm := List.mem_of_getElem? hr
    have or := oc.rs r hm
    have tk : c.rs.take (j + 1) = c.rs.take j ++ [r] := by
      rw [List.take_succ, hr]
      rfl
    refine ⟨_, rfl, _, at_lit 0 rfl rfl, _, rfl, _, at_lit 1 rfl rfl, _, rfl, .inr (wk_of _ _ (by omega)), lcW_f Rs.d (fun o => neR o r) Rs.d c.rs (by omega) (fun o ho R k => ?_) ?_⟩
    · refine ⟨_, rfl, _, rfl, ne_rs (oc.rs o ho) or ⟨_, rfl, iteB (fun e2 => ?_) fun e2 => ?_⟩⟩
      · rw [e2, if_pos rfl] at k
        exact ⟨_, rfl, k⟩
      · rw [e2, if_neg Bool.false_ne_true] at k
        exact k
    refine ⟨_, rfl, _, at_lit 2 rfl rfl, szl, ?_⟩
    refine ⟨_, rfl, _, rfl, call_ok t.held rfl rfl ⟨less c r, g, d, rfl, less_fine fc r, oa, fun hv' K' gr' cl' sol' => ?_⟩⟩
    have inK' := less_full fc inT cl'
    obtain ⟨tg', tc'⟩ := turn_spec (less_fine fc r).nd
    have inT' := less_full fc inT tc'
    refine ⟨_, rfl, hB hv' _, hB hv _, hL_dic _ _, hL_dic _ _, ?_⟩
    have es : eqDic (hB hv' K') (hB hv K) = sameH c (less c r) g d :=
      eq_same gr.nodup gr'.nodup (fun o => ⟨gr.st o, inK o⟩) (fun o => ⟨gr'.st o, inK' o⟩) (fun o ho => hvOf_eq tg solT o (inT o ho)) (fun o ho => hvOf_eq tg' (fun o ho => sol' o (inK' o (tg'.st o ho))) o (inT' o ho))
    rw [es]
    refine ⟨_, rfl, iteB (fun e2 => ?_) fun e2 => ?_⟩
    · refine ⟨_, rfl, _, rfl, _, at_lit 0 rfl rfl, ?_, ?_⟩
      · rw [List.length_map, sizeLine_eq]
        have := List.length_filter_le (fun r => sameH c (less c r) g d) (c.rs.take j)
        rw [List.length_take] at this
        omega
      · refine hn _ ⟨some r.d, some (less c r).d, ?_⟩
        rw [tk, List.filter_append, List.filter_cons, e2, if_pos rfl, List.filter_nil, List.map_append]
        rfl
    · refine hn _ ⟨some r.d, some (less c r).d, ?_⟩
      rw [tk, List.filter_append, List.filter_cons, e2, if_neg Bool.false_ne_true, List.filter_nil, List.append_nil]
      rfl
  obtain ⟨x10, x16, rfl⟩ := hi
  rw [Nat.zero_add, List.take_length]
  have oknames : okN 8 2 (.tup ((c.rs.filter fun r => sameH c (less c r) g d).map fun r => .str r.nm)) = true := by
    show (decide (((c.rs.filter fun r => sameH c (less c r) g d).map fun r => D.str r.nm).length ≤ 8) && ((c.rs.filter fun r => sameH c (less c r) g d).map fun r => D.str r.nm).all fun d => okN 8 1 d) = true
    rw [decide_eq_true (by rw [List.length_map]; exact Nat.le_trans (List.length_filter_le _ _) (by omega)), Bool.true_and, List.all_eq_true]
    intro d hd
    obtain ⟨x, hx, rfl⟩ := List.mem_map.mp hd
    exact (oc.rs x (List.mem_filter.mp hx).1).nm
  have tok : okN 8 4 (toldD (.tup ((c.rs.filter fun r => sameH c (less c r) g d).map fun r => .str r.nm))) = true := by
    have t3 : okN 8 3 (.str "told") = true := by decide +kernel
    have o3 : okN 8 3 (.tup ((c.rs.filter fun r => sameH c (less c r) g d).map fun r => .str r.nm)) = true := by
      show (decide (((c.rs.filter fun r => sameH c (less c r) g d).map fun r => D.str r.nm).length ≤ 8) && ((c.rs.filter fun r => sameH c (less c r) g d).map fun r => D.str r.nm).all fun d => okN 8 2 d) = true
      rw [decide_eq_true (by rw [List.length_map]; exact Nat.le_trans (List.length_filter_le _ _) (by omega)), Bool.true_and, List.all_eq_true]
      intro d hd
      obtain ⟨x, hx, rfl⟩ := List.mem_map.mp hd
      exact (oc.rs x (List.mem_filter.mp hx).1).nm
    show (decide (2 ≤ 8) && (okN 8 3 (.str "told") && (okN 8 3 _ && true))) = true
    rw [t3, o3]
    rfl
  refine ⟨_, rfl, _, rfl, call_ok t.told rfl rfl ⟨c, g, d, oc, oa, .inl ⟨_, rfl, fun e z => ?_, fun _ => ?_⟩⟩⟩
  · rw [hh] at z
    cases z
  · exact ⟨_, rfl, szl, call_ok t.same rfl rfl ⟨_, rfl, tok, true, rfl, false, rfl, iteF rfl (q _ _ _)⟩⟩
theorem law_turn (t : LawT T) {κ : KD} {x0 x3 x4 x5 x6 x7 x8 x9 x10 x11 x12 x13 x14 x15 x16 x17 x18 x19 x20 : Option D}
    (q : ∀ x4 x5 x6 x7 x8 x9 x10 x11 x12 x13 x14 x15 x16 x17 x18 x19 x20 : Option D, κ.nx [x0, some .st, some (.lst (stdL.map .str)), x3, x4, x5, x6, x7, x8, x9, x10, x11, x12, x13, x14, x15, x16, x17, x18, x19, x20, none, none, none, none]) :
    wpSs T lawLoop [x0, some .st, some (.lst (stdL.map .str)), x3, x4, x5, x6, x7, x8, x9, x10, x11, x12, x13, x14, x15, x16, x17, x18, x19, x20, none, none, none, none] κ := by
  refine ⟨_, rfl, call_ok t.dre rfl rfl ⟨rfl, fun c dc => ?_⟩⟩
  have oc := drawn_ok dc
  have fc := (drawn_fine dc).1
  obtain ⟨_, sub, s2, s6⟩ := drawn_st dc
  refine ⟨_, rfl, _, rfl, call_ok t.dau rfl rfl ⟨c, rfl, oc, fun g d hg hd ha => ?_⟩⟩
  have okg : ∀ x ∈ g, okS x = true := fun x hx => oc.st x (hg.subset hx)
  have okd : ∀ x ∈ d, okS x = true := fun x hx => oc.st x (hd.subset hx)
  have lg := hg.length_le
  have ld := hd.length_le
  have oa : AudOk g d := ⟨okg, okd, by omega, by omega⟩
  have hh := drawn_heard dc hg hd ha
  obtain ⟨ps, e2, g1, g2, g3, g4⟩ := repr_raw (w := 8) (n := 4) (by decide) (by decide) (pair_ok (rec_ok dc) (aud_ok okg okd (by omega) (by omega)))
  refine ⟨_, rfl, _, rfl, szl, ps, e2, g1, g2, g3, g4, ?_⟩
  refine ⟨_, rfl, _, rfl, call_ok t.held rfl rfl ⟨c, g, d, rfl, fc, oa, fun hv K gr cl sol => ?_⟩⟩
  -- statement by statement
  have ecut : cutL (c.st.map D.str).reverse none (some 3) = (c.st.reverse.take 3).map D.str := by
    rw [show (3 : Int) = ((3 : Nat) : Int) from rfl, cut_to, List.map_take, List.map_reverse]
  refine ⟨_, rfl, _, at_lit 0 rfl rfl, _, rfl, cutL (c.st.map D.str).reverse none (some 3), rfl, .inr ?_, ?_⟩
  · rw [ecut]
    exact wk_of _ _ (by rw [List.length_take]; omega)
  rw [ecut]
  refine forL_t D.str (fun i ρ => ∃ x8 x12 x13 x14 x15 x17 x18 x19 x20 : Option D, ρ = [x0, some .st, some (.lst (stdL.map .str)), x3, some c.d, some (audD g d), some (.str (PyData.tuple ps).shown), some (.dic (hL hv K)), x8, x9, x10, x11, x12, x13, x14, x15, x16, x17, x18, x19, x20, none, none, none, none]) (c.st.reverse.take 3) 0 _ ⟨x8, x12, x13, x14, x15, x17, x18, x19, x20, rfl⟩ (fun j s ρ N hj hi hn => ?_) fun ρ hi => ?_
  · obtain ⟨x8, x12, x13, x14, x15, x17, x18, x19, x20, rfl⟩ := hi
    have hs : s ∈ c.st := List.mem_reverse.mp (List.mem_of_mem_take (List.mem_of_getElem? hj))
    exact law_st t dc hg hd ha gr cl sol hs fun x12 x13 x14 x15 x17 x18 x19 x20 => hn _ ⟨_, x12, x13, x14, x15, x17, x18, x19, x20, rfl⟩
  obtain ⟨x8, x12, x13, x14, x15, x17, x18, x19, x20, rfl⟩ := hi
  refine law_needless t dc hg hd ha gr cl sol fun x9 x10 x16 => ?_
  -- who is nobody
  have nob : ("nobody" : Str) ∉ c.st := fun z => by
    have := sub _ z
    revert this
    decide +kernel
  obtain ⟨a0, oa0⟩ := odd_aud sub (["nobody"], []) (List.mem_cons_of_mem _ (List.mem_cons_of_mem _ List.mem_cons_self))
  have hh0 := heard_bad dc a0
  have no : ∀ {P : Prop} {e : Exn}, heardE c g d = some e → P := fun z => by rw [hh] at z; cases z
  have no0 : ∀ {P : Prop}, heardE c ["nobody"] [] = none → P := fun z => by rw [hh0] at z; cases z
  have yes0 : ∀ {R : Option D → Prop}, R (some (.str "refused")) → ∀ x, heardE c ["nobody"] [] = some x → R (some (tagD (some x) .non)) := fun q x z => by
    rw [hh0] at z
    cases z
    exact q
  refine ⟨_, rfl, by decide, by decide, _, rfl, .inr (rl_wk (n := 2) (by decide)), ?_⟩
  refine lcW_m (fun k : Nat => D.int (0 + (k : Int))) (fun _ => .str "refused") (List.range 2) (by decide) (fun k hk R kk => ?_) ?_
  · have hk : k < 2 := List.mem_range.mp hk
    match k, hk with
    | 0, _ => exact ⟨_, rfl, _, rfl, _, rfl, call_ok t.told rfl rfl ⟨c, g, d, oc, oa, .inr ⟨"nobody", okS_lit, fun e z => no z, fun _ _ => kk, .inl ⟨rfl, fun _ z => absurd z nob⟩⟩⟩⟩
    | 1, _ => exact ⟨_, rfl, _, rfl, _, rfl, call_ok t.told rfl rfl ⟨c, g, d, oc, oa, .inr ⟨"nobody", okS_lit, fun e z => no z, fun _ _ => kk, .inr ⟨rfl, fun _ z => absurd z nob⟩⟩⟩⟩
  refine ⟨_, rfl, by decide, by decide, _, rfl, .inr (rl_wk (n := 3) (by decide)), ?_⟩
  refine lcW_m (fun k : Nat => D.int (0 + (k : Int))) (fun _ => .str "refused") (List.range 3) (by decide) (fun k hk R kk => ?_) ?_
  · have hk : k < 3 := List.mem_range.mp hk
    match k, hk with
    | 0, _ => exact ⟨_, rfl, _, rfl, szl, szl, szl, call_ok t.told rfl rfl ⟨c, ["nobody"], [], oc, oa0, .inr ⟨"a", okS_lit, yes0 kk, no0, .inl ⟨rfl, no0⟩⟩⟩⟩
    | 1, _ => exact ⟨_, rfl, _, rfl, szl, szl, szl, call_ok t.told rfl rfl ⟨c, ["nobody"], [], oc, oa0, .inr ⟨"a", okS_lit, yes0 kk, no0, .inr ⟨rfl, no0⟩⟩⟩⟩
    | 2, _ => exact ⟨_, rfl, _, rfl, szl, szl, szl, call_ok t.told rfl rfl ⟨c, ["nobody"], [], oc, oa0, .inl ⟨_, rfl, yes0 kk, no0⟩⟩⟩
  refine ⟨szl, ?_⟩
  have o5 : okN 8 1 (.lst (List.replicate 5 (.str "refused"))) = true := by decide +kernel
  refine ⟨_, rfl, szl, by decide, by decide, szl, (show cmpD .NotEq (.lst (List.replicate 5 (.str "refused"))) (.lst (List.replicate 5 (.str "refused"))) _ from ne_self (by decide) o5 ⟨false, rfl, iteF rfl ?_⟩)⟩
  refine ⟨_, rfl, _, rfl, szl, ps, e2, g1, g2, g3, g4, _, rfl, _, _, rfl, rfl, rfl, rfl, ?_⟩
  rw [eqv_str, decide_eq_true rfl]
  exact ⟨false, rfl, iteF rfl (q _ _ _ _ _ _ _ _ _ _ _ _ _ _ _ _ _)⟩
def mLaw : DSp := fun ds Q _ => ∃ l : List Int, ds = [.scr l] ∧ l.length ≤ 63 ∧ Q (.bl true)
theorem pl_law (t : LawT T) (ds : List D) (Q : DK) (X : EK) (h : mLaw ds Q X) : wpF T n_law.length b_law ds Q X := by
  obtain ⟨l, rfl, hl, q⟩ := h
  refine ⟨_, rfl, call_ok t.str rfl rfl ⟨l, rfl, hl, fun ns n1 n2 => ⟨ns, rfl, n1, n2.1, n2.2, ?_⟩⟩⟩
  refine ⟨szl, ?_⟩
  refine ⟨_, rfl, by decide, by decide, _, rfl, .inr (rl_wk (by decide)), ?_⟩
  refine forL_t (fun k : Nat => D.int (0 + (k : Int))) (fun i ρ => ∃ x3 x4 x5 x6 x7 x8 x9 x10 x11 x12 x13 x14 x15 x16 x17 x18 x19 x20 : Option D, ρ = [some (.scr l), some .st, some (.lst (stdL.map .str)), x3, x4, x5, x6, x7, x8, x9, x10, x11, x12, x13, x14, x15, x16, x17, x18, x19, x20, none, none, none, none]) (List.range 4) 0 _ ⟨none, none, none, none, none, none, none, none, none, none, none, none, none, none, none, none, none, none, rfl⟩ (fun j r ρ N hr hi hn => ?_) fun ρ hi => ?_
  · obtain ⟨x3, x4, x5, x6, x7, x8, x9, x10, x11, x12, x13, x14, x15, x16, x17, x18, x19, x20, rfl⟩ := hi
    exact law_turn t fun x4 x5 x6 x7 x8 x9 x10 x11 x12 x13 x14 x15 x16 x17 x18 x19 x20 => hn _ ⟨_, x4, x5, x6, x7, x8, x9, x10, x11, x12, x13, x14, x15, x16, x17, x18, x19, x20, rfl⟩
  obtain ⟨x3, x4, x5, x6, x7, x8, x9, x10, x11, x12, x13, x14, x15, x16, x17, x18, x19, x20, rfl⟩ := hi
  exact q
end
end DL

/-! the head: what stands before the law's call -/
namespace DL
open PySem PySem.Spec PyProof.Rows L2
def top (i : Nat) : Stmt := PySem.Challenge.pw_sayagainst_k60_standards_and_least_grant.main.body.getD i (.Pass ⟨0, 0, 0, 0⟩)
abbrev s_is_claim : Stmt := top 10
abbrev s_rising : Stmt := top 11
abbrev s_check_reason : Stmt := top 20
abbrev s_check_record : Stmt := top 21
abbrev s_in_turn : Stmt := top 22
abbrev s_check_audience : Stmt := top 23
abbrev s_check_heard : Stmt := top 24
abbrev s_meets : Stmt := top 25
abbrev s_applies : Stmt := top 26
abbrev s_forces : Stmt := top 27
abbrev s_known_held : Stmt := top 28
abbrev s_check_statement : Stmt := top 29
abbrev s_weighed : Stmt := top 30
abbrev s_strictest : Stmt := top 31
abbrev s_least_grants : Stmt := top 32
abbrev s_needless_reasons : Stmt := top 33
abbrev s__law_same : Stmt := top 35
abbrev s__law_stream : Stmt := top 36
abbrev s__law_next : Stmt := top 37
abbrev s__law_error : Stmt := top 38
abbrev s__law_subsets : Stmt := top 39
abbrev s__law_meets : Stmt := top 40
abbrev s__law_record : Stmt := top 41
abbrev s__law_audience : Stmt := top 42
abbrev s__law_forces : Stmt := top 43
abbrev s__law_record_held : Stmt := top 44
abbrev s__law_told : Stmt := top 45
abbrev s_law : Stmt := top 46
def d_is_claim : He.DefD := ⟨("is_claim", none), "is_claim", "is_claim", defArgs s_is_claim, defBody s_is_claim, defScope s_is_claim, [], []⟩
def d_rising : He.DefD := ⟨("rising", none), "rising", "rising", defArgs s_rising, defBody s_rising, defScope s_rising, [], []⟩
def d_check_reason : He.DefD := ⟨("check_reason", none), "check_reason", "check_reason", defArgs s_check_reason, defBody s_check_reason, defScope s_check_reason, [], []⟩
def d_check_record : He.DefD := ⟨("check_record", none), "check_record", "check_record", defArgs s_check_record, defBody s_check_record, defScope s_check_record, [], []⟩
def d_in_turn : He.DefD := ⟨("in_turn", none), "in_turn", "in_turn", defArgs s_in_turn, defBody s_in_turn, defScope s_in_turn, [], []⟩
def d_check_audience : He.DefD := ⟨("check_audience", none), "check_audience", "check_audience", defArgs s_check_audience, defBody s_check_audience, defScope s_check_audience, [], []⟩
def d_check_heard : He.DefD := ⟨("check_heard", none), "check_heard", "check_heard", defArgs s_check_heard, defBody s_check_heard, defScope s_check_heard, [], []⟩
def d_meets : He.DefD := ⟨("meets", none), "meets", "meets", defArgs s_meets, defBody s_meets, defScope s_meets, [], []⟩
def d_applies : He.DefD := ⟨("applies", none), "applies", "applies", defArgs s_applies, defBody s_applies, defScope s_applies, [], []⟩
def d_forces : He.DefD := ⟨("forces", none), "forces", "forces", defArgs s_forces, defBody s_forces, defScope s_forces, [], []⟩
def d_known_held : He.DefD := ⟨("known_held", none), "known_held", "known_held", defArgs s_known_held, defBody s_known_held, defScope s_known_held, [], []⟩
def d_check_statement : He.DefD := ⟨("check_statement", none), "check_statement", "check_statement", defArgs s_check_statement, defBody s_check_statement, defScope s_check_statement, [], []⟩
def d_weighed : He.DefD := ⟨("weighed", none), "weighed", "weighed", defArgs s_weighed, defBody s_weighed, defScope s_weighed, [], []⟩
def d_strictest : He.DefD := ⟨("strictest", none), "strictest", "strictest", defArgs s_strictest, defBody s_strictest, defScope s_strictest, [], []⟩
def d_least_grants : He.DefD := ⟨("least_grants", none), "least_grants", "least_grants", defArgs s_least_grants, defBody s_least_grants, defScope s_least_grants, [], []⟩
def d_needless_reasons : He.DefD := ⟨("needless_reasons", none), "needless_reasons", "needless_reasons", defArgs s_needless_reasons, defBody s_needless_reasons, defScope s_needless_reasons, [], []⟩
def d__law_same : He.DefD := ⟨("_law_same", none), "_law_same", "_law_same", defArgs s__law_same, defBody s__law_same, defScope s__law_same, [], []⟩
def d__law_stream : He.DefD := ⟨("_law_stream", none), "_law_stream", "_law_stream", defArgs s__law_stream, defBody s__law_stream, defScope s__law_stream, [], []⟩
def d__law_next : He.DefD := ⟨("_law_next", none), "_law_next", "_law_next", defArgs s__law_next, defBody s__law_next, defScope s__law_next, [], []⟩
def d__law_error : He.DefD := ⟨("_law_error", none), "_law_error", "_law_error", defArgs s__law_error, defBody s__law_error, defScope s__law_error, [], []⟩
def d__law_subsets : He.DefD := ⟨("_law_subsets", none), "_law_subsets", "_law_subsets", defArgs s__law_subsets, defBody s__law_subsets, defScope s__law_subsets, [], []⟩
def d__law_meets : He.DefD := ⟨("_law_meets", none), "_law_meets", "_law_meets", defArgs s__law_meets, defBody s__law_meets, defScope s__law_meets, [], []⟩
def d__law_record : He.DefD := ⟨("_law_record", none), "_law_record", "_law_record", defArgs s__law_record, defBody s__law_record, defScope s__law_record, [], []⟩
def d__law_audience : He.DefD := ⟨("_law_audience", none), "_law_audience", "_law_audience", defArgs s__law_audience, defBody s__law_audience, defScope s__law_audience, [], []⟩
def d__law_forces : He.DefD := ⟨("_law_forces", none), "_law_forces", "_law_forces", defArgs s__law_forces, defBody s__law_forces, defScope s__law_forces, [], []⟩
def d__law_record_held : He.DefD := ⟨("_law_record_held", none), "_law_record_held", "_law_record_held", defArgs s__law_record_held, defBody s__law_record_held, defScope s__law_record_held, [], []⟩
def d__law_told : He.DefD := ⟨("_law_told", none), "_law_told", "_law_told", defArgs s__law_told, defBody s__law_told, defScope s__law_told, [], []⟩
def d_law : He.DefD := ⟨("law", none), "law", "law", defArgs s_law, defBody s_law, defScope s_law, [], []⟩
def fnH : List He.DefD := [d_is_claim, d_rising, d_check_reason, d_check_record, d_in_turn, d_check_audience, d_check_heard, d_meets, d_applies, d_forces, d_known_held, d_check_statement, d_weighed, d_strictest, d_least_grants, d_needless_reasons, d__law_same, d__law_stream, d__law_next, d__law_error, d__law_subsets, d__law_meets, d__law_record, d__law_audience, d__law_forces, d__law_record_held, d__law_told, d_law]
def faH : List He.Fa := [.glo "is_claim", .glo "rising", .glo "check_reason", .glo "check_record", .glo "in_turn", .glo "check_audience", .glo "check_heard", .glo "meets", .glo "applies", .glo "forces", .glo "known_held", .glo "check_statement", .glo "weighed", .glo "strictest", .glo "least_grants", .glo "needless_reasons", .glo "_law_same", .glo "_law_stream", .glo "_law_next", .glo "_law_error", .glo "_law_subsets", .glo "_law_meets", .glo "_law_record", .glo "_law_audience", .glo "_law_forces", .glo "_law_record_held", .glo "_law_told", .glo "law", .glo "SayError", .glo "NotAllowed", .glo "TooLarge", .glo "Missing", .glo "BadPaper", .glo "BadForm", .exc "NotAllowed", .exc "TooLarge", .exc "Missing", .exc "BadPaper", .free "len", .free "all", .free "any", .free "sum", .free "max", .free "min", .free "abs", .free "int", .free "str", .free "repr", .free "sorted", .free "list", .free "tuple", .free "set", .free "range", .free "enumerate", .free "zip", .free "dict", .free "isinstance", .int "MAX_STATEMENTS" (10), .int "MAX_REASONS" (20), .int "MAX_FORCE" (99), .int "ENOUGH" (50), .int "MARGIN" (20), .int "DOUBT" (20), .str "FIRST" "abcdefghijklmnopqrstuvwxyz", .str "SIGNS" "abcdefghijklmnopqrstuvwxyz0123456789", .glo "STANDARDS"]
def exH (K : PySem.W.Frag) : Bool := errsB K && He.tupB K "STANDARDS" [.str "hint", .str "more", .str "clear", .str "certain"]
abbrev RH : PySem.W.OpenRow := PySem.W.OpenLaw.row PySem.Challenge.rw_sayagainst_k60_standards_and_least_grant
abbrev hkH : PySem.W.Hook := hookM 4 faH fnH exH
def looseH : List PySem.Str := (["SayError", "NotAllowed", "TooLarge", "Missing", "BadPaper", "BadForm", "FIRST", "SIGNS", "is_claim", "rising", "MAX_STATEMENTS", "MAX_REASONS", "MAX_FORCE", "ENOUGH", "MARGIN", "DOUBT", "STANDARDS", "check_reason", "check_record", "in_turn", "check_audience", "check_heard", "meets", "applies", "forces", "known_held", "check_statement", "weighed", "strictest", "least_grants"] : List PySem.Str) ++ (["needless_reasons", "_law_same", "_law_stream", "_law_next", "_law_error", "_law_subsets", "_law_meets", "_law_record", "_law_audience", "_law_forces", "_law_record_held", "_law_told"] : List PySem.Str)
def obH (s : PySem.W.SharedT) : AlM := obsMG 4 faH fnH exH (HandSHeadRun.getT s)
theorem obH_eq (s : PySem.W.SharedT) : obH s = hkH.obs s.abs := obsM_eq (HandSHeadRun.getT_eq s)
theorem runH (w : World) : HandSHeadRun.RunEq RH (PySem.W.view RH.prog [46]) hkH obH 6000 looseH w := by
  intro os
  kernel_rfl
section
variable {K : PySem.W.Frag} {h : Heap} {mg : Str → Option Value} (X : K.In h) (G : h.Ns mainGlobals mg) (c : He.SaysD faH fnH K)
include X G c
theorem g_is_claim : mg "is_claim" = some (.ref (He.ga K "is_claim")) := He.glo_ok X G (c.fact 0 (f := .glo "is_claim") rfl)
theorem g_rising : mg "rising" = some (.ref (He.ga K "rising")) := He.glo_ok X G (c.fact 1 (f := .glo "rising") rfl)
theorem g_check_reason : mg "check_reason" = some (.ref (He.ga K "check_reason")) := He.glo_ok X G (c.fact 2 (f := .glo "check_reason") rfl)
theorem g_check_record : mg "check_record" = some (.ref (He.ga K "check_record")) := He.glo_ok X G (c.fact 3 (f := .glo "check_record") rfl)
theorem g_in_turn : mg "in_turn" = some (.ref (He.ga K "in_turn")) := He.glo_ok X G (c.fact 4 (f := .glo "in_turn") rfl)
theorem g_check_audience : mg "check_audience" = some (.ref (He.ga K "check_audience")) := He.glo_ok X G (c.fact 5 (f := .glo "check_audience") rfl)
theorem g_check_heard : mg "check_heard" = some (.ref (He.ga K "check_heard")) := He.glo_ok X G (c.fact 6 (f := .glo "check_heard") rfl)
theorem g_meets : mg "meets" = some (.ref (He.ga K "meets")) := He.glo_ok X G (c.fact 7 (f := .glo "meets") rfl)
theorem g_applies : mg "applies" = some (.ref (He.ga K "applies")) := He.glo_ok X G (c.fact 8 (f := .glo "applies") rfl)
theorem g_forces : mg "forces" = some (.ref (He.ga K "forces")) := He.glo_ok X G (c.fact 9 (f := .glo "forces") rfl)
theorem g_known_held : mg "known_held" = some (.ref (He.ga K "known_held")) := He.glo_ok X G (c.fact 10 (f := .glo "known_held") rfl)
theorem g_check_statement : mg "check_statement" = some (.ref (He.ga K "check_statement")) := He.glo_ok X G (c.fact 11 (f := .glo "check_statement") rfl)
theorem g_weighed : mg "weighed" = some (.ref (He.ga K "weighed")) := He.glo_ok X G (c.fact 12 (f := .glo "weighed") rfl)
theorem g_strictest : mg "strictest" = some (.ref (He.ga K "strictest")) := He.glo_ok X G (c.fact 13 (f := .glo "strictest") rfl)
theorem g_least_grants : mg "least_grants" = some (.ref (He.ga K "least_grants")) := He.glo_ok X G (c.fact 14 (f := .glo "least_grants") rfl)
theorem g_needless_reasons : mg "needless_reasons" = some (.ref (He.ga K "needless_reasons")) := He.glo_ok X G (c.fact 15 (f := .glo "needless_reasons") rfl)
theorem g__law_same : mg "_law_same" = some (.ref (He.ga K "_law_same")) := He.glo_ok X G (c.fact 16 (f := .glo "_law_same") rfl)
theorem g__law_stream : mg "_law_stream" = some (.ref (He.ga K "_law_stream")) := He.glo_ok X G (c.fact 17 (f := .glo "_law_stream") rfl)
theorem g__law_next : mg "_law_next" = some (.ref (He.ga K "_law_next")) := He.glo_ok X G (c.fact 18 (f := .glo "_law_next") rfl)
theorem g__law_error : mg "_law_error" = some (.ref (He.ga K "_law_error")) := He.glo_ok X G (c.fact 19 (f := .glo "_law_error") rfl)
theorem g__law_subsets : mg "_law_subsets" = some (.ref (He.ga K "_law_subsets")) := He.glo_ok X G (c.fact 20 (f := .glo "_law_subsets") rfl)
theorem g__law_meets : mg "_law_meets" = some (.ref (He.ga K "_law_meets")) := He.glo_ok X G (c.fact 21 (f := .glo "_law_meets") rfl)
theorem g__law_record : mg "_law_record" = some (.ref (He.ga K "_law_record")) := He.glo_ok X G (c.fact 22 (f := .glo "_law_record") rfl)
theorem g__law_audience : mg "_law_audience" = some (.ref (He.ga K "_law_audience")) := He.glo_ok X G (c.fact 23 (f := .glo "_law_audience") rfl)
theorem g__law_forces : mg "_law_forces" = some (.ref (He.ga K "_law_forces")) := He.glo_ok X G (c.fact 24 (f := .glo "_law_forces") rfl)
theorem g__law_record_held : mg "_law_record_held" = some (.ref (He.ga K "_law_record_held")) := He.glo_ok X G (c.fact 25 (f := .glo "_law_record_held") rfl)
theorem g__law_told : mg "_law_told" = some (.ref (He.ga K "_law_told")) := He.glo_ok X G (c.fact 26 (f := .glo "_law_told") rfl)
theorem g_law : mg "law" = some (.ref (He.ga K "law")) := He.glo_ok X G (c.fact 27 (f := .glo "law") rfl)
theorem g_SayError : mg "SayError" = some (.ref (He.ga K "SayError")) := He.glo_ok X G (c.fact 28 (f := .glo "SayError") rfl)
theorem g_NotAllowed : mg "NotAllowed" = some (.ref (He.ga K "NotAllowed")) := He.glo_ok X G (c.fact 29 (f := .glo "NotAllowed") rfl)
theorem g_TooLarge : mg "TooLarge" = some (.ref (He.ga K "TooLarge")) := He.glo_ok X G (c.fact 30 (f := .glo "TooLarge") rfl)
theorem g_Missing : mg "Missing" = some (.ref (He.ga K "Missing")) := He.glo_ok X G (c.fact 31 (f := .glo "Missing") rfl)
theorem g_BadPaper : mg "BadPaper" = some (.ref (He.ga K "BadPaper")) := He.glo_ok X G (c.fact 32 (f := .glo "BadPaper") rfl)
theorem g_BadForm : mg "BadForm" = some (.ref (He.ga K "BadForm")) := He.glo_ok X G (c.fact 33 (f := .glo "BadForm") rfl)
theorem g_STANDARDS : mg "STANDARDS" = some (.ref (He.ga K "STANDARDS")) := He.glo_ok X G (c.fact 65 (f := .glo "STANDARDS") rfl)
theorem x_NotAllowed : ExcD K mg "NotAllowed" := excD_of X G (c.fact 29 (f := .glo "NotAllowed") rfl) (c.fact 34 (f := .exc "NotAllowed") rfl)
theorem x_TooLarge : ExcD K mg "TooLarge" := excD_of X G (c.fact 30 (f := .glo "TooLarge") rfl) (c.fact 35 (f := .exc "TooLarge") rfl)
theorem x_Missing : ExcD K mg "Missing" := excD_of X G (c.fact 31 (f := .glo "Missing") rfl) (c.fact 36 (f := .exc "Missing") rfl)
theorem x_BadPaper : ExcD K mg "BadPaper" := excD_of X G (c.fact 32 (f := .glo "BadPaper") rfl) (c.fact 37 (f := .exc "BadPaper") rfl)
theorem f_len : mg "len" = none := He.free_ok X G (c.fact 38 (f := .free "len") rfl)
theorem f_all : mg "all" = none := He.free_ok X G (c.fact 39 (f := .free "all") rfl)
theorem f_any : mg "any" = none := He.free_ok X G (c.fact 40 (f := .free "any") rfl)
theorem f_sum : mg "sum" = none := He.free_ok X G (c.fact 41 (f := .free "sum") rfl)
theorem f_max : mg "max" = none := He.free_ok X G (c.fact 42 (f := .free "max") rfl)
theorem f_min : mg "min" = none := He.free_ok X G (c.fact 43 (f := .free "min") rfl)
theorem f_abs : mg "abs" = none := He.free_ok X G (c.fact 44 (f := .free "abs") rfl)
theorem f_int : mg "int" = none := He.free_ok X G (c.fact 45 (f := .free "int") rfl)
theorem f_str : mg "str" = none := He.free_ok X G (c.fact 46 (f := .free "str") rfl)
theorem f_repr : mg "repr" = none := He.free_ok X G (c.fact 47 (f := .free "repr") rfl)
theorem f_sorted : mg "sorted" = none := He.free_ok X G (c.fact 48 (f := .free "sorted") rfl)
theorem f_list : mg "list" = none := He.free_ok X G (c.fact 49 (f := .free "list") rfl)
theorem f_tuple : mg "tuple" = none := He.free_ok X G (c.fact 50 (f := .free "tuple") rfl)
theorem f_set : mg "set" = none := He.free_ok X G (c.fact 51 (f := .free "set") rfl)
theorem f_range : mg "range" = none := He.free_ok X G (c.fact 52 (f := .free "range") rfl)
theorem f_enumerate : mg "enumerate" = none := He.free_ok X G (c.fact 53 (f := .free "enumerate") rfl)
theorem f_zip : mg "zip" = none := He.free_ok X G (c.fact 54 (f := .free "zip") rfl)
theorem f_dict : mg "dict" = none := He.free_ok X G (c.fact 55 (f := .free "dict") rfl)
theorem f_isinstance : mg "isinstance" = none := He.free_ok X G (c.fact 56 (f := .free "isinstance") rfl)
theorem g_MAX_STATEMENTS : ∃ t, mg "MAX_STATEMENTS" = some (.int (10) t) := He.int_ok X G (c.fact 57 (f := .int "MAX_STATEMENTS" (10)) rfl)
theorem g_MAX_REASONS : ∃ t, mg "MAX_REASONS" = some (.int (20) t) := He.int_ok X G (c.fact 58 (f := .int "MAX_REASONS" (20)) rfl)
theorem g_MAX_FORCE : ∃ t, mg "MAX_FORCE" = some (.int (99) t) := He.int_ok X G (c.fact 59 (f := .int "MAX_FORCE" (99)) rfl)
theorem g_ENOUGH : ∃ t, mg "ENOUGH" = some (.int (50) t) := He.int_ok X G (c.fact 60 (f := .int "ENOUGH" (50)) rfl)
theorem g_MARGIN : ∃ t, mg "MARGIN" = some (.int (20) t) := He.int_ok X G (c.fact 61 (f := .int "MARGIN" (20)) rfl)
theorem g_DOUBT : ∃ t, mg "DOUBT" = some (.int (20) t) := He.int_ok X G (c.fact 62 (f := .int "DOUBT" (20)) rfl)
theorem g_FIRST : ∃ t, mg "FIRST" = some (.str "abcdefghijklmnopqrstuvwxyz" t) := He.str_ok X G (c.fact 63 (f := .str "FIRST" "abcdefghijklmnopqrstuvwxyz") rfl)
theorem g_SIGNS : ∃ t, mg "SIGNS" = some (.str "abcdefghijklmnopqrstuvwxyz0123456789" t) := He.str_ok X G (c.fact 64 (f := .str "SIGNS" "abcdefghijklmnopqrstuvwxyz0123456789") rfl)
omit X G
theorem F_is_claim : ∃ fd, FunD K "is_claim" "is_claim" (defArgs s_is_claim) (defBody s_is_claim) (defScope s_is_claim) [] [] (He.ga K "is_claim") fd := c.def_ 0 (d := d_is_claim) rfl
theorem F_rising : ∃ fd, FunD K "rising" "rising" (defArgs s_rising) (defBody s_rising) (defScope s_rising) [] [] (He.ga K "rising") fd := c.def_ 1 (d := d_rising) rfl
theorem F_check_reason : ∃ fd, FunD K "check_reason" "check_reason" (defArgs s_check_reason) (defBody s_check_reason) (defScope s_check_reason) [] [] (He.ga K "check_reason") fd := c.def_ 2 (d := d_check_reason) rfl
theorem F_check_record : ∃ fd, FunD K "check_record" "check_record" (defArgs s_check_record) (defBody s_check_record) (defScope s_check_record) [] [] (He.ga K "check_record") fd := c.def_ 3 (d := d_check_record) rfl
theorem F_in_turn : ∃ fd, FunD K "in_turn" "in_turn" (defArgs s_in_turn) (defBody s_in_turn) (defScope s_in_turn) [] [] (He.ga K "in_turn") fd := c.def_ 4 (d := d_in_turn) rfl
theorem F_check_audience : ∃ fd, FunD K "check_audience" "check_audience" (defArgs s_check_audience) (defBody s_check_audience) (defScope s_check_audience) [] [] (He.ga K "check_audience") fd := c.def_ 5 (d := d_check_audience) rfl
theorem F_check_heard : ∃ fd, FunD K "check_heard" "check_heard" (defArgs s_check_heard) (defBody s_check_heard) (defScope s_check_heard) [] [] (He.ga K "check_heard") fd := c.def_ 6 (d := d_check_heard) rfl
theorem F_meets : ∃ fd, FunD K "meets" "meets" (defArgs s_meets) (defBody s_meets) (defScope s_meets) [] [] (He.ga K "meets") fd := c.def_ 7 (d := d_meets) rfl
theorem F_applies : ∃ fd, FunD K "applies" "applies" (defArgs s_applies) (defBody s_applies) (defScope s_applies) [] [] (He.ga K "applies") fd := c.def_ 8 (d := d_applies) rfl
theorem F_forces : ∃ fd, FunD K "forces" "forces" (defArgs s_forces) (defBody s_forces) (defScope s_forces) [] [] (He.ga K "forces") fd := c.def_ 9 (d := d_forces) rfl
theorem F_known_held : ∃ fd, FunD K "known_held" "known_held" (defArgs s_known_held) (defBody s_known_held) (defScope s_known_held) [] [] (He.ga K "known_held") fd := c.def_ 10 (d := d_known_held) rfl
theorem F_check_statement : ∃ fd, FunD K "check_statement" "check_statement" (defArgs s_check_statement) (defBody s_check_statement) (defScope s_check_statement) [] [] (He.ga K "check_statement") fd := c.def_ 11 (d := d_check_statement) rfl
theorem F_weighed : ∃ fd, FunD K "weighed" "weighed" (defArgs s_weighed) (defBody s_weighed) (defScope s_weighed) [] [] (He.ga K "weighed") fd := c.def_ 12 (d := d_weighed) rfl
theorem F_strictest : ∃ fd, FunD K "strictest" "strictest" (defArgs s_strictest) (defBody s_strictest) (defScope s_strictest) [] [] (He.ga K "strictest") fd := c.def_ 13 (d := d_strictest) rfl
theorem F_least_grants : ∃ fd, FunD K "least_grants" "least_grants" (defArgs s_least_grants) (defBody s_least_grants) (defScope s_least_grants) [] [] (He.ga K "least_grants") fd := c.def_ 14 (d := d_least_grants) rfl
theorem F_needless_reasons : ∃ fd, FunD K "needless_reasons" "needless_reasons" (defArgs s_needless_reasons) (defBody s_needless_reasons) (defScope s_needless_reasons) [] [] (He.ga K "needless_reasons") fd := c.def_ 15 (d := d_needless_reasons) rfl
theorem F__law_same : ∃ fd, FunD K "_law_same" "_law_same" (defArgs s__law_same) (defBody s__law_same) (defScope s__law_same) [] [] (He.ga K "_law_same") fd := c.def_ 16 (d := d__law_same) rfl
theorem F__law_stream : ∃ fd, FunD K "_law_stream" "_law_stream" (defArgs s__law_stream) (defBody s__law_stream) (defScope s__law_stream) [] [] (He.ga K "_law_stream") fd := c.def_ 17 (d := d__law_stream) rfl
theorem F__law_next : ∃ fd, FunD K "_law_next" "_law_next" (defArgs s__law_next) (defBody s__law_next) (defScope s__law_next) [] [] (He.ga K "_law_next") fd := c.def_ 18 (d := d__law_next) rfl
theorem F__law_error : ∃ fd, FunD K "_law_error" "_law_error" (defArgs s__law_error) (defBody s__law_error) (defScope s__law_error) [] [] (He.ga K "_law_error") fd := c.def_ 19 (d := d__law_error) rfl
theorem F__law_subsets : ∃ fd, FunD K "_law_subsets" "_law_subsets" (defArgs s__law_subsets) (defBody s__law_subsets) (defScope s__law_subsets) [] [] (He.ga K "_law_subsets") fd := c.def_ 20 (d := d__law_subsets) rfl
theorem F__law_meets : ∃ fd, FunD K "_law_meets" "_law_meets" (defArgs s__law_meets) (defBody s__law_meets) (defScope s__law_meets) [] [] (He.ga K "_law_meets") fd := c.def_ 21 (d := d__law_meets) rfl
theorem F__law_record : ∃ fd, FunD K "_law_record" "_law_record" (defArgs s__law_record) (defBody s__law_record) (defScope s__law_record) [] [] (He.ga K "_law_record") fd := c.def_ 22 (d := d__law_record) rfl
theorem F__law_audience : ∃ fd, FunD K "_law_audience" "_law_audience" (defArgs s__law_audience) (defBody s__law_audience) (defScope s__law_audience) [] [] (He.ga K "_law_audience") fd := c.def_ 23 (d := d__law_audience) rfl
theorem F__law_forces : ∃ fd, FunD K "_law_forces" "_law_forces" (defArgs s__law_forces) (defBody s__law_forces) (defScope s__law_forces) [] [] (He.ga K "_law_forces") fd := c.def_ 24 (d := d__law_forces) rfl
theorem F__law_record_held : ∃ fd, FunD K "_law_record_held" "_law_record_held" (defArgs s__law_record_held) (defBody s__law_record_held) (defScope s__law_record_held) [] [] (He.ga K "_law_record_held") fd := c.def_ 25 (d := d__law_record_held) rfl
theorem F__law_told : ∃ fd, FunD K "_law_told" "_law_told" (defArgs s__law_told) (defBody s__law_told) (defScope s__law_told) [] [] (He.ga K "_law_told") fd := c.def_ 26 (d := d__law_told) rfl
theorem F_law : ∃ fd, FunD K "law" "law" (defArgs s_law) (defBody s_law) (defScope s_law) [] [] (He.ga K "law") fd := c.def_ 27 (d := d_law) rfl
end
/-- the globals that are values -/
def globC (x : Str) : Option D := if x = "MAX_STATEMENTS" then some (.int (10)) else if x = "MAX_REASONS" then some (.int (20)) else if x = "MAX_FORCE" then some (.int (99)) else if x = "ENOUGH" then some (.int (50)) else if x = "MARGIN" then some (.int (20)) else if x = "DOUBT" then some (.int (20)) else if x = "FIRST" then some (.str "abcdefghijklmnopqrstuvwxyz") else if x = "SIGNS" then some (.str "abcdefghijklmnopqrstuvwxyz0123456789") else if x = "STANDARDS" then some (.kt [.str "hint", .str "more", .str "clear", .str "certain"]) else none
def excH (x : Str) : Bool := decide (x = "NotAllowed") || decide (x = "TooLarge") || decide (x = "Missing") || decide (x = "BadPaper")
end DL

/-! S0: the tables, the texts checked, the parts joined -/
namespace DL
open PySem PySem.Spec PyProof.Rows L2
def globH (x : Str) : Option D := if x = "strictest" then some (.fn "strictest") else if x = "least_grants" then some (.fn "least_grants") else globC x
def T0 : Tb := { fn := fun _ => none, meth := fun _ _ => none, new := fun _ => none, glob := globH, exc := excH, err := true }
theorem Glb.add {T : Tb} (g : Glb T) {f : Str} {e : Ent} : Glb (T.add f e) := ⟨g.first, g.signs, g.mst, g.mre, g.mfo, g.eno, g.mar, g.dou, g.std⟩
theorem G0 : Glb T0 := ⟨by kernel_rfl, by kernel_rfl, by kernel_rfl, by kernel_rfl, by kernel_rfl, by kernel_rfl, by kernel_rfl, by kernel_rfl, by kernel_rfl⟩
def T1 : Tb := T0.add "is_claim" ⟨2, 1, dcSs T0 b_is_claim, mClaim⟩
theorem G1 : Glb T1 := G0.add
theorem sc_is_claim : scB n_is_claim ["text"] (defScope s_is_claim) = true := by kernel_rfl
theorem ck_is_claim : mSs T0 n_is_claim o_is_claim (defScope s_is_claim) b_is_claim (defBody s_is_claim) = true := by kernel_rfl
theorem p_is_claim (ds : List D) (Q : DK) (X : EK) (h : mClaim ds Q X) : wpF T0 n_is_claim.length b_is_claim ds Q X := pl_claim G0.first G0.signs ds Q X h
def T2 : Tb := T1.add "rising" ⟨3, 1, dcSs T1 b_rising, mRising⟩
theorem G2 : Glb T2 := G1.add
theorem sc_rising : scB n_rising ["row"] (defScope s_rising) = true := by kernel_rfl
theorem ck_rising : mSs T1 n_rising o_rising (defScope s_rising) b_rising (defBody s_rising) = true := by kernel_rfl
theorem p_rising (ds : List D) (Q : DK) (X : EK) (h : mRising ds Q X) : wpF T1 n_rising.length b_rising ds Q X := pl_rising ds Q X h
def T3 : Tb := T2.add "check_reason" ⟨4, 2, dcSs T2 b_check_reason, mReason⟩
theorem G3 : Glb T3 := G2.add
theorem sc_check_reason : scB n_check_reason ["statements", "reason"] (defScope s_check_reason) = true := by kernel_rfl
theorem ck_check_reason : mSs T2 n_check_reason o_check_reason (defScope s_check_reason) b_check_reason (defBody s_check_reason) = true := by kernel_rfl
theorem h_check_reason_is_claim : Has T2 "is_claim" 1 mClaim := ⟨2, dcSs T0 b_is_claim, by kernel_rfl⟩
theorem h_check_reason_rising : Has T2 "rising" 1 mRising := ⟨3, dcSs T1 b_rising, by kernel_rfl⟩
theorem p_check_reason (ds : List D) (Q : DK) (X : EK) (h : mReason ds Q X) : wpF T2 n_check_reason.length b_check_reason ds Q X := pl_reason G2 h_check_reason_is_claim h_check_reason_rising ds Q X h
def T4 : Tb := T3.add "in_turn" ⟨5, 1, 0, mTurnL⟩
theorem G4 : Glb T4 := G3.add
theorem sc_in_turn : scB Nt ["record"] (defScope s_in_turn) = true := by kernel_rfl
theorem tb_in_turn : turnB T3 (defScope s_in_turn) (defBody s_in_turn) = some ((defBody s_in_turn).drop 2) := by kernel_rfl
theorem ck_in_turn : mSs T3 Nt [2] (defScope s_in_turn) b_in_turn ((defBody s_in_turn).drop 2) = true := by kernel_rfl
def T5 : Tb := T4.add "check_record" ⟨6, 1, dcSs T4 b_check_record, mRecord⟩
theorem G5 : Glb T5 := G4.add
theorem sc_check_record : scB n_check_record ["record"] (defScope s_check_record) = true := by kernel_rfl
theorem ck_check_record : mSs T4 n_check_record o_check_record (defScope s_check_record) b_check_record (defBody s_check_record) = true := by kernel_rfl
theorem h_check_record_is_claim : Has T4 "is_claim" 1 mClaim := ⟨2, dcSs T0 b_is_claim, by kernel_rfl⟩
theorem h_check_record_rising : Has T4 "rising" 1 mRising := ⟨3, dcSs T1 b_rising, by kernel_rfl⟩
theorem h_check_record_check_reason : Has T4 "check_reason" 2 mReason := ⟨4, dcSs T2 b_check_reason, by kernel_rfl⟩
theorem h_check_record_in_turn : Has T4 "in_turn" 1 mTurnL := ⟨5, 0, by kernel_rfl⟩
theorem p_check_record (ds : List D) (Q : DK) (X : EK) (h : mRecord ds Q X) : wpF T4 n_check_record.length b_check_record ds Q X := pl_record G4 h_check_record_is_claim h_check_record_rising h_check_record_check_reason h_check_record_in_turn ds Q X h
def T6 : Tb := T5.add "check_audience" ⟨7, 2, dcSs T5 b_check_audience, mAudience⟩
theorem G6 : Glb T6 := G5.add
theorem sc_check_audience : scB n_check_audience ["record", "audience"] (defScope s_check_audience) = true := by kernel_rfl
theorem ck_check_audience : mSs T5 n_check_audience o_check_audience (defScope s_check_audience) b_check_audience (defBody s_check_audience) = true := by kernel_rfl
theorem h_check_audience_rising : Has T5 "rising" 1 mRising := ⟨3, dcSs T1 b_rising, by kernel_rfl⟩
theorem p_check_audience (ds : List D) (Q : DK) (X : EK) (h : mAudience ds Q X) : wpF T5 n_check_audience.length b_check_audience ds Q X := pl_audience h_check_audience_rising ds Q X h
def T7 : Tb := T6.add "check_heard" ⟨8, 2, dcSs T6 b_check_heard, mHeard⟩
theorem G7 : Glb T7 := G6.add
theorem sc_check_heard : scB n_check_heard ["record", "audience"] (defScope s_check_heard) = true := by kernel_rfl
theorem ck_check_heard : mSs T6 n_check_heard o_check_heard (defScope s_check_heard) b_check_heard (defBody s_check_heard) = true := by kernel_rfl
theorem h_check_heard_check_record : Has T6 "check_record" 1 mRecord := ⟨6, dcSs T4 b_check_record, by kernel_rfl⟩
theorem h_check_heard_check_audience : Has T6 "check_audience" 2 mAudience := ⟨7, dcSs T5 b_check_audience, by kernel_rfl⟩
theorem p_check_heard (ds : List D) (Q : DK) (X : EK) (h : mHeard ds Q X) : wpF T6 n_check_heard.length b_check_heard ds Q X := pl_heard h_check_heard_check_record h_check_heard_check_audience ds Q X h
def T8 : Tb := T7.add "meets" ⟨9, 2, dcSs T7 b_meets, mMeets⟩
theorem G8 : Glb T8 := G7.add
theorem sc_meets : scB n_meets ["standard", "best"] (defScope s_meets) = true := by kernel_rfl
theorem ck_meets : mSs T7 n_meets o_meets (defScope s_meets) b_meets (defBody s_meets) = true := by kernel_rfl
theorem p_meets (ds : List D) (Q : DK) (X : EK) (h : mMeets ds Q X) : wpF T7 n_meets.length b_meets ds Q X := pl_meets G7 ds Q X h
def T9 : Tb := T8.add "applies" ⟨10, 2, dcSs T8 b_applies, mApplies⟩
theorem G9 : Glb T9 := G8.add
theorem sc_applies : scB n_applies ["reason", "held"] (defScope s_applies) = true := by kernel_rfl
theorem ck_applies : mSs T8 n_applies o_applies (defScope s_applies) b_applies (defBody s_applies) = true := by kernel_rfl
theorem p_applies (ds : List D) (Q : DK) (X : EK) (h : mApplies ds Q X) : wpF T8 n_applies.length b_applies ds Q X := pl_applies ds Q X h
def T10 : Tb := T9.add "forces" ⟨11, 3, dcSs T9 b_forces, mForces⟩
theorem G10 : Glb T10 := G9.add
theorem sc_forces : scB n_forces ["record", "held", "statement"] (defScope s_forces) = true := by kernel_rfl
theorem ck_forces : mSs T9 n_forces o_forces (defScope s_forces) b_forces (defBody s_forces) = true := by kernel_rfl
theorem h_forces_applies : Has T9 "applies" 2 mApplies := ⟨10, dcSs T8 b_applies, by kernel_rfl⟩
theorem p_forces (ds : List D) (Q : DK) (X : EK) (h : mForces ds Q X) : wpF T9 n_forces.length b_forces ds Q X := pl_forces h_forces_applies ds Q X h
def T11 : Tb := T10.add "known_held" ⟨12, 2, dcSs T10 b_known_held, mHeld⟩
theorem G11 : Glb T11 := G10.add
theorem sc_known_held : scB n_known_held ["record", "audience"] (defScope s_known_held) = true := by kernel_rfl
theorem ck_known_held : mSs T10 n_known_held o_known_held (defScope s_known_held) b_known_held (defBody s_known_held) = true := by kernel_rfl
theorem h_known_held_in_turn : Has T10 "in_turn" 1 mTurnL := ⟨5, 0, by kernel_rfl⟩
theorem h_known_held_meets : Has T10 "meets" 2 mMeets := ⟨9, dcSs T7 b_meets, by kernel_rfl⟩
theorem h_known_held_forces : Has T10 "forces" 3 mForces := ⟨11, dcSs T9 b_forces, by kernel_rfl⟩
theorem p_known_held (ds : List D) (Q : DK) (X : EK) (h : mHeld ds Q X) : wpF T10 n_known_held.length b_known_held ds Q X := pl_held h_known_held_in_turn h_known_held_meets h_known_held_forces ds Q X h
def T12 : Tb := T11.add "check_statement" ⟨13, 2, dcSs T11 b_check_statement, mStatement⟩
theorem G12 : Glb T12 := G11.add
theorem sc_check_statement : scB n_check_statement ["record", "statement"] (defScope s_check_statement) = true := by kernel_rfl
theorem ck_check_statement : mSs T11 n_check_statement o_check_statement (defScope s_check_statement) b_check_statement (defBody s_check_statement) = true := by kernel_rfl
theorem p_check_statement (ds : List D) (Q : DK) (X : EK) (h : mStatement ds Q X) : wpF T11 n_check_statement.length b_check_statement ds Q X := pl_statement ds Q X h
def T13 : Tb := T12.add "weighed" ⟨14, 3, dcSs T12 b_weighed, mWeighed⟩
theorem G13 : Glb T13 := G12.add
theorem sc_weighed : scB n_weighed ["record", "audience", "statement"] (defScope s_weighed) = true := by kernel_rfl
theorem ck_weighed : mSs T12 n_weighed o_weighed (defScope s_weighed) b_weighed (defBody s_weighed) = true := by kernel_rfl
theorem h_weighed_check_heard : Has T12 "check_heard" 2 mHeard := ⟨8, dcSs T6 b_check_heard, by kernel_rfl⟩
theorem h_weighed_known_held : Has T12 "known_held" 2 mHeld := ⟨12, dcSs T10 b_known_held, by kernel_rfl⟩
theorem h_weighed_forces : Has T12 "forces" 3 mForces := ⟨11, dcSs T9 b_forces, by kernel_rfl⟩
theorem h_weighed_check_statement : Has T12 "check_statement" 2 mStatement := ⟨13, dcSs T11 b_check_statement, by kernel_rfl⟩
theorem p_weighed (ds : List D) (Q : DK) (X : EK) (h : mWeighed ds Q X) : wpF T12 n_weighed.length b_weighed ds Q X := pl_weighed h_weighed_check_heard h_weighed_known_held h_weighed_forces h_weighed_check_statement ds Q X h
def T14 : Tb := T13.add "strictest" ⟨15, 3, dcSs T13 b_strictest, mStrictest⟩
theorem G14 : Glb T14 := G13.add
theorem sc_strictest : scB n_strictest ["record", "audience", "statement"] (defScope s_strictest) = true := by kernel_rfl
theorem ck_strictest : mSs T13 n_strictest o_strictest (defScope s_strictest) b_strictest (defBody s_strictest) = true := by kernel_rfl
theorem h_strictest_weighed : Has T13 "weighed" 3 mWeighed := ⟨14, dcSs T12 b_weighed, by kernel_rfl⟩
theorem h_strictest_meets : Has T13 "meets" 2 mMeets := ⟨9, dcSs T7 b_meets, by kernel_rfl⟩
theorem p_strictest (ds : List D) (Q : DK) (X : EK) (h : mStrictest ds Q X) : wpF T13 n_strictest.length b_strictest ds Q X := pl_strictest G13 h_strictest_weighed h_strictest_meets ds Q X h
def T15 : Tb := T14.add "least_grants" ⟨16, 3, dcSs T14 b_least_grants, mLeast⟩
theorem G15 : Glb T15 := G14.add
theorem sc_least_grants : scB n_least_grants ["record", "audience", "statement"] (defScope s_least_grants) = true := by kernel_rfl
theorem ck_least_grants : mSs T14 n_least_grants o_least_grants (defScope s_least_grants) b_least_grants (defBody s_least_grants) = true := by kernel_rfl
theorem h_least_grants_check_heard : Has T14 "check_heard" 2 mHeard := ⟨8, dcSs T6 b_check_heard, by kernel_rfl⟩
theorem h_least_grants_known_held : Has T14 "known_held" 2 mHeld := ⟨12, dcSs T10 b_known_held, by kernel_rfl⟩
theorem h_least_grants_check_statement : Has T14 "check_statement" 2 mStatement := ⟨13, dcSs T11 b_check_statement, by kernel_rfl⟩
theorem p_least_grants (ds : List D) (Q : DK) (X : EK) (h : mLeast ds Q X) : wpF T14 n_least_grants.length b_least_grants ds Q X := pl_least h_least_grants_check_heard h_least_grants_known_held h_least_grants_check_statement ds Q X h
def T16 : Tb := T15.add "needless_reasons" ⟨17, 2, dcSs T15 b_needless_reasons, mNeedless⟩
theorem G16 : Glb T16 := G15.add
theorem sc_needless_reasons : scB n_needless_reasons ["record", "audience"] (defScope s_needless_reasons) = true := by kernel_rfl
theorem ck_needless_reasons : mSs T15 n_needless_reasons o_needless_reasons (defScope s_needless_reasons) b_needless_reasons (defBody s_needless_reasons) = true := by kernel_rfl
theorem h_needless_reasons_check_heard : Has T15 "check_heard" 2 mHeard := ⟨8, dcSs T6 b_check_heard, by kernel_rfl⟩
theorem h_needless_reasons_known_held : Has T15 "known_held" 2 mHeld := ⟨12, dcSs T10 b_known_held, by kernel_rfl⟩
theorem p_needless_reasons (ds : List D) (Q : DK) (X : EK) (h : mNeedless ds Q X) : wpF T15 n_needless_reasons.length b_needless_reasons ds Q X := pl_needless h_needless_reasons_check_heard h_needless_reasons_known_held ds Q X h
def T17 : Tb := T16.add "_law_same" ⟨18, 2, dcSs T16 b__law_same, mSame⟩
theorem G17 : Glb T17 := G16.add
theorem sc__law_same : scB n__law_same ["told", "due"] (defScope s__law_same) = true := by kernel_rfl
theorem ck__law_same : mSs T16 n__law_same o__law_same (defScope s__law_same) b__law_same (defBody s__law_same) = true := by kernel_rfl
theorem p__law_same (ds : List D) (Q : DK) (X : EK) (h : mSame ds Q X) : wpF T16 n__law_same.length b__law_same ds Q X := pl_same ds Q X h
def T18 : Tb := T17.add "_law_stream" ⟨19, 1, dcSs T17 b__law_stream, mStream⟩
theorem G18 : Glb T18 := G17.add
theorem sc__law_stream : scB n__law_stream ["script"] (defScope s__law_stream) = true := by kernel_rfl
theorem ck__law_stream : mSs T17 n__law_stream o__law_stream (defScope s__law_stream) b__law_stream (defBody s__law_stream) = true := by kernel_rfl
theorem p__law_stream (ds : List D) (Q : DK) (X : EK) (h : mStream ds Q X) : wpF T17 n__law_stream.length b__law_stream ds Q X := pl_stream ds Q X h
def T19 : Tb := T18.add "_law_next" ⟨1, 2, 1, mNext⟩
theorem G19 : Glb T19 := G18.add
def T20 : Tb := T19.add "_law_subsets" ⟨21, 1, dcSs T19 b__law_subsets, mSubsets⟩
theorem G20 : Glb T20 := G19.add
theorem sc__law_subsets : scB n__law_subsets ["claims"] (defScope s__law_subsets) = true := by kernel_rfl
theorem ck__law_subsets : mSs T19 n__law_subsets o__law_subsets (defScope s__law_subsets) b__law_subsets (defBody s__law_subsets) = true := by kernel_rfl
theorem p__law_subsets (ds : List D) (Q : DK) (X : EK) (h : mSubsets ds Q X) : wpF T19 n__law_subsets.length b__law_subsets ds Q X := pl_subsets ds Q X h
def T21 : Tb := T20.add "_law_meets" ⟨22, 3, dcSs T20 b__law_meets, mLMeets⟩
theorem G21 : Glb T21 := G20.add
theorem sc__law_meets : scB n__law_meets ["word", "pro", "con"] (defScope s__law_meets) = true := by kernel_rfl
theorem ck__law_meets : mSs T20 n__law_meets o__law_meets (defScope s__law_meets) b__law_meets (defBody s__law_meets) = true := by kernel_rfl
theorem p__law_meets (ds : List D) (Q : DK) (X : EK) (h : mLMeets ds Q X) : wpF T20 n__law_meets.length b__law_meets ds Q X := pl_lmeets ds Q X h
def T22 : Tb := T21.add "_law_forces" ⟨23, 3, dcSs T21 b__law_forces, mLForces⟩
theorem G22 : Glb T22 := G21.add
theorem sc__law_forces : scB n__law_forces ["record", "held", "statement"] (defScope s__law_forces) = true := by kernel_rfl
theorem ck__law_forces : mSs T21 n__law_forces o__law_forces (defScope s__law_forces) b__law_forces (defBody s__law_forces) = true := by kernel_rfl
theorem p__law_forces (ds : List D) (Q : DK) (X : EK) (h : mLForces ds Q X) : wpF T21 n__law_forces.length b__law_forces ds Q X := pl_lforces ds Q X h
def T23 : Tb := T22.add "_law_record_held" ⟨24, 2, dcSs T22 b__law_record_held, mLHeld⟩
theorem G23 : Glb T23 := G22.add
theorem sc__law_record_held : scB n__law_record_held ["record", "audience"] (defScope s__law_record_held) = true := by kernel_rfl
theorem ck__law_record_held : mSs T22 n__law_record_held o__law_record_held (defScope s__law_record_held) b__law_record_held (defBody s__law_record_held) = true := by kernel_rfl
theorem h__law_record_held__law_forces : Has T22 "_law_forces" 3 mLForces := ⟨23, dcSs T21 b__law_forces, by kernel_rfl⟩
theorem h__law_record_held__law_meets : Has T22 "_law_meets" 3 mLMeets := ⟨22, dcSs T20 b__law_meets, by kernel_rfl⟩
theorem p__law_record_held (ds : List D) (Q : DK) (X : EK) (h : mLHeld ds Q X) : wpF T22 n__law_record_held.length b__law_record_held ds Q X := pl_lheld h__law_record_held__law_forces h__law_record_held__law_meets ds Q X h
def T24 : Tb := T23.add "_law_record" ⟨25, 2, dcSs T23 b__law_record, mDrawRec⟩
theorem G24 : Glb T24 := G23.add
theorem sc__law_record : scB n__law_record ["state", "most"] (defScope s__law_record) = true := by kernel_rfl
theorem ck__law_record : mSs T23 n__law_record o__law_record (defScope s__law_record) b__law_record (defBody s__law_record) = true := by kernel_rfl
theorem h__law_record__law_next : Has T23 "_law_next" 2 mNext := ⟨1, 1, by kernel_rfl⟩
theorem p__law_record (ds : List D) (Q : DK) (X : EK) (h : mDrawRec ds Q X) : wpF T23 n__law_record.length b__law_record ds Q X := pl_drawrec h__law_record__law_next ds Q X h
def T25 : Tb := T24.add "_law_audience" ⟨26, 2, dcSs T24 b__law_audience, mDrawAud⟩
theorem G25 : Glb T25 := G24.add
theorem sc__law_audience : scB n__law_audience ["state", "record"] (defScope s__law_audience) = true := by kernel_rfl
theorem ck__law_audience : mSs T24 n__law_audience o__law_audience (defScope s__law_audience) b__law_audience (defBody s__law_audience) = true := by kernel_rfl
theorem h__law_audience__law_next : Has T24 "_law_next" 2 mNext := ⟨1, 1, by kernel_rfl⟩
theorem p__law_audience (ds : List D) (Q : DK) (X : EK) (h : mDrawAud ds Q X) : wpF T24 n__law_audience.length b__law_audience ds Q X := pl_drawaud h__law_audience__law_next ds Q X h
def T26 : Tb := T25.add "_law_told" ⟨27, 4, dcSs T25 b__law_told, mTold⟩
theorem G26 : Glb T26 := G25.add
theorem sc__law_told : scB n__law_told ["kind", "record", "audience", "statement"] (defScope s__law_told) = true := by kernel_rfl
theorem ck__law_told : mSs T25 n__law_told o__law_told (defScope s__law_told) b__law_told (defBody s__law_told) = true := by kernel_rfl
theorem h__law_told_needless_reasons : Has T25 "needless_reasons" 2 mNeedless := ⟨17, dcSs T15 b_needless_reasons, by kernel_rfl⟩
theorem h__law_told_strictest0 : Has0 T25 "strictest" 3 mStrictest := ⟨15, by kernel_rfl⟩
theorem h__law_told_least_grants0 : Has0 T25 "least_grants" 3 mLeast := ⟨16, by kernel_rfl⟩
theorem p__law_told (ds : List D) (Q : DK) (X : EK) (h : mTold ds Q X) : wpF T25 n__law_told.length b__law_told ds Q X := pl_told h__law_told_needless_reasons h__law_told_strictest0 h__law_told_least_grants0 rfl rfl ds Q X h
theorem sc_law : scB n_law ["script"] (defScope s_law) = true := by kernel_rfl
theorem ck_law : mSs T26 n_law o_law (defScope s_law) b_law (defBody s_law) = true := by kernel_rfl
theorem h_law__law_next : Has T26 "_law_next" 2 mNext := ⟨1, 1, by kernel_rfl⟩
theorem h_law__law_stream : Has T26 "_law_stream" 1 mStream := ⟨19, dcSs T17 b__law_stream, by kernel_rfl⟩
theorem h_law__law_record : Has T26 "_law_record" 2 mDrawRec := ⟨25, dcSs T23 b__law_record, by kernel_rfl⟩
theorem h_law__law_audience : Has T26 "_law_audience" 2 mDrawAud := ⟨26, dcSs T24 b__law_audience, by kernel_rfl⟩
theorem h_law__law_record_held : Has T26 "_law_record_held" 2 mLHeld := ⟨24, dcSs T22 b__law_record_held, by kernel_rfl⟩
theorem h_law__law_told : Has T26 "_law_told" 4 mTold := ⟨27, dcSs T25 b__law_told, by kernel_rfl⟩
theorem h_law__law_same : Has T26 "_law_same" 2 mSame := ⟨18, dcSs T16 b__law_same, by kernel_rfl⟩
theorem h_law__law_forces : Has T26 "_law_forces" 3 mLForces := ⟨23, dcSs T21 b__law_forces, by kernel_rfl⟩
theorem h_law__law_meets : Has T26 "_law_meets" 3 mLMeets := ⟨22, dcSs T20 b__law_meets, by kernel_rfl⟩
theorem h_law__law_subsets : Has T26 "_law_subsets" 1 mSubsets := ⟨21, dcSs T19 b__law_subsets, by kernel_rfl⟩
theorem p_law (ds : List D) (Q : DK) (X : EK) (h : mLaw ds Q X) : wpF T26 n_law.length b_law ds Q X := pl_law ⟨G26, h_law__law_next, h_law__law_stream, h_law__law_record, h_law__law_audience, h_law__law_record_held, h_law__law_told, h_law__law_same, h_law__law_forces, h_law__law_meets, h_law__law_subsets⟩ ds Q X h
theorem cost : dcSs T26 b_law ≤ big := Nat.le_of_ble_eq_true (by kernel_rfl)
end DL

/-! S1: each def keeps its promise -/
namespace DL
open PySem PySem.Spec PyProof.Rows L2
section
variable {P : Program} {w : World} {K : PySem.W.Frag} {h : Heap} {mg : Str → Option Value} (X : K.In h) (G : h.Ns mainGlobals mg) (c : He.SaysD faH fnH K) (ex : exH K = true) (base : Heap)
include X G c ex
theorem err_ok : ErrOk P w K mg base := by
  obtain ⟨fd, F⟩ := F__law_error c
  obtain ⟨e0, k⟩ := and2 (and2 ex).1
  obtain ⟨e1, k⟩ := and2 k
  obtain ⟨e2, e3⟩ := and2 k
  exact err_fn F (by kernel_rfl) (by kernel_rfl) (F.bindsN fun _ _ _ _ _ _ us hl => match us, hl with | [_], _ => rfl) F.kp (g__law_error X G c) (f_isinstance X G c) (f_sum X G c) (f_int X G c)
    (g_NotAllowed X G c) (g_TooLarge X G c) (g_Missing X G c) (g_BadPaper X G c) (g_BadForm X G c) (errC_of e0).1 (errC_of e1).1 (errC_of e2).1 (errC_of e3).1
theorem glob_ok (x : Str) (d : D) (e : globH x = some d) : ∃ u v, mg x = some u ∧ RelV v u ∧ ∀ A H, Rep K A H d v := by
  have num : ∀ {n : Int}, (∃ t, mg x = some (.int n t)) → ∃ u v, mg x = some u ∧ RelV v u ∧ ∀ A H, Rep K A H (.int n) v := fun ⟨t, e⟩ => ⟨_, .int _, e, ⟨t, rfl⟩, fun _ _ => rfl⟩
  have txt : ∀ {n : Str}, (∃ t, mg x = some (.str n t)) → ∃ u v, mg x = some u ∧ RelV v u ∧ ∀ A H, Rep K A H (.str n) v := fun ⟨t, e⟩ => ⟨_, .str _, e, ⟨t, rfl⟩, fun _ _ => rfl⟩
  unfold globH at e
  split at e
  · rename_i z; cases e; subst z
    exact ⟨_, .ref _, g_strictest X G c, rfl, fun _ _ => rfl⟩
  split at e
  · rename_i z; cases e; subst z
    exact ⟨_, .ref _, g_least_grants X G c, rfl, fun _ _ => rfl⟩
  unfold globC at e

  split at e
  · rename_i z; cases e; subst z
    exact num (g_MAX_STATEMENTS X G c)
  split at e
  · rename_i z; cases e; subst z
    exact num (g_MAX_REASONS X G c)
  split at e
  · rename_i z; cases e; subst z
    exact num (g_MAX_FORCE X G c)
  split at e
  · rename_i z; cases e; subst z
    exact num (g_ENOUGH X G c)
  split at e
  · rename_i z; cases e; subst z
    exact num (g_MARGIN X G c)
  split at e
  · rename_i z; cases e; subst z
    exact num (g_DOUBT X G c)
  split at e
  · rename_i z; cases e; subst z
    exact txt (g_FIRST X G c)
  split at e
  · rename_i z; cases e; subst z
    exact txt (g_SIGNS X G c)
  split at e
  · rename_i z; cases e; subst z
    exact ⟨_, .ref _, g_STANDARDS X G c, rfl, fun A H => ⟨_, _, rfl, fun H => He.tupB_ok (and2 ex).2 H, ⟨_, _, rfl, rfl, _, _, rfl, rfl, _, _, rfl, rfl, _, _, rfl, rfl, rfl⟩⟩⟩
  cases e
theorem exc_ok (x : Str) (e : excH x = true) : ExcD K mg x := by
  unfold excH at e
  rcases Bool.or_eq_true_iff.mp e with e | e
  · rcases Bool.or_eq_true_iff.mp e with e | e
    · rcases Bool.or_eq_true_iff.mp e with e | e
      · have z := of_decide_eq_true e; subst z; exact x_NotAllowed X G c
      · have z := of_decide_eq_true e; subst z; exact x_TooLarge X G c
    · have z := of_decide_eq_true e; subst z; exact x_Missing X G c
  · have z := of_decide_eq_true e; subst z; exact x_BadPaper X G c
theorem free_all (f : BF) : mg (bfName f) = none := by
  cases f <;> first
    | exact f_len X G c | exact f_all X G c | exact f_any X G c | exact f_sum X G c | exact f_max X G c | exact f_min X G c | exact f_abs X G c | exact f_int X G c | exact f_str X G c | exact f_repr X G c
    | exact f_sorted X G c | exact f_list X G c | exact f_tuple X G c | exact f_set X G c | exact f_range X G c | exact f_enumerate X G c | exact f_zip X G c | exact f_dict X G c | exact f_isinstance X G c
theorem tk0 : TOk P w K mg base T0 1 :=
  ⟨fun f e z => (by cases (show (none : Option Ent) = some e from z)), glob_ok X G c ex, exc_ok X G c ex, free_all X G c ex, f_set X G c, f_range X G c, f_enumerate X G c, f_zip X G c, f_dict X G c,
    fun _ => ⟨Nat.le_refl 1, err_ok X G c ex base, g_SayError X G c, exm_of (and2 ex).1⟩⟩
theorem tk1 : TOk P w K mg base T1 2 := by
  obtain ⟨fd, F⟩ := F_is_claim c
  exact fn_add (tk0 X G c ex base) F (g_is_claim X G c) n_is_claim o_is_claim b_is_claim ["text"] mClaim (F.bindsN fun _ _ _ _ _ _ us hl => match us, hl with | [_], _ => rfl) sc_is_claim ck_is_claim (by kernel_rfl) p_is_claim
theorem tk2 : TOk P w K mg base T2 3 := by
  obtain ⟨fd, F⟩ := F_rising c
  exact fn_add (tk1 X G c ex base) F (g_rising X G c) n_rising o_rising b_rising ["row"] mRising (F.bindsN fun _ _ _ _ _ _ us hl => match us, hl with | [_], _ => rfl) sc_rising ck_rising (by kernel_rfl) p_rising
theorem tk3 : TOk P w K mg base T3 4 := by
  obtain ⟨fd, F⟩ := F_check_reason c
  exact fn_add (tk2 X G c ex base) F (g_check_reason X G c) n_check_reason o_check_reason b_check_reason ["statements", "reason"] mReason (F.bindsN fun _ _ _ _ _ _ us hl => match us, hl with | [_, _], _ => rfl) sc_check_reason ck_check_reason (by kernel_rfl) p_check_reason
theorem tk4 : TOk P w K mg base T4 5 := by
  obtain ⟨fd, F⟩ := F_in_turn c
  exact (tk3 X G c ex base).add (e := ⟨5, 1, 0, mTurnL⟩) (ps := ["record"]) rfl (Nat.le_refl _) ((turn_fn (tk3 X G c ex base) F sc_in_turn tb_in_turn ck_in_turn (by kernel_rfl)).imp (spOf_imp pl_turn)) (g_in_turn X G c) F.kp (F.bindsN fun _ _ _ _ _ _ us hl => match us, hl with | [_], _ => rfl)
theorem tk5 : TOk P w K mg base T5 6 := by
  obtain ⟨fd, F⟩ := F_check_record c
  exact fn_add (tk4 X G c ex base) F (g_check_record X G c) n_check_record o_check_record b_check_record ["record"] mRecord (F.bindsN fun _ _ _ _ _ _ us hl => match us, hl with | [_], _ => rfl) sc_check_record ck_check_record (by kernel_rfl) p_check_record
theorem tk6 : TOk P w K mg base T6 7 := by
  obtain ⟨fd, F⟩ := F_check_audience c
  exact fn_add (tk5 X G c ex base) F (g_check_audience X G c) n_check_audience o_check_audience b_check_audience ["record", "audience"] mAudience (F.bindsN fun _ _ _ _ _ _ us hl => match us, hl with | [_, _], _ => rfl) sc_check_audience ck_check_audience (by kernel_rfl) p_check_audience
theorem tk7 : TOk P w K mg base T7 8 := by
  obtain ⟨fd, F⟩ := F_check_heard c
  exact fn_add (tk6 X G c ex base) F (g_check_heard X G c) n_check_heard o_check_heard b_check_heard ["record", "audience"] mHeard (F.bindsN fun _ _ _ _ _ _ us hl => match us, hl with | [_, _], _ => rfl) sc_check_heard ck_check_heard (by kernel_rfl) p_check_heard
theorem tk8 : TOk P w K mg base T8 9 := by
  obtain ⟨fd, F⟩ := F_meets c
  exact fn_add (tk7 X G c ex base) F (g_meets X G c) n_meets o_meets b_meets ["standard", "best"] mMeets (F.bindsN fun _ _ _ _ _ _ us hl => match us, hl with | [_, _], _ => rfl) sc_meets ck_meets (by kernel_rfl) p_meets
theorem tk9 : TOk P w K mg base T9 10 := by
  obtain ⟨fd, F⟩ := F_applies c
  exact fn_add (tk8 X G c ex base) F (g_applies X G c) n_applies o_applies b_applies ["reason", "held"] mApplies (F.bindsN fun _ _ _ _ _ _ us hl => match us, hl with | [_, _], _ => rfl) sc_applies ck_applies (by kernel_rfl) p_applies
theorem tk10 : TOk P w K mg base T10 11 := by
  obtain ⟨fd, F⟩ := F_forces c
  exact fn_add (tk9 X G c ex base) F (g_forces X G c) n_forces o_forces b_forces ["record", "held", "statement"] mForces (F.bindsN fun _ _ _ _ _ _ us hl => match us, hl with | [_, _, _], _ => rfl) sc_forces ck_forces (by kernel_rfl) p_forces
theorem tk11 : TOk P w K mg base T11 12 := by
  obtain ⟨fd, F⟩ := F_known_held c
  exact fn_add (tk10 X G c ex base) F (g_known_held X G c) n_known_held o_known_held b_known_held ["record", "audience"] mHeld (F.bindsN fun _ _ _ _ _ _ us hl => match us, hl with | [_, _], _ => rfl) sc_known_held ck_known_held (by kernel_rfl) p_known_held
theorem tk12 : TOk P w K mg base T12 13 := by
  obtain ⟨fd, F⟩ := F_check_statement c
  exact fn_add (tk11 X G c ex base) F (g_check_statement X G c) n_check_statement o_check_statement b_check_statement ["record", "statement"] mStatement (F.bindsN fun _ _ _ _ _ _ us hl => match us, hl with | [_, _], _ => rfl) sc_check_statement ck_check_statement (by kernel_rfl) p_check_statement
theorem tk13 : TOk P w K mg base T13 14 := by
  obtain ⟨fd, F⟩ := F_weighed c
  exact fn_add (tk12 X G c ex base) F (g_weighed X G c) n_weighed o_weighed b_weighed ["record", "audience", "statement"] mWeighed (F.bindsN fun _ _ _ _ _ _ us hl => match us, hl with | [_, _, _], _ => rfl) sc_weighed ck_weighed (by kernel_rfl) p_weighed
theorem tk14 : TOk P w K mg base T14 15 := by
  obtain ⟨fd, F⟩ := F_strictest c
  exact fn_add (tk13 X G c ex base) F (g_strictest X G c) n_strictest o_strictest b_strictest ["record", "audience", "statement"] mStrictest (F.bindsN fun _ _ _ _ _ _ us hl => match us, hl with | [_, _, _], _ => rfl) sc_strictest ck_strictest (by kernel_rfl) p_strictest
theorem tk15 : TOk P w K mg base T15 16 := by
  obtain ⟨fd, F⟩ := F_least_grants c
  exact fn_add (tk14 X G c ex base) F (g_least_grants X G c) n_least_grants o_least_grants b_least_grants ["record", "audience", "statement"] mLeast (F.bindsN fun _ _ _ _ _ _ us hl => match us, hl with | [_, _, _], _ => rfl) sc_least_grants ck_least_grants (by kernel_rfl) p_least_grants
theorem tk16 : TOk P w K mg base T16 17 := by
  obtain ⟨fd, F⟩ := F_needless_reasons c
  exact fn_add (tk15 X G c ex base) F (g_needless_reasons X G c) n_needless_reasons o_needless_reasons b_needless_reasons ["record", "audience"] mNeedless (F.bindsN fun _ _ _ _ _ _ us hl => match us, hl with | [_, _], _ => rfl) sc_needless_reasons ck_needless_reasons (by kernel_rfl) p_needless_reasons
theorem tk17 : TOk P w K mg base T17 18 := by
  obtain ⟨fd, F⟩ := F__law_same c
  exact fn_add (tk16 X G c ex base) F (g__law_same X G c) n__law_same o__law_same b__law_same ["told", "due"] mSame (F.bindsN fun _ _ _ _ _ _ us hl => match us, hl with | [_, _], _ => rfl) sc__law_same ck__law_same (by kernel_rfl) p__law_same
theorem tk18 : TOk P w K mg base T18 19 := by
  obtain ⟨fd, F⟩ := F__law_stream c
  exact fn_add (tk17 X G c ex base) F (g__law_stream X G c) n__law_stream o__law_stream b__law_stream ["script"] mStream (F.bindsN fun _ _ _ _ _ _ us hl => match us, hl with | [_], _ => rfl) sc__law_stream ck__law_stream (by kernel_rfl) p__law_stream
theorem tk19 : TOk P w K mg base T19 20 := by
  obtain ⟨fd, F⟩ := F__law_next c
  exact (tk18 X G c ex base).add (e := ⟨1, 2, 1, mNext⟩) (ps := ["state", "many"]) rfl (by decide) (next_fn F (by kernel_rfl) (by kernel_rfl) (f_len X G c) (f_int X G c)) (g__law_next X G c) F.kp (F.bindsN fun _ _ _ _ _ _ us hl => match us, hl with | [_, _], _ => rfl)
theorem tk20 : TOk P w K mg base T20 21 := by
  obtain ⟨fd, F⟩ := F__law_subsets c
  exact fn_add (tk19 X G c ex base) F (g__law_subsets X G c) n__law_subsets o__law_subsets b__law_subsets ["claims"] mSubsets (F.bindsN fun _ _ _ _ _ _ us hl => match us, hl with | [_], _ => rfl) sc__law_subsets ck__law_subsets (by kernel_rfl) p__law_subsets
theorem tk21 : TOk P w K mg base T21 22 := by
  obtain ⟨fd, F⟩ := F__law_meets c
  exact fn_add (tk20 X G c ex base) F (g__law_meets X G c) n__law_meets o__law_meets b__law_meets ["word", "pro", "con"] mLMeets (F.bindsN fun _ _ _ _ _ _ us hl => match us, hl with | [_, _, _], _ => rfl) sc__law_meets ck__law_meets (by kernel_rfl) p__law_meets
theorem tk22 : TOk P w K mg base T22 23 := by
  obtain ⟨fd, F⟩ := F__law_forces c
  exact fn_add (tk21 X G c ex base) F (g__law_forces X G c) n__law_forces o__law_forces b__law_forces ["record", "held", "statement"] mLForces (F.bindsN fun _ _ _ _ _ _ us hl => match us, hl with | [_, _, _], _ => rfl) sc__law_forces ck__law_forces (by kernel_rfl) p__law_forces
theorem tk23 : TOk P w K mg base T23 24 := by
  obtain ⟨fd, F⟩ := F__law_record_held c
  exact fn_add (tk22 X G c ex base) F (g__law_record_held X G c) n__law_record_held o__law_record_held b__law_record_held ["record", "audience"] mLHeld (F.bindsN fun _ _ _ _ _ _ us hl => match us, hl with | [_, _], _ => rfl) sc__law_record_held ck__law_record_held (by kernel_rfl) p__law_record_held
theorem tk24 : TOk P w K mg base T24 25 := by
  obtain ⟨fd, F⟩ := F__law_record c
  exact fn_add (tk23 X G c ex base) F (g__law_record X G c) n__law_record o__law_record b__law_record ["state", "most"] mDrawRec (F.bindsN fun _ _ _ _ _ _ us hl => match us, hl with | [_, _], _ => rfl) sc__law_record ck__law_record (by kernel_rfl) p__law_record
theorem tk25 : TOk P w K mg base T25 26 := by
  obtain ⟨fd, F⟩ := F__law_audience c
  exact fn_add (tk24 X G c ex base) F (g__law_audience X G c) n__law_audience o__law_audience b__law_audience ["state", "record"] mDrawAud (F.bindsN fun _ _ _ _ _ _ us hl => match us, hl with | [_, _], _ => rfl) sc__law_audience ck__law_audience (by kernel_rfl) p__law_audience
theorem tk26 : TOk P w K mg base T26 27 := by
  obtain ⟨fd, F⟩ := F__law_told c
  exact fn_add (tk25 X G c ex base) F (g__law_told X G c) n__law_told o__law_told b__law_told ["kind", "record", "audience", "statement"] mTold (F.bindsN fun _ _ _ _ _ _ us hl => match us, hl with | [_, _, _, _], _ => rfl) sc__law_told ck__law_told (by kernel_rfl) p__law_told
end
end DL

/-! S2: the end -/
namespace DL
open PySem PySem.Spec PyProof.Rows L2
theorem facts {P : Program} {w : World} {K : PySem.W.Frag} {h : Heap} {mg : Str → Option Value} {f : Addr} (X : K.In h) (G : h.Ns mainGlobals mg) (hfa : mg ("law" : Str) = some (.ref f)) (c : He.SaysD faH fnH K) (ex : exH K = true) :
    ∃ fd : FuncData, (∀ (s : Shared) (v : Value), BindsTo s fd ⟨[v], []⟩ [("script", v)]) ∧ ∀ base : Heap, K.In base → base.Ns mainGlobals mg → FnG P w K mg base 28 f fd ["script"] (spOf K 1 (dcSs T26 b_law) mLaw) := by
  obtain ⟨fd, F⟩ := F_law c
  have e := hfa.symm.trans (g_law X G c)
  cases e
  have b := FunD.bindsA (ps := ["script"]) F fun _ _ _ _ _ _ us hl => match us, hl with | [_], _ => rfl
  exact ⟨fd, fun s v => b s [v] rfl, fun base _ _ => (fn_rule (tk26 X G c ex base) F sc_law ck_law (by kernel_rfl)).imp (spOf_imp p_law)⟩
end DL
open PySem PySem.W PySem.Calls PyProof.Rows
theorem PySem.Challenge.cw_sayagainst_k60_standards_and_least_grant_holds : PySem.Challenge.rw_sayagainst_k60_standards_and_least_grant.Holds := by
  w_on; o_law
  refine HandSHeadRun.head_any (r := OpenLaw.row PySem.Challenge.rw_sayagainst_k60_standards_and_least_grant) (q := view (OpenLaw.row PySem.Challenge.rw_sayagainst_k60_standards_and_least_grant).prog [46]) (H := DL.hkH) (ob := DL.obH) (M := 6000) (loose := DL.looseH) (d := HandSHeadRun.topDef (OpenLaw.row PySem.Challenge.rw_sayagainst_k60_standards_and_least_grant).prog 46) (kwd := []) DL.obH_eq
    (by kernel_rfl) (fun s => by kernel_rfl) DL.runH (by kernel_rfl) (by kernel_rfl) (by kernel_rfl) (by rfl) (by first | assumption | decide +kernel) (by decide +kernel) ⟨rfl, rfl, rfl, rfl, rfl, by decide +kernel⟩ ?hw ?hc
  case hw => w_witness2
  case hc =>
    refine DL.walkM (l := PySem.Challenge.rw_sayagainst_k60_standards_and_least_grant) (n := 63) (k := 28) (c := DL.dcSs DL.T26 DL.b_law) (x := "script") (m := DL.mLaw) rfl (by decide) (by kernel_rfl) ⟨rfl, by decide, by decide⟩ DL.cost ?F fun ns hl => ⟨ns, rfl, hl, rfl⟩
    intro w mg fa h Y G hmg0
    obtain ⟨K, KX, c, ex⟩ := Y
    have hmg : mg ("law" : PySem.Str) = some (.ref fa) := by
      have e : (HandSHeadRun.topDef (OpenLaw.row PySem.Challenge.rw_sayagainst_k60_standards_and_least_grant).prog 46).name = ("law" : PySem.Str) := by kernel_rfl
      rw [← e]
      exact hmg0
    obtain ⟨fd, hb, hF⟩ := DL.facts (P := (PySem.Challenge.rw_sayagainst_k60_standards_and_least_grant).prog) (w := w) KX G hmg c ex
    exact ⟨K, fd, KX, hb, hF⟩
